import PyProof.Rows.All
import Wide.All
import OpenK.AllK
import Wide.FinOn
import HandS.ForMost
import HandS.ForExc
import HandS.TupAny
import HandS.IsInst
import HandS.ExcInit
import HandS.TryMany
import HandS.StrMore
import HandS.Style
import KE.GoesEnum
import KE.GoesMore
import HandS.CallSlots
import KE.KExcIs
import HandS.Small
import HandS.ExcIs
import HandS.OwnEq
import HandS.IterVal
import HandS.OwnIter
import HandS.Replace
import HandS.Strs
import PySem.Challenge.RW_standingrows_k09_rounds
set_option Elab.async false
set_option linter.all false
set_option maxRecDepth 100000
set_option maxHeartbeats 4000000
/-! DL, ahead of all: new tuples, tracked as the objects that they are (so that they are known to have no dict). -/
namespace DL
open PySem L2
section
variable {X : Cx} {pins : List (Addr × Obj)} {σ : St} {H : Hp} {s : Shared}
abbrev tupO (its : List Value) : Obj := { cls := .type "tuple", data := .seq its.toArray }
/-- what new tuples are asked for -/
def NewT (H : Hp) (xs : List V) (Q : VK) : Prop := ∀ (p : Addr) (o : Obj), H p = Option.none → o.dict = Option.none → o.cls = .type "tuple" → Q (.ref p) (upd H p (.frz o (.tup xs)))
theorem layX {xs : List V} {its : List Value} {Q : VK} (I : Inv X pins σ H s) (r : Vals xs its) (hz : xs.length ≤ sizeLine) (q : NewT H xs Q) : EP X pins σ Q (.ref s.heap.objs.size) { s with heap := s.heap.push (tupO its) } := by
  have hf : H s.heap.objs.size = Option.none := I.hok.fresh (Nat.le_refl _)
  have ob : ObjOk X.prog X.w (upd H s.heap.objs.size (.frz (tupO its) (.tup xs))) (s.heap.push (tupO its)) s.heap.objs.size (.frz (tupO its) (.tup xs)) :=
    ⟨Heap.get?_push_size _ rfl, hz, its, r, PyProof.Rows.IsTup.new _ _⟩
  have J := Inv.laid (t' := s.toks) (h' := s.heap.push (tupO its)) I (fun b u e => Heap.get?_push_of_some _ e) (Nat.le_refl s.heap.objs.size) ob
  exact ⟨.ref s.heap.objs.size, _, J, rfl, q _ (tupO its) hf rfl rfl⟩
/-- t + u -/
def rCatX (K : PySem.W.Frag) : R2 := fun x y H Q => ∃ a b xs ys, x = .ref a ∧ y = .ref b ∧ SqT K H a xs ∧ SqT K H b ys ∧ xs.length + ys.length ≤ sizeLine ∧
  (xs = [] → Q y H) ∧ (xs ≠ [] → ys = [] → Q x H) ∧ (xs ≠ [] → ys ≠ [] → NewT H (xs ++ ys) Q)
theorem op_catX : OpR X (binaryOp .Add) (rCatX X.K) := by
  intro pins s σ H x y v u Q I rx ry h
  obtain ⟨a, b, xs, ys, rfl, rfl, ha, hb, hz, q0, q1, q2⟩ := h
  obtain rfl : v = Value.ref a := rx
  obtain rfl : u = Value.ref b := ry
  obtain ⟨ia, ra, pa, _⟩ := I.tuple ha
  obtain ⟨ib, rb, pb, _⟩ := I.tuple hb
  rcases Classical.em (xs = []) with e | hx
  · subst e
    cases ra
    exact cat_tup0 pa pb ⟨.ref b, H, I, rfl, q0 rfl⟩
  · have la := ra.length
    have lb := rb.length
    have hia : ia ≠ [] := fun z => hx (List.length_eq_zero_iff.mp (by rw [la, z]; rfl))
    refine HT.cat_tup pa pb hia (fun z => ⟨.ref a, H, I, rfl, q1 hx (List.length_eq_zero_iff.mp (by rw [lb, z]; rfl))⟩) (fun z => ?_) (by omega)
    have hy : ys ≠ [] := fun e => z (List.length_eq_zero_iff.mp (by rw [← lb, e]; rfl))
    exact layX I (ra.append rb) (by rw [List.length_append]; exact hz) (q2 hx hy)
/-- t[lo:hi] -/
def rSlX (K : PySem.W.Frag) : V → Option Int → Option Int → Hp → VK → Prop := fun x lo hi H Q => ∃ a xs, x = .ref a ∧ SqT K H a xs ∧
  ((HT.sIx xs.length 0 lo = 0 ∧ HT.sIx xs.length xs.length hi = xs.length) → Q x H) ∧ (¬ (HT.sIx xs.length 0 lo = 0 ∧ HT.sIx xs.length xs.length hi = xs.length) → NewT H (cutV xs lo hi) Q)
theorem sl_tupX : SlR X (rSlX X.K) := by
  intro pins s σ H x v vl vu lo hi sl Q I rx hs pl pu h
  obtain ⟨a, xs, rfl, hx, q1, q2⟩ := h
  obtain rfl : v = Value.ref a := rx
  obtain ⟨its, r, ht, hz⟩ := I.tuple hx
  have hn : its.toArray.size = xs.length := by rw [List.size_toArray, r.length]
  refine ⟨"tuple", _, PyProof.Rows.slot_tuple_getitem.lookup, ht.typeIs, ?_⟩
  rcases Classical.em (HT.sIx xs.length 0 lo = 0 ∧ HT.sIx xs.length xs.length hi = xs.length) with w | w
  · exact getItem_tuple_whole ht hs pl pu (by rw [hn]; exact w) ⟨.ref a, H, I, rfl, q1 w⟩
  · refine HT.getItem_tuple_cut ht hs pl pu (by rw [hn]; exact w) ?_ (by rw [hn]; exact hz)
    rw [hn]
    exact layX I ((r.drop _).take _) (Nat.le_trans (cutV_length xs lo hi) hz) (q2 w)
/-- (a, b, ..) -/
def tTupX (t : TA) : TE := fun σ H Q => t σ H fun xs H1 => xs.length ≤ sizeLine ∧ NewT H1 xs Q
theorem pe_tupX {es : List Expr} {t : TA} {x1} {pos : Pos} (h : PA X es t) : PE X (.Tuple es x1 pos) (tTupX t) := by
  refine ⟨fun pins s σ H Q I hq => ?_⟩
  refine wpAny_Tuple_spliced (thn (h.run pos pins s σ H _ I hq) fun us s1 hh => ?_)
  obtain ⟨xs, H1, I1, r, z, q⟩ := hh
  exact ⟨by rw [← r.length]; exact z, layX I1 r z q⟩
/-- tuple(xs) -/
theorem call_tupX : CallR X (.type "tuple") (fun xs H Q => ∃ p ys, xs = [.ref p] ∧ ((SqL X.K H p ys ∧ NewT H ys Q) ∨ (SqT X.K H p ys ∧ Q (.ref p) H))) := by
  intro pins s σ H xs us Q I r h
  obtain ⟨p, ys, rfl, h⟩ := h
  obtain ⟨u, rfl, rx⟩ := vals1 r
  obtain rfl : u = Value.ref p := rx
  rcases h with ⟨hq, q⟩ | ⟨hq, q⟩
  · obtain ⟨its, r', pl, hz⟩ := I.list hq
    have e := r'.length
    refine call_tuple_list pl.isList (fun h' kp => ?_) (by simp only [List.size_toArray]; omega)
    exact layX (s := { s with heap := h' }) (I.kept (t' := s.toks) kp) r' hz q
  · obtain ⟨its, r', pl, hz⟩ := I.tuple hq
    exact call_tuple_same pl ⟨.ref p, H, I, rfl, q⟩
end
end DL
/-! DL: pure data over the hand layer. Values are data (DV); a frame's names hold data, lists of their own, or objects of their own (Ent). -/
namespace DL
open PySem L2

inductive DV where
  | non | bl (b : Bool) | int (i : Int) | str (x : Str) | ty (n : String) | cst (a : Addr)
  | scr (ns : List Int)
  | lst (ds : List DV) | tup (x : Bool) (ds : List DV) | obj (C : Addr) (fs : List (Str × DV))

/-- the tuple at a is known to have no dict -/
def Bare (K : PySem.W.Frag) (B : Hp) (a : Addr) : Prop := (∃ o u, B a = some (.frz o (.tup u)) ∧ o.dict = Option.none ∧ o.cls = .type "tuple") ∨ ∃ o, K.lookup a = some o ∧ o.dict = Option.none ∧ o.cls = .type "tuple"
theorem Bare.mono {K : PySem.W.Frag} {B B' : Hp} {a : Addr} (e : Same B B') (h : Bare K B a) : Bare K B' a := by
  rcases h with ⟨o, u, h1, h2⟩ | h
  · exact .inl ⟨o, u, e _ _ h1, h2⟩
  · exact .inr h

mutual
inductive Den (K : PySem.W.Frag) (B : Hp) : V → DV → Prop
  | non : Den K B .non .non
  | bl (b : Bool) : Den K B (.bl b) (.bl b)
  | int (i : Int) : Den K B (.int i) (.int i)
  | str (x : Str) : Den K B (.str x) (.str x)
  | ty (n : String) : Den K B (.ty n) (.ty n)
  | cst (a : Addr) : Den K B (.ref a) (.cst a)
  | scr {a : Addr} {ns : List Int} (h : SqL K B a (ns.map V.int)) : Den K B (.ref a) (.scr ns)
  | lst {a : Addr} {xs : List V} {ds : List DV} (h : B a = some (.lst xs)) (t : DenL K B xs ds) : Den K B (.ref a) (.lst ds)
  | tup {a : Addr} {xs : List V} {x : Bool} {ds : List DV} (h : SqT K B a xs) (b : x = true → Bare K B a) (t : DenL K B xs ds) : Den K B (.ref a) (.tup x ds)
  | obj {a C dx : Addr} {fs : List (Str × V)} {gs : List (Str × DV)} (h : B a = some (.ins C dx fs)) (t : DenF K B fs gs) : Den K B (.ref a) (.obj C gs)
inductive DenL (K : PySem.W.Frag) (B : Hp) : List V → List DV → Prop
  | nil : DenL K B [] []
  | cons {v : V} {d : DV} {vs : List V} {ds : List DV} (h : Den K B v d) (t : DenL K B vs ds) : DenL K B (v :: vs) (d :: ds)
inductive DenF (K : PySem.W.Frag) (B : Hp) : List (Str × V) → List (Str × DV) → Prop
  | nil : DenF K B [] []
  | cons {f : Str} {v : V} {d : DV} {vs : List (Str × V)} {ds : List (Str × DV)} (h : Den K B v d) (t : DenF K B vs ds) : DenF K B ((f, v) :: vs) ((f, d) :: ds)
end

theorem Same.seqT {K : PySem.W.Frag} {H H' : Hp} {a : Addr} {xs : List V} (e : Same H H') (h : SqT K H a xs) : SqT K H' a xs := by
  rcases h with (h | ⟨o, h⟩) | h
  · exact .inl (.inl (e _ _ h))
  · exact .inl (.inr ⟨o, e _ _ h⟩)
  · exact .inr h
section
variable {K : PySem.W.Frag} {B B' : Hp}
mutual
theorem Den.mono (e : Same B B') : ∀ {v : V} {d : DV}, Den K B v d → Den K B' v d
  | _, _, .non => .non
  | _, _, .bl b => .bl b
  | _, _, .int i => .int i
  | _, _, .str x => .str x
  | _, _, .ty n => .ty n
  | _, _, .cst a => .cst a
  | _, _, .scr h => .scr (e.seq h)
  | _, _, .lst h t => .lst (e _ _ h) (DenL.mono e t)
  | _, _, .tup h b t => .tup (Same.seqT e h) (fun z => (b z).mono e) (DenL.mono e t)
  | _, _, .obj h t => .obj (e _ _ h) (DenF.mono e t)
theorem DenL.mono (e : Same B B') : ∀ {v : List V} {d : List DV}, DenL K B v d → DenL K B' v d
  | _, _, .nil => .nil
  | _, _, .cons h t => .cons (Den.mono e h) (DenL.mono e t)
theorem DenF.mono (e : Same B B') : ∀ {v : List (Str × V)} {d : List (Str × DV)}, DenF K B v d → DenF K B' v d
  | _, _, .nil => .nil
  | _, _, .cons h t => .cons (Den.mono e h) (DenF.mono e t)
end
theorem DenL.len : ∀ {v : List V} {d : List DV}, DenL K B v d → v.length = d.length
  | _, _, .nil => rfl
  | _, _, .cons _ t => by rw [List.length_cons, List.length_cons, DenL.len t]
theorem DenL.get : ∀ {v : List V} {d : List DV} {i : Nat} {x : DV}, DenL K B v d → d[i]? = some x → ∃ u, v[i]? = some u ∧ Den K B u x
  | _, _, _, _, .nil, e => by simp at e
  | _, _, 0, _, .cons r _, e => by simp at e; subst e; exact ⟨_, rfl, r⟩
  | _, _, i + 1, x, .cons _ t, e => by
    obtain ⟨u, h1, h2⟩ := DenL.get (i := i) (x := x) t (by simpa using e)
    exact ⟨u, by simpa using h1, h2⟩
theorem DenL.getV : ∀ {v : List V} {d : List DV} {i : Nat} {u : V}, DenL K B v d → v[i]? = some u → ∃ x, d[i]? = some x ∧ Den K B u x
  | _, _, _, _, .nil, e => by simp at e
  | _, _, 0, _, .cons r _, e => by simp at e; subst e; exact ⟨_, rfl, r⟩
  | _, _, i + 1, u, .cons _ t, e => by
    obtain ⟨x, h1, h2⟩ := DenL.getV (i := i) (u := u) t (by simpa using e)
    exact ⟨x, by simpa using h1, h2⟩
theorem DenL.append : ∀ {v : List V} {d : List DV} {v' : List V} {d' : List DV}, DenL K B v d → DenL K B v' d' → DenL K B (v ++ v') (d ++ d')
  | _, _, _, _, .nil, s => s
  | _, _, _, _, .cons r t, s => .cons r (DenL.append t s)
theorem DenL.take : ∀ {v : List V} {d : List DV} (n : Nat), DenL K B v d → DenL K B (v.take n) (d.take n)
  | _, _, 0, _ => .nil
  | _, _, _ + 1, .nil => .nil
  | _, _, n + 1, .cons r t => .cons r (DenL.take n t)
theorem DenL.drop : ∀ {v : List V} {d : List DV} (n : Nat), DenL K B v d → DenL K B (v.drop n) (d.drop n)
  | _, _, 0, r => r
  | _, _, _ + 1, .nil => .nil
  | _, _, n + 1, .cons _ t => DenL.drop n t
theorem DenL.set {v : V} {d : DV} (r : Den K B v d) : ∀ {vs : List V} {ds : List DV} (i : Nat), DenL K B vs ds → DenL K B (vs.set i v) (ds.set i d)
  | _, _, _, .nil => .nil
  | _, _, 0, .cons _ t => .cons r t
  | _, _, i + 1, .cons q t => .cons q (DenL.set r i t)
theorem DenL.rev : ∀ {v : List V} {d : List DV}, DenL K B v d → DenL K B v.reverse d.reverse
  | _, _, .nil => .nil
  | _, _, .cons r t => by
    rw [List.reverse_cons, List.reverse_cons]
    exact (DenL.rev t).append (.cons r .nil)
theorem DenL.insert {v : V} {d : DV} (r : Den K B v d) {vs : List V} {ds : List DV} (i : Nat) (t : DenL K B vs ds) : DenL K B (vs.take i ++ v :: vs.drop i) (ds.take i ++ d :: ds.drop i) :=
  (t.take i).append (.cons r (t.drop i))
theorem DenL.nil_of {d : List DV} (h : DenL K B [] d) : d = [] := by cases h; rfl
theorem DenL.of_nil {v : List V} (h : DenL K B v []) : v = [] := by cases h; rfl
theorem DenF.get : ∀ {v : List (Str × V)} {d : List (Str × DV)} {f : Str} {x : DV}, DenF K B v d → d.lookup f = some x → ∃ u, v.lookup f = some u ∧ Den K B u x
  | _, _, _, _, .nil, e => by simp [List.lookup] at e
  | _, _, f, x, .cons (f := g) r t, e => by
    rw [List.lookup] at e ⊢
    cases q : f == g with
    | true =>
      simp only [q, Option.some.injEq] at e ⊢
      subst e
      exact ⟨_, rfl, r⟩
    | false =>
      simp only [q] at e ⊢
      exact DenF.get t e
theorem DenF.keys : ∀ {v : List (Str × V)} {d : List (Str × DV)}, DenF K B v d → v.map (·.1) = d.map (·.1)
  | _, _, .nil => rfl
  | _, _, .cons _ t => by rw [List.map_cons, List.map_cons, DenF.keys t]
theorem DenF.len : ∀ {v : List (Str × V)} {d : List (Str × DV)}, DenF K B v d → v.length = d.length
  | _, _, .nil => rfl
  | _, _, .cons _ t => by rw [List.length_cons, List.length_cons, DenF.len t]
end

/-- an exception: its class, its fields -/
structure Xn where
  C : Addr
  fs : List (Str × DV)
/-- what a name holds: nothing known, shared data, a list of the frame's own, an object of the frame's own (__init__'s self), a caught exception -/
inductive Ent where
  | un | sh (d : DV) | ow (ds : List DV) | oo (C : Addr) (fs : List (Str × DV)) | ex (x : Xn)
/-- what an expression gives: shared data, a new list, a view of a name's own list | object, a caught exception -/
inductive R where
  | sh (d : DV) | fr (ds : List DV) | vw (ds : List DV) | vo (C : Addr) (fs : List (Str × DV)) | xn (x : Xn)
def R.d : R → DV
  | .sh d => d
  | .fr ds => .lst ds
  | .vw ds => .lst ds
  | .vo C fs => .obj C fs
  | .xn x => .obj x.C x.fs
/-- no view -/
def R.good : R → Prop
  | .sh _ => True
  | .fr _ => True
  | _ => False
abbrev Env' := List Ent

/-- a frame's constants: the shared part and the heap at its entry, the exception that a suite holds -/
structure Fm where
  B0 : Hp
  H0 : Hp
  cur : Option (Addr × Value × Option Addr) := Option.none
  me : Option Addr := Option.none

/-- the shared part and the heap grow; the shared part by new objects alone -/
structure Gr (B H B' H' : Hp) : Prop where
  b : Same B B'
  s : Same B' H'
  h : Same H H'
  n : ∀ a, H a ≠ Option.none → B' a = B a
section
variable {B H B' H' B2 H2 : Hp}
theorem Gr.refl (s : Same B H) : Gr B H B H := ⟨Same.refl _, s, Same.refl _, fun _ _ => rfl⟩
theorem Gr.trans (a : Gr B H B' H') (c : Gr B' H' B2 H2) : Gr B H B2 H2 := ⟨a.b.trans c.b, c.s, a.h.trans c.h, fun x hx => (c.n x fun z => hx (a.h.free z)).trans (a.n x hx)⟩
/-- a new object that is not shared -/
theorem Gr.new (s : Same B H) {p : Addr} {o : HO} (hp : H p = Option.none) : Gr B H B (upd H p o) :=
  have e : Same H (upd H p o) := fun b o' e => by rw [upd_ne (ne_of_none e hp)]; exact e
  ⟨Same.refl _, s.trans e, e, fun _ _ => rfl⟩
/-- a new object that is shared -/
theorem Gr.newS (s : Same B H) {p : Addr} {o : HO} (hp : H p = Option.none) : Gr B H (upd B p o) (upd H p o) := by
  have hb : B p = Option.none := s.free hp
  have e : Same H (upd H p o) := fun b o' e => by rw [upd_ne (ne_of_none e hp)]; exact e
  have eb : Same B (upd B p o) := fun b o' e => by rw [upd_ne (ne_of_none e hb)]; exact e
  refine ⟨eb, fun b o' q => ?_, e, fun a ha => ?_⟩
  · by_cases hbp : b = p
    · subst hbp; rw [upd_same] at q ⊢; exact q
    · rw [upd_ne hbp] at q ⊢; exact s _ _ q
  · have : a ≠ p := fun z => ha (by rw [z]; exact hp)
    rw [upd_ne this]
end

/-- a value's dict of fields, behind a raise -/
def DenX (K : PySem.W.Frag) (B H : Hp) (cls : Value) (d : Option Addr) (x : Xn) : Prop :=
  cls = .ref x.C ∧ ((x.fs = [] ∧ d = Option.none) ∨ ∃ dd fvs, d = some dd ∧ H dd = some (.xd fvs) ∧ ∀ f y, x.fs.lookup f = some y → ∃ v, fvs.lookup f = some v ∧ Den K B v y)
theorem DenX.mono {K : PySem.W.Frag} {B H B' H' : Hp} {cls : Value} {d : Option Addr} {x : Xn} (h : DenX K B H cls d x) (eb : Same B B') (eh : Same H H') : DenX K B' H' cls d x := by
  obtain ⟨e, h⟩ := h
  refine ⟨e, ?_⟩
  rcases h with h | ⟨dd, fvs, e1, e2, h⟩
  · exact .inl h
  · refine .inr ⟨dd, fvs, e1, eh _ _ e2, fun f y q => ?_⟩
    obtain ⟨v, h1, h2⟩ := h f y q
    exact ⟨v, h1, h2.mono eb⟩

/-- the state: σ, H are as ρ says, over the shared part B -/
structure Rl (K : PySem.W.Frag) (Φ : Fm) (B : Hp) (σ : St) (H : Hp) (ρ : Env') : Prop where
  gr : Gr Φ.B0 Φ.H0 B H
  len : σ.length = ρ.length
  sh : ∀ (i : Nat) d, ρ[i]? = some (.sh d) → ∃ v, σ[i]? = some (some v) ∧ Den K B v d
  ow : ∀ (i : Nat) ds, ρ[i]? = some (.ow ds) → ∃ p vs, σ[i]? = some (some (.ref p)) ∧ H p = some (.lst vs) ∧ DenL K B vs ds ∧ Φ.H0 p = Option.none ∧ B p = Option.none
  oo : ∀ (i : Nat) C fs, ρ[i]? = some (.oo C fs) → ∃ p dx fvs, σ[i]? = some (some (.ref p)) ∧ H p = some (.ins C dx fvs) ∧ DenF K B fvs fs ∧ Φ.H0 p = Option.none ∧ B p = Option.none ∧ Φ.me = some p
  ex : ∀ (i : Nat) x, ρ[i]? = some (.ex x) → ∃ a cls d, Φ.cur = some (a, cls, d) ∧ σ[i]? = some (some (.ref a)) ∧ DenX K B H cls d x
  o1 : ∀ (i j : Nat) C fs C' fs', ρ[i]? = some (.oo C fs) → ρ[j]? = some (.oo C' fs') → i = j
  ne : ∀ (i j : Nat) p ds es, i ≠ j → ρ[i]? = some (.ow ds) → ρ[j]? = some (.ow es) → σ[i]? = some (some (.ref p)) → σ[j]? = some (some (.ref p)) → False

def DenR (K : PySem.W.Frag) (Φ : Fm) (H0 B H : Hp) (v : V) : R → Prop
  | .sh d => Den K B v d
  | .fr ds => ∃ p vs, v = .ref p ∧ H0 p = Option.none ∧ H p = some (.lst vs) ∧ B p = Option.none ∧ DenL K B vs ds
  | .vw ds => ∃ p vs, v = .ref p ∧ H p = some (.lst vs) ∧ DenL K B vs ds ∧ Φ.H0 p = Option.none ∧ B p = Option.none
  | .vo C fs => ∃ p dx fvs, v = .ref p ∧ H p = some (.ins C dx fvs) ∧ DenF K B fvs fs
  | .xn x => ∃ a cls d, Φ.cur = some (a, cls, d) ∧ v = .ref a ∧ DenX K B H cls d x
section
variable {K : PySem.W.Frag} {Φ : Fm} {B H B' H' H0 : Hp} {σ : St} {ρ : Env'}
theorem Rl.s (r : Rl K Φ B σ H ρ) : Same B H := r.gr.s
theorem Rl.grow (r : Rl K Φ B σ H ρ) (g : Gr B H B' H') : Rl K Φ B' σ H' ρ where
  gr := r.gr.trans g
  len := r.len
  sh := fun i d e => let ⟨v, e1, h⟩ := r.sh i d e; ⟨v, e1, h.mono g.b⟩
  ow := fun i ds e => by
    obtain ⟨p, vs, e1, e2, h, h0, hb⟩ := r.ow i ds e
    exact ⟨p, vs, e1, g.h _ _ e2, h.mono g.b, h0, (g.n p (by rw [e2]; intro z; cases z)).trans hb⟩
  oo := fun i C fs e => by
    obtain ⟨p, dx, fvs, e1, e2, h, h0, hb, hm⟩ := r.oo i C fs e
    exact ⟨p, dx, fvs, e1, g.h _ _ e2, h.mono g.b, h0, (g.n p (by rw [e2]; intro z; cases z)).trans hb, hm⟩
  ex := fun i x e => let ⟨a, cls, d, e1, e2, h⟩ := r.ex i x e; ⟨a, cls, d, e1, e2, h.mono g.b g.h⟩
  o1 := r.o1
  ne := r.ne
theorem DenR.grow {v : V} {r : R} (h : DenR K Φ H0 B H v r) (g : Gr B H B' H') : DenR K Φ H0 B' H' v r := by
  cases r with
  | sh d => exact Den.mono g.b h
  | fr ds =>
    obtain ⟨p, vs, e, h0, e2, hb, t⟩ := h
    exact ⟨p, vs, e, h0, g.h _ _ e2, (g.n p (by rw [e2]; intro z; cases z)).trans hb, t.mono g.b⟩
  | vw ds =>
    obtain ⟨p, vs, e, e2, t, h0, hb⟩ := h
    exact ⟨p, vs, e, g.h _ _ e2, t.mono g.b, h0, (g.n p (by rw [e2]; intro z; cases z)).trans hb⟩
  | vo C fs =>
    obtain ⟨p, dx, fvs, e, e2, t⟩ := h
    exact ⟨p, dx, fvs, e, g.h _ _ e2, t.mono g.b⟩
  | xn x =>
    obtain ⟨a, cls, d, e, e2, t⟩ := h
    exact ⟨a, cls, d, e, e2, t.mono g.b g.h⟩
theorem DenR.back {v : V} {r : R} {H1 : Hp} (h : DenR K Φ H1 B H v r) (e : Same H0 H1) : DenR K Φ H0 B H v r := by
  cases r with
  | fr ds =>
    obtain ⟨p, vs, e1, h0, r⟩ := h
    exact ⟨p, vs, e1, e.free h0, r⟩
  | _ => exact h
/-- a value to be read: the outermost object by the heap, what is in it by the shared part -/
def Vw (K : PySem.W.Frag) (B H : Hp) (v : V) : DV → Prop
  | .lst ds => ∃ p vs, v = .ref p ∧ H p = some (.lst vs) ∧ DenL K B vs ds
  | .obj C fs => ∃ p dx fvs, v = .ref p ∧ H p = some (.ins C dx fvs) ∧ DenF K B fvs fs
  | d => Den K B v d
theorem Den.vw {v : V} {d : DV} (h : Den K B v d) (s : Same B H) : Vw K B H v d := by
  cases h with
  | lst h t => exact ⟨_, _, rfl, s _ _ h, t⟩
  | obj h t => exact ⟨_, _, _, rfl, s _ _ h, t⟩
  | non => exact .non
  | bl b => exact .bl b
  | int i => exact .int i
  | str x => exact .str x
  | ty n => exact .ty n
  | cst a => exact .cst a
  | scr h => exact .scr h
  | tup h b t => exact .tup h b t
theorem Vw.grow {v : V} {d : DV} (h : Vw K B H v d) (g : Gr B H B' H') : Vw K B' H' v d := by
  cases d with
  | lst ds => obtain ⟨p, vs, e, e2, t⟩ := h; exact ⟨p, vs, e, g.h _ _ e2, t.mono g.b⟩
  | obj C fs => obtain ⟨p, dx, fvs, e, e2, t⟩ := h; exact ⟨p, dx, fvs, e, g.h _ _ e2, t.mono g.b⟩
  | _ => exact Den.mono g.b h
/-- what an operand may be: not a caught exception -/
def R.val : R → Prop
  | .xn _ => False
  | _ => True
/-- a new list is shared from here on -/
theorem DenR.settle {v : V} {r : R} (g : Gr B H B' H') (h : DenR K Φ H B' H' v r) (hr : r.good) : ∃ B2, Gr B H B2 H' ∧ Same B' B2 ∧ Den K B2 v r.d := by
  cases r with
  | sh d => exact ⟨B', g, Same.refl _, h⟩
  | fr ds =>
    obtain ⟨p, vs, e, h0, e2, hb, t⟩ := h
    have eb : Same B' (upd B' p (.lst vs)) := fun b o q => by rw [upd_ne (ne_of_none q hb)]; exact q
    refine ⟨upd B' p (.lst vs), ⟨g.b.trans eb, fun b o q => ?_, g.h, fun a ha => ?_⟩, eb, ?_⟩
    · by_cases hbp : b = p
      · subst hbp; rw [upd_same] at q; cases q; exact e2
      · rw [upd_ne hbp] at q; exact g.s _ _ q
    · have : a ≠ p := fun z => ha (by rw [z]; exact h0)
      rw [upd_ne this]; exact g.n a ha
    · subst e
      exact .lst upd_same (t.mono eb)
  | _ => exact False.elim hr
/-- .. or read as it is -/
theorem DenR.read {v : V} {r : R} (g : Gr B H B' H') (h : DenR K Φ H B' H' v r) (hr : r.val) : ∃ B2, Gr B H B2 H' ∧ Same B' B2 ∧ Vw K B2 H' v r.d ∧ (r.good → Den K B2 v r.d) := by
  by_cases hg : r.good
  · obtain ⟨B2, g2, e, d⟩ := h.settle g hg
    exact ⟨B2, g2, e, d.vw g2.s, fun _ => d⟩
  · cases r with
    | sh d => exact absurd True.intro hg
    | fr d => exact absurd True.intro hg
    | vw ds => obtain ⟨p, vs, e, e2, t, _⟩ := h; exact ⟨B', g, Same.refl _, ⟨p, vs, e, e2, t⟩, fun z => z.elim⟩
    | vo C fs => exact ⟨B', g, Same.refl _, h, fun z => z.elim⟩
    | xn x => exact False.elim hr
end

/-! ### readings over data -/
abbrev XP := Xn → Prop
abbrev VE := Env' → (R → Prop) → XP → Prop
abbrev VT := Env' → (Bool → Prop) → XP → Prop
abbrev VA := Env' → (List R → Prop) → XP → Prop
structure EndsD where
  nx : Env' → Prop
  rt : R → Prop
  bk : Env' → Prop := fun _ => False
  ct : Env' → Prop := fun _ => False
  ex : Env' → Xn → Prop
abbrev VS := EndsD → Env' → Prop

/-- what is wished of exceptions, and the exception that a suite holds -/
structure WC where
  w : WX
  c : Option (Addr × Value × Option Addr)
/-- the wish about exceptions is met, from B, H on -/
def XOk (K : PySem.W.Frag) (W : WC) (Φ : Fm) (B : Hp) (σ : St) (H : Hp) (Ξ : XP) : Prop := Φ.cur = W.c ∧ ∀ x, Ξ x → ∀ B' H' cls d, Gr B H B' H' → DenX K B' H' cls d x → W.w cls d σ H'
theorem XOk.grow {K : PySem.W.Frag} {W : WC} {Φ : Fm} {B H B' H' : Hp} {σ : St} {Ξ : XP} (h : XOk K W Φ B σ H Ξ) (g : Gr B H B' H') : XOk K W Φ B' σ H' Ξ := ⟨h.1, fun x hx B2 H2 cls d g2 q => h.2 x hx B2 H2 cls d (g.trans g2) q⟩
structure EndsOk (K : PySem.W.Frag) (W : WC) (Φ : Fm) (D : Ends) (D' : EndsD) : Prop where
  cu : Φ.cur = W.c
  nx : ∀ B σ H ρ, Rl K Φ B σ H ρ → D'.nx ρ → D.nx σ H
  bk : ∀ B σ H ρ, Rl K Φ B σ H ρ → D'.bk ρ → D.bk σ H
  ct : ∀ B σ H ρ, Rl K Φ B σ H ρ → D'.ct ρ → D.ct σ H
  rt : ∀ B H v r, Gr Φ.B0 Φ.H0 B H → r.good → DenR K Φ Φ.H0 B H v r → D'.rt r → D.rt v H
  ex : ∀ B σ H ρ x cls d, Rl K Φ B σ H ρ → DenX K B H cls d x → D'.ex ρ x → W.w cls d σ H
theorem EndsOk.xok {K : PySem.W.Frag} {W : WC} {Φ : Fm} {D : Ends} {D' : EndsD} (h : EndsOk K W Φ D D') {B H : Hp} {σ : St} {ρ : Env'} (r : Rl K Φ B σ H ρ) : XOk K W Φ B σ H (D'.ex ρ) :=
  ⟨h.cu, fun x hx B' H' cls d g q => h.ex B' σ H' ρ x cls d (r.grow g) q hx⟩

/-- the hand layer's readings of these -/
def tD (K : PySem.W.Frag) (W : WC) (t : VE) : TE := fun σ H Q => ∃ Φ B ρ Ψ Ξ, Rl K Φ B σ H ρ ∧ XOk K W Φ B σ H Ξ ∧ t ρ Ψ Ξ ∧ ∀ v B' H' r, Gr B H B' H' → DenR K Φ H B' H' v r → Ψ r → Q v H'
def tDT (K : PySem.W.Frag) (W : WC) (t : VT) : TT := fun σ H Q => ∃ Φ B ρ Ψ Ξ, Rl K Φ B σ H ρ ∧ XOk K W Φ B σ H Ξ ∧ t ρ Ψ Ξ ∧ ∀ b B' H', Gr B H B' H' → Ψ b → Q b H'
/-- arguments: each shared (or a view) -/
def DenRs (K : PySem.W.Frag) (Φ : Fm) (B H : Hp) : List V → List R → Prop
  | [], [] => True
  | v :: vs, r :: rs => ((r.good → Den K B v r.d) ∧ (¬ r.good → DenR K Φ H B H v r)) ∧ DenRs K Φ B H vs rs
  | _, _ => False
def tDA (K : PySem.W.Frag) (W : WC) (t : VA) : TA := fun σ H Q => ∃ Φ B ρ Ψ Ξ, Rl K Φ B σ H ρ ∧ XOk K W Φ B σ H Ξ ∧ t ρ Ψ Ξ ∧ ∀ vs B' H' rs, Gr B H B' H' → DenRs K Φ B' H' vs rs → Ψ rs → Q vs H'
def tDS (K : PySem.W.Frag) (W : WC) (t : VS) : TS := fun D σ H => ∃ Φ B ρ D', Rl K Φ B σ H ρ ∧ EndsOk K W Φ D D' ∧ t D' ρ
abbrev DE (X : Cx) (W : WC) (e : Expr) (t : VE) : Prop := PE X e (tD X.K W t)
abbrev DT (X : Cx) (W : WC) (e : Expr) (t : VT) : Prop := PT X e (tDT X.K W t)
abbrev DW (X : Cx) (W : WC) (e : Expr) (t : VT) : Prop := PW X e (tDT X.K W t)
abbrev DA (X : Cx) (W : WC) (es : List Expr) (t : VA) : Prop := PA X es (tDA X.K W t)
abbrev DS (X : Cx) (W : WC) (st : Stmt) (t : VS) : Prop := PS X st (tDS X.K W t)
abbrev DSs (X : Cx) (W : WC) (st : List Stmt) (t : VS) : Prop := PSs X st (tDS X.K W t)
theorem peI {X : Cx} {e : Expr} {t t2 : TE} (h : PE X e t) (i : ∀ σ H Q, t2 σ H Q → t σ H Q) : PE X e t2 := ⟨fun pins s σ H Q I q => h.run pins s σ H Q I (i σ H Q q)⟩
theorem ptI {X : Cx} {e : Expr} {t t2 : TT} (h : PT X e t) (i : ∀ σ H Q, t2 σ H Q → t σ H Q) : PT X e t2 := ⟨fun pins s σ H Q I q => h.run pins s σ H Q I (i σ H Q q)⟩
theorem pwI {X : Cx} {e : Expr} {t t2 : TT} (h : PW X e t) (i : ∀ σ H Q, t2 σ H Q → t σ H Q) : PW X e t2 := ⟨fun wh pins s σ H Q I q => h.run wh pins s σ H Q I (i σ H Q q)⟩
theorem paI {X : Cx} {e : List Expr} {t t2 : TA} (h : PA X e t) (i : ∀ σ H Q, t2 σ H Q → t σ H Q) : PA X e t2 := ⟨fun pos pins s σ H Q I q => h.run pos pins s σ H Q I (i σ H Q q)⟩
theorem psI {X : Cx} {e : Stmt} {t t2 : TS} (h : PS X e t) (i : ∀ D σ H, t2 D σ H → t D σ H) : PS X e t2 := ⟨fun pins s σ H D I q => h.run pins s σ H D I (i D σ H q)⟩
theorem pssI {X : Cx} {e : List Stmt} {t t2 : TS} (h : PSs X e t) (i : ∀ D σ H, t2 D σ H → t D σ H) : PSs X e t2 := ⟨fun pins s σ H D I q => h.run pins s σ H D I (i D σ H q)⟩

section
variable {K : PySem.W.Frag} {W : WC} {Φ : Fm} {B H : Hp} {σ : St} {ρ : Env'} {Ξ : XP}
/-- an operand: read -/
theorem runR {t : VE} {k : R → Prop} {Q : VK} (l : Rl K Φ B σ H ρ) (x : XOk K W Φ B σ H Ξ) (h : t ρ (fun r => r.val ∧ k r) Ξ)
    (hQ : ∀ v B' H' r, Gr B H B' H' → Vw K B' H' v r.d → (r.good → Den K B' v r.d) → k r → Q v H') : tD K W t σ H Q :=
  ⟨Φ, B, ρ, _, Ξ, l, x, h, fun v B' H' r g d ⟨hv, hk⟩ => by
    obtain ⟨B2, g2, _, w, wd⟩ := d.read g hv
    exact hQ v B2 H' r g2 w wd hk⟩
theorem runE {t : VE} {k : R → Prop} {Q : VK} (l : Rl K Φ B σ H ρ) (x : XOk K W Φ B σ H Ξ) (h : t ρ k Ξ)
    (hQ : ∀ v B' H' r, Gr B H B' H' → DenR K Φ H B' H' v r → k r → Q v H') : tD K W t σ H Q := ⟨Φ, B, ρ, k, Ξ, l, x, h, hQ⟩
theorem runT {t : VT} {k : Bool → Prop} {Q : Bool → Hp → Prop} (l : Rl K Φ B σ H ρ) (x : XOk K W Φ B σ H Ξ) (h : t ρ k Ξ)
    (hQ : ∀ b B' H', Gr B H B' H' → k b → Q b H') : tDT K W t σ H Q := ⟨Φ, B, ρ, k, Ξ, l, x, h, hQ⟩
theorem runA {t : VA} {k : List R → Prop} {Q : List V → Hp → Prop} (l : Rl K Φ B σ H ρ) (x : XOk K W Φ B σ H Ξ) (h : t ρ k Ξ)
    (hQ : ∀ vs B' H' rs, Gr B H B' H' → DenRs K Φ B' H' vs rs → k rs → Q vs H') : tDA K W t σ H Q := ⟨Φ, B, ρ, k, Ξ, l, x, h, hQ⟩
theorem DenR.anew {Ha Hb : Hp} {v : V} {r : R} (h : DenR K Φ Ha B H v r) (z : ¬ r.good) : DenR K Φ Hb B H v r := by
  cases r with
  | fr ds => exact absurd True.intro z
  | _ => exact h
theorem DenRs.grow {B' H' : Hp} (g : Gr B H B' H') : ∀ {vs : List V} {rs : List R}, DenRs K Φ B H vs rs → DenRs K Φ B' H' vs rs
  | [], [], _ => True.intro
  | v :: vs, r :: rs, ⟨⟨h1, h2⟩, t⟩ => ⟨⟨fun z => (h1 z).mono g.b, fun z => DenR.anew (DenR.grow (h2 z) g) z⟩, DenRs.grow g t⟩
  | [], _ :: _, h => h.elim
  | _ :: _, [], h => h.elim
end
end DL
/-! DL, second part: expressions. -/
namespace DL
open PySem L2

/-! ### names, constants -/
def vVar (i : Nat) : VE := fun ρ Ψ _ => match ρ[i]? with
  | some (.sh d) => Ψ (.sh d)
  | some (.ow ds) => Ψ (.vw ds)
  | some (.oo C fs) => Ψ (.vo C fs)
  | some (.ex x) => Ψ (.xn x)
  | _ => False
def vC (d : DV) : VE := fun _ Ψ _ => Ψ (.sh d)
section
variable {X : Cx} {W : WC}
theorem de_var {i : Nat} {x : Str} {pos : Pos} (h : PE X (.Name x pos) (tVar i)) : DE X W (.Name x pos) (vVar i) := peI h fun σ H Q ⟨Φ, B, ρ, Ψ, Ξ, l, _, t, k⟩ => by
  unfold vVar at t
  have g := Gr.refl l.s
  split at t
  · rename_i d e
    obtain ⟨v, e1, h⟩ := l.sh i d e
    exact ⟨v, e1, k v B H (.sh d) g h t⟩
  · rename_i ds e
    obtain ⟨p, vs, e1, e2, h, h0, hb⟩ := l.ow i ds e
    exact ⟨.ref p, e1, k _ B H (.vw ds) g ⟨p, vs, rfl, e2, h, h0, hb⟩ t⟩
  · rename_i C fs e
    obtain ⟨p, dx, fvs, e1, e2, h, h0, hb⟩ := l.oo i C fs e
    exact ⟨.ref p, e1, k _ B H (.vo C fs) g ⟨p, dx, fvs, rfl, e2, h⟩ t⟩
  · rename_i x e
    obtain ⟨a, cls, d, e1, e2, h⟩ := l.ex i x e
    exact ⟨.ref a, e2, k _ B H (.xn x) g ⟨a, cls, d, e1, rfl, h⟩ t⟩
  · exact t.elim
/-- a flat value that is data in any shared part -/
inductive CV : V → DV → Prop
  | non : CV .non .non
  | bl (b : Bool) : CV (.bl b) (.bl b)
  | int (i : Int) : CV (.int i) (.int i)
  | str (x : Str) : CV (.str x) (.str x)
  | ty (n : String) : CV (.ty n) (.ty n)
  | cst (a : Addr) : CV (.ref a) (.cst a)
theorem CV.den {K : PySem.W.Frag} {B : Hp} {v : V} {d : DV} (c : CV v d) : Den K B v d := by
  cases c with
  | non => exact .non
  | bl b => exact .bl b
  | int i => exact .int i
  | str x => exact .str x
  | ty n => exact .ty n
  | cst a => exact .cst a
theorem de_c {e : Expr} {v : V} {d : DV} (h : PE X e (tC v)) (c : CV v d) : DE X W e (vC d) := peI h fun σ H Q ⟨Φ, B, ρ, Ψ, Ξ, l, _, t, k⟩ => k v B H (.sh d) (Gr.refl l.s) c.den t
theorem de_int {i : Int} {j pos} : DE X W (.Constant (.int i) j pos) (vC (.int i)) := de_c pe_int (.int i)
theorem de_bl {b : Bool} {j pos} : DE X W (.Constant (.bool b) j pos) (vC (.bl b)) := de_c pe_bl (.bl b)
theorem de_non {j pos} : DE X W (.Constant .none j pos) (vC .non) := de_c pe_non .non
theorem de_str {x : Str} {j pos} : DE X W (.Constant (.str x) j pos) (vC (.str x)) := de_c pe_str (.str x)
/-- a global: a constant of the module, a class -/
theorem de_glob {x : Str} {v : V} {d : DV} {u : Value} {pos : Pos} (hg : Gl X x) (hm : X.mg x = some u) (r : RelV v u) (c : CV v d) (hd : (x == ("__debug__" : Str)) = false := by decide) : DE X W (.Name x pos) (vC d) := de_c (pe_glob hg hm r hd) c
theorem de_bltn {x : Str} {v : V} {d : DV} {u : Value} {pos : Pos} (hg : Gl X x) (hm : X.mg x = Option.none) (hv : bootBuiltins x = some u) (r : RelV v u) (c : CV v d) (hn : x ≠ "__name__" := by decide) (hd : (x == ("__debug__" : Str)) = false := by decide) : DE X W (.Name x pos) (vC d) := de_c (pe_bltn hg hm hv r hn hd) c
end

/-! ### operators, by data -/
abbrev O2 := DV → DV → (R → Prop) → Prop
def OpA (K : PySem.W.Frag) (r : R2) (o : O2) : Prop := ∀ (Φ : Fm) (B H : Hp) (x y : V) (d1 d2 : DV) (Ψ : R → Prop) (Q : VK), Same B H → Vw K B H x d1 → Vw K B H y d2 → o d1 d2 Ψ →
  (∀ z B' H' r, Gr B H B' H' → DenR K Φ H B' H' z r → Ψ r → Q z H') → r x y H Q
def vOp (o : O2) (ta tb : VE) : VE := fun ρ Ψ Ξ => ta ρ (fun r1 => r1.val ∧ tb ρ (fun r2 => r2.val ∧ o r1.d r2.d Ψ) Ξ) Ξ
section
variable {K : PySem.W.Frag} {W : WC}
theorem abs_op {r : R2} {o : O2} (h : OpA K r o) {ta tb : VE} {σ : St} {H : Hp} {Q : VK} (q : tD K W (vOp o ta tb) σ H Q) : tOp r (tD K W ta) (tD K W tb) σ H Q := by
  obtain ⟨Φ, B, ρ, Ψ, Ξ, l, x, t, k⟩ := q
  refine runR l x t fun v B1 H1 r1 g1 w1 _ t1 => ?_
  refine runR (l.grow g1) (x.grow g1) t1 fun u B2 H2 r2 g2 w2 _ t2 => ?_
  exact h Φ B2 H2 v u r1.d r2.d Ψ Q g2.s (w1.grow g2) w2 t2 fun z B' H' r' g' d' p => k z B' H' r' ((g1.trans g2).trans g') (d'.back (g1.h.trans g2.h)) p
theorem OpA.or {r1 r2 : R2} {o1 o2 o : O2} (h1 : OpA K r1 o1) (h2 : OpA K r2 o2) (c : ∀ a b Ψ, o a b Ψ → o1 a b Ψ ∨ o2 a b Ψ) : OpA K (fun x y H Q => r1 x y H Q ∨ r2 x y H Q) o := fun Φ B H x y d1 d2 Ψ Q s a b q k =>
  (c _ _ _ q).elim (fun q => .inl (h1 Φ B H x y d1 d2 Ψ Q s a b q k)) fun q => .inr (h2 Φ B H x y d1 d2 Ψ Q s a b q k)
theorem Vw.int {B H : Hp} {v : V} {i : Int} (h : Vw K B H v (.int i)) : v = .int i := by cases (show Den K B v (.int i) from h); rfl
theorem Vw.str {B H : Hp} {v : V} {i : Str} (h : Vw K B H v (.str i)) : v = .str i := by cases (show Den K B v (.str i) from h); rfl
theorem Vw.bl {B H : Hp} {v : V} {i : Bool} (h : Vw K B H v (.bl i)) : v = .bl i := by cases (show Den K B v (.bl i) from h); rfl
theorem Vw.non {B H : Hp} {v : V} (h : Vw K B H v .non) : v = .non := by cases (show Den K B v .non from h); rfl
theorem Vw.tup {B H : Hp} {v : V} {x : Bool} {ds : List DV} (s : Same B H) (h : Vw K B H v (.tup x ds)) : ∃ a xs, v = .ref a ∧ SqT K B a xs ∧ SqT K H a xs ∧ DenL K B xs ds ∧ (x = true → Bare K B a) := by
  cases (show Den K B v (.tup x ds) from h) with
  | tup h1 b1 t1 => exact ⟨_, _, rfl, h1, Same.seqT s h1, t1, b1⟩
theorem Vw.scr {B H : Hp} {v : V} {ns : List Int} (s : Same B H) (h : Vw K B H v (.scr ns)) : ∃ a, v = .ref a ∧ SqL K H a (ns.map V.int) := by
  cases (show Den K B v (.scr ns) from h) with
  | scr h => exact ⟨_, rfl, s.seq h⟩
theorem Vw.lst {B H : Hp} {v : V} {ds : List DV} (h : Vw K B H v (.lst ds)) : ∃ p vs, v = .ref p ∧ H p = some (.lst vs) ∧ DenL K B vs ds := h
theorem Vw.obj {B H : Hp} {v : V} {C : Addr} {fs : List (Str × DV)} (h : Vw K B H v (.obj C fs)) : ∃ p dx fvs, v = .ref p ∧ H p = some (.ins C dx fvs) ∧ DenF K B fvs fs := h

/-- ints in, a flat value out -/
def oI (C : Int → Int → Prop) (g : Int → Int → DV) : O2 := fun a b Ψ => match a, b with
  | .int i, .int j => C i j ∧ Ψ (.sh (g i j))
  | _, _ => False
theorem oA_I {C : Int → Int → Prop} {g : Int → Int → V} {g' : Int → Int → DV} (hg : ∀ i j, CV (g i j) (g' i j)) : OpA K (rI C g) (oI C g') := by
  intro Φ B H x y d1 d2 Ψ Q s a b q k
  unfold oI at q
  split at q
  · rename_i i j
    obtain ⟨c, q⟩ := q
    exact ⟨i, j, a.int, b.int, c, k _ B H (.sh (g' i j)) (Gr.refl s) (hg i j).den q⟩
  · exact q.elim
theorem oA_I0 {g : Int → Int → V} {g' : Int → Int → DV} (hg : ∀ i j, CV (g i j) (g' i j)) : OpA K (rI0 g) (oI (fun _ _ => True) g') := by
  intro Φ B H x y d1 d2 Ψ Q s a b q k
  unfold oI at q
  split at q
  · rename_i i j
    obtain ⟨c, q⟩ := q
    exact ⟨i, j, a.int, b.int, k _ B H (.sh (g' i j)) (Gr.refl s) (hg i j).den q⟩
  · exact q.elim
/-- a new list made of what is read -/
theorem fr_new {Φ : Fm} {B H : Hp} {Ψ : R → Prop} {Q : VK} {vs : List V} {ds : List DV} (s : Same B H) (t : DenL K B vs ds) (q : Ψ (.fr ds)) (k : ∀ z B' H' r, Gr B H B' H' → DenR K Φ H B' H' z r → Ψ r → Q z H') :
    ∀ p, H p = Option.none → Q (.ref p) (upd H p (.lst vs)) := fun p hp => k _ B _ (.fr ds) (Gr.new s hp) ⟨p, vs, rfl, hp, upd_same, s.free hp, t⟩ q
theorem tup_new {Φ : Fm} {B H : Hp} {x : Bool} {Ψ : R → Prop} {Q : VK} {vs : List V} {ds : List DV} (s : Same B H) (t : DenL K B vs ds) (q : Ψ (.sh (.tup x ds))) (k : ∀ z B' H' r, Gr B H B' H' → DenR K Φ H B' H' z r → Ψ r → Q z H') :
    NewT H vs Q := fun p o hp ho hc => by
  have g := Gr.newS s hp (o := .frz o (.tup vs))
  exact k _ _ _ (.sh (.tup x ds)) g (Den.tup (.inl (.inr ⟨o, upd_same⟩)) (fun _ => .inl ⟨o, vs, upd_same, ho, hc⟩) (t.mono g.b)) q
def opAdd : O2 := fun a b Ψ => match a, b with
  | .int i, .int j => Ψ (.sh (.int (i + j)))
  | .str a, .str b => a.length + b.length ≤ sizeLine ∧ Ψ (.sh (.str (a ++ b)))
  | .lst a, .lst b => a.length + b.length ≤ sizeLine ∧ Ψ (.fr (a ++ b))
  | .tup x a, .tup y b => a.length + b.length ≤ sizeLine ∧ Ψ (.sh (.tup (x && y) (a ++ b)))
  | _, _ => False
def rAddU (K : PySem.W.Frag) : R2 := fun x y H Q => (rI0 fun i j => .int (i + j)) x y H Q ∨ (∃ i j, x = .str i ∧ y = .str j ∧ i.length + j.length ≤ sizeLine ∧ Q (.str (i ++ j)) H) ∨ rCat x y H Q ∨ rCatX K x y H Q
theorem op_addU {X : Cx} : OpR X (binaryOp .Add) (rAddU X.K) := op_add.or (op_add_str.or (op_cat.or op_catX))
theorem oA_add : OpA K (rAddU K) opAdd := by
  intro Φ B H x y d1 d2 Ψ Q s a b q k
  unfold opAdd at q
  split at q
  · rename_i i j
    exact .inl ⟨i, j, a.int, b.int, k _ B H (.sh (.int (i + j))) (Gr.refl s) (.int _) q⟩
  · rename_i i j
    exact .inr (.inl ⟨i, j, a.str, b.str, q.1, k _ B H (.sh (.str (i ++ j))) (Gr.refl s) (.str _) q.2⟩)
  · obtain ⟨p, vs, rfl, e1, t1⟩ := a.lst
    obtain ⟨p2, vs2, rfl, e2, t2⟩ := b.lst
    exact .inr (.inr (.inl ⟨p, p2, vs, vs2, rfl, rfl, e1, e2, by rw [t1.len, t2.len]; exact q.1, fr_new s (t1.append t2) q.2 k⟩))
  · obtain ⟨p, vs, rfl, h1, e1, t1, b1⟩ := a.tup s
    obtain ⟨p2, vs2, rfl, h2, e2, t2, b2⟩ := b.tup s
    refine .inr (.inr (.inr ⟨p, p2, vs, vs2, rfl, rfl, e1, e2, by rw [t1.len, t2.len]; exact q.1, fun z => ?_, fun _ z => ?_, fun _ _ => tup_new s (t1.append t2) q.2 k⟩))
    · subst z
      rw [t1.nil_of, List.nil_append] at q
      exact k _ B H (.sh (.tup _ _)) (Gr.refl s) (.tup h2 (fun z => b2 (Bool.and_eq_true_iff.mp z).2) t2) q.2
    · subst z
      rw [t2.nil_of, List.append_nil] at q
      exact k _ B H (.sh (.tup _ _)) (Gr.refl s) (.tup h1 (fun z => b1 (Bool.and_eq_true_iff.mp z).1) t1) q.2
  · exact q.elim
abbrev opSub : O2 := oI (fun _ _ => True) fun i j => .int (i - j)
abbrev opMul : O2 := oI CMul fun i j => .int (i * j)
abbrev opFDiv : O2 := oI CDiv fun i j => .int (i / j)
abbrev opMod : O2 := oI (fun _ j => 0 < j) fun i j => .int (i % j)
abbrev opPow : O2 := oI CPow fun i j => .int (i ^ j.toNat)
abbrev opLt : O2 := oI (fun _ _ => True) fun i j => .bl (decide (i < j))
abbrev opLe : O2 := oI (fun _ _ => True) fun i j => .bl (decide (i ≤ j))
abbrev opGt : O2 := oI (fun _ _ => True) fun i j => .bl (decide (j < i))
abbrev opGe : O2 := oI (fun _ _ => True) fun i j => .bl (decide (j ≤ i))
end
section
variable {X : Cx} {W : WC} {a b c : Expr} {ta tb tc : VE} {pos : Pos}
theorem de_bin {op : Operator} {r : R2} {o : O2} (ho : OpR X (binaryOp op) r) (hA : OpA X.K r o) (ha : DE X W a ta) (hb : DE X W b tb) : DE X W (.BinOp a op b pos) (vOp o ta tb) := peI (pe_op ho ha hb) fun _ _ _ => abs_op hA
theorem de_add (ha : DE X W a ta) (hb : DE X W b tb) : DE X W (.BinOp a .Add b pos) (vOp opAdd ta tb) := de_bin op_addU oA_add ha hb
theorem de_sub (ha : DE X W a ta) (hb : DE X W b tb) : DE X W (.BinOp a .Sub b pos) (vOp opSub ta tb) := de_bin op_sub (oA_I0 fun _ _ => .int _) ha hb
theorem de_mul (ha : DE X W a ta) (hb : DE X W b tb) : DE X W (.BinOp a .Mult b pos) (vOp opMul ta tb) := de_bin op_mul (oA_I fun _ _ => .int _) ha hb
theorem de_fdiv (ha : DE X W a ta) (hb : DE X W b tb) : DE X W (.BinOp a .FloorDiv b pos) (vOp opFDiv ta tb) := de_bin op_fdiv (oA_I fun _ _ => .int _) ha hb
theorem de_mod (ha : DE X W a ta) (hb : DE X W b tb) : DE X W (.BinOp a .Mod b pos) (vOp opMod ta tb) := de_bin op_mod (oA_I fun _ _ => .int _) ha hb
theorem de_pow (ha : DE X W a ta) (hb : DE X W b tb) : DE X W (.BinOp a .Pow b pos) (vOp opPow ta tb) := de_bin op_pow (oA_I fun _ _ => .int _) ha hb
/-! ### unary -/
abbrev O1 := DV → (R → Prop) → Prop
def vUn (o : O1) (ta : VE) : VE := fun ρ Ψ Ξ => ta ρ (fun r1 => r1.val ∧ o r1.d Ψ) Ξ
def oNeg : O1 := fun a Ψ => match a with
  | .int i => Ψ (.sh (.int (-i)))
  | _ => False
theorem de_neg (ha : DE X W a ta) : DE X W (.UnaryOp .USub a pos) (vUn oNeg ta) := peI (pe_un un_neg ha) fun σ H Q ⟨Φ, B, ρ, Ψ, Ξ, l, x, t, k⟩ => by
  refine runR l x t fun v B1 H1 r1 g1 w1 _ t1 => ?_
  unfold oNeg at t1
  split at t1
  · rename_i i e
    rw [e] at w1
    exact ⟨i, w1.int, k _ B1 H1 (.sh (.int (-i))) g1 (.int _) t1⟩
  · exact t1.elim
/-! ### comparisons -/
theorem de_cmp {op : CmpOp} {r : R2} {o : O2} (ho : OpR X (compareOp op) r) (hA : OpA X.K r o) (ha : DE X W a ta) (hb : DE X W b tb) (hm : behindInMarks op b = false) : DE X W (.Compare a [op] [b] pos) (vOp o ta tb) := peI (pe_cmpR ho ha hb hm) fun _ _ _ => abs_op hA
/-- a value that is True or False, as a test -/
def blK (Ψ : Bool → Prop) : R → Prop := fun r => match r with
  | .sh (.bl b) => Ψ b
  | _ => False
def vTst (t : VE) : VT := fun ρ Ψ Ξ => t ρ (blK Ψ) Ξ
theorem blK_sh {Ψ : Bool → Prop} {r : R} (h : blK Ψ r) : ∃ b, r = .sh (.bl b) ∧ Ψ b := by
  unfold blK at h
  split at h
  · exact ⟨_, rfl, h⟩
  · exact h.elim
theorem dt_cmp {op : CmpOp} {r : R2} {o : O2} (ho : OpR X (compareOp op) r) (hA : OpA X.K r o) (ha : DE X W a ta) (hb : DE X W b tb) (hm : behindInMarks op b = false) : DT X W (.Compare a [op] [b] pos) (vTst (vOp o ta tb)) := by
  refine ptI (pt_cmpR ho ha hb hm) fun σ H Q ⟨Φ, B, ρ, Ψ, Ξ, l, x, t, k⟩ => ?_
  refine abs_op (W := W) hA ?_
  refine ⟨Φ, B, ρ, _, Ξ, l, x, t, fun v B' H' r g d p => ?_⟩
  obtain ⟨b, rfl, p⟩ := blK_sh p
  cases (show Den X.K B' v (.bl b) from d)
  exact ⟨b, rfl, k b B' H' g p⟩
end
end DL
/-! DL, third part: ==, in, subscripts, slices, tests, arguments, displays. -/
namespace DL
open PySem L2

/-! ### == -/
mutual
def toPy : DV → Option PyData
  | .non => some .none
  | .bl b => some (.bool b)
  | .int i => some (.int i)
  | .str x => some (.str x)
  | .lst ds => (toPyL ds).map .list
  | .tup _ ds => (toPyL ds).map .tuple
  | _ => Option.none
def toPyL : List DV → Option (List PyData)
  | [] => some []
  | d :: ds => match toPy d, toPyL ds with
    | some p, some ps => some (p :: ps)
    | _, _ => Option.none
end
section
variable {K : PySem.W.Frag} {B H : Hp}
theorem toPyL_cons {d : DV} {ds : List DV} {q : List PyData} (h : toPyL (d :: ds) = some q) : ∃ p ps, q = p :: ps ∧ toPy d = some p ∧ toPyL ds = some ps := by
  unfold toPyL at h
  split at h
  · rename_i p ps e1 e2
    cases h
    exact ⟨p, ps, rfl, e1, e2⟩
  · cases h
mutual
theorem Den.dp (s : Same B H) : ∀ {v : V} {d : DV} {p : PyData}, Den K B v d → toPy d = some p → Dp K H v p
  | _, _, _, .non, e => by cases e; exact .non
  | _, _, _, .bl b, e => by cases e; exact .bl b
  | _, _, _, .int i, e => by cases e; exact .int i
  | _, _, _, .str x, e => by cases e; exact .str x
  | _, _, _, .ty n, e => by cases e
  | _, _, _, .cst a, e => by cases e
  | _, _, _, .scr h, e => by cases e
  | _, .lst ds, p, .lst h t, e => by
    simp only [toPy, Option.map_eq_some_iff] at e
    obtain ⟨q, e, rfl⟩ := e
    exact .lst (SqL.of (s _ _ h)) (DenL.dp s t e)
  | _, .tup _ ds, p, .tup h _ t, e => by
    simp only [toPy, Option.map_eq_some_iff] at e
    obtain ⟨q, e, rfl⟩ := e
    exact .tup (Same.seqT s h) (DenL.dp s t e)
  | _, _, _, .obj h t, e => by cases e
theorem DenL.dp (s : Same B H) : ∀ {v : List V} {d : List DV} {p : List PyData}, DenL K B v d → toPyL d = some p → DpAll K H v p
  | _, _, _, .nil, e => by simp only [toPyL, Option.some.injEq] at e; subst e; exact .nil
  | _, _, q, .cons h t, e => by
    obtain ⟨p, ps, rfl, e1, e2⟩ := toPyL_cons e
    exact .cons (Den.dp s h e1) (DenL.dp s t e2)
end
theorem Vw.dp (s : Same B H) {v : V} {d : DV} {p : PyData} (h : Vw K B H v d) (e : toPy d = some p) : Dp K H v p := by
  cases d with
  | lst ds =>
    obtain ⟨a, vs, rfl, e2, t⟩ := h
    simp only [toPy, Option.map_eq_some_iff] at e
    obtain ⟨q, e, rfl⟩ := e
    exact .lst (SqL.of e2) (t.dp s e)
  | obj C fs => cases e
  | non => exact Den.dp s h e
  | bl _ => exact Den.dp s h e
  | int _ => exact Den.dp s h e
  | str _ => exact Den.dp s h e
  | ty _ => exact Den.dp s h e
  | cst _ => exact Den.dp s h e
  | scr _ => exact Den.dp s h e
  | tup _ _ => exact Den.dp s h e
end
/-- == of scalars -/
def eqS : DV → DV → Option Bool
  | .non, .non => some true
  | .non, .int _ => some false
  | .int _, .non => some false
  | .non, .bl _ => some false
  | .bl _, .non => some false
  | .non, .str _ => some false
  | .str _, .non => some false
  | .int i, .int j => some (decide (i = j))
  | .bl i, .bl j => some (decide (i = j))
  | .str i, .str j => some (decide (i = j))
  | .int _, .str _ => some false
  | .str _, .int _ => some false
  | .bl _, .str _ => some false
  | .str _, .bl _ => some false
  | _, _ => Option.none
def eqDeep (a b : DV) (Ψ : Bool → Prop) : Prop := match toPy a, toPy b with
  | some p, some q => SeqAt.shaped p = true ∧ SeqAt.shaped q = true ∧ Ψ (PyData.eqv p q)
  | _, _ => False
def eqD (a b : DV) (Ψ : Bool → Prop) : Prop := match eqS a b with
  | some r => Ψ r
  | Option.none => eqDeep a b Ψ
def opEq : O2 := fun a b Ψ => eqD a b fun r => Ψ (.sh (.bl r))
def opNe : O2 := fun a b Ψ => eqD a b fun r => Ψ (.sh (.bl !r))
section
variable {K : PySem.W.Frag}
theorem eqS_ok {B H : Hp} {x y : V} {a b : DV} {r : Bool} (h : eqS a b = some r) (ha : Vw K B H x a) (hb : Vw K B H y b) : scal x y = true ∧ decide (x = y) = r := by
  unfold eqS at h
  split at h <;> first
    | (cases h; first
        | (rw [ha.non, hb.non]; exact ⟨rfl, by simp⟩)
        | (rw [ha.non, hb.int]; exact ⟨rfl, by simp⟩)
        | (rw [ha.int, hb.non]; exact ⟨rfl, by simp⟩)
        | (rw [ha.non, hb.bl]; exact ⟨rfl, by simp⟩)
        | (rw [ha.bl, hb.non]; exact ⟨rfl, by simp⟩)
        | (rw [ha.non, hb.str]; exact ⟨rfl, by simp⟩)
        | (rw [ha.str, hb.non]; exact ⟨rfl, by simp⟩)
        | (rw [ha.int, hb.int]; exact ⟨rfl, by simp⟩)
        | (rw [ha.bl, hb.bl]; exact ⟨rfl, by simp⟩)
        | (rw [ha.str, hb.str]; exact ⟨rfl, by simp⟩)
        | (rw [ha.int, hb.str]; exact ⟨rfl, by simp⟩)
        | (rw [ha.str, hb.int]; exact ⟨rfl, by simp⟩)
        | (rw [ha.bl, hb.str]; exact ⟨rfl, by simp⟩)
        | (rw [ha.str, hb.bl]; exact ⟨rfl, by simp⟩))
    | cases h
def rEqU (K : PySem.W.Frag) : R2 := fun x y H Q => rEq x y H Q ∨ rEqD K x y H Q
def rNeU (K : PySem.W.Frag) : R2 := fun x y H Q => rNe x y H Q ∨ rNeD K x y H Q
theorem op_eqU {X : Cx} (hu : X.A.units + 64 < cLine) : OpR X (compareOp .Eq) (rEqU X.K) := op_eq.or (op_eqD hu)
theorem op_neU {X : Cx} (hu : X.A.units + 64 < cLine) : OpR X (compareOp .NotEq) (rNeU X.K) := op_ne.or (op_neD hu)
theorem oA_eq : OpA K (rEqU K) opEq := by
  intro Φ B H x y d1 d2 Ψ Q s a b q k
  unfold opEq eqD at q
  split at q
  · rename_i r e
    obtain ⟨h1, h2⟩ := eqS_ok e a b
    exact .inl ⟨h1, by rw [h2]; exact k _ B H (.sh (.bl r)) (Gr.refl s) (.bl _) q⟩
  · unfold eqDeep at q
    split at q
    · rename_i p1 p2 e1 e2
      exact .inr ⟨p1, p2, a.dp s e1, b.dp s e2, q.1, q.2.1, k _ B H (.sh (.bl _)) (Gr.refl s) (.bl _) q.2.2⟩
    · exact q.elim
theorem oA_ne : OpA K (rNeU K) opNe := by
  intro Φ B H x y d1 d2 Ψ Q s a b q k
  unfold opNe eqD at q
  split at q
  · rename_i r e
    obtain ⟨h1, h2⟩ := eqS_ok e a b
    exact .inl ⟨h1, by rw [h2]; exact k _ B H (.sh (.bl (!r))) (Gr.refl s) (.bl _) q⟩
  · unfold eqDeep at q
    split at q
    · rename_i p1 p2 e1 e2
      exact .inr ⟨p1, p2, a.dp s e1, b.dp s e2, q.1, q.2.1, k _ B H (.sh (.bl _)) (Gr.refl s) (.bl _) q.2.2⟩
    · exact q.elim
/-! ### is -/
def isNon : DV → Bool
  | .non => true
  | _ => false
def opIs (n : Bool) : O2 := fun a b Ψ => match b with
  | .non => Ψ (.sh (.bl (n ^^ isNon a)))
  | .bl j => match a with
    | .bl i => Ψ (.sh (.bl (n ^^ decide (i = j))))
    | _ => False
  | _ => False
theorem isN_dec {B H : Hp} {x : V} {a : DV} (h : Vw K B H x a) : decide (x = .non) = isNon a := by
  cases a with
  | non => rw [h.non]; rfl
  | bl _ => rw [h.bl]; rfl
  | int _ => rw [h.int]; rfl
  | str _ => rw [h.str]; rfl
  | ty n => cases (show Den K B x (.ty n) from h); rfl
  | cst n => cases (show Den K B x (.cst n) from h); rfl
  | scr n => cases (show Den K B x (.scr n) from h); rfl
  | tup f n => cases (show Den K B x (.tup f n) from h); rfl
  | lst n => obtain ⟨_, _, rfl, _⟩ := h; rfl
  | obj C n => obtain ⟨_, _, _, rfl, _⟩ := h; rfl
def rIsU : R2 := fun x y H Q => (y = .non ∧ Q (.bl (decide (x = .non))) H) ∨ rIsB x y H Q
def rIsNU : R2 := fun x y H Q => (y = .non ∧ Q (.bl (!decide (x = .non))) H) ∨ rNotB x y H Q
theorem op_isU {X : Cx} : OpR X (compareOp .Is) rIsU := op_isN.or op_isBl
theorem op_isnU {X : Cx} : OpR X (compareOp .IsNot) rIsNU := op_notN.or op_notBl
theorem oA_is : OpA K rIsU (opIs false) := by
  intro Φ B H x y d1 d2 Ψ Q s a b q k
  unfold opIs at q
  split at q
  · refine .inl ⟨b.non, ?_⟩
    rw [isN_dec a]
    rw [Bool.false_xor] at q
    exact k _ B H (.sh (.bl _)) (Gr.refl s) (.bl _) q
  · split at q
    · rw [Bool.false_xor] at q
      exact .inr ⟨_, _, a.bl, b.bl, k _ B H (.sh (.bl _)) (Gr.refl s) (.bl _) q⟩
    · exact q.elim
  · exact q.elim
theorem oA_isn : OpA K rIsNU (opIs true) := by
  intro Φ B H x y d1 d2 Ψ Q s a b q k
  unfold opIs at q
  split at q
  · refine .inl ⟨b.non, ?_⟩
    rw [isN_dec a]
    rw [Bool.true_xor] at q
    exact k _ B H (.sh (.bl _)) (Gr.refl s) (.bl _) q
  · split at q
    · rw [Bool.true_xor] at q
      exact .inr ⟨_, _, a.bl, b.bl, k _ B H (.sh (.bl _)) (Gr.refl s) (.bl _) q⟩
    · exact q.elim
  · exact q.elim
/-! ### in -/
def flatD : DV → Bool
  | .non => true
  | .bl _ => true
  | .int _ => true
  | .str _ => true
  | _ => false
def eqFD : DV → DV → Bool
  | .non, .non => true
  | .bl a, .bl b => a == b
  | .bl a, .int b => (if a then 1 else 0) == b
  | .int a, .bl b => a == (if b then 1 else 0)
  | .int a, .int b => a == b
  | .str a, .str b => a == b
  | _, _ => false
theorem flat_ok {B : Hp} {x : V} {a : DV} (h : Den K B x a) (f : flatD a = true) : flatV x = true := by
  cases a <;> first | (cases h; rfl) | (cases f; done)
theorem eqF_ok {B : Hp} {x y : V} {a b : DV} (h : Den K B x a) (h' : Den K B y b) (f : flatD a = true) (f' : flatD b = true) : eqV x y = eqFD a b := by
  cases a <;> first
    | (cases b <;> first
        | (cases h; cases h'; rfl)
        | (cases f'; done))
    | (cases f; done)
theorem flats_ok {B : Hp} : ∀ {xs : List V} {ds : List DV}, DenL K B xs ds → ds.all flatD = true → xs.all flatV = true
  | _, _, .nil, _ => rfl
  | _, _, .cons h t, f => by
    rw [List.all_cons, Bool.and_eq_true] at f
    rw [List.all_cons, flat_ok h f.1, flats_ok t f.2]
    rfl
theorem inF_ok {B : Hp} {x : V} {a : DV} (h : Den K B x a) (f : flatD a = true) : ∀ {xs : List V} {ds : List DV}, DenL K B xs ds → ds.all flatD = true → inV x xs = ds.any fun y => eqFD y a
  | _, _, .nil, _ => rfl
  | _, _, .cons h' t, f' => by
    rw [List.all_cons, Bool.and_eq_true] at f'
    have ih := inF_ok h f t f'.2
    unfold inV at ih ⊢
    rw [List.any_cons, List.any_cons, ih, eqF_ok h' h f'.1 f]
def inSeq (n : Bool) (x : DV) (ds : List DV) (Ψ : R → Prop) : Prop := flatD x = true ∧ ds.all flatD = true ∧ Ψ (.sh (.bl (n ^^ ds.any fun y => eqFD y x)))
def opIn (n : Bool) : O2 := fun x s Ψ => match s with
  | .lst ds => inSeq n x ds Ψ
  | .tup _ ds => inSeq n x ds Ψ
  | .str z => match x with
    | .str a => match a.cps.toList with
      | [c] => Ψ (.sh (.bl (n ^^ decide (c ∈ z.cps.toList))))
      | _ => False
    | _ => False
  | _ => False
def rInU (K : PySem.W.Frag) (n : Bool) : R2 := fun x y H Q => rIn K n x y H Q ∨ ∃ (c : Nat) (z : Str), x = .str ⟨#[c]⟩ ∧ y = .str z ∧ Q (.bl (n ^^ decide (c ∈ z.cps.toList))) H
theorem op_inU {X : Cx} : OpR X (compareOp .In) (rInU X.K false) := op_in_seq.or (by simpa only [Bool.false_xor] using op_in_sign)
theorem op_notInU {X : Cx} : OpR X (compareOp .NotIn) (rInU X.K true) := op_notIn_seq.or (by simpa only [Bool.true_xor] using op_notIn_sign)
theorem flatVw {B H : Hp} {x : V} {a : DV} (h : Vw K B H x a) (f : flatD a = true) : Den K B x a := by
  cases a <;> first | exact h | (cases f; done)
theorem xorN (n : Bool) (b : Bool) : (if n then !b else b) = (n ^^ b) := by cases n <;> cases b <;> rfl
theorem oA_in {n : Bool} : OpA K (rInU K n) (opIn n) := by
  intro Φ B H x y d1 d2 Ψ Q s a b q k
  unfold opIn at q
  split at q
  · obtain ⟨p, vs, rfl, e, t⟩ := b.lst
    obtain ⟨f1, f2, q⟩ := q
    have h1 := flatVw a f1
    refine .inl ⟨p, vs, rfl, .inl (SqL.of e), flat_ok h1 f1, flats_ok t f2, ?_⟩
    rw [xorN, inF_ok h1 f1 t f2]
    exact k _ B H (.sh (.bl _)) (Gr.refl s) (.bl _) q
  · obtain ⟨p, vs, rfl, _, e, t, _⟩ := b.tup s
    obtain ⟨f1, f2, q⟩ := q
    have h1 := flatVw a f1
    refine .inl ⟨p, vs, rfl, .inr e, flat_ok h1 f1, flats_ok t f2, ?_⟩
    rw [xorN, inF_ok h1 f1 t f2]
    exact k _ B H (.sh (.bl _)) (Gr.refl s) (.bl _) q
  · rename_i z
    split at q
    · rename_i w
      split at q
      · rename_i c e
        have ew : w = ⟨#[c]⟩ := by
          cases w with
          | mk l =>
            have e' : l.toList = [c] := e
            congr
            cases l; simp at e'; rw [e']
        subst ew
        exact .inr ⟨c, z, a.str, b.str, k _ B H (.sh (.bl _)) (Gr.refl s) (.bl _) q⟩
      · exact q.elim
    · exact q.elim
  · exact q.elim
/-! ### subscripts -/
def opIx : O2 := fun x i Ψ => match i with
  | .int i => match x with
    | .lst ds => match atI ds i with
      | some d => Ψ (.sh d)
      | Option.none => False
    | .tup _ ds => match atI ds i with
      | some d => Ψ (.sh d)
      | Option.none => False
    | .scr ns => match atI ns i with
      | some d => Ψ (.sh (.int d))
      | Option.none => False
    | .str z => z.length ≤ sizeLine ∧ match atI z.cps.toList i with
      | some c => Ψ (.sh (.str ⟨#[c]⟩))
      | Option.none => False
    | _ => False
  | _ => False
theorem atI_den {B : Hp} {vs : List V} {ds : List DV} {i : Int} {d : DV} (t : DenL K B vs ds) (h : atI ds i = some d) : ∃ v, atI vs i = some v ∧ Den K B v d := by
  unfold atI at h ⊢
  rw [t.len]
  cases e : ixN ds.length i with
  | none => rw [e] at h; cases h
  | some j =>
    rw [e] at h
    obtain ⟨u, h1, h2⟩ := t.get (i := j) (x := d) h
    exact ⟨u, h1, h2⟩
theorem atI_map {α β : Type} (f : α → β) (l : List α) (i : Int) : atI (l.map f) i = (atI l i).map f := by
  unfold atI
  rw [List.length_map]
  cases ixN l.length i with
  | none => rfl
  | some j => simp
theorem oA_ix : OpA K (rIx K) opIx := by
  intro Φ B H x y d1 d2 Ψ Q s a b q k
  unfold opIx at q
  split at q
  · rename_i i
    split at q
    · rename_i ds
      split at q
      · rename_i d e
        obtain ⟨p, vs, rfl, e1, t⟩ := a.lst
        obtain ⟨v, h1, h2⟩ := atI_den t e
        exact .inl ⟨p, vs, i, v, rfl, b.int, SqL.of e1, h1, k _ B H (.sh d) (Gr.refl s) h2 q⟩
      · exact q.elim
    · split at q
      · rename_i d e
        obtain ⟨p, vs, rfl, _, e1, t, _⟩ := a.tup s
        obtain ⟨v, h1, h2⟩ := atI_den t e
        exact .inr (.inl ⟨p, vs, i, v, rfl, b.int, e1, h1, k _ B H (.sh d) (Gr.refl s) h2 q⟩)
      · exact q.elim
    · split at q
      · rename_i d e
        obtain ⟨p, rfl, e1⟩ := a.scr s
        exact .inl ⟨p, _, i, .int d, rfl, b.int, e1, by rw [atI_map, e]; rfl, k _ B H (.sh (.int d)) (Gr.refl s) (.int _) q⟩
      · exact q.elim
    · obtain ⟨hz, q⟩ := q
      split at q
      · rename_i c e
        exact .inr (.inr ⟨_, i, c, a.str, b.int, hz, e, k _ B H (.sh (.str ⟨#[c]⟩)) (Gr.refl s) (.str _) q⟩)
      · exact q.elim
    · exact q.elim
  · exact q.elim
end
section
variable {X : Cx} {W : WC} {a b c : Expr} {ta tb tc : VE} {pos : Pos}
theorem de_ix (ha : DE X W a ta) (hb : DE X W b tb) (hs : PlainIx b) : DE X W (.Subscript a b pos) (vOp opIx ta tb) := peI (pe_ix ix_seq ha hb hs) fun _ _ _ => abs_op oA_ix
/-! ### slices -/
abbrev VO := Env' → (Option Int → Prop) → XP → Prop
def tDO (K : PySem.W.Frag) (W : WC) (t : VO) : TO := fun σ H Q => ∃ Φ B ρ Ψ Ξ, Rl K Φ B σ H ρ ∧ XOk K W Φ B σ H Ξ ∧ t ρ Ψ Ξ ∧ ∀ b B' H', Gr B H B' H' → Ψ b → Q b H'
abbrev DO (X : Cx) (W : WC) (e : Option Expr) (t : VO) : Prop := PO X e (tDO X.K W t)
def voNone : VO := fun _ Ψ _ => Ψ Option.none
def voSome (ta : VE) : VO := fun ρ Ψ Ξ => ta ρ (fun r => match r with
  | .sh (.int i) => Ψ (some i)
  | _ => False) Ξ
theorem do_none : DO X W Option.none voNone := ⟨fun pins s σ H Q I ⟨Φ, B, ρ, Ψ, Ξ, l, x, t, k⟩ => po_none.run pins s σ H Q I (k Option.none B H (Gr.refl l.s) t)⟩
theorem do_some (ha : DE X W a ta) : DO X W (some a) (voSome ta) := ⟨fun pins s σ H Q I ⟨Φ, B, ρ, Ψ, Ξ, l, x, t, k⟩ => (po_some ha).run pins s σ H Q I (by
  refine runE l x t fun v B' H' r g d p => ?_
  split at p
  · rename_i i
    cases (show Den X.K B' v (.int i) from d)
    exact ⟨i, rfl, k (some i) B' H' g p⟩
  · exact p.elim)⟩
def cut {α : Type} (xs : List α) (lo hi : Option Int) : List α := (xs.drop (HT.sIx xs.length 0 lo)).take (HT.sIx xs.length xs.length hi - HT.sIx xs.length 0 lo)
def slD (d : DV) (lo hi : Option Int) (Ψ : R → Prop) : Prop := match d with
  | .lst ds => Ψ (.fr (cut ds lo hi))
  | .tup x ds => Ψ (.sh (.tup x (cut ds lo hi)))
  | .str z => z.length ≤ sizeLine ∧ Ψ (.sh (.str (cutS z lo hi)))
  | _ => False
def vSl (ta : VE) (lo hi : VO) : VE := fun ρ Ψ Ξ => ta ρ (fun r => r.val ∧ lo ρ (fun l => hi ρ (fun h => slD r.d l h Ψ) Ξ) Ξ) Ξ
def rSlU (K : PySem.W.Frag) : V → Option Int → Option Int → Hp → VK → Prop := fun x lo hi H Q => rSlL K x lo hi H Q ∨ rSlX K x lo hi H Q ∨ rSlS x lo hi H Q
theorem cut_all {α : Type} {xs : List α} {lo hi : Option Int} (h : HT.sIx xs.length 0 lo = 0 ∧ HT.sIx xs.length xs.length hi = xs.length) : cut xs lo hi = xs := by
  unfold cut
  rw [h.1, h.2, List.drop_zero, Nat.sub_zero, List.take_length]
theorem DenL.cut {K : PySem.W.Frag} {B : Hp} {vs : List V} {ds : List DV} (t : DenL K B vs ds) (lo hi : Option Int) : DenL K B (cutV vs lo hi) (DL.cut ds lo hi) := by
  unfold cutV DL.cut
  rw [t.len]
  exact (t.drop _).take _
theorem de_slice {lo hi : Option Expr} {tl th : VO} {p2 : Pos} (ha : DE X W a ta) (hl : DO X W lo tl) (hh : DO X W hi th) : DE X W (.Subscript a (.Slice lo hi Option.none p2) pos) (vSl ta tl th) := by
  refine peI (pe_slice (r := rSlU X.K) (sl_list.or (sl_tupX.or sl_str)) ha hl hh) fun σ H Q ⟨Φ, B, ρ, Ψ, Ξ, l, x, t, k⟩ => ?_
  refine runR l x t fun v B1 H1 r1 g1 w1 _ t1 => ?_
  refine ⟨Φ, B1, ρ, _, Ξ, l.grow g1, x.grow g1, t1, fun lo B2 H2 g2 t2 => ?_⟩
  have g12 := g1.trans g2
  refine ⟨Φ, B2, ρ, _, Ξ, l.grow g12, x.grow g12, t2, fun hi B3 H3 g3 t3 => ?_⟩
  have g := g12.trans g3
  have w := (w1.grow g2).grow g3
  have s := g3.s
  have k' : ∀ z B' H' r, Gr B3 H3 B' H' → DenR X.K Φ H3 B' H' z r → Ψ r → Q z H' := fun z B' H' r g' d p => k z B' H' r (g.trans g') (d.back g.h) p
  generalize r1.d = d1 at w t3
  unfold slD at t3
  split at t3
  · obtain ⟨p, vs, rfl, e, t⟩ := w.lst
    exact .inl ⟨p, vs, rfl, SqL.of e, fr_new s (t.cut lo hi) t3 k'⟩
  · obtain ⟨p, vs, rfl, h0, e, t, b⟩ := w.tup s
    refine .inr (.inl ⟨p, vs, rfl, e, fun z => ?_, fun _ => tup_new s (t.cut lo hi) t3 k'⟩)
    rw [t.len] at z
    rw [cut_all z] at t3
    exact k' _ B3 H3 (.sh (.tup _ _)) (Gr.refl s) (.tup h0 b t) t3
  · exact .inr (.inr ⟨_, w.str, t3.1, k' _ B3 H3 (.sh (.str _)) (Gr.refl s) (.str _) t3.2⟩)
  · exact t3.elim
/-! ### truth, and, or, not -/
def truD (d : DV) (Ψ : Bool → Prop) : Prop := match d with
  | .non => Ψ false
  | .bl b => Ψ b
  | .int i => Ψ (i != 0)
  | .str x => x.length ≤ sizeLine ∧ Ψ ((x.length : Int) != 0)
  | .lst ds => Ψ (!ds.isEmpty)
  | .tup _ ds => Ψ (!ds.isEmpty)
  | _ => False
def vTru (ta : VE) : VT := fun ρ Ψ Ξ => ta ρ (fun r => r.val ∧ truD r.d Ψ) Ξ
theorem isE {K : PySem.W.Frag} {B : Hp} {vs : List V} {ds : List DV} (t : DenL K B vs ds) : vs.isEmpty = ds.isEmpty := by cases t <;> rfl
theorem truD_ok {K : PySem.W.Frag} {B H : Hp} {v : V} {d : DV} {Ψ : Bool → Prop} (s : Same B H) (w : Vw K B H v d) (h : truD d Ψ) : ∃ k, TruV K v H k ∧ Ψ k := by
  unfold truD at h
  split at h
  · rw [w.non]; exact ⟨_, rfl, h⟩
  · rw [w.bl]; exact ⟨_, rfl, h⟩
  · rw [w.int]; exact ⟨_, rfl, h⟩
  · rw [w.str]; exact ⟨_, ⟨h.1, rfl⟩, h.2⟩
  · obtain ⟨p, vs, rfl, e, t⟩ := w.lst
    exact ⟨_, .inl ⟨vs, SqL.of e, rfl⟩, by rw [isE t]; exact h⟩
  · obtain ⟨p, vs, rfl, _, e, t, _⟩ := w.tup s
    exact ⟨_, .inr (.inl ⟨vs, e, rfl⟩), by rw [isE t]; exact h⟩
  · exact h.elim
theorem dt_truth (ha : DE X W a ta) (he : ∀ whole, isTrue a X.env whole = (do let v ← whole; standAt a.pos; holding [v] (truthy v)) := by intro _; rfl) : DT X W a (vTru ta) := ptI (pt_truth ha he) fun σ H Q ⟨Φ, B, ρ, Ψ, Ξ, l, x, t, k⟩ => by
  refine runR l x t fun v B1 H1 r1 g1 w1 _ t1 => ?_
  obtain ⟨b, h1, h2⟩ := truD_ok g1.s w1 t1
  exact ⟨b, h1, k b B1 H1 g1 h2⟩
def vAnd (t u : VT) : VT := fun ρ Ψ Ξ => t ρ (fun c => if c = true then u ρ Ψ Ξ else Ψ false) Ξ
def vOr (t u : VT) : VT := fun ρ Ψ Ξ => t ρ (fun c => if c = true then Ψ true else u ρ Ψ Ξ) Ξ
def vNot (t : VT) : VT := fun ρ Ψ Ξ => t ρ (fun c => Ψ (!c)) Ξ
variable {tA tB' : VT} {rest : List Expr}
theorem dt_pw (h : DW X W a tA) : DT X W a tA := h.pt
theorem dw_and1 (ha : DT X W a tA) : DW X W (.BoolOp .And [a] pos) tA := pw_and1 ha
theorem dw_or1 (ha : DT X W a tA) : DW X W (.BoolOp .Or [a] pos) tA := pw_or1 ha
theorem dw_and (ha : DT X W a tA) (hb : DW X W (.BoolOp .And (b :: rest) pos) tB') : DW X W (.BoolOp .And (a :: b :: rest) pos) (vAnd tA tB') := pwI (pw_and ha hb) fun σ H Q ⟨Φ, B, ρ, Ψ, Ξ, l, x, t, k⟩ => by
  refine runT l x t fun c B1 H1 g1 t1 => ?_
  cases c with
  | true => rw [if_pos rfl] at t1 ⊢; exact runT (l.grow g1) (x.grow g1) t1 fun b B2 H2 g2 p => k b B2 H2 (g1.trans g2) p
  | false => rw [if_neg Bool.false_ne_true] at t1 ⊢; exact k false B1 H1 g1 t1
theorem dw_or (ha : DT X W a tA) (hb : DW X W (.BoolOp .Or (b :: rest) pos) tB') : DW X W (.BoolOp .Or (a :: b :: rest) pos) (vOr tA tB') := pwI (pw_or ha hb) fun σ H Q ⟨Φ, B, ρ, Ψ, Ξ, l, x, t, k⟩ => by
  refine runT l x t fun c B1 H1 g1 t1 => ?_
  cases c with
  | false => rw [if_neg Bool.false_ne_true] at t1 ⊢; exact runT (l.grow g1) (x.grow g1) t1 fun b B2 H2 g2 p => k b B2 H2 (g1.trans g2) p
  | true => rw [if_pos rfl] at t1 ⊢; exact k true B1 H1 g1 t1
theorem dt_not (ha : DT X W a tA) : DT X W (.UnaryOp .Not a pos) (vNot tA) := ptI (pt_not ha) fun σ H Q ⟨Φ, B, ρ, Ψ, Ξ, l, x, t, k⟩ => runT l x t fun c B1 H1 g1 t1 => k (!c) B1 H1 g1 t1
/-- as values -/
def vAndV (ta tb : VE) : VE := fun ρ Ψ Ξ => ta ρ (blK fun c => if c = true then tb ρ Ψ Ξ else Ψ (.sh (.bl false))) Ξ
def vOrV (ta tb : VE) : VE := fun ρ Ψ Ξ => ta ρ (blK fun c => if c = true then Ψ (.sh (.bl true)) else tb ρ Ψ Ξ) Ξ
def vNotV (ta : VE) : VE := fun ρ Ψ Ξ => ta ρ (blK fun c => Ψ (.sh (.bl (!c)))) Ξ
theorem de_one {op} (h : DE X W a ta) : DE X W (.BoolOp op [a] pos) ta := pe_one h
theorem de_and (ha : DE X W a ta) (hb : DE X W (.BoolOp .And (b :: rest) pos) tb) : DE X W (.BoolOp .And (a :: b :: rest) pos) (vAndV ta tb) := peI (pe_and ha hb) fun σ H Q ⟨Φ, B, ρ, Ψ, Ξ, l, x, t, k⟩ => by
  refine runE l x t fun v B1 H1 r1 g1 d1 t1 => ?_
  obtain ⟨c, rfl, t2⟩ := blK_sh t1
  clear t1
  have t1 := t2
  clear t2
  cases (show Den X.K B1 v (.bl c) from d1)
  refine ⟨c, rfl, ?_⟩
  cases c with
  | true => rw [if_pos rfl] at t1 ⊢; exact runE (l.grow g1) (x.grow g1) t1 fun v B2 H2 r g2 d p => k v B2 H2 r (g1.trans g2) (d.back g1.h) p
  | false => rw [if_neg Bool.false_ne_true] at t1 ⊢; exact k _ B1 H1 (.sh (.bl false)) g1 (.bl _) t1
theorem de_or (ha : DE X W a ta) (hb : DE X W (.BoolOp .Or (b :: rest) pos) tb) : DE X W (.BoolOp .Or (a :: b :: rest) pos) (vOrV ta tb) := peI (pe_or ha hb) fun σ H Q ⟨Φ, B, ρ, Ψ, Ξ, l, x, t, k⟩ => by
  refine runE l x t fun v B1 H1 r1 g1 d1 t1 => ?_
  obtain ⟨c, rfl, t2⟩ := blK_sh t1
  clear t1
  have t1 := t2
  clear t2
  cases (show Den X.K B1 v (.bl c) from d1)
  refine ⟨c, rfl, ?_⟩
  cases c with
  | false => rw [if_neg Bool.false_ne_true] at t1 ⊢; exact runE (l.grow g1) (x.grow g1) t1 fun v B2 H2 r g2 d p => k v B2 H2 r (g1.trans g2) (d.back g1.h) p
  | true => rw [if_pos rfl] at t1 ⊢; exact k _ B1 H1 (.sh (.bl true)) g1 (.bl _) t1
theorem de_not (ha : DE X W a ta) : DE X W (.UnaryOp .Not a pos) (vNotV ta) := peI (pe_not ha) fun σ H Q ⟨Φ, B, ρ, Ψ, Ξ, l, x, t, k⟩ => by
  refine runE l x t fun v B1 H1 r1 g1 d1 t1 => ?_
  obtain ⟨c, rfl, t2⟩ := blK_sh t1
  clear t1
  have t1 := t2
  clear t2
  cases (show Den X.K B1 v (.bl c) from d1)
  exact ⟨c, rfl, k _ B1 H1 (.sh (.bl (!c))) g1 (.bl _) t1⟩
def vIfE (t : VT) (ta tb : VE) : VE := fun ρ Ψ Ξ => t ρ (fun c => if c = true then ta ρ Ψ Ξ else tb ρ Ψ Ξ) Ξ
theorem de_ifE (hc : DT X W c tA) (ha : DE X W a ta) (hb : DE X W b tb) : DE X W (.IfExp c a b pos) (vIfE tA ta tb) := peI (pe_ifExp hc ha hb) fun σ H Q ⟨Φ, B, ρ, Ψ, Ξ, l, x, t, k⟩ => by
  refine runT l x t fun c B1 H1 g1 t1 => ?_
  cases c with
  | true => rw [if_pos rfl] at t1 ⊢; exact runE (l.grow g1) (x.grow g1) t1 fun v B2 H2 r g2 d p => k v B2 H2 r (g1.trans g2) (d.back g1.h) p
  | false => rw [if_neg Bool.false_ne_true] at t1 ⊢; exact runE (l.grow g1) (x.grow g1) t1 fun v B2 H2 r g2 d p => k v B2 H2 r (g1.trans g2) (d.back g1.h) p
/-! ### a < b < c -/
def vChn (o o' : O2) (ta tb tc : VE) : VE := fun ρ Ψ Ξ => ta ρ (fun r1 => r1.val ∧ tb ρ (fun r2 => r2.val ∧ o r1.d r2.d (blK fun k => if k = true then tc ρ (fun r3 => r3.val ∧ o' r2.d r3.d Ψ) Ξ else Ψ (.sh (.bl false)))) Ξ) Ξ
theorem abs_chn {K : PySem.W.Frag} {r r' : R2} {o o' : O2} (h : OpA K r o) (h' : OpA K r' o') {ta tb tc : VE} {σ : St} {H : Hp} {Q : VK} (q : tD K W (vChn o o' ta tb tc) σ H Q) : tChain r r' (tD K W ta) (tD K W tb) (tD K W tc) σ H Q := by
  obtain ⟨Φ, B, ρ, Ψ, Ξ, l, x, t, k⟩ := q
  refine runR l x t fun v B1 H1 r1 g1 w1 _ t1 => ?_
  refine runR (l.grow g1) (x.grow g1) t1 fun u B2 H2 r2 g2 w2 _ t2 => ?_
  refine h Φ B2 H2 v u r1.d r2.d _ _ g2.s (w1.grow g2) w2 t2 fun z B3 H3 r3 g3 d3 t3 => ?_
  obtain ⟨c, rfl, t4⟩ := blK_sh t3
  clear t3
  have t3 := t4
  clear t4
  cases (show Den K B3 z (.bl c) from d3)
  have g := (g1.trans g2).trans g3
  refine ⟨c, rfl, ?_⟩
  cases c with
  | true =>
    rw [if_pos rfl] at t3 ⊢
    refine runR (l.grow g) (x.grow g) t3 fun y B4 H4 r4 g4 w4 _ t4 => ?_
    exact h' Φ B4 H4 u y r2.d r4.d Ψ Q g4.s ((w2.grow g3).grow g4) w4 t4 fun z B' H' r' g' d' p => k z B' H' r' ((g.trans g4).trans g') (d'.back (g.h.trans g4.h)) p
  | false =>
    rw [if_neg Bool.false_ne_true] at t3 ⊢
    exact k _ B3 H3 (.sh (.bl false)) g (.bl _) t3
theorem de_chn {op op' : CmpOp} {r r' : R2} {o o' : O2} (ho : OpR X (compareOp op) r) (hA : OpA X.K r o) (ho' : OpR X (compareOp op') r') (hA' : OpA X.K r' o') (ha : DE X W a ta) (hb : DE X W b tb) (hc : DE X W c tc)
    (hm : lastMarks [op, op'] [b, c] = false := by with_unfolding_all rfl) : DE X W (.Compare a [op, op'] [b, c] pos) (vChn o o' ta tb tc) := peI (pe_chain ho ho' ha hb hc hm) fun _ _ _ => abs_chn hA hA'
theorem dt_chn {op op' : CmpOp} {r r' : R2} {o o' : O2} (ho : OpR X (compareOp op) r) (hA : OpA X.K r o) (ho' : OpR X (compareOp op') r') (hA' : OpA X.K r' o') (ha : DE X W a ta) (hb : DE X W b tb) (hc : DE X W c tc)
    (hm : lastMarks [op, op'] [b, c] = false := by with_unfolding_all rfl) : DT X W (.Compare a [op, op'] [b, c] pos) (vTst (vChn o o' ta tb tc)) := by
  refine ptI (pt_chain ho ho' ha hb hc hm) fun σ H Q ⟨Φ, B, ρ, Ψ, Ξ, l, x, t, k⟩ => ?_
  refine abs_chn (W := W) hA hA' ?_
  refine ⟨Φ, B, ρ, _, Ξ, l, x, t, fun v B' H' r g d p => ?_⟩
  obtain ⟨b, rfl, p⟩ := blK_sh p
  cases (show Den X.K B' v (.bl b) from d)
  exact ⟨b, rfl, k b B' H' g p⟩
/-! ### arguments, displays -/
def vaNil : VA := fun _ Ψ _ => Ψ []
def vaCons (ta : VE) (tr : VA) : VA := fun ρ Ψ Ξ => ta ρ (fun r => tr ρ (fun rs => Ψ (r :: rs)) Ξ) Ξ
theorem da_nil : DA X W [] vaNil := paI pa_nil fun σ H Q ⟨Φ, B, ρ, Ψ, Ξ, l, x, t, k⟩ => k [] B H [] (Gr.refl l.s) True.intro t
/-- the shape that an argument's result has once it is settled -/
theorem settleA {K : PySem.W.Frag} {Φ : Fm} {B H B' H' : Hp} {v : V} {r : R} (g : Gr B H B' H') (h : DenR K Φ H B' H' v r) : ∃ B2, Gr B H B2 H' ∧ (r.good → Den K B2 v r.d) ∧ (¬ r.good → DenR K Φ H' B2 H' v r) := by
  by_cases hg : r.good
  · obtain ⟨B2, g2, _, d⟩ := h.settle g hg
    exact ⟨B2, g2, fun _ => d, fun z => absurd hg z⟩
  · exact ⟨B', g, fun z => absurd z hg, fun _ => h.anew hg⟩
theorem da_cons {e : Expr} {es : List Expr} {te : VE} {tr : VA} (ha : DE X W e te) (hr : DA X W es tr) (hs : starEach (e :: es) X.env = (false, eval e X.env) :: starEach es X.env := by rfl) : DA X W (e :: es) (vaCons te tr) := paI (pa_cons ha hr hs) fun σ H Q ⟨Φ, B, ρ, Ψ, Ξ, l, x, t, k⟩ => by
  refine runE l x t fun v B1 H1 r1 g1 d1 t1 => ?_
  obtain ⟨B2, g2, h1, h2⟩ := settleA g1 d1
  refine runA (l.grow g2) (x.grow g2) t1 fun vs B3 H3 rs g3 ds t3 => ?_
  exact k (v :: vs) B3 H3 (r1 :: rs) (g2.trans g3) ⟨⟨fun z => (h1 z).mono g3.b, fun z => ((h2 z).grow g3).anew z⟩, ds⟩ t3
def goods : List R → Prop
  | [] => True
  | r :: rs => r.good ∧ goods rs
theorem DenRs.all {K : PySem.W.Frag} {Φ : Fm} {B H : Hp} : ∀ {vs : List V} {rs : List R}, DenRs K Φ B H vs rs → goods rs → DenL K B vs (rs.map R.d)
  | [], [], _, _ => .nil
  | _ :: _, _ :: _, ⟨h, t⟩, ⟨g, gs⟩ => .cons (h.1 g) (DenRs.all t gs)
  | [], _ :: _, h, _ => h.elim
  | _ :: _, [], h, _ => h.elim
def vTup (ta : VA) : VE := fun ρ Ψ Ξ => ta ρ (fun rs => goods rs ∧ rs.length ≤ 100000 ∧ Ψ (.sh (.tup true (rs.map R.d)))) Ξ
def vLst (ta : VA) : VE := fun ρ Ψ Ξ => ta ρ (fun rs => goods rs ∧ rs.length ≤ 100000 ∧ Ψ (.fr (rs.map R.d))) Ξ
theorem sz5 {n : Nat} (h : n ≤ 100000) : n ≤ sizeLine := Nat.le_trans h (by decide)
theorem de_tup {es : List Expr} {t : VA} {x1} (h : DA X W es t) : DE X W (.Tuple es x1 pos) (vTup t) := peI (pe_tupX h) fun σ H Q ⟨Φ, B, ρ, Ψ, Ξ, l, x, t, k⟩ => by
  refine runA l x t fun vs B1 H1 rs g1 d1 ⟨hg, hl, t1⟩ => ?_
  have t := d1.all hg
  exact ⟨by rw [t.len, List.length_map]; exact sz5 hl, tup_new g1.s t t1 fun z B' H' r g d p => k z B' H' r (g1.trans g) (d.back g1.h) p⟩
theorem de_lst {es : List Expr} {t : VA} (h : DA X W es t) : DE X W (.List es pos) (vLst t) := peI (pe_lst h) fun σ H Q ⟨Φ, B, ρ, Ψ, Ξ, l, x, t, k⟩ => by
  refine runA l x t fun vs B1 H1 rs g1 d1 ⟨hg, hl, t1⟩ => ?_
  have t := d1.all hg
  exact ⟨by rw [t.len, List.length_map]; exact sz5 hl, fr_new g1.s t t1 fun z B' H' r g d p => k z B' H' r (g1.trans g) (d.back g1.h) p⟩
end
end DL
/-! DL, fourth part: statements, loops, comprehensions. -/
namespace DL
open PySem L2

/-! ### the state changes -/
section
variable {K : PySem.W.Frag} {Φ : Fm} {B H : Hp} {σ : St} {ρ : Env'}
theorem getSet {α : Type} {l : List α} {i j : Nat} {a b : α} (h : (l.set i a)[j]? = some b) : (i = j ∧ a = b ∧ i < l.length) ∨ (i ≠ j ∧ l[j]? = some b) := by
  by_cases e : i = j
  · subst e
    by_cases hl : i < l.length
    · rw [List.getElem?_set_self hl] at h
      exact .inl ⟨rfl, Option.some.inj h, hl⟩
    · rw [List.getElem?_eq_none (by simpa using hl)] at h; cases h
  · rw [List.getElem?_set_ne e] at h
    exact .inr ⟨e, h⟩
theorem setGet {α : Type} {l : List α} {i : Nat} {a : α} (h : i < l.length) : (l.set i a)[i]? = some a := List.getElem?_set_self h
/-- what may come to a slot -/
def EntOk (K : PySem.W.Frag) (Φ : Fm) (B : Hp) (σ : St) (H : Hp) (ρ : Env') (o : Option V) : Ent → Prop
  | .un => True
  | .sh d => ∃ v, o = some v ∧ Den K B v d
  | .ow ds => ∃ p vs, o = some (.ref p) ∧ H p = some (.lst vs) ∧ DenL K B vs ds ∧ Φ.H0 p = Option.none ∧ B p = Option.none ∧ ∀ (j : Nat) es, ρ[j]? = some (.ow es) → σ[j]? ≠ some (some (.ref p))
  | .oo C fs => False
  | .ex x => ∃ a cls d, Φ.cur = some (a, cls, d) ∧ o = some (.ref a) ∧ DenX K B H cls d x
theorem Rl.set (l : Rl K Φ B σ H ρ) (i : Nat) {o : Option V} {e : Ent} (h : EntOk K Φ B σ H ρ o e) : Rl K Φ B (σ.set i o) H (ρ.set i e) := by
  have hl : ∀ {j : Nat}, i ≠ j → (σ.set i o)[j]? = σ[j]? := fun e => List.getElem?_set_ne e
  have hi : i < ρ.length → (σ.set i o)[i]? = some o := fun z => List.getElem?_set_self (by rw [l.len]; exact z)
  refine ⟨l.gr, by rw [List.length_set, List.length_set]; exact l.len, fun j d q => ?_, fun j ds q => ?_, fun j C fs q => ?_, fun j x q => ?_, fun j k C fs C' fs' q1 q2 => ?_, fun j k p ds es ne q1 q2 s1 s2 => ?_⟩
  · rcases getSet q with ⟨rfl, rfl, z⟩ | ⟨ne, q⟩
    · obtain ⟨v, rfl, hd⟩ := h
      exact ⟨v, hi z, hd⟩
    · rw [hl ne]; exact l.sh j d q
  · rcases getSet q with ⟨rfl, rfl, z⟩ | ⟨ne, q⟩
    · obtain ⟨p, vs, rfl, h1, h2, h3, h4, _⟩ := h
      exact ⟨p, vs, hi z, h1, h2, h3, h4⟩
    · rw [hl ne]; exact l.ow j ds q
  · rcases getSet q with ⟨rfl, rfl, z⟩ | ⟨ne, q⟩
    · exact False.elim h
    · rw [hl ne]; exact l.oo j C fs q
  · rcases getSet q with ⟨rfl, rfl, z⟩ | ⟨ne, q⟩
    · obtain ⟨a, cls, d, c, rfl, r⟩ := h
      exact ⟨a, cls, d, c, hi z, r⟩
    · rw [hl ne]; exact l.ex j x q
  · rcases getSet q1 with ⟨rfl, rfl, z⟩ | ⟨n1, q1⟩
    · exact False.elim h
    · rcases getSet q2 with ⟨rfl, rfl, z⟩ | ⟨n2, q2⟩
      · exact False.elim h
      · exact l.o1 j k C fs C' fs' q1 q2
  · rcases getSet q1 with ⟨rfl, rfl, z⟩ | ⟨n1, q1⟩
    · rcases getSet q2 with ⟨rfl, _, _⟩ | ⟨n2, q2⟩
      · exact ne rfl
      · rw [hi z] at s1
        rw [hl n2] at s2
        obtain ⟨p', vs, e1, _, _, _, _, hne⟩ := h
        cases s1; cases e1
        exact hne k es q2 s2
    · rcases getSet q2 with ⟨rfl, rfl, z⟩ | ⟨n2, q2⟩
      · rw [hi z] at s2
        rw [hl n1] at s1
        obtain ⟨p', vs, e1, _, _, _, _, hne⟩ := h
        cases s2; cases e1
        exact hne j ds (by assumption) s1
      · rw [hl n1] at s1
        rw [hl n2] at s2
        exact l.ne j k p ds es ne q1 q2 s1 s2
theorem Rl.setD (l : Rl K Φ B σ H ρ) (i : Nat) {v : V} {d : DV} (h : Den K B v d) : Rl K Φ B (σ.set i (some v)) H (ρ.set i (.sh d)) := l.set i ⟨v, rfl, h⟩
theorem Rl.setN (l : Rl K Φ B σ H ρ) (i : Nat) {o : Option V} : Rl K Φ B (σ.set i o) H (ρ.set i .un) := l.set i (e := .un) True.intro
/-- a new list comes to a slot -/
def R.ent : R → Ent
  | .sh d => .sh d
  | .fr ds => .ow ds
  | _ => .un
theorem Rl.setR {B' H' : Hp} (l : Rl K Φ B σ H ρ) (g : Gr B H B' H') (i : Nat) {v : V} {r : R} (h : DenR K Φ H B' H' v r) (hg : r.good) : Rl K Φ B' (σ.set i (some v)) H' (ρ.set i r.ent) := by
  cases r with
  | sh d => exact (l.grow g).setD i h
  | fr ds =>
    obtain ⟨p, vs, rfl, h0, h1, h2, h3⟩ := h
    refine (l.grow g).set i (e := .ow ds) ⟨p, vs, rfl, h1, h3, (l.gr.h).free h0, h2, fun j es q s => ?_⟩
    obtain ⟨p', vs', e1, e2, _⟩ := l.ow j es q
    rw [s] at e1; cases e1
    rw [h0] at e2; cases e2
  | _ => exact False.elim hg
/-- the frame's own list at slot i is written -/
theorem Rl.wr (l : Rl K Φ B σ H ρ) {i : Nat} {ds ds' : List DV} {p : Addr} {vs' : List V} (q : ρ[i]? = some (.ow ds)) (s : σ[i]? = some (some (.ref p))) (t : DenL K B vs' ds') :
    Rl K Φ B σ (upd H p (.lst vs')) (ρ.set i (.ow ds')) := by
  obtain ⟨p0, vs, s', hp, _, h0, hb⟩ := l.ow i ds q
  rw [s] at s'; cases s'
  have eB : Same B (upd H p (.lst vs')) := fun b o e => by rw [upd_ne (ne_of_none e hb)]; exact l.s _ _ e
  have eH0 : Same Φ.H0 (upd H p (.lst vs')) := fun b o e => by rw [upd_ne (ne_of_none e h0)]; exact l.gr.h _ _ e
  refine ⟨⟨l.gr.b, eB, eH0, l.gr.n⟩, by rw [List.length_set]; exact l.len, fun j d e => ?_, fun j es e => ?_, fun j C fs e => ?_, fun j x e => ?_, fun j k C fs C' fs' q1 q2 => ?_, fun j k p' d1 d2 ne e1 e2 s1 s2 => ?_⟩
  · rcases getSet e with ⟨_, z, _⟩ | ⟨_, e⟩
    · cases z
    · exact l.sh j d e
  · rcases getSet e with ⟨rfl, z, _⟩ | ⟨ne, e⟩
    · cases z
      exact ⟨p, vs', s, upd_same, t, h0, hb⟩
    · obtain ⟨p2, vs2, r1, r2, r3, r4, r5⟩ := l.ow j es e
      have : p2 ≠ p := fun z => by subst z; exact l.ne i j p2 ds es ne q e s r1
      exact ⟨p2, vs2, r1, by rw [upd_ne this]; exact r2, r3, r4, r5⟩
  · rcases getSet e with ⟨_, z, _⟩ | ⟨_, e⟩
    · cases z
    · obtain ⟨p2, dx, fvs, r1, r2, r3⟩ := l.oo j C fs e
      exact ⟨p2, dx, fvs, r1, by rw [upd_ne (ne_of r2 hp (by intro z; cases z))]; exact r2, r3⟩
  · rcases getSet e with ⟨_, z, _⟩ | ⟨_, e⟩
    · cases z
    · obtain ⟨a, cls, d, r1, r2, r3, r4⟩ := l.ex j x e
      refine ⟨a, cls, d, r1, r2, r3, ?_⟩
      rcases r4 with r4 | ⟨dd, fvs, z1, z2, z3⟩
      · exact .inl r4
      · exact .inr ⟨dd, fvs, z1, by rw [upd_ne (ne_of z2 hp (by intro z; cases z))]; exact z2, z3⟩
  · rcases getSet q1 with ⟨_, z, _⟩ | ⟨_, q1⟩
    · cases z
    · rcases getSet q2 with ⟨_, z, _⟩ | ⟨_, q2⟩
      · cases z
      · exact l.o1 j k C fs C' fs' q1 q2
  · have f : ∀ {j : Nat} {d : List DV}, (ρ.set i (.ow ds'))[j]? = some (.ow d) → ∃ d', ρ[j]? = some (.ow d') := fun {j d} e => by
      rcases getSet e with ⟨rfl, _, _⟩ | ⟨_, e⟩
      · exact ⟨_, q⟩
      · exact ⟨_, e⟩
    obtain ⟨d1', e1⟩ := f e1
    obtain ⟨d2', e2⟩ := f e2
    exact l.ne j k p' d1' d2' ne e1 e2 s1 s2
/-- a field of the frame's own object is written -/
theorem Rl.wrF (l : Rl K Φ B σ H ρ) {i : Nat} {C dx : Addr} {fs fs' : List (Str × DV)} {p : Addr} {fvs fvs' : List (Str × V)} (q : ρ[i]? = some (.oo C fs)) (s : σ[i]? = some (some (.ref p))) (hp : H p = some (.ins C dx fvs)) (t : DenF K B fvs' fs') :
    Rl K Φ B σ (upd H p (.ins C dx fvs')) (ρ.set i (.oo C fs')) := by
  obtain ⟨p0, dx0, fvs0, s', hp0, _, h0, hb, hme⟩ := l.oo i C fs q
  rw [s] at s'; cases s'
  have eB : Same B (upd H p (.ins C dx fvs')) := fun b o e => by rw [upd_ne (ne_of_none e hb)]; exact l.s _ _ e
  have eH0 : Same Φ.H0 (upd H p (.ins C dx fvs')) := fun b o e => by rw [upd_ne (ne_of_none e h0)]; exact l.gr.h _ _ e
  refine ⟨⟨l.gr.b, eB, eH0, l.gr.n⟩, by rw [List.length_set]; exact l.len, fun j d e => ?_, fun j es e => ?_, fun j C' gs e => ?_, fun j x e => ?_, fun j k C1 f1 C2 f2 q1 q2 => ?_, fun j k p' d1 d2 ne e1 e2 s1 s2 => ?_⟩
  · rcases getSet e with ⟨_, z, _⟩ | ⟨_, e⟩
    · cases z
    · exact l.sh j d e
  · rcases getSet e with ⟨_, z, _⟩ | ⟨_, e⟩
    · cases z
    · obtain ⟨p2, vs2, r1, r2, r3⟩ := l.ow j es e
      exact ⟨p2, vs2, r1, by rw [upd_ne (ne_of r2 hp (by intro z; cases z))]; exact r2, r3⟩
  · rcases getSet e with ⟨rfl, z, _⟩ | ⟨ne, e⟩
    · cases z
      exact ⟨p, dx, fvs', s, upd_same, t, h0, hb, hme⟩
    · exact absurd (l.o1 _ _ _ _ _ _ q e) ne
  · rcases getSet e with ⟨_, z, _⟩ | ⟨_, e⟩
    · cases z
    · obtain ⟨a, cls, d, r1, r2, r3, r4⟩ := l.ex j x e
      refine ⟨a, cls, d, r1, r2, r3, ?_⟩
      rcases r4 with r4 | ⟨dd, gvs, z1, z2, z3⟩
      · exact .inl r4
      · exact .inr ⟨dd, gvs, z1, by rw [upd_ne (ne_of z2 hp (by intro z; cases z))]; exact z2, z3⟩
  · have f : ∀ {j : Nat} {C1 : Addr} {f1 : List (Str × DV)}, (ρ.set i (.oo C fs'))[j]? = some (.oo C1 f1) → ∃ C2 f2, ρ[j]? = some (.oo C2 f2) := fun {j C1 f1} e => by
      rcases getSet e with ⟨rfl, _, _⟩ | ⟨_, e⟩
      · exact ⟨_, _, q⟩
      · exact ⟨_, _, e⟩
    obtain ⟨_, _, q1⟩ := f q1
    obtain ⟨_, _, q2⟩ := f q2
    exact l.o1 _ _ _ _ _ _ q1 q2
  · have f : ∀ {j : Nat} {d : List DV}, (ρ.set i (.oo C fs'))[j]? = some (.ow d) → ρ[j]? = some (.ow d) := fun {j d} e => by
      rcases getSet e with ⟨_, z, _⟩ | ⟨_, e⟩
      · cases z
      · exact e
    exact l.ne j k p' d1 d2 ne (f e1) (f e2) s1 s2
/-- the frame's own list at slot i is shared from here on -/
def fz (i : Nat) (ρ : Env') : Env' := match ρ[i]? with
  | some (.ow ds) => ρ.set i (.sh (.lst ds))
  | _ => ρ
theorem Rl.fz (l : Rl K Φ B σ H ρ) (i : Nat) : ∃ B', Rl K Φ B' σ H (fz i ρ) := by
  unfold DL.fz
  split
  · rename_i ds q
    obtain ⟨p, vs, s, hp, t, h0, hb⟩ := l.ow i ds q
    have eb : Same B (upd B p (.lst vs)) := fun b o e => by rw [upd_ne (ne_of_none e hb)]; exact e
    refine ⟨upd B p (.lst vs), ⟨⟨l.gr.b.trans eb, fun b o e => ?_, l.gr.h, fun a ha => ?_⟩, by rw [List.length_set]; exact l.len, fun j d e => ?_, fun j es e => ?_, fun j C fs e => ?_, fun j x e => ?_, fun j k C1 f1 C2 f2 q1 q2 => ?_, fun j k p' d1 d2 ne e1 e2 s1 s2 => ?_⟩⟩
    · by_cases hbp : b = p
      · subst hbp; rw [upd_same] at e; cases e; exact hp
      · rw [upd_ne hbp] at e; exact l.s _ _ e
    · have : a ≠ p := fun z => ha (by rw [z]; exact h0)
      rw [upd_ne this]; exact l.gr.n a ha
    · rcases getSet e with ⟨rfl, z, _⟩ | ⟨ne, e⟩
      · cases z
        exact ⟨.ref p, s, .lst upd_same (t.mono eb)⟩
      · obtain ⟨v, r1, r2⟩ := l.sh j d e
        exact ⟨v, r1, r2.mono eb⟩
    · rcases getSet e with ⟨_, z, _⟩ | ⟨ne, e⟩
      · cases z
      · obtain ⟨p2, vs2, r1, r2, r3, r4, r5⟩ := l.ow j es e
        have : p2 ≠ p := fun z => by subst z; exact l.ne i j p2 ds es ne q e s r1
        exact ⟨p2, vs2, r1, r2, r3.mono eb, r4, by rw [upd_ne this]; exact r5⟩
    · rcases getSet e with ⟨_, z, _⟩ | ⟨_, e⟩
      · cases z
      · obtain ⟨p2, dx, fvs, r1, r2, r3, r4, r5, r6⟩ := l.oo j C fs e
        exact ⟨p2, dx, fvs, r1, r2, r3.mono eb, r4, by rw [upd_ne (ne_of r2 hp (by intro z; cases z))]; exact r5, r6⟩
    · rcases getSet e with ⟨_, z, _⟩ | ⟨_, e⟩
      · cases z
      · obtain ⟨a, cls, d, r1, r2, r3⟩ := l.ex j x e
        exact ⟨a, cls, d, r1, r2, r3.mono eb (Same.refl _)⟩
    · rcases getSet q1 with ⟨_, z, _⟩ | ⟨_, q1⟩
      · cases z
      · rcases getSet q2 with ⟨_, z, _⟩ | ⟨_, q2⟩
        · cases z
        · exact l.o1 _ _ _ _ _ _ q1 q2
    · have f : ∀ {j : Nat} {d : List DV}, (ρ.set i (.sh (.lst ds)))[j]? = some (.ow d) → ρ[j]? = some (.ow d) := fun {j d} e => by
        rcases getSet e with ⟨_, z, _⟩ | ⟨_, e⟩
        · cases z
        · exact e
      exact l.ne j k p' d1 d2 ne (f e1) (f e2) s1 s2
  · exact ⟨B, l⟩
/-- a later start: the shared part as it is now is what is kept -/
theorem Rl.later {Bs Hs : Hp} (l : Rl K { Φ with B0 := Bs } B σ H ρ) (g : Gr Φ.B0 Φ.H0 Bs Hs) : Rl K Φ B σ H ρ :=
  ⟨⟨g.b.trans l.gr.b, l.gr.s, l.gr.h, fun a ha => (l.gr.n a ha).trans (g.n a ha)⟩, l.len, l.sh, l.ow, l.oo, l.ex, l.o1, l.ne⟩
theorem Rl.here (l : Rl K Φ B σ H ρ) : Rl K { Φ with B0 := B } B σ H ρ := ⟨⟨Same.refl _, l.gr.s, l.gr.h, fun _ _ => rfl⟩, l.len, l.sh, l.ow, l.oo, l.ex, l.o1, l.ne⟩
end

/-! ### small statements -/
def vSeq (t u : VS) : VS := fun D ρ => t { D with nx := fun ρ' => u D ρ' } ρ
def vNext : VS := fun D ρ => D.nx ρ
def vBrk : VS := fun D ρ => D.bk ρ
def vCnt : VS := fun D ρ => D.ct ρ
/-- x = e, a new list is the frame's own | is shared at once -/
def vAsg (i : Nat) (te : VE) : VS := fun D ρ => te ρ (fun r => r.good ∧ D.nx (ρ.set i r.ent)) (D.ex ρ)
def vAsgS (i : Nat) (te : VE) : VS := fun D ρ => te ρ (fun r => r.good ∧ D.nx (ρ.set i (.sh r.d))) (D.ex ρ)
def vDrop (te : VE) : VS := fun D ρ => te ρ (fun _ => D.nx ρ) (D.ex ρ)
def vFz (i : Nat) (t : VS) : VS := fun D ρ => t D (fz i ρ)
def retK (P : R → Prop) : R → Prop := fun r => match r with
  | .sh d => P (.sh d)
  | .fr ds => P (.sh (.lst ds))
  | .vw ds => P (.sh (.lst ds))
  | _ => False
def retF (P : R → Prop) : R → Prop := fun r => match r with
  | .sh d => P (.sh d)
  | .fr ds => P (.fr ds)
  | .vw ds => P (.fr ds)
  | _ => False
def vRet (te : VE) : VS := fun D ρ => te ρ (retK D.rt) (D.ex ρ)
def vRetF (te : VE) : VS := fun D ρ => te ρ (retF D.rt) (D.ex ρ)
def vRetN : VS := fun D _ => D.rt (.sh .non)
def vIf (c : VT) (t u : VS) : VS := fun D ρ => c ρ (fun b => if b = true then t D ρ else u D ρ) (D.ex ρ)
section
variable {X : Cx} {W : WC} {st : Stmt} {rest : List Stmt} {t u : VS} {e : Expr} {te : VE} {pos : Pos}
theorem dss_nil : DSs X W [] vNext := pssI pss_nil fun D σ H ⟨Φ, B, ρ, D', l, ok, h⟩ => ok.nx B σ H ρ l h
theorem abs_seq {K : PySem.W.Frag} {D : Ends} {σ : St} {H : Hp} (h : tDS K W (vSeq t u) D σ H) : tSeq (tDS K W t) (tDS K W u) D σ H := by
  obtain ⟨Φ, B, ρ, D', l, ok, h⟩ := h
  exact ⟨Φ, B, ρ, { D' with nx := fun ρ' => u D' ρ' }, l, ⟨ok.cu, fun B σ H ρ l q => ⟨Φ, B, ρ, D', l, ok, q⟩, ok.bk, ok.ct, ok.rt, ok.ex⟩, h⟩
theorem dss_cons (h1 : DS X W st t) (h2 : DSs X W rest u) : DSs X W (st :: rest) (vSeq t u) := pssI (pss_cons h1 h2) fun _ _ _ => abs_seq
theorem dss_one (h1 : DS X W st t) : DSs X W [st] t := pss_one h1
theorem dss_fz {sts : List Stmt} (i : Nat) (h : DSs X W sts t) : DSs X W sts (vFz i t) := pssI h fun D σ H ⟨Φ, B, ρ, D', l, ok, h⟩ => by
  obtain ⟨B', l'⟩ := l.fz i
  exact ⟨Φ, B', fz i ρ, D', l', ok, h⟩
theorem ds_fz (i : Nat) (h : DS X W st t) : DS X W st (vFz i t) := psI h fun D σ H ⟨Φ, B, ρ, D', l, ok, h⟩ => by
  obtain ⟨B', l'⟩ := l.fz i
  exact ⟨Φ, B', fz i ρ, D', l', ok, h⟩
theorem ds_pass : DS X W (.Pass pos) vNext := psI ps_pass fun D σ H ⟨Φ, B, ρ, D', l, ok, h⟩ => ok.nx B σ H ρ l h
theorem ds_brk : DS X W (.Break pos) vBrk := psI ps_break fun D σ H ⟨Φ, B, ρ, D', l, ok, h⟩ => ok.bk B σ H ρ l h
theorem ds_cnt : DS X W (.Continue pos) vCnt := psI ps_continue fun D σ H ⟨Φ, B, ρ, D', l, ok, h⟩ => ok.ct B σ H ρ l h
theorem ds_expr (he : DE X W e te) (hs : swapsWith e Option.none pos.line X.env = pure false := by rfl) : DS X W (.Expr e pos) (vDrop te) := psI (ps_expr he hs) fun D σ H ⟨Φ, B, ρ, D', l, ok, h⟩ =>
  runE l (ok.xok l) h fun v B' H' r g d p => ok.nx B' σ H' ρ (l.grow g) p
theorem abs_asg {K : PySem.W.Frag} {i : Nat} {D : Ends} {σ : St} {H : Hp} (h : tDS K W (vAsg i te) D σ H) : tAsg (tD K W te) (gName i) D σ H := by
  obtain ⟨Φ, B, ρ, D', l, ok, h⟩ := h
  exact runE l (ok.xok l) h fun v B' H' r g d p => ok.nx B' _ H' _ (l.setR g i d p.1) p.2
theorem abs_asgS {K : PySem.W.Frag} {i : Nat} {D : Ends} {σ : St} {H : Hp} (h : tDS K W (vAsgS i te) D σ H) : tAsg (tD K W te) (gName i) D σ H := by
  obtain ⟨Φ, B, ρ, D', l, ok, h⟩ := h
  refine runE l (ok.xok l) h fun v B' H' r g d p => ?_
  obtain ⟨B2, g2, _, d2⟩ := d.settle g p.1
  exact ok.nx B2 _ H' _ ((l.grow g2).setD i d2) p.2
theorem ds_set {i : Nat} {x : Str} {pos' : Pos} (hN : X.N.Nodup) (hi : X.N[i]? = some x) (hx : Loc X.env.scope x) (he : DE X W e te) (hs : swapsWith e (some (.Name x pos')) pos.line X.env = pure false := by rfl) (hf : X.fn x = true ∨ X.env.scope.names.lookup x = some .local := by first | exact .inl rfl | exact .inr rfl | assumption) :
    DS X W (.Assign [.Name x pos'] e pos) (vAsg i te) := psI (ps_set hN hi hx he hs hf) fun _ _ _ => abs_asg
theorem ds_setS {i : Nat} {x : Str} {pos' : Pos} (hN : X.N.Nodup) (hi : X.N[i]? = some x) (hx : Loc X.env.scope x) (he : DE X W e te) (hs : swapsWith e (some (.Name x pos')) pos.line X.env = pure false := by rfl) (hf : X.fn x = true ∨ X.env.scope.names.lookup x = some .local := by first | exact .inl rfl | exact .inr rfl | assumption) :
    DS X W (.Assign [.Name x pos'] e pos) (vAsgS i te) := psI (ps_set hN hi hx he hs hf) fun _ _ _ => abs_asgS
theorem ds_if {c : Expr} {a b : List Stmt} {tc : VT} (hc : DT X W c tc) (ha : DSs X W a t) (hb : DSs X W b u) : DS X W (.If c a b pos) (vIf tc t u) := psI (ps_if hc ha hb) fun D σ H ⟨Φ, B, ρ, D', l, ok, h⟩ => by
  refine runT l (ok.xok l) h fun b B' H' g p => ?_
  cases b with
  | true => rw [if_pos rfl] at p ⊢; exact ⟨Φ, B', ρ, D', l.grow g, ok, p⟩
  | false => rw [if_neg Bool.false_ne_true] at p ⊢; exact ⟨Φ, B', ρ, D', l.grow g, ok, p⟩
theorem home {K : PySem.W.Frag} {Φ : Fm} {B H B' H' : Hp} {σ : St} {ρ : Env'} {v : V} {ds : List DV} (l : Rl K Φ B σ H ρ) (g : Gr B H B' H') (h : DenR K Φ H B' H' v (.fr ds) ∨ DenR K Φ H B' H' v (.vw ds)) : DenR K Φ Φ.H0 B' H' v (.fr ds) := by
  rcases h with h | h
  · obtain ⟨p, vs, e, h0, r⟩ := h
    exact ⟨p, vs, e, l.gr.h.free h0, r⟩
  · obtain ⟨p, vs, e, e2, t, h0, hb⟩ := h
    exact ⟨p, vs, e, h0, e2, hb, t⟩
theorem homeS {K : PySem.W.Frag} {Φ : Fm} {B H B' H' : Hp} {σ : St} {ρ : Env'} {v : V} {ds : List DV} (l : Rl K Φ B σ H ρ) (g : Gr B H B' H') (h : DenR K Φ H B' H' v (.fr ds) ∨ DenR K Φ H B' H' v (.vw ds)) : ∃ B2, Gr Φ.B0 Φ.H0 B2 H' ∧ Den K B2 v (.lst ds) := by
  have q := home l g h
  obtain ⟨B2, g2, _, d⟩ := q.settle (l.gr.trans g) True.intro
  exact ⟨B2, g2, d⟩
theorem ds_ret (he : DE X W e te) : DS X W (.Return (some e) pos) (vRet te) := psI (ps_ret he) fun D σ H ⟨Φ, B, ρ, D', l, ok, h⟩ => by
  refine runE l (ok.xok l) h fun v B' H' r g d p => ?_
  unfold retK at p
  split at p
  · exact ok.rt B' H' v (.sh _) (l.gr.trans g) True.intro d p
  · obtain ⟨B2, g2, d2⟩ := homeS l g (.inl d)
    exact ok.rt B2 H' v (.sh _) g2 True.intro d2 p
  · obtain ⟨B2, g2, d2⟩ := homeS l g (.inr d)
    exact ok.rt B2 H' v (.sh _) g2 True.intro d2 p
  · exact p.elim
theorem ds_retF (he : DE X W e te) : DS X W (.Return (some e) pos) (vRetF te) := psI (ps_ret he) fun D σ H ⟨Φ, B, ρ, D', l, ok, h⟩ => by
  refine runE l (ok.xok l) h fun v B' H' r g d p => ?_
  unfold retF at p
  split at p
  · exact ok.rt B' H' v (.sh _) (l.gr.trans g) True.intro d p
  · exact ok.rt B' H' v (.fr _) (l.gr.trans g) True.intro (home l g (.inl d)) p
  · exact ok.rt B' H' v (.fr _) (l.gr.trans g) True.intro (home l g (.inr d)) p
  · exact p.elim
theorem ds_retN : DS X W (.Return Option.none pos) vRetN := psI ps_retN fun D σ H ⟨Φ, B, ρ, D', l, ok, h⟩ => ok.rt B H .non (.sh .non) l.gr True.intro .non h
end

/-! ### lists of the frame's own, changed -/
/-- what a method does to the list: the arguments' data in, the new list out -/
abbrev MutD := List DV → List DV → (List DV → Prop) → Prop
def MtA (K : PySem.W.Frag) (r : V → List V → Hp → VK → Prop) (m : MutD) : Prop := ∀ (B H : Hp) (p : Addr) (vs as : List V) (ds es : List DV) (k : List DV → Prop) (Q : VK), Same B H → H p = some (.lst vs) → B p = Option.none → DenL K B vs ds → DenL K B as es → m ds es k →
  (∀ vs' ds', DenL K B vs' ds' → k ds' → Q .non (upd H p (.lst vs'))) → r (.ref p) as H Q
def vMut (i : Nat) (m : MutD) (ta : VA) : VS := fun D ρ => match ρ[i]? with
  | some (.ow ds) => ta ρ (fun rs => goods rs ∧ m ds (rs.map R.d) fun ds' => D.nx (ρ.set i (.ow ds'))) (D.ex ρ)
  | _ => False
def mApp : MutD := fun ds es k => match es with
  | [e] => ds.length < 100000 ∧ k (ds ++ [e])
  | _ => False
def mExt : MutD := fun ds es k => match es with
  | [.lst fs] => ds.length + fs.length ≤ 100000 ∧ k (ds ++ fs)
  | _ => False
theorem sz6 {n : Nat} (h : n < 100000) : n < sizeLine := Nat.lt_of_lt_of_le h (by decide)
theorem mtA_app {K : PySem.W.Frag} : MtA K rAppend mApp := by
  intro B H p vs as ds es k Q s hp hb t ta q kk
  unfold mApp at q
  split at q
  · rename_i e
    cases ta with
    | cons h1 h2 =>
      cases h2
      exact ⟨p, vs, _, rfl, rfl, hp, by rw [t.len]; exact sz6 q.1, kk _ _ (t.append (.cons h1 .nil)) q.2⟩
  · exact q.elim
theorem mtA_ext {K : PySem.W.Frag} : MtA K rExtend mExt := by
  intro B H p vs as ds es k Q s hp hb t ta q kk
  unfold mExt at q
  split at q
  · rename_i fs
    cases ta with
    | cons h1 h2 =>
      cases h2
      cases h1 with
      | lst h3 t3 => exact ⟨p, _, vs, _, rfl, rfl, hp, s _ _ h3, by rw [t.len, t3.len]; exact sz5 q.1, kk _ _ (t.append t3) q.2⟩
  · exact q.elim
section
variable {X : Cx} {W : WC} {e : Expr} {es : List Expr} {pos cpos apos : Pos}
theorem ds_mut {T : String} {name : Str} {id : String} {r : V → List V → Hp → VK → Prop} {m : MutD} {o : Expr} {i : Nat} {ta : VA} (pa : PlainAttrs "list") (slot : Slot "list" name id) (hty : typeOf (.builtin id) = pure (.type "method_descriptor")) (hm : MtR X id r) (hA : MtA X.K r m) (ho : PE X o (tVar i)) (ha : DA X W (e :: es) ta)
    (hbase : attributeBase o name X.env (eval o X.env) = eval o X.env := by rfl)
    (hfew : ((backTo cpos (starEach (e :: es) X.env)).all (fun x => !x.1) && (backToKw cpos (keywordEach [] X.env)).all (fun x => x.1.isSome)
      && decide ((e :: es).length + ([] : List Keyword).length + (if ([] : List Keyword).isEmpty then 0 else 1) < 30)) = true := by rfl)
    (hline : (apos.endLine == cpos.line) = true := by rfl) (hs : starEach (e :: es) X.env = (false, eval e X.env) :: starEach es X.env := by rfl) (hplain : (backTo cpos (starEach es X.env)).any (·.1) = false := by rfl)
    (hsw : swapsWith (.Call (.Attribute o name apos) (e :: es) [] cpos) Option.none pos.line X.env = pure false := by rfl) :
    DS X W (.Expr (.Call (.Attribute o name apos) (e :: es) [] cpos) pos) (vMut i m ta) := by
  refine psI (ps_expr (pe_bm pa slot hty hm ho ha hbase hfew hline hs hplain) hsw) fun D σ H ⟨Φ, B, ρ, D', l, ok, h⟩ => ?_
  unfold vMut at h
  split at h
  · rename_i ds q
    obtain ⟨p, vs, s, hp, t, h0, hb⟩ := l.ow i ds q
    refine ⟨.ref p, s, .inl ⟨rfl, vs, SqL.of hp⟩, ?_⟩
    refine runA l (ok.xok l) h fun as B' H' rs g dr ⟨hg, hk⟩ => ?_
    have l' := l.grow g
    obtain ⟨p2, vs2, s2, hp2, t2, _, hb2⟩ := l'.ow i ds q
    rw [s] at s2; cases s2
    exact hA B' H' p vs2 as ds (rs.map R.d) _ _ g.s hp2 hb2 t2 (dr.all hg) hk fun vs' ds' t' kk => ok.nx B' σ _ _ (l'.wr q s t') kk
  · exact h.elim
end
end DL
/-! DL: enumerate(t), t a tuple. -/
namespace DL
open PySem L2
open PySem.AutoSeq1 (wpAny_loadPart')
abbrev enO (it : Addr) : Obj := { cls := .type "enumerate", data := .fields #[.none, .bool false, .ref it, rawInt 0, .none, .none] }
theorem enumNew1 {v : Value} {o : Obj} {Hh : Heap → Prop} (B : Begins v o Hh) :
    Meets (Builtin.«enumerate.__new__» ⟨[.type "enumerate", v], []⟩) (fun _ R s => Hh s.heap ∧ R (.ok (.ret (.ref (s.heap.push o).objs.size))) { s with heap := (s.heap.push o).push (enO s.heap.objs.size) }) :=
  .of_wp fun prog w A R s h => by
    obtain ⟨hp, g, d, tk, os⟩ := s
    obtain ⟨h1, h⟩ := h
    have hsub := sub_enumerate
    have it : ∀ {A' : Around} {E : Value → Shared → Prop} {Q : Value → Shared → Prop}, Q (.ref hp.objs.size) ⟨hp.push o, g, d, tk, os⟩ → wpAny (model prog w) A' (pyIter v) Q E ⟨hp, g, d, tk, os⟩ := fun q => B.iter prog w _ _ _ _ h1 q
    wp_walk using it
    refine wpAny_stack_any fun st => wpAny_pure ?_
    split
    · rename_i c _ _ _ _ _
      cases (c == Value.type "enumerate") <;> (wp_walk using it; exact ⟨_, rfl, h⟩)
    · wp_walk using it
      exact ⟨_, rfl, h⟩
theorem enum1 {prog : Program} {w : World} {A : Around} {E : Value → Shared → Prop} {s : Shared} {v : Value} {o : Obj} {Hh : Heap → Prop} {Q : Value → Shared → Prop} (B : Begins v o Hh) (h1 : Hh s.heap)
    (h : ∀ h', IsEnum h' (s.heap.objs.size + 1) s.heap.objs.size 0 .none → h'.get? s.heap.objs.size = some o → (∀ b o, s.heap.get? b = some o → h'.get? b = some o) → Q (.ref (s.heap.objs.size + 1)) { s with heap := h' }) :
    wpAny (model prog w) A (call (.type "enumerate") [v]) Q E s := by
  refine callType_new F.called_enumerate (by decide) (F.typeCall_enumerate_1 _) (F.newCall_enumerate_1 _) (fun obj => F.args_object_init_2 obj _) F.entry_enumerate_new (enumNew1 B) ⟨h1, ?_⟩
  have hz : (s.heap.push o).objs.size = s.heap.objs.size + 1 := Heap.size_push ..
  have he : IsEnum ((s.heap.push o).push (enO s.heap.objs.size)) (s.heap.objs.size + 1) s.heap.objs.size 0 .none := by
    have q := Heap.get?_push_size (s.heap.push o) (o := enO s.heap.objs.size) rfl
    rw [hz] at q
    exact q
  show _ ∧ _
  rw [hz]
  exact ⟨⟨_, he, rfl⟩, h _ he (Heap.get?_push_of_some _ (Heap.get?_push_size _ B.free)) fun b o x => Heap.get?_push_of_some _ (Heap.get?_push_of_some _ x)⟩
/-- the tuple at a, its items in new pairs with their numbers -/
def Iet (K : PySem.W.Frag) (a : Addr) : It :=
  ⟨fun i H => ∃ (xs : List V) (x : V), SqT K H a xs ∧ xs[i]? = some x, fun i H v H' => ∃ T x, v = .ref T ∧ H T = Option.none ∧ H' = upd H T (.tup [.int (i : Nat), x]) ∧ ∀ xs, SqT K H a xs → xs[i]? = some x, fun i H => ∃ xs : List V, SqT K H a xs ∧ xs.length = i⟩
theorem turn_enumT {P : Program} {w : World} {K : PySem.W.Frag} {elts : List Expr} {kk : Nat} {tpos : Pos} (a e it : Addr) :
    Turn P w K (.Tuple elts kk tpos) (Iet K a) [e, it] e (fun i h => (∃ old, IsEnum h e it ((i : Nat) : Int) old) ∧ h.IsTupleIter it a i ∧ e ≠ it ∧ a ≠ it ∧ a ≠ e) := by
  have two : ∀ {b : Addr}, b ∈ [e, it] → b = e ∨ b = it := fun hb => by simpa using hb
  constructor
  · exact List.mem_cons_self
  · intro i h st b hb
    obtain ⟨⟨old, he⟩, ⟨o, ho, hc, hd⟩, _⟩ := st
    rcases two hb with z | z <;> subst z
    · exact ⟨_, he, fun v q => by cases q⟩
    · exact ⟨o, ho, fun v q => by rw [hd] at q; cases q⟩
  · intro i h h' st k
    obtain ⟨⟨old, he⟩, hi, hne⟩ := st
    exact ⟨⟨old, k e List.mem_cons_self _ he⟩, hi.at fun o q => k it (by simp) o q, hne⟩
  · intro X hP hw hK hc i pins s σ H E I hf st hg
    subst hP hw hK
    obtain ⟨⟨old, he⟩, hit, hne, hai, hae⟩ := st
    obtain ⟨xs, x, hq, hx⟩ := hg
    obtain ⟨its, rv, p, hz⟩ := I.tuple hq
    obtain ⟨u, hu, ru⟩ := rv.get hx
    have hel : e < s.heap.objs.size := Heap.lt_size he
    have hil : it < s.heap.objs.size := let ⟨_, q, _⟩ := hit; Heap.lt_size q
    have ht : s.heap.IsTuple a its.toArray := p
    refine wpAny_pyNext_enum_itemC (Draws.tuple (show X.A.in1.handled = Option.none from I.ok.hd hc) it a hai its.toArray) he ⟨hit, ht⟩ (i := i) (by have := (List.getElem?_eq_some_iff.mp hu).1; simpa using this) hne
      (by simp only [List.mem_cons, List.not_mem_nil, or_false, not_or]; exact ⟨hne, fun z => hae z.symm⟩) fun y h' tk hy ho hst' hT hsz hk => ?_
    have eu : y = u := by
      have e1 : its.toArray[i]? = some u := by simpa using hu
      rw [e1] at hy
      exact (Option.some.inj hy).symm
    subst eu
    refine ⟨_, rfl, wpAny_letOwnedTupleGo_enum (s := { s with heap := h', toks := tk + 1 }) ho fun h'' he' sb => ?_⟩
    have hT2 := (sb.2 _ (Nat.ne_of_gt hel)).trans hT
    have new : ObjOk X.prog X.w (upd H s.heap.objs.size (.tup [.int (i : Nat), x])) h'' s.heap.objs.size (.tup [.int (i : Nat), x]) :=
      ⟨Nat.le_trans (show [V.int (i : Nat), x].length ≤ 2 from Nat.le_refl 2) (by decide), _, .cons ⟨_, rfl⟩ (.cons ru .nil), ⟨_, hT2, rfl, _, rfl⟩⟩
    have J : Inv X pins σ (upd H s.heap.objs.size (.tup [.int (i : Nat), x])) { s with heap := h'', toks := tk + 1 } :=
      I.turnedNew (ch := [e, it]) (fun b ob hb q => (sb.2 b fun z => hb (by simp [z])).trans (hk b ob (fun z => hb (by simp [z])) (fun z => hb (by simp [z])) q)) hf (Nat.le_refl _) new
    refine ⟨.ref s.heap.objs.size, _, J, rfl, ⟨_, x, rfl, I.hok.fresh (Nat.le_refl _), rfl, fun ys hy => by rw [I.tuple_inj hy hq]; exact hx⟩, ⟨⟨y, ?_⟩, hst'.1.at fun o q => (sb.2 it (Ne.symm hne)).trans q, hne, hai, hae⟩, fun b hb => ?_⟩
    · rw [show ((i + 1 : Nat) : Int) = (i : Int) + 1 by omega]
      exact he'
    · have lt : b < s.heap.objs.size := by
        rcases two hb with z | z <;> subst z
        · exact hel
        · exact hil
      rw [upd_ne (Nat.ne_of_lt lt)]
      exact (hf b hb).1
  · intro X hP hw hK hc i pins s σ H E I hf st hg
    subst hP hw hK
    obtain ⟨⟨old, he⟩, hit, hne, hai, hae⟩ := st
    obtain ⟨xs, hq, hx⟩ := hg
    obtain ⟨its, rv, p, hz⟩ := I.tuple hq
    have hl := rv.length
    have ht : s.heap.IsTuple a its.toArray := p
    obtain ⟨f0, f1, f2, f3, f4, f5⟩ := hf it (by simp)
    have D := Draws.tuple (prog := X.prog) (w := X.w) (A := X.A.in1) (show X.A.in1.handled = Option.none from I.ok.hd hc) it a hai its.toArray
    have e : i = its.toArray.size := by rw [List.size_toArray, ← hl, hx]
    subst e
    exact wpAny_pyNext_enum_endD D he ⟨hit, ht⟩ fun h' eb => ⟨rfl, I.turned (t' := s.toks) (fun b o hb q => eb b o hb q) f0 f1 f3 f4 f5⟩
  · intro A i s Q E st h
    obtain ⟨⟨_, he⟩, _⟩ := st
    exact wpAny_pyIter_enum he h
end DL
/-! DL, fifth part: what is walked, for, comprehensions. -/
namespace DL
open PySem L2

/-- a walk over the data ds, from any state later than B -/
def ItOk (K : PySem.W.Frag) (B : Hp) (J : It) (ds : List DV) : Prop := ∀ (i : Nat) (B2 H2 : Hp), Same B B2 → Same B2 H2 → i ≤ ds.length →
  (i < ds.length → J.go i H2) ∧ (i = ds.length → J.stop i H2) ∧ ∀ x H3 d, J.yld i H2 x H3 → ds[i]? = some d → ∃ B3, Gr B2 H2 B3 H3 ∧ Den K B3 x d
abbrev VI := Env' → (List DV → Prop) → XP → Prop
def iD (K : PySem.W.Frag) (W : WC) (s : VI) : TI := fun σ H R => ∃ Φ B ρ Ψ Ξ, Rl K Φ B σ H ρ ∧ XOk K W Φ B σ H Ξ ∧ s ρ Ψ Ξ ∧ ∀ J B' H' ds, Gr B H B' H' → ItOk K B' J ds → Ψ ds → R J H'
abbrev DI (X : Cx) (W : WC) (tg iter : Expr) (s : VI) : Prop := PI X tg iter (iD X.K W s)
theorem piI {X : Cx} {tg e : Expr} {t t2 : TI} (h : PI X tg e t) (i : ∀ σ H R, t2 σ H R → t σ H R) : PI X tg e t2 := ⟨fun pins s σ H R I q => h.run pins s σ H R I (i σ H R q)⟩
def seqD (d : DV) (Ψ : List DV → Prop) : Prop := match d with
  | .lst ds => Ψ ds
  | .tup _ ds => Ψ ds
  | _ => False
/-- for x in e: a list (none of the frame's own), a tuple -/
def siSeq (te : VE) : VI := fun ρ Ψ Ξ => te ρ (fun r => r.good ∧ seqD r.d Ψ) Ξ
def strDs (x : Str) : List DV := x.cps.toList.map fun c => .str ⟨#[c]⟩
def siStr (te : VE) : VI := fun ρ Ψ Ξ => te ρ (fun r => match r with
  | .sh (.str x) => Ψ (strDs x)
  | _ => False) Ξ
def intDs (lo : Int) (n : Nat) : List DV := (List.range n).map fun i => .int (lo + ((i : Nat) : Int))
def rng1 (rs : List R) (Ψ : List DV → Prop) : Prop := match rs with
  | [.sh (.int j)] => (-(2 ^ 62) ≤ j ∧ j < 2 ^ 62) ∧ Ψ (intDs 0 j.toNat)
  | _ => False
def rng2 (rs : List R) (Ψ : List DV → Prop) : Prop := match rs with
  | [.sh (.int i), .sh (.int j)] => (-(2 ^ 62) ≤ i ∧ i < 2 ^ 62 ∧ -(2 ^ 62) ≤ j ∧ j < 2 ^ 62) ∧ Ψ (intDs i (j - i).toNat)
  | _ => False
def siRng1 (ta : VA) : VI := fun ρ Ψ Ξ => ta ρ (fun rs => rng1 rs Ψ) Ξ
def siRng2 (ta : VA) : VI := fun ρ Ψ Ξ => ta ρ (fun rs => rng2 rs Ψ) Ξ
def enumDs : Nat → List DV → List DV
  | _, [] => []
  | n, d :: ds => .tup false [.int ((n : Nat) : Int), d] :: enumDs (n + 1) ds
def siEnum (ta : VA) : VI := fun ρ Ψ Ξ => ta ρ (fun rs => match rs with
  | [r] => r.good ∧ seqD r.d fun ds => Ψ (enumDs 0 ds)
  | _ => False) Ξ
theorem enumDs_get : ∀ (ds : List DV) (n i : Nat), (enumDs n ds)[i]? = (ds[i]?).map fun d => DV.tup false [.int ((n + i : Nat) : Int), d]
  | [], n, i => by simp [enumDs]
  | d :: ds, n, 0 => by simp [enumDs]
  | d :: ds, n, i + 1 => by
    simp only [enumDs, List.getElem?_cons_succ]
    rw [enumDs_get ds (n + 1) i, show n + 1 + i = n + (i + 1) by omega]
theorem enumDs_len : ∀ (ds : List DV) (n : Nat), (enumDs n ds).length = ds.length
  | [], _ => rfl
  | d :: ds, n => by simp [enumDs, enumDs_len ds]
theorem intDs_len (lo : Int) (n : Nat) : (intDs lo n).length = n := by simp [intDs]
theorem intDs_get {lo : Int} {n i : Nat} {d : DV} (h : (intDs lo n)[i]? = some d) : i < n ∧ d = .int (lo + ((i : Nat) : Int)) := by
  unfold intDs at h
  rw [List.getElem?_map] at h
  rcases Nat.lt_or_ge i n with z | z
  · rw [List.getElem?_range z] at h
    exact ⟨z, (Option.some.inj h).symm⟩
  · rw [List.getElem?_eq_none (by simpa using z)] at h; cases h
section
variable {K : PySem.W.Frag} {B B' H' : Hp}
theorem itok_list {a : Addr} {vs : List V} {ds : List DV} (h : B a = some (.lst vs)) (t : DenL K B vs ds) : ItOk K B (Itl K a) ds := fun i B2 H2 e s hi => by
  have q : SqL K H2 a vs := SqL.of (s _ _ (e _ _ h))
  refine ⟨fun z => ⟨vs, vs[i]'(by rw [t.len]; exact z), q, by simp⟩, fun z => ⟨vs, q, by rw [t.len, z]; exact Nat.le_refl _⟩, fun x H3 d y hd => ?_⟩
  obtain ⟨rfl, y⟩ := y
  obtain ⟨u, h1, h2⟩ := t.get hd
  rw [y vs q] at h1
  cases h1
  exact ⟨B2, Gr.refl s, h2.mono e⟩
theorem itok_tup {a : Addr} {vs : List V} {ds : List DV} (h : SqT K B a vs) (t : DenL K B vs ds) : ItOk K B (Itt K a) ds := fun i B2 H2 e s hi => by
  have q : SqT K H2 a vs := Same.seqT s (Same.seqT e h)
  refine ⟨fun z => ⟨vs, vs[i]'(by rw [t.len]; exact z), q, by simp⟩, fun z => ⟨vs, q, by rw [t.len, z]; exact Nat.le_refl _⟩, fun x H3 d y hd => ?_⟩
  obtain ⟨rfl, y⟩ := y
  obtain ⟨u, h1, h2⟩ := t.get hd
  rw [y vs q] at h1
  cases h1
  exact ⟨B2, Gr.refl s, h2.mono e⟩
theorem itok_range {lo : Int} {n : Nat} : ItOk K B (Itr lo n) (intDs lo n) := fun i B2 H2 e s hi => by
  rw [intDs_len] at hi ⊢
  refine ⟨fun z => z, fun z => Nat.le_of_eq z.symm, fun x H3 d y hd => ?_⟩
  obtain ⟨rfl, rfl⟩ := y
  obtain ⟨_, rfl⟩ := intDs_get hd
  exact ⟨B2, Gr.refl s, .int _⟩
theorem itok_str {x : Str} : ItOk K B (Its x) (strDs x) := fun i B2 H2 e s hi => by
  have hl : (strDs x).length = x.cps.size := by simp [strDs]
  rw [hl] at hi ⊢
  refine ⟨fun z => z, fun z => Nat.le_of_eq z.symm, fun v H3 d y hd => ?_⟩
  obtain ⟨rfl, c, hc, rfl⟩ := y
  unfold strDs at hd
  rw [List.getElem?_map] at hd
  have : x.cps.toList[i]? = some c := by simpa using hc
  rw [this] at hd
  cases hd
  exact ⟨B2, Gr.refl s, .str _⟩
theorem pair_ok {B2 H2 : Hp} (s : Same B2 H2) {T : Addr} {i : Nat} {x : V} {d : DV} (hT : H2 T = Option.none) (h : Den K B2 x d) : ∃ B3, Gr B2 H2 B3 (upd H2 T (.tup [.int (i : Nat), x])) ∧ Den K B3 (.ref T) (.tup false [.int ((i : Nat) : Int), d]) := by
  have g := Gr.newS s hT (o := .tup [.int (i : Nat), x])
  exact ⟨_, g, .tup (SqT.of upd_same) (fun z => by cases z) (.cons (.int _) (.cons (h.mono g.b) .nil))⟩
theorem itok_enumL {a : Addr} {vs : List V} {ds : List DV} (h : B a = some (.lst vs)) (t : DenL K B vs ds) : ItOk K B (Ite K a) (enumDs 0 ds) := fun i B2 H2 e s hi => by
  have q : SqL K H2 a vs := SqL.of (s _ _ (e _ _ h))
  rw [enumDs_len] at hi ⊢
  refine ⟨fun z => ⟨vs, vs[i]'(by rw [t.len]; exact z), q, by simp⟩, fun z => ⟨vs, q, by rw [t.len, z]; exact Nat.le_refl _⟩, fun x H3 d y hd => ?_⟩
  obtain ⟨T, u, rfl, hT, rfl, y⟩ := y
  rw [enumDs_get] at hd
  obtain ⟨d1, h1, h2⟩ := t.getV (y vs q)
  rw [h1] at hd
  cases hd
  rw [Nat.zero_add]
  exact pair_ok s hT (h2.mono e)
theorem itok_enumT {a : Addr} {vs : List V} {ds : List DV} (h : SqT K B a vs) (t : DenL K B vs ds) : ItOk K B (Iet K a) (enumDs 0 ds) := fun i B2 H2 e s hi => by
  have q : SqT K H2 a vs := Same.seqT s (Same.seqT e h)
  rw [enumDs_len] at hi ⊢
  refine ⟨fun z => ⟨vs, vs[i]'(by rw [t.len]; exact z), q, by simp⟩, fun z => ⟨vs, q, by rw [t.len, z]⟩, fun x H3 d y hd => ?_⟩
  obtain ⟨T, u, rfl, hT, rfl, y⟩ := y
  rw [enumDs_get] at hd
  obtain ⟨d1, h1, h2⟩ := t.getV (y vs q)
  rw [h1] at hd
  cases hd
  rw [Nat.zero_add]
  exact pair_ok s hT (h2.mono e)
end
def iEnumT (K : PySem.W.Frag) (ta : TA) : TI := fun σ H R => ta σ H fun vs H1 => ∃ a xs, vs = [.ref a] ∧ SqT K H1 a xs ∧ R (Iet K a) H1
theorem pi_enumT {X : Cx} {e : Expr} {ta : TA} {p pos tpos : Pos} {elts : List Expr} {kk : Nat} (hg : Gl X "enumerate") (hm : X.mg "enumerate" = Option.none) (ha : PA X [e] ta) (hs : starEach [e] X.env = [(false, eval e X.env)] := by rfl) :
    PI X (.Tuple elts kk tpos) (.Call (.Name "enumerate" p) [e] [] pos) (iEnumT X.K ta) := by
  refine ⟨fun pins s σ H R I h => ?_⟩
  refine PyProof.Rows.Call_ (ld_blt I hg hm PyProof.Rows.boot_enumerate (PyProof.Rows.callWith_type1 (thn (ha.run pos pins s σ H _ I h) fun us s1 hh => ?_) hs rfl))
  obtain ⟨vs, H1, I1, r1, a, xs, ex, hq, q⟩ := hh
  subst ex
  obtain ⟨u, rfl, ru⟩ := vals1 r1
  obtain rfl : u = Value.ref a := ru
  obtain ⟨its, rv, p', hz⟩ := I1.tuple hq
  have hal : a < s1.heap.objs.size := let ⟨_, e, _⟩ := p'; Heap.lt_size e
  refine enum1 (begins_tuple a its.toArray) p' fun h' he hit hk => wpAny_pyIter_enum he ?_
  have I2 : Inv X pins σ H1 { s1 with heap := h' } := I1.kept (t' := s1.toks) hk
  refine ⟨s1.heap.objs.size + 1, [s1.heap.objs.size + 1, s1.heap.objs.size], _, _, H1, rfl, I2, turn_enumT a (s1.heap.objs.size + 1) s1.heap.objs.size, ⟨⟨.none, he⟩, ⟨_, hit, rfl, rfl⟩, Nat.succ_ne_self _, Nat.ne_of_lt hal, Nat.ne_of_lt (Nat.lt_succ_of_lt hal)⟩, fun b hb => ?_, q⟩
  have hle : s1.heap.objs.size ≤ b := by
    have z : b = s1.heap.objs.size + 1 ∨ b = s1.heap.objs.size := by simpa using hb
    rcases z with z | z <;> (subst z; first | exact Nat.le_succ _ | exact Nat.le_refl _)
  exact I1.fpOk hle (I1.hok.fresh hle)
/-- one of the two, as the values turn out -/
def iEnumU (K : PySem.W.Frag) (ta : TA) : TI := fun σ H R => ta σ H fun vs H1 => ∃ a xs, vs = [.ref a] ∧ ((SqL K H1 a xs ∧ R (Ite K a) H1) ∨ (SqT K H1 a xs ∧ R (Iet K a) H1))
theorem pi_enumU {X : Cx} {e : Expr} {ta : TA} {p pos tpos : Pos} {elts : List Expr} {kk : Nat} (hg : Gl X "enumerate") (hm : X.mg "enumerate" = Option.none) (ha : PA X [e] ta) (hs : starEach [e] X.env = [(false, eval e X.env)] := by rfl) :
    PI X (.Tuple elts kk tpos) (.Call (.Name "enumerate" p) [e] [] pos) (iEnumU X.K ta) := by
  refine ⟨fun pins s σ H R I h => ?_⟩
  refine PyProof.Rows.Call_ (ld_blt I hg hm PyProof.Rows.boot_enumerate (PyProof.Rows.callWith_type1 (thn (ha.run pos pins s σ H _ I h) fun us s1 hh => ?_) hs rfl))
  obtain ⟨vs, H1, I1, r1, a, xs, ex, hq⟩ := hh
  subst ex
  obtain ⟨u, rfl, ru⟩ := vals1 r1
  obtain rfl : u = Value.ref a := ru
  have fp : ∀ b ∈ [s1.heap.objs.size + 1, s1.heap.objs.size], FpOk X pins H1 b := fun b hb => by
    have z : b = s1.heap.objs.size + 1 ∨ b = s1.heap.objs.size := by simpa using hb
    have hle : s1.heap.objs.size ≤ b := by
      rcases z with z | z <;> (subst z; first | exact Nat.le_succ _ | exact Nat.le_refl _)
    exact I1.fpOk hle (I1.hok.fresh hle)
  rcases hq with ⟨hq, q⟩ | ⟨hq, q⟩
  · obtain ⟨its, rv, p', hz⟩ := I1.list hq
    refine call_enumerate_list p'.isList fun h' he hit _ hk => wpAny_pyIter_enum he ?_
    exact ⟨s1.heap.objs.size + 1, _, _, _, H1, rfl, I1.kept (h' := h') (t' := s1.toks) hk, turn_enum a _ s1.heap.objs.size, ⟨⟨.none, he⟩, hit, Nat.succ_ne_self _⟩, fp, q⟩
  · obtain ⟨its, rv, p', hz⟩ := I1.tuple hq
    have hal : a < s1.heap.objs.size := let ⟨_, e, _⟩ := p'; Heap.lt_size e
    refine enum1 (begins_tuple a its.toArray) p' fun h' he hit hk => wpAny_pyIter_enum he ?_
    exact ⟨s1.heap.objs.size + 1, _, _, _, H1, rfl, I1.kept (h' := h') (t' := s1.toks) hk, turn_enumT a _ s1.heap.objs.size, ⟨⟨.none, he⟩, ⟨_, hit, rfl, rfl⟩, Nat.succ_ne_self _, Nat.ne_of_lt hal, Nat.ne_of_lt (Nat.lt_succ_of_lt hal)⟩, fp, q⟩
def iSeqU (K : PySem.W.Frag) (tl : TE) : TI := fun σ H R => tl σ H fun x H1 => ∃ a xs, x = .ref a ∧ ((SqL K H1 a xs ∧ R (Itl K a) H1) ∨ (SqT K H1 a xs ∧ R (Itt K a) H1))
theorem pi_seqU {X : Cx} {tg l : Expr} {tl : TE} (hl : PE X l tl) : PI X tg l (iSeqU X.K tl) := by
  refine ⟨fun pins s σ H R I h => ?_⟩
  refine thn (hl.run pins s σ H _ I h) fun v s1 hh => ?_
  obtain ⟨x, H1, I1, r1, a, xs, e, hq⟩ := hh
  subst e
  obtain rfl : v = Value.ref a := r1
  rcases hq with ⟨hq, q⟩ | ⟨hq, q⟩
  · obtain ⟨its, rv, p, hz⟩ := I1.list hq
    exact wpAny_pyIter_list p.isList (pi_one (tk := s1.toks) I1 _ (turn_list a _) ⟨_, Heap.get?_push_size _ rfl, rfl, rfl⟩ q)
  · obtain ⟨its, rv, p, hz⟩ := I1.tuple hq
    exact wpAny_pyIter_tuple (show s1.heap.IsTuple a its.toArray from p) (pi_one (tk := s1.toks) I1 _ (turn_tuple a _) ⟨_, Heap.get?_push_size _ rfl, rfl, rfl⟩ q)
section
variable {X : Cx} {W : WC} {tg e : Expr} {es : List Expr} {te : VE} {ta : VA}
theorem Den.seq {K : PySem.W.Frag} {B : Hp} {v : V} {d : DV} {Ψ : List DV → Prop} (h : Den K B v d) (q : seqD d Ψ) : ∃ a vs ds, v = .ref a ∧ Ψ ds ∧ DenL K B vs ds ∧ (B a = some (.lst vs) ∨ SqT K B a vs) := by
  unfold seqD at q
  split at q
  · cases h with
    | lst h t => exact ⟨_, _, _, rfl, q, t, .inl h⟩
  · cases h with
    | tup h b t => exact ⟨_, _, _, rfl, q, t, .inr h⟩
  · exact q.elim
theorem di_seq (h : DE X W e te) : DI X W tg e (siSeq te) := piI (pi_seqU h) fun σ H R ⟨Φ, B, ρ, Ψ, Ξ, l, x, t, k⟩ => by
  refine runE l x t fun v B1 H1 r g d p => ?_
  obtain ⟨B2, g2, _, d2⟩ := d.settle g p.1
  obtain ⟨a, vs, ds, rfl, q, t, z⟩ := Den.seq d2 p.2
  rcases z with z | z
  · exact ⟨a, vs, rfl, .inl ⟨SqL.of (g2.s _ _ z), k _ B2 H1 ds g2 (itok_list z t) q⟩⟩
  · exact ⟨a, vs, rfl, .inr ⟨Same.seqT g2.s z, k _ B2 H1 ds g2 (itok_tup z t) q⟩⟩
theorem di_enum {p pos tpos : Pos} {elts : List Expr} {kk : Nat} (hg : Gl X "enumerate") (hm : X.mg "enumerate" = Option.none) (h : DA X W [e] ta) (hs : starEach [e] X.env = [(false, eval e X.env)] := by rfl) : DI X W (.Tuple elts kk tpos) (.Call (.Name "enumerate" p) [e] [] pos) (siEnum ta) := piI (pi_enumU hg hm h hs) fun σ H R ⟨Φ, B, ρ, Ψ, Ξ, l, x, t, k⟩ => by
  refine runA l x t fun vs B1 H1 rs g dr p => ?_
  split at p
  · rename_i r
    cases vs with
    | nil => exact dr.elim
    | cons v vs =>
      cases vs with
      | cons _ _ => exact dr.2.elim
      | nil =>
        obtain ⟨a, us, ds, rfl, q, t, z⟩ := Den.seq (dr.1.1 p.1) p.2
        rcases z with z | z
        · exact ⟨a, us, rfl, .inl ⟨SqL.of (g.s _ _ z), k _ B1 H1 _ g (itok_enumL z t) q⟩⟩
        · exact ⟨a, us, rfl, .inr ⟨Same.seqT g.s z, k _ B1 H1 _ g (itok_enumT z t) q⟩⟩
  · exact p.elim
theorem di_str (h : DE X W e te) : DI X W tg e (siStr te) := piI (pi_str h) fun σ H R ⟨Φ, B, ρ, Ψ, Ξ, l, x, t, k⟩ => by
  refine runE l x t fun v B1 H1 r g d p => ?_
  split at p
  · rename_i y
    cases (show Den X.K B1 v (.str y) from d)
    exact ⟨y, rfl, k _ B1 H1 _ g itok_str p⟩
  · exact p.elim
theorem di_rng1 {p pos : Pos} (hg : Gl X "range") (hm : X.mg "range" = Option.none) (h : DA X W [e] ta) (hs : starEach [e] X.env = [(false, eval e X.env)] := by rfl) : DI X W tg (.Call (.Name "range" p) [e] [] pos) (siRng1 ta) := piI (pi_range1 hg hm h hs) fun σ H R ⟨Φ, B, ρ, Ψ, Ξ, l, x, t, k⟩ => by
  refine runA l x t fun vs B1 H1 rs g dr p => ?_
  unfold rng1 at p
  split at p
  · rename_i j
    cases vs with
    | nil => exact dr.elim
    | cons v vs =>
      cases vs with
      | cons _ _ => exact dr.2.elim
      | nil =>
        cases (show Den X.K B1 v (.int j) from dr.1.1 True.intro)
        exact ⟨j, rfl, p.1.1, p.1.2, k _ B1 H1 _ g itok_range p.2⟩
  · exact p.elim
theorem di_rng2 {e2 : Expr} {p pos : Pos} (hg : Gl X "range") (hm : X.mg "range" = Option.none) (h : DA X W [e, e2] ta) (hs : starEach [e, e2] X.env = [(false, eval e X.env), (false, eval e2 X.env)] := by rfl) (hs2 : starEach [e2] X.env = [(false, eval e2 X.env)] := by rfl) : DI X W tg (.Call (.Name "range" p) [e, e2] [] pos) (siRng2 ta) := piI (pi_range2 hg hm h hs hs2) fun σ H R ⟨Φ, B, ρ, Ψ, Ξ, l, x, t, k⟩ => by
  refine runA l x t fun vs B1 H1 rs g dr p => ?_
  unfold rng2 at p
  split at p
  · rename_i i j
    cases vs with
    | nil => exact dr.elim
    | cons v vs =>
      cases vs with
      | nil => exact dr.2.elim
      | cons v2 vs =>
        cases vs with
        | cons _ _ => exact dr.2.2.elim
        | nil =>
          cases (show Den X.K B1 v (.int i) from dr.1.1 True.intro)
          cases (show Den X.K B1 v2 (.int j) from dr.2.1.1 True.intro)
          exact ⟨i, j, rfl, p.1, k _ B1 H1 _ g itok_range p.2⟩
  · exact p.elim
end

/-! ### targets -/
abbrev VG := DV → Env' → (Env' → Prop) → Prop
def gD (K : PySem.W.Frag) (g : VG) : TG := fun v σ H Q => ∃ Φ B ρ d Ψ, Rl K Φ B σ H ρ ∧ Den K B v d ∧ g d ρ Ψ ∧ ∀ B' H' σ' ρ', Gr B H B' H' → Rl K Φ B' σ' H' ρ' → Ψ ρ' → Q σ' H'
abbrev DG (X : Cx) (tg : Expr) (g : VG) : Prop := PG X tg (gD X.K g)
theorem pgI {X : Cx} {tg : Expr} {t t2 : TG} (h : PG X tg t) (i : ∀ v σ H Q, t2 v σ H Q → t v σ H Q) : PG X tg t2 := ⟨fun pins s σ H v u Q I r q => h.run pins s σ H v u Q I r (i v σ H Q q)⟩
theorem pgsI {X : Cx} {tg : List Expr} {t t2 : TGs} (h : PGs X tg t) (i : ∀ v σ H Q, t2 v σ H Q → t v σ H Q) : PGs X tg t2 := ⟨fun pins s σ H v u Q I r q => h.run pins s σ H v u Q I r (i v σ H Q q)⟩
def gN (i : Nat) : VG := fun d ρ Ψ => Ψ (ρ.set i (.sh d))
abbrev VGs := List DV → Env' → (Env' → Prop) → Prop
def gDs (K : PySem.W.Frag) (g : VGs) : TGs := fun v σ H Q => ∃ Φ B ρ d Ψ, Rl K Φ B σ H ρ ∧ DenL K B v d ∧ g d ρ Ψ ∧ ∀ B' H' σ' ρ', Gr B H B' H' → Rl K Φ B' σ' H' ρ' → Ψ ρ' → Q σ' H'
abbrev DGs (X : Cx) (tg : List Expr) (g : VGs) : Prop := PGs X tg (gDs X.K g)
def gsNil : VGs := fun ds ρ Ψ => match ds with
  | [] => Ψ ρ
  | _ => False
def gsCons (g : VG) (gs : VGs) : VGs := fun ds ρ Ψ => match ds with
  | d :: ds => g d ρ fun ρ' => gs ds ρ' Ψ
  | _ => False
def gTp (n : Nat) (gs : VGs) : VG := fun d ρ Ψ => seqD d fun ds => ds.length = n ∧ gs ds ρ Ψ
section
variable {X : Cx} {pos : Pos}
theorem dg_name {i : Nat} {x : Str} (hN : X.N.Nodup) (hi : X.N[i]? = some x) (hx : Loc X.env.scope x) (hf : X.fn x = true ∨ X.env.scope.names.lookup x = some .local := by first | exact .inl rfl | exact .inr rfl | assumption) : DG X (.Name x pos) (gN i) := pgI (pg_name hN hi hx hf) fun v σ H Q ⟨Φ, B, ρ, d, Ψ, l, h, q, k⟩ => k B H _ _ (Gr.refl l.s) (l.setD i h) q
theorem dgs_nil : DGs X [] gsNil := pgsI pgs_nil fun v σ H Q ⟨Φ, B, ρ, d, Ψ, l, h, q, k⟩ => by
  cases h with
  | nil => exact ⟨rfl, k B H σ ρ (Gr.refl l.s) l q⟩
  | cons _ _ => exact q.elim
theorem dgs_cons {e : Expr} {es : List Expr} {t : VG} {u : VGs} (h1 : DG X e t) (h2 : DGs X es u) (hs : (assignEach (e :: es) X.env).map (·.2) = assign e X.env :: (assignEach es X.env).map (·.2) := by rfl) : DGs X (e :: es) (gsCons t u) := pgsI (pgs_cons h1 h2 hs) fun v σ H Q ⟨Φ, B, ρ, d, Ψ, l, h, q, k⟩ => by
  cases h with
  | nil => exact q.elim
  | cons h1 h2 =>
    refine ⟨_, _, rfl, Φ, B, ρ, _, _, l, h1, q, fun B1 H1 σ1 ρ1 g1 l1 q1 => ?_⟩
    exact ⟨Φ, B1, ρ1, _, Ψ, l1, h2.mono g1.b, q1, fun B2 H2 σ2 ρ2 g2 l2 q2 => k B2 H2 σ2 ρ2 (g1.trans g2) l2 q2⟩
/-- a, b = a tuple -/
def gTpT (n : Nat) (gs : VGs) : VG := fun d ρ Ψ => match d with
  | .tup _ ds => ds.length = n ∧ gs ds ρ Ψ
  | _ => False
theorem dg_tup {es : List Expr} {k n : Nat} {t : VGs} (hc : X.calm = true) (h : DGs X es t) (hn : (assignEach es X.env).length = n := by rfl) (hst : (assignEach es X.env).findIdx? (·.1) = Option.none := by rfl) : DG X (.Tuple es k pos) (gTpT n t) := pgI (pg_tup hc h hn hst) fun v σ H Q ⟨Φ, B, ρ, d, Ψ, l, h, q, k⟩ => by
  unfold gTpT at q
  split at q
  · cases h with
    | tup hq _ ht => exact ⟨_, _, rfl, Same.seqT l.s hq, by rw [ht.len]; exact q.1, Φ, B, ρ, _, Ψ, l, ht, q.2, k⟩
  · exact q.elim
end

/-! ### for -/
def vFor (s : VI) (g : VG) (tb : VS) : VS := fun D ρ => s ρ (fun ds => ∃ I : Nat → Env' → Prop, I 0 ρ ∧
  (∀ i d ρ1, ds[i]? = some d → I i ρ1 → g d ρ1 (fun ρ2 => tb { D with nx := I (i + 1), ct := I (i + 1), bk := D.nx } ρ2)) ∧ ∀ ρ1, I ds.length ρ1 → D.nx ρ1) (D.ex ρ)
section
variable {X : Cx} {W : WC}
theorem abs_for {K : PySem.W.Frag} {s : VI} {g : VG} {tb : VS} {D : Ends} {σ : St} {H : Hp} (q : tDS K W (vFor s g tb) D σ H) : tFor (iD K W s) (gD K g) (tDS K W tb) D σ H := by
  obtain ⟨Φ, B, ρ, D', l, ok, h⟩ := q
  refine ⟨Φ, B, ρ, _, _, l, ok.xok l, h, fun J Bs Hs ds gs it ⟨I, i0, turn, fin⟩ => ?_⟩
  have ls := l.grow gs
  have gB : Gr Φ.B0 Φ.H0 Bs Hs := ls.gr
  refine ⟨fun i m σ H => m = ds.length - i ∧ i ≤ ds.length ∧ ∃ B ρ, Rl K { Φ with B0 := Bs } B σ H ρ ∧ I i ρ, ⟨ds.length, by simp, Nat.zero_le _, Bs, ρ, ls.here, i0⟩, ?_⟩
  rintro i m σ1 H1 ⟨rfl, hi, B1, ρ1, l1, p1⟩
  obtain ⟨go, st, yl⟩ := it i B1 H1 l1.gr.b l1.s hi
  rcases Nat.lt_or_ge i ds.length with z | z
  · refine .inr ⟨go z, fun σ' H' => ∃ B ρ, Rl K { Φ with B0 := Bs } B σ' H' ρ ∧ I (i + 1) ρ, fun σ' H' hh => ⟨ds.length - (i + 1), by omega, rfl, z, hh⟩, fun x H2 y => ?_⟩
    obtain ⟨B2, g2, d2⟩ := yl x H2 ds[i] y (by simp)
    refine ⟨{ Φ with B0 := Bs }, B2, ρ1, ds[i], _, l1.grow g2, d2, turn i ds[i] ρ1 (by simp) p1, fun B3 H3 σ3 ρ3 g3 l3 p3 => ?_⟩
    exact ⟨{ Φ with B0 := Bs }, B3, ρ3, { D' with nx := I (i + 1), ct := I (i + 1), bk := D'.nx }, l3, ⟨ok.cu, fun B σ H ρ l q => ⟨B, ρ, l, q⟩, fun B σ H ρ l q => ok.nx B σ H ρ (l.later gB) q, fun B σ H ρ l q => ⟨B, ρ, l, q⟩,
      fun B H v r g hr d q => ok.rt B H v r ⟨gB.b.trans g.b, g.s, g.h, fun a ha => (g.n a ha).trans (gB.n a ha)⟩ hr (by cases r <;> exact d) q, fun B σ H ρ x cls d l dx q => ok.ex B σ H ρ x cls d (l.later gB) dx q⟩, p3⟩
  · have e : i = ds.length := Nat.le_antisymm hi z
    subst e
    exact .inl ⟨st rfl, ok.nx B1 σ1 H1 ρ1 (l1.later gB) (fin ρ1 p1)⟩
theorem ds_for {tg iter : Expr} {body : List Stmt} {s : VI} {g : VG} {tb : VS} {pos : Pos} (hp : PassesOwn (model X.prog X.w) X.A X.env X.xe) (hc : X.calm = true) (hi : DI X W tg iter s) (hg : DG X tg g) (hb : DSs X W body tb)
    (hs : ∀ x, foldedSetIterable iter X.env x = pure x := by intro _; rfl) : DS X W (.For tg iter body [] pos) (vFor s g tb) := psI (ps_for hp hc hi hg hb hs) fun _ _ _ => abs_for
/-- the body's own start: what was shared ahead of the loop stays (for while loops) -/
def vWhile (c : VT) (tb : VS) : VS := fun D ρ => ∃ I : Nat → Env' → Prop, (∃ m, I m ρ) ∧ ∀ m ρ1, I m ρ1 → c ρ1 (fun b => if b = true then tb { D with nx := fun ρ2 => ∃ m', m' < m ∧ I m' ρ2, ct := fun ρ2 => ∃ m', m' < m ∧ I m' ρ2, bk := D.nx } ρ1 else D.nx ρ1) (D.ex ρ1)
theorem abs_while {K : PySem.W.Frag} {c : VT} {tb : VS} {D : Ends} {σ : St} {H : Hp} (q : tDS K W (vWhile c tb) D σ H) : tWhile (tDT K W c) (tDS K W tb) D σ H := by
  obtain ⟨Φ, B, ρ, D', l, ok, I, ⟨m0, i0⟩, turn⟩ := q
  refine ⟨fun m σ H => ∃ B ρ, Rl K Φ B σ H ρ ∧ I m ρ, ⟨m0, B, ρ, l, i0⟩, ?_⟩
  rintro m σ1 H1 ⟨B1, ρ1, l1, p1⟩
  refine runT l1 (ok.xok l1) (turn m ρ1 p1) fun b B2 H2 g2 p2 => ?_
  have l2 := l1.grow g2
  cases b with
  | true =>
    rw [if_pos rfl] at p2 ⊢
    refine ⟨fun σ' H' => ∃ B ρ, Rl K Φ B σ' H' ρ ∧ ∃ m', m' < m ∧ I m' ρ, fun σ' H' ⟨B, ρ, l, m', lt, q⟩ => ⟨m', lt, B, ρ, l, q⟩, Φ, B2, ρ1, { D' with nx := fun ρ2 => ∃ m', m' < m ∧ I m' ρ2, ct := fun ρ2 => ∃ m', m' < m ∧ I m' ρ2, bk := D'.nx }, l2, ⟨ok.cu, fun B σ H ρ l q => ⟨B, ρ, l, q⟩, fun B σ H ρ l q => ok.nx B σ H ρ l q, fun B σ H ρ l q => ⟨B, ρ, l, q⟩, ok.rt, ok.ex⟩, p2⟩
  | false =>
    rw [if_neg Bool.false_ne_true] at p2 ⊢
    exact ok.nx B2 σ1 H2 ρ1 l2 p2
theorem ds_while {c : Expr} {body : List Stmt} {tc : VT} {tb : VS} {pos : Pos} (hp : PassesOwn (model X.prog X.w) X.A X.env X.xe) (hc : DT X W c tc) (hb : DSs X W body tb) : DS X W (.While c body [] pos) (vWhile tc tb) := psI (ps_while hp hc hb) fun _ _ _ => abs_while
end

/-! ### comprehensions: one name, its block's slots forgotten ahead of it -/
def wipeD (ρ : Env') : List Nat → Env'
  | [] => ρ
  | v :: vs => (wipeD ρ vs).set v .un
def NoX : XP := fun _ => False
abbrev W0 (c : Option (Addr × Value × Option Addr)) : WC := ⟨fun _ _ _ _ => False, c⟩
def vLc (s : VI) (i : Nat) (tt : VT) (te : VE) (vs : List Nat) : VE := fun ρ Ψ Ξ => s ρ (fun ds => ds.length ≤ 100000 ∧ ∃ (p : DV → Bool) (f : DV → DV),
  (∀ d, d ∈ ds → tt ((wipeD ρ vs).set i (.sh d)) (fun b => b = p d ∧ (b = true → te ((wipeD ρ vs).set i (.sh d)) (fun r => r.good ∧ r.d = f d) NoX)) NoX) ∧ Ψ (.fr ((ds.filter p).map f))) Ξ
section
variable {K : PySem.W.Frag} {Φ : Fm} {B H : Hp} {σ : St} {ρ : Env'} {W : WC}
theorem Rl.wipe (l : Rl K Φ B σ H ρ) : ∀ vs : List Nat, Rl K Φ B (L2.wipe σ vs) H (wipeD ρ vs)
  | [] => l
  | v :: vs => (Rl.wipe l vs).setN v
theorem wipe_set {i : Nat} {o : Option V} : ∀ {vs : List Nat}, i ∈ vs → L2.wipe ((L2.wipe σ vs).set i o) vs = L2.wipe σ vs := by
  have comm : ∀ (τ : St) (j : Nat) (ws : List Nat), L2.wipe (τ.set j Option.none) ws = (L2.wipe τ ws).set j Option.none := by
    intro τ j ws
    induction ws with
    | nil => rfl
    | cons w ws ih =>
      unfold L2.wipe
      rw [ih]
      by_cases e : j = w
      · subst e; rfl
      · exact List.set_comm _ _ e
  have idem : ∀ (τ : St) (ws : List Nat), L2.wipe (L2.wipe τ ws) ws = L2.wipe τ ws := by
    intro τ ws
    induction ws with
    | nil => rfl
    | cons w ws ih =>
      show (L2.wipe ((L2.wipe τ ws).set w Option.none) ws).set w Option.none = (L2.wipe τ ws).set w Option.none
      rw [comm, ih, List.set_set]
  have forget : ∀ (ws : List Nat) (τ : St), i ∈ ws → L2.wipe (τ.set i o) ws = L2.wipe τ ws := by
    intro ws
    induction ws with
    | nil => intro τ h; exact absurd h (by simp)
    | cons w ws ih =>
      intro τ h
      show (L2.wipe (τ.set i o) ws).set w Option.none = (L2.wipe τ ws).set w Option.none
      by_cases e : i ∈ ws
      · rw [ih τ e]
      · have ew : i = w := by
          rcases List.mem_cons.mp h with z | z
          · exact z
          · exact absurd z e
        subst ew
        have out : ∀ (us : List Nat), i ∉ us → L2.wipe (τ.set i o) us = (L2.wipe τ us).set i o := by
          intro us
          induction us with
          | nil => intro _; rfl
          | cons u us ihu =>
            intro hu
            unfold L2.wipe
            rw [ihu fun z => hu (List.mem_cons_of_mem _ z)]
            exact List.set_comm _ _ (fun z => hu (by rw [z]; exact List.mem_cons_self))
        rw [out ws e, List.set_set]
  intro vs h
  rw [forget vs _ h, idem]
theorem abs_lc {s : VI} {i : Nat} {tt : VT} {te : VE} {vs : List Nat} (hi : i ∈ vs) {Q : VK} (q : tD K W (vLc s i tt te vs) σ H Q) : tLc (iD K W s) (gName i) (tDT K (W0 W.c) tt) (tD K (W0 W.c) te) vs σ H Q := by
  obtain ⟨Φ, B, ρ, Ψ, Ξ, l, x, t, k⟩ := q
  refine ⟨Φ, B, ρ, _, Ξ, l, x, t, fun J Bs Hs ds gs it ⟨hz, p, f, turn, fin⟩ D hD => ?_⟩
  have ls := l.grow gs
  have hBD : Bs D = Option.none := gs.s.free hD
  have g0 := Gr.new gs.s hD (o := .lst [])
  refine ⟨fun n m H => m = ds.length - n ∧ n ≤ ds.length ∧ ∃ B vsD, Gr Bs Hs B H ∧ B D = Option.none ∧ H D = some (.lst vsD) ∧ DenL K B vsD (((ds.take n).filter p).map f), ⟨ds.length, by simp, Nat.zero_le _, Bs, [], g0, hBD, upd_same, by simp; exact .nil⟩, ?_⟩
  rintro n m H1 ⟨rfl, hn, B1, vsD, g1, b1, h1, t1⟩
  obtain ⟨go, st, yl⟩ := it n B1 H1 g1.b g1.s hn
  rcases Nat.lt_or_ge n ds.length with z | z
  · refine .inr ⟨go z, fun H' => ∃ B vsD, Gr Bs Hs B H' ∧ B D = Option.none ∧ H' D = some (.lst vsD) ∧ DenL K B vsD (((ds.take (n + 1)).filter p).map f), fun H' hh => ⟨ds.length - (n + 1), by omega, rfl, z, hh⟩, fun v H2 y => ?_⟩
    obtain ⟨B2, g2, d2⟩ := yl v H2 ds[n] y (by simp)
    have g12 := g1.trans g2
    have l2 : Rl K Φ B2 ((L2.wipe σ vs).set i (some v)) H2 ((wipeD ρ vs).set i (.sh ds[n])) := ((ls.grow g12).wipe vs).setD i d2
    have step : ds.take (n + 1) = ds.take n ++ [ds[n]] := by rw [List.take_add_one]; simp [z]
    have D2 : ∀ {B3 H3 : Hp}, Gr B2 H2 B3 H3 → B3 D = Option.none ∧ H3 D = some (.lst vsD) ∧ DenL K B3 vsD (((ds.take n).filter p).map f) := fun {B3 H3} g3 => by
      have h2 : H2 D = some (.lst vsD) := g2.h _ _ h1
      have nb : B2 D = Option.none := (g2.n D (by rw [h1]; intro z; cases z)).trans b1
      exact ⟨(g3.n D (by rw [h2]; intro z; cases z)).trans nb, g3.h _ _ h2, t1.mono (g2.b.trans g3.b)⟩
    refine ⟨wipe_set hi, ?_⟩
    have noX : ∀ {B : Hp} {σ : St} {H : Hp}, XOk K (W0 W.c) Φ B σ H NoX := ⟨x.1, fun x hx => hx.elim⟩
    refine runT l2 noX (turn ds[n] (List.getElem_mem z)) fun b B3 H3 g3 ⟨hb, he⟩ => ?_
    cases b with
    | true =>
      rw [if_pos rfl]
      refine runE (l2.grow g3) noX (he rfl) fun y B4 H4 r4 g4 d4 ⟨hg, hr⟩ => ?_
      obtain ⟨B5, g5, _, d5⟩ := d4.settle g4 hg
      have g35 := g3.trans g5
      obtain ⟨q1, q2, q3⟩ := D2 g35
      refine ⟨vsD, q2, ?_, B5, vsD ++ [y], ?_, q1, upd_same, ?_⟩
      · rw [q3.len, List.length_map]
        refine Nat.lt_of_le_of_lt (List.length_filter_le _ _) ?_
        rw [List.length_take]
        exact sz6 (by omega)
      · have gg := g12.trans g35
        refine ⟨gg.b, fun b o e => by rw [upd_ne (ne_of_none e q1)]; exact gg.s _ _ e, fun b o e => by rw [upd_ne (ne_of_none e hD)]; exact gg.h _ _ e, gg.n⟩
      · rw [step, List.filter_append, List.map_append]
        refine q3.append ?_
        have : [ds[n]].filter p = [ds[n]] := by simp [← hb]
        rw [this]
        rw [hr] at d5
        exact .cons d5 .nil
    | false =>
      rw [if_neg Bool.false_ne_true]
      obtain ⟨q1, q2, q3⟩ := D2 g3
      refine ⟨B3, vsD, g12.trans g3, q1, q2, ?_⟩
      have : [ds[n]].filter p = [] := by simp [← hb]
      rw [step, List.filter_append, this, List.append_nil]
      exact q3
  · have e : n = ds.length := Nat.le_antisymm hn z
    subst e
    rw [List.take_length] at t1
    exact .inl ⟨st rfl, k (.ref D) B1 H1 (.fr _) (gs.trans g1) ⟨D, vsD, rfl, gs.h.free hD, h1, b1, t1⟩ fin⟩
end
def vYes : VT := fun _ Ψ _ => Ψ true
section
variable {X : Cx} {W : WC}
theorem dts_nil {K : PySem.W.Frag} {X : Cx} {W : WC} : PTs X [] (tDT K W vYes) := ⟨fun pins s σ H Q I ⟨Φ, B, ρ, Ψ, Ξ, l, x, t, k⟩ => pts_nil.run pins s σ H Q I (k true B H (Gr.refl l.s) t)⟩
theorem dts_one {c : Expr} {t : VT} (h : DT X W c t) : PTs X [c] (tDT X.K W t) := pts_one h
theorem de_lc {elt tg iter : Expr} {ifs : List Expr} {scope : Scope} {own : List (Str × Nat)} {pos : Pos} {s : VI} {i : Nat} {tt : VT} {te : VE} (hc : X.calm = true) (hN : X.N.Nodup) (hi : DI X W tg iter s) (ok : blkC X.N X.env.scope scope own = true)
    (hg : ∀ (s : Shared) (H : Hp) (C : Addr) (cl : List (Str × Addr)) (fp : List Addr), PG (X.blk s H scope (compEnvC scope cl C X.env) fp) tg (gName i)) (ht : ∀ (s : Shared) (H : Hp) (C : Addr) (cl : List (Str × Addr)) (fp : List Addr), PTs (X.blk s H scope (compEnvC scope cl C X.env) fp) ifs (tDT X.K (W0 W.c) tt))
    (he : ∀ (s : Shared) (H : Hp) (C : Addr) (cl : List (Str × Addr)) (fp : List Addr), DE (X.blk s H scope (compEnvC scope cl C X.env) fp) (W0 W.c) elt te) (hin : i ∈ own.map (·.2) := by simp) (hs : ∀ x, foldedSetIterable iter X.env x = pure x := by intro _; rfl) :
    DE X W (.ListComp elt [⟨tg, iter, ifs, 0⟩] scope pos) (vLc s i tt te (own.map (·.2))) := peI (pe_lc hc hN hi (blkOk_by ok) hg ht he hs) fun _ _ _ => abs_lc hin
theorem ds_setLc {j : Nat} {y : Str} {py : Pos} {elt tg iter : Expr} {ifs : List Expr} {scope : Scope} {own : List (Str × Nat)} {pos spos : Pos} {s : VI} {i : Nat} {tt : VT} {te : VE} (hc : X.calm = true) (hN : X.N.Nodup) (hy : X.N[j]? = some y) (hyl : X.env.scope.names.lookup y = some .local)
    (hsw : swapsWith (.ListComp elt [⟨tg, iter, ifs, 0⟩] scope pos) (some (.Name y py)) spos.line X.env = pure true) (hi : DI X W tg iter s) (ok : blkC X.N X.env.scope scope own = true)
    (hg : ∀ (s : Shared) (H : Hp) (C : Addr) (cl : List (Str × Addr)) (fp : List Addr), PG (X.blk s H scope (compEnvC scope cl C X.env) fp) tg (gName i)) (ht : ∀ (s : Shared) (H : Hp) (C : Addr) (cl : List (Str × Addr)) (fp : List Addr), PTs (X.blk s H scope (compEnvC scope cl C X.env) fp) ifs (tDT X.K (W0 W.c) tt))
    (he : ∀ (s : Shared) (H : Hp) (C : Addr) (cl : List (Str × Addr)) (fp : List Addr), DE (X.blk s H scope (compEnvC scope cl C X.env) fp) (W0 W.c) elt te) (hin : i ∈ own.map (·.2) := by simp) (hs : ∀ x, foldedSetIterable iter X.env x = pure x := by intro _; rfl) :
    DS X W (.Assign [.Name y py] (.ListComp elt [⟨tg, iter, ifs, 0⟩] scope pos) spos) (vAsg j (vLc s i tt te (own.map (·.2)))) := psI (ps_setLc (te := tD X.K (W0 W.c) te) hc hN hy hyl hsw hi (blkOk_by ok) hg ht he hs) fun D σ H ⟨Φ, B, ρ, D', l, ok, h⟩ => by
  refine abs_lc (W := W) (te := te) hin ?_
  exact ⟨Φ, B, ρ, _, _, l, ok.xok l, h, fun v B' H' r g d p => ok.nx B' _ H' _ (l.setR g j d p.1) p.2⟩
theorem ds_setLcS {j : Nat} {y : Str} {py : Pos} {elt tg iter : Expr} {ifs : List Expr} {scope : Scope} {own : List (Str × Nat)} {pos spos : Pos} {s : VI} {i : Nat} {tt : VT} {te : VE} (hc : X.calm = true) (hN : X.N.Nodup) (hy : X.N[j]? = some y) (hyl : X.env.scope.names.lookup y = some .local)
    (hsw : swapsWith (.ListComp elt [⟨tg, iter, ifs, 0⟩] scope pos) (some (.Name y py)) spos.line X.env = pure true) (hi : DI X W tg iter s) (ok : blkC X.N X.env.scope scope own = true)
    (hg : ∀ (s : Shared) (H : Hp) (C : Addr) (cl : List (Str × Addr)) (fp : List Addr), PG (X.blk s H scope (compEnvC scope cl C X.env) fp) tg (gName i)) (ht : ∀ (s : Shared) (H : Hp) (C : Addr) (cl : List (Str × Addr)) (fp : List Addr), PTs (X.blk s H scope (compEnvC scope cl C X.env) fp) ifs (tDT X.K (W0 W.c) tt))
    (he : ∀ (s : Shared) (H : Hp) (C : Addr) (cl : List (Str × Addr)) (fp : List Addr), DE (X.blk s H scope (compEnvC scope cl C X.env) fp) (W0 W.c) elt te) (hin : i ∈ own.map (·.2) := by simp) (hs : ∀ x, foldedSetIterable iter X.env x = pure x := by intro _; rfl) :
    DS X W (.Assign [.Name y py] (.ListComp elt [⟨tg, iter, ifs, 0⟩] scope pos) spos) (vAsgS j (vLc s i tt te (own.map (·.2)))) := psI (ps_setLc (te := tD X.K (W0 W.c) te) hc hN hy hyl hsw hi (blkOk_by ok) hg ht he hs) fun D σ H ⟨Φ, B, ρ, D', l, ok, h⟩ => by
  refine abs_lc (W := W) (te := te) hin ?_
  refine ⟨Φ, B, ρ, _, _, l, ok.xok l, h, fun v B' H' r g d p => ?_⟩
  obtain ⟨B2, g2, _, d2⟩ := d.settle g p.1
  exact ok.nx B2 _ H' _ ((l.grow g2).setD j d2) p.2
end
end DL
/-! DL, sixth part: calls. -/
namespace DL
open PySem L2

/-! ### built-in functions, by data -/
def vals : List R → Prop
  | [] => True
  | r :: rs => r.val ∧ vals rs
def VwL (K : PySem.W.Frag) (B H : Hp) : List V → List DV → Prop
  | [], [] => True
  | v :: vs, d :: ds => Vw K B H v d ∧ VwL K B H vs ds
  | _, _ => False
theorem DenRs.vw {K : PySem.W.Frag} {Φ : Fm} {B H : Hp} (s : Same B H) : ∀ {vs : List V} {rs : List R}, DenRs K Φ B H vs rs → vals rs → VwL K B H vs (rs.map R.d)
  | [], [], _, _ => True.intro
  | v :: vs, r :: rs, ⟨⟨h1, h2⟩, t⟩, ⟨hv, tv⟩ => by
    refine ⟨?_, DenRs.vw s t tv⟩
    by_cases hg : r.good
    · exact (h1 hg).vw s
    · have q := h2 hg
      cases r with
      | sh d => exact absurd True.intro hg
      | fr d => exact absurd True.intro hg
      | vw ds => obtain ⟨p, vs, e, e2, t, _⟩ := q; exact ⟨p, vs, e, e2, t⟩
      | vo C fs => exact q
      | xn x => exact False.elim hv
  | [], _ :: _, h, _ => h.elim
  | _ :: _, [], h, _ => h.elim
abbrev OC := List DV → (R → Prop) → Prop
def CallA (K : PySem.W.Frag) (r : List V → Hp → VK → Prop) (o : OC) : Prop := ∀ (Φ : Fm) (B H : Hp) (vs : List V) (ds : List DV) (Ψ : R → Prop) (Q : VK), Same B H → VwL K B H vs ds → o ds Ψ →
  (∀ z B' H' r, Gr B H B' H' → DenR K Φ H B' H' z r → Ψ r → Q z H') → r vs H Q
def vCB (o : OC) (ta : VA) : VE := fun ρ Ψ Ξ => ta ρ (fun rs => vals rs ∧ o (rs.map R.d) Ψ) Ξ
theorem abs_cb {K : PySem.W.Frag} {W : WC} {r : List V → Hp → VK → Prop} {o : OC} (h : CallA K r o) {ta : VA} {σ : St} {H : Hp} {Q : VK} (q : tD K W (vCB o ta) σ H Q) : tCB r (tDA K W ta) σ H Q := by
  obtain ⟨Φ, B, ρ, Ψ, Ξ, l, x, t, k⟩ := q
  refine runA l x t fun vs B1 H1 rs g1 dr ⟨hv, t1⟩ => ?_
  exact h Φ B1 H1 vs _ Ψ Q g1.s (dr.vw g1.s hv) t1 fun z B' H' r' g' d' p => k z B' H' r' (g1.trans g') (d'.back g1.h) p
section
variable {K : PySem.W.Frag} {B H : Hp} {vs : List V}
theorem vw1 {d : DV} (h : VwL K B H vs [d]) : ∃ v, vs = [v] ∧ Vw K B H v d := by
  cases vs with
  | nil => exact h.elim
  | cons v vs =>
    cases vs with
    | nil => exact ⟨v, rfl, h.1⟩
    | cons _ _ => exact h.2.elim
theorem vw2 {d e : DV} (h : VwL K B H vs [d, e]) : ∃ v u, vs = [v, u] ∧ Vw K B H v d ∧ Vw K B H u e := by
  cases vs with
  | nil => exact h.elim
  | cons v vs =>
    obtain ⟨u, rfl, w⟩ := vw1 h.2
    exact ⟨v, u, rfl, h.1, w⟩
end
def one (f : DV → (R → Prop) → Prop) : OC := fun ds Ψ => match ds with
  | [d] => f d Ψ
  | _ => False
def lenD (d : DV) (Ψ : R → Prop) : Prop := match d with
  | .lst ds => Ψ (.sh (.int ds.length))
  | .tup _ ds => Ψ (.sh (.int ds.length))
  | .str x => x.length ≤ sizeLine ∧ Ψ (.sh (.int x.length))
  | .scr ns => Ψ (.sh (.int ns.length))
  | _ => False
def intD (d : DV) (Ψ : R → Prop) : Prop := match d with
  | .int i => Ψ (.sh (.int i))
  | .bl k => Ψ (.sh (.int (if k then 1 else 0)))
  | _ => False
def absD (d : DV) (Ψ : R → Prop) : Prop := match d with
  | .int i => Ψ (.sh (.int (if i < 0 then -i else i)))
  | _ => False
def listD (d : DV) (Ψ : R → Prop) : Prop := match d with
  | .lst ds => Ψ (.fr ds)
  | .tup _ ds => Ψ (.fr ds)
  | _ => False
def tupD (d : DV) (Ψ : R → Prop) : Prop := match d with
  | .lst ds => Ψ (.sh (.tup true ds))
  | .tup x ds => Ψ (.sh (.tup x ds))
  | _ => False
section
variable {K : PySem.W.Frag}
theorem one_ok {ds : List DV} {f : DV → (R → Prop) → Prop} {Ψ : R → Prop} (h : one f ds Ψ) : ∃ d, ds = [d] ∧ f d Ψ := by
  unfold one at h
  split at h
  · exact ⟨_, rfl, h⟩
  · exact h.elim
theorem cA_len : CallA K (fun xs H Q => ∃ x n, xs = [x] ∧ LenV K x H n ∧ Q (.int n) H) (one lenD) := by
  intro Φ B H vs ds Ψ Q s w q k
  obtain ⟨d, rfl, q1⟩ := one_ok q
  obtain ⟨v, rfl, w1⟩ := vw1 w
  clear q w
  revert q1 w1
  intro q w
  unfold lenD at q
  split at q
  · obtain ⟨p, us, rfl, e, t⟩ := w.lst
    exact ⟨_, us.length, rfl, .inl ⟨us, SqL.of e, rfl⟩, by rw [t.len]; exact k _ B H (.sh (.int _)) (Gr.refl s) (.int _) q⟩
  · obtain ⟨p, us, rfl, _, e, t, _⟩ := w.tup s
    exact ⟨_, us.length, rfl, .inr ⟨us, e, rfl⟩, by rw [t.len]; exact k _ B H (.sh (.int _)) (Gr.refl s) (.int _) q⟩
  · rw [w.str]
    exact ⟨_, _, rfl, ⟨q.1, rfl⟩, k _ B H (.sh (.int _)) (Gr.refl s) (.int _) q.2⟩
  · rename_i ns
    obtain ⟨p, rfl, e⟩ := w.scr s
    exact ⟨_, ns.length, rfl, .inl ⟨_, e, by rw [List.length_map]⟩, k _ B H (.sh (.int _)) (Gr.refl s) (.int _) q⟩
  · exact q.elim
theorem cA_int : CallA K (fun xs H Q => (∃ i, xs = [.int i] ∧ Q (.int i) H) ∨ ∃ k, xs = [.bl k] ∧ Q (.int (if k then 1 else 0)) H) (one intD) := by
  intro Φ B H vs ds Ψ Q s w q k
  obtain ⟨d, rfl, q1⟩ := one_ok q
  obtain ⟨v, rfl, w1⟩ := vw1 w
  clear q w
  revert q1 w1
  intro q w
  unfold intD at q
  split at q
  · exact .inl ⟨_, by rw [w.int], k _ B H (.sh (.int _)) (Gr.refl s) (.int _) q⟩
  · exact .inr ⟨_, by rw [w.bl], k _ B H (.sh (.int _)) (Gr.refl s) (.int _) q⟩
  · exact q.elim
theorem cA_abs : CallA K (fun xs H Q => ∃ i, xs = [.int i] ∧ Q (.int (if i < 0 then -i else i)) H) (one absD) := by
  intro Φ B H vs ds Ψ Q s w q k
  obtain ⟨d, rfl, q1⟩ := one_ok q
  obtain ⟨v, rfl, w1⟩ := vw1 w
  clear q w
  revert q1 w1
  intro q w
  unfold absD at q
  split at q
  · exact ⟨_, by rw [w.int], k _ B H (.sh (.int _)) (Gr.refl s) (.int _) q⟩
  · exact q.elim
theorem cA_list : CallA K (fun xs H Q => ∃ p ys, xs = [.ref p] ∧ (SqL K H p ys ∨ SqT K H p ys) ∧ ∀ l, H l = Option.none → Q (.ref l) (upd H l (.lst ys))) (one listD) := by
  intro Φ B H vs ds Ψ Q s w q k
  obtain ⟨d, rfl, q1⟩ := one_ok q
  obtain ⟨v, rfl, w1⟩ := vw1 w
  clear q w
  revert q1 w1
  intro q w
  unfold listD at q
  split at q
  · obtain ⟨p, us, rfl, e, t⟩ := w.lst
    exact ⟨p, us, rfl, .inl (SqL.of e), fr_new s t q k⟩
  · obtain ⟨p, us, rfl, _, e, t, _⟩ := w.tup s
    exact ⟨p, us, rfl, .inr e, fr_new s t q k⟩
  · exact q.elim
theorem cA_tup : CallA K (fun xs H Q => ∃ p ys, xs = [.ref p] ∧ ((SqL K H p ys ∧ NewT H ys Q) ∨ (SqT K H p ys ∧ Q (.ref p) H))) (one tupD) := by
  intro Φ B H vs ds Ψ Q s w q k
  obtain ⟨d, rfl, q1⟩ := one_ok q
  obtain ⟨v, rfl, w1⟩ := vw1 w
  clear q w
  revert q1 w1
  intro q w
  unfold tupD at q
  split at q
  · obtain ⟨p, us, rfl, e, t⟩ := w.lst
    exact ⟨p, us, rfl, .inl ⟨SqL.of e, tup_new s t q k⟩⟩
  · obtain ⟨p, us, rfl, h0, e, t, b⟩ := w.tup s
    exact ⟨p, us, rfl, .inr ⟨e, k _ B H (.sh (.tup _ _)) (Gr.refl s) (.tup h0 b t) q⟩⟩
  · exact q.elim
/-- lists of bools, of ints -/
def asBls : List DV → Option (List Bool)
  | [] => some []
  | .bl b :: ds => (asBls ds).map (b :: ·)
  | _ => Option.none
def asInts : List DV → Option (List Int)
  | [] => some []
  | .int b :: ds => (asInts ds).map (b :: ·)
  | _ => Option.none
def asStrs : List DV → Option (List Str)
  | [] => some []
  | .str b :: ds => (asStrs ds).map (b :: ·)
  | _ => Option.none
theorem asBls_ok {B : Hp} : ∀ {vs : List V} {ds : List DV} {bs : List Bool}, DenL K B vs ds → asBls ds = some bs → vs = bs.map V.bl
  | _, _, _, .nil, e => by cases e; rfl
  | _, _, bs, .cons (d := d) h t, e => by
    cases d <;> first | (cases e; done) | skip
    simp only [asBls, Option.map_eq_some_iff] at e
    obtain ⟨cs, e, rfl⟩ := e
    cases h
    rw [asBls_ok t e]; rfl
theorem asInts_ok {B : Hp} : ∀ {vs : List V} {ds : List DV} {bs : List Int}, DenL K B vs ds → asInts ds = some bs → vs = bs.map V.int
  | _, _, _, .nil, e => by cases e; rfl
  | _, _, bs, .cons (d := d) h t, e => by
    cases d <;> first | (cases e; done) | skip
    simp only [asInts, Option.map_eq_some_iff] at e
    obtain ⟨cs, e, rfl⟩ := e
    cases h
    rw [asInts_ok t e]; rfl
theorem asStrs_ok {B : Hp} : ∀ {vs : List V} {ds : List DV} {bs : List Str}, DenL K B vs ds → asStrs ds = some bs → vs = bs.map V.str
  | _, _, _, .nil, e => by cases e; rfl
  | _, _, bs, .cons (d := d) h t, e => by
    cases d <;> first | (cases e; done) | skip
    simp only [asStrs, Option.map_eq_some_iff] at e
    obtain ⟨cs, e, rfl⟩ := e
    cases h
    rw [asStrs_ok t e]; rfl
def blsD (f : List Bool → DV) (d : DV) (Ψ : R → Prop) : Prop := match d with
  | .lst ds => match asBls ds with
    | some bs => Ψ (.sh (f bs))
    | _ => False
  | _ => False
def intsD (f : List Int → DV) (d : DV) (Ψ : R → Prop) : Prop := match d with
  | .lst ds => match asInts ds with
    | some bs => Ψ (.sh (f bs))
    | _ => False
  | _ => False
theorem cA_all : CallA K (rAll K) (one (blsD fun bs => .bl (bs.all id))) := by
  intro Φ B H vs ds Ψ Q s w q k
  obtain ⟨d, rfl, q1⟩ := one_ok q
  obtain ⟨v, rfl, w1⟩ := vw1 w
  clear q w
  revert q1 w1
  intro q w
  unfold blsD at q
  split at q
  · split at q
    · rename_i bs e
      obtain ⟨p, us, rfl, e1, t⟩ := w.lst
      exact ⟨p, bs, rfl, by rw [← asBls_ok t e]; exact SqL.of e1, k _ B H (.sh (.bl _)) (Gr.refl s) (.bl _) q⟩
    · exact q.elim
  · exact q.elim
theorem cA_any : CallA K (rAny K) (one (blsD fun bs => .bl (bs.any id))) := by
  intro Φ B H vs ds Ψ Q s w q k
  obtain ⟨d, rfl, q1⟩ := one_ok q
  obtain ⟨v, rfl, w1⟩ := vw1 w
  clear q w
  revert q1 w1
  intro q w
  unfold blsD at q
  split at q
  · split at q
    · rename_i bs e
      obtain ⟨p, us, rfl, e1, t⟩ := w.lst
      exact ⟨p, bs, rfl, by rw [← asBls_ok t e]; exact SqL.of e1, k _ B H (.sh (.bl _)) (Gr.refl s) (.bl _) q⟩
    · exact q.elim
  · exact q.elim
theorem cA_sum : CallA K (rSum K) (one (intsD fun ns => .int ns.sum)) := by
  intro Φ B H vs ds Ψ Q s w q k
  obtain ⟨d, rfl, q1⟩ := one_ok q
  obtain ⟨v, rfl, w1⟩ := vw1 w
  clear q w
  revert q1 w1
  intro q w
  unfold intsD at q
  split at q
  · split at q
    · rename_i bs e
      obtain ⟨p, us, rfl, e1, t⟩ := w.lst
      exact ⟨p, bs, rfl, by rw [← asInts_ok t e]; exact SqL.of e1, k _ B H (.sh (.int _)) (Gr.refl s) (.int _) q⟩
    · exact q.elim
  · exact q.elim
/-- isinstance -/
structure InsC (K : PySem.W.Frag) (C : Addr) : Prop where
  cl : Cls K C
  ha : PySem.W.findIn K (.ref C) "__class__" = some (some (.builtin "object.__class__"))
  hn : PySem.W.specialIn K (.builtin "object.__class__") "__get__" = some (some (.builtin "getset_descriptor.__get__"))
  tk : PySem.W.takesIn K (.builtin "object.__class__") = some true
  hm : PySem.W.mroIn K C (.type "object") = some true
def tyD (K : PySem.W.Frag) (x : DV) (Ψ : Value → Prop) : Prop := match x with
  | .non => Ψ (.type "NoneType")
  | .bl _ => Ψ (.type "bool")
  | .int _ => Ψ (.type "int")
  | .str _ => Ψ (.type "str")
  | .lst _ => Ψ (.type "list")
  | .tup _ _ => Ψ (.type "tuple")
  | .obj C _ => InsC K C ∧ Ψ (.ref C)
  | _ => False
def clD (c : DV) : Option Value := match c with
  | .ty n => some (.type n)
  | .cst a => some (.ref a)
  | _ => Option.none
def isiD (K : PySem.W.Frag) : OC := fun ds Ψ => match ds with
  | [x, c] => match clD c with
    | some u => tyD K x fun t => match PySem.W.kitOne K t u with
      | some b => Ψ (.sh (.bl b))
      | _ => False
    | _ => False
  | _ => False
theorem tyX_tup {a : Addr} {xs : List V} {B H : Hp} (s : Same B H) (h : SqT K B a xs) : TyX K H (.ref a) (.type "tuple") := by
  rcases h with (h | ⟨o, h⟩) | ⟨o, its, n, h, hc, _⟩
  · exact .base (.tup (s _ _ h))
  · exact .fTuple (s _ _ h)
  · exact .kTuple h hc
theorem tyD_ok {B H : Hp} {v : V} {x : DV} {Ψ : Value → Prop} (s : Same B H) (w : Vw K B H v x) (q : tyD K x Ψ) : ∃ t, TyX K H v t ∧ Ψ t := by
  unfold tyD at q
  split at q
  · rw [w.non]; exact ⟨_, .base .non, q⟩
  · rw [w.bl]; exact ⟨_, .base (.bl _), q⟩
  · rw [w.int]; exact ⟨_, .base (.int _), q⟩
  · rw [w.str]; exact ⟨_, .base (.str _), q⟩
  · obtain ⟨p, us, rfl, e, t⟩ := w.lst
    exact ⟨_, .base (.lst e), q⟩
  · obtain ⟨p, us, rfl, h0, e, t, _⟩ := w.tup s
    exact ⟨_, tyX_tup s h0, q⟩
  · obtain ⟨p, dx, fvs, rfl, e, t⟩ := w.obj
    exact ⟨_, .base (.ins e q.1.cl q.1.ha q.1.hn q.1.tk q.1.hm), q.2⟩
  · exact q.elim
theorem clD_ok {B H : Hp} {v : V} {c : DV} {u : Value} (w : Vw K B H v c) (e : clD c = some u) : ClsV v u := by
  unfold clD at e
  split at e
  · cases e; cases (show Den K B v (.ty _) from w); exact .ty _
  · cases e; cases (show Den K B v (.cst _) from w); exact .own _
  · cases e
theorem cA_isi : CallA K (rIsi K) (isiD K) := by
  intro Φ B H vs ds Ψ Q s w q k
  unfold isiD at q
  split at q
  · split at q
    · rename_i u e
      obtain ⟨v, c, rfl, w1, w2⟩ := vw2 w
      obtain ⟨t, ty, q⟩ := tyD_ok s w1 q
      split at q
      · rename_i b eb
        exact ⟨v, c, t, u, b, rfl, clD_ok w2 e, ty, eb, k _ B H (.sh (.bl b)) (Gr.refl s) (.bl _) q⟩
      · exact q.elim
    · exact q.elim
  · exact q.elim
end
section
variable {X : Cx} {W : WC} {x : Str} {p pos : Pos} {e : Expr} {es : List Expr} {ta : VA} {r : List V → Hp → VK → Prop} {o : OC}
theorem de_callB {id : String} (hc : CallR X (.builtin id) r) (hA : CallA X.K r o) (hg : Gl X x) (hm : X.mg x = Option.none) (hv : bootBuiltins x = some (.builtin id)) (ha : DA X W (e :: es) ta) (hn : x ≠ "__name__" := by decide) (hdb : (x == ("__debug__" : Str)) = false := by decide)
    (he : starEach (e :: es) X.env = (false, eval e X.env) :: starEach es X.env := by rfl) (hpl : (backTo pos (starEach es X.env)).any (·.1) = false := by rfl) : DE X W (.Call (.Name x p) (e :: es) [] pos) (vCB o ta) := peI (pe_callB hc hg hm hv ha hn hdb he hpl) fun _ _ _ => abs_cb hA
theorem de_callTy {T : String} (hc : CallR X (.type T) r) (hA : CallA X.K r o) (hg : Gl X x) (hm : X.mg x = Option.none) (hv : bootBuiltins x = some (.type T)) (ha : DA X W (e :: es) ta) (hn : x ≠ "__name__" := by decide) (hdb : (x == ("__debug__" : Str)) = false := by decide)
    (he : starEach (e :: es) X.env = (false, eval e X.env) :: starEach es X.env := by rfl) (hpl : (backTo pos (starEach es X.env)).any (·.1) = false := by rfl) : DE X W (.Call (.Name x p) (e :: es) [] pos) (vCB o ta) := peI (pe_callTy hc hg hm hv ha hn hdb he hpl) fun _ _ _ => abs_cb hA
/-! ### methods of built-in types, that change nothing -/
abbrev OM := DV → List DV → (R → Prop) → Prop
def MethA (K : PySem.W.Frag) (T : String) (r : V → List V → Hp → VK → Prop) (m : OM) : Prop := ∀ (Φ : Fm) (B H : Hp) (v : V) (vs : List V) (d : DV) (ds : List DV) (Ψ : R → Prop) (Q : VK), Same B H → Vw K B H v d → VwL K B H vs ds → m d ds Ψ →
  (∀ z B' H' r, Gr B H B' H' → DenR K Φ H B' H' z r → Ψ r → Q z H') → r v vs H Q
/-- the receiver's type, as the method's place -/
def tyM (T : String) (d : DV) : Prop := match d with
  | .str _ => T = "str"
  | .lst _ => T = "list"
  | _ => False
def vBM (T : String) (m : OM) (to : VE) (ta : VA) : VE := fun ρ Ψ Ξ => to ρ (fun r => r.val ∧ tyM T r.d ∧ ta ρ (fun rs => vals rs ∧ m r.d (rs.map R.d) Ψ) Ξ) Ξ
theorem tyM_ok {K : PySem.W.Frag} {B H : Hp} {T : String} {v : V} {d : DV} (w : Vw K B H v d) (h : tyM T d) : tyV K T v H := by
  unfold tyM at h
  split at h
  · rw [w.str]; exact h
  · obtain ⟨p, us, rfl, e, t⟩ := w.lst
    exact .inl ⟨h, us, SqL.of e⟩
  · exact h.elim
theorem de_bm {T : String} {name : Str} {id : String} {r : V → List V → Hp → VK → Prop} {m : OM} {o : Expr} {to : VE} {cpos apos : Pos} (pa : PlainAttrs T) (slot : Slot T name id) (hty : typeOf (.builtin id) = pure (.type "method_descriptor")) (hm : MtR X id r) (hA : MethA X.K T r m) (ho : DE X W o to) (ha : DA X W (e :: es) ta)
    (hbase : attributeBase o name X.env (eval o X.env) = eval o X.env := by rfl)
    (hfew : ((backTo cpos (starEach (e :: es) X.env)).all (fun x => !x.1) && (backToKw cpos (keywordEach [] X.env)).all (fun x => x.1.isSome) && decide ((e :: es).length + ([] : List Keyword).length + (if ([] : List Keyword).isEmpty then 0 else 1) < 30)) = true := by rfl)
    (hline : (apos.endLine == cpos.line) = true := by rfl) (hs : starEach (e :: es) X.env = (false, eval e X.env) :: starEach es X.env := by rfl) (hplain : (backTo cpos (starEach es X.env)).any (·.1) = false := by rfl) :
    DE X W (.Call (.Attribute o name apos) (e :: es) [] cpos) (vBM T m to ta) := peI (pe_bm pa slot hty hm ho ha hbase hfew hline hs hplain) fun σ H Q ⟨Φ, B, ρ, Ψ, Ξ, l, x, t, k⟩ => by
  refine runR l x t fun v B1 H1 r1 g1 w1 _ ⟨ht, t1⟩ => ?_
  refine ⟨tyM_ok w1 ht, runA (l.grow g1) (x.grow g1) t1 fun vs B2 H2 rs g2 dr ⟨hv, t2⟩ => ?_⟩
  exact hA Φ B2 H2 v vs _ _ Ψ Q g2.s (w1.grow g2) (dr.vw g2.s hv) t2 fun z B' H' r' g' d' p => k z B' H' r' ((g1.trans g2).trans g') (d'.back (g1.h.trans g2.h)) p
theorem de_bm0 {T : String} {name : Str} {id : String} {r : V → List V → Hp → VK → Prop} {m : OM} {o : Expr} {to : VE} {cpos apos : Pos} (pa : PlainAttrs T) (slot : Slot T name id) (hty : typeOf (.builtin id) = pure (.type "method_descriptor")) (hm : MtR X id r) (hA : MethA X.K T r m) (ho : DE X W o to)
    (hbase : attributeBase o name X.env (eval o X.env) = eval o X.env := by rfl) (hline : (apos.endLine == cpos.line) = true := by rfl) :
    DE X W (.Call (.Attribute o name apos) [] [] cpos) (vBM T m to vaNil) := peI (pe_bm0 pa slot hty hm ho hbase hline) fun σ H Q ⟨Φ, B, ρ, Ψ, Ξ, l, x, t, k⟩ => by
  refine runR l x t fun v B1 H1 r1 g1 w1 _ ⟨ht, _, t1⟩ => ?_
  exact ⟨tyM_ok w1 ht, hA Φ B1 H1 v [] _ [] Ψ Q g1.s w1 True.intro t1 fun z B' H' r' g' d' p => k z B' H' r' (g1.trans g') (d'.back g1.h) p⟩
end

/-! ### the text's own defs -/
abbrev SpD := List DV → (R → Prop) → XP → Prop
def spOf (K : PySem.W.Frag) (S : SpD) : Sp := fun vs H Q E => ∃ B ds Ψ Ξ, Same B H ∧ DenL K B vs ds ∧ S ds Ψ Ξ ∧
  (∀ (Φ : Fm) r v B' H', Ψ r → r.good → Gr B H B' H' → DenR K Φ H B' H' v r → Q v H') ∧ ∀ x cls dd B' H', Ξ x → Gr B H B' H' → DenX K B' H' cls dd x → E cls dd H'
mutual
/-- no list within, no script -/
def noL : DV → Bool
  | .lst _ => false
  | .scr _ => false
  | .tup _ ds => noLL ds
  | .obj _ fs => noLF fs
  | _ => true
def noLL : List DV → Bool
  | [] => true
  | d :: ds => noL d && noLL ds
def noLF : List (Str × DV) → Bool
  | [] => true
  | (_, d) :: ds => noL d && noLF ds
end
/-- the shared part without the lists at A -/
def lessA (B : Hp) (A : List Addr) : Hp := fun b => if b ∈ A then Option.none else B b
section
variable {K : PySem.W.Frag} {B : Hp} {A : List Addr}
mutual
theorem Den.less (hA : ∀ a, a ∈ A → ∃ vs, B a = some (.lst vs)) : ∀ {v : V} {d : DV}, Den K B v d → noL d = true → Den K (lessA B A) v d
  | _, _, .non, _ => .non
  | _, _, .bl b, _ => .bl b
  | _, _, .int i, _ => .int i
  | _, _, .str x, _ => .str x
  | _, _, .ty n, _ => .ty n
  | _, _, .cst a, _ => .cst a
  | _, _, .scr h, e => by cases e
  | _, _, .lst h t, e => by cases e
  | _, .tup _ ds, .tup (a := a) h b t, e => by
    have ne : ∀ o, B a = some o → (∀ vs, o ≠ .lst vs) → lessA B A a = some o := fun o q z => by
      unfold lessA
      rw [if_neg (fun hm => by obtain ⟨vs, q2⟩ := hA a hm; rw [q] at q2; exact z vs (Option.some.inj q2))]
      exact q
    refine .tup ?_ (fun z => ?_) (DenL.less hA t (by simpa only [noL] using e))
    · rcases h with (h | ⟨o, h⟩) | h
      · exact .inl (.inl (ne _ h fun _ z => by cases z))
      · exact .inl (.inr ⟨o, ne _ h fun _ z => by cases z⟩)
      · exact .inr h
    · rcases b z with ⟨o, u, h1, h2⟩ | h
      · exact .inl ⟨o, u, ne _ h1 (fun _ z => by cases z), h2⟩
      · exact .inr h
  | _, .obj _ fs, .obj (a := a) h t, e => by
    have q : lessA B A a = B a := if_neg (fun hm => by obtain ⟨vs, q2⟩ := hA a hm; rw [h] at q2; cases q2)
    exact .obj (q.trans h) (DenF.less hA t (by simpa only [noL] using e))
theorem DenL.less (hA : ∀ a, a ∈ A → ∃ vs, B a = some (.lst vs)) : ∀ {v : List V} {d : List DV}, DenL K B v d → noLL d = true → DenL K (lessA B A) v d
  | _, _, .nil, _ => .nil
  | _, _, .cons h t, e => by
    simp only [noLL, Bool.and_eq_true] at e
    exact .cons (Den.less hA h e.1) (DenL.less hA t e.2)
theorem DenF.less (hA : ∀ a, a ∈ A → ∃ vs, B a = some (.lst vs)) : ∀ {v : List (Str × V)} {d : List (Str × DV)}, DenF K B v d → noLF d = true → DenF K (lessA B A) v d
  | _, _, .nil, _ => .nil
  | _, _, .cons h t, e => by
    simp only [noLF, Bool.and_eq_true] at e
    exact .cons (Den.less hA h e.1) (DenF.less hA t e.2)
end
end
/-- arguments: shared, new, or lists of the frame's own -/
def valsC : List R → Prop
  | [] => True
  | r :: rs => (match r with | .sh _ => True | .fr _ => True | .vw _ => True | _ => False) ∧ valsC rs
def goodsB : List R → Bool
  | [] => true
  | r :: rs => (match r with | .sh _ => true | .fr _ => true | _ => false) && goodsB rs
/-- the shared part with the lists at A -/
def moreA (B H : Hp) (A : List Addr) : Hp := fun b => if b ∈ A then H b else B b
section
variable {K : PySem.W.Frag} {Φ : Fm} {B H : Hp}
/-- the lists of the frame's own among the arguments -/
structure ArgA (K : PySem.W.Frag) (B H : Hp) (vs : List V) (rs : List R) (A : List Addr) : Prop where
  own : ∀ a, a ∈ A → B a = Option.none ∧ ∃ us, H a = some (.lst us)
  den : DenL K (moreA B H A) vs (rs.map R.d)
  nil : goodsB rs = true → A = []
theorem moreA_same {A : List Addr} (s : Same B H) (h : ∀ a, a ∈ A → B a = Option.none) : Same B (moreA B H A) ∧ Same (moreA B H A) H := by
  refine ⟨fun b o e => ?_, fun b o e => ?_⟩
  · unfold moreA
    rw [if_neg (fun z => by rw [h b z] at e; cases e)]
    exact e
  · unfold moreA at e
    split at e
    · exact e
    · exact s _ _ e
theorem moreA_up {A A2 : List Addr} (s : Same B H) (h : ∀ a, a ∈ A → a ∈ A2) : Same (moreA B H A) (moreA B H A2) := fun b o e => by
  unfold moreA at e ⊢
  split at e
  · rename_i z
    rw [if_pos (h b z)]; exact e
  · split
    · exact s _ _ e
    · exact e
theorem args_ok (s : Same B H) : ∀ {vs : List V} {rs : List R}, DenRs K Φ B H vs rs → valsC rs → ∃ A, ArgA K B H vs rs A
  | [], [], _, _ => ⟨[], fun a h => by simp at h, .nil, fun _ => rfl⟩
  | v :: vs, r :: rs, ⟨⟨h1, h2⟩, t⟩, ⟨hv, tv⟩ => by
    obtain ⟨A, a1, a2, a3⟩ := args_ok s t tv
    cases r with
    | sh d => exact ⟨A, a1, .cons ((h1 True.intro).mono (moreA_same s fun a h => (a1 a h).1).1) a2, fun z => a3 (by simpa [goodsB] using z)⟩
    | fr d => exact ⟨A, a1, .cons ((h1 True.intro).mono (moreA_same s fun a h => (a1 a h).1).1) a2, fun z => a3 (by simpa [goodsB] using z)⟩
    | vw ds =>
      obtain ⟨p, us, rfl, e2, td, _, hb⟩ := h2 (fun z => z)
      have up := moreA_up (A := A) (A2 := p :: A) s fun a h => List.mem_cons_of_mem _ h
      have own : ∀ a, a ∈ p :: A → B a = Option.none ∧ ∃ us, H a = some (.lst us) := fun a h => by
        rcases List.mem_cons.mp h with z | z
        · subst z; exact ⟨hb, us, e2⟩
        · exact a1 a z
      refine ⟨p :: A, own, .cons (.lst (xs := us) ?_ (td.mono (moreA_same s fun a h => (own a h).1).1)) (a2.mono up), fun z => by simp [goodsB] at z⟩
      unfold moreA
      rw [if_pos List.mem_cons_self]
      exact e2
    | vo C fs => exact hv.elim
    | xn x => exact hv.elim
  | [], _ :: _, h, _ => h.elim
  | _ :: _, [], h, _ => h.elim
theorem DenR.phi {Φ' : Fm} {H0 : Hp} {v : V} {r : R} (h : DenR K Φ H0 B H v r) (hg : r.good) : DenR K Φ' H0 B H v r := by
  cases r <;> first | exact h | exact hg.elim
/-- behind a call: the callee's shared part without our own lists -/
theorem back_ok {A : List Addr} {B' H' : Hp} (s : Same B H) (own : ∀ a, a ∈ A → B a = Option.none ∧ ∃ us, H a = some (.lst us)) (g : Gr (moreA B H A) H B' H') : Gr B H (lessA B' A) H' ∧ ∀ a, a ∈ A → ∃ vs, B' a = some (.lst vs) := by
  have up := (moreA_same s fun a h => (own a h).1)
  have at' : ∀ a, a ∈ A → B' a = H a := fun a h => by
    obtain ⟨us, e⟩ := (own a h).2
    rw [g.n a (by rw [e]; intro z; cases z)]
    unfold moreA
    rw [if_pos h]
  refine ⟨⟨fun b o e => ?_, fun b o e => ?_, g.h, fun a ha => ?_⟩, fun a h => ?_⟩
  · unfold lessA
    rw [if_neg (fun z => by rw [(own b z).1] at e; cases e)]
    exact g.b _ _ (up.1 _ _ e)
  · unfold lessA at e
    split at e
    · cases e
    · exact g.s _ _ e
  · unfold lessA
    split
    · rename_i h
      exact ((own a h).1).symm
    · rename_i h
      rw [g.n a ha]
      unfold moreA
      rw [if_neg h]
  · obtain ⟨us, e⟩ := (own a h).2
    exact ⟨us, (at' a h).trans e⟩
end
def okRes (rs : List R) (r : R) : Prop := (goodsB rs || (match r with | .sh d => noL d | _ => false)) = true
def okXn (rs : List R) (x : Xn) : Prop := (goodsB rs || noLF x.fs) = true
def vCall (S : SpD) (ta : VA) : VE := fun ρ Ψ Ξ => ta ρ (fun rs => valsC rs ∧ S (rs.map R.d) (fun r => okRes rs r ∧ Ψ r) (fun x => okXn rs x ∧ Ξ x)) Ξ
section
variable {K : PySem.W.Frag} {Φ : Fm} {B H : Hp} {σ : St} {W : WC} {Ξ : XP} {Ψ : R → Prop}
theorem lookF {f : Str} {y : DV} : ∀ {fs : List (Str × DV)}, noLF fs = true → fs.lookup f = some y → noL y = true
  | [], _, e => by simp [List.lookup] at e
  | (g, d) :: fs, h, e => by
    simp only [noLF, Bool.and_eq_true] at h
    rw [List.lookup] at e
    split at e
    · cases e; exact h.1
    · exact lookF h.2 e
/-- the callee's promise, from the arguments' data -/
theorem call_go {S : SpD} {vs : List V} {rs : List R} {Q : VK} (s : Same B H) (dr : DenRs K Φ B H vs rs) (hv : valsC rs) (h : S (rs.map R.d) (fun r => okRes rs r ∧ Ψ r) (fun x => okXn rs x ∧ Ξ x))
    (k : ∀ z B' H' r, Gr B H B' H' → DenR K Φ H B' H' z r → Ψ r → Q z H') (x : XOk K W Φ B σ H Ξ) : spOf K S vs H Q (WE W.w σ) := by
  obtain ⟨A, own, den, nil⟩ := args_ok s dr hv
  have up := moreA_same (A := A) s fun a h => (own a h).1
  refine ⟨moreA B H A, _, _, _, up.2, den, h, fun Φ' r v B' H' ⟨ok, p⟩ hg g d => ?_, fun y cls dd B' H' ⟨ok, p⟩ g d => ?_⟩
  · obtain ⟨gb, hl⟩ := back_ok s own g
    cases hgB : goodsB rs with
    | true =>
      have e := nil hgB
      subst e
      have e1 : moreA B H [] = B := by funext b; unfold moreA; rw [if_neg (by simp)]
      rw [e1] at g
      exact k v B' H' r g (d.phi hg) p
    | false =>
      unfold okRes at ok
      rw [hgB, Bool.false_or] at ok
      cases r with
      | sh y => exact k v _ H' (.sh y) gb (Den.less hl d ok) p
      | _ => cases ok
  · obtain ⟨gb, hl⟩ := back_ok s own g
    cases hgB : goodsB rs with
    | true =>
      have e := nil hgB
      subst e
      have e1 : moreA B H [] = B := by funext b; unfold moreA; rw [if_neg (by simp)]
      rw [e1] at g
      exact x.2 y p B' H' cls dd g d
    | false =>
      unfold okXn at ok
      rw [hgB, Bool.false_or] at ok
      obtain ⟨e, d⟩ := d
      refine x.2 y p _ H' cls dd gb ⟨e, ?_⟩
      rcases d with d | ⟨d', fvs, e1, e2, e3⟩
      · exact .inl d
      · refine .inr ⟨d', fvs, e1, e2, fun f z q => ?_⟩
        obtain ⟨v, h1, h2⟩ := e3 f z q
        exact ⟨v, h1, Den.less hl h2 (lookF ok q)⟩
end
section
variable {X : Cx} {W : WC} {k : Nat} {f C : Addr} {fd : FuncData} {ps : List Str} {S : SpD} {x : Str} {p pos apos : Pos} {e o : Expr} {es : List Expr} {ta : VA} {to : VE}
abbrev FnD (P : Program) (w : World) (K : PySem.W.Frag) (mg : Str → Option Value) (base : Heap) (k : Nat) (f : Addr) (fd : FuncData) (ps : List Str) (S : SpD) : Prop := FnOk P w K mg base (L2.CX P w) k f fd ps (spOf K S)
/-- f(e, ..) -/
theorem de_call (F : FnD X.prog X.w X.K X.mg X.base k f fd ps S) (hr : Room k X.A) (hm : X.mg x = some (.ref f)) (hk : PySem.W.keepIn X.K (.ref f) = true) (hb : Binds X.K fd ps []) (tk : Takes X W.w) (ha : DA X W (e :: es) ta) (hg : Gl X x := by rfl) (hdb : (x == ("__debug__" : Str)) = false := by decide)
    (he : starEach (e :: es) X.env = (false, eval e X.env) :: starEach es X.env := by rfl) (hpl : (backTo pos (starEach es X.env)).any (·.1) = false := by rfl) : DE X W (.Call (.Name x p) (e :: es) [] pos) (vCall S ta) :=
  peI (pe_callSD (dvs := []) (ds := []) F hr hg hm hk hb .nil (fun σ => passAt tk σ) ha hdb he hpl) fun σ H Q ⟨Φ, B, ρ, Ψ, Ξ, l, xo, t, kk⟩ => by
    refine runA l xo t fun vs B1 H1 rs g1 dr ⟨hv, t1⟩ => ?_
    rw [List.append_nil]
    exact call_go g1.s dr hv t1 (fun z B' H' r' g' d' p => kk z B' H' r' (g1.trans g') (d'.back g1.h) p) (xo.grow g1)
/-- f() -/
theorem de_call0 (F : FnD X.prog X.w X.K X.mg X.base k f fd ps S) (hr : Room k X.A) (hm : X.mg x = some (.ref f)) (hk : PySem.W.keepIn X.K (.ref f) = true) (hb : Binds X.K fd ps []) (tk : Takes X W.w) (hg : Gl X x := by rfl) (hdb : (x == ("__debug__" : Str)) = false := by decide) : DE X W (.Call (.Name x p) [] [] pos) (vCall S vaNil) := by
  refine ⟨fun pins s σ H Q I hh => ?_⟩
  obtain ⟨Φ, B, ρ, Ψ, Ξ, l, xo, t, kk⟩ := hh
  refine wpAny_Call_Name_kw (ld_glob I hg hm ?_ hdb)
  refine PySem.W.callWith_K0 I.kIn hk ?_
  refine run_fnSD (vs := []) (us := []) (dvs := []) (ds := []) F hr hb .nil (passAt tk σ) I .nil ?_
  exact call_go (rs := []) (Φ := Φ) l.s True.intro t.1 t.2 kk xo
/-- o.m(e, ..), o of the class at C -/
def vMeth (C : Addr) (m : Str) (S : SpD) (to : VE) (ta : VA) : VE := fun ρ Ψ Ξ => to ρ (fun r => r.good ∧ match r.d with
  | .obj C' fs => C' = C ∧ fs.lookup m = Option.none ∧ ta ρ (fun rs => valsC rs ∧ S (.obj C' fs :: rs.map R.d) (fun q => okRes rs q ∧ Ψ q) (fun x => okXn rs x ∧ Ξ x)) Ξ
  | _ => False) Ξ
theorem DenF.miss {K : PySem.W.Frag} {B : Hp} {m : Str} : ∀ {fs : List (Str × V)} {gs : List (Str × DV)}, DenF K B fs gs → gs.lookup m = Option.none → fs.lookup m = Option.none
  | _, _, .nil, _ => rfl
  | _, _, .cons (f := g) h t, e => by
    rw [List.lookup] at e ⊢
    cases q : m == g with
    | true => simp only [q] at e; cases e
    | false => simp only [q] at e ⊢; exact DenF.miss t e
theorem meth_go {σ : St} {H : Hp} {Q : VK} {m : Str} (q : tD X.K W (vMeth C m S to ta) σ H Q) : tD X.K W to σ H fun v H1 => ∃ a dx fs, v = .ref a ∧ H1 a = some (.ins C dx fs) ∧ fs.lookup m = Option.none ∧ tDA X.K W ta σ H1 fun vs H2 => spOf X.K S (v :: vs) H2 Q (WE W.w σ) := by
  obtain ⟨Φ, B, ρ, Ψ, Ξ, l, xo, t, kk⟩ := q
  refine runE l xo t fun v B1 H1 r g d ⟨hg, t1⟩ => ?_
  obtain ⟨B2, g2, _, d2⟩ := d.settle g hg
  split at t1
  · rename_i C' fs er
    obtain ⟨rfl, hm, t1⟩ := t1
    rw [er] at d2
    cases d2 with
    | obj h t2 =>
      refine ⟨_, _, _, rfl, g2.s _ _ h, DenF.miss t2 hm, runA (l.grow g2) (xo.grow g2) t1 fun vs B3 H3 rs g3 dr ⟨hv, t3⟩ => ?_⟩
      have g23 := g2.trans g3
      refine call_go (rs := .sh (.obj C' fs) :: rs) (Φ := Φ) g3.s ⟨⟨fun _ => .obj (g3.b _ _ h) (t2.mono g3.b), fun z => absurd True.intro z⟩, dr⟩ ⟨True.intro, hv⟩ ?_ (fun z B' H' r' g' d' p => kk z B' H' r' (g23.trans g') (d'.back g23.h) p) (xo.grow g23)
      have e1 : ∀ q, okRes (.sh (.obj C' fs) :: rs) q = okRes rs q := fun q => by unfold okRes; simp [goodsB]
      have e2 : ∀ y, okXn (.sh (.obj C' fs) :: rs) y = okXn rs y := fun y => by unfold okXn; simp [goodsB]
      simp only [e1, e2]
      exact t3
  · exact t1.elim
theorem de_meth {m : Str} {pl : Sem Bool} (ho : DE X W o to) (c : Cls X.K C) (hm : Meth X.K C m f) (F : FnD X.prog X.w X.K X.mg X.base k f fd ps S) (hr : Room k X.A) (hb : Binds X.K fd ps []) (tk : Takes X W.w) (ha : DA X W (e :: es) ta)
    (hst : starEach (e :: es) X.env = (false, eval e X.env) :: starEach es X.env := by rfl) (hpl : (backTo pos (starEach es X.env)).any (·.1) = false := by rfl)
    (ht : eval (.Call (.Attribute o m apos) (e :: es) [] pos) X.env = (do let ov ← eval o X.env; standAt apos.atName; let (f, first) ← holding [ov] (getMethod ov m pl); callWith pos f first (backTo pos (starEach (e :: es) X.env)) (backToKw pos (keywordEach [] X.env))) := by rfl) :
    DE X W (.Call (.Attribute o m apos) (e :: es) [] pos) (vMeth C m S to ta) := by
  refine ⟨fun pins s σ H Q I q => ?_⟩
  refine PySem.W.methodCall_KW (pl := pl) (thn (ho.run pins s σ H _ I (meth_go q)) fun u s1 hh => ?_) ht
  obtain ⟨x, H1, I1, rx, a, dx, fs, ex, ea, l, q1⟩ := hh
  subst ex
  obtain rfl : u = Value.ref a := rx
  refine getmeth_ok I1 ea c hm l (PySem.W.callWith_K (first := [.ref a]) (h₀ := X.base) I.ok.mod.kin hm.kp (thn (ha.run pos pins s1 σ H1 _ I1 q1) fun us s2 h2 => ?_) hst hpl)
  obtain ⟨vs, H2, I2, r, q2⟩ := h2
  refine ⟨I2.kIn, run_fnSD (us := .ref a :: us) (vs := .ref a :: vs) (dvs := []) (ds := []) F hr hb .nil (passAt tk σ) I2 (.cons rfl r) ?_⟩
  rw [List.append_nil]
  exact q2
theorem de_meth0 {m : Str} {pl : Sem Bool} (ho : DE X W o to) (c : Cls X.K C) (hm : Meth X.K C m f) (F : FnD X.prog X.w X.K X.mg X.base k f fd ps S) (hr : Room k X.A) (hb : Binds X.K fd ps []) (tk : Takes X W.w)
    (ht : eval (.Call (.Attribute o m apos) [] [] pos) X.env = (do let ov ← eval o X.env; standAt apos.atName; let (f, first) ← holding [ov] (getMethod ov m pl); callWith pos f first (backTo pos (starEach [] X.env)) (backToKw pos (keywordEach [] X.env))) := by rfl) :
    DE X W (.Call (.Attribute o m apos) [] [] pos) (vMeth C m S to vaNil) := by
  refine ⟨fun pins s σ H Q I q => ?_⟩
  refine PySem.W.methodCall_KW (pl := pl) (thn (ho.run pins s σ H _ I (meth_go q)) fun u s1 hh => ?_) ht
  obtain ⟨x, H1, I1, rx, a, dx, fs, ex, ea, l, q1⟩ := hh
  subst ex
  obtain rfl : u = Value.ref a := rx
  refine getmeth_ok I1 ea c hm l (PySem.W.callWith_K0 (first := [.ref a]) I1.kIn hm.kp ?_)
  obtain ⟨Φ, B, ρ, Ψ, Ξ, lr, xo, t, kk⟩ := q1
  refine run_fnSD (us := [.ref a]) (vs := [.ref a]) (dvs := []) (ds := []) F hr hb .nil (passAt tk σ) I1 (.cons rfl .nil) ?_
  rw [List.append_nil]
  exact kk [] B H1 [] (Gr.refl lr.s) True.intro t
/-! ### attributes -/
def vFldC (Cs : List Addr) (f : Str) (to : VE) : VE := fun ρ Ψ Ξ => to ρ (fun r => r.val ∧ match r.d with
  | .obj C fs => C ∈ Cs ∧ match fs.lookup f with
    | some d => Ψ (.sh d)
    | _ => False
  | _ => False) Ξ
theorem de_fldC {Cs : List Addr} {f : Str} (ho : DE X W o to) (hc : ∀ C, C ∈ Cs → Cls X.K C ∧ NoAttr X.K C f) (hb : attributeBase o f X.env (eval o X.env) = eval o X.env := by rfl) : DE X W (.Attribute o f pos) (vFldC Cs f to) := peI (pe_fld ho hb) fun σ H Q ⟨Φ, B, ρ, Ψ, Ξ, l, xo, t, kk⟩ => by
  refine runR l xo t fun v B1 H1 r g w _ t1 => ?_
  split at t1
  · rename_i C fs er
    obtain ⟨hC, t1⟩ := t1
    split at t1
    · rename_i d ed
      rw [er] at w
      obtain ⟨a, dx, fvs, rfl, e, t2⟩ := w.obj
      obtain ⟨u, h1, h2⟩ := t2.get ed
      exact ⟨a, C, dx, fvs, u, rfl, e, (hc C hC).1, (hc C hC).2, h1, kk u B1 H1 (.sh d) g h2 t1⟩
    · exact t1.elim
  · exact t1.elim
/-- x in slot i, an object of the frame's own: x.f = e -/
def putD (f : Str) (d : DV) : List (Str × DV) → List (Str × DV)
  | [] => [(f, d)]
  | (g, y) :: r => if g = f then (g, d) :: r else (g, y) :: putD f d r
end
end DL
/-! DL, seventh part: defs by their readings; objects made; own errors raised. -/
namespace DL
open PySem L2
open PyProof.Rows (envOfC)

/-! ### a def by its reading -/
abbrev endsF (Ψ : R → Prop) (Ξ : XP) : EndsD := ⟨fun _ => Ψ (.sh .non), Ψ, fun _ => False, fun _ => False, fun _ => Ξ⟩
abbrev endsI (C : Addr) (Ψ : List (Str × DV) → Prop) (Ξ : XP) : EndsD := ⟨fun ρ => ∃ fs, ρ[0]? = some (.oo C fs) ∧ Ψ fs, fun _ => False, fun _ => False, fun _ => False, fun _ => Ξ⟩
def stD (N : List Str) (ds : List DV) : Env' := ds.map .sh ++ List.replicate (N.length - ds.length) .un
theorem stGet {N : List Str} {ds : List DV} {i : Nat} {e : Ent} (h : (stD N ds)[i]? = some e) : (∃ d, ds[i]? = some d ∧ e = .sh d) ∨ e = .un := by
  unfold stD at h
  rw [List.getElem?_append] at h
  split at h
  · rw [List.getElem?_map, Option.map_eq_some_iff] at h
    obtain ⟨d, h1, h2⟩ := h
    exact .inl ⟨d, h1, h2.symm⟩
  · rw [List.getElem?_replicate] at h
    split at h
    · exact .inr (Option.some.inj h).symm
    · cases h
theorem startGet {N : List Str} {vs : List V} {i : Nat} {v : V} (h : vs[i]? = some v) : (start N vs)[i]? = some (some v) := by
  unfold L2.start
  rw [List.getElem?_append_left (by rw [List.length_map]; exact (List.getElem?_eq_some_iff.mp h).1), List.getElem?_map, h]
  rfl
theorem startLen {N : List Str} {vs : List V} {ds : List DV} (h : vs.length = ds.length) : (start N vs).length = (stD N ds).length := by
  unfold L2.start stD
  rw [List.length_append, List.length_append, List.length_map, List.length_map, List.length_replicate, List.length_replicate, h]
theorem Rl.beg {K : PySem.W.Frag} {B H : Hp} {N : List Str} {vs : List V} {ds : List DV} (s : Same B H) (t : DenL K B vs ds) : Rl K ⟨B, H, Option.none, Option.none⟩ B (start N vs) H (stD N ds) := by
  refine ⟨Gr.refl s, startLen t.len, fun i d e => ?_, fun i es e => ?_, fun i C fs e => ?_, fun i x e => ?_, fun i j C fs C' fs' e _ => ?_, fun i j p d1 d2 _ e _ _ _ => ?_⟩
  · rcases stGet e with ⟨d', h1, h2⟩ | h2
    · cases h2
      obtain ⟨u, q1, q2⟩ := t.get h1
      exact ⟨u, startGet q1, q2⟩
    · cases h2
  all_goals
    rcases stGet e with ⟨d', h1, h2⟩ | h2
    · cases h2
    · cases h2
section
variable {P : Program} {w : World} {K : PySem.W.Frag} {mg : Str → Option Value} {base : Heap} {x qual : Str} {st : Stmt} {f : Addr} {fd : FuncData} {N ps : List Str} {k : Nat}
theorem fnD {S : SpD} {t : VS} (F : Fun K x qual st f fd) (Sc : FnScope N ps (defScope st)) (len : ∀ ds Ψ Ξ, S ds Ψ Ξ → ds.length = ps.length)
    (hbody : ∀ (cdv : Value) (A : Around) (outer : List Env) (s : Shared) (H : Hp) (E : XK), Room k (A.deeper (envOfC qual (defScope st) s.heap.objs.size f cdv)) →
      DSs (cxOf (L2.CX P w) P w K mg base N qual (defScope st) f cdv A outer s H E) ⟨fun cls d _ H => E cls d H, Option.none⟩ (defBody st) t)
    (hp : ∀ ds Ψ Ξ, S ds Ψ Ξ → t (endsF Ψ Ξ) (stD N ds)) : FnD P w K mg base (k + 1) f fd ps S := by
  refine F.okX Sc (fun vs H Q E ⟨B, ds, Ψ, Ξ, s, t, h, _⟩ => t.len.trans (len _ _ _ h)) fun cdv A outer s H vs Q E hr ⟨B, ds, Ψ, Ξ, sm, dl, h, hq, he⟩ => ⟨_, hbody cdv A outer s H E hr, ?_⟩
  refine ⟨⟨B, H, Option.none, Option.none⟩, B, stD N ds, endsF Ψ Ξ, Rl.beg sm dl, ⟨rfl, fun B' σ H' ρ l q => ?_, fun _ _ _ _ _ q => q.elim, fun _ _ _ _ _ q => q.elim, fun B' H' v r g hg d q => ?_, fun B' σ H' ρ y cls d l dx q => ?_⟩, hp ds Ψ Ξ h⟩
  · exact hq ⟨B, H, Option.none, Option.none⟩ _ .non B' H' q True.intro l.gr .non
  · exact hq _ r v B' H' q hg g d
  · exact he y cls d B' H' q l.gr dx

/-! ### __init__, by its reading -/
abbrev SpI := List DV → (List (Str × DV) → Prop) → XP → Prop
def stI (C : Addr) (N : List Str) (ds : List DV) : Env' := .oo C [] :: stD N.tail ds
def spInit (K : PySem.W.Frag) (C : Addr) (S : SpI) : Sp := fun vs H Q E => ∃ (p dx : Addr) (us : List V) (B : Hp) (ds : List DV) (Ψ : List (Str × DV) → Prop) (Ξ : XP), vs = .ref p :: us ∧ H p = some (.ins C dx []) ∧ B p = Option.none ∧ Same B (L2.del H p) ∧ DenL K B us ds ∧ S ds Ψ Ξ ∧
  (∀ dx' fvs fs B' H', Ψ fs → Gr B (L2.del H p) B' H' → H' p = some (.ins C dx' fvs) → DenF K B' fvs fs → B' p = Option.none → Q .non H') ∧ ∀ x cls dd B' H', Ξ x → Gr B (L2.del H p) B' H' → DenX K B' H' cls dd x → E cls dd H'
theorem del_le {H : Hp} {p : Addr} : Same (L2.del H p) H := fun b o e => by
  by_cases z : b = p
  · rw [z, L2.del_same] at e; cases e
  · rw [L2.del_ne z] at e; exact e
theorem Rl.begI {B H : Hp} {C p dx : Addr} {vs : List V} {ds : List DV} (hN : N ≠ []) (hp : H p = some (.ins C dx [])) (hb : B p = Option.none) (s : Same B (L2.del H p)) (t : DenL K B vs ds) :
    Rl K ⟨B, L2.del H p, Option.none, some p⟩ B (start N (.ref p :: vs)) H (stI C N ds) := by
  obtain ⟨n0, N', rfl⟩ : ∃ a b, N = a :: b := by
    cases N with
    | nil => exact absurd rfl hN
    | cons a b => exact ⟨a, b, rfl⟩
  have e0 : start (n0 :: N') (.ref p :: vs) = some (.ref p) :: start N' vs := by
    unfold L2.start
    rw [List.map_cons, List.length_cons, List.length_cons, Nat.add_sub_add_right]
    rfl
  have e1 : stI C (n0 :: N') ds = .oo C [] :: stD N' ds := rfl
  have sH := s.trans (del_le (H := H) (p := p))
  rw [e0, e1]
  refine ⟨⟨Same.refl _, sH, del_le, fun _ _ => rfl⟩, by rw [List.length_cons, List.length_cons, startLen t.len], fun i d e => ?_, fun i es e => ?_, fun i C fs e => ?_, fun i x e => ?_, fun i j C fs C' fs' e e' => ?_, fun i j p d1 d2 _ e _ _ _ => ?_⟩
  · cases i with
    | zero => cases e
    | succ i =>
      rcases stGet (by simpa using e) with ⟨d', h1, h2⟩ | h2
      · cases h2
        obtain ⟨u, q1, q2⟩ := t.get h1
        exact ⟨u, by rw [List.getElem?_cons_succ]; exact startGet q1, q2⟩
      · cases h2
  · cases i with
    | zero => cases e
    | succ i => rcases stGet (by simpa using e) with ⟨d', h1, h2⟩ | h2 <;> cases h2
  · cases i with
    | zero =>
      cases e
      exact ⟨p, dx, [], rfl, hp, .nil, L2.del_same, hb, rfl⟩
    | succ i => rcases stGet (by simpa using e) with ⟨d', h1, h2⟩ | h2 <;> cases h2
  · cases i with
    | zero => cases e
    | succ i => rcases stGet (by simpa using e) with ⟨d', h1, h2⟩ | h2 <;> cases h2
  · cases i with
    | zero =>
      cases j with
      | zero => rfl
      | succ j => rcases stGet (by simpa using e') with ⟨d', h1, h2⟩ | h2 <;> cases h2
    | succ i => rcases stGet (by simpa using e) with ⟨d', h1, h2⟩ | h2 <;> cases h2
  · cases i with
    | zero => cases e
    | succ i => rcases stGet (by simpa using e) with ⟨d', h1, h2⟩ | h2 <;> cases h2
abbrev FnI (P : Program) (w : World) (K : PySem.W.Frag) (mg : Str → Option Value) (base : Heap) (k : Nat) (f : Addr) (fd : FuncData) (ps : List Str) (C : Addr) (S : SpI) : Prop := FnOk P w K mg base (L2.CX P w) k f fd ps (spInit K C S)
theorem initD {S : SpI} {t : VS} {C : Addr} (F : Fun K x qual st f fd) (Sc : FnScope N ps (defScope st)) (hN : N ≠ []) (len : ∀ ds Ψ Ξ, S ds Ψ Ξ → ds.length + 1 = ps.length)
    (hbody : ∀ (cdv : Value) (A : Around) (outer : List Env) (s : Shared) (H : Hp) (E : XK), Room k (A.deeper (envOfC qual (defScope st) s.heap.objs.size f cdv)) →
      DSs (cxOf (L2.CX P w) P w K mg base N qual (defScope st) f cdv A outer s H E) ⟨fun cls d _ H => E cls d H, Option.none⟩ (defBody st) t)
    (hp : ∀ ds Ψ Ξ, S ds Ψ Ξ → t (endsI C Ψ Ξ) (stI C N ds)) : FnI P w K mg base (k + 1) f fd ps C S := by
  refine F.okX Sc (fun vs H Q E ⟨p, dx, us, B, ds, Ψ, Ξ, e, _, _, _, t, h, _⟩ => ?_) fun cdv A outer s H vs Q E hr ⟨p, dx, us, B, ds, Ψ, Ξ, e, hpp, hbp, sm, dl, h, hq, he⟩ => ⟨_, hbody cdv A outer s H E hr, ?_⟩
  · rw [e, List.length_cons, t.len]
    exact len _ _ _ h
  subst e
  refine ⟨_, B, stI C N ds, endsI C Ψ Ξ, Rl.begI hN hpp hbp sm dl, ⟨rfl, fun B' σ H' ρ l ⟨fs, e0, q⟩ => ?_, fun _ _ _ _ _ q => q.elim, fun _ _ _ _ _ q => q.elim, fun _ _ _ _ _ _ _ q => q.elim, fun B' σ H' ρ y cls d l dx q => ?_⟩, hp ds Ψ Ξ h⟩
  · obtain ⟨p2, dx2, fvs, e1, e2, h1, h2, h3, h4⟩ := l.oo 0 C fs e0
    cases h4
    exact hq dx2 fvs fs B' H' q l.gr e2 h1 h3
  · exact he y cls d B' H' q l.gr dx
end

/-! ### C(e, ..) -/
def mkS (C : Addr) (S : SpI) : SpD := fun ds Ψ Ξ => S ds (fun fs => Ψ (.sh (.obj C fs))) Ξ
theorem make_sp {K : PySem.W.Frag} {C : Addr} {S : SpI} {vs : List V} {H : Hp} {Q : VK} {E : XK} (h : spOf K (mkS C S) vs H Q E) {x dx : Addr} (hx : H x = Option.none) (hd : H dx = Option.none) (ne : dx ≠ x) :
    spInit K C S (.ref x :: vs) (upd (upd H dx (.own x)) x (.ins C dx [])) (fun v H2 => v = .non ∧ Q (.ref x) H2) E := by
  obtain ⟨B, ds, Ψ, Ξ, s, t, hS, hq, he⟩ := h
  have e1 : L2.del (upd (upd H dx (.own x)) x (.ins C dx [])) x = upd H dx (.own x) := by
    funext b
    by_cases z : b = x
    · rw [z, L2.del_same, upd_ne (Ne.symm ne), hx]
    · rw [L2.del_ne z, upd_ne z]
  have eH : Same H (upd H dx (.own x)) := fun b o e => by rw [upd_ne (ne_of_none e hd)]; exact e
  have g0 : ∀ {B' H' : Hp}, Gr B (upd H dx (.own x)) B' H' → Gr B H B' H' := fun {B' H'} g => ⟨g.b, g.s, eH.trans g.h, fun a ha => g.n a (by
    cases q : H a with
    | none => exact absurd q ha
    | some o => rw [eH a o q]; intro z; cases z)⟩
  refine ⟨x, dx, vs, B, ds, _, Ξ, rfl, upd_same, s.free hx, by rw [e1]; exact s.trans eH, t, hS, fun dx' fvs fs B' H' q g hp df hb => ?_, fun y cls dd B' H' q g d => ?_⟩
  · rw [e1] at g
    have g2 := g0 g
    refine ⟨rfl, ?_⟩
    have eb : Same B' (upd B' x (.ins C dx' fvs)) := fun b o e => by rw [upd_ne (ne_of_none e hb)]; exact e
    refine hq ⟨B, H, Option.none, Option.none⟩ (.sh (.obj C fs)) (.ref x) (upd B' x (.ins C dx' fvs)) H' q True.intro ⟨g2.b.trans eb, fun b o e => ?_, g2.h, fun a ha => ?_⟩ (.obj upd_same (df.mono eb))
    · by_cases z : b = x
      · rw [z, upd_same] at e; cases e; rw [z]; exact hp
      · rw [upd_ne z] at e; exact g2.s _ _ e
    · have : a ≠ x := fun z => ha (by rw [z]; exact hx)
      rw [upd_ne this]; exact g2.n a ha
  · rw [e1] at g
    exact he y cls dd B' H' q (g0 g) d
section
variable {X : Cx} {W : WC} {k : Nat} {f C : Addr} {fd : FuncData} {ps : List Str} {S : SpI} {x : Str} {p pos apos : Pos} {e o : Expr} {es : List Expr} {ta : VA} {to : VE}
theorem run_mkD {pins : List (Addr × Obj)} {σ : St} {H : Hp} {s : Shared} {Q : VK} {us : List Value} {vs : List V} (M : Mk X.K C f) (F : FnI X.prog X.w X.K X.mg X.base k f fd ps C S) (hr : Room (k + 1) X.A) (hb : Binds X.K fd ps []) (tk : Takes X W.w)
    (I : Inv X pins σ H s) (r : Vals vs us) (h : spOf X.K (mkS C S) vs H Q (WE W.w σ)) : wpAny (model X.prog X.w) X.A (call (.ref C) us) (EP X pins σ Q) X.xe s := by
  have go := make_sp h (x := s.heap.objs.size + 1) (dx := s.heap.objs.size) (I.hok.fresh (Nat.le_succ _)) (I.hok.fresh (Nat.le_refl _)) (Nat.ne_of_lt (Nat.lt_succ_self _))
  have J := Inv.made (C := C) I
  have rr : Vals (V.ref (s.heap.objs.size + 1) :: vs) (Value.ref (s.heap.objs.size + 1) :: us) := .cons rfl r
  have hb1 := hb _ (Value.ref (s.heap.objs.size + 1) :: us) J.kIn (by rw [List.append_nil, ← rr.length]; exact F.len _ _ _ _ go)
  rw [List.append_nil] at hb1
  have run := F.run _ X.stack _ _ ⟨Value.ref (s.heap.objs.size + 1) :: us, []⟩ _ _ _ _ (hr.make C us []) (J.env0.make C us []) hb1 rr go
  refine wpAny_call (make_map (f := f) I.kIn M.makes M.init (beq_iff_eq.mp M.fn) (codeAny_mono run fun r s' q => ?_))
  cases r with
  | error er => exact passAt tk σ pins _ _ er s' J q
  | ok fl =>
    cases fl with
    | ret u =>
      obtain ⟨v, H', I3, rv, ev, q3⟩ := J.after q
      subst ev
      exact ⟨rv, .ref (s.heap.objs.size + 1), H', I3, rfl, q3⟩
    | next => exact q.elim
    | brk => exact q.elim
    | cont => exact q.elim
theorem de_make (M : Mk X.K C f) (F : FnI X.prog X.w X.K X.mg X.base k f fd ps C S) (hr : Room (k + 1) X.A) (hm : X.mg x = some (.ref C)) (hb : Binds X.K fd ps []) (tk : Takes X W.w) (ha : DA X W (e :: es) ta) (hg : Gl X x := by rfl) (hdb : (x == ("__debug__" : Str)) = false := by decide)
    (he : starEach (e :: es) X.env = (false, eval e X.env) :: starEach es X.env := by rfl) (hpl : (backTo pos (starEach es X.env)).any (·.1) = false := by rfl) : DE X W (.Call (.Name x p) (e :: es) [] pos) (vCall (mkS C S) ta) := by
  refine ⟨fun pins s σ H Q I hh => ?_⟩
  obtain ⟨Φ, B, ρ, Ψ, Ξ, l, xo, t, kk⟩ := hh
  refine wpAny_Call_Name_kw (ld_glob I hg hm ?_ hdb)
  have q := runA (Q := fun vs H1 => spOf X.K (mkS C S) vs H1 Q (WE W.w σ)) l xo t fun vs B1 H1 rs g1 dr ⟨hv, t1⟩ => call_go g1.s dr hv t1 (fun z B' H' r' g' d' p => kk z B' H' r' (g1.trans g') (d'.back g1.h) p) (xo.grow g1)
  refine PySem.W.callWith_K (h₀ := X.base) I.ok.mod.kin M.kp (thn (ha.run pos pins s σ H _ I q) fun us s1 ⟨vs, H1, I1, r, q⟩ => ⟨I1.kIn, ?_⟩) he hpl
  exact run_mkD M F hr hb tk I1 r q
theorem de_make0 (M : Mk X.K C f) (F : FnI X.prog X.w X.K X.mg X.base k f fd ps C S) (hr : Room (k + 1) X.A) (hm : X.mg x = some (.ref C)) (hb : Binds X.K fd ps []) (tk : Takes X W.w) (hg : Gl X x := by rfl) (hdb : (x == ("__debug__" : Str)) = false := by decide) : DE X W (.Call (.Name x p) [] [] pos) (vCall (mkS C S) vaNil) := by
  refine ⟨fun pins s σ H Q I hh => ?_⟩
  obtain ⟨Φ, B, ρ, Ψ, Ξ, l, xo, t, kk⟩ := hh
  refine wpAny_Call_Name_kw (ld_glob I hg hm ?_ hdb)
  refine PySem.W.callWith_K0 I.kIn M.kp (run_mkD (us := []) M F hr hb tk I .nil ?_)
  exact call_go (rs := []) (Φ := Φ) l.s True.intro t.1 t.2 kk xo
end

/-! ### self.f = e, in __init__ -/
theorem DenF.put {K : PySem.W.Frag} {B : Hp} {f : Str} {v : V} {d : DV} (h : Den K B v d) : ∀ {fvs : List (Str × V)} {fs : List (Str × DV)}, DenF K B fvs fs → DenF K B (putF f v fvs) (putD f d fs)
  | _, _, .nil => .cons h .nil
  | _, _, .cons (f := g) q t => by
    unfold L2.putF putD
    by_cases z : g = f
    · rw [if_pos z, if_pos z]
      exact .cons h t
    · rw [if_neg z, if_neg z]
      exact .cons q (DenF.put h t)
def vSelf (Cs : List Addr) (i : Nat) (f : Str) (te : VE) : VS := fun D ρ => te ρ (fun r => r.good ∧ match ρ[i]? with
  | some (.oo C fs) => C ∈ Cs ∧ fs.length < 1000 ∧ D.nx (ρ.set i (.oo C (putD f r.d fs)))
  | _ => False) (D.ex ρ)
theorem ds_self {X : Cx} {W : WC} {Cs : List Addr} {i : Nat} {f : Str} {te : VE} {o e : Expr} {pos pos' : Pos} (ho : PE X o (tVar i)) (he : DE X W e te) (hc : ∀ C, C ∈ Cs → Cls X.K C ∧ NoAttr X.K C f) (hs : swapsWith e (some (.Attribute o f pos')) pos.line X.env = pure false := by rfl) :
    DS X W (.Assign [.Attribute o f pos'] e pos) (vSelf Cs i f te) := psI (ps_fld ho he hs) fun D σ H ⟨Φ, B, ρ, D', l, ok, h⟩ => by
  refine runE l (ok.xok l) h fun v B1 H1 r g d ⟨hg, t⟩ => ?_
  obtain ⟨B2, g2, _, d2⟩ := d.settle g hg
  split at t
  · rename_i C fs q
    obtain ⟨hC, hz, t⟩ := t
    have l2 := l.grow g2
    obtain ⟨p, dx, fvs, e1, e2, df, h0, hb, hm⟩ := l2.oo i C fs q
    refine ⟨.ref p, e1, p, C, dx, fvs, rfl, e2, (hc C hC).1, (hc C hC).2, by rw [df.len]; exact hz, ?_⟩
    exact ok.nx B2 σ _ _ (l2.wrF q e1 e2 (df.put d2)) t
  · exact t.elim

/-! ### own errors: raise C(e, ..), the fields as the parameters -/
def spErr (C : Addr) (n : Nat) (fn : List V → List (Str × V)) : Sp := fun vs H Q _ => ∃ (a : Addr) (us : List V), vs = .ref a :: us ∧ us.length = n ∧ H a = some (exo a C Option.none) ∧
  ∀ (d : Addr) (H' : Hp), H d = Option.none → H' a = some (exo a C (some d)) → H' d = some (exd d (fn us)) → (∀ b o, b ≠ a → H b = some o → H' b = some o) → Q .non H'
/-- the names' values, the last stored first -/
def errF (fs : List Str) (vs : List V) : List (Str × V) := (fs.zip vs).reverse
abbrev FnE (P : Program) (w : World) (K : PySem.W.Frag) (mg : Str → Option Value) (base : Heap) (k : Nat) (f : Addr) (fd : FuncData) (ps : List Str) (C : Addr) (fs : List Str) : Prop := FnOk P w K mg base (L2.CX P w) k f fd ps (spErr C fs.length (errF fs))
section
variable {P : Program} {w : World} {K : PySem.W.Frag} {mg : Str → Option Value} {base : Heap} {x qual : Str} {st : Stmt} {f C : Addr} {fd : FuncData} {N : List Str} {n1 n2 n3 n4 : Str}
theorem exo_neU {a C d : Addr} {H : Hp} (h : H a = some (exo a C Option.none)) (hd : H d = Option.none) : d ≠ a := fun z => by rw [z, h] at hd; cases hd
theorem err1 {ps : List Str} (F : Fun K x qual st f fd) (Sc : FnScope ps ps (defScope st)) (hps : ps.length = 2) (T : OexC K C) (h1 : PySem.W.findIn K (.ref C) n1 = some Option.none)
    (hbody : ∀ (cdv : Value) (A : Around) (outer : List Env) (s : Shared) (H : Hp) (E : XK), PSs (cxOf (L2.CX P w) P w K mg base ps qual (defScope st) f cdv A outer s H E) (defBody st) (tOst K n1 (tVar 0) (tVar 1))) : FnE P w K mg base 1 f fd ps C [n1] := by
  refine F.okX Sc (fun vs H Q E ⟨a, us, e, hl, _⟩ => by rw [e, List.length_cons, hl, hps]; rfl) fun cdv A outer s H vs Q E hr ⟨a, us, e, hl, ha, k⟩ => ⟨_, hbody cdv A outer s H E, ?_⟩
  match us, hl with
  | [u1], _ =>
    subst e
    refine ⟨u1, startGet rfl, .ref a, startGet rfl, a, C, rfl, T, h1, .inl ⟨ha, fun dx hd ne => k dx _ hd upd_same (by rw [upd_ne ne, upd_same]; rfl) fun b o nb q => ?_⟩⟩
    rw [upd_ne nb, upd_ne (ne_of_none q hd)]; exact q
theorem err2 {ps : List Str} (F : Fun K x qual st f fd) (Sc : FnScope ps ps (defScope st)) (hps : ps.length = 3) (T : OexC K C) (h1 : PySem.W.findIn K (.ref C) n1 = some Option.none) (h2 : PySem.W.findIn K (.ref C) n2 = some Option.none)
    (hbody : ∀ (cdv : Value) (A : Around) (outer : List Env) (s : Shared) (H : Hp) (E : XK), PSs (cxOf (L2.CX P w) P w K mg base ps qual (defScope st) f cdv A outer s H E) (defBody st) (tSeq (tOst K n1 (tVar 0) (tVar 1)) (tOst K n2 (tVar 0) (tVar 2)))) : FnE P w K mg base 1 f fd ps C [n1, n2] := by
  refine F.okX Sc (fun vs H Q E ⟨a, us, e, hl, _⟩ => by rw [e, List.length_cons, hl, hps]; rfl) fun cdv A outer s H vs Q E hr ⟨a, us, e, hl, ha, k⟩ => ⟨_, hbody cdv A outer s H E, ?_⟩
  match us, hl with
  | [u1, u2], _ =>
    subst e
    refine ⟨u1, startGet rfl, .ref a, startGet rfl, a, C, rfl, T, h1, .inl ⟨ha, fun dx hd ne => ⟨u2, startGet rfl, .ref a, startGet rfl, a, C, rfl, T, h2, .inr ⟨dx, _, upd_same, by rw [upd_ne ne, upd_same], by show 1 ≤ 900; decide, ?_⟩⟩⟩⟩
    refine k dx _ hd (by rw [upd_ne (Ne.symm ne), upd_same]) upd_same fun b o nb q => ?_
    rw [upd_ne (ne_of_none q hd), upd_ne nb, upd_ne (ne_of_none q hd)]; exact q
end
/-- raise C(e, ..) -/
def vRaise (C : Addr) (fs : List Str) (ta : VA) : VS := fun D ρ => ta ρ (fun rs => goods rs ∧ rs.length = fs.length ∧ fs.length ≤ 9 ∧ fs.Nodup ∧ D.ex ρ ⟨C, fs.zip (rs.map R.d)⟩) (D.ex ρ)
theorem mem_look {α : Type} {f : Str} {y : α} : ∀ {l : List (Str × α)}, l.lookup f = some y → (f, y) ∈ l
  | [], h => by simp [List.lookup] at h
  | (g, x) :: l, h => by
    rw [List.lookup] at h
    split at h
    · rename_i e
      cases h
      have : f = g := by simpa using e
      rw [this]; exact List.mem_cons_self
    · exact List.mem_cons_of_mem _ (mem_look h)
theorem look_mem {α : Type} {f : Str} {y : α} : ∀ {l : List (Str × α)}, (l.map (·.1)).Nodup → (f, y) ∈ l → l.lookup f = some y
  | [], _, h => by simp at h
  | (g, x) :: l, nd, h => by
    rw [List.map_cons, List.nodup_cons] at nd
    rw [List.lookup]
    rcases List.mem_cons.mp h with e | h2
    · cases e; simp
    · have : (f == g) = false := by
        apply beq_eq_false_iff_ne.mpr
        intro z
        exact nd.1 (by rw [← z]; exact List.mem_map.mpr ⟨(f, y), h2, rfl⟩)
      simp only [this]
      exact look_mem nd.2 h2
theorem zip_keys {α : Type} : ∀ {fs : List Str} {vs : List α}, fs.length = vs.length → (fs.zip vs).map (·.1) = fs
  | [], [], _ => rfl
  | f :: fs, v :: vs, h => by rw [List.zip_cons_cons, List.map_cons, zip_keys (by simpa using h)]
theorem errF_den {K : PySem.W.Frag} {B : Hp} {fs : List Str} {vs : List V} {ds : List DV} (t : DenL K B vs ds) (hl : fs.length = vs.length) (nd : fs.Nodup) {f : Str} {y : DV} (h : (fs.zip ds).lookup f = some y) : ∃ v, (errF fs vs).lookup f = some v ∧ Den K B v y := by
  have hm := mem_look h
  obtain ⟨i, hi⟩ := List.mem_iff_getElem?.mp hm
  rw [List.getElem?_zip_eq_some] at hi
  obtain ⟨v, hv, dv⟩ := t.get hi.2
  refine ⟨v, look_mem ?_ ?_, dv⟩
  · unfold errF
    rw [List.map_reverse, zip_keys hl]
    exact List.pairwise_reverse.mpr (nd.imp fun h z => h z.symm)
  · unfold errF
    rw [List.mem_reverse]
    exact List.mem_iff_getElem?.mpr ⟨i, List.getElem?_zip_eq_some.mpr ⟨hi.1, hv⟩⟩
section
variable {X : Cx} {W : WC} {k : Nat} {f C : Addr} {fd : FuncData} {ps fs : List Str} {x : Str} {p pos pos2 : Pos} {e : Expr} {es : List Expr} {ta : VA}
theorem passE {CX : Cx} {E : XK} : Passes (L2.CX X.prog X.w) X (fun _ _ _ => False) := passL
theorem ds_raise (hc : X.calm = true) (tk : Takes X W.w) (T : OexC X.K C) (iC : PySem.W.findIn X.K (.ref C) "__init__" = some (some (.ref f))) (tI : PySem.W.typeIn X.K (.ref f) = some (.type "function"))
    (F : FnE X.prog X.w X.K X.mg X.base k f fd ps C fs) (hr : Room (k + 1) X.A) (hb : Binds X.K fd ps []) (hm : X.mg x = some (.ref C)) (ha : DA X W (e :: es) ta) (hg : Gl X x := by rfl)
    (hdb : (x == ("__debug__" : Str)) = false := by decide) (he : starEach (e :: es) X.env = (false, eval e X.env) :: starEach es X.env := by rfl) (hpl : (backTo pos (starEach es X.env)).any (·.1) = false := by rfl) :
    DS X W (.Raise (some (.Call (.Name x p) (e :: es) [] pos)) Option.none pos2) (vRaise C fs ta) :=
  psI (ps_raise hc tk (pmk_oex (dvs := []) T iC tI F hr hb .nil passL hg hm ha hdb he hpl)) fun D σ H ⟨Φ, B, ρ, D', l, ok, h⟩ => by
    refine runA l (ok.xok l) h fun vs B1 H1 rs g dr ⟨hg, hl, h9, nd, hx⟩ => ?_
    have dl := dr.all hg
    have hl2 : fs.length = vs.length := by rw [dl.len, List.length_map, hl]
    refine ⟨by omega, fun a ha => ?_⟩
    rw [List.append_nil]
    refine ⟨a, vs, rfl, hl2.symm, upd_same, fun d H' hd e1 e2 kp => ⟨rfl, d, _, e1, e2, ?_, ?_⟩⟩
    · by_cases z : d = a
      · rw [z]; exact ha
      · rw [upd_ne z] at hd; exact hd
    · have hd' : H1 d = Option.none := by
        by_cases z : d = a
        · rw [z]; exact ha
        · rw [upd_ne z] at hd; exact hd
      have sm : Same H1 (upd (L2.del H' a) d (.xd (errF fs vs))) := fun b o q => by
        have nb : b ≠ a := ne_of_none q ha
        rw [upd_ne (ne_of_none q hd'), L2.del_ne nb]
        exact kp b o nb (by rw [upd_ne nb]; exact q)
      have g2 : Gr B1 H1 B1 (upd (L2.del H' a) d (.xd (errF fs vs))) := ⟨Same.refl _, g.s.trans sm, sm, fun _ _ => rfl⟩
      refine ok.ex B1 σ _ ρ _ (.ref C) (some d) ((l.grow g).grow g2) ⟨rfl, .inr ⟨d, _, rfl, upd_same, fun f y q => ?_⟩⟩ hx
      exact errF_den dl hl2 nd q
end
end DL
/-! DL, eighth part: try / except, the exception that a suite holds. -/
namespace DL
open PySem L2 PySem.Spec
open PyProof.Rows (envOfC AllBare)

/-! ### several clauses, each with a name or without -/
/-- a clause: its class, its name's slot, its suite -/
structure Cl where
  c : Value
  i : Option Nat
  ts : Addr → Value → Option Addr → TS
def clS (i : Option Nat) (o : Option V) (σ : L2.St) : L2.St := match i with
  | some i => σ.set i o
  | Option.none => σ
def clE (i : Option Nat) (D : Ends) : Ends := ⟨fun σ H => D.nx (clS i Option.none σ) H, D.rt, fun σ H => D.bk (clS i Option.none σ) H, fun σ H => D.ct (clS i Option.none σ) H⟩
def wCl (K : PySem.W.Frag) (Wo : WX) (D : Ends) : List Cl → WX
  | [] => Wo
  | q :: r => fun cls d σ H => ∃ b, PySem.W.exmOne K cls q.c = some b ∧ (b = true → ∀ a, H a = Option.none → q.ts a cls d (clE q.i D) (clS q.i (some (.ref a)) σ) H) ∧ (b = false → wCl K Wo D r cls d σ H)
abbrev Suite (X : Cx) (sts : List Stmt) (ts : Addr → Value → Option Addr → TS) : Prop :=
  ∀ (a : Addr) (oe : Obj) (cls : Value) (d : Option Addr) (pn : List (Addr × Obj)), Zc cls d oe → (∃ vs, oe.data = .fields vs) → PSs (X.suite a ((a, oe) :: pn)) sts (ts a cls d)
inductive ClsOk (X : Cx) : List ExceptHandler → List Cl → Prop
  | nil : ClsOk X [] []
  | bare {x : Str} {c : Value} {ts : Addr → Value → Option Addr → TS} {b : Stmt} {sts : List Stmt} {np p : Pos} {hds : List ExceptHandler} {l : List Cl} (hc : Names X x c) (su : Suite X (b :: sts) ts) (r : ClsOk X hds l) :
      ClsOk X (.ExceptHandler (some (.Name x np)) Option.none (b :: sts) p :: hds) (⟨c, Option.none, ts⟩ :: l)
  | named {x n : Str} {c : Value} {i : Nat} {ts : Addr → Value → Option Addr → TS} {b : Stmt} {sts : List Stmt} {np p : Pos} {hds : List ExceptHandler} {l : List Cl} (hc : Names X x c) (hi : X.N[i]? = some n) (hn : X.env.kindOf n = some .local)
      (su : Suite X (b :: sts) ts) (r : ClsOk X hds l) : ClsOk X (.ExceptHandler (some (.Name x np)) (some n) (b :: sts) p :: hds) (⟨c, some i, ts⟩ :: l)
section
variable {X : Cx} {body : List Stmt} {h0 : ExceptHandler} {hds : List ExceptHandler} {l : List Cl} {pos : Pos} {tb : WX → TS} {Wo : WX}
/-- the air of a try's body -/
abbrev xeOf (X : Cx) (hds : List ExceptHandler) (pins : List (Addr × Obj)) (D : Ends) : Value → Shared → Prop := fun e s1 =>
  wpAny (model X.prog X.w) X.A (noteFrame e X.env) (fun _ s2 => wpAny (model X.prog X.w) X.A (setFlight e Option.none) (fun _ s3 => wpAny (model X.prog X.w) X.A (handleBy e X.env hds) (SP X pins D) X.xe s3) X.xe s2) X.xe s1
theorem name_ok {x : Str} {c : Value} {np : Pos} (hc : Names X x c) {pn : List (Addr × Obj)} {a : Addr} {σ : L2.St} {H : Hp} {s : Shared} {Q : Value → Shared → Prop} {E : Value → Shared → Prop} (I : Inv (X.suite a pn) [] σ H s) (q : Q c s) : wpAny (model X.prog X.w) (X.A.mark (some (.ref a))) (eval (.Name x np) X.env) Q E s := by
  obtain ⟨g, db, m | ⟨m, v, nn⟩⟩ := hc
  · exact ld_glob (X := X.suite a pn) I g m q db
  · exact ld_blt (X := X.suite a pn) I g m v q nn db
theorem ends_ok {pins : List (Addr × Obj)} {D : Ends} {xe : Value → Shared → Prop} (ok : X.Ok) {f : Flow} {s : Shared} (h : SP (X.tr (X.pn ++ pins) xe) [] D f s) : SP X pins D f s := by
  cases f with
  | next =>
    obtain ⟨σ', H', J, q⟩ := h
    exact ⟨σ', H', J.ofTry ok, q⟩
  | brk =>
    obtain ⟨σ', H', J, q⟩ := h
    exact ⟨σ', H', J.ofTry ok, q⟩
  | cont =>
    obtain ⟨σ', H', J, q⟩ := h
    exact ⟨σ', H', J.ofTry ok, q⟩
  | ret u =>
    obtain ⟨v, σ', H', J, r, q⟩ := h
    exact ⟨v, σ', H', J.ofTry ok, r, q⟩
/-- what is known when the clauses are looked at -/
structure Caught (X : Cx) (pins : List (Addr × Obj)) (B : Heap) (a : Addr) (cls : Value) (d : Option Addr) (σ : L2.St) (H : Hp) (sI s : Shared) : Prop where
  ok : X.Ok
  J : Inv X pins σ H sI
  nb : ∀ b o, sI.heap.get? b = some o → b ∉ frs X.stack → B.get? b = some o
  up : sI.heap.UpToSlots s.heap
  fl : HandSPX.FlyingZ B (X.env :: X.outer) a (Zc cls d) s.heap
  na : H a = Option.none
  os : s.os = sI.os
  ag : AllBare s.gens
  nL : a ≠ X.env.locals
  nF : a ∉ X.fs
theorem Caught.inv {pins : List (Addr × Obj)} {B : Heap} {a : Addr} {cls : Value} {d : Option Addr} {σ : L2.St} {H : Hp} {sI s : Shared} (c : Caught X pins B a cls d σ H sI s) : Inv X pins σ H s := c.J.landed c.nb c.fl.1 c.up c.os c.ag
theorem Caught.suite {pins : List (Addr × Obj)} {B : Heap} {a : Addr} {cls : Value} {d : Option Addr} {σ : L2.St} {H : Hp} {sI s : Shared} (c : Caught X pins B a cls d σ H sI s) : ∃ oe, s.heap.get? a = some oe ∧ Zc cls d oe ∧ (∃ vs, oe.data = .fields vs) ∧ Inv (X.suite a ((a, oe) :: (X.pn ++ pins))) [] σ H s := by
  obtain ⟨oe, vs, he, hz, hd⟩ := c.fl.there
  exact ⟨oe, he, hz, ⟨vs, hd⟩, c.inv.suite he hd c.na c.nL c.nF⟩
theorem Caught.move {pins : List (Addr × Obj)} {B : Heap} {a : Addr} {cls : Value} {d : Option Addr} {σ : L2.St} {H : Hp} {sI s : Shared} (c : Caught X pins B a cls d σ H sI s) {h4 : Heap} (fl : HandSPX.FlyingZ B (X.env :: X.outer) a (Zc cls d) h4) (up : s.heap.UpToSlots h4) : Caught X pins B a cls d σ H sI { s with heap := h4 } :=
  ⟨c.ok, c.J, c.nb, c.up.trans up, fl, c.na, c.os, c.ag, c.nL, c.nF⟩
/-- no clause takes it -/
theorem Caught.goes {pins : List (Addr × Obj)} {B : Heap} {a : Addr} {cls : Value} {d : Option Addr} {σ : L2.St} {H : Hp} {sI s : Shared} {D : Ends} (c : Caught X pins B a cls d σ H sI s) (hs : X.stack = X.env :: X.outer) (hf : X.env.frame = some X.env.locals) (tk : Takes X Wo) (w : Wo cls d σ H) :
    wpAny (model X.prog X.w) X.A (handleBy (.ref a) X.env []) (SP X pins D) X.xe s := by
  refine wpAny_handleBy_nil ?_
  obtain ⟨_, _, _, oe, vs, T, _, _, he, _, hd, h1, _⟩ := id c.fl
  unfold PySem.passOn
  refine wpAny_bind (wpAny_field he hd h1 ?_)
  rw [if_neg (show ¬ ((Value.ref T == Value.none) = true) from by simp)]
  have fin : wpAny (model X.prog X.w) X.A (setFlight (.ref a) X.env.frame) (fun _ s4 => wpAny (model X.prog X.w) X.A (throw (.ref a) : Sem Flow) (SP X pins D) X.xe s4) X.xe s := by
    rw [hf]
    refine HandSPX.setFlight_upZ c.fl fun h4 held up4 => wpAny_throw (tk _ _ ?_)
    exact ⟨a, B, sI, pins, σ, H, cls, d, rfl, c.J, c.nb, c.up.trans up4, .inr (.inr (by rw [hs]; exact held)), c.na, c.os, c.ag, w⟩
  first
    | exact wpAny_bind (wpAny_pure (wpAny_bind fin))
    | exact wpAny_bind fin
theorem Caught.look {pins : List (Addr × Obj)} {B : Heap} {a : Addr} {cls : Value} {d : Option Addr} {σ : L2.St} {H : Hp} {sI s : Shared} {D : Ends} (ca : Caught X pins B a cls d σ H sI s) (hs : X.stack = X.env :: X.outer) (hf : X.env.frame = some X.env.locals) (hN : X.N.Nodup) (tk : Takes X Wo) :
    ∀ {hds : List ExceptHandler} {l : List Cl}, ClsOk X hds l → wCl X.K Wo D l cls d σ H → wpAny (model X.prog X.w) X.A (handleBy (.ref a) X.env hds) (SP X pins D) X.xe s := by
  intro hds l hk
  have LT : ∀ {h3 : Heap} {oe : Obj}, h3.get? a = some oe → Zc cls d oe → PySem.W.Looks (model X.prog X.w) h3 (typeOf (.ref a)) cls := fun he hz A Q E s k q => wpAny_typeOf_ref (k _ _ he) (by rw [hz.1]; exact q)
  induction hk with
  | nil => exact fun w => ca.goes hs hf tk w
  | @bare x c ts b sts np p hds2 l2 hc su r ih =>
    rintro ⟨k, hk, yes, no⟩
    obtain ⟨oe, he, hz, hd, S⟩ := ca.suite
    refine wpAny_handleBy_cons (codeAny_handlers_test ?_) (by intro q; cases q)
    refine name_ok hc S ((PySem.W.exm_one (M := model X.prog X.w) ca.inv.kIn (LT he hz) hk).here ?_)
    cases k with
    | false => exact ih (no rfl)
    | true =>
      refine codeAny_handlers_suite (HandSPX.lands_againZ ca.fl fun h4 fl4 up4 => ?_)
      obtain ⟨oe4, he4, hz4, hd4, S4⟩ := (ca.move fl4 up4).suite
      refine wpAny_mono ((su a oe4 cls d _ hz4 hd4).run [] _ _ H _ S4 (yes rfl a ca.na)) (fun f s6 e => ?_) fun _ _ z => z.elim
      cases f with
      | next =>
        obtain ⟨σ6, H6, J, q⟩ := e
        exact ⟨σ6, H6, J.unsuite ca.ok, q⟩
      | brk =>
        obtain ⟨σ6, H6, J, q⟩ := e
        exact ⟨σ6, H6, J.unsuite ca.ok, q⟩
      | cont =>
        obtain ⟨σ6, H6, J, q⟩ := e
        exact ⟨σ6, H6, J.unsuite ca.ok, q⟩
      | ret u =>
        obtain ⟨v6, σ6, H6, J, r6, q⟩ := e
        exact ⟨v6, σ6, H6, J.unsuite ca.ok, r6, q⟩
  | @named x n c i ts b sts np p hds2 l2 hc hi hn su r ih =>
    rintro ⟨k, hk, yes, no⟩
    obtain ⟨oe, he, hz, hd, S⟩ := ca.suite
    refine wpAny_handleBy_cons (codeAny_handlers_test ?_) (by intro q; cases q)
    refine name_ok hc S ((PySem.W.exm_one (M := model X.prog X.w) ca.inv.kIn (LT he hz) hk).here ?_)
    cases k with
    | false => exact ih (no rfl)
    | true =>
      refine codeAny_handlers_suite_as (HandSPX.lands_againZ ca.fl fun h4 fl4 up4 => ?_)
      obtain ⟨oe4, he4, hz4, hd4, S4⟩ := (ca.move fl4 up4).suite
      refine store_ok (X := X.suite a ((a, oe4) :: (X.pn ++ pins))) (v := .ref a) S4 hN hi (.inl hn) rfl (fun s5 S5 => ?_) (.inr hn)
      refine wpAny_mono ((su a oe4 cls d _ hz4 hd4).run [] s5 _ H _ S5 (yes rfl a ca.na)) (fun f s6 e => ?_) fun _ _ z => z.elim
      have out : ∀ {σ6 : L2.St} {H6 : Hp} {Q : Shared → Prop}, Inv (X.suite a ((a, oe4) :: (X.pn ++ pins))) [] σ6 H6 s6 → (∀ s7, Inv X pins (σ6.set i Option.none) H6 s7 → Q s7) →
          wpAny (model X.prog X.w) X.A (do bindName X.env n .none; unbindBehindTheSuite X.env n p) (fun _ s7 => Q s7) X.xe s6 := fun J q => gone_ok (J.unsuite ca.ok) hN hi hn q
      cases f with
      | next =>
        obtain ⟨σ6, H6, J, q⟩ := e
        exact out J fun s7 J7 => ⟨_, _, J7, q⟩
      | brk =>
        obtain ⟨σ6, H6, J, q⟩ := e
        exact out J fun s7 J7 => ⟨_, _, J7, q⟩
      | cont =>
        obtain ⟨σ6, H6, J, q⟩ := e
        exact out J fun s7 J7 => ⟨_, _, J7, q⟩
      | ret u =>
        obtain ⟨v6, σ6, H6, J, r6, q⟩ := e
        exact out J fun s7 J7 => ⟨_, _, _, J7, r6, q⟩
theorem ps_try_cl (hs : X.stack = X.env :: X.outer) (hf : X.env.frame = some X.env.locals) (hN : X.N.Nodup) (tk : Takes X Wo)
    (hb : ∀ (W : WX) (pn : List (Addr × Obj)) (xe : Value → Shared → Prop), Takes (X.tr pn xe) W → PassesOwn (model X.prog X.w) X.A X.env xe → PSs (X.tr pn xe) body (tb W)) (hh : ClsOk X (h0 :: hds) l) :
    PS X (.Try body (h0 :: hds) [] [] pos) (fun D σ H => tb (wCl X.K Wo D l) D σ H) := by
  refine ⟨fun pins s σ H D I h => ?_⟩
  have ok := I.ok
  have hfr : X.A.frames = some (X.env :: X.outer) := ok.frames.trans (by rw [hs])
  refine wpAny_Try_except (wpAny_mono ((hb (wCl X.K Wo D l) (X.pn ++ pins) (xeOf X (h0 :: hds) pins D) (fun u s' xx => ?_) PassesOwn.looking).run [] s σ H D (I.toTry _) h) (fun f s1 e => ?_) fun e s1 he => he)
  rotate_left
  · have e2 := ends_ok ok e
    cases f with
    | next => exact wpAny_execs_nil e2
    | _ => exact e2
  obtain ⟨a, B, sI, pins', σ', H', cls, d, rfl, J', nb, up, sky, na, os, ag, w⟩ := xx
  have sky' : Sky B (X.env :: X.outer) a (Zc cls d) X.env.locals s'.heap := by rw [← hs]; exact sky
  show wpAny (model X.prog X.w) X.A (noteFrame (.ref a) X.env) _ _ _
  refine Sky.land Zc.steady hfr hf sky' fun h3 fl3 up3 => ?_
  obtain ⟨oe3, vs3, he3, hz3, hd3⟩ := fl3.there
  have nfr : a ∉ frs (X.env :: X.outer) := fun hm => by
    obtain ⟨_, o', e', hnf⟩ := fl3.2.2.1.mem hm
    rw [he3] at e'; cases e'
    exact hnf _ hd3
  have ca : Caught X pins B a cls d σ' H' sI { s' with heap := h3 } := ⟨ok, J'.ofTry ok, nb, up.trans up3, fl3, na, os, ag,
    fun z => nfr (List.mem_filterMap.mpr ⟨X.env, List.mem_cons_self, by rw [hf, z]⟩), fun hm => by
      obtain ⟨e, he, q⟩ := List.mem_filterMap.mp hm
      exact nfr (List.mem_filterMap.mpr ⟨e, List.mem_cons_of_mem _ he, q⟩)⟩
  exact ca.look hs hf hN tk hh w
end

/-! ### try, by data -/
def noEx (ρ : Env') : Bool := ρ.all fun e => match e with
  | .ex _ => false
  | _ => true
structure VCl where
  c : Value
  i : Option Nat
  t : VS
def clR (i : Option Nat) (e : Ent) (ρ : Env') : Env' := match i with
  | some i => ρ.set i e
  | Option.none => ρ
/-- a suite's ends: its name goes -/
def clED (i : Option Nat) (D : EndsD) : EndsD := ⟨fun ρ => noEx (clR i .un ρ) = true ∧ D.nx (clR i .un ρ), D.rt, fun ρ => noEx (clR i .un ρ) = true ∧ D.bk (clR i .un ρ), fun ρ => noEx (clR i .un ρ) = true ∧ D.ct (clR i .un ρ), fun _ _ => False⟩
def vHds (K : PySem.W.Frag) : List VCl → EndsD → Env' → Xn → Prop
  | [], D, ρ, x => D.ex ρ x
  | q :: r, D, ρ, x => match PySem.W.exmOne K (.ref x.C) q.c with
    | some true => q.t (clED q.i D) (clR q.i (.ex x) ρ)
    | some false => vHds K r D ρ x
    | Option.none => False
def vTry (K : PySem.W.Frag) (tb : VS) (l : List VCl) : VS := fun D ρ => tb { D with ex := fun ρ' x => vHds K l D ρ' x } ρ
/-- what a suite lets out: nothing -/
abbrev WS (a : Addr) (cls : Value) (d : Option Addr) : WC := ⟨fun _ _ _ _ => False, some (a, cls, d)⟩
def clT (K : PySem.W.Frag) (q : VCl) : Cl := ⟨q.c, q.i, fun a cls d => tDS K (WS a cls d) q.t⟩
section
variable {K : PySem.W.Frag} {Φ : Fm} {B H : Hp} {σ : L2.St} {ρ : Env'}
theorem noEx_at {i : Nat} {x : Xn} (h : noEx ρ = true) : ρ[i]? ≠ some (.ex x) := fun e => by
  unfold noEx at h
  have q := List.all_eq_true.mp h _ (List.mem_of_getElem? e)
  cases q
theorem Rl.cu {c : Option (Addr × Value × Option Addr)} (l : Rl K Φ B σ H ρ) (h : noEx ρ = true) : Rl K { Φ with cur := c } B σ H ρ :=
  ⟨l.gr, l.len, l.sh, l.ow, l.oo, fun i x e => absurd e (noEx_at h), l.o1, l.ne⟩
theorem Rl.noE (l : Rl K Φ B σ H ρ) (h : Φ.cur = Option.none) : noEx ρ = true := by
  unfold noEx
  refine List.all_eq_true.mpr fun e he => ?_
  obtain ⟨i, hi⟩ := List.mem_iff_getElem?.mp he
  cases e with
  | ex x =>
    obtain ⟨a, cls, d, q, _⟩ := l.ex i x hi
    rw [h] at q; cases q
  | _ => rfl
theorem Rl.clU (l : Rl K Φ B σ H ρ) (i : Option Nat) : Rl K Φ B (clS i Option.none σ) H (clR i .un ρ) := by
  cases i with
  | none => exact l
  | some i => exact l.set i (o := Option.none) (e := .un) True.intro
theorem back_cu {W : WC} {D : Ends} {D' : EndsD} (ok : EndsOk K W Φ D D') (hW : W.c = Option.none) {c : Option (Addr × Value × Option Addr)} {i : Option Nat} (l : Rl K { Φ with cur := c } B σ H ρ) (h : noEx (clR i .un ρ) = true) : Rl K Φ B (clS i Option.none σ) H (clR i .un ρ) := by
  have l2 := (l.clU i).cu (c := Option.none) h
  have e : Φ.cur = Option.none := ok.cu.trans hW
  have e2 : { Φ with cur := (Option.none : Option (Addr × Value × Option Addr)) } = Φ := by rw [← e]
  have e3 : ({ ({ Φ with cur := c } : Fm) with cur := (Option.none : Option (Addr × Value × Option Addr)) } : Fm) = Φ := e2
  rw [e3] at l2
  exact l2
/-- the clauses' wish, from the data -/
theorem hds_ok {W : WC} {D : Ends} {D' : EndsD} (ok : EndsOk K W Φ D D') (hW : W.c = Option.none) (lr : Rl K Φ B σ H ρ) {x : Xn} {cls : Value} {d : Option Addr} (dx : DenX K B H cls d x) :
    ∀ {l : List VCl}, vHds K l D' ρ x → wCl K W.w D (l.map (clT K)) cls d σ H
  | [], h => ok.ex B σ H ρ x cls d lr dx h
  | q :: r, h => by
    unfold vHds at h
    obtain ⟨ec, _⟩ := id dx
    have e0 : Φ.cur = Option.none := ok.cu.trans hW
    split at h
    · rename_i hm
      refine ⟨true, by rw [ec]; exact hm, fun _ a ha => ?_, fun z => by cases z⟩
      have l1 := lr.cu (c := some (a, cls, d)) (lr.noE e0)
      refine ⟨{ Φ with cur := some (a, cls, d) }, B, clR q.i (.ex x) ρ, clED q.i D', ?_, ⟨rfl, ?_, ?_, ?_, fun B' H' v r' g hg dr p => ?_, fun _ _ _ _ _ _ _ _ _ z => z.elim⟩, h⟩
      · show Rl K { Φ with cur := some (a, cls, d) } B (clS q.i (some (.ref a)) σ) H (clR q.i (.ex x) ρ)
        cases q.i with
        | none => exact l1
        | some i => exact l1.set i (o := some (.ref a)) (e := .ex x) ⟨a, cls, d, rfl, rfl, dx⟩
      · intro B' σ' H' ρ' l2 ⟨hn, p⟩
        exact ok.nx B' _ H' _ (back_cu ok hW l2 hn) p
      · intro B' σ' H' ρ' l2 ⟨hn, p⟩
        exact ok.bk B' _ H' _ (back_cu ok hW l2 hn) p
      · intro B' σ' H' ρ' l2 ⟨hn, p⟩
        exact ok.ct B' _ H' _ (back_cu ok hW l2 hn) p
      · exact ok.rt B' H' v r' g hg (dr.phi hg) p
    · rename_i hm
      exact ⟨false, by rw [ec]; exact hm, fun z => Bool.noConfusion z, fun _ => hds_ok ok hW lr dx h⟩
    · exact h.elim
end
/-- the clauses' texts and readings -/
inductive DCls (X : Cx) : List ExceptHandler → List VCl → Prop
  | nil : DCls X [] []
  | bare {x : Str} {c : Value} {t : VS} {b : Stmt} {sts : List Stmt} {np p : Pos} {hds : List ExceptHandler} {l : List VCl} (hc : Names X x c)
      (su : ∀ (a : Addr) (oe : Obj) (cls : Value) (d : Option Addr) (pn : List (Addr × Obj)), Zc cls d oe → (∃ vs, oe.data = .fields vs) → DSs (X.suite a ((a, oe) :: pn)) (WS a cls d) (b :: sts) t) (r : DCls X hds l) :
      DCls X (.ExceptHandler (some (.Name x np)) Option.none (b :: sts) p :: hds) (⟨c, Option.none, t⟩ :: l)
  | named {x n : Str} {c : Value} {i : Nat} {t : VS} {b : Stmt} {sts : List Stmt} {np p : Pos} {hds : List ExceptHandler} {l : List VCl} (hc : Names X x c) (hi : X.N[i]? = some n) (hn : X.env.kindOf n = some .local)
      (su : ∀ (a : Addr) (oe : Obj) (cls : Value) (d : Option Addr) (pn : List (Addr × Obj)), Zc cls d oe → (∃ vs, oe.data = .fields vs) → DSs (X.suite a ((a, oe) :: pn)) (WS a cls d) (b :: sts) t) (r : DCls X hds l) :
      DCls X (.ExceptHandler (some (.Name x np)) (some n) (b :: sts) p :: hds) (⟨c, some i, t⟩ :: l)
theorem DCls.ok {X : Cx} : ∀ {hds : List ExceptHandler} {l : List VCl}, DCls X hds l → ClsOk X hds (l.map (clT X.K))
  | _, _, .nil => .nil
  | _, _, .bare hc su r => .bare hc su (DCls.ok r)
  | _, _, .named hc hi hn su r => .named hc hi hn su (DCls.ok r)
theorem ds_try {X : Cx} {W : WC} {body : List Stmt} {h0 : ExceptHandler} {hds : List ExceptHandler} {l : List VCl} {pos : Pos} {tb : VS} (hs : X.stack = X.env :: X.outer) (hf : X.env.frame = some X.env.locals) (hN : X.N.Nodup) (tk : Takes X W.w) (hW : W.c = Option.none)
    (hb : ∀ (W' : WX) (pn : List (Addr × Obj)) (xe : Value → Shared → Prop), Takes (X.tr pn xe) W' → PassesOwn (model X.prog X.w) X.A X.env xe → DSs (X.tr pn xe) ⟨W', W.c⟩ body tb) (hh : DCls X (h0 :: hds) l) :
    DS X W (.Try body (h0 :: hds) [] [] pos) (vTry X.K tb l) := psI (ps_try_cl hs hf hN tk (tb := fun W' => tDS X.K ⟨W', W.c⟩ tb) hb hh.ok) fun D σ H ⟨Φ, B, ρ, D', lr, ok, h⟩ => by
  refine ⟨Φ, B, ρ, { D' with ex := fun ρ' x => vHds X.K l D' ρ' x }, lr, ⟨ok.cu, ok.nx, ok.bk, ok.ct, ok.rt, fun B' σ' H' ρ' x cls d l2 dx q => ?_⟩, h⟩
  exact hds_ok ok hW l2 dx q

/-! ### the exception in a suite: its fields, its class -/
structure XEr (K : PySem.W.Frag) (C : Addr) (f : Str) : Prop where
  ga : PySem.W.findIn K (.ref C) "__getattribute__" = some (some (.builtin "BaseException.__getattribute__"))
  gg : PySem.W.findIn K (.ref C) "__getattr__" = some Option.none
  ex : PySem.W.subIn K (.ref C) (.type "BaseException") = some true
  hd : PySem.W.hasDictIn K C = true
  nf : PySem.W.findIn K (.ref C) f = some Option.none
def vXF (Cs : List Addr) (f : Str) (te : VE) : VE := fun ρ Ψ Ξ => te ρ (fun r => match r with
  | .xn x => x.C ∈ Cs ∧ match x.fs.lookup f with
    | some d => Ψ (.sh d)
    | _ => False
  | _ => False) Ξ
section
variable {X : Cx} {a : Addr} {oe : Obj} {cls : Value} {d : Option Addr} {pn : List (Addr × Obj)} {e : Expr} {te : VE} {pos : Pos} {f : Str}
theorem xn_at {σ : L2.St} {H : Hp} {s : Shared} {pins : List (Addr × Obj)} (hz : Zc cls d oe) (hf : ∃ vs, oe.data = .fields vs) (I : Inv (X.suite a ((a, oe) :: pn)) pins σ H s) {C dd : Addr} {fvs : List (Str × V)} (ec : cls = .ref C) (ed : d = some dd) (eh : H dd = some (.xd fvs)) :
    ∃ (od : Obj) (mA : Str → Option Value), PySem.W.InstAt s.heap a oe C (some od) ∧ (∀ y, PySem.W.lookIn y od = some (mA y)) ∧ ∀ y, RelO (fvs.lookup y) (mA y) := by
  subst ec ed
  obtain ⟨ha, _⟩ := I.pin (a, oe) (List.mem_append_left _ List.mem_cons_self)
  obtain ⟨vs, hd⟩ := hf
  have hx : ObjOk X.prog X.w H s.heap dd (.xd fvs) := I.hok dd _ eh
  obtain ⟨mA, hns, hr⟩ := hx
  obtain ⟨od, ho, hl⟩ := lookIn_ns hns
  exact ⟨od, mA, ⟨ha, hz.1, by unfold PySem.W.notCls; rw [hd] <;> rfl, by rw [hz.2]; exact ho⟩, hl, hr⟩
theorem de_xf {Cs : List Addr} (hz : Zc cls d oe) (hf : ∃ vs, oe.data = .fields vs) (hC : ∀ C, C ∈ Cs → XEr X.K C f) (he : DE (X.suite a ((a, oe) :: pn)) (WS a cls d) e te) (hb : attributeBase e f X.env (eval e X.env) = eval e X.env := by rfl) :
    DE (X.suite a ((a, oe) :: pn)) (WS a cls d) (.Attribute e f pos) (vXF Cs f te) := by
  refine ⟨fun pins s σ H Q I q => ?_⟩
  obtain ⟨Φ, B, ρ, Ψ, Ξ, l, xo, t, k⟩ := q
  have q1 := runE (t := te) (Q := fun v H1 => v = .ref a ∧ ∃ (C dd : Addr) (fvs : List (Str × V)) (v : V), C ∈ Cs ∧ cls = .ref C ∧ d = some dd ∧ H1 dd = some (.xd fvs) ∧ fvs.lookup f = some v ∧ Q v H1) l xo t fun v B1 H1 r g dr p => by
    split at p
    · rename_i x
      obtain ⟨hc, p⟩ := p
      split at p
      · rename_i y ey
        obtain ⟨a2, cls2, d2, e1, rfl, dx⟩ := dr
        have e2 := e1.symm.trans xo.1
        cases e2
        obtain ⟨e3, h3⟩ := dx
        rcases h3 with ⟨h4, _⟩ | ⟨dd, fvs, e4, e5, h5⟩
        · rw [h4] at ey; cases ey
        · obtain ⟨v, h6, h7⟩ := h5 f y ey
          exact ⟨rfl, x.C, dd, fvs, v, hc, e3, e4, e5, h6, k v B1 H1 (.sh y) g h7 p⟩
      · exact p.elim
    · exact p.elim
  refine attr_of hb (thn (he.run pins s σ H _ I q1) fun u s1 hh => ?_)
  obtain ⟨v, H1, I1, rv, ev, C, dd, fvs, w, hc, ec, ed, eh, el, q2⟩ := hh
  subst ev
  obtain rfl : u = Value.ref a := rv
  have T := hC C hc
  obtain ⟨od, mA, J, hl, hr⟩ := xn_at hz hf I1 ec ed eh
  obtain ⟨z, hz', rz⟩ := RelO.some_of (v := w) (o := mA f) (by rw [← el]; exact hr f)
  exact HandSPX.exc_get I1.kIn J T.ga T.gg T.ex (PySem.W.findObj_own T.hd T.nf rfl (by rw [hl, hz'])) (handed_of rz) ⟨w, H1, I1.tok _, rz, q2⟩
end

/-! ### isinstance(e, T), e the exception that the suite holds -/
structure XIs (K : PySem.W.Frag) (C : Addr) : Prop where
  cl : (PySem.W.clsIn K C).isSome = true
  ga : PySem.W.findIn K (.ref C) "__getattribute__" = some (some (.builtin "BaseException.__getattribute__"))
  gg : PySem.W.findIn K (.ref C) "__getattr__" = some Option.none
  ex : PySem.W.subIn K (.ref C) (.type "BaseException") = some true
  ca : PySem.W.findIn K (.ref C) "__class__" = some (some (.builtin "object.__class__"))
  sp : PySem.W.specialIn K (.builtin "object.__class__") "__get__" = some (some (.builtin "getset_descriptor.__get__"))
  tk : PySem.W.takesIn K (.builtin "object.__class__") = some true
  mr : PySem.W.mroIn K C (.type "object") = some true
def vIsX (K : PySem.W.Frag) (Cs : List Addr) (ta : VA) : VE := fun ρ Ψ Ξ => ta ρ (fun rs => match rs with
  | [.xn x, .sh c] => x.C ∈ Cs ∧ match clD c with
    | some u => match PySem.W.kitOne K (.ref x.C) u with
      | some b => Ψ (.sh (.bl b))
      | _ => False
    | _ => False
  | _ => False) Ξ
section
variable {X : Cx} {a : Addr} {oe : Obj} {cls : Value} {d : Option Addr} {pn : List (Addr × Obj)}
/-- what stands at the exception's place -/
def XAt (H : Hp) (cls : Value) (d : Option Addr) (C : Addr) : Prop := cls = .ref C ∧ (d = Option.none ∨ ∃ dd fvs, d = some dd ∧ H dd = some (.xd fvs))
def rIsX (K : PySem.W.Frag) (Cs : List Addr) (a : Addr) (cls : Value) (d : Option Addr) : List V → Hp → VK → Prop := fun xs H Q => ∃ (c : V) (u : Value) (C : Addr) (b : Bool), xs = [.ref a, c] ∧ (∀ v, RelV c v → v = u) ∧ C ∈ Cs ∧ XAt H cls d C ∧ PySem.W.kitOne K (.ref C) u = some b ∧ Q (.bl b) H
theorem xat_inst {σ : L2.St} {H : Hp} {s : Shared} {pins : List (Addr × Obj)} {C : Addr} (hz : Zc cls d oe) (hf : ∃ vs, oe.data = .fields vs) (I : Inv (X.suite a ((a, oe) :: pn)) pins σ H s) (x : XAt H cls d C) : ∃ od, PySem.W.InstAt s.heap a oe C od := by
  obtain ⟨ec, h | ⟨dd, fvs, ed, eh⟩⟩ := x
  · subst ec h
    obtain ⟨ha, _⟩ := I.pin (a, oe) (List.mem_append_left _ List.mem_cons_self)
    obtain ⟨vs, hd⟩ := hf
    exact ⟨Option.none, ha, hz.1, by unfold PySem.W.notCls; rw [hd] <;> rfl, by rw [hz.2]; exact True.intro⟩
  · obtain ⟨od, _, J, _⟩ := xn_at hz hf I ec ed eh
    exact ⟨_, J⟩
theorem call_isX {Cs : List Addr} (hz : Zc cls d oe) (hf : ∃ vs, oe.data = .fields vs) (hC : ∀ C, C ∈ Cs → XIs X.K C) : CallR (X.suite a ((a, oe) :: pn)) (.builtin "isinstance") (rIsX X.K Cs a cls d) := by
  intro pins s σ H xs us Q I r h
  obtain ⟨c, u, C, b, rfl, hcv, hm, x, e, q⟩ := h
  match us, r with
  | [v1, v2], .cons r1 (.cons r2 .nil) =>
    cases r1
    obtain rfl := hcv _ r2
    obtain ⟨od, J⟩ := xat_inst hz hf I x
    have T := hC C hm
    exact PySem.W.kia_one (PySem.W.kitx_exc T.cl T.ga T.gg T.ex T.ca T.sp T.tk T.mr) I.kIn J e (fun z => nomatch z) fun tk => ⟨.bl b, H, I.kept (t' := tk) fun _ _ z => z, rfl, q⟩
theorem de_isX {Cs : List Addr} {x : Str} {p pos : Pos} {e : Expr} {es : List Expr} {ta : VA} (hz : Zc cls d oe) (hf : ∃ vs, oe.data = .fields vs) (hC : ∀ C, C ∈ Cs → XIs X.K C) (hg : Gl X x) (hm : X.mg x = Option.none) (hv : bootBuiltins x = some (.builtin "isinstance"))
    (ha : DA (X.suite a ((a, oe) :: pn)) (WS a cls d) (e :: es) ta) (hn : x ≠ "__name__" := by decide) (hdb : (x == ("__debug__" : Str)) = false := by decide)
    (he : starEach (e :: es) X.env = (false, eval e X.env) :: starEach es X.env := by rfl) (hpl : (backTo pos (starEach es X.env)).any (·.1) = false := by rfl) :
    DE (X.suite a ((a, oe) :: pn)) (WS a cls d) (.Call (.Name x p) (e :: es) [] pos) (vIsX X.K Cs ta) :=
  peI (pe_callB (X := X.suite a ((a, oe) :: pn)) (call_isX hz hf hC) hg hm hv ha hn hdb he hpl) fun σ H Q ⟨Φ, B, ρ, Ψ, Ξ, l, xo, t, k⟩ => by
    refine runA (t := ta) l xo t fun vs B1 H1 rs g dr p => ?_
    split at p
    · rename_i x c
      obtain ⟨hm, p⟩ := p
      split at p
      · rename_i u eu
        split at p
        · rename_i b eb
          match vs, dr with
          | [v1, v2], ⟨⟨_, h1⟩, ⟨h2, _⟩, _⟩ =>
            obtain ⟨a2, cls2, d2, e1, rfl, dx⟩ := h1 (fun z => z)
            have e2 := e1.symm.trans xo.1
            cases e2
            have d2 : Den X.K B1 v2 c := h2 True.intro
            have hcl : ∀ v, RelV v2 v → v = u := by
              intro v rv
              cases d2 <;> cases eu
              all_goals exact rv
            refine ⟨v2, u, x.C, b, rfl, hcl, hm, ⟨dx.1, ?_⟩, eb, k (.bl b) B1 H1 (.sh (.bl b)) g (.bl b) p⟩
            rcases dx.2 with ⟨_, h⟩ | ⟨dd, fvs, h3, h4, _⟩
            · exact .inl h
            · exact .inr ⟨dd, fvs, h3, h4⟩
        · exact p.elim
      · exact p.elim
    · exact p.elim
end
end DL
/-! DL, ninth part: a class's own operators. -/
namespace DL
open PySem L2 PySem.Spec
open PyProof.Rows (envOfC AllBare)

structure Dun (K : PySem.W.Frag) (C f : Addr) (name : Str) : Prop where
  hs : PySem.W.findIn K (.ref C) name = some (some (.ref f))
  hf : PySem.W.isFn K (.ref f) = true
theorem rr {p : Addr} : RelV (.ref p) (Value.ref p) := rfl
abbrev E0' : XK := fun _ _ _ => False
section
variable {X : Cx} {W : WC} {k : Nat} {f C : Addr} {fd : FuncData} {ps : List Str} {S : SpD} {pins : List (Addr × Obj)} {σ : L2.St} {H : Hp} {s : Shared} {Q : VK}
/-- the callee runs, a little deeper -/
theorem run_sub {A1 : Around} {E : XK} {us : List Value} {vs : List V} (F : FnD X.prog X.w X.K X.mg X.base k f fd ps S) (sb : Sub X k A1) (hb : Binds X.K fd ps []) (hx : PassesAt (L2.CX X.prog X.w) X σ E) (I : Inv X pins σ H s) (r : Vals vs us) (h : spOf X.K S vs H Q E) :
    wpAny (model X.prog X.w) A1 (call (.ref f) us) (EP X pins σ Q) X.xe s := by
  have hl : us.length = ps.length := r.length.symm.trans (F.len _ _ _ _ h)
  have b := hb s us I.kIn (by rw [List.append_nil]; exact hl)
  rw [List.append_nil] at b
  have e := I.env0
  refine wpAny_call (codeAny_mono (F.run A1 X.stack s H ⟨us, []⟩ us vs Q E sb.room ⟨by rw [sb.fr]; exact e.frames, e.mod, e.bs, e.bsz, e.funs, e.frf, e.hok, e.bare⟩ b r h) fun r s' hq => ?_)
  cases r with
  | error z => exact hx pins H s z s' I hq
  | ok fl =>
    cases fl with
    | ret u => exact I.after hq
    | next => exact False.elim hq
    | brk => exact False.elim hq
    | cont => exact False.elim hq
theorem passE0 : PassesAt (L2.CX X.prog X.w) X σ E0' := fun _ _ _ _ _ _ ⟨_, _, _, _, _, _, _, _, _, _, _, _, z⟩ => z.elim
theorem ins_inst {a dx : Addr} {fs : List (Str × V)} (I : Inv X pins σ H s) (h : H a = some (.ins C dx fs)) : ∃ od, PySem.W.InstAt s.heap a (PySem.W.instObj C dx) C (some od) := by
  obtain ⟨mA, J, _⟩ := ins_get I.hok h
  obtain ⟨od, J, _⟩ := J.look
  exact ⟨od, J⟩
theorem cmpBack {u : Value} {s' : Shared} {Q' : Value → Shared → Prop} (h : EP X pins σ Q u s') (k : ∀ u s', EP X pins σ Q u s' → Q' u s') : PySem.W.CmpBack Q' u s' := by
  obtain ⟨v, H', I, r, q⟩ := id h
  have z := k u s' h
  cases u with
  | notImplemented => cases v <;> first | (cases r; done) | (rcases r with ⟨_, ⟨⟩⟩; done) | exact r.elim
  | _ => exact z
end

/-! ### two operands -/
/-- a op b, a an instance of C, b as P says; nothing is raised -/
def vDun2 (C : Addr) (P : DV → Prop) (S : SpD) (ta tb : VE) : VE := fun ρ Ψ Ξ => ta ρ (fun r1 => r1.good ∧ (∃ fs, r1.d = .obj C fs) ∧ tb ρ (fun r2 => r2.good ∧ P r2.d ∧ S [r1.d, r2.d] Ψ fun _ => False) Ξ) Ξ
def rDun2 (K : PySem.W.Frag) (C : Addr) (PV : V → Hp → Prop) (S : SpD) : R2 := fun x y H Q => (∃ a dx fs, x = .ref a ∧ H a = some (.ins C dx fs)) ∧ PV y H ∧ spOf K S [x, y] H Q E0'
def PRel (K : PySem.W.Frag) (P : DV → Prop) (PV : V → Hp → Prop) : Prop := ∀ B H v d, Same B H → Den K B v d → P d → PV v H
section
variable {K : PySem.W.Frag} {W : WC} {C : Addr} {P : DV → Prop} {PV : V → Hp → Prop} {S : SpD} {ta tb : VE} {σ : L2.St} {H : Hp} {Q : VK}
theorem abs_dun2 (hP : PRel K P PV) (q : tD K W (vDun2 C P S ta tb) σ H Q) : tOp (rDun2 K C PV S) (tD K W ta) (tD K W tb) σ H Q := by
  obtain ⟨Φ, B, ρ, Ψ, Ξ, l, x, t, k⟩ := q
  refine runE (t := ta) l x t fun v B1 H1 r1 g1 d1 ⟨hg1, ⟨fs, e1⟩, t1⟩ => ?_
  obtain ⟨B2, g2, _, v1⟩ := d1.settle g1 hg1
  refine runE (l.grow g2) (x.grow g2) t1 fun u B3 H3 r2 g3 d2 ⟨hg2, hp, t2⟩ => ?_
  obtain ⟨B4, g4, _, v2⟩ := d2.settle g3 hg2
  have v1' := v1.mono g4.b
  have g24 := g2.trans g4
  rw [e1] at v1'
  refine ⟨?_, hP B4 H3 u r2.d g4.s v2 hp, ?_⟩
  · cases v1' with
    | obj h t => exact ⟨_, _, _, rfl, g4.s _ _ h⟩
  · rw [← e1] at v1'
    exact ⟨B4, [r1.d, r2.d], Ψ, fun _ => False, g4.s, .cons v1' (.cons v2 .nil), t2, fun Φ' r z B' H' p hg g d => k z B' H' r (g24.trans g) ((d.phi hg).back g24.h) p, fun _ _ _ _ _ z => z.elim⟩
theorem pr_any : PRel K (fun _ => True) (fun _ _ => True) := fun _ _ _ _ _ _ _ => True.intro
def isInt (d : DV) : Prop := ∃ i, d = .int i
def isIntV (v : V) (_ : Hp) : Prop := ∃ i, v = .int i
theorem pr_int : PRel K isInt isIntV := fun B H v d s h ⟨i, e⟩ => by subst e; cases h; exact ⟨i, rfl⟩
def isObj (C : Addr) (d : DV) : Prop := ∃ fs, d = .obj C fs
def isObjV (C : Addr) (v : V) (H : Hp) : Prop := ∃ a dx fs, v = .ref a ∧ H a = some (.ins C dx fs)
theorem pr_obj : PRel K (isObj C) (isObjV C) := fun B H v d s h ⟨fs, e⟩ => by
  subst e
  cases h with
  | obj h t => exact ⟨_, _, _, rfl, s _ _ h⟩
end
section
variable {X : Cx} {W : WC} {k : Nat} {f C : Addr} {fd : FuncData} {ps : List Str} {S : SpD} {a b e : Expr} {ta tb te : VE} {pos : Pos}
/-- a op b where b is an int -/
theorem op_dunI {op : Operator} {fo ro rc : Option Value} (D : Dun X.K C f (PySem.dunder op.info.2)) (F : FnD X.prog X.w X.K X.mg X.base k f fd ps S) (hr : Room k X.A) (hb : Binds X.K fd ps []) (hc : PySem.W.selfFirst X.K C = true)
    (hR : PySem.W.findIn X.K (.ref C) (dunderR op.info.2) = some rc) (hp : rc = Option.none ∨ ∃ g : Addr, rc = some (.ref g)) (h1 : PySem.W.findIn X.K (.type "int") (PySem.dunder op.info.2) = some fo) (h2 : PySem.W.findIn X.K (.type "int") (dunderR op.info.2) = some ro)
    (hU : PySem.W.subIn X.K (.type "int") (.ref C) = some false) : OpR X (binaryOp op) (rDun2 X.K C isIntV S) := by
  intro pins s σ H x y v u Q I rx ry ⟨⟨p, dx, fs, ex, hp'⟩, ⟨i, ey⟩, q⟩
  subst ex ey
  obtain rfl : v = Value.ref p := rx
  obtain ⟨od, J⟩ := ins_inst I hp'
  obtain ⟨m, hF⟩ := I.fr
  obtain ⟨t, rfl⟩ := id ry
  refine PySem.W.ksp_binT hF I.ok.mod.kin J rfl hc D.hs D.hf hR hp h1 h2 hU ?_
  exact wpAny_mono (run_sub F ⟨hr, rfl⟩ hb passE0 I (.cons rr (.cons ry .nil)) q) (fun r s' z => cmpBack z fun _ _ w => w) fun _ _ w => w
/-- a == b, both instances of C -/
theorem op_dunEq (D : Dun X.K C f "__eq__") (F : FnD X.prog X.w X.K X.mg X.base k f fd ps S) (hr : Room k X.A) (hb : Binds X.K fd ps []) : OpR X (compareOp .Eq) (rDun2 X.K C (isObjV C) S) := by
  intro pins s σ H x y v u Q I rx ry ⟨⟨p, dx, fs, ex, hp'⟩, ⟨p2, dy, gs, ey, hp2⟩, q⟩
  subst ex ey
  obtain rfl : v = Value.ref p := rx
  obtain rfl : u = Value.ref p2 := ry
  obtain ⟨od, J⟩ := ins_inst I hp'
  obtain ⟨od2, J2⟩ := ins_inst I hp2
  obtain ⟨m, hF⟩ := I.fr
  show wpAny (model X.prog X.w) X.A (richCompare .Eq _ _) _ _ s
  refine PySem.W.cmp_K (op := .Eq) (tb := .ref C) hr.units0 hF I.ok.mod.kin J J2.type (by simp [PySem.W.notFirst]) D.hs D.hf ?_
  exact wpAny_mono (run_sub F ⟨hr, rfl⟩ hb passE0 I (.cons rr (.cons rr .nil)) q) (fun r s' z => cmpBack z fun _ _ w => w) fun _ _ w => w
theorem de_dunI {op : Operator} (ho : OpR X (binaryOp op) (rDun2 X.K C isIntV S)) (ha : DE X W a ta) (hb : DE X W b tb) : DE X W (.BinOp a op b pos) (vDun2 C isInt S ta tb) := peI (pe_op ho ha hb) fun _ _ _ => abs_dun2 pr_int
theorem de_dunEq (ho : OpR X (compareOp .Eq) (rDun2 X.K C (isObjV C) S)) (ha : DE X W a ta) (hb : DE X W b tb) (hm : behindInMarks .Eq b = false) : DE X W (.Compare a [.Eq] [b] pos) (vDun2 C (isObj C) S ta tb) := peI (pe_cmpR ho ha hb hm) fun _ _ _ => abs_dun2 pr_obj
/-! ### in -/
/-- x in o: x first -/
def vDunIn (C : Addr) (n : Bool) (S : SpD) (ta tb : VE) : VE := fun ρ Ψ Ξ => ta ρ (fun r1 => r1.good ∧ tb ρ (fun r2 => r2.good ∧ isObj C r2.d ∧ S [r2.d, r1.d] (blK fun c => Ψ (.sh (.bl (n ^^ c)))) fun _ => False) Ξ) Ξ
def rDunIn (K : PySem.W.Frag) (C : Addr) (n : Bool) (S : SpD) : R2 := fun y x H Q => isObjV C x H ∧ spOf K S [x, y] H (fun v H' => ∃ c, v = .bl c ∧ Q (.bl (n ^^ c)) H') E0'
theorem abs_dunIn {K : PySem.W.Frag} {n : Bool} {σ : L2.St} {H : Hp} {Q : VK} (q : tD K W (vDunIn C n S ta tb) σ H Q) : tOp (rDunIn K C n S) (tD K W ta) (tD K W tb) σ H Q := by
  obtain ⟨Φ, B, ρ, Ψ, Ξ, l, x, t, k⟩ := q
  refine runE (t := ta) l x t fun v B1 H1 r1 g1 d1 ⟨hg1, t1⟩ => ?_
  obtain ⟨B2, g2, _, v1⟩ := d1.settle g1 hg1
  refine runE (l.grow g2) (x.grow g2) t1 fun u B3 H3 r2 g3 d2 ⟨hg2, ho, t2⟩ => ?_
  obtain ⟨B4, g4, _, v2⟩ := d2.settle g3 hg2
  have g24 := g2.trans g4
  refine ⟨pr_obj (K := K) B4 H3 u r2.d g4.s v2 ho, ?_⟩
  refine ⟨B4, [r2.d, r1.d], _, fun _ => False, g4.s, .cons v2 (.cons (v1.mono g4.b) .nil), t2, fun Φ' r z B' H' p hg g d => ?_, fun _ _ _ _ _ z => z.elim⟩
  obtain ⟨c, rfl, p⟩ := blK_sh p
  cases (show Den K B' z (.bl c) from d)
  exact ⟨c, rfl, k _ B' H' (.sh (.bl (n ^^ c))) (g24.trans g) (.bl _) p⟩
theorem op_dunIn (D : Dun X.K C f "__contains__") (F : FnD X.prog X.w X.K X.mg X.base k f fd ps S) (hr : Room k X.A) (hb : Binds X.K fd ps []) : OpR X (compareOp .In) (rDunIn X.K C false S) := by
  intro pins s σ H y x u v Q I ry rx ⟨⟨p, dx, fs, ex, hp'⟩, q⟩
  subst ex
  obtain rfl : v = Value.ref p := rx
  obtain ⟨od, J⟩ := ins_inst I hp'
  obtain ⟨m, hF⟩ := I.fr
  refine PySem.W.in_K hF I.ok.mod.kin J D.hs D.hf (wpAny_mono (run_sub F ⟨hr, rfl⟩ hb passE0 I (.cons rr (.cons ry .nil)) q) (fun r s' z => ?_) fun _ _ w => w)
  obtain ⟨v', H', I', r', c, ec, q'⟩ := z
  subst ec
  obtain rfl : r = Value.bool c := r'
  exact wpAny_truthy_bool ⟨.bl c, H', I', rfl, by simpa using q'⟩
theorem op_dunNIn (D : Dun X.K C f "__contains__") (F : FnD X.prog X.w X.K X.mg X.base k f fd ps S) (hr : Room k X.A) (hb : Binds X.K fd ps []) : OpR X (compareOp .NotIn) (rDunIn X.K C true S) := by
  intro pins s σ H y x u v Q I ry rx ⟨⟨p, dx, fs, ex, hp'⟩, q⟩
  subst ex
  obtain rfl : v = Value.ref p := rx
  obtain ⟨od, J⟩ := ins_inst I hp'
  obtain ⟨m, hF⟩ := I.fr
  refine PySem.W.notIn_K hF I.ok.mod.kin J D.hs D.hf (wpAny_mono (run_sub F ⟨hr, rfl⟩ hb passE0 I (.cons rr (.cons ry .nil)) q) (fun r s' z => ?_) fun _ _ w => w)
  obtain ⟨v', H', I', r', c, ec, q'⟩ := z
  subst ec
  obtain rfl : r = Value.bool c := r'
  exact wpAny_truthy_bool ⟨.bl (!c), H', I', rfl, by simpa using q'⟩
theorem de_dunIn {op : CmpOp} {n : Bool} (ho : OpR X (compareOp op) (rDunIn X.K C n S)) (ha : DE X W a ta) (hb : DE X W b tb) (hm : behindInMarks op b = false) : DE X W (.Compare a [op] [b] pos) (vDunIn C n S ta tb) := peI (pe_cmpR ho ha hb hm) fun _ _ _ => abs_dunIn
/-- as a test -/
theorem dt_of {op : CmpOp} {r : R2} {t : VE} (ho : OpR X (compareOp op) r) (hA : ∀ σ H Q, tD X.K W t σ H Q → tOp r (tD X.K W ta) (tD X.K W tb) σ H Q) (ha : DE X W a ta) (hb : DE X W b tb) (hm : behindInMarks op b = false) : DT X W (.Compare a [op] [b] pos) (vTst t) := by
  refine ptI (pt_cmpR ho ha hb hm) fun σ H Q ⟨Φ, B, ρ, Ψ, Ξ, l, x, t, k⟩ => ?_
  refine hA σ H _ ⟨Φ, B, ρ, _, Ξ, l, x, t, fun v B' H' r g d p => ?_⟩
  obtain ⟨b, rfl, p⟩ := blK_sh p
  cases (show Den X.K B' v (.bl b) from d)
  exact ⟨b, rfl, k b B' H' g p⟩
theorem dt_dunEq (ho : OpR X (compareOp .Eq) (rDun2 X.K C (isObjV C) S)) (ha : DE X W a ta) (hb : DE X W b tb) (hm : behindInMarks .Eq b = false) : DT X W (.Compare a [.Eq] [b] pos) (vTst (vDun2 C (isObj C) S ta tb)) := dt_of ho (fun _ _ _ => abs_dun2 pr_obj) ha hb hm
theorem dt_dunIn {op : CmpOp} {n : Bool} (ho : OpR X (compareOp op) (rDunIn X.K C n S)) (ha : DE X W a ta) (hb : DE X W b tb) (hm : behindInMarks op b = false) : DT X W (.Compare a [op] [b] pos) (vTst (vDunIn C n S ta tb)) := dt_of ho (fun _ _ _ => abs_dunIn) ha hb hm
/-! ### ~ -/
def vDun1 (C : Addr) (S : SpD) (ta : VE) : VE := fun ρ Ψ Ξ => ta ρ (fun r1 => r1.good ∧ isObj C r1.d ∧ S [r1.d] Ψ fun _ => False) Ξ
theorem abs_dun1 {K : PySem.W.Frag} {σ : L2.St} {H : Hp} {Q : VK} (q : tD K W (vDun1 C S ta) σ H Q) : tD K W ta σ H fun x H1 => isObjV C x H1 ∧ spOf K S [x] H1 Q E0' := by
  obtain ⟨Φ, B, ρ, Ψ, Ξ, l, x, t, k⟩ := q
  refine runE (t := ta) l x t fun v B1 H1 r1 g1 d1 ⟨hg1, ho, t1⟩ => ?_
  obtain ⟨B2, g2, _, v1⟩ := d1.settle g1 hg1
  exact ⟨pr_obj (K := K) B2 H1 v r1.d g2.s v1 ho, B2, [r1.d], Ψ, fun _ => False, g2.s, .cons v1 .nil, t1, fun Φ' r z B' H' p hg g d => k z B' H' r (g2.trans g) ((d.phi hg).back g2.h) p, fun _ _ _ _ _ z => z.elim⟩
theorem de_inv (D : Dun X.K C f "__invert__") (F : FnD X.prog X.w X.K X.mg X.base k f fd ps S) (hr : Room k X.A) (hb : Binds X.K fd ps []) (ha : DE X W a ta) : DE X W (.UnaryOp .Invert a pos) (vDun1 C S ta) :=
  peI (pe_un (op := .Invert) (r := fun x H Q => isObjV C x H ∧ spOf X.K S [x] H Q E0') (by
    intro pins s σ H x v Q I rx ⟨⟨p, dx, fs, ex, hp'⟩, q⟩
    subst ex
    obtain rfl : v = Value.ref p := rx
    obtain ⟨od, J⟩ := ins_inst I hp'
    obtain ⟨m, hF⟩ := I.fr
    exact PySem.W.ksp_inv hF I.ok.mod.kin J D.hs D.hf (run_sub F ⟨hr, rfl⟩ hb passE0 I (.cons rr .nil) q)) ha) fun _ _ _ => abs_dun1
/-! ### len -/
def vDunLen (C : Addr) (S : SpD) (ta : VA) : VE := fun ρ Ψ Ξ => ta ρ (fun rs => match rs with
  | [r1] => r1.good ∧ isObj C r1.d ∧ S [r1.d] (fun r => match r with
    | .sh (.int n) => 0 ≤ n ∧ n < 2 ^ 63 ∧ Ψ (.sh (.int n))
    | _ => False) fun _ => False
  | _ => False) Ξ
theorem call_dunLen (D : Dun X.K C f "__len__") (F : FnD X.prog X.w X.K X.mg X.base k f fd ps S) (hr : Room (k + 1) X.A) (hb : Binds X.K fd ps []) : CallR X (.builtin "len") (fun xs H Q => ∃ x, xs = [x] ∧ isObjV C x H ∧ spOf X.K S [x] H (fun v H' => ∃ n : Int, v = .int n ∧ 0 ≤ n ∧ n < 2 ^ 63 ∧ Q (.int n) H') E0') := by
  intro pins s σ H xs us Q I r ⟨x, ex, ⟨p, dx, fs, ex2, hp'⟩, q⟩
  subst ex ex2
  obtain rfl := Vals.ref1 r
  obtain ⟨od, J⟩ := ins_inst I hp'
  obtain ⟨m, hF⟩ := I.fr
  refine PySem.W.len_K hF I.ok.mod.kin J D.hs D.hf (wpAny_mono (run_sub F (Sub.in1 ⟨hr, rfl⟩) hb passE0 I (.cons rr .nil) q) (fun r s' z => ?_) fun _ _ w => w)
  obtain ⟨v', H', I', r', n, en, h0, h1, q'⟩ := z
  subst en
  obtain ⟨t, rfl⟩ := r'
  exact ⟨⟨h0, h1⟩, .int n, H', I'.tok _, ⟨_, rfl⟩, q'⟩
theorem de_dunLen {x : Str} {p : Pos} {es : List Expr} {ta : VA} (D : Dun X.K C f "__len__") (F : FnD X.prog X.w X.K X.mg X.base k f fd ps S) (hr : Room (k + 1) X.A) (hbd : Binds X.K fd ps []) (hg : Gl X x) (hm : X.mg x = Option.none) (hv : bootBuiltins x = some (.builtin "len")) (ha : DA X W (e :: es) ta) (hn : x ≠ "__name__" := by decide) (hdb : (x == ("__debug__" : Str)) = false := by decide)
    (he : starEach (e :: es) X.env = (false, eval e X.env) :: starEach es X.env := by rfl) (hpl : (backTo pos (starEach es X.env)).any (·.1) = false := by rfl) : DE X W (.Call (.Name x p) (e :: es) [] pos) (vDunLen C S ta) := peI (pe_callB (call_dunLen D F hr hbd) hg hm hv ha hn hdb he hpl) fun σ H Q ⟨Φ, B, ρ, Ψ, Ξ, l, xo, t, k⟩ => by
  refine runA (t := ta) l xo t fun vs B1 H1 rs g dr p => ?_
  split at p
  · rename_i r1
    obtain ⟨hg1, ho, t1⟩ := p
    match vs, dr with
    | [v], ⟨⟨h1, _⟩, _⟩ =>
      have v1 := h1 hg1
      refine ⟨v, rfl, pr_obj (K := X.K) B1 H1 v r1.d g.s v1 ho, B1, [r1.d], _, fun _ => False, g.s, .cons v1 .nil, t1, fun Φ' r z B' H' p hg g' d => ?_, fun _ _ _ _ _ z => z.elim⟩
      split at p
      · rename_i n
        cases (show Den X.K B' z (.int n) from d)
        exact ⟨n, rfl, p.1, p.2.1, k _ B' H' (.sh (.int n)) (g.trans g') (.int n) p.2.2⟩
      · exact p.elim
  · exact p.elim
/-! ### o[i]; it may raise -/
def vDunIx (C : Addr) (S : SpD) (ta tb : VE) : VE := fun ρ Ψ Ξ => ta ρ (fun r1 => r1.good ∧ isObj C r1.d ∧ tb ρ (fun r2 => r2.good ∧ S [r1.d, r2.d] Ψ Ξ) Ξ) Ξ
theorem de_dunIx (D : Dun X.K C f "__getitem__") (hfn : PySem.W.fnIn X.K f = true) (F : FnD X.prog X.w X.K X.mg X.base k f fd ps S) (hr : Room (k + 1) X.A) (hbd : Binds X.K fd ps []) (tk : Takes X W.w) (ha : DE X W a ta) (hb : DE X W b tb)
    (hsl : ∀ o i, subscripted b true o i = runValue (.builtin "lifetime.subscript" ⟨[o, i], []⟩) := by intro _ _; with_unfolding_all rfl) : DE X W (.Subscript a b pos) (vDunIx C S ta tb) := by
  refine ⟨fun pins s σ H Q I q => ?_⟩
  obtain ⟨Φ, B, ρ, Ψ, Ξ, l, x, t, kk⟩ := q
  have q1 := runE (t := ta) (Q := fun v H1 => tD X.K W tb σ H1 fun u H2 => isObjV C v H2 ∧ spOf X.K S [v, u] H2 Q (WE W.w σ)) l x t fun v B1 H1 r1 g1 d1 ⟨hg1, ho, t1⟩ => by
    obtain ⟨B2, g2, _, v1⟩ := d1.settle g1 hg1
    refine runE (l.grow g2) (x.grow g2) t1 fun u B3 H3 r2 g3 d2 ⟨hg2, t2⟩ => ?_
    obtain ⟨B4, g4, _, v2⟩ := d2.settle g3 hg2
    have g24 := g2.trans g4
    refine ⟨pr_obj (K := X.K) B4 H3 v r1.d g4.s (v1.mono g4.b) ho, B4, [r1.d, r2.d], Ψ, Ξ, g4.s, .cons (v1.mono g4.b) (.cons v2 .nil), t2, fun Φ' r z B' H' p hg g d => kk z B' H' r (g24.trans g) ((d.phi hg).back g24.h) p, fun y cls dd B' H' p g d => ?_⟩
    exact (x.grow g24).2 y p B' H' cls dd g d
  refine PyProof.Rows.Subscript_ (binT ha hb I q1 fun v u s2 x y H2 I2 rx ry ⟨⟨p, dx, fs, ex, hp'⟩, q⟩ => ?_)
  subst ex
  obtain rfl : v = Value.ref p := rx
  obtain ⟨od, J⟩ := ins_inst I2 hp'
  obtain ⟨m, hF⟩ := I2.fr
  exact PySem.W.sub_K hF I2.ok.mod.kin J D.hs hfn D.hf (run_sub F (Sub.in1 ⟨hr, rfl⟩) hbd (passAt tk σ) I2 (.cons rr (.cons ry .nil)) q) (hsl _ _)
end
end DL
/-! DL, tenth part: objects whose __iter__ hands out an iterator over a tuple: list(o), for x in o. -/
namespace DL
open PySem L2 PySem.Spec
open PyProof.Rows (envOfC AllBare)

/-- at it an iterator over the tuple at t, at its start -/
def ItT (t it : Addr) : HO := .ext fun h => h.IsTupleIter it t 0
theorem itT_ok {P : Program} {w : World} {H : Hp} {h : Heap} {t it : Addr} (e : h.IsTupleIter it t 0) : ObjOk P w H h it (ItT t it) :=
  ⟨e, let ⟨o, q, _⟩ := e; ⟨o, q⟩, fun _ _ q k => q.at fun o z => k o z⟩
section
variable {prog : Program} {w : World} {A : Around} {E : Value → Shared → Prop} {s : Shared} {t : Addr} {items : Array Value}
theorem iter_tupC {Q : Value → Shared → Prop} (hl : s.heap.IsTuple t items) (h : Q (.ref s.heap.objs.size) { s with heap := s.heap.push { cls := .type "tuple_iterator", data := .fields #[.ref t, .int 0 0] } }) : wpAny (model prog w) A (call (.builtin "iter") [.ref t]) Q E s := by
  refine Calls.call_function_entry (by decide +kernel) (by decide +kernel) PySem.W.kdk_entry_iter (PySem.W.kdk_args_iter _) ?_
  unfold Builtin.«iter»
  refine wpAny_bind (m := someArgs "iter" 1 2 _) (wpAny_of_eq (a := [Value.ref t]) (by first | rfl | kernel_rfl!) ?_)
  show wpAny _ _ (pyIter (.ref t) >>= _) _ _ _
  exact wpAny_bind (wpAny_pyIter_tuple hl (wpAny_pure ⟨_, rfl, h⟩))
end
def rIterT (K : PySem.W.Frag) (n : Nat) : List V → Hp → VK → Prop := fun xs H Q => ∃ (t : Addr) (zs : List V), xs = [.ref t] ∧ SqT K H t zs ∧ ∀ it, H it = Option.none → n ≤ it → Q (.ref it) (upd H it (ItT t it))
theorem call_iterT {X : Cx} : CallR X (.builtin "iter") (rIterT X.K X.s_0.heap.objs.size) := by
  intro pins s σ H xs us Q I r ⟨t, zs, ex, hq, q⟩
  subst ex
  obtain rfl := Vals.ref1 r
  obtain ⟨its, rv, pl, hz⟩ := I.tuple hq
  refine iter_tupC (show s.heap.IsTuple t its.toArray from pl) ?_
  exact ⟨.ref s.heap.objs.size, _, I.laid (t' := s.toks) (fun b u e => Heap.get?_push_of_some _ e) (Nat.le_refl _) (itT_ok ⟨_, Heap.get?_push_size _ rfl, rfl, rfl⟩), rfl, q _ (I.hok.fresh (Nat.le_refl _)) I.sz⟩

/-- a tracked thing of its own kind may be let go -/
theorem Inv.let {X : Cx} {pins : List (Addr × Obj)} {σ : L2.St} {H : Hp} {s : Shared} {d : Addr} {P : Heap → Prop} (I : Inv X pins σ (upd H d (.ext P)) s) (hn : H d = Option.none) : Inv X pins σ H s := by
  have neH : ∀ b o, upd H d (.ext P) b = some o → (∀ P', o ≠ .ext P') → H b = some o := fun b o e z => by
    by_cases hb : b = d
    · rw [hb, upd_same] at e; cases e; exact absurd rfl (z P)
    · rw [upd_ne hb] at e; exact e
  have neN : ∀ b, upd H d (.ext P) b = Option.none → H b = Option.none := fun b e => by
    by_cases hb : b = d
    · rw [hb]; exact hn
    · rw [upd_ne hb] at e; exact e
  refine ⟨I.ok, I.os, I.bare, ⟨I.base.keep, I.base.slot, fun b o e n hx => neN b (I.base.free b o e n hx), I.base.there, fun b xs e => neH b _ (I.base.tups b xs e) (fun _ z => nomatch z), fun b o x e => neH b _ (I.base.frzs b o x e) (fun _ z => nomatch z), fun b ps e => ?_⟩, I.loc, I.cell, neN _ I.free, fun x c e => neN c (I.freeC x c e), fun p hp => ?_, fun b o e => ?_, I.len⟩
  · obtain ⟨m, q⟩ := I.base.tbls b ps e
    exact ⟨m, neH b _ q (fun _ z => nomatch z)⟩
  · obtain ⟨e, n, r⟩ := I.pin p hp
    exact ⟨e, neN _ n, r⟩
  · have hb : b ≠ d := fun z => by rw [z, hn] at e; cases e
    refine (I.hok b o (by rw [upd_ne hb]; exact e)).stay (fun c v hc z => z) (fun c hc => neH c _ hc (fun _ z => nomatch z)) fun c xs hc => neH c _ hc (fun _ z => nomatch z)

/-! ### __iter__ -/
structure FnIt (P : Program) (w : World) (K : PySem.W.Frag) (mg : Str → Option Value) (base : Heap) (k : Nat) (f : Addr) (fd : FuncData) (C : Addr) (F : Str) : Prop where
  run : ∀ (A : Around) (outer : List Env) (s : Shared) (H : Hp) (a dx t : Addr) (fs : List (Str × V)) (zs : List V), Room k A → Env0 P w K mg base A outer s H → H a = some (.ins C dx fs) → fs.lookup F = some (.ref t) → SqT K H t zs →
    codeAny (model P w) A (.call (.ref f) ⟨[.ref a], []⟩) (fun r s' => match r with
      | .ok (.ret u) => ∃ it, u = .ref it ∧ s.heap.objs.size ≤ it ∧ CE outer P w H s (fun v H' => v = .ref it ∧ H' = upd H it (ItT t it)) u s'
      | _ => False) s
section
variable {P : Program} {w : World} {K : PySem.W.Frag} {mg : Str → Option Value} {base : Heap} {x qual : Str} {st : Stmt} {f C : Addr} {fd : FuncData} {N ps : List Str} {k : Nat} {F : Str}
/-- the body: return iter(self.F) -/
theorem it_of (Fu : Fun K x qual st f fd) (Sc : FnScope ["self"] ["self"] (defScope st)) (c : Cls K C) (na : NoAttr K C F) (bd : Binds K fd ["self"] [])
    (hbody : ∀ (cdv : Value) (A : Around) (outer : List Env) (s : Shared) (H : Hp) (E : XK), PSs (cxOf CX0 P w K mg base ["self"] qual (defScope st) f cdv A outer s H E) (defBody st) (tRet (tCB (rIterT K s.heap.objs.size) (tCons (tFld K (tVar 0) F) tNil)))) : FnIt P w K mg base (k + 1) f fd C F := by
  refine ⟨fun A outer s H a dx t fs zs hr e0 ha hl hz => ?_⟩
  obtain ⟨oc, od, kV, doc, pm, an, cdv, ct, osl, rfl, lk, hcd⟩ := Fu.ex
  have kin : K.In s.heap := e0.mod.kin.keeps fun b o e => (e0.bs b o e).1
  have vals : Vals [V.ref a] [Value.ref a] := .cons rr .nil
  have go : ∀ y ∈ (["self"] : List Str).zip [Value.ref a], (defScope st).names.lookup y.1 = some .local ∨ ((defScope st).names.lookup y.1 = some .cell ∧ ((cellsFrom (s.heap.objs.size + 1) (defScope st).names []).lookup y.1).isSome = true) := fun y hy => by
    rcases Sc.par y.1 (List.of_mem_zip (a := y.1) (b := y.2) hy).1 with q | q
    · exact .inl q
    · exact .inr ⟨q, PySem.W.cellsFrom_some _ _ _ (.inl q)⟩
  have hb := bd s [.ref a] kin rfl
  rw [List.append_nil] at hb
  refine codeAny_call_function hr.depth (kin _ _ lk) rfl Sc.co Sc.gen rfl (PySem.W.codeRec_of kin hcd) (hb _ _ _ _ (wpAny_newFunctionEnv_cells Sc.kind go fun env he s1 x => ?_))
  subst he
  refine ⟨(e0.mod.nolimit.keeps fun b o e => (e0.bs b o e).1).keeps x.toInCall.keep, codeAny_func ?_⟩
  have I := inv_start (CX := CX0) (E := fun _ _ _ => False) (N := ["self"]) Sc hr.hd e0 (vs := [.ref a]) rfl vals x
  refine wpAny_mono ((hbody cdv A outer s H fun _ _ _ => False).run [] s1 (start ["self"] [.ref a]) H { nx := fun _ _ => False, rt := fun v H' => ∃ it, v = .ref it ∧ s.heap.objs.size ≤ it ∧ H' = upd H it (ItT t it) } I ?_) (fun fl s' h => ?_) fun e s' h => ?_
  · exact ⟨.ref a, rfl, a, C, dx, fs, .ref t, rfl, ha, c, na, hl, t, zs, rfl, hz, fun it h1 h2 => ⟨it, rfl, h2, rfl⟩⟩
  · cases fl with
    | ret u =>
      obtain ⟨v, σ', H', J, rv, it, ev, hi, eh⟩ := h
      subst ev
      obtain rfl : u = Value.ref it := rv
      exact ⟨it, rfl, hi, .ref it, H', J.os, J.bare, J.base, J.hok, rr, rfl, eh⟩
    | next =>
      obtain ⟨σ', H', J, q⟩ := h
      exact q.elim
    | brk =>
      obtain ⟨σ', H', J, q⟩ := h
      exact q.elim
    | cont =>
      obtain ⟨σ', H', J, q⟩ := h
      exact q.elim
  · refine wpAny_mono h (fun _ _ z => ?_) fun _ _ z => ?_
    · exact z.elim
    · exact z.elim
end

section
variable {X : Cx} {W : WC} {k n : Nat} {f fl C : Addr} {fd fdl : FuncData} {ps : List Str} {S : SpD} {F : Str} {pins : List (Addr × Obj)} {σ : L2.St} {H : Hp} {s : Shared} {a dx t : Addr} {fs : List (Str × V)} {zs : List V} {A1 : Around}
/-- as run_sub; nothing is raised -/
theorem run_sub0 {Q : VK} {Ex : Value → Shared → Prop} {us : List Value} {vs : List V} (Fn : FnD X.prog X.w X.K X.mg X.base k f fd ps S) (sb : Sub X k A1) (hb : Binds X.K fd ps []) (I : Inv X pins σ H s) (r : Vals vs us) (h : spOf X.K S vs H Q E0') :
    wpAny (model X.prog X.w) A1 (call (.ref f) us) (EP X pins σ Q) Ex s := by
  have hl : us.length = ps.length := r.length.symm.trans (Fn.len _ _ _ _ h)
  have b := hb s us I.kIn (by rw [List.append_nil]; exact hl)
  rw [List.append_nil] at b
  have e := I.env0
  refine wpAny_call (codeAny_mono (Fn.run A1 X.stack s H ⟨us, []⟩ us vs Q E0' sb.room ⟨by rw [sb.fr]; exact e.frames, e.mod, e.bs, e.bsz, e.funs, e.frf, e.hok, e.bare⟩ b r h) fun r s' hq => ?_)
  cases r with
  | error z =>
    obtain ⟨_, _, _, _, _, _, _, _, _, _, _, _, q⟩ := hq
    exact q.elim
  | ok fl =>
    cases fl with
    | ret u => exact I.after hq
    | next => exact False.elim hq
    | brk => exact False.elim hq
    | cont => exact False.elim hq
/-- the iterator is there -/
structure ItNow (X : Cx) (pins : List (Addr × Obj)) (σ : L2.St) (H : Hp) (t it : Addr) (s' : Shared) : Prop where
  n : H it = Option.none
  I : Inv X pins σ (upd H it (ItT t it)) s'
  fp : FpOk X pins H it
theorem ItNow.at (q : ItNow X pins σ H t it s) : s.heap.IsTupleIter it t 0 := (q.I.hok it _ upd_same).1
theorem own_it {Ex : Value → Shared → Prop} (D : Dun X.K C f "__iter__") (FI : FnIt X.prog X.w X.K X.mg X.base k f fd C F) (sb : Sub X k A1) (I : Inv X pins σ H s) (ha : H a = some (.ins C dx fs)) (hl : fs.lookup F = some (.ref t)) (hz : SqT X.K H t zs) :
    wpAny (model X.prog X.w) A1 (pyIter (.ref a)) (fun u s' => ∃ it, u = .ref it ∧ ItNow X pins σ H t it s') Ex s := by
  obtain ⟨od, J⟩ := ins_inst I ha
  obtain ⟨m, hF⟩ := I.fr
  have e := I.env0
  refine PySem.W.owit_iter hF I.ok.mod.kin J D.hs D.hf (wpAny_call (codeAny_mono (FI.run A1 X.stack s H a dx t fs zs sb.room ⟨by rw [sb.fr]; exact e.frames, e.mod, e.bs, e.bsz, e.funs, e.frf, e.hok, e.bare⟩ ha hl hz) fun r s' hq => ?_))
  cases r with
  | error z => exact hq.elim
  | ok fl =>
    cases fl with
    | next => exact hq.elim
    | brk => exact hq.elim
    | cont => exact hq.elim
    | ret u =>
      obtain ⟨it, rfl, hi, ce⟩ := hq
      obtain ⟨v, H', J, rv, ev, eh⟩ := I.after ce
      subst eh
      have hn := I.hok.fresh hi
      have now : ItNow X pins σ H t it s' := ⟨hn, J, I.fpOk hi hn⟩
      obtain ⟨o, ho, hc, _⟩ := now.at
      exact wpAny_specialOf ⟨o, ho, hc⟩ PySem.F.slot_tuple_iterator_next.lookup ⟨it, rfl, now⟩
/-! ### for x in o -/
def iOwn (K : PySem.W.Frag) (C : Addr) (F : Str) (te : TE) : TI := fun σ H R => te σ H fun x H1 => ∃ a dx fs t zs, x = .ref a ∧ H1 a = some (.ins C dx fs) ∧ fs.lookup F = some (.ref t) ∧ SqT K H1 t zs ∧ R (Itt K t) H1
theorem pi_own {tg e : Expr} {te : TE} (D : Dun X.K C f "__iter__") (FI : FnIt X.prog X.w X.K X.mg X.base k f fd C F) (hr : Room k X.A) (he : PE X e te) : PI X tg e (iOwn X.K C F te) := by
  refine ⟨fun pins s σ H R I h => thn (he.run pins s σ H _ I h) fun v s1 ⟨x, H1, I1, r1, a, dx, fs, t, zs, ex, ha, hl, hz, q⟩ => ?_⟩
  subst ex
  obtain rfl : v = Value.ref a := r1
  refine wpAny_mono (own_it D FI ⟨hr, rfl⟩ I1 ha hl hz) (fun u s2 ⟨it, eu, now⟩ => ?_) fun _ _ z => z
  refine ⟨it, [it], _, _, H1, eu, DL.Inv.let now.I now.n, turn_tuple t it, now.at, fun b hb => ?_, q⟩
  obtain rfl : b = it := by simpa using hb
  exact now.fp
def siOwn (C : Addr) (F : Str) (te : VE) : VI := fun ρ Ψ Ξ => te ρ (fun r => r.good ∧ match r.d with
  | .obj C' gs => C' = C ∧ match gs.lookup F with
    | some (.tup _ ds) => Ψ ds
    | _ => False
  | _ => False) Ξ
theorem di_own {tg e : Expr} {te : VE} (D : Dun X.K C f "__iter__") (FI : FnIt X.prog X.w X.K X.mg X.base k f fd C F) (hr : Room k X.A) (he : DE X W e te) : DI X W tg e (siOwn C F te) := piI (pi_own D FI hr he) fun σ H R ⟨Φ, B, ρ, Ψ, Ξ, l, x, q, kk⟩ => by
  refine runE (t := te) l x q fun v B1 H1 r g d ⟨hg, q1⟩ => ?_
  obtain ⟨B2, g2, _, d2⟩ := d.settle g hg
  split at q1
  · rename_i C' gs er
    obtain ⟨ec, q1⟩ := q1
    subst ec
    split at q1
    · rename_i y ds el
      rw [er] at d2
      cases d2 with
      | obj h tf =>
        obtain ⟨u, hu, du⟩ := tf.get el
        cases du with
        | tup ht hb td => exact ⟨_, _, _, _, _, rfl, g2.s _ _ h, hu, Same.seqT g2.s ht, kk (Itt X.K _) B2 H1 ds g2 (itok_tup ht td) q1⟩
    · exact q1.elim
  · exact q1.elim

/-! ### list(o) -/
theorem updDel {H : Hp} {d : Addr} {o : HO} (h : H d = some o) : upd (L2.del H d) d o = H := by
  funext b
  by_cases hb : b = d
  · rw [hb, upd_same, h]
  · rw [upd_ne hb, L2.del_ne hb]
/-- how long it is -/
theorem own_hintL {Q : Bool → Shared → Prop} {Ex : Value → Shared → Prop} {R : Hp → Prop} (D : Dun X.K C f "__len__") (Fn : FnD X.prog X.w X.K X.mg X.base k f fd ps S) (sb : Sub X (k + 1) A1) (hb : Binds X.K fd ps []) (I : Inv X pins σ H s) (ha : H a = some (.ins C dx fs)) (hz : zs.length ≤ sizeLine)
    (q : spOf X.K S [.ref a] H (fun v H' => v = .int zs.length ∧ R H') E0') (hQ : ∀ b s' H', Inv X pins σ H' s' → R H' → Q b s') : wpAny (model X.prog X.w) A1 (Builtin.List.listLengthHint (.ref a)) Q Ex s := by
  obtain ⟨od, J⟩ := ins_inst I ha
  obtain ⟨m, hF⟩ := I.fr
  unfold Builtin.List.listLengthHint
  refine wpAny_bind (wpAny_bind (J.type.here ((PySem.W.looks_findIn I.kIn D.hs).here ?_)))
  refine PySem.W.KFB.if_not rfl ?_
  show wpAny _ _ (if true = true then _ else _) _ _ _
  rw [if_pos rfl]
  refine wpAny_bind (wpAny_rule (wpAny_bind (wpAny_attempt (PySem.W.len_K hF I.ok.mod.kin J D.hs D.hf (wpAny_mono (run_sub0 Fn (Sub.in1 sb) hb I (.cons rr .nil) q) (fun r s' z => ?_) fun _ _ w => w)))))
  obtain ⟨v', H', I', r', ev, q'⟩ := z
  subst ev
  obtain ⟨t, rfl⟩ := r'
  have l63 := line63
  refine ⟨⟨by omega, by omega⟩, ?_⟩
  refine wpAny_bind (wpAny_pure ?_)
  show wpAny _ _ (if Builtin.List.listTooLong ((zs.length : Int)).toNat = true then _ else _) _ _ _
  rw [notLongL (by rw [Int.toNat_natCast]; exact hz), if_neg Bool.false_ne_true]
  exact wpAny_pure (hQ _ _ H' (I'.tok _) q')
/-- the list at q is filled -/
theorem own_fill {Rs : Result → Shared → Prop} {q it : Addr} (hh : A1.in1.handled = Option.none) (ne : q ≠ it) (hq : H q = Option.none) (hz : SqT X.K H t zs) (fp : FpOk X pins H it) (fq : it ≠ q)
    (hdone : ∀ s', Inv X pins σ (upd H q (.lst zs)) s' → Rs (.ok (.ret .none)) s') :
    ∀ (m i : Nat) (s : Shared), i + m = zs.length → Inv X pins σ (upd H q (.lst (zs.take i))) s → s.heap.IsTupleIter it t i → codeAny (model X.prog X.w) A1 (.builtin "list.extend.loop" ⟨[.ref q, .ref it, .none], []⟩) Rs s := by
  have fp2 : ∀ ys, FpOk X pins (upd H q (.lst ys)) it := fun ys => ⟨by rw [upd_ne fq]; exact fp.1, fp.2⟩
  have hz2 : ∀ ys, SqT X.K (upd H q (.lst ys)) t zs := fun ys => Same.seqT (fun b o e => by rw [upd_ne (ne_of_none e hq)]; exact e) hz
  intro m
  induction m with
  | zero =>
    intro i s hi I st
    refine codeAny_builtin PySem.F.entry_extend_loop ?_
    rw [Around.under_plainId PySem.F.plain_extend_loop _]
    show wpAny _ A1.in1 (pyNext (.ref it) >>= _) _ _ s
    obtain ⟨its, rv, p, hl⟩ := I.tuple (hz2 _)
    have e0 : i = zs.length := by omega
    have hn := rv.length
    obtain ⟨f0, f1, f2, f3, f4, f5⟩ := fp2 (zs.take i)
    refine wpAny_bind (wpAny_pyNext_tuple_end hh st (show s.heap.IsTuple t its.toArray from p) (by simp; omega) fun h' eb => ?_)
    have J := I.turned (t' := s.toks) (fun b o hb e => eb b o hb e) f0 f1 f3 f4 f5
    rw [e0, List.take_length] at J
    exact wpAny_pure (hdone _ J)
  | succ m ih =>
    intro i s hi I st
    refine codeAny_builtin PySem.F.entry_extend_loop ?_
    rw [Around.under_plainId PySem.F.plain_extend_loop _]
    show wpAny _ A1.in1 (pyNext (.ref it) >>= _) _ _ s
    obtain ⟨its, rv, p, hl⟩ := I.tuple (hz2 _)
    have hlt : i < zs.length := by omega
    obtain ⟨u, hu, ru⟩ := rv.get (List.getElem?_eq_getElem hlt)
    obtain ⟨f0, f1, f2, f3, f4, f5⟩ := fp2 (zs.take i)
    refine wpAny_bind (wpAny_pyNext_tuple_item st (show s.heap.IsTuple t its.toArray from p) (x := u) (by simpa using hu) fun h' st' sb => ?_)
    have J : Inv X pins σ (upd H q (.lst (zs.take i))) { s with heap := h' } := I.turned (t' := s.toks) (fun b o hb e => (sb.2 b hb).trans e) f0 f1 f3 f4 f5
    show wpAny _ A1.in1 (updateSeq q (·.push u) >>= _) _ _ _
    obtain ⟨z, its2, k2, r2, hl2, e2⟩ := J.lstM upd_same
    have hlen : (zs.take i).length = i := by rw [List.length_take]; omega
    refine wpAny_bind (wpAny_updateSeq e2 rfl (wpAny_pure ⟨plainId_quiet PySem.F.plain_extend_loop _, ?_⟩) (by rw [List.size_toArray]; omega) (by show (its2.toArray.push u).size ≤ sizeLine + 1; rw [Array.size_push, List.size_toArray]; omega))
    have J2 := J.lset (f := (·.push u)) (its' := its2 ++ [u]) (ys := zs.take i ++ [zs[i]]) (t' := s.toks) upd_same e2 (by simp) (r2.append (.cons ru .nil)) (by rw [List.length_append, List.length_singleton, hlen]; omega)
    rw [upd_upd, ← List.take_succ_eq_append_getElem hlt] at J2
    refine ih (i + 1) _ (by omega) J2 (st'.at fun o e => ?_)
    exact (Heap.get?_update_other _ _ ne).trans e
def rListO (K : PySem.W.Frag) (C : Addr) (F : Str) (S : SpD) : List V → Hp → VK → Prop := fun xs H Q => ∃ (a dx t : Addr) (fs : List (Str × V)) (zs : List V), xs = [.ref a] ∧ H a = some (.ins C dx fs) ∧ fs.lookup F = some (.ref t) ∧ SqT K H t zs ∧
  ∀ q it, H q = Option.none → H it = Option.none → q ≠ it → spOf K S [.ref a] (upd (upd H q (.lst [])) it (ItT t it)) (fun v H' => v = .int zs.length ∧ H' q = some (.lst []) ∧ H' it = some (ItT t it) ∧ SqT K H' t zs ∧ Q (.ref q) (upd (L2.del H' it) q (.lst zs))) E0'
theorem call_listO (D : Dun X.K C f "__iter__") (FI : FnIt X.prog X.w X.K X.mg X.base k f fd C F) (Dl : Dun X.K C fl "__len__") (Fn : FnD X.prog X.w X.K X.mg X.base k fl fdl ps S) (hb : Binds X.K fdl ps []) (hr : Room (k + 4) X.A) : CallR X (.type "list") (rListO X.K C F S) := by
  intro pins s σ H xs us Q I rv ⟨a, dx, t, fs, zs, ex, ha, hl, hz, hq⟩
  subst ex
  obtain rfl := Vals.ref1 rv
  have sb2 : Sub X (k + 2) X.A.in1.in1 := Sub.in1 (Sub.in1 ⟨hr, rfl⟩)
  refine callType_codes (Q₁ := fun obj s1 => obj = .ref s.heap.objs.size ∧ s1 = { s with heap := s.heap.push { cls := .type "list", data := .seq #[] } }) PySem.F.called_list (PySem.F.typeCall_list_1 _) PySem.F.entry_list_init (code_list_new _ ⟨rfl, rfl⟩) fun obj s1 h1 => ?_
  obtain ⟨rfl, rfl⟩ := h1
  have hS : (s.heap.push { cls := .type "list", data := .seq #[] }).get? s.heap.objs.size = some { cls := .type "list", data := .seq #[] } := Heap.get?_push_size _ rfl
  have fr : H s.heap.objs.size = Option.none := I.hok.fresh (Nat.le_refl _)
  have I1 : Inv X pins σ (upd H s.heap.objs.size (.lst [])) { s with heap := s.heap.push { cls := .type "list", data := .seq #[] } } := I.lnew (its := []) (t' := s.toks) .nil (Nat.zero_le _)
  refine ⟨⟨_, hS, rfl⟩, PySem.F.args_list_init_2 _ _, ?_⟩
  generalize s.heap.objs.size = q at *
  show wpAny _ _ (do let old ← Builtin.List.listItems (.ref q); Builtin.List.listUpdate (.ref q) (fun _ => #[]); letGo old.toList.reverse; Builtin.List.listExtendWith (.ref q) (.ref a) .none) _ _ _
  refine wpAny_bind ?_
  unfold Builtin.List.listItems
  refine wpAny_bind (wpAny_seqItems hS rfl (wpAny_pure ?_))
  show wpAny _ _ (updateSeq q (fun _ => #[]) >>= fun _ => letGo (#[] : Array Value).toList.reverse >>= fun _ => Builtin.List.listExtendWith (.ref q) (.ref a) .none) _ _ _
  refine wpAny_bind (wpAny_updateSeq hS rfl ?_)
  have I2 := I1.lset (f := fun _ => #[]) (its := []) (its' := []) (ys := []) (t' := s.toks) upd_same hS rfl .nil (Nat.zero_le _)
  rw [upd_upd] at I2
  refine wpAny_bind (wpAny_letGo ?_)
  have naq : a ≠ q := ne_of_none ha fr
  have ha2 : upd H q (.lst []) a = some (.ins C dx fs) := by rw [upd_ne naq]; exact ha
  have hz2 : SqT X.K (upd H q (.lst [])) t zs := Same.seqT (fun b o e => by rw [upd_ne (ne_of_none e fr)]; exact e) hz
  obtain ⟨od, J⟩ := ins_inst I2 ha2
  unfold Builtin.List.listExtendWith
  refine wpAny_bind (J.type.here ?_)
  have c1 : Builtin.List.listSameRef (.ref q) (.ref a) = false := by simp [Builtin.List.listSameRef, Ne.symm naq]
  have c2 : (Value.ref C == Value.type "list") = false := rfl
  have c3 : (Value.ref C == Value.type "tuple") = false := rfl
  simp only [c1, c2, c3, Bool.or_false, Bool.false_eq_true, if_false]
  refine wpAny_bind (wpAny_mono (own_it (zs := zs) D FI (sb2.mono (by omega)) I2 ha2 hl hz2) (fun u s3 hu => ?_) fun _ _ z => z)
  obtain ⟨it, rfl, now⟩ := hu
  have nq : q ≠ it := fun z => by
    have e := now.n
    rw [← z, upd_same] at e
    cases e
  have hit : H it = Option.none := by have e := now.n; rw [upd_ne (Ne.symm nq)] at e; exact e
  have ha3 : upd (upd H q (.lst [])) it (ItT t it) a = some (.ins C dx fs) := by rw [upd_ne (ne_of_none ha2 now.n)]; exact ha2
  have hzl : zs.length ≤ sizeLine := by
    obtain ⟨its, r0, p0, hl0⟩ := I.tuple hz
    exact hl0
  refine wpAny_bind (wpAny_holding (own_hintL Dl Fn (sb2.mono (by omega)) hb now.I ha3 hzl (hq q it fr hit nq) fun b s4 H' I4 ⟨e1, e2, e3, e4⟩ => ?_))
  -- the iterator is let go
  have I5 : Inv X pins σ (L2.del H' it) s4 := DL.Inv.let (P := fun h => h.IsTupleIter it t 0) (by have e := updDel e2; unfold ItT at e; rw [e]; exact I4) L2.del_same
  have st : s4.heap.IsTupleIter it t 0 := (I4.hok it _ e2).1
  have eq5 : upd (L2.del H' it) q (.lst []) = L2.del H' it := by
    funext b
    by_cases hb : b = q
    · rw [hb, upd_same, L2.del_ne nq, e1]
    · rw [upd_ne hb]
  have hz5 : SqT X.K (L2.del (L2.del H' it) q) t zs := by
    have ext : ∀ {o}, H' t = some o → (∀ P, o ≠ .ext P) → (∀ ys, o ≠ .lst ys) → L2.del (L2.del H' it) q t = some o := fun {o} e n1 n2 => by
      have h1 : t ≠ it := fun z => by rw [z, e2] at e; cases e; exact n1 _ rfl
      have h2 : t ≠ q := fun z => by rw [z, e1] at e; cases e; exact n2 _ rfl
      rw [L2.del_ne h2, L2.del_ne h1]; exact e
    rcases e3 with (e3 | ⟨o, e3⟩) | e3
    · exact .inl (.inl (ext e3 (fun _ z => by cases z) (fun _ z => by cases z)))
    · exact .inl (.inr ⟨o, ext e3 (fun _ z => by cases z) (fun _ z => by cases z)⟩)
    · exact .inr e3
  have updq : ∀ ys, upd (L2.del (L2.del H' it) q) q (.lst ys) = upd (L2.del H' it) q (.lst ys) := fun ys => by
    funext b
    by_cases hb : b = q
    · rw [hb, upd_same, upd_same]
    · rw [upd_ne hb, upd_ne hb, L2.del_ne hb]
  have fp5 : FpOk X pins (L2.del (L2.del H' it) q) it := ⟨by rw [L2.del_ne (Ne.symm nq)]; exact L2.del_same, now.fp.2⟩
  have loop : ∀ s5, Inv X pins σ (upd (L2.del (L2.del H' it) q) q (.lst (zs.take 0))) s5 → s5.heap.IsTupleIter it t 0 → codeAny (model X.prog X.w) X.A.in1 (.builtin "list.extend.loop" ⟨[.ref q, .ref it, .none], []⟩) (wants (fun r s₂ => r = .none ∧ EP X pins σ Q (.ref q) s₂) X.xe) s5 := fun s5 I6 st6 =>
    own_fill (A1 := X.A.in1) sb2.room.hd nq L2.del_same hz5 fp5 (Ne.symm nq) (fun s' I' => ⟨rfl, .ref q, _, I', rr, by rw [updq]; exact e4⟩) zs.length 0 s5 (by omega) I6 st6
  have I5' : Inv X pins σ (upd (L2.del (L2.del H' it) q) q (.lst (zs.take 0))) s4 := by rw [updq, List.take_zero, eq5]; exact I5
  refine wpAny_ite_split (fun _ => ?_) (fun _ => wpAny_pure ⟨plainId_quiet PySem.F.plain_extend_loop _, loop s4 I5' st⟩)
  refine wpAny_bind (wpAny_rule ?_)
  refine wpAny_bind ?_
  show wpAny _ _ (updateSeq q (·.push .none) >>= fun _ => updateSeq q (·.pop)) _ _ _
  obtain ⟨_, its7, k7, r7, _, e7⟩ := I5'.lstM upd_same
  rw [List.take_zero] at r7
  cases r7
  refine wpAny_bind (wpAny_updateSeq e7 rfl ?_)
  have I8 := I5'.lset (f := (·.push Value.none)) (its' := [Value.none]) (ys := [.non]) (t' := s4.toks) upd_same e7 (by simp) (.cons rfl .nil) (by rw [List.length_singleton, sizeLine_eq]; decide)
  obtain ⟨_, its9, k9, r9, _, e9⟩ := I8.lstM upd_same
  obtain ⟨u9, rfl, _⟩ := r9.one
  refine wpAny_updateSeq e9 rfl ?_ (by show 1 ≤ sizeLine; rw [sizeLine_eq]; decide) (by show 0 ≤ sizeLine + 1; exact Nat.zero_le _)
  have I9 := I8.lset (f := (·.pop)) (its := [u9]) (its' := []) (ys := []) (t' := s4.toks) upd_same e9 (by rfl) .nil (Nat.zero_le _)
  rw [upd_upd, upd_upd] at I9
  exact wpAny_pure ⟨plainId_quiet PySem.F.plain_extend_loop _, loop _ (by rw [List.take_zero]; exact I9) ((st.at fun o e => (Heap.get?_update_other _ _ nq).trans e).at fun o e => (Heap.get?_update_other _ _ nq).trans e)⟩
end
end DL
/-! DL, eleventh part: list(o); methods that only read; slices from the end. -/
namespace DL
open PySem L2 PySem.Spec
open PyProof.Rows (envOfC AllBare IsTup)

/-! ### list(o), o an object with its own __iter__ -/
def vListO (C : Addr) (F : Str) (S : SpD) (ta : VA) : VE := fun ρ Ψ Ξ => ta ρ (fun rs => match rs with
  | [r1] => r1.good ∧ match r1.d with
    | .obj C' gs => C' = C ∧ match gs.lookup F with
      | some (.tup _ ds) => S [r1.d] (fun r => r = .sh (.int ds.length)) (fun _ => False) ∧ Ψ (.fr ds)
      | _ => False
    | _ => False
  | _ => False) Ξ
section
variable {X : Cx} {W : WC} {k : Nat} {f fl C : Addr} {fd fdl : FuncData} {ps : List Str} {S : SpD} {F : Str} {x : Str} {p pos : Pos} {e : Expr} {es : List Expr} {ta : VA}
theorem de_listO (D : Dun X.K C f "__iter__") (FI : FnIt X.prog X.w X.K X.mg X.base k f fd C F) (Dl : Dun X.K C fl "__len__") (Fn : FnD X.prog X.w X.K X.mg X.base k fl fdl ps S) (hb : Binds X.K fdl ps []) (hr : Room (k + 4) X.A) (hg : Gl X x) (hm : X.mg x = Option.none) (hv : bootBuiltins x = some (.type "list")) (ha : DA X W (e :: es) ta)
    (hn : x ≠ "__name__" := by decide) (hdb : (x == ("__debug__" : Str)) = false := by decide) (he : starEach (e :: es) X.env = (false, eval e X.env) :: starEach es X.env := by rfl) (hpl : (backTo pos (starEach es X.env)).any (·.1) = false := by rfl) :
    DE X W (.Call (.Name x p) (e :: es) [] pos) (vListO C F S ta) := peI (pe_callTy (call_listO D FI Dl Fn hb hr) hg hm hv ha hn hdb he hpl) fun σ H Q ⟨Φ, B, ρ, Ψ, Ξ, l, xo, t, k⟩ => by
  refine runA (t := ta) l xo t fun vs B1 H1 rs g dr q => ?_
  split at q
  · rename_i r1
    obtain ⟨hg1, q⟩ := q
    match vs, dr with
    | [v], ⟨⟨h1, _⟩, _⟩ =>
      have v1 := h1 hg1
      split at q
      · rename_i C' gs er
        obtain ⟨ec, q⟩ := q
        subst ec
        split at q
        · rename_i y ds el
          obtain ⟨q1, q2⟩ := q
          rw [er] at v1
          cases v1 with
          | @obj a _ dx fvs _ h tf =>
            obtain ⟨u, hu, du⟩ := tf.get el
            cases du with
            | @tup t zs _ _ ht hb' td =>
              refine ⟨a, dx, t, fvs, zs, rfl, g.s _ _ h, hu, Same.seqT g.s ht, fun qq it hq hit ne => ?_⟩
              have hB := g.s.free hq
              have hBi := g.s.free hit
              have g1 := Gr.new (o := .lst []) g.s hq
              have hit1 : upd H1 qq (.lst []) it = Option.none := by rw [upd_ne (Ne.symm ne)]; exact hit
              have g2 := g1.trans (Gr.new (o := ItT t it) g1.s hit1)
              refine ⟨B1, [.obj C' gs], (fun r => r = .sh (.int ds.length)), (fun _ => False), g2.s, .cons (.obj h tf) .nil, by rw [er] at q1; exact q1, fun Φ' r z B' H' er' hg' g' d => ?_, fun _ _ _ _ _ z => z.elim⟩
              subst er'
              cases (show Den X.K B' z (.int ds.length) from d)
              have g3 := g2.trans g'
              have e1 : H' qq = some (.lst []) := g'.h _ _ (by rw [upd_ne ne, upd_same])
              have e2 : H' it = some (ItT t it) := g'.h _ _ upd_same
              have b1 : B' qq = Option.none := (g'.n qq (by rw [upd_ne ne, upd_same]; intro z; cases z)).trans hB
              have b2 : B' it = Option.none := (g'.n it (by rw [upd_same]; intro z; cases z)).trans hBi
              have hlen : (zs.length : Int) = (ds.length : Int) := by rw [td.len]
              refine ⟨by rw [hlen], e1, e2, Same.seqT (g'.b.trans g'.s) ht, ?_⟩
              have gF : Gr B1 H1 B' (upd (L2.del H' it) qq (.lst zs)) := ⟨g'.b, fun b o eb => ?_, fun b o eb => ?_, fun b hb => ?_⟩
              · exact k _ B' _ (.fr ds) (g.trans gF) ⟨qq, zs, rfl, g.h.free hq, upd_same, b1, td.mono g'.b⟩ q2
              · rw [upd_ne (ne_of_none eb b1), L2.del_ne (ne_of_none eb b2)]; exact g'.s _ _ eb
              · have n1 := ne_of_none eb hq
                have n2 := ne_of_none eb hit
                rw [upd_ne n1, L2.del_ne n2]; exact g3.h _ _ eb
              · exact g3.n b hb
        · exact q.elim
      · exact q.elim
  · exact q.elim
end

/-! ### methods that only read -/
section
variable {K : PySem.W.Frag}
def mStripC : OM := fun d ds Ψ => match d, ds with
  | .str a, [.str b] => a.length ≤ sizeLine ∧ Ψ (.sh (.str (Txt.stripChars a b)))
  | _, _ => False
theorem mA_stripC : MethA K "str" (fun x xs H Q => ∃ a b, x = .str a ∧ xs = [.str b] ∧ a.length ≤ sizeLine ∧ Q (.str (Txt.stripChars a b)) H) mStripC := by
  intro Φ B H v vs d ds Ψ Q s w wl q k
  unfold mStripC at q
  split at q
  · obtain ⟨u, rfl, w1⟩ := vw1 wl
    exact ⟨_, _, w.str, by rw [w1.str], q.1, k _ B H (.sh (.str _)) (Gr.refl s) (.str _) q.2⟩
  · exact q.elim
/-- s.index(t), found at i -/
def mSIndex : OM := fun d ds Ψ => match d, ds with
  | .str a, [.str b] => ∃ i rest, Builtin.Str.occurrences a b 0 a.length 1 = i :: rest ∧ Ψ (.sh (.int (i : Nat)))
  | _, _ => False
theorem mA_sindex : MethA K "str" (fun x xs H Q => ∃ a b i rest, x = .str a ∧ xs = [.str b] ∧ Builtin.Str.occurrences a b 0 a.length 1 = i :: rest ∧ Q (.int (i : Nat)) H) mSIndex := by
  intro Φ B H v vs d ds Ψ Q s w wl q k
  unfold mSIndex at q
  split at q
  · obtain ⟨u, rfl, w1⟩ := vw1 wl
    obtain ⟨i, rest, e, q⟩ := q
    exact ⟨_, _, i, rest, w.str, by rw [w1.str], e, k _ B H (.sh (.int _)) (Gr.refl s) (.int _) q⟩
  · exact q.elim
/-- the first place of d among ds -/
def atFirst (d : DV) (ds : List DV) (j : Nat) : Prop := (∃ z, ds[j]? = some z ∧ eqFD z d = true) ∧ ∀ m z, m < j → ds[m]? = some z → eqFD z d = false
def mLIndex : OM := fun d ds Ψ => match d, ds with
  | .lst xs, [y] => flatD y = true ∧ xs.all flatD = true ∧ ∃ j, atFirst y xs j ∧ Ψ (.sh (.int (j : Nat)))
  | _, _ => False
theorem mA_lindex : MethA K "list" (rIndex K) mLIndex := by
  intro Φ B H v vs d ds Ψ Q s w wl q k
  unfold mLIndex at q
  split at q
  · rename_i xs y
    obtain ⟨u, rfl, w1⟩ := vw1 wl
    obtain ⟨fy, fx, j, ⟨⟨z, hz, ez⟩, hno⟩, q⟩ := q
    obtain ⟨p, us, rfl, e, t⟩ := w.lst
    have dy := flatVw w1 fy
    obtain ⟨uz, h1, h2⟩ := t.get hz
    have fAt : ∀ {m z}, xs[m]? = some z → flatD z = true := fun h => List.all_eq_true.mp fx _ (List.mem_of_getElem? h)
    refine ⟨p, us, u, j, uz, rfl, rfl, SqL.of e, flat_ok dy fy, flats_ok t fx, h1, by rw [eqF_ok h2 dy (fAt hz) fy]; exact ez, fun m z' hm hz' => ?_, k _ B H (.sh (.int _)) (Gr.refl s) (.int _) q⟩
    obtain ⟨z2, h3, h4⟩ := t.getV hz'
    rw [eqF_ok h4 dy (fAt h3) fy]
    exact hno m z2 hm h3
  · exact q.elim
end
/-! ### t.index(x), t a tuple of texts -/
section
variable {X : Cx} {W : WC} {e o : Expr} {es : List Expr} {ta : VA} {to : VE} {cpos apos : Pos}
def tyT (K : PySem.W.Frag) (x : V) (H : Hp) : Prop := ∃ p, x = .ref p ∧ Bare K H p
theorem tyT_is {pins : List (Addr × Obj)} {σ : L2.St} {H : Hp} {s : Shared} {x : V} {v : Value} (I : Inv X pins σ H s) (r : RelV x v) (h : tyT X.K x H) : s.TypeIs v "tuple" ∧ ∀ a, v = .ref a → ∃ ob, s.heap.get? a = some ob ∧ ob.dict = Option.none := by
  obtain ⟨p, rfl, h⟩ := h
  obtain rfl : v = Value.ref p := r
  have at' : ∃ ob, s.heap.get? p = some ob ∧ ob.dict = Option.none ∧ ob.cls = .type "tuple" := by
    rcases h with ⟨o, u, h1, h2, h3⟩ | ⟨o, h1, h2, h3⟩
    · have x : ObjOk X.prog X.w H s.heap p (.frz o (.tup u)) := I.hok p _ h1
      exact ⟨o, x.1, h2, h3⟩
    · exact ⟨o, I.kIn _ _ h1, h2, h3⟩
  obtain ⟨ob, h1, h2, h3⟩ := at'
  exact ⟨⟨ob, h1, h3⟩, fun a ea => by cases ea; exact ⟨ob, h1, h2⟩⟩
def tBMT (K : PySem.W.Frag) (r : V → List V → Hp → VK → Prop) (to : TE) (t : TA) : TE := fun σ H Q => to σ H fun x H1 => tyT K x H1 ∧ t σ H1 fun vs H2 => r x vs H2 Q
theorem pe_bmT {name : Str} {id : String} {r : V → List V → Hp → VK → Prop} {to : TE} {t : TA} (pa : PlainAttrs "tuple") (slot : Slot "tuple" name id) (hty : typeOf (.builtin id) = pure (.type "method_descriptor")) (hm : MtR X id r) (ho : PE X o to) (ha : PA X (e :: es) t)
    (hbase : attributeBase o name X.env (eval o X.env) = eval o X.env := by rfl) (hfew : ((backTo cpos (starEach (e :: es) X.env)).all (fun x => !x.1) && (backToKw cpos (keywordEach [] X.env)).all (fun x => x.1.isSome) && decide ((e :: es).length + ([] : List Keyword).length + (if ([] : List Keyword).isEmpty then 0 else 1) < 30)) = true := by rfl)
    (hline : (apos.endLine == cpos.line) = true := by rfl) (hs : starEach (e :: es) X.env = (false, eval e X.env) :: starEach es X.env := by rfl) (hplain : (backTo cpos (starEach es X.env)).any (·.1) = false := by rfl) : PE X (.Call (.Attribute o name apos) (e :: es) [] cpos) (tBMT X.K r to t) := by
  refine ⟨fun pins s σ H Q I h => wpAny_Call_method_late hbase hfew hline rfl (thn (ho.run pins s σ H _ I h) fun v s1 ⟨x, H1, I1, r1, ty, q1⟩ => ?_)⟩
  obtain ⟨h1, h2⟩ := tyT_is I1 r1 ty
  have hA := ha.run cpos pins s1 σ H1 _ I1 q1
  rw [hs] at hA
  refine ⟨"tuple", id, pa, slot, hty, h1, h2, ?_⟩
  rw [hs]
  exact Calls.callWith_builtin (by show (false || (backTo cpos (starEach es X.env)).any (·.1)) = false; rw [hplain] <;> rfl) (Calls.evalArgs_plain (thn hA fun us s2 ⟨vs, H2, I2, r2, q2⟩ => hm pins s2 σ H2 x vs v us Q I2 r1 r2 q2))
def vTIndex (to : VE) (ta : VA) : VE := fun ρ Ψ Ξ => to ρ (fun r => r.val ∧ match r.d with
  | .tup true ds => ta ρ (fun rs => vals rs ∧ match rs.map R.d with
    | [.str z] => ∃ (ys : List Str) (j : Nat), asStrs ds = some ys ∧ ys[j]? = some z ∧ (∀ m, m < j → ys[m]? ≠ some z) ∧ Ψ (.sh (.int (j : Nat)))
    | _ => False) Ξ
  | _ => False) Ξ
theorem de_tindex (ho : DE X W o to) (ha : DA X W (e :: es) ta) (pa : PlainAttrs "tuple") (slot : Slot "tuple" "index" "tuple.index") (hty : typeOf (.builtin "tuple.index") = pure (.type "method_descriptor")) (hbase : attributeBase o "index" X.env (eval o X.env) = eval o X.env := by rfl)
    (hfew : ((backTo cpos (starEach (e :: es) X.env)).all (fun x => !x.1) && (backToKw cpos (keywordEach [] X.env)).all (fun x => x.1.isSome) && decide ((e :: es).length + ([] : List Keyword).length + (if ([] : List Keyword).isEmpty then 0 else 1) < 30)) = true := by rfl)
    (hline : (apos.endLine == cpos.line) = true := by rfl) (hs : starEach (e :: es) X.env = (false, eval e X.env) :: starEach es X.env := by rfl) (hplain : (backTo cpos (starEach es X.env)).any (·.1) = false := by rfl) : DE X W (.Call (.Attribute o "index" apos) (e :: es) [] cpos) (vTIndex to ta) :=
  peI (pe_bmT pa slot hty mt_tup_index ho ha hbase hfew hline hs hplain) fun σ H Q ⟨Φ, B, ρ, Ψ, Ξ, l, x, t, k⟩ => by
    refine runR l x t fun v B1 H1 r1 g1 w1 _ q => ?_
    split at q
    · rename_i ds er
      rw [er] at w1
      obtain ⟨p, xs, rfl, hb, hh, td, bare⟩ := w1.tup g1.s
      refine ⟨⟨p, rfl, (bare rfl).mono g1.s⟩, runA (l.grow g1) (x.grow g1) q fun vs B2 H2 rs g2 dr ⟨hv, q⟩ => ?_⟩
      have wl := dr.vw g2.s hv
      split at q
      · rename_i z em
        rw [em] at wl
        obtain ⟨u, rfl, wu⟩ := vw1 wl
        obtain ⟨ys, j, ea, hj, hno, q⟩ := q
        refine ⟨p, ys, z, j, rfl, by rw [wu.str], ?_, hj, hno, k _ B2 H2 (.sh (.int _)) (g1.trans g2) (.int _) q⟩
        rw [← asStrs_ok td ea]
        exact Same.seqT (g2.b.trans g2.s) hb
      · exact q.elim
    · exact q.elim
/-! ### xs[::-1] -/
def vRevL (te : VE) : VE := fun ρ Ψ Ξ => te ρ (fun r => r.val ∧ match r.d with
  | .lst ds => Ψ (.fr ds.reverse)
  | _ => False) Ξ
theorem de_revL {te : VE} {kk : Nat} {p1 p2 p3 pos : Pos} (he : DE X W e te) : DE X W (.Subscript e (.Slice Option.none Option.none (some (.UnaryOp .USub (.Constant (.int 1) kk p1) p2)) p3) pos) (vRevL te) := peI (pe_revL he) fun σ H Q ⟨Φ, B, ρ, Ψ, Ξ, l, x, t, k⟩ => by
  refine runR l x t fun v B1 H1 r1 g1 w1 _ q => ?_
  split at q
  · rename_i ds er
    rw [er] at w1
    obtain ⟨p, us, rfl, e, t⟩ := w1.lst
    exact ⟨p, us, rfl, SqL.of e, fr_new g1.s t.rev q fun z B' H' r g d => k z B' H' r (g1.trans g) (d.back g1.h)⟩
  · exact q.elim
end

/-! ### t[:0:-1]: all but the first, from the last on -/
theorem fm_map {α β : Type} {f : α → Option β} {g : α → β} : ∀ {l : List α}, (∀ m, m ∈ l → f m = some (g m)) → l.filterMap f = l.map g
  | [], _ => rfl
  | a :: l, h => by rw [List.filterMap_cons, h a List.mem_cons_self, List.map_cons, fm_map fun m hm => h m (List.mem_cons_of_mem _ hm)]
theorem pick_back (xs : List Value) : ((List.range (xs.length - 1)).filterMap fun (m : Nat) => xs.toArray[(((xs.length : Int) - 1) + (m : Int) * (-1)).toNat]?) = (xs.drop 1).reverse := by
  refine List.ext_getElem? fun i => ?_
  have e1 : ∀ m, m < xs.length - 1 → xs.toArray[(((xs.length : Int) - 1) + (m : Int) * (-1)).toNat]? = xs[xs.length - 1 - m]? := fun m hm => by
    have : (((xs.length : Int) - 1) + (m : Int) * (-1)).toNat = xs.length - 1 - m := by omega
    rw [this, List.getElem?_toArray]
  have e2 : ((List.range (xs.length - 1)).filterMap fun (m : Nat) => xs.toArray[(((xs.length : Int) - 1) + (m : Int) * (-1)).toNat]?) = (List.range (xs.length - 1)).map fun m => (xs[xs.length - 1 - m]?).getD .none := by
    refine fm_map fun m hm => ?_
    have hm' := List.mem_range.mp hm
    rw [e1 m hm']
    have hl : xs.length - 1 - m < xs.length := by omega
    rw [List.getElem?_eq_getElem hl]
    rfl
  rw [e2, List.getElem?_map]
  by_cases hi : i < xs.length - 1
  · rw [List.getElem?_range hi, List.getElem?_reverse (by rw [List.length_drop]; exact hi), List.getElem?_drop, List.length_drop]
    have hl : xs.length - 1 - i < xs.length := by omega
    have e3 : 1 + (xs.length - 1 - 1 - i) = xs.length - 1 - i := by omega
    rw [e3, List.getElem?_eq_getElem hl]
    show some ((xs[xs.length - 1 - i]?).getD .none) = _
    rw [List.getElem?_eq_getElem hl]
    rfl
  · rw [List.getElem?_eq_none (by rw [List.length_range]; omega), List.getElem?_eq_none (by rw [List.length_reverse, List.length_drop]; omega)]
    rfl
section
variable {prog : Program} {w : World} {A : Around} {E : Value → Shared → Prop} {s : Shared}
theorem applied_back {sl : Addr} {vu vs : Value} {n : Nat} {Q : Int × Int × Nat → Shared → Prop} (hs : s.heap.IsSliceOf sl .none vu vs) (pu : IsPart vu (some 0)) (ps : IsPart vs (some (-1))) (h : Q ((n : Int) - 1, -1, n - 1) s) : wpAny (model prog w) A (Builtin.Slice.sliceApplied (.ref sl) (pure (n : Int))) Q E s := by
  obtain ⟨os, hos, hcs, hds⟩ := id hs
  unfold Builtin.Slice.sliceApplied Builtin.Slice.sliceFields
  refine wpAny_bind (wpAny_bind (wpAny_field hos hds (x := .none) rfl (wpAny_bind (wpAny_field hos hds (x := vu) rfl (wpAny_bind (wpAny_field hos hds (x := vs) rfl (wpAny_pure ?_)))))))
  refine wpAny_bind (HT.slicePart_ ps ?_)
  show wpAny _ _ (if ((-1 : Int) == 0) = true then _ else _) _ _ s
  rw [if_neg (by decide)]
  refine wpAny_bind (HT.slicePart_ .none (wpAny_bind (HT.slicePart_ pu (wpAny_bind (wpAny_pure ?_)))))
  show wpAny _ _ (match Builtin.Slice.sliceAdjust Option.none (some 0) (-1) (n : Int) with | (lo, hi) => pure (lo, (-1 : Int), Builtin.Slice.slicePlaces lo hi (-1))) _ _ s
  have e1 : Builtin.Slice.sliceAdjust Option.none (some 0) (-1) (n : Int) = ((n : Int) - 1, min 0 ((n : Int) - 1)) := by
    unfold Builtin.Slice.sliceAdjust
    rfl
  have e2 : Builtin.Slice.slicePlaces ((n : Int) - 1) (min 0 ((n : Int) - 1)) (-1) = n - 1 := by
    unfold Builtin.Slice.slicePlaces
    have h1 : ¬ ((-1 : Int) > 0) := by omega
    simp only [h1, if_false, Int.neg_neg, Int.ediv_one]
    split <;> omega
  rw [e1]
  show wpAny _ _ (pure ((n : Int) - 1, (-1 : Int), Builtin.Slice.slicePlaces ((n : Int) - 1) (min 0 ((n : Int) - 1)) (-1))) _ _ s
  rw [e2]
  exact wpAny_pure h
theorem getItem_back {t sl : Addr} {items : List Value} {vu vs : Value} {Q : Value → Shared → Prop} (ht : IsTup s.heap t items.toArray) (hs : s.heap.IsSliceOf sl .none vu vs) (pu : IsPart vu (some 0)) (ps : IsPart vs (some (-1)))
    (h : Q (.ref s.heap.objs.size) { s with heap := s.heap.push (tupO (items.drop 1).reverse) }) (hsz : items.length ≤ sizeLine) : wpAny (model prog w) A (getItem (.ref t) (.ref sl)) Q E s := by
  have ok : sizeOk (.seq (items.drop 1).reverse.toArray) := by
    show (items.drop 1).reverse.toArray.size ≤ sizeLine
    rw [List.size_toArray, List.length_reverse, List.length_drop]
    omega
  obtain ⟨os, hos, hcs, hds⟩ := id hs
  have hTs : s.TypeIs (.ref sl) "slice" := ⟨os, hos, hcs⟩
  unfold getItem
  refine wpAny_holding ?_
  refine wpAny_bind (wpAny_sequenceKey ht.typeIs (by decide) ?_)
  refine wpAny_bind (wpAny_callSpecial?_slot (name := Str.ofString "__getitem__") ht.typeIs PyProof.Rows.slot_tuple_getitem (wpAny_call_entry PyProof.Rows.slot_tuple_getitem ht.typeIs PyProof.Rows.entry_tuple_getitem ?_ (PyProof.Rows.args_tuple_getitem _ _)))
  show wpAny _ _ (Builtin.Tuple.tupleItemsOf (.ref t) >>= _) _ _ s
  refine wpAny_bind (PyProof.Rows.tupleItemsOf_ ht ?_)
  refine wpAny_bind (wpAny_typeOf hTs ?_)
  rw [if_pos (by decide)]
  have hn : ((items.toArray.size : Nat) : Int) = (items.length : Int) := by rw [List.size_toArray]
  show wpAny _ _ (Builtin.Slice.sliceApplied (.ref sl) (pure ((items.toArray.size : Nat) : Int)) >>= _) _ _ s
  rw [hn]
  refine wpAny_bind (applied_back hs pu ps ?_)
  have no : ¬ ((((items.length : Int) - 1) == 0 && (-1 : Int) == 1 && (items.length - 1) == items.toArray.size) = true) := by
    intro q
    rw [Bool.and_eq_true, Bool.and_eq_true] at q
    have q1 := q.1.2
    cases q1
  show wpAny _ _ (if (((items.length : Int) - 1) == 0 && (-1 : Int) == 1 && (items.length - 1) == items.toArray.size) = true then _ else _) _ _ s
  rw [if_neg no]
  have ep := congrArg List.toArray (pick_back items)
  show wpAny _ _ (Builtin.Tuple.tupleExact (((List.range (items.length - 1)).filterMap fun (m : Nat) => items.toArray[(((items.length : Int) - 1) + (m : Int) * (-1)).toNat]?).toArray) >>= _) _ _ s
  rw [ep]
  first
    | exact wpAny_bind (m := Builtin.Tuple.tupleExact _) (wpAny_newObj_type (wpAny_pure ⟨_, rfl, wpAny_pure h⟩) ok)
    | exact wpAny_bind (m := Builtin.Tuple.tupleExact _) (wpAny_newObj_type (wpAny_bind (wpAny_pure (wpAny_pure ⟨_, rfl, wpAny_pure h⟩))) ok)
end
section
variable {X : Cx} {W : WC} {e : Expr}
def tBackT (K : PySem.W.Frag) (te : TE) : TE := fun σ H Q => te σ H fun x H1 => ∃ a xs, x = .ref a ∧ SqT K H1 a xs ∧ NewT H1 (xs.drop 1).reverse Q
theorem pe_backT {te : TE} {j kk : Nat} {p0 p1 p2 p3 pos : Pos} (he : PE X e te) : PE X (.Subscript e (.Slice Option.none (some (.Constant (.int 0) j p0)) (some (.UnaryOp .USub (.Constant (.int 1) kk p1) p2)) p3) pos) (tBackT X.K te) := by
  refine ⟨fun pins s σ H Q I h => PyProof.Rows.Subscript_ (thn (he.run pins s σ H _ I h) fun v s1 ⟨x, H1, I1, r1, a, xs, ex, hx, q⟩ => ?_)⟩
  subst ex
  obtain rfl : v = Value.ref a := r1
  have stp : PO X (some (.UnaryOp .USub (.Constant (.int 1) kk p1) p2)) (tPart (tUn (rU fun i => .int (-i)) (tC (.int 1)))) := po_some (pe_un un_neg pe_int)
  have up : PO X (some (.Constant (.int 0) j p0)) (tPart (tC (.int 0))) := po_some pe_int
  refine wpAny_Slice (thn (po_none.run pins s1 σ H1 (fun o H2 => o = Option.none ∧ H2 = H1) I1 ⟨rfl, rfl⟩) fun vl s2 ⟨l, H2, I2, pl, el, e2⟩ => ?_)
  subst el e2
  refine thn (up.run pins s2 σ H2 (fun o H3 => o = some 0 ∧ H3 = H2) I2 ⟨0, rfl, rfl, rfl⟩) fun vu s3 ⟨u, H3, I3, pu, eu, e3⟩ => ?_
  subst eu e3
  refine thn (stp.run pins s3 σ H3 (fun o H4 => o = some (-1) ∧ H4 = H3) I3 ⟨1, rfl, -1, rfl, rfl, rfl⟩) fun vs s4 ⟨o, H4, I4, ps, eo, e4⟩ => ?_
  subst eo e4
  obtain rfl : vl = Value.none := by cases pl; rfl
  have I5 : Inv X pins σ H4 { s4 with heap := s4.heap.push { cls := .type "slice", data := .fields #[.none, vu, vs] } } := I4.kept (t' := s4.toks) fun b ob q => Heap.get?_push_of_some _ q
  obtain ⟨its, r, ht, hz⟩ := I5.tuple hx
  have hlen := r.length
  show wpAny (model X.prog X.w) X.A (PyProof.Rows.subscriptTail e (.Slice Option.none (some (.Constant (.int 0) j p0)) (some (.UnaryOp .USub (.Constant (.int 1) kk p1) p2)) p3) (.ref a) (.ref s4.heap.objs.size)) (EP X pins σ Q) X.xe { s4 with heap := s4.heap.push { cls := .type "slice", data := .fields #[.none, vu, vs] } }
  refine PyProof.Rows.tail_any (ops := [.ref a, .ref s4.heap.objs.size]) ht.typeIs PyProof.Rows.slot_tuple_getitem.lookup ?_ (by with_unfolding_all rfl)
  refine getItem_back (items := its) ht (Heap.IsSliceOf.new _ .none vu vs) pu ps ?_ (by omega)
  have rv : Vals (xs.drop 1).reverse (its.drop 1).reverse := (r.drop 1).reverse
  exact layX I5 rv (by rw [List.length_reverse, List.length_drop]; omega) q
def vBackT (te : VE) : VE := fun ρ Ψ Ξ => te ρ (fun r => r.val ∧ match r.d with
  | .tup _ ds => Ψ (.sh (.tup true (ds.drop 1).reverse))
  | _ => False) Ξ
theorem de_backT {te : VE} {j kk : Nat} {p0 p1 p2 p3 pos : Pos} (he : DE X W e te) : DE X W (.Subscript e (.Slice Option.none (some (.Constant (.int 0) j p0)) (some (.UnaryOp .USub (.Constant (.int 1) kk p1) p2)) p3) pos) (vBackT te) := peI (pe_backT he) fun σ H Q ⟨Φ, B, ρ, Ψ, Ξ, l, x, t, k⟩ => by
  refine runR l x t fun v B1 H1 r1 g1 w1 _ q => ?_
  split at q
  · rename_i y ds er
    rw [er] at w1
    obtain ⟨p, us, rfl, h0, e, t, _⟩ := w1.tup g1.s
    exact ⟨p, us, rfl, e, tup_new g1.s (t.drop 1).rev q fun z B' H' r g d => k z B' H' r (g1.trans g) (d.back g1.h)⟩
  · exact q.elim
end
end DL
/-! DL, twelfth part: short words for the printed derivations. -/
namespace DL
open PySem L2 PySem.Spec
section
variable {X : Cx} {W : WC} {a b c e : Expr} {ta tb tc te : VE} {tA : VA} {pos p cpos apos : Pos}
theorem de_lt (ha : DE X W a ta) (hb : DE X W b tb) : DE X W (.Compare a [.Lt] [b] pos) (vOp opLt ta tb) := de_cmp op_lt (oA_I0 fun _ _ => .bl _) ha hb (nomark _)
theorem de_le (ha : DE X W a ta) (hb : DE X W b tb) : DE X W (.Compare a [.LtE] [b] pos) (vOp opLe ta tb) := de_cmp op_le (oA_I0 fun _ _ => .bl _) ha hb (nomark _)
theorem de_gt (ha : DE X W a ta) (hb : DE X W b tb) : DE X W (.Compare a [.Gt] [b] pos) (vOp opGt ta tb) := de_cmp op_gt (oA_I0 fun _ _ => .bl _) ha hb (nomark _)
theorem de_ge (ha : DE X W a ta) (hb : DE X W b tb) : DE X W (.Compare a [.GtE] [b] pos) (vOp opGe ta tb) := de_cmp op_ge (oA_I0 fun _ _ => .bl _) ha hb (nomark _)
theorem dt_lt (ha : DE X W a ta) (hb : DE X W b tb) : DT X W (.Compare a [.Lt] [b] pos) (vTst (vOp opLt ta tb)) := dt_cmp op_lt (oA_I0 fun _ _ => .bl _) ha hb (nomark _)
theorem dt_le (ha : DE X W a ta) (hb : DE X W b tb) : DT X W (.Compare a [.LtE] [b] pos) (vTst (vOp opLe ta tb)) := dt_cmp op_le (oA_I0 fun _ _ => .bl _) ha hb (nomark _)
theorem dt_gt (ha : DE X W a ta) (hb : DE X W b tb) : DT X W (.Compare a [.Gt] [b] pos) (vTst (vOp opGt ta tb)) := dt_cmp op_gt (oA_I0 fun _ _ => .bl _) ha hb (nomark _)
theorem dt_ge (ha : DE X W a ta) (hb : DE X W b tb) : DT X W (.Compare a [.GtE] [b] pos) (vTst (vOp opGe ta tb)) := dt_cmp op_ge (oA_I0 fun _ _ => .bl _) ha hb (nomark _)
theorem de_eq (hu : X.A.units + 64 < cLine) (ha : DE X W a ta) (hb : DE X W b tb) : DE X W (.Compare a [.Eq] [b] pos) (vOp opEq ta tb) := de_cmp (op_eqU hu) oA_eq ha hb (nomark _)
theorem de_ne (hu : X.A.units + 64 < cLine) (ha : DE X W a ta) (hb : DE X W b tb) : DE X W (.Compare a [.NotEq] [b] pos) (vOp opNe ta tb) := de_cmp (op_neU hu) oA_ne ha hb (nomark _)
theorem dt_eq (hu : X.A.units + 64 < cLine) (ha : DE X W a ta) (hb : DE X W b tb) : DT X W (.Compare a [.Eq] [b] pos) (vTst (vOp opEq ta tb)) := dt_cmp (op_eqU hu) oA_eq ha hb (nomark _)
theorem dt_ne (hu : X.A.units + 64 < cLine) (ha : DE X W a ta) (hb : DE X W b tb) : DT X W (.Compare a [.NotEq] [b] pos) (vTst (vOp opNe ta tb)) := dt_cmp (op_neU hu) oA_ne ha hb (nomark _)
theorem de_is (ha : DE X W a ta) (hb : DE X W b tb) : DE X W (.Compare a [.Is] [b] pos) (vOp (opIs false) ta tb) := de_cmp op_isU oA_is ha hb (nomark _)
theorem de_isn (ha : DE X W a ta) (hb : DE X W b tb) : DE X W (.Compare a [.IsNot] [b] pos) (vOp (opIs true) ta tb) := de_cmp op_isnU oA_isn ha hb (nomark _)
theorem dt_is (ha : DE X W a ta) (hb : DE X W b tb) : DT X W (.Compare a [.Is] [b] pos) (vTst (vOp (opIs false) ta tb)) := dt_cmp op_isU oA_is ha hb (nomark _)
theorem dt_isn (ha : DE X W a ta) (hb : DE X W b tb) : DT X W (.Compare a [.IsNot] [b] pos) (vTst (vOp (opIs true) ta tb)) := dt_cmp op_isnU oA_isn ha hb (nomark _)
theorem de_in (ha : DE X W a ta) (hb : DE X W b tb) (hm : behindInMarks .In b = false := by with_unfolding_all rfl) : DE X W (.Compare a [.In] [b] pos) (vOp (opIn false) ta tb) := de_cmp op_inU oA_in ha hb hm
theorem de_nin (ha : DE X W a ta) (hb : DE X W b tb) (hm : behindInMarks .NotIn b = false := by with_unfolding_all rfl) : DE X W (.Compare a [.NotIn] [b] pos) (vOp (opIn true) ta tb) := de_cmp op_notInU oA_in ha hb hm
theorem dt_in (ha : DE X W a ta) (hb : DE X W b tb) (hm : behindInMarks .In b = false := by with_unfolding_all rfl) : DT X W (.Compare a [.In] [b] pos) (vTst (vOp (opIn false) ta tb)) := dt_cmp op_inU oA_in ha hb hm
theorem dt_nin (ha : DE X W a ta) (hb : DE X W b tb) (hm : behindInMarks .NotIn b = false := by with_unfolding_all rfl) : DT X W (.Compare a [.NotIn] [b] pos) (vTst (vOp (opIn true) ta tb)) := dt_cmp op_notInU oA_in ha hb hm
theorem de_ixc (ha : DE X W a ta) (hb : DE X W b tb) (hs : PlainIx b := by intro _ _; rfl) : DE X W (.Subscript a b pos) (vOp opIx ta tb) := de_ix ha hb hs
/-! ### built-in functions of one argument -/
theorem bo_len : bootBuiltins "len" = some (.builtin "len") := by decide +kernel
theorem bo_abs : bootBuiltins "abs" = some (.builtin "abs") := by decide +kernel
theorem bo_all : bootBuiltins "all" = some (.builtin "all") := by decide +kernel
theorem bo_any : bootBuiltins "any" = some (.builtin "any") := by decide +kernel
theorem bo_isi : bootBuiltins "isinstance" = some (.builtin "isinstance") := by decide +kernel
theorem bo_iter : bootBuiltins "iter" = some (.builtin "iter") := by decide +kernel
theorem bo_int : bootBuiltins "int" = some (.type "int") := by decide +kernel
theorem bo_str : bootBuiltins "str" = some (.type "str") := by decide +kernel
theorem bo_bool : bootBuiltins "bool" = some (.type "bool") := by decide +kernel
theorem bo_list : bootBuiltins "list" = some (.type "list") := by decide +kernel
theorem bo_tuple : bootBuiltins "tuple" = some (.type "tuple") := by decide +kernel
theorem bo_dict : bootBuiltins "dict" = some (.type "dict") := by decide +kernel
theorem bo_VE : bootBuiltins "ValueError" = some (.type "ValueError") := by decide +kernel
abbrev Aok (X : Cx) (x : Str) : Prop := Gl X x ∧ X.mg x = Option.none
theorem de_len (hm : X.mg "len" = Option.none) (ha : DA X W [e] tA) (hg : Gl X "len" := by rfl) (he : starEach [e] X.env = (false, eval e X.env) :: starEach [] X.env := by rfl) : DE X W (.Call (.Name "len" p) [e] [] pos) (vCB (one lenD) tA) := de_callB call_len cA_len hg hm bo_len ha (by decide) (by decide) he rfl
theorem de_abs (hm : X.mg "abs" = Option.none) (ha : DA X W [e] tA) (hg : Gl X "abs" := by rfl) (he : starEach [e] X.env = (false, eval e X.env) :: starEach [] X.env := by rfl) : DE X W (.Call (.Name "abs" p) [e] [] pos) (vCB (one absD) tA) := de_callB call_abs cA_abs hg hm bo_abs ha (by decide) (by decide) he rfl
theorem de_all (hc : X.calm = true) (hm : X.mg "all" = Option.none) (ha : DA X W [e] tA) (hg : Gl X "all" := by rfl) (he : starEach [e] X.env = (false, eval e X.env) :: starEach [] X.env := by rfl) : DE X W (.Call (.Name "all" p) [e] [] pos) (vCB (one (blsD fun bs => .bl (bs.all id))) tA) := de_callB (cr_all hc) cA_all hg hm bo_all ha (by decide) (by decide) he rfl
theorem de_any (hc : X.calm = true) (hm : X.mg "any" = Option.none) (ha : DA X W [e] tA) (hg : Gl X "any" := by rfl) (he : starEach [e] X.env = (false, eval e X.env) :: starEach [] X.env := by rfl) : DE X W (.Call (.Name "any" p) [e] [] pos) (vCB (one (blsD fun bs => .bl (bs.any id))) tA) := de_callB (cr_any hc) cA_any hg hm bo_any ha (by decide) (by decide) he rfl
theorem de_int1 (hm : X.mg "int" = Option.none) (ha : DA X W [e] tA) (hg : Gl X "int" := by rfl) (he : starEach [e] X.env = (false, eval e X.env) :: starEach [] X.env := by rfl) : DE X W (.Call (.Name "int" p) [e] [] pos) (vCB (one intD) tA) := de_callTy call_int1 cA_int hg hm bo_int ha (by decide) (by decide) he rfl
theorem de_list (hm : X.mg "list" = Option.none) (ha : DA X W [e] tA) (hg : Gl X "list" := by rfl) (he : starEach [e] X.env = (false, eval e X.env) :: starEach [] X.env := by rfl) : DE X W (.Call (.Name "list" p) [e] [] pos) (vCB (one listD) tA) := de_callTy call_list_of cA_list hg hm bo_list ha (by decide) (by decide) he rfl
theorem de_tuple (hm : X.mg "tuple" = Option.none) (ha : DA X W [e] tA) (hg : Gl X "tuple" := by rfl) (he : starEach [e] X.env = (false, eval e X.env) :: starEach [] X.env := by rfl) : DE X W (.Call (.Name "tuple" p) [e] [] pos) (vCB (one tupD) tA) := de_callTy call_tupX cA_tup hg hm bo_tuple ha (by decide) (by decide) he rfl
theorem de_isi (hm : X.mg "isinstance" = Option.none) (ha : DA X W [e, c] tA) (hg : Gl X "isinstance" := by rfl) (he : starEach [e, c] X.env = (false, eval e X.env) :: starEach [c] X.env := by rfl) (hpl : (backTo pos (starEach [c] X.env)).any (·.1) = false := by rfl) : DE X W (.Call (.Name "isinstance" p) [e, c] [] pos) (vCB (isiD X.K) tA) := de_callB call_isi cA_isi hg hm bo_isi ha (by decide) (by decide) he hpl
theorem de_tyn {x : Str} {n : String} (hm : X.mg x = Option.none) (hv : bootBuiltins x = some (.type n)) (hg : Gl X x := by rfl) (hn : x ≠ "__name__" := by decide) (hd : (x == ("__debug__" : Str)) = false := by decide) : DE X W (.Name x pos) (vC (.ty n)) := de_bltn (v := .ty n) hg hm hv rfl (.ty n) hn hd
theorem de_cls {x : Str} {C : Addr} (hm : X.mg x = some (.ref C)) (hg : Gl X x := by rfl) (hd : (x == ("__debug__" : Str)) = false := by decide) : DE X W (.Name x pos) (vC (.cst C)) := de_glob (v := .ref C) hg hm rfl (.cst C) hd
theorem de_gint {x : Str} {i : Int} (hm : ∃ t, X.mg x = some (.int i t)) (hg : Gl X x := by rfl) (hd : (x == ("__debug__" : Str)) = false := by decide) : DE X W (.Name x pos) (vC (.int i)) := let ⟨t, hm⟩ := hm; de_glob (v := .int i) hg hm ⟨t, rfl⟩ (.int i) hd
theorem de_gstr {x : Str} {i : Str} (hm : ∃ t, X.mg x = some (.str i t)) (hg : Gl X x := by rfl) (hd : (x == ("__debug__" : Str)) = false := by decide) : DE X W (.Name x pos) (vC (.str i)) := let ⟨t, hm⟩ := hm; de_glob (v := .str i) hg hm ⟨t, rfl⟩ (.str i) hd
/-! ### methods -/
theorem de_stripC (ho : DE X W a ta) (ha : DA X W [e] tA) (hbase : attributeBase a "strip" X.env (eval a X.env) = eval a X.env := by rfl)
    (hfew : ((backTo cpos (starEach [e] X.env)).all (fun x => !x.1) && (backToKw cpos (keywordEach [] X.env)).all (fun x => x.1.isSome) && decide ([e].length + ([] : List Keyword).length + (if ([] : List Keyword).isEmpty then 0 else 1) < 30)) = true := by rfl)
    (hline : (apos.endLine == cpos.line) = true := by rfl) (hs : starEach [e] X.env = (false, eval e X.env) :: starEach [] X.env := by rfl) : DE X W (.Call (.Attribute a "strip" apos) [e] [] cpos) (vBM "str" mStripC ta tA) := de_bm PySem.F.plainAttrs_str PySem.F.slot_str_strip PySem.F.type_str_strip mt_stripChars mA_stripC ho ha hbase hfew hline hs rfl
theorem de_sindex (ho : DE X W a ta) (ha : DA X W [e] tA) (hbase : attributeBase a "index" X.env (eval a X.env) = eval a X.env := by rfl)
    (hfew : ((backTo cpos (starEach [e] X.env)).all (fun x => !x.1) && (backToKw cpos (keywordEach [] X.env)).all (fun x => x.1.isSome) && decide ([e].length + ([] : List Keyword).length + (if ([] : List Keyword).isEmpty then 0 else 1) < 30)) = true := by rfl)
    (hline : (apos.endLine == cpos.line) = true := by rfl) (hs : starEach [e] X.env = (false, eval e X.env) :: starEach [] X.env := by rfl) : DE X W (.Call (.Attribute a "index" apos) [e] [] cpos) (vBM "str" mSIndex ta tA) := de_bm PySem.F.plainAttrs_str PySem.F.slot_str_index PySem.F.type_str_index mt_sindex mA_sindex ho ha hbase hfew hline hs rfl
theorem de_lindex (ho : DE X W a ta) (ha : DA X W [e] tA) (hbase : attributeBase a "index" X.env (eval a X.env) = eval a X.env := by rfl)
    (hfew : ((backTo cpos (starEach [e] X.env)).all (fun x => !x.1) && (backToKw cpos (keywordEach [] X.env)).all (fun x => x.1.isSome) && decide ([e].length + ([] : List Keyword).length + (if ([] : List Keyword).isEmpty then 0 else 1) < 30)) = true := by rfl)
    (hline : (apos.endLine == cpos.line) = true := by rfl) (hs : starEach [e] X.env = (false, eval e X.env) :: starEach [] X.env := by rfl) : DE X W (.Call (.Attribute a "index" apos) [e] [] cpos) (vBM "list" mLIndex ta tA) := de_bm PySem.F.plainAttrs_list PySem.F.slot_list_index PySem.F.type_list_index mt_index mA_lindex ho ha hbase hfew hline hs rfl
theorem de_tindex1 (ho : DE X W a ta) (ha : DA X W [e] tA) (hbase : attributeBase a "index" X.env (eval a X.env) = eval a X.env := by rfl)
    (hfew : ((backTo cpos (starEach [e] X.env)).all (fun x => !x.1) && (backToKw cpos (keywordEach [] X.env)).all (fun x => x.1.isSome) && decide ([e].length + ([] : List Keyword).length + (if ([] : List Keyword).isEmpty then 0 else 1) < 30)) = true := by rfl)
    (hline : (apos.endLine == cpos.line) = true := by rfl) (hs : starEach [e] X.env = (false, eval e X.env) :: starEach [] X.env := by rfl) : DE X W (.Call (.Attribute a "index" apos) [e] [] cpos) (vTIndex ta tA) := de_tindex ho ha PySem.F.plainAttrs_tuple PySem.F.slot_tuple_index PySem.F.type_tuple_index hbase hfew hline hs rfl
theorem ds_append {i : Nat} (ho : PE X a (tVar i)) (ha : DA X W [e] tA) (hbase : attributeBase a "append" X.env (eval a X.env) = eval a X.env := by rfl)
    (hfew : ((backTo cpos (starEach [e] X.env)).all (fun x => !x.1) && (backToKw cpos (keywordEach [] X.env)).all (fun x => x.1.isSome) && decide ([e].length + ([] : List Keyword).length + (if ([] : List Keyword).isEmpty then 0 else 1) < 30)) = true := by rfl)
    (hline : (apos.endLine == cpos.line) = true := by rfl) (hs : starEach [e] X.env = (false, eval e X.env) :: starEach [] X.env := by rfl) (hsw : swapsWith (.Call (.Attribute a "append" apos) [e] [] cpos) Option.none pos.line X.env = pure false := by rfl) :
    DS X W (.Expr (.Call (.Attribute a "append" apos) [e] [] cpos) pos) (vMut i mApp tA) := ds_mut (T := "list") PySem.F.plainAttrs_list PySem.F.slot_list_append PySem.F.type_list_append mt_append mtA_app ho ha hbase hfew hline hs rfl hsw
end
end DL
/-! DL, thirteenth part: for the pure proofs: texts in lists, the readings in one word. -/
namespace DL
open PySem L2 PySem.Spec
/-- a list of texts as data -/
def sd (l : List Str) : List DV := l.map .str
def id' (l : List Int) : List DV := l.map .int
section
variable {ns ms : List Str} {w : Str}
theorem sd_len : (sd ns).length = ns.length := List.length_map _
theorem id_len {l : List Int} : (id' l).length = l.length := List.length_map _
theorem sd_flat : (sd ns).all flatD = true := by
  induction ns with
  | nil => rfl
  | cons a l ih => show (flatD (.str a) && (sd l).all flatD) = true; rw [ih]; rfl
theorem id_flat {l : List Int} : (id' l).all flatD = true := by
  induction l with
  | nil => rfl
  | cons a l ih => show (flatD (.int a) && (id' l).all flatD) = true; rw [ih]; rfl
theorem sd_in : ((sd ns).any fun y => eqFD y (.str w)) = decide (w ∈ ns) := by
  induction ns with
  | nil => rfl
  | cons a l ih =>
    show ((a == w) || (sd l).any fun y => eqFD y (.str w)) = _
    rw [ih]
    by_cases h : a = w
    · subst h; simp
    · have h' : ¬ w = a := fun z => h z.symm
      simp [h, h']
theorem sd_get {i : Nat} : (sd ns)[i]? = (ns[i]?).map .str := List.getElem?_map ..
theorem id_get {l : List Int} {i : Nat} : (id' l)[i]? = (l[i]?).map .int := List.getElem?_map ..
theorem sd_app : sd ns ++ sd ms = sd (ns ++ ms) := (List.map_append ..).symm
theorem sd_cons : DV.str w :: sd ns = sd (w :: ns) := rfl
theorem sd_one : [DV.str w] = sd [w] := rfl
theorem sd_nil : sd [] = [] := rfl
theorem sd_rev : (sd ns).reverse = sd ns.reverse := (List.map_reverse ..).symm
theorem sd_drop {i : Nat} : (sd ns).drop i = sd (ns.drop i) := (List.map_drop ..).symm
theorem sd_take {i : Nat} : (sd ns).take i = sd (ns.take i) := (List.map_take ..).symm
theorem id_drop {l : List Int} {i : Nat} : (id' l).drop i = id' (l.drop i) := (List.map_drop ..).symm
theorem sd_inj : sd ns = sd ms ↔ ns = ms := by
  constructor
  · intro h
    induction ns generalizing ms with
    | nil =>
      cases ms with
      | nil => rfl
      | cons _ _ => cases h
    | cons a l ih =>
      cases ms with
      | nil => cases h
      | cons b m =>
        have h2 := List.cons.inj (show DV.str a :: sd l = DV.str b :: sd m from h)
        have e1 : a = b := by cases h2.1; rfl
        rw [e1, ih h2.2]
  · intro h; rw [h]
theorem cut_map {α β : Type} (f : α → β) (l : List α) (lo hi : Option Int) : cut (l.map f) lo hi = (cut l lo hi).map f := by
  unfold cut
  rw [List.length_map, List.map_take, List.map_drop]
theorem sd_cut {lo hi : Option Int} : cut (sd ns) lo hi = sd (cut ns lo hi) := cut_map ..
theorem id_cut {l : List Int} {lo hi : Option Int} : cut (id' l) lo hi = id' (cut l lo hi) := cut_map ..
theorem sd_at {i : Int} : atI (sd ns) i = (atI ns i).map .str := atI_map ..
theorem id_at {l : List Int} {i : Int} : atI (id' l) i = (atI l i).map .int := atI_map ..
theorem sd_all {P : Str → Bool} {Q : DV → Bool} (h : ∀ w, Q (.str w) = P w) : (sd ns).all Q = ns.all P := by
  induction ns with
  | nil => rfl
  | cons a l ih => show (Q (.str a) && (sd l).all Q) = (P a && l.all P); rw [ih, h]
theorem sd_empty : (sd ns).isEmpty = ns.isEmpty := by cases ns <;> rfl
theorem sd_asStrs : asStrs (sd ns) = some ns := by
  induction ns with
  | nil => rfl
  | cons a l ih => show (asStrs (sd l)).map (a :: ·) = _; rw [ih]; rfl
theorem asBls_map (l : List Bool) : asBls (l.map .bl) = some l := by
  induction l with
  | nil => rfl
  | cons a l ih => show (asBls (l.map .bl)).map (a :: ·) = _; rw [ih]; rfl
end
/-! ### the words' laws as equations -/
section
variable {ns ms : List Str} {w z a b : Str} {Ψ : R → Prop} {Φ : Bool → Prop} {n : Bool}
theorem in_l : opIn n (.str w) (.lst (sd ns)) Ψ = Ψ (.sh (.bl (n ^^ decide (w ∈ ns)))) := by
  show (flatD (.str w) = true ∧ (sd ns).all flatD = true ∧ Ψ (.sh (.bl (n ^^ (sd ns).any fun y => eqFD y (.str w))))) = _
  rw [sd_flat, sd_in]
  exact propext ⟨fun h => h.2.2, fun h => ⟨rfl, rfl, h⟩⟩
theorem in_t {x : Bool} : opIn n (.str w) (.tup x (sd ns)) Ψ = Ψ (.sh (.bl (n ^^ decide (w ∈ ns)))) := in_l
theorem in_li {i : Int} {l : List Int} : opIn n (.int i) (.lst (id' l)) Ψ = Ψ (.sh (.bl (n ^^ decide (i ∈ l)))) := by
  show (flatD (.int i) = true ∧ (id' l).all flatD = true ∧ Ψ (.sh (.bl (n ^^ (id' l).any fun y => eqFD y (.int i))))) = _
  have e : ((id' l).any fun y => eqFD y (.int i)) = decide (i ∈ l) := by
    induction l with
    | nil => rfl
    | cons a l ih =>
      show ((a == i) || (id' l).any fun y => eqFD y (.int i)) = _
      rw [ih]
      by_cases h : a = i
      · subst h; simp
      · have h' : ¬ i = a := fun z => h z.symm
        simp [h, h']
  rw [id_flat, e]
  exact propext ⟨fun h => h.2.2, fun h => ⟨rfl, rfl, h⟩⟩
theorem in_s {c : Nat} : opIn n (.str ⟨#[c]⟩) (.str z) Ψ = Ψ (.sh (.bl (n ^^ decide (c ∈ z.cps.toList)))) := rfl
theorem eqd_str : eqD (.str a) (.str b) Φ = Φ (decide (a = b)) := rfl
theorem eqd_int {i j : Int} : eqD (.int i) (.int j) Φ = Φ (decide (i = j)) := rfl
theorem eqd_bl {i j : Bool} : eqD (.bl i) (.bl j) Φ = Φ (decide (i = j)) := rfl
theorem eqd_non : eqD .non .non Φ = Φ true := rfl
theorem eqd_ns : eqD .non (.str a) Φ = Φ false := rfl
theorem eqd_ni {i : Int} : eqD .non (.int i) Φ = Φ false := rfl
theorem eqd_nb {i : Bool} : eqD .non (.bl i) Φ = Φ false := rfl
theorem eqd_sn : eqD (.str a) .non Φ = Φ false := rfl
theorem eqd_in {i : Int} : eqD (.int i) .non Φ = Φ false := rfl
theorem eqd_bn {i : Bool} : eqD (.bl i) .non Φ = Φ false := rfl
end
theorem sz1000 {n : Nat} (h : n ≤ 1000) : n ≤ sizeLine := Nat.le_trans h (by decide)
/-! ### places -/
section
variable {α : Type} {l : List α}
theorem atI_nat {i : Nat} : atI l (i : Int) = l[i]? := by
  unfold L2.atI L2.ixN
  rw [if_pos (by omega)]
  by_cases h : i < l.length
  · rw [if_pos (by omega), Option.bind_some, Int.toNat_natCast]
  · rw [if_neg (by omega), Option.bind_none, List.getElem?_eq_none (by omega)]
theorem atI_pos {i : Int} (h : 0 ≤ i) : atI l i = l[i.toNat]? := by
  obtain ⟨n, rfl⟩ := Int.eq_ofNat_of_zero_le h
  rw [atI_nat, Int.toNat_natCast]
theorem cut_to {i : Int} (h : 0 ≤ i) : cut l Option.none (some i) = l.take i.toNat := by
  unfold cut HT.sIx
  simp only
  rw [if_neg (by omega), List.drop_zero, Nat.sub_zero]
  by_cases hl : i.toNat ≤ l.length
  · rw [Nat.min_eq_left hl]
  · rw [Nat.min_eq_right (by omega), List.take_length, List.take_of_length_le (by omega)]
theorem cut_from {i : Int} (h : 0 ≤ i) : cut l (some i) Option.none = l.drop i.toNat := by
  unfold cut HT.sIx
  simp only
  rw [if_neg (by omega)]
  by_cases hl : i.toNat ≤ l.length
  · rw [Nat.min_eq_left hl, List.take_of_length_le (by rw [List.length_drop]; omega)]
  · rw [Nat.min_eq_right (by omega), List.drop_length, List.drop_eq_nil_of_le (by omega), List.take_nil]
theorem cut_toN {i : Nat} : cut l Option.none (some (i : Int)) = l.take i := cut_to (by omega)
theorem cut_fromN {i : Nat} : cut l (some (i : Int)) Option.none = l.drop i := cut_from (by omega)
theorem cut_mid {i j : Int} (h : 0 ≤ i) (h2 : 0 ≤ j) : cut l (some i) (some j) = (l.drop i.toNat).take (j.toNat - i.toNat) := by
  unfold cut HT.sIx
  simp only
  rw [if_neg (by omega), if_neg (by omega)]
  by_cases hl : i.toNat ≤ l.length
  · rw [Nat.min_eq_left hl]
    by_cases hj : j.toNat ≤ l.length
    · rw [Nat.min_eq_left hj]
    · rw [Nat.min_eq_right (by omega : l.length ≤ j.toNat), List.take_of_length_le (by rw [List.length_drop]; exact Nat.le_refl _), List.take_of_length_le (by rw [List.length_drop]; omega)]
  · rw [Nat.min_eq_right (by omega : l.length ≤ i.toNat), List.drop_length, List.take_nil, List.drop_eq_nil_of_le (by omega), List.take_nil]
end
/-! ### isinstance of data -/
section
variable {K : PySem.W.Frag} {Ψ : R → Prop}
theorem isi_obj {C c : Addr} {fs : List (Str × DV)} {b : Bool} (h1 : InsC K C) (h2 : PySem.W.kitOne K (.ref C) (.ref c) = some b) : isiD K [.obj C fs, .cst c] Ψ = Ψ (.sh (.bl b)) := by
  show (InsC K C ∧ match PySem.W.kitOne K (.ref C) (.ref c) with
    | some b => Ψ (.sh (.bl b))
    | _ => False) = _
  rw [h2]
  exact propext ⟨fun h => h.2, fun h => ⟨h1, h⟩⟩
theorem isi_ty {d : DV} {n m : String} {b : Bool} (hd : ∀ P : Value → Prop, tyD K d P = P (.type n)) (h : kitB n m = some b) : isiD K [d, .ty m] Ψ = Ψ (.sh (.bl b)) := by
  show tyD K d (fun t => match PySem.W.kitOne K t (.type m) with
    | some b => Ψ (.sh (.bl b))
    | _ => False) = _
  rw [hd, kit_ty h]
theorem isi_ss {x : Str} : isiD K [.str x, .ty "str"] Ψ = Ψ (.sh (.bl true)) := isi_ty (n := "str") (fun _ => rfl) (by decide +kernel)
theorem isi_ii {x : Int} : isiD K [.int x, .ty "int"] Ψ = Ψ (.sh (.bl true)) := isi_ty (n := "int") (fun _ => rfl) (by decide +kernel)
theorem isi_ib {x : Int} : isiD K [.int x, .ty "bool"] Ψ = Ψ (.sh (.bl false)) := isi_ty (n := "int") (fun _ => rfl) (by decide +kernel)
theorem isi_bb {x : Bool} : isiD K [.bl x, .ty "bool"] Ψ = Ψ (.sh (.bl true)) := isi_ty (n := "bool") (fun _ => rfl) (by decide +kernel)
theorem isi_bi {x : Bool} : isiD K [.bl x, .ty "int"] Ψ = Ψ (.sh (.bl true)) := isi_ty (n := "bool") (fun _ => rfl) (by decide +kernel)
theorem isi_ll {x : List DV} : isiD K [.lst x, .ty "list"] Ψ = Ψ (.sh (.bl true)) := isi_ty (n := "list") (fun _ => rfl) (by decide +kernel)
theorem isi_tt {y : Bool} {x : List DV} : isiD K [.tup y x, .ty "tuple"] Ψ = Ψ (.sh (.bl true)) := isi_ty (n := "tuple") (fun _ => rfl) (by decide +kernel)
theorem isi_nl : isiD K [.non, .ty "list"] Ψ = Ψ (.sh (.bl false)) := isi_ty (n := "NoneType") (fun _ => rfl) (by decide +kernel)
theorem isi_nb : isiD K [.non, .ty "bool"] Ψ = Ψ (.sh (.bl false)) := isi_ty (n := "NoneType") (fun _ => rfl) (by decide +kernel)
theorem isi_ni : isiD K [.non, .ty "int"] Ψ = Ψ (.sh (.bl false)) := isi_ty (n := "NoneType") (fun _ => rfl) (by decide +kernel)
end
/-! ### the readings by constructors -/
theorem q_d1 {d : DV} : (R.sh d).d = d := rfl
theorem q_d2 {ds : List DV} : (R.fr ds).d = .lst ds := rfl
theorem q_d3 {ds : List DV} : (R.vw ds).d = .lst ds := rfl
theorem q_d4 {C : Addr} {fs : List (Str × DV)} : (R.vo C fs).d = .obj C fs := rfl
theorem q_v0 {d : DV} : (R.sh d).val = True := rfl
theorem q_g0 {d : DV} : (R.sh d).good = True := rfl
theorem q_v1 {ds : List DV} : (R.fr ds).val = True := rfl
theorem q_g1 {ds : List DV} : (R.fr ds).good = True := rfl
theorem q_v2 {ds : List DV} : (R.vw ds).val = True := rfl
theorem q_g2 {ds : List DV} : (R.vw ds).good = False := rfl
theorem q_v3 {C : Addr} {fs : List (Str × DV)} : (R.vo C fs).val = True := rfl
theorem q_g3 {C : Addr} {fs : List (Str × DV)} : (R.vo C fs).good = False := rfl
theorem q_v4 {x : Xn} : (R.xn x).val = False := rfl
theorem q_g4 {x : Xn} : (R.xn x).good = False := rfl
theorem q_e0 {d : DV} : (R.sh d).ent = .sh d := rfl
theorem q_e1 {ds : List DV} : (R.fr ds).ent = .ow ds := rfl
theorem q_t0 {Φ : Bool → Prop} : truD .non Φ = Φ false := rfl
theorem q_t1 {Φ : Bool → Prop} {b : Bool} : truD (.bl b) Φ = Φ b := rfl
theorem q_t2 {Φ : Bool → Prop} {i : Int} : truD (.int i) Φ = Φ (i != 0) := rfl
theorem q_t3 {Φ : Bool → Prop} {x : Str} : truD (.str x) Φ = (x.length ≤ sizeLine ∧ Φ ((x.length : Int) != 0)) := rfl
theorem q_t4 {Φ : Bool → Prop} {ds : List DV} : truD (.lst ds) Φ = Φ (!ds.isEmpty) := rfl
theorem q_t5 {Φ : Bool → Prop} {x : Bool} {ds : List DV} : truD (.tup x ds) Φ = Φ (!ds.isEmpty) := rfl
theorem q_l0 {Ψ : R → Prop} {ds : List DV} : lenD (.lst ds) Ψ = Ψ (.sh (.int ds.length)) := rfl
theorem q_l1 {Ψ : R → Prop} {x : Bool} {ds : List DV} : lenD (.tup x ds) Ψ = Ψ (.sh (.int ds.length)) := rfl
theorem q_l2 {Ψ : R → Prop} {x : Str} : lenD (.str x) Ψ = (x.length ≤ sizeLine ∧ Ψ (.sh (.int x.length))) := rfl
theorem q_l3 {Ψ : R → Prop} {ns : List Int} : lenD (.scr ns) Ψ = Ψ (.sh (.int ns.length)) := rfl
theorem q_i0 {Ψ : R → Prop} {i : Int} : intD (.int i) Ψ = Ψ (.sh (.int i)) := rfl
theorem q_i1 {Ψ : R → Prop} {k : Bool} : intD (.bl k) Ψ = Ψ (.sh (.int (if k then 1 else 0))) := rfl
theorem q_a0 {Ψ : R → Prop} {i : Int} : absD (.int i) Ψ = Ψ (.sh (.int (if i < 0 then -i else i))) := rfl
theorem q_li0 {Ψ : R → Prop} {ds : List DV} : listD (.lst ds) Ψ = Ψ (.fr ds) := rfl
theorem q_li1 {Ψ : R → Prop} {x : Bool} {ds : List DV} : listD (.tup x ds) Ψ = Ψ (.fr ds) := rfl
theorem q_tu0 {Ψ : R → Prop} {ds : List DV} : tupD (.lst ds) Ψ = Ψ (.sh (.tup true ds)) := rfl
theorem q_tu1 {Ψ : R → Prop} {x : Bool} {ds : List DV} : tupD (.tup x ds) Ψ = Ψ (.sh (.tup x ds)) := rfl
theorem q_bs {Ψ : R → Prop} {f : List Bool → DV} {ds : List DV} : blsD f (.lst ds) Ψ = (match asBls ds with | some bs => Ψ (.sh (f bs)) | _ => False) := rfl
theorem q_oI {Ψ : R → Prop} {C : Int → Int → Prop} {g : Int → Int → DV} {i j : Int} : oI C g (.int i) (.int j) Ψ = (C i j ∧ Ψ (.sh (g i j))) := rfl
theorem q_ad0 {Ψ : R → Prop} {i j : Int} : opAdd (.int i) (.int j) Ψ = Ψ (.sh (.int (i + j))) := rfl
theorem q_ad1 {Ψ : R → Prop} {a b : Str} : opAdd (.str a) (.str b) Ψ = (a.length + b.length ≤ sizeLine ∧ Ψ (.sh (.str (a ++ b)))) := rfl
theorem q_ad2 {Ψ : R → Prop} {a b : List DV} : opAdd (.lst a) (.lst b) Ψ = (a.length + b.length ≤ sizeLine ∧ Ψ (.fr (a ++ b))) := rfl
theorem q_ad3 {Ψ : R → Prop} {x y : Bool} {a b : List DV} : opAdd (.tup x a) (.tup y b) Ψ = (a.length + b.length ≤ sizeLine ∧ Ψ (.sh (.tup (x && y) (a ++ b)))) := rfl
theorem q_is0 {Ψ : R → Prop} {n : Bool} {a : DV} : opIs n a .non Ψ = Ψ (.sh (.bl (n ^^ isNon a))) := rfl
theorem q_is1 {Ψ : R → Prop} {n i j : Bool} : opIs n (.bl i) (.bl j) Ψ = Ψ (.sh (.bl (n ^^ decide (i = j)))) := rfl
theorem q_n0  : isNon .non = true := rfl
theorem q_n1 {b : Bool} : isNon (.bl b) = false := rfl
theorem q_n2 {b : Int} : isNon (.int b) = false := rfl
theorem q_n3 {b : Str} : isNon (.str b) = false := rfl
theorem q_n4 {b : List DV} : isNon (.lst b) = false := rfl
theorem q_n5 {x : Bool} {b : List DV} : isNon (.tup x b) = false := rfl
theorem q_n6 {C : Addr} {b : List (Str × DV)} : isNon (.obj C b) = false := rfl
theorem q_ix0 {Ψ : R → Prop} {ds : List DV} {i : Int} : opIx (.lst ds) (.int i) Ψ = (match atI ds i with | some d => Ψ (.sh d) | Option.none => False) := rfl
theorem q_ix1 {Ψ : R → Prop} {x : Bool} {ds : List DV} {i : Int} : opIx (.tup x ds) (.int i) Ψ = (match atI ds i with | some d => Ψ (.sh d) | Option.none => False) := rfl
theorem q_ix2 {Ψ : R → Prop} {ns : List Int} {i : Int} : opIx (.scr ns) (.int i) Ψ = (match atI ns i with | some d => Ψ (.sh (.int d)) | Option.none => False) := rfl
theorem q_ix3 {Ψ : R → Prop} {z : Str} {i : Int} : opIx (.str z) (.int i) Ψ = (z.length ≤ sizeLine ∧ match atI z.cps.toList i with | some c => Ψ (.sh (.str ⟨#[c]⟩)) | Option.none => False) := rfl
theorem q_sl0 {Ψ : R → Prop} {ds : List DV} {lo hi : Option Int} : slD (.lst ds) lo hi Ψ = Ψ (.fr (cut ds lo hi)) := rfl
theorem q_sl1 {Ψ : R → Prop} {x : Bool} {ds : List DV} {lo hi : Option Int} : slD (.tup x ds) lo hi Ψ = Ψ (.sh (.tup x (cut ds lo hi))) := rfl
theorem q_sl2 {Ψ : R → Prop} {z : Str} {lo hi : Option Int} : slD (.str z) lo hi Ψ = (z.length ≤ sizeLine ∧ Ψ (.sh (.str (cutS z lo hi)))) := rfl
theorem q_bk {Φ : Bool → Prop} {b : Bool} : blK Φ (.sh (.bl b)) = Φ b := rfl
theorem q_rk0 {Ψ : R → Prop} {d : DV} : retK Ψ (.sh d) = Ψ (.sh d) := rfl
theorem q_rk1 {Ψ : R → Prop} {ds : List DV} : retK Ψ (.fr ds) = Ψ (.sh (.lst ds)) := rfl
theorem q_rk2 {Ψ : R → Prop} {ds : List DV} : retK Ψ (.vw ds) = Ψ (.sh (.lst ds)) := rfl
theorem q_rf0 {Ψ : R → Prop} {d : DV} : retF Ψ (.sh d) = Ψ (.sh d) := rfl
theorem q_rf1 {Ψ : R → Prop} {ds : List DV} : retF Ψ (.fr ds) = Ψ (.fr ds) := rfl
theorem q_rf2 {Ψ : R → Prop} {ds : List DV} : retF Ψ (.vw ds) = Ψ (.fr ds) := rfl
theorem q_sq0 {Λ : List DV → Prop} {ds : List DV} : seqD (.lst ds) Λ = Λ ds := rfl
theorem q_sq1 {Λ : List DV → Prop} {x : Bool} {ds : List DV} : seqD (.tup x ds) Λ = Λ ds := rfl
theorem q_ok0 {rs : List R} {r : R} (h : goodsB rs = true) : okRes rs r = True := by unfold okRes; rw [h]; simp
theorem q_ok1 {rs : List R} {d : DV} (h : noL d = true) : okRes rs (.sh d) = True := by show ((goodsB rs || noL d) = true) = True; rw [h]; simp
theorem q_ox0 {rs : List R} {x : Xn} (h : goodsB rs = true) : okXn rs x = True := by unfold okXn; rw [h]; simp
theorem q_ox1 {rs : List R} {x : Xn} (h : noLF x.fs = true) : okXn rs x = True := by unfold okXn; rw [h]; simp
/-- one statement at a time: what follows stays closed -/
theorem seq1 {t u : VS} {D : EndsD} {ρ : Env'} (h : ∀ v : VS, v = u → t { D with nx := fun ρ' => v D ρ' } ρ) : vSeq t u D ρ := h u rfl
/-! ### == over lists of texts -/
/-- a text that may be handed over and compared -/
def okS (w : Str) : Prop := w.length ≤ 1000 ∧ (w.cps.all (· < 0x110000)) = true
theorem canAll : ∀ {ns : List Str}, (∀ w, w ∈ ns → okS w) → PyData.canLayAll0 (ns.map PyData.str) = true
  | [], _ => rfl
  | a :: l, h => by
    show (PyData.canLay0 (.str a) && PyData.canLayAll0 (l.map PyData.str)) = true
    rw [canAll fun w hw => h w (List.mem_cons_of_mem _ hw), Bool.and_true]
    exact (h a List.mem_cons_self).2
theorem depAll : ∀ {ns : List Str}, PyData.depthAll (ns.map PyData.str) = 0
  | [] => rfl
  | a :: l => by
    show max (PyData.depth (.str a)) (PyData.depthAll (l.map PyData.str)) = 0
    rw [depAll]; rfl
theorem toPy_sd : ∀ {ns : List Str}, toPyL (sd ns) = some (ns.map PyData.str)
  | [] => rfl
  | a :: l => by
    show (match toPy (.str a), toPyL (sd l) with
      | some p, some ps => some (p :: ps)
      | _, _ => Option.none) = _
    rw [toPy_sd]; rfl
theorem eqvAll_sd : ∀ {ns ms : List Str}, PyData.eqvAll (ns.map PyData.str) (ms.map PyData.str) = decide (ns = ms)
  | [], [] => rfl
  | [], b :: m => rfl
  | a :: l, [] => rfl
  | a :: l, b :: m => by
    show ((a == b) && PyData.eqvAll (l.map PyData.str) (m.map PyData.str)) = _
    rw [eqvAll_sd]
    by_cases h : a = b
    · subst h; by_cases h2 : l = m <;> simp [h2]
    · simp [h]
section
variable {ns ms : List Str} {Ψ : Bool → Prop}
theorem shaped_l (h : ∀ w, w ∈ ns → okS w) : SeqAt.shaped (.list (ns.map PyData.str)) = true := by
  have e1 : PyData.canLay0 (.list (ns.map PyData.str)) = true := canAll h
  have e2 : PyData.depth (.list (ns.map PyData.str)) = 1 := by show PyData.depthAll (ns.map PyData.str) + 1 = 1; rw [depAll]
  unfold SeqAt.shaped
  rw [e1, e2]; rfl
theorem shaped_t (h : ∀ w, w ∈ ns → okS w) : SeqAt.shaped (.tuple (ns.map PyData.str)) = true := by
  have e1 : PyData.canLay0 (.tuple (ns.map PyData.str)) = true := canAll h
  have e2 : PyData.depth (.tuple (ns.map PyData.str)) = 1 := by show PyData.depthAll (ns.map PyData.str) + 1 = 1; rw [depAll]
  unfold SeqAt.shaped
  rw [e1, e2]; rfl
theorem eqD_lst (h1 : ∀ w, w ∈ ns → okS w) (h2 : ∀ w, w ∈ ms → okS w) (k : Ψ (decide (ns = ms))) : eqD (.lst (sd ns)) (.lst (sd ms)) Ψ := by
  show eqDeep (.lst (sd ns)) (.lst (sd ms)) Ψ
  have e : ∀ l, toPy (.lst (sd l)) = some (.list (l.map PyData.str)) := fun l => by show (toPyL (sd l)).map PyData.list = _; rw [toPy_sd]; rfl
  unfold eqDeep
  rw [e, e]
  refine ⟨shaped_l h1, shaped_l h2, ?_⟩
  show Ψ (PyData.eqvAll (ns.map PyData.str) (ms.map PyData.str))
  rw [eqvAll_sd]; exact k
theorem eqD_tup {x y : Bool} (h1 : ∀ w, w ∈ ns → okS w) (h2 : ∀ w, w ∈ ms → okS w) (k : Ψ (decide (ns = ms))) : eqD (.tup x (sd ns)) (.tup y (sd ms)) Ψ := by
  show eqDeep (.tup x (sd ns)) (.tup y (sd ms)) Ψ
  have e : ∀ x l, toPy (.tup x (sd l)) = some (.tuple (l.map PyData.str)) := fun x l => by show (toPyL (sd l)).map PyData.tuple = _; rw [toPy_sd]; rfl
  unfold eqDeep
  rw [e, e]
  refine ⟨shaped_t h1, shaped_t h2, ?_⟩
  show Ψ (PyData.eqvAll (ns.map PyData.str) (ms.map PyData.str))
  rw [eqvAll_sd]; exact k
theorem eqD_str {a b : Str} (k : Ψ (decide (a = b))) : eqD (.str a) (.str b) Ψ := k
theorem eqD_int {a b : Int} (k : Ψ (decide (a = b))) : eqD (.int a) (.int b) Ψ := k
theorem eqD_bl {a b : Bool} (k : Ψ (decide (a = b))) : eqD (.bl a) (.bl b) Ψ := k
/-- lists of bools -/
theorem eqD_bls {a b : List Bool} (k : Ψ (decide (a = b))) : eqD (.lst (a.map .bl)) (.lst (b.map .bl)) Ψ := by
  show eqDeep (.lst (a.map .bl)) (.lst (b.map .bl)) Ψ
  have e0 : ∀ l : List Bool, toPyL (l.map .bl) = some (l.map PyData.bool) := fun l => by
    induction l with
    | nil => rfl
    | cons a l ih =>
      show (match toPy (.bl a), toPyL (l.map .bl) with
        | some p, some ps => some (p :: ps)
        | _, _ => Option.none) = _
      rw [ih]; rfl
  have e : ∀ l : List Bool, toPy (.lst (l.map .bl)) = some (.list (l.map PyData.bool)) := fun l => by show (toPyL (l.map .bl)).map PyData.list = _; rw [e0]; rfl
  have c : ∀ l : List Bool, PyData.canLayAll0 (l.map PyData.bool) = true := fun l => by
    induction l with
    | nil => rfl
    | cons a l ih => exact ih
  have dp : ∀ l : List Bool, PyData.depthAll (l.map PyData.bool) = 0 := fun l => by
    induction l with
    | nil => rfl
    | cons a l ih => show max 0 (PyData.depthAll (l.map PyData.bool)) = 0; rw [ih]; rfl
  have sh : ∀ l : List Bool, SeqAt.shaped (.list (l.map PyData.bool)) = true := fun l => by
    have e2 : PyData.depth (.list (l.map PyData.bool)) = 1 := by show PyData.depthAll (l.map PyData.bool) + 1 = 1; rw [dp]
    unfold SeqAt.shaped
    rw [show PyData.canLay0 (.list (l.map PyData.bool)) = true from c l, e2]; rfl
  have ev : ∀ l m : List Bool, PyData.eqvAll (l.map PyData.bool) (m.map PyData.bool) = decide (l = m) := fun l => by
    induction l with
    | nil => intro m; cases m <;> rfl
    | cons a l ih =>
      intro m
      cases m with
      | nil => rfl
      | cons b m =>
        show ((a == b) && PyData.eqvAll (l.map PyData.bool) (m.map PyData.bool)) = _
        rw [ih]
        by_cases h : a = b
        · subst h; by_cases h2 : l = m <;> simp [h2]
        · simp [h]
  unfold eqDeep
  rw [e, e]
  refine ⟨sh a, sh b, ?_⟩
  show Ψ (PyData.eqvAll (a.map PyData.bool) (b.map PyData.bool))
  rw [ev]; exact k
end
/-! ### comprehensions -/
theorem lc_map {ds : List DV} {ρ : Env'} {vs : List Nat} {i : Nat} {te : VE} {Ψ : R → Prop} (f : DV → DV) (hl : ds.length ≤ 100000) (he : ∀ d, d ∈ ds → te ((wipeD ρ vs).set i (.sh d)) (fun r => r.good ∧ r.d = f d) NoX) (k : Ψ (.fr (ds.map f))) :
    ds.length ≤ 100000 ∧ ∃ (p : DV → Bool) (f : DV → DV), (∀ d, d ∈ ds → vYes ((wipeD ρ vs).set i (.sh d)) (fun b => b = p d ∧ (b = true → te ((wipeD ρ vs).set i (.sh d)) (fun r => r.good ∧ r.d = f d) NoX)) NoX) ∧ Ψ (.fr ((ds.filter p).map f)) := by
  refine ⟨hl, fun _ => true, f, fun d hd => ⟨rfl, fun _ => he d hd⟩, ?_⟩
  rw [List.filter_eq_self.mpr fun _ _ => rfl]
  exact k
theorem lc_fil {ds : List DV} {ρ : Env'} {vs : List Nat} {i : Nat} {tt : VT} {te : VE} {Ψ : R → Prop} (p : DV → Bool) (f : DV → DV) (hl : ds.length ≤ 100000) (ht : ∀ d, d ∈ ds → tt ((wipeD ρ vs).set i (.sh d)) (fun b => b = p d ∧ (b = true → te ((wipeD ρ vs).set i (.sh d)) (fun r => r.good ∧ r.d = f d) NoX)) NoX) (k : Ψ (.fr ((ds.filter p).map f))) :
    ds.length ≤ 100000 ∧ ∃ (p : DV → Bool) (f : DV → DV), (∀ d, d ∈ ds → tt ((wipeD ρ vs).set i (.sh d)) (fun b => b = p d ∧ (b = true → te ((wipeD ρ vs).set i (.sh d)) (fun r => r.good ∧ r.d = f d) NoX)) NoX) ∧ Ψ (.fr ((ds.filter p).map f)) := ⟨hl, p, f, ht, k⟩
theorem vlc_map {s : VI} {i : Nat} {te : VE} {vs : List Nat} {ρ : Env'} {Ψ : R → Prop} {Ξ : XP} (ds : List DV) (hs : ∀ P : List DV → Prop, P ds → s ρ P Ξ) (f : DV → DV) (hl : ds.length ≤ 100000) (he : ∀ d, d ∈ ds → te ((wipeD ρ vs).set i (.sh d)) (fun r => r.good ∧ r.d = f d) NoX) (k : Ψ (.fr (ds.map f))) : vLc s i vYes te vs ρ Ψ Ξ := by
  unfold vLc
  exact hs _ (lc_map f hl he k)
theorem vlc_fil {s : VI} {i : Nat} {tt : VT} {te : VE} {vs : List Nat} {ρ : Env'} {Ψ : R → Prop} {Ξ : XP} (ds : List DV) (hs : ∀ P : List DV → Prop, P ds → s ρ P Ξ) (p : DV → Bool) (f : DV → DV) (hl : ds.length ≤ 100000) (ht : ∀ d, d ∈ ds → tt ((wipeD ρ vs).set i (.sh d)) (fun b => b = p d ∧ (b = true → te ((wipeD ρ vs).set i (.sh d)) (fun r => r.good ∧ r.d = f d) NoX)) NoX) (k : Ψ (.fr ((ds.filter p).map f))) : vLc s i tt te vs ρ Ψ Ξ := by
  unfold vLc
  exact hs _ (lc_fil p f hl ht k)
/-- a for over known data, by an invariant -/
theorem vfor {s : VI} {g : VG} {tb : VS} {D : EndsD} {ρ : Env'} (ds : List DV) (hs : ∀ P : List DV → Prop, P ds → s ρ P (D.ex ρ)) (I : Nat → Env' → Prop) (h0 : I 0 ρ)
    (turn : ∀ i d ρ1, ds[i]? = some d → I i ρ1 → g d ρ1 (fun ρ2 => tb { D with nx := I (i + 1), ct := I (i + 1), bk := D.nx } ρ2)) (fin : ∀ ρ1, I ds.length ρ1 → D.nx ρ1) : vFor s g tb D ρ := by
  unfold vFor
  exact hs _ ⟨I, h0, turn, fin⟩
theorem vhds_yes {K : PySem.W.Frag} {q : VCl} {r : List VCl} {D : EndsD} {ρ : Env'} {x : Xn} (h : PySem.W.exmOne K (.ref x.C) q.c = some true) (k : q.t (clED q.i D) (clR q.i (.ex x) ρ)) : vHds K (q :: r) D ρ x := by
  unfold vHds
  rw [h]; exact k
theorem vhds_no {K : PySem.W.Frag} {q : VCl} {r : List VCl} {D : EndsD} {ρ : Env'} {x : Xn} (h : PySem.W.exmOne K (.ref x.C) q.c = some false) (k : vHds K r D ρ x) : vHds K (q :: r) D ρ x := by
  unfold vHds
  rw [h]; exact k
end DL
/-! K09: the text by places, what is asked of the top. Printed by gen.py. -/
namespace K09
open PySem L2 DL PySem.Spec

def top (i : Nat) : Stmt := PySem.Challenge.pw_standingrows_k09_rounds.main.body.getD i (.Pass ⟨0, 0, 0, 0⟩)
abbrev s_UnknownColumn_init : Stmt := inClass (top 4) 0
abbrev s_BadRound_init : Stmt := inClass (top 5) 0
abbrev s_BadNumber_init : Stmt := inClass (top 6) 0
abbrev s_SameColumn_init : Stmt := inClass (top 7) 0
abbrev s_is_name : Stmt := top 11
abbrev s_check_known : Stmt := top 12
abbrev s_check_different : Stmt := top 15
abbrev s_Round_init : Stmt := inClass (top 16) 0
abbrev s_Round_len : Stmt := inClass (top 16) 1
abbrev s_Round_iter : Stmt := inClass (top 16) 2
abbrev s_Round_contains : Stmt := inClass (top 16) 3
abbrev s_Round_getitem : Stmt := inClass (top 16) 4
abbrev s_Round_lshift : Stmt := inClass (top 16) 5
abbrev s_Round_rshift : Stmt := inClass (top 16) 6
abbrev s_Round_invert : Stmt := inClass (top 16) 7
abbrev s_Round_eq : Stmt := inClass (top 16) 8
abbrev s_Round_cut : Stmt := inClass (top 16) 9
abbrev s_Round_splits : Stmt := inClass (top 16) 10
abbrev s__law_cell : Stmt := top 18
abbrev s__law_pool : Stmt := top 19
abbrev s__law_whole : Stmt := top 20
abbrev s__law_word : Stmt := top 21
abbrev s__law_new : Stmt := top 22
abbrev s__law_sequence : Stmt := top 23
abbrev s__law_from : Stmt := top 24
abbrev s__law_back : Stmt := top 25
abbrev s__law_is_round : Stmt := top 26
abbrev s__law_turned_right : Stmt := top 27
abbrev s__law_turns : Stmt := top 28
abbrev s__law_equals : Stmt := top 29
abbrev s__law_cut_is : Stmt := top 30
abbrev s__law_ahead : Stmt := top 31
abbrev s__law_splits_are : Stmt := top 32
abbrev s__law_refused : Stmt := top 33
abbrev s__law_lists_refused : Stmt := top 34
abbrev s_law : Stmt := top 35
structure Ad where
  c_RowsError : Addr
  c_Unknown : Addr
  c_Impossible : Addr
  c_UnknownColumn : Addr
  c_BadRound : Addr
  c_BadNumber : Addr
  c_SameColumn : Addr
  c_Round : Addr
  f_UnknownColumn_init : Addr
  fd_UnknownColumn_init : FuncData
  f_BadRound_init : Addr
  fd_BadRound_init : FuncData
  f_BadNumber_init : Addr
  fd_BadNumber_init : FuncData
  f_SameColumn_init : Addr
  fd_SameColumn_init : FuncData
  f_is_name : Addr
  fd_is_name : FuncData
  f_check_known : Addr
  fd_check_known : FuncData
  f_check_different : Addr
  fd_check_different : FuncData
  f_Round_init : Addr
  fd_Round_init : FuncData
  f_Round_len : Addr
  fd_Round_len : FuncData
  f_Round_iter : Addr
  fd_Round_iter : FuncData
  f_Round_contains : Addr
  fd_Round_contains : FuncData
  f_Round_getitem : Addr
  fd_Round_getitem : FuncData
  f_Round_lshift : Addr
  fd_Round_lshift : FuncData
  f_Round_rshift : Addr
  fd_Round_rshift : FuncData
  f_Round_invert : Addr
  fd_Round_invert : FuncData
  f_Round_eq : Addr
  fd_Round_eq : FuncData
  f_Round_cut : Addr
  fd_Round_cut : FuncData
  f_Round_splits : Addr
  fd_Round_splits : FuncData
  f__law_cell : Addr
  fd__law_cell : FuncData
  f__law_pool : Addr
  fd__law_pool : FuncData
  f__law_whole : Addr
  fd__law_whole : FuncData
  f__law_word : Addr
  fd__law_word : FuncData
  f__law_new : Addr
  fd__law_new : FuncData
  f__law_sequence : Addr
  fd__law_sequence : FuncData
  f__law_from : Addr
  fd__law_from : FuncData
  f__law_back : Addr
  fd__law_back : FuncData
  f__law_is_round : Addr
  fd__law_is_round : FuncData
  f__law_turned_right : Addr
  fd__law_turned_right : FuncData
  f__law_turns : Addr
  fd__law_turns : FuncData
  f__law_equals : Addr
  fd__law_equals : FuncData
  f__law_cut_is : Addr
  fd__law_cut_is : FuncData
  f__law_ahead : Addr
  fd__law_ahead : FuncData
  f__law_splits_are : Addr
  fd__law_splits_are : FuncData
  f__law_refused : Addr
  fd__law_refused : FuncData
  f__law_lists_refused : Addr
  fd__law_lists_refused : FuncData
  f_law : Addr
  fd_law : FuncData
structure Txt (K : PySem.W.Frag) (mg : Str → Option Value) (A : Ad) : Prop where
  F_UnknownColumn_init : Fun K "__init__" "UnknownColumn.__init__" s_UnknownColumn_init A.f_UnknownColumn_init A.fd_UnknownColumn_init
  B_UnknownColumn_init : Binds K A.fd_UnknownColumn_init ["self", "name"] []
  F_BadRound_init : Fun K "__init__" "BadRound.__init__" s_BadRound_init A.f_BadRound_init A.fd_BadRound_init
  B_BadRound_init : Binds K A.fd_BadRound_init ["self", "index"] []
  F_BadNumber_init : Fun K "__init__" "BadNumber.__init__" s_BadNumber_init A.f_BadNumber_init A.fd_BadNumber_init
  B_BadNumber_init : Binds K A.fd_BadNumber_init ["self", "number"] []
  F_SameColumn_init : Fun K "__init__" "SameColumn.__init__" s_SameColumn_init A.f_SameColumn_init A.fd_SameColumn_init
  B_SameColumn_init : Binds K A.fd_SameColumn_init ["self", "name"] []
  F_is_name : Fun K "is_name" "is_name" s_is_name A.f_is_name A.fd_is_name
  B_is_name : Binds K A.fd_is_name ["text"] []
  F_check_known : Fun K "check_known" "check_known" s_check_known A.f_check_known A.fd_check_known
  B_check_known : Binds K A.fd_check_known ["columns", "names"] []
  F_check_different : Fun K "check_different" "check_different" s_check_different A.f_check_different A.fd_check_different
  B_check_different : Binds K A.fd_check_different ["known", "names"] []
  F_Round_init : Fun K "__init__" "Round.__init__" s_Round_init A.f_Round_init A.fd_Round_init
  B_Round_init : Binds K A.fd_Round_init ["self", "names"] []
  F_Round_len : Fun K "__len__" "Round.__len__" s_Round_len A.f_Round_len A.fd_Round_len
  B_Round_len : Binds K A.fd_Round_len ["self"] []
  F_Round_iter : Fun K "__iter__" "Round.__iter__" s_Round_iter A.f_Round_iter A.fd_Round_iter
  B_Round_iter : Binds K A.fd_Round_iter ["self"] []
  F_Round_contains : Fun K "__contains__" "Round.__contains__" s_Round_contains A.f_Round_contains A.fd_Round_contains
  B_Round_contains : Binds K A.fd_Round_contains ["self", "name"] []
  F_Round_getitem : Fun K "__getitem__" "Round.__getitem__" s_Round_getitem A.f_Round_getitem A.fd_Round_getitem
  B_Round_getitem : Binds K A.fd_Round_getitem ["self", "places"] []
  F_Round_lshift : Fun K "__lshift__" "Round.__lshift__" s_Round_lshift A.f_Round_lshift A.fd_Round_lshift
  B_Round_lshift : Binds K A.fd_Round_lshift ["self", "places"] []
  F_Round_rshift : Fun K "__rshift__" "Round.__rshift__" s_Round_rshift A.f_Round_rshift A.fd_Round_rshift
  B_Round_rshift : Binds K A.fd_Round_rshift ["self", "places"] []
  F_Round_invert : Fun K "__invert__" "Round.__invert__" s_Round_invert A.f_Round_invert A.fd_Round_invert
  B_Round_invert : Binds K A.fd_Round_invert ["self"] []
  F_Round_eq : Fun K "__eq__" "Round.__eq__" s_Round_eq A.f_Round_eq A.fd_Round_eq
  B_Round_eq : Binds K A.fd_Round_eq ["self", "other"] []
  F_Round_cut : Fun K "cut" "Round.cut" s_Round_cut A.f_Round_cut A.fd_Round_cut
  B_Round_cut : Binds K A.fd_Round_cut ["self", "name"] []
  F_Round_splits : Fun K "splits" "Round.splits" s_Round_splits A.f_Round_splits A.fd_Round_splits
  B_Round_splits : Binds K A.fd_Round_splits ["self", "p", "q", "r", "s"] []
  F__law_cell : Fun K "_law_cell" "_law_cell" s__law_cell A.f__law_cell A.fd__law_cell
  B__law_cell : Binds K A.fd__law_cell ["script", "k"] []
  F__law_pool : Fun K "_law_pool" "_law_pool" s__law_pool A.f__law_pool A.fd__law_pool
  B__law_pool : Binds K A.fd__law_pool ["script", "k", "count"] []
  F__law_whole : Fun K "_law_whole" "_law_whole" s__law_whole A.f__law_whole A.fd__law_whole
  B__law_whole : Binds K A.fd__law_whole ["pool", "i"] []
  F__law_word : Fun K "_law_word" "_law_word" s__law_word A.f__law_word A.fd__law_word
  B__law_word : Binds K A.fd__law_word ["pool", "at"] []
  F__law_new : Fun K "_law_new" "_law_new" s__law_new A.f__law_new A.fd__law_new
  B__law_new : Binds K A.fd__law_new ["names", "word"] []
  F__law_sequence : Fun K "_law_sequence" "_law_sequence" s__law_sequence A.f__law_sequence A.fd__law_sequence
  B__law_sequence : Binds K A.fd__law_sequence ["names", "draw"] []
  F__law_from : Fun K "_law_from" "_law_from" s__law_from A.f__law_from A.fd__law_from
  B__law_from : Binds K A.fd__law_from ["names", "places"] []
  F__law_back : Fun K "_law_back" "_law_back" s__law_back A.f__law_back A.fd__law_back
  B__law_back : Binds K A.fd__law_back ["names"] []
  F__law_is_round : Fun K "_law_is_round" "_law_is_round" s__law_is_round A.f__law_is_round A.fd__law_is_round
  B__law_is_round : Binds K A.fd__law_is_round ["found", "due"] []
  F__law_turned_right : Fun K "_law_turned_right" "_law_turned_right" s__law_turned_right A.f__law_turned_right A.fd__law_turned_right
  B__law_turned_right : Binds K A.fd__law_turned_right ["turned", "due"] []
  F__law_turns : Fun K "_law_turns" "_law_turns" s__law_turns A.f__law_turns A.fd__law_turns
  B__law_turns : Binds K A.fd__law_turns ["ring", "names", "places"] []
  F__law_equals : Fun K "_law_equals" "_law_equals" s__law_equals A.f__law_equals A.fd__law_equals
  B__law_equals : Binds K A.fd__law_equals ["ring", "names", "others"] []
  F__law_cut_is : Fun K "_law_cut_is" "_law_cut_is" s__law_cut_is A.f__law_cut_is A.fd__law_cut_is
  B__law_cut_is : Binds K A.fd__law_cut_is ["ring", "names", "name"] []
  F__law_ahead : Fun K "_law_ahead" "_law_ahead" s__law_ahead A.f__law_ahead A.fd__law_ahead
  B__law_ahead : Binds K A.fd__law_ahead ["names", "start", "one", "other"] []
  F__law_splits_are : Fun K "_law_splits_are" "_law_splits_are" s__law_splits_are A.f__law_splits_are A.fd__law_splits_are
  B__law_splits_are : Binds K A.fd__law_splits_are ["ring", "names", "four"] []
  F__law_refused : Fun K "_law_refused" "_law_refused" s__law_refused A.f__law_refused A.fd__law_refused
  B__law_refused : Binds K A.fd__law_refused ["names"] []
  F__law_lists_refused : Fun K "_law_lists_refused" "_law_lists_refused" s__law_lists_refused A.f__law_lists_refused A.fd__law_lists_refused
  B__law_lists_refused : Binds K A.fd__law_lists_refused ["names", "pool"] []
  F_law : Fun K "law" "law" s_law A.f_law A.fd_law
  B_law : Binds K A.fd_law ["script"] []
  m__law_ahead : mg "_law_ahead" = some (.ref A.f__law_ahead)
  k__law_ahead : PySem.W.keepIn K (.ref A.f__law_ahead) = true
  m__law_back : mg "_law_back" = some (.ref A.f__law_back)
  k__law_back : PySem.W.keepIn K (.ref A.f__law_back) = true
  m__law_cell : mg "_law_cell" = some (.ref A.f__law_cell)
  k__law_cell : PySem.W.keepIn K (.ref A.f__law_cell) = true
  m__law_cut_is : mg "_law_cut_is" = some (.ref A.f__law_cut_is)
  k__law_cut_is : PySem.W.keepIn K (.ref A.f__law_cut_is) = true
  m__law_equals : mg "_law_equals" = some (.ref A.f__law_equals)
  k__law_equals : PySem.W.keepIn K (.ref A.f__law_equals) = true
  m__law_from : mg "_law_from" = some (.ref A.f__law_from)
  k__law_from : PySem.W.keepIn K (.ref A.f__law_from) = true
  m__law_is_round : mg "_law_is_round" = some (.ref A.f__law_is_round)
  k__law_is_round : PySem.W.keepIn K (.ref A.f__law_is_round) = true
  m__law_lists_refused : mg "_law_lists_refused" = some (.ref A.f__law_lists_refused)
  k__law_lists_refused : PySem.W.keepIn K (.ref A.f__law_lists_refused) = true
  m__law_new : mg "_law_new" = some (.ref A.f__law_new)
  k__law_new : PySem.W.keepIn K (.ref A.f__law_new) = true
  m__law_pool : mg "_law_pool" = some (.ref A.f__law_pool)
  k__law_pool : PySem.W.keepIn K (.ref A.f__law_pool) = true
  m__law_refused : mg "_law_refused" = some (.ref A.f__law_refused)
  k__law_refused : PySem.W.keepIn K (.ref A.f__law_refused) = true
  m__law_sequence : mg "_law_sequence" = some (.ref A.f__law_sequence)
  k__law_sequence : PySem.W.keepIn K (.ref A.f__law_sequence) = true
  m__law_splits_are : mg "_law_splits_are" = some (.ref A.f__law_splits_are)
  k__law_splits_are : PySem.W.keepIn K (.ref A.f__law_splits_are) = true
  m__law_turned_right : mg "_law_turned_right" = some (.ref A.f__law_turned_right)
  k__law_turned_right : PySem.W.keepIn K (.ref A.f__law_turned_right) = true
  m__law_turns : mg "_law_turns" = some (.ref A.f__law_turns)
  k__law_turns : PySem.W.keepIn K (.ref A.f__law_turns) = true
  m__law_whole : mg "_law_whole" = some (.ref A.f__law_whole)
  k__law_whole : PySem.W.keepIn K (.ref A.f__law_whole) = true
  m__law_word : mg "_law_word" = some (.ref A.f__law_word)
  k__law_word : PySem.W.keepIn K (.ref A.f__law_word) = true
  m_check_different : mg "check_different" = some (.ref A.f_check_different)
  k_check_different : PySem.W.keepIn K (.ref A.f_check_different) = true
  m_check_known : mg "check_known" = some (.ref A.f_check_known)
  k_check_known : PySem.W.keepIn K (.ref A.f_check_known) = true
  m_is_name : mg "is_name" = some (.ref A.f_is_name)
  k_is_name : PySem.W.keepIn K (.ref A.f_is_name) = true
  m_BadNumber : mg "BadNumber" = some (.ref A.c_BadNumber)
  m_BadRound : mg "BadRound" = some (.ref A.c_BadRound)
  m_Impossible : mg "Impossible" = some (.ref A.c_Impossible)
  m_Round : mg "Round" = some (.ref A.c_Round)
  m_RowsError : mg "RowsError" = some (.ref A.c_RowsError)
  m_SameColumn : mg "SameColumn" = some (.ref A.c_SameColumn)
  m_Unknown : mg "Unknown" = some (.ref A.c_Unknown)
  m_UnknownColumn : mg "UnknownColumn" = some (.ref A.c_UnknownColumn)
  g_LONGEST_NAME : ∃ t, mg "LONGEST_NAME" = some (.int 8 t)
  g_MOST_NAMES : ∃ t, mg "MOST_NAMES" = some (.int 12 t)
  g_LETTERS : ∃ t, mg "LETTERS" = some (.str "abcdefghijklmnopqrstuvwxyz" t)
  b_ValueError : mg "ValueError" = Option.none
  b_abs : mg "abs" = Option.none
  b_all : mg "all" = Option.none
  b_any : mg "any" = Option.none
  b_bool : mg "bool" = Option.none
  b_enumerate : mg "enumerate" = Option.none
  b_int : mg "int" = Option.none
  b_isinstance : mg "isinstance" = Option.none
  b_len : mg "len" = Option.none
  b_list : mg "list" = Option.none
  b_range : mg "range" = Option.none
  b_str : mg "str" = Option.none
  b_tuple : mg "tuple" = Option.none
  b_iter : mg "iter" = Option.none
  cl_Round : Cls K A.c_Round
  na_Round_names : NoAttr K A.c_Round "names"
  mk_Round : Mk K A.c_Round A.f_Round_init
  me_Round_cut : Meth K A.c_Round "cut" A.f_Round_cut
  me_Round_splits : Meth K A.c_Round "splits" A.f_Round_splits
  d_Round_contains : Dun K A.c_Round A.f_Round_contains "__contains__"
  d_Round_eq : Dun K A.c_Round A.f_Round_eq "__eq__"
  d_Round_getitem : Dun K A.c_Round A.f_Round_getitem "__getitem__"
  d_Round_invert : Dun K A.c_Round A.f_Round_invert "__invert__"
  d_Round_iter : Dun K A.c_Round A.f_Round_iter "__iter__"
  d_Round_len : Dun K A.c_Round A.f_Round_len "__len__"
  d_Round_lshift : Dun K A.c_Round A.f_Round_lshift "__lshift__"
  d_Round_rshift : Dun K A.c_Round A.f_Round_rshift "__rshift__"
  fi_Round : PySem.W.fnIn K A.f_Round_getitem = true
  sf_Round : PySem.W.selfFirst K A.c_Round = true
  us_Round : PySem.W.subIn K (.type "int") (.ref A.c_Round) = some false
  rr_Round_lshift : PySem.W.findIn K (.ref A.c_Round) "__rlshift__" = some Option.none
  rr_Round_rshift : PySem.W.findIn K (.ref A.c_Round) "__rrshift__" = some Option.none
  if_lshift : PySem.W.findIn K (.type "int") "__lshift__" = some (some (.builtin "int.__lshift__"))
  ir_lshift : PySem.W.findIn K (.type "int") "__rlshift__" = some (some (.builtin "int.__rlshift__"))
  if_rshift : PySem.W.findIn K (.type "int") "__rshift__" = some (some (.builtin "int.__rshift__"))
  ir_rshift : PySem.W.findIn K (.type "int") "__rrshift__" = some (some (.builtin "int.__rrshift__"))
  ic_Round : InsC K A.c_Round
  ox_BadNumber : OexC K A.c_BadNumber
  ei_BadNumber : PySem.W.findIn K (.ref A.c_BadNumber) "__init__" = some (some (.ref A.f_BadNumber_init))
  et_BadNumber : PySem.W.typeIn K (.ref A.f_BadNumber_init) = some (.type "function")
  en_BadNumber_number : PySem.W.findIn K (.ref A.c_BadNumber) "number" = some Option.none
  ox_BadRound : OexC K A.c_BadRound
  ei_BadRound : PySem.W.findIn K (.ref A.c_BadRound) "__init__" = some (some (.ref A.f_BadRound_init))
  et_BadRound : PySem.W.typeIn K (.ref A.f_BadRound_init) = some (.type "function")
  en_BadRound_index : PySem.W.findIn K (.ref A.c_BadRound) "index" = some Option.none
  ox_SameColumn : OexC K A.c_SameColumn
  ei_SameColumn : PySem.W.findIn K (.ref A.c_SameColumn) "__init__" = some (some (.ref A.f_SameColumn_init))
  et_SameColumn : PySem.W.typeIn K (.ref A.f_SameColumn_init) = some (.type "function")
  en_SameColumn_name : PySem.W.findIn K (.ref A.c_SameColumn) "name" = some Option.none
  ox_UnknownColumn : OexC K A.c_UnknownColumn
  ei_UnknownColumn : PySem.W.findIn K (.ref A.c_UnknownColumn) "__init__" = some (some (.ref A.f_UnknownColumn_init))
  et_UnknownColumn : PySem.W.typeIn K (.ref A.f_UnknownColumn_init) = some (.type "function")
  en_UnknownColumn_name : PySem.W.findIn K (.ref A.c_UnknownColumn) "name" = some Option.none
  xf_BadNumber_number : XEr K A.c_BadNumber "number"
  xf_BadRound_index : XEr K A.c_BadRound "index"
  xf_SameColumn_name : XEr K A.c_SameColumn "name"
  xf_UnknownColumn_name : XEr K A.c_UnknownColumn "name"
  xi_BadNumber : XIs K A.c_BadNumber
  xi_BadRound : XIs K A.c_BadRound
  xi_SameColumn : XIs K A.c_SameColumn
  xi_UnknownColumn : XIs K A.c_UnknownColumn
  kt_BadNumber_Impossible : PySem.W.kitOne K (.ref A.c_BadNumber) (.ref A.c_Impossible) = some false
  kt_BadNumber_RowsError : PySem.W.kitOne K (.ref A.c_BadNumber) (.ref A.c_RowsError) = some true
  kt_BadNumber_Unknown : PySem.W.kitOne K (.ref A.c_BadNumber) (.ref A.c_Unknown) = some false
  kt_BadNumber_ValueError : PySem.W.kitOne K (.ref A.c_BadNumber) (.type "ValueError") = some true
  kt_BadRound_Impossible : PySem.W.kitOne K (.ref A.c_BadRound) (.ref A.c_Impossible) = some false
  kt_BadRound_RowsError : PySem.W.kitOne K (.ref A.c_BadRound) (.ref A.c_RowsError) = some true
  kt_BadRound_Unknown : PySem.W.kitOne K (.ref A.c_BadRound) (.ref A.c_Unknown) = some false
  kt_BadRound_ValueError : PySem.W.kitOne K (.ref A.c_BadRound) (.type "ValueError") = some true
  kt_SameColumn_Impossible : PySem.W.kitOne K (.ref A.c_SameColumn) (.ref A.c_Impossible) = some false
  kt_SameColumn_RowsError : PySem.W.kitOne K (.ref A.c_SameColumn) (.ref A.c_RowsError) = some true
  kt_SameColumn_Unknown : PySem.W.kitOne K (.ref A.c_SameColumn) (.ref A.c_Unknown) = some false
  kt_UnknownColumn_Impossible : PySem.W.kitOne K (.ref A.c_UnknownColumn) (.ref A.c_Impossible) = some false
  kt_UnknownColumn_RowsError : PySem.W.kitOne K (.ref A.c_UnknownColumn) (.ref A.c_RowsError) = some true
  kt_UnknownColumn_Unknown : PySem.W.kitOne K (.ref A.c_UnknownColumn) (.ref A.c_Unknown) = some true
  kt_UnknownColumn_ValueError : PySem.W.kitOne K (.ref A.c_UnknownColumn) (.type "ValueError") = some true
  ex_BadNumber_BadNumber : PySem.W.exmOne K (.ref A.c_BadNumber) (.ref A.c_BadNumber) = some true
  ex_BadNumber_BadRound : PySem.W.exmOne K (.ref A.c_BadNumber) (.ref A.c_BadRound) = some false
  ex_BadNumber_SameColumn : PySem.W.exmOne K (.ref A.c_BadNumber) (.ref A.c_SameColumn) = some false
  ex_BadNumber_UnknownColumn : PySem.W.exmOne K (.ref A.c_BadNumber) (.ref A.c_UnknownColumn) = some false
  ex_BadRound_BadNumber : PySem.W.exmOne K (.ref A.c_BadRound) (.ref A.c_BadNumber) = some false
  ex_BadRound_BadRound : PySem.W.exmOne K (.ref A.c_BadRound) (.ref A.c_BadRound) = some true
  ex_BadRound_SameColumn : PySem.W.exmOne K (.ref A.c_BadRound) (.ref A.c_SameColumn) = some false
  ex_BadRound_UnknownColumn : PySem.W.exmOne K (.ref A.c_BadRound) (.ref A.c_UnknownColumn) = some false
  ex_SameColumn_BadNumber : PySem.W.exmOne K (.ref A.c_SameColumn) (.ref A.c_BadNumber) = some false
  ex_SameColumn_BadRound : PySem.W.exmOne K (.ref A.c_SameColumn) (.ref A.c_BadRound) = some false
  ex_SameColumn_SameColumn : PySem.W.exmOne K (.ref A.c_SameColumn) (.ref A.c_SameColumn) = some true
  ex_SameColumn_UnknownColumn : PySem.W.exmOne K (.ref A.c_SameColumn) (.ref A.c_UnknownColumn) = some false
  ex_UnknownColumn_BadNumber : PySem.W.exmOne K (.ref A.c_UnknownColumn) (.ref A.c_BadNumber) = some false
  ex_UnknownColumn_BadRound : PySem.W.exmOne K (.ref A.c_UnknownColumn) (.ref A.c_BadRound) = some false
  ex_UnknownColumn_SameColumn : PySem.W.exmOne K (.ref A.c_UnknownColumn) (.ref A.c_SameColumn) = some false
  ex_UnknownColumn_UnknownColumn : PySem.W.exmOne K (.ref A.c_UnknownColumn) (.ref A.c_UnknownColumn) = some true
  ki_Round : PySem.W.kitOne K (.ref A.c_Round) (.ref A.c_Round) = some true
abbrev N_UnknownColumn_init : List Str := ["self", "name"]
theorem sc_UnknownColumn_init : FnScope N_UnknownColumn_init ["self", "name"] (defScope s_UnknownColumn_init) := ⟨rfl, rfl, rfl, by decide +kernel, rfl, by decide +kernel, by decide +kernel⟩
abbrev N_BadRound_init : List Str := ["self", "index"]
theorem sc_BadRound_init : FnScope N_BadRound_init ["self", "index"] (defScope s_BadRound_init) := ⟨rfl, rfl, rfl, by decide +kernel, rfl, by decide +kernel, by decide +kernel⟩
abbrev N_BadNumber_init : List Str := ["self", "number"]
theorem sc_BadNumber_init : FnScope N_BadNumber_init ["self", "number"] (defScope s_BadNumber_init) := ⟨rfl, rfl, rfl, by decide +kernel, rfl, by decide +kernel, by decide +kernel⟩
abbrev N_SameColumn_init : List Str := ["self", "name"]
theorem sc_SameColumn_init : FnScope N_SameColumn_init ["self", "name"] (defScope s_SameColumn_init) := ⟨rfl, rfl, rfl, by decide +kernel, rfl, by decide +kernel, by decide +kernel⟩
abbrev N_is_name : List Str := ["text", "letter"]
theorem sc_is_name : FnScope N_is_name ["text"] (defScope s_is_name) := ⟨rfl, rfl, rfl, by decide +kernel, rfl, by decide +kernel, by decide +kernel⟩
abbrev N_check_known : List Str := ["columns", "names", "name"]
theorem sc_check_known : FnScope N_check_known ["columns", "names"] (defScope s_check_known) := ⟨rfl, rfl, rfl, by decide +kernel, rfl, by decide +kernel, by decide +kernel⟩
abbrev N_check_different : List Str := ["known", "names", "index", "name"]
theorem sc_check_different : FnScope N_check_different ["known", "names"] (defScope s_check_different) := ⟨rfl, rfl, rfl, by decide +kernel, rfl, by decide +kernel, by decide +kernel⟩
abbrev N_Round_init : List Str := ["self", "names", "index", "name"]
theorem sc_Round_init : FnScope N_Round_init ["self", "names"] (defScope s_Round_init) := ⟨rfl, rfl, rfl, by decide +kernel, rfl, by decide +kernel, by decide +kernel⟩
abbrev N_Round_len : List Str := ["self"]
theorem sc_Round_len : FnScope N_Round_len ["self"] (defScope s_Round_len) := ⟨rfl, rfl, rfl, by decide +kernel, rfl, by decide +kernel, by decide +kernel⟩
abbrev N_Round_iter : List Str := ["self"]
theorem sc_Round_iter : FnScope N_Round_iter ["self"] (defScope s_Round_iter) := ⟨rfl, rfl, rfl, by decide +kernel, rfl, by decide +kernel, by decide +kernel⟩
abbrev N_Round_contains : List Str := ["self", "name"]
theorem sc_Round_contains : FnScope N_Round_contains ["self", "name"] (defScope s_Round_contains) := ⟨rfl, rfl, rfl, by decide +kernel, rfl, by decide +kernel, by decide +kernel⟩
abbrev N_Round_getitem : List Str := ["self", "places"]
theorem sc_Round_getitem : FnScope N_Round_getitem ["self", "places"] (defScope s_Round_getitem) := ⟨rfl, rfl, rfl, by decide +kernel, rfl, by decide +kernel, by decide +kernel⟩
abbrev N_Round_lshift : List Str := ["self", "places", "start"]
theorem sc_Round_lshift : FnScope N_Round_lshift ["self", "places"] (defScope s_Round_lshift) := ⟨rfl, rfl, rfl, by decide +kernel, rfl, by decide +kernel, by decide +kernel⟩
abbrev N_Round_rshift : List Str := ["self", "places"]
theorem sc_Round_rshift : FnScope N_Round_rshift ["self", "places"] (defScope s_Round_rshift) := ⟨rfl, rfl, rfl, by decide +kernel, rfl, by decide +kernel, by decide +kernel⟩
abbrev N_Round_invert : List Str := ["self"]
theorem sc_Round_invert : FnScope N_Round_invert ["self"] (defScope s_Round_invert) := ⟨rfl, rfl, rfl, by decide +kernel, rfl, by decide +kernel, by decide +kernel⟩
abbrev N_Round_eq : List Str := ["self", "other", "k"]
theorem sc_Round_eq : FnScope N_Round_eq ["self", "other"] (defScope s_Round_eq) := ⟨rfl, rfl, rfl, by decide +kernel, rfl, by decide +kernel, by decide +kernel⟩
abbrev N_Round_cut : List Str := ["self", "name", "at"]
theorem sc_Round_cut : FnScope N_Round_cut ["self", "name"] (defScope s_Round_cut) := ⟨rfl, rfl, rfl, by decide +kernel, rfl, by decide +kernel, by decide +kernel⟩
abbrev N_Round_splits : List Str := ["self", "p", "q", "r", "s", "line", "ahead"]
theorem sc_Round_splits : FnScope N_Round_splits ["self", "p", "q", "r", "s"] (defScope s_Round_splits) := ⟨rfl, rfl, rfl, by decide +kernel, rfl, by decide +kernel, by decide +kernel⟩
abbrev N__law_cell : List Str := ["script", "k"]
theorem sc__law_cell : FnScope N__law_cell ["script", "k"] (defScope s__law_cell) := ⟨rfl, rfl, rfl, by decide +kernel, rfl, by decide +kernel, by decide +kernel⟩
abbrev N__law_pool : List Str := ["script", "k", "count", "value", "pool", "i", "first", "second", "third"]
theorem sc__law_pool : FnScope N__law_pool ["script", "k", "count"] (defScope s__law_pool) := ⟨rfl, rfl, rfl, by decide +kernel, rfl, by decide +kernel, by decide +kernel⟩
abbrev N__law_whole : List Str := ["pool", "i", "menu", "many", "draw"]
theorem sc__law_whole : FnScope N__law_whole ["pool", "i"] (defScope s__law_whole) := ⟨rfl, rfl, rfl, by decide +kernel, rfl, by decide +kernel, by decide +kernel⟩
abbrev N__law_word : List Str := ["pool", "at", "code", "size", "word", "i"]
theorem sc__law_word : FnScope N__law_word ["pool", "at"] (defScope s__law_word) := ⟨rfl, rfl, rfl, by decide +kernel, rfl, by decide +kernel, by decide +kernel⟩
abbrev N__law_new : List Str := ["names", "word", "letters", "turn"]
theorem sc__law_new : FnScope N__law_new ["names", "word"] (defScope s__law_new) := ⟨rfl, rfl, rfl, by decide +kernel, rfl, by decide +kernel, by decide +kernel⟩
abbrev N__law_sequence : List Str := ["names", "draw", "left", "row", "k", "pick"]
theorem sc__law_sequence : FnScope N__law_sequence ["names", "draw"] (defScope s__law_sequence) := ⟨rfl, rfl, rfl, by decide +kernel, rfl, by decide +kernel, by decide +kernel⟩
abbrev N__law_from : List Str := ["names", "places", "many", "start", "i"]
theorem sc__law_from : FnScope N__law_from ["names", "places"] (defScope s__law_from) := ⟨rfl, rfl, rfl, by decide +kernel, rfl, by decide +kernel, by decide +kernel⟩
abbrev N__law_back : List Str := ["names", "k"]
theorem sc__law_back : FnScope N__law_back ["names"] (defScope s__law_back) := ⟨rfl, rfl, rfl, by decide +kernel, rfl, by decide +kernel, by decide +kernel⟩
abbrev N__law_is_round : List Str := ["found", "due", "name"]
theorem sc__law_is_round : FnScope N__law_is_round ["found", "due"] (defScope s__law_is_round) := ⟨rfl, rfl, rfl, by decide +kernel, rfl, by decide +kernel, by decide +kernel⟩
abbrev N__law_turned_right : List Str := ["turned", "due", "many"]
theorem sc__law_turned_right : FnScope N__law_turned_right ["turned", "due"] (defScope s__law_turned_right) := ⟨rfl, rfl, rfl, by decide +kernel, rfl, by decide +kernel, by decide +kernel⟩
abbrev N__law_turns : List Str := ["ring", "names", "places", "later", "earlier", "kinds", "told", "word", "e"]
theorem sc__law_turns : FnScope N__law_turns ["ring", "names", "places"] (defScope s__law_turns) := ⟨rfl, rfl, rfl, by decide +kernel, rfl, by decide +kernel, by decide +kernel⟩
abbrev N__law_equals : List Str := ["ring", "names", "others", "due", "k", "other", "told"]
theorem sc__law_equals : FnScope N__law_equals ["ring", "names", "others"] (defScope s__law_equals) := ⟨rfl, rfl, rfl, by decide +kernel, rfl, by decide +kernel, by decide +kernel⟩
abbrev N__law_cut_is : List Str := ["ring", "names", "name", "found", "told", "kinds", "e", "inside", "due"]
theorem sc__law_cut_is : FnScope N__law_cut_is ["ring", "names", "name"] (defScope s__law_cut_is) := ⟨rfl, rfl, rfl, by decide +kernel, rfl, by decide +kernel, by decide +kernel⟩
abbrev N__law_ahead : List Str := ["names", "start", "one", "other", "line"]
theorem sc__law_ahead : FnScope N__law_ahead ["names", "start", "one", "other"] (defScope s__law_ahead) := ⟨rfl, rfl, rfl, by decide +kernel, rfl, by decide +kernel, by decide +kernel⟩
abbrev N__law_splits_are : List Str := ["ring", "names", "four", "wrong", "found", "told", "kinds", "e", "one", "other", "name", "k"]
theorem sc__law_splits_are : FnScope N__law_splits_are ["ring", "names", "four"] (defScope s__law_splits_are) := ⟨rfl, rfl, rfl, by decide +kernel, rfl, by decide +kernel, by decide +kernel⟩
abbrev N__law_refused : List Str := ["names", "fault", "k", "word", "good", "given", "found", "told", "kinds", "e"]
theorem sc__law_refused : FnScope N__law_refused ["names"] (defScope s__law_refused) := ⟨rfl, rfl, rfl, by decide +kernel, rfl, by decide +kernel, by decide +kernel⟩
abbrev N__law_lists_refused : List Str := ["names", "pool", "signs", "odd", "many", "turn", "line", "k", "twice"]
theorem sc__law_lists_refused : FnScope N__law_lists_refused ["names", "pool"] (defScope s__law_lists_refused) := ⟨rfl, rfl, rfl, by decide +kernel, rfl, by decide +kernel, by decide +kernel⟩
abbrev N_law : List Str := ["script", "pool", "other", "names", "k", "given", "ring", "stranger", "places", "mixed", "name", "known", "four"]
theorem sc_law : FnScope N_law ["script"] (defScope s_law) := ⟨rfl, rfl, rfl, by decide +kernel, rfl, by decide +kernel, by decide +kernel⟩
end K09
/-! K09: what each def promises, by data. -/
namespace K09
open PySem L2 DL PySem.Spec

abbrev Lt : Str := "abcdefghijklmnopqrstuvwxyz"
/-- a letter -/
def lett (c : Nat) : Bool := decide (c ∈ Lt.cps.toList)
def isN (w : Str) : Bool := decide (1 ≤ w.length) && decide (w.length ≤ 8) && w.cps.toList.all lett
/-- the place of the first name that is no name or stands ahead -/
def badAt (ns : List Str) (k : Nat) : Bool := match ns[k]? with
  | some w => !isN w || decide (w ∈ ns.take k)
  | _ => false
def fault (ns : List Str) : Option Nat := match (List.range ns.length).find? (badAt ns) with
  | some k => some k
  | _ => if 12 < ns.length then some 12 else Option.none
/-- texts that may be handed over -/
structure Ok (ns : List Str) : Prop where
  l : ns.length ≤ 1000
  w : ∀ x, x ∈ ns → okS x
/-- a ring's names -/
def Good (ns : List Str) : Prop := Ok ns ∧ fault ns = Option.none
def ring (A : Ad) (ns : List Str) : DV := .obj A.c_Round [("names", .tup true (sd ns))]
def rot (ns : List Str) (k : Nat) : List Str := ns.drop k ++ ns.take k
/-- turned by any number -/
def rotI (ns : List Str) (i : Int) : List Str := rot ns (i % (ns.length : Int)).toNat
def back (ns : List Str) : List Str := ns.take 1 ++ (ns.drop 1).reverse
def idx (ns : List Str) (w : Str) : Nat := ns.findIdx (· == w)
def cutAt (ns : List Str) (w : Str) : List Str := ns.drop (idx ns w + 1) ++ ns.take (idx ns w)
/-- the first of ms that is not among ns | that stands ahead in ms -/
def stranger (ns ms : List Str) : Option Str := ms.find? fun w => !decide (w ∈ ns)
def twice (ms : List Str) : Option Str := ((List.range ms.length).find? fun k => match ms[k]? with
  | some w => decide (w ∈ ms.take k)
  | _ => false).bind (ms[·]?)
def eqR (ns ms : List Str) : Bool := (List.range (ms.length + 1)).any fun k => decide (ns = rot ms k)
def xn1 (C : Addr) (f : Str) (d : DV) : Xn := ⟨C, [(f, d)]⟩

abbrev One (P : DV → Prop) (K : DV → (R → Prop) → XP → Prop) : SpD := fun ds Ψ Ξ => ∃ d, ds = [d] ∧ P d ∧ K d Ψ Ξ
def S_is_name (_ : Ad) : SpD := fun ds Ψ _ => ∃ w, ds = [.str w] ∧ okS w ∧ Ψ (.sh (.bl (isN w)))
/-- a list or a tuple of texts -/
def seqOf (d : DV) (ns : List Str) : Prop := d = .lst (sd ns) ∨ ∃ x, d = .tup x (sd ns)
def S_check_known (A : Ad) : SpD := fun ds Ψ Ξ => ∃ d e ns ms, ds = [d, e] ∧ seqOf d ns ∧ seqOf e ms ∧ Ok ns ∧ Ok ms ∧ match stranger ns ms with
  | some w => Ξ (xn1 A.c_UnknownColumn "name" (.str w))
  | _ => Ψ (.sh .non)
def S_check_different (A : Ad) : SpD := fun ds Ψ Ξ => ∃ d e ns ms, ds = [d, e] ∧ seqOf d ns ∧ seqOf e ms ∧ Ok ns ∧ Ok ms ∧ match stranger ns ms with
  | some w => Ξ (xn1 A.c_UnknownColumn "name" (.str w))
  | _ => match twice ms with
    | some w => Ξ (xn1 A.c_SameColumn "name" (.str w))
    | _ => Ψ (.sh .non)
def S_Round_init (A : Ad) : SpI := fun ds Ψ Ξ => ∃ d ns, ds = [d] ∧ (d = .lst (sd ns) ∨ d = .tup true (sd ns)) ∧ Ok ns ∧ match fault ns with
  | some k => Ξ (xn1 A.c_BadRound "index" (.int (k : Nat)))
  | _ => Ψ [("names", .tup true (sd ns))]
def S_Round_len (A : Ad) : SpD := fun ds Ψ _ => ∃ ns, ds = [ring A ns] ∧ Ok ns ∧ Ψ (.sh (.int ns.length))
def S_Round_contains (A : Ad) : SpD := fun ds Ψ _ => ∃ ns w, ds = [ring A ns, .str w] ∧ Ok ns ∧ Ψ (.sh (.bl (decide (w ∈ ns))))
def S_Round_getitem (A : Ad) : SpD := fun ds Ψ Ξ => ∃ ns i, ds = [ring A ns, .int i] ∧ Ok ns ∧ match ns[(i % (ns.length : Int)).toNat]? with
  | some w => Ψ (.sh (.str w))
  | _ => Ξ (xn1 A.c_BadNumber "number" (.int i))
def S_Round_lshift (A : Ad) : SpD := fun ds Ψ _ => ∃ ns i, ds = [ring A ns, .int i] ∧ Good ns ∧ Ψ (.sh (ring A (rotI ns i)))
def S_Round_rshift (A : Ad) : SpD := fun ds Ψ _ => ∃ ns i, ds = [ring A ns, .int i] ∧ Good ns ∧ Ψ (.sh (ring A (rotI ns (0 - i))))
def S_Round_invert (A : Ad) : SpD := fun ds Ψ _ => ∃ ns, ds = [ring A ns] ∧ Good ns ∧ Ψ (.sh (ring A (back ns)))
def S_Round_eq (A : Ad) : SpD := fun ds Ψ _ => ∃ ns ms, ds = [ring A ns, ring A ms] ∧ Ok ns ∧ Ok ms ∧ Ψ (.sh (.bl (eqR ns ms)))
def S_Round_cut (A : Ad) : SpD := fun ds Ψ Ξ => ∃ ns w, ds = [ring A ns, .str w] ∧ Ok ns ∧ if w ∈ ns then Ψ (.fr (sd (cutAt ns w))) else Ξ (xn1 A.c_UnknownColumn "name" (.str w))
def S_Round_splits (A : Ad) : SpD := fun ds Ψ Ξ => ∃ ns p q r s, ds = [ring A ns, .str p, .str q, .str r, .str s] ∧ Ok ns ∧ Ok [p, q, r, s] ∧ match stranger ns [p, q, r, s] with
  | some w => Ξ (xn1 A.c_UnknownColumn "name" (.str w))
  | _ => match twice [p, q, r, s] with
    | some w => Ξ (xn1 A.c_SameColumn "name" (.str w))
    | _ => let l := cutAt ns p; let a := l.take (idx l q); Ψ (.sh (.bl (decide (r ∈ a) != decide (s ∈ a))))
/-! ### the law's own defs -/
def is27 (l : List Int) : Prop := ∀ x, x ∈ l → 0 ≤ x ∧ x < 27720
def S__law_cell (_ : Ad) : SpD := fun ds Ψ _ => ∃ ns k, ds = [.scr ns, .int k] ∧ 0 ≤ k ∧ k < 1000 ∧ ns.length ≤ 63 ∧ ∀ i, Ψ (.sh (.int i))
def S__law_pool (_ : Ad) : SpD := fun ds Ψ _ => ∃ ns k, ds = [.scr ns, .int k, .int 60] ∧ 0 ≤ k ∧ k < 100 ∧ ns.length ≤ 63 ∧ ∀ l : List Int, l.length = 60 → is27 l → Ψ (.sh (.lst (id' l)))
def S__law_whole (_ : Ad) : SpD := fun ds Ψ _ => ∃ l i, ds = [.lst (id' l), .int i] ∧ is27 l ∧ 0 ≤ i ∧ i + 3 < l.length ∧ l.length ≤ 100 ∧ ∀ j : Int, Ψ (.sh (.int j))
def S__law_word (_ : Ad) : SpD := fun ds Ψ _ => ∃ l i, ds = [.lst (id' l), .int i] ∧ is27 l ∧ 0 ≤ i ∧ i + 2 < l.length ∧ l.length ≤ 100 ∧ ∀ w, isN w = true → Ψ (.sh (.str w))
def S__law_new (_ : Ad) : SpD := fun ds Ψ _ => ∃ ns w, ds = [.lst (sd ns), .str w] ∧ isN w = true ∧ ns.length ≤ 25 ∧ ∀ w', isN w' = true → w' ∉ ns → Ψ (.sh (.str w'))
def S__law_sequence (_ : Ad) : SpD := fun ds Ψ _ => ∃ ns i, ds = [.lst (sd ns), .int i] ∧ ns.length ≤ 100 ∧ ∀ ms, ms.Perm ns → Ψ (.sh (.lst (sd ms)))
def S__law_from (_ : Ad) : SpD := fun ds Ψ _ => ∃ ns i, ds = [.lst (sd ns), .int i] ∧ Ok ns ∧ Ψ (.sh (.lst (sd (rotI ns i))))
def S__law_back (_ : Ad) : SpD := fun ds Ψ _ => ∃ ns, ds = [.lst (sd ns)] ∧ Ok ns ∧ Ψ (.sh (.lst (sd (back ns))))
def S__law_is_round (A : Ad) : SpD := fun ds Ψ _ => ∃ ns ms, ds = [ring A ns, .lst (sd ms)] ∧ Ok ns ∧ Ok ms ∧ Ψ (.sh (.bl (decide (ns = ms))))
def S__law_turned_right (A : Ad) : SpD := fun ds Ψ _ => ∃ ns, ds = [ring A ns, .lst (sd ns)] ∧ Good ns ∧ Ψ (.sh (.bl true))
def S__law_turns (A : Ad) : SpD := fun ds Ψ _ => ∃ ns i, ds = [ring A ns, .lst (sd ns), .int i] ∧ Good ns ∧ Ψ (.sh (.bl true))
def S__law_equals (A : Ad) : SpD := fun ds Ψ _ => ∃ ns ms, ds = [ring A ns, .lst (sd ns), .lst (sd ms)] ∧ Good ns ∧ Good ms ∧ Ψ (.sh (.bl true))
def S__law_cut_is (A : Ad) : SpD := fun ds Ψ _ => ∃ ns w, ds = [ring A ns, .lst (sd ns), .str w] ∧ Good ns ∧ Ψ (.sh (.bl true))
def S__law_ahead (_ : Ad) : SpD := fun ds Ψ _ => ∃ ns s a b, ds = [.lst (sd ns), .str s, .str a, .str b] ∧ Ok ns ∧ s ∈ ns ∧ a ∈ ns ∧ b ∈ ns ∧ Ψ (.sh (.bl (decide (idx (rot ns (idx ns s)) a < idx (rot ns (idx ns s)) b))))
def S__law_splits_are (A : Ad) : SpD := fun ds Ψ _ => ∃ ns four, ds = [ring A ns, .lst (sd ns), .lst (sd four)] ∧ Good ns ∧ Ok four ∧ four.length = 4 ∧ Ψ (.sh (.bl true))
def S__law_refused (_ : Ad) : SpD := fun ds Ψ _ => ∃ ns, ds = [.lst (sd ns)] ∧ Ok ns ∧ Ψ (.sh (.bl true))
def S__law_lists_refused (_ : Ad) : SpD := fun ds Ψ _ => ∃ ns l, ds = [.lst (sd ns), .lst (id' l)] ∧ Good ns ∧ is27 l ∧ 10 ≤ l.length ∧ l.length ≤ 100 ∧ Ψ (.sh (.bl true))
def S_law0 : SpD := fun ds Ψ _ => ∃ ns, ds = [.scr ns] ∧ ns.length ≤ 63 ∧ Ψ (.sh (.bl true))
def S_law (_ : Ad) : SpD := S_law0
end K09
/-! K09: the readings. Printed by gen.py. -/
namespace K09
open PySem L2 DL PySem.Spec

/-- slots: 0 text, 1 letter -/
def t_is_name (K : PySem.W.Frag) (A : Ad) : VS :=
  (vSeq (vIf (vNot (vTst (vChn opLe opLe (vC (.int 1)) (vCB (one lenD) (vaCons (vVar 0) vaNil)) (vC (.int 8))))) (vRet (vC (.bl false))) vNext)
  (vRet (vCB (one (blsD fun bs => .bl (bs.all id))) (vaCons (vLc (siStr (vVar 0)) 1 vYes (vOp (opIn false) (vVar 1) (vC (.str "abcdefghijklmnopqrstuvwxyz"))) [1]) vaNil))))
/-- slots: 0 columns, 1 names, 2 name -/
def t_check_known (K : PySem.W.Frag) (A : Ad) : VS :=
  (vFor (siSeq (vVar 1)) (gN 2) (vIf (vTst (vOp (opIn true) (vVar 2) (vVar 0))) (vRaise A.c_UnknownColumn ["name"] (vaCons (vVar 2) vaNil)) vNext))
/-- slots: 0 known, 1 names, 2 index, 3 name -/
def t_check_different (K : PySem.W.Frag) (A : Ad) : VS :=
  (vSeq (vDrop (vCall (S_check_known A) (vaCons (vVar 0) (vaCons (vVar 1) vaNil))))
  (vFor (siEnum (vaCons (vVar 1) vaNil)) (gTpT 2 (gsCons (gN 2) (gsCons (gN 3) gsNil))) (vIf (vTst (vOp (opIn false) (vVar 3) (vSl (vVar 1) voNone (voSome (vVar 2))))) (vRaise A.c_SameColumn ["name"] (vaCons (vVar 3) vaNil)) vNext)))
/-- slots: 0 self, 1 names, 2 index, 3 name -/
def t_Round_init (K : PySem.W.Frag) (A : Ad) : VS :=
  (vSeq (vFor (siEnum (vaCons (vVar 1) vaNil)) (gTpT 2 (gsCons (gN 2) (gsCons (gN 3) gsNil))) (vIf (vOr (vNot (vTru (vCall (S_is_name A) (vaCons (vVar 3) vaNil)))) (vTst (vOp (opIn false) (vVar 3) (vSl (vVar 1) voNone (voSome (vVar 2)))))) (vRaise A.c_BadRound ["index"] (vaCons (vVar 2) vaNil)) vNext))
  (vSeq (vIf (vTst (vOp opGt (vCB (one lenD) (vaCons (vVar 1) vaNil)) (vC (.int 12)))) (vRaise A.c_BadRound ["index"] (vaCons (vC (.int 12)) vaNil)) vNext)
  (vSelf [A.c_Round] 0 "names" (vCB (one tupD) (vaCons (vVar 1) vaNil)))))
/-- slots: 0 self -/
def t_Round_len (K : PySem.W.Frag) (A : Ad) : VS :=
  (vRet (vCB (one lenD) (vaCons (vFldC [A.c_Round] "names" (vVar 0)) vaNil)))
/-- slots: 0 self, 1 name -/
def t_Round_contains (K : PySem.W.Frag) (A : Ad) : VS :=
  (vRet (vOp (opIn false) (vVar 1) (vFldC [A.c_Round] "names" (vVar 0))))
/-- slots: 0 self, 1 places -/
def t_Round_getitem (K : PySem.W.Frag) (A : Ad) : VS :=
  (vSeq (vIf (vNot (vTru (vFldC [A.c_Round] "names" (vVar 0)))) (vRaise A.c_BadNumber ["number"] (vaCons (vVar 1) vaNil)) vNext)
  (vRet (vOp opIx (vFldC [A.c_Round] "names" (vVar 0)) (vOp opMod (vVar 1) (vCB (one lenD) (vaCons (vFldC [A.c_Round] "names" (vVar 0)) vaNil))))))
/-- slots: 0 self, 1 places, 2 start -/
def t_Round_lshift (K : PySem.W.Frag) (A : Ad) : VS :=
  (vSeq (vIf (vNot (vTru (vFldC [A.c_Round] "names" (vVar 0)))) (vRet (vCall (mkS A.c_Round (S_Round_init A)) (vaCons (vTup vaNil) vaNil))) vNext)
  (vSeq (vAsgS 2 (vOp opMod (vVar 1) (vCB (one lenD) (vaCons (vFldC [A.c_Round] "names" (vVar 0)) vaNil))))
  (vRet (vCall (mkS A.c_Round (S_Round_init A)) (vaCons (vOp opAdd (vSl (vFldC [A.c_Round] "names" (vVar 0)) (voSome (vVar 2)) voNone) (vSl (vFldC [A.c_Round] "names" (vVar 0)) voNone (voSome (vVar 2)))) vaNil)))))
/-- slots: 0 self, 1 places -/
def t_Round_rshift (K : PySem.W.Frag) (A : Ad) : VS :=
  (vRet (vDun2 A.c_Round isInt (S_Round_lshift A) (vVar 0) (vOp opSub (vC (.int 0)) (vVar 1))))
/-- slots: 0 self -/
def t_Round_invert (K : PySem.W.Frag) (A : Ad) : VS :=
  (vRet (vCall (mkS A.c_Round (S_Round_init A)) (vaCons (vOp opAdd (vSl (vFldC [A.c_Round] "names" (vVar 0)) voNone (voSome (vC (.int 1)))) (vBackT (vFldC [A.c_Round] "names" (vVar 0)))) vaNil)))
/-- slots: 0 self, 1 other, 2 k -/
def t_Round_eq (K : PySem.W.Frag) (A : Ad) : VS :=
  (vSeq (vIf (vNot (vTru (vCB (isiD K) (vaCons (vVar 1) (vaCons (vC (.cst A.c_Round)) vaNil))))) (vRet (vC (.bl false))) vNext)
  (vRet (vCB (one (blsD fun bs => .bl (bs.any id))) (vaCons (vLc (siRng1 (vaCons (vOp opAdd (vCB (one lenD) (vaCons (vFldC [A.c_Round] "names" (vVar 1)) vaNil)) (vC (.int 1))) vaNil)) 2 vYes (vOp opEq (vFldC [A.c_Round] "names" (vVar 0)) (vOp opAdd (vSl (vFldC [A.c_Round] "names" (vVar 1)) (voSome (vVar 2)) voNone) (vSl (vFldC [A.c_Round] "names" (vVar 1)) voNone (voSome (vVar 2))))) [2]) vaNil))))
/-- slots: 0 self, 1 name, 2 at -/
def t_Round_cut (K : PySem.W.Frag) (A : Ad) : VS :=
  (vSeq (vIf (vTst (vOp (opIn true) (vVar 1) (vFldC [A.c_Round] "names" (vVar 0)))) (vRaise A.c_UnknownColumn ["name"] (vaCons (vVar 1) vaNil)) vNext)
  (vSeq (vAsgS 2 (vTIndex (vFldC [A.c_Round] "names" (vVar 0)) (vaCons (vVar 1) vaNil)))
  (vRetF (vCB (one listD) (vaCons (vOp opAdd (vSl (vFldC [A.c_Round] "names" (vVar 0)) (voSome (vOp opAdd (vVar 2) (vC (.int 1)))) voNone) (vSl (vFldC [A.c_Round] "names" (vVar 0)) voNone (voSome (vVar 2)))) vaNil)))))
/-- slots: 0 self, 1 p, 2 q, 3 r, 4 s, 5 line, 6 ahead -/
def t_Round_splits (K : PySem.W.Frag) (A : Ad) : VS :=
  (vSeq (vDrop (vCall (S_check_different A) (vaCons (vFldC [A.c_Round] "names" (vVar 0)) (vaCons (vTup (vaCons (vVar 1) (vaCons (vVar 2) (vaCons (vVar 3) (vaCons (vVar 4) vaNil))))) vaNil))))
  (vSeq (vAsgS 5 (vMeth A.c_Round "cut" (S_Round_cut A) (vVar 0) (vaCons (vVar 1) vaNil)))
  (vSeq (vAsgS 6 (vSl (vVar 5) voNone (voSome (vBM "list" mLIndex (vVar 5) (vaCons (vVar 2) vaNil)))))
  (vRet (vOp opNe (vOp (opIn false) (vVar 3) (vVar 6)) (vOp (opIn false) (vVar 4) (vVar 6)))))))
/-- slots: 0 script, 1 k -/
def t__law_cell (K : PySem.W.Frag) (A : Ad) : VS :=
  (vSeq (vIf (vTst (vOp opLt (vVar 1) (vCB (one lenD) (vaCons (vVar 0) vaNil)))) (vRet (vOp opIx (vVar 0) (vVar 1))) vNext)
  (vRet (vC (.int 0))))
/-- slots: 0 script, 1 k, 2 count, 3 value, 4 pool, 5 i, 6 first, 7 second, 8 third -/
def t__law_pool (K : PySem.W.Frag) (A : Ad) : VS :=
  (vSeq (vAsgS 3 (vCB (one absD) (vaCons (vCall (S__law_cell A) (vaCons (vVar 0) (vaCons (vVar 1) vaNil))) vaNil)))
  (vSeq (vAsg 4 (vLst vaNil))
  (vSeq (vIf (vTst (vOp opGe (vVar 3) (vOp opPow (vC (.int 10)) (vC (.int 18))))) (vSeq (vAsgS 3 (vOp opSub (vVar 3) (vOp opPow (vC (.int 10)) (vC (.int 18)))))
  (vSeq (vFor (siRng1 (vaCons (vVar 2) vaNil)) (gN 5) (vSeq (vMut 4 mApp (vaCons (vOp opMod (vCB (one intD) (vaCons (vVar 3) vaNil)) (vC (.int 27720))) vaNil))
  (vAsgS 3 (vOp opFDiv (vVar 3) (vC (.int 27720))))))
  (vRet (vVar 4)))) vNext)
  (vSeq (vFor (siRng1 (vaCons (vVar 2) vaNil)) (gN 5) (vSeq (vAsgS 6 (vOp opMod (vCB (one intD) (vaCons (vOp opAdd (vOp opAdd (vOp opAdd (vOp opMul (vVar 3) (vC (.int 48271))) (vOp opMul (vOp opAdd (vVar 5) (vC (.int 1))) (vC (.int 69621)))) (vOp opMul (vVar 1) (vC (.int 7919)))) (vC (.int 1234577))) vaNil)) (vC (.int 2147483647))))
  (vSeq (vAsgS 7 (vOp opMod (vCB (one intD) (vaCons (vOp opAdd (vOp opAdd (vOp opMul (vVar 6) (vVar 6)) (vOp opMul (vVar 3) (vC (.int 16807)))) (vVar 5)) vaNil)) (vC (.int 2147483629))))
  (vSeq (vAsgS 8 (vOp opMod (vCB (one intD) (vaCons (vOp opAdd (vOp opMul (vVar 7) (vVar 7)) (vVar 6)) vaNil)) (vC (.int 2147483587))))
  (vMut 4 mApp (vaCons (vOp opMod (vCB (one intD) (vaCons (vOp opFDiv (vVar 8) (vC (.int 17))) vaNil)) (vC (.int 27720))) vaNil))))))
  (vFz 4 (vRet (vVar 4)))))))
/-- slots: 0 pool, 1 i, 2 menu, 3 many, 4 draw -/
def t__law_whole (K : PySem.W.Frag) (A : Ad) : VS :=
  (vSeq (vAsgS 2 (vLst (vaCons (vC (.int 7)) (vaCons (vC (.int 41)) (vaCons (vC (.int 2001)) (vaCons (vOp opSub (vOp opMul (vC (.int 2)) (vOp opPow (vC (.int 10)) (vC (.int 9)))) (vC (.int 1))) vaNil))))))
  (vSeq (vAsgS 3 (vOp opIx (vVar 2) (vOp opMod (vCB (one intD) (vaCons (vOp opIx (vVar 0) (vVar 1)) vaNil)) (vC (.int 4)))))
  (vSeq (vAsgS 4 (vOp opAdd (vOp opMul (vOp opAdd (vOp opMul (vOp opIx (vVar 0) (vOp opAdd (vVar 1) (vC (.int 1)))) (vC (.int 27720))) (vOp opIx (vVar 0) (vOp opAdd (vVar 1) (vC (.int 2))))) (vC (.int 27720))) (vOp opIx (vVar 0) (vOp opAdd (vVar 1) (vC (.int 3))))))
  (vRet (vOp opSub (vOp opMod (vCB (one intD) (vaCons (vVar 4) vaNil)) (vVar 3)) (vOp opFDiv (vVar 3) (vC (.int 2))))))))
/-- slots: 0 pool, 1 at, 2 code, 3 size, 4 word, 5 i -/
def t__law_word (K : PySem.W.Frag) (A : Ad) : VS :=
  (vSeq (vAsgS 2 (vOp opAdd (vOp opMul (vOp opAdd (vOp opMul (vOp opIx (vVar 0) (vVar 1)) (vC (.int 27720))) (vOp opIx (vVar 0) (vOp opAdd (vVar 1) (vC (.int 1))))) (vC (.int 27720))) (vOp opIx (vVar 0) (vOp opAdd (vVar 1) (vC (.int 2))))))
  (vSeq (vAsgS 3 (vOp opAdd (vC (.int 1)) (vOp opMod (vCB (one intD) (vaCons (vVar 2) vaNil)) (vC (.int 8)))))
  (vSeq (vAsgS 2 (vOp opFDiv (vVar 2) (vC (.int 8))))
  (vSeq (vAsgS 4 (vC (.str "")))
  (vSeq (vFor (siRng1 (vaCons (vVar 3) vaNil)) (gN 5) (vSeq (vAsgS 4 (vOp opAdd (vVar 4) (vOp opIx (vC (.str "abcdefghijklmnopqrstuvwxyz")) (vOp opMod (vCB (one intD) (vaCons (vVar 2) vaNil)) (vC (.int 26))))))
  (vAsgS 2 (vOp opFDiv (vVar 2) (vC (.int 26))))))
  (vRet (vVar 4)))))))
/-- slots: 0 names, 1 word, 2 letters, 3 turn -/
def t__law_new (K : PySem.W.Frag) (A : Ad) : VS :=
  (vSeq (vAsgS 2 (vC (.str "abcdefghijklmnopqrstuvwxyz")))
  (vSeq (vFor (siRng1 (vaCons (vC (.int 26)) vaNil)) (gN 3) (vSeq (vIf (vTst (vOp (opIn true) (vVar 1) (vVar 0))) vBrk vNext)
  (vAsgS 1 (vOp opAdd (vSl (vVar 1) voNone (voSome (vUn oNeg (vC (.int 1))))) (vOp opIx (vVar 2) (vOp opMod (vCB (one intD) (vaCons (vOp opAdd (vBM "str" mSIndex (vVar 2) (vaCons (vOp opIx (vVar 1) (vUn oNeg (vC (.int 1)))) vaNil)) (vC (.int 1))) vaNil)) (vC (.int 26))))))))
  (vRet (vVar 1))))
/-- slots: 0 names, 1 draw, 2 left, 3 row, 4 k, 5 pick -/
def t__law_sequence (K : PySem.W.Frag) (A : Ad) : VS :=
  (vSeq (vAsgS 2 (vCB (one listD) (vaCons (vVar 0) vaNil)))
  (vSeq (vAsg 3 (vLst vaNil))
  (vSeq (vFor (siRng1 (vaCons (vCB (one lenD) (vaCons (vVar 0) vaNil)) vaNil)) (gN 4) (vSeq (vAsgS 5 (vOp opMod (vCB (one intD) (vaCons (vVar 1) vaNil)) (vCB (one lenD) (vaCons (vVar 2) vaNil))))
  (vSeq (vAsgS 1 (vOp opFDiv (vVar 1) (vCB (one lenD) (vaCons (vVar 2) vaNil))))
  (vSeq (vMut 3 mApp (vaCons (vOp opIx (vVar 2) (vVar 5)) vaNil))
  (vAsgS 2 (vOp opAdd (vSl (vVar 2) voNone (voSome (vVar 5))) (vSl (vVar 2) (voSome (vOp opAdd (vVar 5) (vC (.int 1)))) voNone)))))))
  (vFz 3 (vRet (vVar 3))))))
/-- slots: 0 names, 1 places, 2 many, 3 start, 4 i -/
def t__law_from (K : PySem.W.Frag) (A : Ad) : VS :=
  (vSeq (vAsgS 2 (vCB (one lenD) (vaCons (vVar 0) vaNil)))
  (vSeq (vIf (vTst (vOp opEq (vVar 2) (vC (.int 0)))) (vRet (vLst vaNil)) vNext)
  (vSeq (vAsgS 3 (vOp opSub (vVar 1) (vOp opMul (vOp opFDiv (vVar 1) (vVar 2)) (vVar 2))))
  (vRet (vLc (siRng1 (vaCons (vVar 2) vaNil)) 4 vYes (vOp opIx (vVar 0) (vOp opMod (vCB (one intD) (vaCons (vOp opAdd (vVar 3) (vVar 4)) vaNil)) (vVar 2))) [4])))))
/-- slots: 0 names, 1 k -/
def t__law_back (K : PySem.W.Frag) (A : Ad) : VS :=
  (vRet (vOp opAdd (vSl (vVar 0) voNone (voSome (vC (.int 1)))) (vLc (siRng2 (vaCons (vC (.int 1)) (vaCons (vCB (one lenD) (vaCons (vVar 0) vaNil)) vaNil))) 1 vYes (vOp opIx (vVar 0) (vOp opSub (vCB (one lenD) (vaCons (vVar 0) vaNil)) (vVar 1))) [1])))
/-- slots: 0 found, 1 due, 2 name -/
def t__law_is_round (K : PySem.W.Frag) (A : Ad) : VS :=
  (vSeq (vIf (vOr (vNot (vTru (vCB (isiD K) (vaCons (vVar 0) (vaCons (vC (.cst A.c_Round)) vaNil))))) (vTst (vOp opNe (vListO A.c_Round "names" (S_Round_len A) (vaCons (vVar 0) vaNil)) (vVar 1)))) (vRet (vC (.bl false))) vNext)
  (vRet (vAndV (vOp opEq (vDunLen A.c_Round (S_Round_len A) (vaCons (vVar 0) vaNil)) (vCB (one lenD) (vaCons (vVar 1) vaNil))) (vOp opEq (vLc (siOwn A.c_Round "names" (vVar 0)) 2 vYes (vVar 2) [2]) (vVar 1)))))
/-- slots: 0 turned, 1 due, 2 many -/
def t__law_turned_right (K : PySem.W.Frag) (A : Ad) : VS :=
  (vSeq (vAsgS 2 (vCB (one lenD) (vaCons (vVar 1) vaNil)))
  (vSeq (vIf (vTst (vOp opEq (vVar 2) (vC (.int 0)))) (vRet (vC (.bl true))) vNext)
  (vSeq (vIf (vOr (vTst (vOp opNe (vDunIx A.c_Round (S_Round_getitem A) (vVar 0) (vC (.int 0))) (vOp opIx (vVar 1) (vC (.int 0))))) (vOr (vTst (vOp opNe (vDunIx A.c_Round (S_Round_getitem A) (vVar 0) (vUn oNeg (vC (.int 1)))) (vOp opIx (vVar 1) (vUn oNeg (vC (.int 1)))))) (vTst (vOp opNe (vDunIx A.c_Round (S_Round_getitem A) (vVar 0) (vOp opAdd (vVar 2) (vC (.int 1)))) (vOp opIx (vVar 1) (vOp opMod (vCB (one intD) (vaCons (vOp opAdd (vVar 2) (vC (.int 1))) vaNil)) (vVar 2))))))) (vRet (vC (.bl false))) vNext)
  (vRet (vAndV (vOp opEq (vMeth A.c_Round "cut" (S_Round_cut A) (vVar 0) (vaCons (vOp opIx (vVar 1) (vC (.int 0))) vaNil)) (vSl (vVar 1) (voSome (vC (.int 1))) voNone)) (vDunIn A.c_Round false (S_Round_contains A) (vOp opIx (vVar 1) (vUn oNeg (vC (.int 1)))) (vVar 0)))))))
/-- slots: 0 ring, 1 names, 2 places, 3 later, 4 earlier, 5 kinds, 6 told, 7 word, 8 e -/
def t__law_turns (K : PySem.W.Frag) (A : Ad) : VS :=
  (vSeq (vAsgS 3 (vCall (S__law_from A) (vaCons (vVar 1) (vaCons (vVar 2) vaNil))))
  (vSeq (vAsgS 4 (vCall (S__law_from A) (vaCons (vVar 1) (vaCons (vUn oNeg (vVar 2)) vaNil))))
  (vSeq (vIf (vOr (vNot (vTru (vCall (S__law_is_round A) (vaCons (vDun2 A.c_Round isInt (S_Round_lshift A) (vVar 0) (vVar 2)) (vaCons (vVar 3) vaNil))))) (vNot (vTru (vCall (S__law_is_round A) (vaCons (vDun2 A.c_Round isInt (S_Round_rshift A) (vVar 0) (vVar 2)) (vaCons (vVar 4) vaNil)))))) (vRet (vC (.bl false))) vNext)
  (vSeq (vIf (vOr (vNot (vTru (vCall (S__law_is_round A) (vaCons (vDun2 A.c_Round isInt (S_Round_rshift A) (vDun2 A.c_Round isInt (S_Round_lshift A) (vVar 0) (vVar 2)) (vVar 2)) (vaCons (vVar 1) vaNil))))) (vNot (vTru (vCall (S__law_is_round A) (vaCons (vDun1 A.c_Round (S_Round_invert A) (vDun2 A.c_Round isInt (S_Round_lshift A) (vVar 0) (vVar 2))) (vaCons (vCall (S__law_back A) (vaCons (vVar 3) vaNil)) vaNil)))))) (vRet (vC (.bl false))) vNext)
  (vSeq (vIf (vOr (vTst (vOp (opIs true) (vDun2 A.c_Round (isObj A.c_Round) (S_Round_eq A) (vVar 0) (vDun2 A.c_Round isInt (S_Round_lshift A) (vVar 0) (vVar 2))) (vC (.bl true)))) (vTst (vOp (opIs true) (vDun2 A.c_Round (isObj A.c_Round) (S_Round_eq A) (vDun2 A.c_Round isInt (S_Round_rshift A) (vVar 0) (vVar 2)) (vVar 0)) (vC (.bl true))))) (vRet (vC (.bl false))) vNext)
  (vSeq (vIf (vOr (vNot (vTru (vCall (S__law_turned_right A) (vaCons (vDun2 A.c_Round isInt (S_Round_lshift A) (vVar 0) (vVar 2)) (vaCons (vVar 3) vaNil))))) (vNot (vTru (vCall (S__law_turned_right A) (vaCons (vDun2 A.c_Round isInt (S_Round_rshift A) (vVar 0) (vVar 2)) (vaCons (vVar 4) vaNil)))))) (vRet (vC (.bl false))) vNext)
  (vSeq (vIf (vNot (vTru (vCall (S__law_turned_right A) (vaCons (vDun1 A.c_Round (S_Round_invert A) (vDun2 A.c_Round isInt (S_Round_lshift A) (vVar 0) (vVar 2))) (vaCons (vCall (S__law_back A) (vaCons (vVar 3) vaNil)) vaNil))))) (vRet (vC (.bl false))) vNext)
  (vSeq (vIf (vTst (vOp opGt (vCB (one lenD) (vaCons (vVar 1) vaNil)) (vC (.int 0)))) (vRet (vAndV (vOp opEq (vDunIx A.c_Round (S_Round_getitem A) (vVar 0) (vVar 2)) (vOp opIx (vVar 3) (vC (.int 0)))) (vAndV (vOp opEq (vDunIx A.c_Round (S_Round_getitem A) (vVar 0) (vUn oNeg (vVar 2))) (vOp opIx (vVar 4) (vC (.int 0)))) (vCB (isiD K) (vaCons (vDunIx A.c_Round (S_Round_getitem A) (vVar 0) (vVar 2)) (vaCons (vC (.ty "str")) vaNil)))))) vNext)
  (vSeq (vAsgS 5 (vLst vaNil))
  (vSeq (vAsgS 6 (vC .non))
  (vSeq (vAsgS 7 (vC .non))
  (vSeq (vTry K (vAsgS 7 (vDunIx A.c_Round (S_Round_getitem A) (vVar 0) (vVar 2))) (⟨.ref A.c_BadNumber, (some 8), (vSeq (vAsgS 6 (vXF [A.c_BadNumber] "number" (vVar 8)))
  (vAsgS 5 (vLst (vaCons (vIsX K [A.c_BadNumber] (vaCons (vVar 8) (vaCons (vC (.cst A.c_RowsError)) vaNil))) (vaCons (vIsX K [A.c_BadNumber] (vaCons (vVar 8) (vaCons (vC (.ty "ValueError")) vaNil))) (vaCons (vIsX K [A.c_BadNumber] (vaCons (vVar 8) (vaCons (vC (.cst A.c_Unknown)) vaNil))) (vaCons (vIsX K [A.c_BadNumber] (vaCons (vVar 8) (vaCons (vC (.cst A.c_Impossible)) vaNil))) vaNil)))))))⟩ :: []))
  (vSeq (vIf (vOr (vTst (vOp (opIs true) (vVar 7) (vC .non))) (vTst (vOp opNe (vVar 5) (vLst (vaCons (vC (.bl true)) (vaCons (vC (.bl true)) (vaCons (vC (.bl false)) (vaCons (vC (.bl false)) vaNil)))))))) (vRet (vC (.bl false))) vNext)
  (vRet (vAndV (vCB (isiD K) (vaCons (vVar 6) (vaCons (vC (.ty "int")) vaNil))) (vAndV (vNotV (vCB (isiD K) (vaCons (vVar 6) (vaCons (vC (.ty "bool")) vaNil)))) (vOp opEq (vVar 6) (vVar 2))))))))))))))))))
/-- slots: 0 ring, 1 names, 2 others, 3 due, 4 k, 5 other, 6 told -/
def t__law_equals (K : PySem.W.Frag) (A : Ad) : VS :=
  (vSeq (vAsgS 3 (vAndV (vOp opEq (vCB (one lenD) (vaCons (vVar 1) vaNil)) (vCB (one lenD) (vaCons (vVar 2) vaNil))) (vOp opEq (vCB (one lenD) (vaCons (vVar 1) vaNil)) (vC (.int 0)))))
  (vSeq (vFor (siRng1 (vaCons (vCB (one lenD) (vaCons (vVar 1) vaNil)) vaNil)) (gN 4) (vAsgS 3 (vOrV (vVar 3) (vOp opEq (vVar 1) (vCall (S__law_from A) (vaCons (vVar 2) (vaCons (vVar 4) vaNil)))))))
  (vSeq (vAsgS 5 (vCall (mkS A.c_Round (S_Round_init A)) (vaCons (vCB (one listD) (vaCons (vVar 2) vaNil)) vaNil)))
  (vSeq (vFor (siSeq (vLst (vaCons (vDun2 A.c_Round (isObj A.c_Round) (S_Round_eq A) (vVar 0) (vVar 5)) (vaCons (vDun2 A.c_Round (isObj A.c_Round) (S_Round_eq A) (vVar 5) (vVar 0)) vaNil)))) (gN 6) (vIf (vOr (vNot (vTru (vCB (isiD K) (vaCons (vVar 6) (vaCons (vC (.ty "bool")) vaNil))))) (vTst (vOp opNe (vVar 6) (vVar 3)))) (vRet (vC (.bl false))) vNext))
  (vRet (vC (.bl true)))))))
/-- slots: 0 ring, 1 names, 2 name, 3 found, 4 told, 5 kinds, 6 e, 7 inside, 8 due -/
def t__law_cut_is (K : PySem.W.Frag) (A : Ad) : VS :=
  (vSeq (vAsg 3 (vC .non))
  (vSeq (vAsgS 4 (vC .non))
  (vSeq (vAsgS 5 (vLst vaNil))
  (vSeq (vTry K (vAsg 3 (vMeth A.c_Round "cut" (S_Round_cut A) (vVar 0) (vaCons (vVar 2) vaNil))) (⟨.ref A.c_UnknownColumn, (some 6), (vSeq (vAsgS 4 (vXF [A.c_UnknownColumn] "name" (vVar 6)))
  (vAsgS 5 (vLst (vaCons (vIsX K [A.c_UnknownColumn] (vaCons (vVar 6) (vaCons (vC (.cst A.c_RowsError)) vaNil))) (vaCons (vIsX K [A.c_UnknownColumn] (vaCons (vVar 6) (vaCons (vC (.ty "ValueError")) vaNil))) (vaCons (vIsX K [A.c_UnknownColumn] (vaCons (vVar 6) (vaCons (vC (.cst A.c_Unknown)) vaNil))) (vaCons (vIsX K [A.c_UnknownColumn] (vaCons (vVar 6) (vaCons (vC (.cst A.c_Impossible)) vaNil))) vaNil)))))))⟩ :: []))
  (vSeq (vAsgS 7 (vDunIn A.c_Round false (S_Round_contains A) (vVar 2) (vVar 0)))
  (vSeq (vIf (vTst (vOp opNe (vVar 7) (vOp (opIn false) (vVar 2) (vVar 1)))) (vRet (vC (.bl false))) vNext)
  (vSeq (vIf (vTst (vOp (opIn true) (vVar 2) (vVar 1))) (vRet (vAndV (vOp (opIs false) (vVar 3) (vC .non)) (vAndV (vOp opEq (vVar 4) (vVar 2)) (vOp opEq (vVar 5) (vLst (vaCons (vC (.bl true)) (vaCons (vC (.bl true)) (vaCons (vC (.bl true)) (vaCons (vC (.bl false)) vaNil))))))))) vNext)
  (vSeq (vAsgS 8 (vSl (vCall (S__law_from A) (vaCons (vVar 1) (vaCons (vBM "list" mLIndex (vVar 1) (vaCons (vVar 2) vaNil)) vaNil))) (voSome (vC (.int 1))) voNone))
  (vSeq (vIf (vOr (vNot (vTru (vCB (isiD K) (vaCons (vVar 3) (vaCons (vC (.ty "list")) vaNil))))) (vTst (vOp opNe (vVar 3) (vVar 8)))) (vRet (vC (.bl false))) vNext)
  (vSeq (vMut 3 mApp (vaCons (vC (.str "q")) vaNil))
  (vFz 3 (vRet (vOp opEq (vMeth A.c_Round "cut" (S_Round_cut A) (vVar 0) (vaCons (vVar 2) vaNil)) (vVar 8))))))))))))))
/-- slots: 0 names, 1 start, 2 one, 3 other, 4 line -/
def t__law_ahead (K : PySem.W.Frag) (A : Ad) : VS :=
  (vSeq (vAsgS 4 (vCall (S__law_from A) (vaCons (vVar 0) (vaCons (vBM "list" mLIndex (vVar 0) (vaCons (vVar 1) vaNil)) vaNil))))
  (vRet (vOp opLt (vBM "list" mLIndex (vVar 4) (vaCons (vVar 2) vaNil)) (vBM "list" mLIndex (vVar 4) (vaCons (vVar 3) vaNil)))))
/-- slots: 0 ring, 1 names, 2 four, 3 wrong, 4 found, 5 told, 6 kinds, 7 e, 8 one, 9 other, 10 name, 11 k -/
def t__law_splits_are (K : PySem.W.Frag) (A : Ad) : VS :=
  (vSeq (vAsgS 3 (vLc (siSeq (vVar 2)) 10 (vTst (vOp (opIn true) (vVar 10) (vVar 1))) (vTup (vaCons (vC (.str "unknown")) (vaCons (vVar 10) vaNil))) [10]))
  (vSeq (vAsgS 3 (vOp opAdd (vVar 3) (vLc (siRng1 (vaCons (vC (.int 4)) vaNil)) 11 (vTst (vOp (opIn false) (vOp opIx (vVar 2) (vVar 11)) (vSl (vVar 2) voNone (voSome (vVar 11))))) (vTup (vaCons (vC (.str "same")) (vaCons (vOp opIx (vVar 2) (vVar 11)) vaNil))) [11])))
  (vSeq (vAsgS 4 (vC .non))
  (vSeq (vAsgS 5 (vC .non))
  (vSeq (vAsgS 6 (vLst vaNil))
  (vSeq (vTry K (vAsgS 4 (vMeth A.c_Round "splits" (S_Round_splits A) (vVar 0) (vaCons (vOp opIx (vVar 2) (vC (.int 0))) (vaCons (vOp opIx (vVar 2) (vC (.int 1))) (vaCons (vOp opIx (vVar 2) (vC (.int 2))) (vaCons (vOp opIx (vVar 2) (vC (.int 3))) vaNil)))))) (⟨.ref A.c_UnknownColumn, (some 7), (vSeq (vAsgS 5 (vTup (vaCons (vC (.str "unknown")) (vaCons (vXF [A.c_UnknownColumn] "name" (vVar 7)) vaNil))))
  (vAsgS 6 (vLst (vaCons (vIsX K [A.c_UnknownColumn] (vaCons (vVar 7) (vaCons (vC (.cst A.c_RowsError)) vaNil))) (vaCons (vIsX K [A.c_UnknownColumn] (vaCons (vVar 7) (vaCons (vC (.cst A.c_Unknown)) vaNil))) (vaCons (vIsX K [A.c_UnknownColumn] (vaCons (vVar 7) (vaCons (vC (.cst A.c_Impossible)) vaNil))) vaNil))))))⟩ :: (⟨.ref A.c_SameColumn, (some 7), (vSeq (vAsgS 5 (vTup (vaCons (vC (.str "same")) (vaCons (vXF [A.c_SameColumn] "name" (vVar 7)) vaNil))))
  (vAsgS 6 (vLst (vaCons (vIsX K [A.c_SameColumn] (vaCons (vVar 7) (vaCons (vC (.cst A.c_RowsError)) vaNil))) (vaCons (vNotV (vIsX K [A.c_SameColumn] (vaCons (vVar 7) (vaCons (vC (.cst A.c_Unknown)) vaNil)))) (vaCons (vIsX K [A.c_SameColumn] (vaCons (vVar 7) (vaCons (vC (.cst A.c_Impossible)) vaNil))) vaNil))))))⟩ :: [])))
  (vSeq (vIf (vTst (vOp opGt (vCB (one lenD) (vaCons (vVar 3) vaNil)) (vC (.int 0)))) (vRet (vAndV (vOp (opIs false) (vVar 4) (vC .non)) (vAndV (vOp opEq (vVar 5) (vOp opIx (vVar 3) (vC (.int 0)))) (vOp opEq (vVar 6) (vLst (vaCons (vC (.bl true)) (vaCons (vC (.bl true)) (vaCons (vC (.bl false)) vaNil)))))))) vNext)
  (vSeq (vAsgS 8 (vCall (S__law_ahead A) (vaCons (vVar 1) (vaCons (vOp opIx (vVar 2) (vC (.int 0))) (vaCons (vOp opIx (vVar 2) (vC (.int 2))) (vaCons (vOp opIx (vVar 2) (vC (.int 1))) vaNil))))))
  (vSeq (vAsgS 9 (vCall (S__law_ahead A) (vaCons (vVar 1) (vaCons (vOp opIx (vVar 2) (vC (.int 0))) (vaCons (vOp opIx (vVar 2) (vC (.int 3))) (vaCons (vOp opIx (vVar 2) (vC (.int 1))) vaNil))))))
  (vRet (vAndV (vCB (isiD K) (vaCons (vVar 4) (vaCons (vC (.ty "bool")) vaNil))) (vOp opEq (vVar 4) (vOp opNe (vVar 8) (vVar 9))))))))))))))
/-- slots: 0 names, 1 fault, 2 k, 3 word, 4 good, 5 given, 6 found, 7 told, 8 kinds, 9 e -/
def t__law_refused (K : PySem.W.Frag) (A : Ad) : VS :=
  (vSeq (vAsgS 1 (vC .non))
  (vSeq (vFor (siRng1 (vaCons (vCB (one lenD) (vaCons (vVar 0) vaNil)) vaNil)) (gN 2) (vSeq (vAsgS 3 (vOp opIx (vVar 0) (vVar 2)))
  (vSeq (vAsgS 4 (vAndV (vOp opEq (vBM "str" mStripC (vVar 3) (vaCons (vC (.str "abcdefghijklmnopqrstuvwxyz")) vaNil)) (vC (.str ""))) (vAndV (vOp opLt (vC (.int 0)) (vCB (one lenD) (vaCons (vVar 3) vaNil))) (vOp opLt (vCB (one lenD) (vaCons (vVar 3) vaNil)) (vC (.int 9))))))
  (vIf (vAnd (vTst (vOp (opIs false) (vVar 1) (vC .non))) (vOr (vNot (vTru (vVar 4))) (vTst (vOp (opIn false) (vVar 3) (vSl (vVar 0) voNone (voSome (vVar 2))))))) (vAsgS 1 (vVar 2)) vNext))))
  (vSeq (vIf (vAnd (vTst (vOp (opIs false) (vVar 1) (vC .non))) (vTst (vOp opGt (vCB (one lenD) (vaCons (vVar 0) vaNil)) (vC (.int 12))))) (vAsgS 1 (vC (.int 12))) vNext)
  (vSeq (vAsgS 5 (vCB (one listD) (vaCons (vVar 0) vaNil)))
  (vSeq (vAsgS 6 (vC .non))
  (vSeq (vAsgS 7 (vC .non))
  (vSeq (vAsgS 8 (vLst vaNil))
  (vSeq (vTry K (vAsgS 6 (vCall (mkS A.c_Round (S_Round_init A)) (vaCons (vVar 5) vaNil))) (⟨.ref A.c_BadRound, (some 9), (vSeq (vAsgS 7 (vXF [A.c_BadRound] "index" (vVar 9)))
  (vAsgS 8 (vLst (vaCons (vIsX K [A.c_BadRound] (vaCons (vVar 9) (vaCons (vC (.cst A.c_RowsError)) vaNil))) (vaCons (vIsX K [A.c_BadRound] (vaCons (vVar 9) (vaCons (vC (.ty "ValueError")) vaNil))) (vaCons (vIsX K [A.c_BadRound] (vaCons (vVar 9) (vaCons (vC (.cst A.c_Unknown)) vaNil))) (vaCons (vIsX K [A.c_BadRound] (vaCons (vVar 9) (vaCons (vC (.cst A.c_Impossible)) vaNil))) vaNil)))))))⟩ :: []))
  (vSeq (vIf (vTst (vOp opNe (vVar 5) (vVar 0))) (vRet (vC (.bl false))) vNext)
  (vSeq (vIf (vTst (vOp (opIs false) (vVar 1) (vC .non))) (vRet (vAndV (vOp (opIs true) (vVar 6) (vC .non)) (vOp opEq (vListO A.c_Round "names" (S_Round_len A) (vaCons (vVar 6) vaNil)) (vVar 0)))) vNext)
  (vSeq (vIf (vOr (vTst (vOp (opIs true) (vVar 6) (vC .non))) (vTst (vOp opNe (vVar 8) (vLst (vaCons (vC (.bl true)) (vaCons (vC (.bl true)) (vaCons (vC (.bl false)) (vaCons (vC (.bl false)) vaNil)))))))) (vRet (vC (.bl false))) vNext)
  (vRet (vAndV (vCB (isiD K) (vaCons (vVar 7) (vaCons (vC (.ty "int")) vaNil))) (vAndV (vNotV (vCB (isiD K) (vaCons (vVar 7) (vaCons (vC (.ty "bool")) vaNil)))) (vOp opEq (vVar 7) (vVar 1))))))))))))))))
/-- slots: 0 names, 1 pool, 2 signs, 3 odd, 4 many, 5 turn, 6 line, 7 k, 8 twice -/
def t__law_lists_refused (K : PySem.W.Frag) (A : Ad) : VS :=
  (vSeq (vAsgS 2 (vC (.str " !\"#$&'()*+,-./0123456789:;<=>?@ABCDEFGHIJKLMNOPQRSTUVWXYZ[\\]^_`{|}~")))
  (vSeq (vAsgS 3 (vOp opIx (vLst (vaCons (vC (.str "")) (vaCons (vC (.str "A")) (vaCons (vC (.str "abcdefghi")) (vaCons (vOp opAdd (vOp opAdd (vC (.str "a")) (vOp opIx (vVar 2) (vOp opMod (vCB (one intD) (vaCons (vOp opIx (vVar 1) (vC (.int 4))) vaNil)) (vCB (one lenD) (vaCons (vVar 2) vaNil))))) (vC (.str "b"))) (vaCons (vC (.str "z1")) (vaCons (vC (.str " a")) vaNil))))))) (vOp opMod (vCB (one intD) (vaCons (vOp opIx (vVar 1) (vC (.int 0))) vaNil)) (vC (.int 6)))))
  (vSeq (vAsg 4 (vCB (one listD) (vaCons (vVar 0) vaNil)))
  (vSeq (vFor (siRng1 (vaCons (vOp opAdd (vC (.int 13)) (vOp opMod (vCB (one intD) (vaCons (vOp opIx (vVar 1) (vC (.int 1))) vaNil)) (vC (.int 3)))) vaNil)) (gN 5) (vIf (vTst (vOp opLt (vCB (one lenD) (vaCons (vVar 4) vaNil)) (vOp opAdd (vC (.int 13)) (vOp opMod (vCB (one intD) (vaCons (vOp opIx (vVar 1) (vC (.int 1))) vaNil)) (vC (.int 3)))))) (vMut 4 mApp (vaCons (vCall (S__law_new A) (vaCons (vVar 4) (vaCons (vC (.str "k")) vaNil))) vaNil)) vNext))
  (vSeq (vFz 4 (vFor (siSeq (vLst (vaCons (vCB (one listD) (vaCons (vVar 0) vaNil)) (vaCons (vVar 4) vaNil)))) (gN 6) (vSeq (vAsgS 7 (vOp opMod (vCB (one intD) (vaCons (vOp opIx (vVar 1) (vC (.int 2))) vaNil)) (vOp opAdd (vCB (one lenD) (vaCons (vVar 6) vaNil)) (vC (.int 1)))))
  (vSeq (vAsgS 8 (vOp opIx (vOp opAdd (vVar 6) (vLst (vaCons (vVar 3) vaNil))) (vOp opMod (vCB (one intD) (vaCons (vOp opIx (vVar 1) (vC (.int 3))) vaNil)) (vOp opAdd (vCB (one lenD) (vaCons (vVar 6) vaNil)) (vC (.int 1))))))
  (vSeq (vIf (vOr (vNot (vTru (vCall (S__law_refused A) (vaCons (vVar 6) vaNil)))) (vNot (vTru (vCall (S__law_refused A) (vaCons (vOp opAdd (vOp opAdd (vSl (vVar 6) voNone (voSome (vVar 7))) (vLst (vaCons (vVar 3) vaNil))) (vSl (vVar 6) (voSome (vVar 7)) voNone)) vaNil))))) (vRet (vC (.bl false))) vNext)
  (vSeq (vIf (vOr (vNot (vTru (vCall (S__law_refused A) (vaCons (vOp opAdd (vOp opAdd (vVar 6) (vSl (vVar 6) voNone (voSome (vC (.int 1))))) (vLst (vaCons (vVar 3) vaNil))) vaNil)))) (vNot (vTru (vCall (S__law_refused A) (vaCons (vOp opAdd (vOp opAdd (vLst (vaCons (vVar 3) vaNil)) (vVar 6)) (vSl (vVar 6) voNone (voSome (vC (.int 1))))) vaNil))))) (vRet (vC (.bl false))) vNext)
  (vIf (vOr (vNot (vTru (vCall (S__law_refused A) (vaCons (vOp opAdd (vOp opAdd (vSl (vVar 6) voNone (voSome (vVar 7))) (vLst (vaCons (vVar 8) vaNil))) (vSl (vVar 6) (voSome (vVar 7)) voNone)) vaNil)))) (vNot (vTru (vCall (S__law_refused A) (vaCons (vOp opAdd (vOp opAdd (vSl (vVar 6) voNone (voSome (vVar 7))) (vLst (vaCons (vVar 3) vaNil))) (vSl (vVar 6) (voSome (vOp opAdd (vVar 7) (vC (.int 1)))) voNone)) vaNil))))) (vRet (vC (.bl false))) vNext)))))))
  (vRet (vC (.bl true))))))))
/-- slots: 0 script, 1 pool, 2 other, 3 names, 4 k, 5 given, 6 ring, 7 stranger, 8 places, 9 mixed, 10 name, 11 known, 12 four -/
def t_law (K : PySem.W.Frag) (A : Ad) : VS :=
  (vSeq (vAsgS 1 (vCall (S__law_pool A) (vaCons (vVar 0) (vaCons (vC (.int 0)) (vaCons (vC (.int 60)) vaNil)))))
  (vSeq (vAsgS 2 (vCall (S__law_pool A) (vaCons (vVar 0) (vaCons (vC (.int 1)) (vaCons (vC (.int 60)) vaNil)))))
  (vSeq (vAsg 3 (vLst vaNil))
  (vSeq (vFor (siRng1 (vaCons (vOp opIx (vLst (vaCons (vC (.int 3)) (vaCons (vC (.int 4)) (vaCons (vC (.int 5)) (vaCons (vC (.int 2)) (vaCons (vC (.int 8)) (vaCons (vC (.int 6)) (vaCons (vC (.int 9)) (vaCons (vC (.int 10)) (vaCons (vC (.int 1)) (vaCons (vC (.int 7)) (vaCons (vC (.int 0)) (vaCons (vC (.int 12)) (vaCons (vC (.int 11)) vaNil)))))))))))))) (vOp opMod (vCB (one intD) (vaCons (vOp opIx (vVar 1) (vC (.int 0))) vaNil)) (vC (.int 13)))) vaNil)) (gN 4) (vMut 3 mApp (vaCons (vCall (S__law_new A) (vaCons (vVar 3) (vaCons (vCall (S__law_word A) (vaCons (vVar 1) (vaCons (vOp opAdd (vC (.int 1)) (vOp opMul (vC (.int 3)) (vVar 4))) vaNil))) vaNil))) vaNil)))
  (vSeq (vFz 3 (vAsg 5 (vCB (one listD) (vaCons (vVar 3) vaNil))))
  (vSeq (vAsgS 6 (vCall (mkS A.c_Round (S_Round_init A)) (vaCons (vVar 5) vaNil)))
  (vSeq (vMut 5 mApp (vaCons (vC (.str "q")) vaNil))
  (vSeq (vFz 5 (vAsgS 7 (vCall (S__law_new A) (vaCons (vVar 3) (vaCons (vCall (S__law_word A) (vaCons (vVar 1) (vaCons (vC (.int 45)) vaNil))) vaNil)))))
  (vSeq (vIf (vOr (vNot (vTru (vCall (S__law_is_round A) (vaCons (vVar 6) (vaCons (vVar 3) vaNil))))) (vNot (vTru (vCall (S__law_is_round A) (vaCons (vDun1 A.c_Round (S_Round_invert A) (vVar 6)) (vaCons (vCall (S__law_back A) (vaCons (vVar 3) vaNil)) vaNil)))))) (vRet (vC (.bl false))) vNext)
  (vSeq (vIf (vOr (vNot (vTru (vCall (S__law_is_round A) (vaCons (vDun1 A.c_Round (S_Round_invert A) (vDun1 A.c_Round (S_Round_invert A) (vVar 6))) (vaCons (vVar 3) vaNil))))) (vNot (vTru (vCall (S__law_is_round A) (vaCons (vCall (mkS A.c_Round (S_Round_init A)) (vaCons (vCB (one tupD) (vaCons (vVar 3) vaNil)) vaNil)) (vaCons (vVar 3) vaNil)))))) (vRet (vC (.bl false))) vNext)
  (vSeq (vFor (siSeq (vLst (vaCons (vCall (S__law_whole A) (vaCons (vVar 1) (vaCons (vC (.int 37)) vaNil))) (vaCons (vCall (S__law_whole A) (vaCons (vVar 1) (vaCons (vC (.int 41)) vaNil))) (vaCons (vC (.int 0)) (vaCons (vC (.int 1)) vaNil)))))) (gN 8) (vIf (vNot (vTru (vCall (S__law_turns A) (vaCons (vVar 6) (vaCons (vVar 3) (vaCons (vVar 8) vaNil)))))) (vRet (vC (.bl false))) vNext))
  (vSeq (vAsgS 9 (vCall (S__law_sequence A) (vaCons (vVar 3) (vaCons (vOp opAdd (vOp opMul (vOp opIx (vVar 2) (vC (.int 0))) (vC (.int 27720))) (vOp opIx (vVar 2) (vC (.int 1)))) vaNil))))
  (vSeq (vIf (vOr (vNot (vTru (vCall (S__law_equals A) (vaCons (vVar 6) (vaCons (vVar 3) (vaCons (vVar 9) vaNil)))))) (vNot (vTru (vCall (S__law_equals A) (vaCons (vVar 6) (vaCons (vVar 3) (vaCons (vRevL (vVar 3)) vaNil))))))) (vRet (vC (.bl false))) vNext)
  (vSeq (vIf (vOr (vNot (vTru (vCall (S__law_equals A) (vaCons (vVar 6) (vaCons (vVar 3) (vaCons (vSl (vVar 3) (voSome (vC (.int 1))) voNone) vaNil)))))) (vNot (vTru (vCall (S__law_equals A) (vaCons (vVar 6) (vaCons (vVar 3) (vaCons (vOp opAdd (vSl (vVar 3) (voSome (vC (.int 1))) voNone) (vLst (vaCons (vVar 7) vaNil))) vaNil))))))) (vRet (vC (.bl false))) vNext)
  (vSeq (vIf (vNot (vTru (vCall (S__law_equals A) (vaCons (vVar 6) (vaCons (vVar 3) (vaCons (vOp opAdd (vOp opAdd (vSl (vVar 3) (voSome (vC (.int 1))) (voSome (vC (.int 2)))) (vSl (vVar 3) voNone (voSome (vC (.int 1))))) (vSl (vVar 3) (voSome (vC (.int 2))) voNone)) vaNil)))))) (vRet (vC (.bl false))) vNext)
  (vSeq (vFor (siSeq (vOp opAdd (vVar 3) (vLst (vaCons (vVar 7) (vaCons (vC (.str "")) vaNil))))) (gN 10) (vIf (vNot (vTru (vCall (S__law_cut_is A) (vaCons (vVar 6) (vaCons (vVar 3) (vaCons (vVar 10) vaNil)))))) (vRet (vC (.bl false))) vNext))
  (vSeq (vAsgS 11 (vOp opAdd (vVar 3) (vLst (vaCons (vVar 7) vaNil))))
  (vSeq (vAsgS 12 (vLc (siRng1 (vaCons (vC (.int 4)) vaNil)) 4 vYes (vOp opIx (vVar 11) (vOp opMod (vCB (one intD) (vaCons (vOp opIx (vVar 2) (vOp opAdd (vC (.int 2)) (vVar 4))) vaNil)) (vCB (one lenD) (vaCons (vVar 11) vaNil)))) [4]))
  (vSeq (vIf (vOr (vNot (vTru (vCall (S__law_splits_are A) (vaCons (vVar 6) (vaCons (vVar 3) (vaCons (vVar 12) vaNil)))))) (vNot (vTru (vCall (S__law_splits_are A) (vaCons (vVar 6) (vaCons (vVar 3) (vaCons (vSl (vOp opAdd (vVar 9) (vVar 12)) voNone (voSome (vC (.int 4)))) vaNil))))))) (vRet (vC (.bl false))) vNext)
  (vSeq (vIf (vOr (vNot (vTru (vCall (S__law_splits_are A) (vaCons (vVar 6) (vaCons (vVar 3) (vaCons (vSl (vOp opAdd (vVar 3) (vVar 12)) voNone (voSome (vC (.int 4)))) vaNil)))))) (vNot (vTru (vCall (S__law_lists_refused A) (vaCons (vVar 3) (vaCons (vSl (vVar 2) (voSome (vC (.int 6))) voNone) vaNil)))))) (vRet (vC (.bl false))) vNext)
  (vRet (vAndV (vCall (S__law_is_round A) (vaCons (vVar 6) (vaCons (vVar 3) vaNil))) (vCall (S__law_turns A) (vaCons (vVar 6) (vaCons (vVar 3) (vaCons (vCall (S__law_whole A) (vaCons (vVar 1) (vaCons (vC (.int 41)) vaNil))) vaNil))))))))))))))))))))))))))
end K09
/-! K09: the pure parts. -/
namespace K09
open PySem L2 DL PySem.Spec
/- the short word of the proofs below: what a reading says, by its own equations -/
local macro_rules | `(tactic| simp! only) => `(tactic| simp only [q_d1, q_d2, q_d3, q_d4, q_v0, q_g0, q_v1, q_g1, q_v2, q_g2, q_v3, q_g3, q_v4, q_g4, q_e0, q_e1, q_t0, q_t1, q_t2, q_t3, q_t4, q_t5, q_l0, q_l1, q_l2, q_l3, q_i0, q_i1, q_a0, q_li0, q_li1, q_tu0, q_tu1, q_bs, q_oI, q_ad0, q_ad1, q_ad2, q_ad3, q_is0, q_is1, q_n0, q_n1, q_n2, q_n3, q_n4, q_n5, q_n6, q_ix0, q_ix1, q_ix2, q_ix3, q_sl0, q_sl1, q_sl2, q_bk, q_rk0, q_rk1, q_rk2, q_rf0, q_rf1, q_rf2, q_sq0, q_sq1, q_ok0, q_ok1, q_ox0, q_ox1, vSeq, vNext, vBrk, vCnt, vAsg, vAsgS, vDrop, vFz, fz, vRet, vRetF, vRetN, vIf, vMut, mApp, vVar, vC, vOp, vUn, oNeg, vTst, vChn, vAnd, vOr, vNot, vAndV, vOrV, vNotV, vIfE, vaNil, vaCons, vTup, vLst, vCB, one, vals, goods, opSub, opMul, opFDiv, opMod, opPow, opLt, opLe, opGt, opGe, opEq, opNe, in_l, in_t, in_li, sd_len, id_len, sd_get, id_get, sd_cut, id_cut, sd_app, sd_rev, sd_drop, sd_take, id_drop, sd_at, id_at, sd_empty, eqd_str, eqd_int, eqd_bl, eqd_non, eqd_ns, eqd_ni, eqd_nb, eqd_sn, eqd_in, eqd_bn, Bool.true_xor, Bool.false_xor, Bool.xor_false, Bool.xor_true, decide_eq_true_eq, Bool.not_eq_true', decide_eq_false_iff_not, ite_not, eq_self, beq_self_eq_true, decide_true, decide_false, Option.map_some, Option.map_none, Nat.le_refl, Bool.true_eq_false, cut_toN, cut_fromN, DL.atI_nat, isi_ss, isi_ii, isi_ib, isi_bb, isi_bi, isi_ll, isi_tt, isi_nl, isi_nb, isi_ni, vSl, voNone, voSome, vTru, vCall, valsC, goodsB, noL, noLF, vFldC, vBM, tyM, vSelf, vRaise, vRevL, vBackT, vTIndex, mStripC, mSIndex, mLIndex, siSeq, siStr, siRng1, siRng2, siEnum, rng1, rng2, gN, gTpT, gsNil, gsCons, vDun1, vDun2, vDunIn, vDunIx, vDunLen, vListO, siOwn, vMeth, mkS, endsF, endsI, vYes, List.getElem?_cons_zero, List.getElem?_cons_succ, List.getElem?_nil, List.set_cons_zero, List.set_cons_succ, List.map_cons, List.map_nil, List.lookup_cons, List.lookup_nil, List.length_cons, List.length_nil, true_and, and_true, and_self, if_true, if_false, Bool.false_eq_true, Bool.not_true, Bool.not_false, List.mem_singleton, Bool.true_or, Bool.or_true, Bool.false_or, Bool.or_false, wipeD, Bool.true_and, Bool.and_true, Bool.false_and, Bool.and_false])
local macro_rules | `(tactic| simp! only [$ts,*]) => `(tactic| simp only [$ts,*, q_d1, q_d2, q_d3, q_d4, q_v0, q_g0, q_v1, q_g1, q_v2, q_g2, q_v3, q_g3, q_v4, q_g4, q_e0, q_e1, q_t0, q_t1, q_t2, q_t3, q_t4, q_t5, q_l0, q_l1, q_l2, q_l3, q_i0, q_i1, q_a0, q_li0, q_li1, q_tu0, q_tu1, q_bs, q_oI, q_ad0, q_ad1, q_ad2, q_ad3, q_is0, q_is1, q_n0, q_n1, q_n2, q_n3, q_n4, q_n5, q_n6, q_ix0, q_ix1, q_ix2, q_ix3, q_sl0, q_sl1, q_sl2, q_bk, q_rk0, q_rk1, q_rk2, q_rf0, q_rf1, q_rf2, q_sq0, q_sq1, q_ok0, q_ok1, q_ox0, q_ox1, vSeq, vNext, vBrk, vCnt, vAsg, vAsgS, vDrop, vFz, fz, vRet, vRetF, vRetN, vIf, vMut, mApp, vVar, vC, vOp, vUn, oNeg, vTst, vChn, vAnd, vOr, vNot, vAndV, vOrV, vNotV, vIfE, vaNil, vaCons, vTup, vLst, vCB, one, vals, goods, opSub, opMul, opFDiv, opMod, opPow, opLt, opLe, opGt, opGe, opEq, opNe, in_l, in_t, in_li, sd_len, id_len, sd_get, id_get, sd_cut, id_cut, sd_app, sd_rev, sd_drop, sd_take, id_drop, sd_at, id_at, sd_empty, eqd_str, eqd_int, eqd_bl, eqd_non, eqd_ns, eqd_ni, eqd_nb, eqd_sn, eqd_in, eqd_bn, Bool.true_xor, Bool.false_xor, Bool.xor_false, Bool.xor_true, decide_eq_true_eq, Bool.not_eq_true', decide_eq_false_iff_not, ite_not, eq_self, beq_self_eq_true, decide_true, decide_false, Option.map_some, Option.map_none, Nat.le_refl, Bool.true_eq_false, cut_toN, cut_fromN, DL.atI_nat, isi_ss, isi_ii, isi_ib, isi_bb, isi_bi, isi_ll, isi_tt, isi_nl, isi_nb, isi_ni, vSl, voNone, voSome, vTru, vCall, valsC, goodsB, noL, noLF, vFldC, vBM, tyM, vSelf, vRaise, vRevL, vBackT, vTIndex, mStripC, mSIndex, mLIndex, siSeq, siStr, siRng1, siRng2, siEnum, rng1, rng2, gN, gTpT, gsNil, gsCons, vDun1, vDun2, vDunIn, vDunIx, vDunLen, vListO, siOwn, vMeth, mkS, endsF, endsI, vYes, List.getElem?_cons_zero, List.getElem?_cons_succ, List.getElem?_nil, List.set_cons_zero, List.set_cons_succ, List.map_cons, List.map_nil, List.lookup_cons, List.lookup_nil, List.length_cons, List.length_nil, true_and, and_true, and_self, if_true, if_false, Bool.false_eq_true, Bool.not_true, Bool.not_false, List.mem_singleton, Bool.true_or, Bool.or_true, Bool.false_or, Bool.or_false, wipeD, Bool.true_and, Bool.and_true, Bool.false_and, Bool.and_false])
/-! ### small laws -/
theorem dec_iff {p q : Prop} [Decidable p] [Decidable q] (h : p ↔ q) : decide p = decide q := by
  by_cases hp : p
  · rw [decide_eq_true hp, decide_eq_true (h.mp hp)]
  · rw [decide_eq_false hp, decide_eq_false fun z => hp (h.mpr z)]
theorem strDs_len (w : Str) : (strDs w).length = w.length := by
  unfold strDs
  rw [List.length_map, Array.length_toList]
  rfl
theorem okz {w : Str} (h : okS w) : w.length ≤ sizeLine := sz1000 h.1
theorem Ok.z {ns : List Str} (h : Ok ns) : ns.length ≤ sizeLine := sz1000 h.l
theorem Ok.sub {ns ms : List Str} (h : Ok ns) (hl : ms.length ≤ ns.length) (hm : ∀ x, x ∈ ms → x ∈ ns) : Ok ms := ⟨Nat.le_trans hl h.l, fun x hx => h.w x (hm x hx)⟩
theorem Ok.take {ns : List Str} (h : Ok ns) (k : Nat) : Ok (ns.take k) := h.sub (by rw [List.length_take]; omega) fun x hx => List.mem_of_mem_take hx
theorem Ok.drop {ns : List Str} (h : Ok ns) (k : Nat) : Ok (ns.drop k) := h.sub (by rw [List.length_drop]; omega) fun x hx => List.mem_of_mem_drop hx
theorem rot_len {ns : List Str} {k : Nat} : (rot ns k).length = ns.length := by
  unfold rot
  rw [List.length_append, List.length_drop, List.length_take]
  omega
theorem rot_perm {ns : List Str} {k : Nat} : (rot ns k).Perm ns := by
  unfold rot
  have h := List.perm_append_comm (l₁ := ns.drop k) (l₂ := ns.take k)
  rw [List.take_append_drop] at h
  exact h
theorem back_perm {ns : List Str} : (back ns).Perm ns := by
  unfold back
  have h := (List.reverse_perm (ns.drop 1)).append_left (ns.take 1)
  rw [List.take_append_drop] at h
  exact h
theorem Ok.perm {ns ms : List Str} (h : Ok ns) (p : ms.Perm ns) : Ok ms := h.sub (Nat.le_of_eq p.length_eq) fun x hx => p.mem_iff.mp hx
theorem Ok.rot {ns : List Str} (h : Ok ns) (k : Nat) : Ok (rot ns k) := h.perm rot_perm
/-! ### names -/
theorem lett_in (c : Nat) : decide (c ∈ (Str.ofString "abcdefghijklmnopqrstuvwxyz").cps.toList) = lett c := rfl
theorem len_is_name (A : Ad) : ∀ ds Ψ Ξ, S_is_name A ds Ψ Ξ → ds.length = 1 := by
  rintro ds Ψ Ξ ⟨w, rfl, _⟩; rfl
theorem pure_is_name {K : PySem.W.Frag} {mg : Str → Option Value} {A : Ad} (T : Txt K mg A) : ∀ ds Ψ Ξ, S_is_name A ds Ψ Ξ → t_is_name K A (endsF Ψ Ξ) (stD N_is_name ds) := by
  rintro ds Ψ Ξ ⟨w, rfl, hw, k⟩
  show t_is_name K A _ [.sh (.str w), .un]
  unfold t_is_name
  simp! only
  refine ⟨okz hw, ?_⟩
  by_cases h1 : 1 ≤ w.length
  · rw [if_pos (by omega)]
    by_cases h2 : w.length ≤ 8
    · rw [if_pos (by omega)]
      refine vlc_map (strDs w) (fun P h => h) (fun d => match d with
        | .str a => .bl (a.cps.toList.all lett)
        | _ => .non) (by rw [strDs_len w]; have := hw.1; omega) (fun d hd => ?_) ?_
      · unfold strDs at hd
        obtain ⟨c, _, rfl⟩ := List.mem_map.mp hd
        refine ⟨True.intro, True.intro, True.intro, ?_⟩
        show DV.bl _ = DV.bl (([c] : List Nat).all lett)
        rw [List.all_cons, List.all_nil, Bool.and_true, ← lett_in c, Bool.false_xor]
      · unfold strDs
        rw [List.map_map]
        have e : (w.cps.toList.map ((fun d => match d with
          | DV.str a => DV.bl (a.cps.toList.all lett)
          | _ => DV.non) ∘ fun c => DV.str ⟨#[c]⟩)) = (w.cps.toList.map lett).map .bl := by
          rw [List.map_map]
          refine List.map_congr_left fun c _ => ?_
          show DV.bl (([c] : List Nat).all lett) = DV.bl (lett c)
          rw [List.all_cons, List.all_nil, Bool.and_true]
        rw [e]
        simp! only
        rw [asBls_map]
        show Ψ (.sh (.bl ((w.cps.toList.map lett).all id)))
        rw [List.all_map]
        have e2 : isN w = w.cps.toList.all (id ∘ lett) := by
          unfold isN
          rw [decide_eq_true h1, decide_eq_true h2]
          rfl
        rw [← e2]
        exact k
    · rw [if_neg (by omega)]
      unfold isN at k
      rw [decide_eq_false h2, Bool.and_false, Bool.false_and] at k
      exact k
  · rw [if_neg (by omega)]
    unfold isN at k
    rw [decide_eq_false h1, Bool.false_and, Bool.false_and] at k
    exact k

/-! ### the columns are known, and different -/
theorem find_first {α : Type} {P : α → Bool} : ∀ {l : List α} {i : Nat} {w : α}, l[i]? = some w → P w = true → (∀ x, x ∈ l.take i → P x = false) → l.find? P = some w
  | [], _, _, h, _, _ => by simp at h
  | a :: l, 0, w, h, hp, _ => by
    have e : a = w := Option.some.inj h
    subst e
    rw [List.find?_cons, hp]
  | a :: l, i + 1, w, h, hp, hn => by
    rw [List.find?_cons, hn a (by rw [List.take_succ_cons]; exact List.mem_cons_self)]
    exact find_first (i := i) h hp fun x hx => hn x (by rw [List.take_succ_cons]; exact List.mem_cons_of_mem _ hx)
theorem take_get {α : Type} {l : List α} {i : Nat} {w : α} (h : l[i]? = some w) : l.take (i + 1) = l.take i ++ [w] := by
  rw [List.take_add_one, h]; rfl
theorem stranger_at {ns ms : List Str} {i : Nat} {w : Str} (h : ms[i]? = some w) (hw : w ∉ ns) (hn : ∀ x, x ∈ ms.take i → x ∈ ns) : stranger ns ms = some w :=
  find_first h (by simp [hw]) fun x hx => by simp [hn x hx]
theorem stranger_no {ns ms : List Str} (h : ∀ x, x ∈ ms → x ∈ ns) : stranger ns ms = Option.none := by
  unfold stranger
  rw [List.find?_eq_none]
  intro x hx
  simp [h x hx]
theorem seqOf_seq {d : DV} {ns : List Str} (h : seqOf d ns) (P : List DV → Prop) (k : P (sd ns)) : seqD d P := by
  rcases h with rfl | ⟨x, rfl⟩ <;> exact k
theorem seqOf_in {d : DV} {ns : List Str} (h : seqOf d ns) {n : Bool} {w : Str} {Ψ : R → Prop} (k : Ψ (.sh (.bl (n ^^ decide (w ∈ ns))))) : opIn n (.str w) d Ψ := by
  rcases h with rfl | ⟨x, rfl⟩
  · rw [in_l]; exact k
  · rw [in_t]; exact k
/-- w in d[:i] -/
theorem seqOf_inTo {d : DV} {ns : List Str} (h : seqOf d ns) {n : Bool} {w : Str} {i : Int} (hi : 0 ≤ i) {Ψ : R → Prop} (k : Ψ (.sh (.bl (n ^^ decide (w ∈ ns.take i.toNat))))) :
    slD d Option.none (some i) (fun r => r.val ∧ opIn n (.str w) r.d Ψ) := by
  rcases h with rfl | ⟨x, rfl⟩
  · show True ∧ opIn n (.str w) (.lst (cut (sd ns) _ _)) Ψ
    rw [sd_cut, cut_to hi, in_l]
    exact ⟨True.intro, k⟩
  · show True ∧ opIn n (.str w) (.tup x (cut (sd ns) _ _)) Ψ
    rw [sd_cut, cut_to hi, in_t]
    exact ⟨True.intro, k⟩
theorem len_check_known (A : Ad) : ∀ ds Ψ Ξ, S_check_known A ds Ψ Ξ → ds.length = 2 := by
  rintro ds Ψ Ξ ⟨d, e, ns, ms, rfl, _⟩; rfl
theorem pure_check_known {K : PySem.W.Frag} {mg : Str → Option Value} {A : Ad} (T : Txt K mg A) : ∀ ds Ψ Ξ, S_check_known A ds Ψ Ξ → t_check_known K A (endsF Ψ Ξ) (stD N_check_known ds) := by
  rintro ds Ψ Ξ ⟨d, e, ns, ms, rfl, hd, he, ho, hm, k⟩
  show t_check_known K A _ [.sh d, .sh e, .un]
  unfold t_check_known
  refine vfor (sd ms) (fun P h => ⟨True.intro, seqOf_seq he P h⟩) (fun i ρ => ∃ x, ρ = [.sh d, .sh e, x] ∧ ∀ w, w ∈ ms.take i → w ∈ ns) ⟨_, rfl, fun w hw => by simp at hw⟩ ?_ ?_
  · rintro i y ρ1 hy ⟨x, rfl, hn⟩
    rw [sd_get, Option.map_eq_some_iff] at hy
    obtain ⟨w, hw, rfl⟩ := hy
    simp! only
    refine seqOf_in hd ?_
    simp! only
    by_cases h : w ∈ ns
    · rw [if_pos h]
      exact ⟨_, rfl, fun v hv => by
        rw [take_get hw, List.mem_append, List.mem_singleton] at hv
        rcases hv with hv | rfl
        · exact hn v hv
        · exact h⟩
    · rw [if_neg h]
      rw [stranger_at hw h hn] at k
      exact ⟨by decide, by simp, k⟩
  · rintro ρ1 ⟨x, rfl, hn⟩
    rw [sd_len, List.take_length] at hn
    rw [stranger_no hn] at k
    exact k
theorem range_find {P : Nat → Bool} {n i : Nat} (hi : i < n) (hp : P i = true) (hn : ∀ j, j < i → P j = false) : (List.range n).find? P = some i :=
  find_first (i := i) (List.getElem?_range hi) hp fun x hx => hn x (by
    rw [List.take_range] at hx
    have := List.mem_range.mp hx
    omega)
theorem range_no {P : Nat → Bool} {n : Nat} (h : ∀ j, j < n → P j = false) : (List.range n).find? P = Option.none := by
  rw [List.find?_eq_none]
  intro x hx
  simp [h x (List.mem_range.mp hx)]
def dup (ms : List Str) (k : Nat) : Bool := match ms[k]? with
  | some w => decide (w ∈ ms.take k)
  | _ => false
theorem twice_at {ms : List Str} {i : Nat} {w : Str} (h : ms[i]? = some w) (hw : w ∈ ms.take i) (hn : ∀ j, j < i → dup ms j = false) : twice ms = some w := by
  have e : (List.range ms.length).find? (dup ms) = some i := range_find (List.getElem?_eq_some_iff.mp h).1 (by unfold dup; rw [h]; exact decide_eq_true hw) hn
  show ((List.range ms.length).find? (dup ms)).bind (ms[·]?) = _
  rw [e]; exact h
theorem twice_no {ms : List Str} (hn : ∀ j, j < ms.length → dup ms j = false) : twice ms = Option.none := by
  show ((List.range ms.length).find? (dup ms)).bind (ms[·]?) = _
  rw [range_no hn]; rfl
theorem enum_get {ms : List Str} {i : Nat} {y : DV} (h : (enumDs 0 (sd ms))[i]? = some y) : ∃ w, ms[i]? = some w ∧ y = .tup false [.int (i : Nat), .str w] := by
  rw [enumDs_get, Option.map_eq_some_iff] at h
  obtain ⟨d, h1, h2⟩ := h
  rw [sd_get, Option.map_eq_some_iff] at h1
  obtain ⟨w, h3, rfl⟩ := h1
  refine ⟨w, h3, ?_⟩
  rw [← h2, Nat.zero_add]
theorem dup_lt {ms : List Str} {i : Nat} {w : Str} (hw : ms[i]? = some w) (h : w ∉ ms.take i) (hn : ∀ j, j < i → dup ms j = false) : ∀ j, j < i + 1 → dup ms j = false := fun j hj => by
  by_cases e : j = i
  · subst e
    unfold dup
    rw [hw]; exact decide_eq_false h
  · exact hn j (by omega)
theorem len_check_different (A : Ad) : ∀ ds Ψ Ξ, S_check_different A ds Ψ Ξ → ds.length = 2 := by
  rintro ds Ψ Ξ ⟨d, e, ns, ms, rfl, _⟩; rfl
theorem pure_check_different {K : PySem.W.Frag} {mg : Str → Option Value} {A : Ad} (T : Txt K mg A) : ∀ ds Ψ Ξ, S_check_different A ds Ψ Ξ → t_check_different K A (endsF Ψ Ξ) (stD N_check_different ds) := by
  rintro ds Ψ Ξ ⟨d, e, ns, ms, rfl, hd, he, ho, hm, k⟩
  show t_check_different K A _ [.sh d, .sh e, .un, .un]
  unfold t_check_different
  simp! only
  refine ⟨d, e, ns, ms, rfl, hd, he, ho, hm, ?_⟩
  split
  · rename_i w hs
    rw [hs] at k
    exact k
  · rename_i hs
    have hs : stranger ns ms = Option.none := by
      cases q : stranger ns ms with
      | none => rfl
      | some w => exact absurd q (hs w)
    rw [hs] at k
    refine vfor (enumDs 0 (sd ms)) (fun P h => ?_) (fun i ρ => ∃ x y, ρ = [.sh d, .sh e, x, y] ∧ ∀ j, j < i → dup ms j = false) ⟨_, _, rfl, fun j hj => by omega⟩ ?_ ?_
    · simp! only
      exact seqOf_seq he _ h
    · rintro i y ρ1 hy ⟨x, x2, rfl, hn⟩
      obtain ⟨w, hw, rfl⟩ := enum_get hy
      rcases he with rfl | ⟨x3, rfl⟩
      all_goals
        simp! only
        by_cases h : w ∈ ms.take i
        · rw [if_pos h]
          rw [twice_at hw h hn] at k
          exact ⟨by decide, by simp, k⟩
        · rw [if_neg h]
          exact ⟨_, _, rfl, dup_lt hw h hn⟩
    · rintro ρ1 ⟨x, x2, rfl, hn⟩
      rw [enumDs_len, sd_len] at hn
      rw [twice_no hn] at k
      exact k
/-! ### rings -/
theorem fault_at {ns : List Str} {i : Nat} (hi : i < ns.length) (hb : badAt ns i = true) (hn : ∀ j, j < i → badAt ns j = false) : fault ns = some i := by
  unfold fault
  rw [range_find hi hb hn]
theorem fault_no {ns : List Str} (hn : ∀ j, j < ns.length → badAt ns j = false) : fault ns = if 12 < ns.length then some 12 else Option.none := by
  unfold fault
  rw [range_no hn]
theorem len_Round_init (A : Ad) : ∀ ds Ψ Ξ, S_Round_init A ds Ψ Ξ → ds.length + 1 = 2 := by
  rintro ds Ψ Ξ ⟨d, ns, rfl, _⟩; rfl
theorem pure_Round_init {K : PySem.W.Frag} {mg : Str → Option Value} {A : Ad} (T : Txt K mg A) : ∀ ds Ψ Ξ, S_Round_init A ds Ψ Ξ → t_Round_init K A (endsI A.c_Round Ψ Ξ) (stI A.c_Round N_Round_init ds) := by
  rintro ds Ψ Ξ ⟨d, ns, rfl, hd, ho, k⟩
  have hq : seqOf d ns := hd.elim .inl fun h => .inr ⟨true, h⟩
  show t_Round_init K A _ [.oo A.c_Round [], .sh d, .un, .un]
  unfold t_Round_init
  unfold vSeq
  refine vfor (enumDs 0 (sd ns)) (fun P h => ?_) (fun i ρ => ∃ x y, ρ = [.oo A.c_Round [], .sh d, x, y] ∧ ∀ j, j < i → badAt ns j = false) ⟨_, _, rfl, fun j hj => by omega⟩ ?_ ?_
  · simp! only
    exact seqOf_seq hq _ h
  · rintro i y ρ1 hy ⟨x, x2, rfl, hn⟩
    obtain ⟨w, hw, rfl⟩ := enum_get hy
    have hwi := (List.getElem?_eq_some_iff.mp hw).1
    have okw := ho.w w (List.mem_of_getElem? hw)
    have bad : ∀ b, (!isN w || decide (w ∈ ns.take i)) = b → badAt ns i = b := fun b e => by unfold badAt; rw [hw]; exact e
    rcases hq with rfl | ⟨x3, rfl⟩
    all_goals
    simp! only
    refine ⟨w, rfl, okw, ?_⟩
    by_cases hN : isN w = true
    · rw [hN]
      simp! only
      by_cases h : w ∈ ns.take i
      · rw [if_pos h]
        rw [fault_at hwi (bad true (by simp [h])) hn] at k
        exact ⟨by decide, by simp, k⟩
      · rw [if_neg h]
        refine ⟨_, _, rfl, fun j hj => ?_⟩
        by_cases e : j = i
        · rw [e]; exact bad false (by simp [h, hN])
        · exact hn j (by omega)
    · have hN' : isN w = false := by simpa using hN
      rw [hN']
      simp! only
      rw [fault_at hwi (bad true (by simp [hN'])) hn] at k
      exact ⟨by decide, by simp, k⟩
  · rintro ρ1 ⟨x, x2, rfl, hn⟩
    rw [enumDs_len, sd_len] at hn
    rw [fault_no hn] at k
    have hz := ho.l
    have h12 : ∀ (P : Prop), (12 < ns.length → Ξ (xn1 A.c_BadRound "index" (.int 12))) → (¬ 12 < ns.length → P) → if (12 : Int) < (ns.length : Int) then (1 : Nat) ≤ 9 ∧ (["index"] : List Str).Nodup ∧ Ξ ⟨A.c_BadRound, (["index"] : List Str).zip [DV.int 12]⟩ else P := fun P h1 h2 => by
      by_cases h : 12 < ns.length
      · rw [if_pos (by omega)]; exact ⟨by decide, by simp, h1 h⟩
      · rw [if_neg (by omega)]; exact h2 h
    rcases hd with rfl | rfl
    all_goals
      simp! only
      refine h12 _ (fun h => by rw [if_pos h] at k; exact k) fun h => ?_
      rw [if_neg h] at k
      exact ⟨by decide, _, rfl, k⟩

abbrev RD (A : Ad) (ns : List Str) : DV := .obj A.c_Round [("names", .tup true (sd ns))]
theorem len_Round_len (A : Ad) : ∀ ds Ψ Ξ, S_Round_len A ds Ψ Ξ → ds.length = 1 := by
  rintro ds Ψ Ξ ⟨ns, rfl, _⟩; rfl
theorem pure_Round_len {K : PySem.W.Frag} {mg : Str → Option Value} {A : Ad} (T : Txt K mg A) : ∀ ds Ψ Ξ, S_Round_len A ds Ψ Ξ → t_Round_len K A (endsF Ψ Ξ) (stD N_Round_len ds) := by
  rintro ds Ψ Ξ ⟨ns, rfl, ho, k⟩
  show t_Round_len K A _ [.sh (RD A ns)]
  unfold t_Round_len
  simp! only
  exact k
theorem len_Round_contains (A : Ad) : ∀ ds Ψ Ξ, S_Round_contains A ds Ψ Ξ → ds.length = 2 := by
  rintro ds Ψ Ξ ⟨ns, w, rfl, _⟩; rfl
theorem pure_Round_contains {K : PySem.W.Frag} {mg : Str → Option Value} {A : Ad} (T : Txt K mg A) : ∀ ds Ψ Ξ, S_Round_contains A ds Ψ Ξ → t_Round_contains K A (endsF Ψ Ξ) (stD N_Round_contains ds) := by
  rintro ds Ψ Ξ ⟨ns, w, rfl, ho, k⟩
  show t_Round_contains K A _ [.sh (RD A ns), .sh (.str w)]
  unfold t_Round_contains
  simp! only
  exact k
theorem emod_nat {i : Int} {n : Nat} (h : 0 < n) : ∃ k : Nat, i % (n : Int) = (k : Int) ∧ k < n := by
  have h1 := Int.emod_nonneg i (b := (n : Int)) (by omega)
  have h2 := Int.emod_lt_of_pos i (b := (n : Int)) (by omega)
  exact ⟨(i % (n : Int)).toNat, by omega, by omega⟩
theorem len_Round_getitem (A : Ad) : ∀ ds Ψ Ξ, S_Round_getitem A ds Ψ Ξ → ds.length = 2 := by
  rintro ds Ψ Ξ ⟨ns, i, rfl, _⟩; rfl
theorem pure_Round_getitem {K : PySem.W.Frag} {mg : Str → Option Value} {A : Ad} (T : Txt K mg A) : ∀ ds Ψ Ξ, S_Round_getitem A ds Ψ Ξ → t_Round_getitem K A (endsF Ψ Ξ) (stD N_Round_getitem ds) := by
  rintro ds Ψ Ξ ⟨ns, i, rfl, ho, k⟩
  show t_Round_getitem K A _ [.sh (RD A ns), .sh (.int i)]
  unfold t_Round_getitem
  simp! only
  cases ns with
  | nil =>
    rw [if_pos (show (!([] : List Str).isEmpty) = false from rfl)]
    exact ⟨by decide, by simp, k⟩
  | cons a l =>
    rw [if_neg (by simp)]
    obtain ⟨j, e, hj⟩ := emod_nat (i := i) (n := (a :: l).length) (by simp)
    refine ⟨by rw [List.length_cons]; omega, ?_⟩
    rw [e] at k ⊢
    simp! only
    rw [Int.toNat_natCast, List.getElem?_eq_getElem hj] at k
    rw [List.getElem?_eq_getElem hj]
    exact k
/-! turned -/
theorem isN_ok {w : Str} (h : isN w = true) : okS w := by
  unfold isN at h
  rw [Bool.and_eq_true, Bool.and_eq_true, decide_eq_true_eq, decide_eq_true_eq, List.all_eq_true] at h
  refine ⟨by omega, ?_⟩
  rw [Array.all_eq_true_iff_forall_mem]
  intro c hc
  have hl := h.2 c (by simpa using hc)
  unfold lett at hl
  have hm := of_decide_eq_true hl
  have all : ∀ c, c ∈ (Lt.cps.toList : List Nat) → c < 0x110000 := by decide +kernel
  exact decide_eq_true (all c hm)
/-- good: all are names, no one twice, at most 12 -/
theorem good_iff {ns : List Str} : fault ns = Option.none ↔ ((∀ w, w ∈ ns → isN w = true) ∧ ns.Nodup ∧ ns.length ≤ 12) := by
  constructor
  · intro h
    unfold fault at h
    split at h
    · cases h
    · rename_i hf
      have hf : (List.range ns.length).find? (badAt ns) = Option.none := by
        cases q : (List.range ns.length).find? (badAt ns) with
        | none => rfl
        | some k => exact absurd q (hf k)
      rw [List.find?_eq_none] at hf
      have nb : ∀ j, j < ns.length → badAt ns j = false := fun j hj => by simpa using hf j (List.mem_range.mpr hj)
      refine ⟨fun w hw => ?_, ?_, ?_⟩
      · obtain ⟨j, hj⟩ := List.mem_iff_getElem?.mp hw
        have := nb j (List.getElem?_eq_some_iff.mp hj).1
        unfold badAt at this
        rw [hj] at this
        simp at this
        exact this.1
      · refine List.pairwise_iff_getElem.mpr fun i j hi hj hij e => ?_
        have := nb j hj
        unfold badAt at this
        rw [List.getElem?_eq_getElem hj] at this
        simp at this
        refine this.2 (List.mem_of_getElem? (i := i) ?_)
        rw [List.getElem?_take_of_lt hij, List.getElem?_eq_getElem hi, e]
      · by_cases h12 : 12 < ns.length
        · rw [if_pos h12] at h; cases h
        · omega
  · rintro ⟨h1, h2, h3⟩
    rw [fault_no, if_neg (by omega)]
    intro j hj
    unfold badAt
    rw [List.getElem?_eq_getElem hj]
    have e1 := h1 _ (List.getElem_mem hj)
    simp only [e1, Bool.not_true, Bool.false_or]
    refine decide_eq_false fun hm => ?_
    obtain ⟨i, hi⟩ := List.mem_iff_getElem?.mp hm
    have hij : i < j := by
      have := (List.getElem?_eq_some_iff.mp hi).1
      rw [List.length_take] at this
      omega
    rw [List.getElem?_take_of_lt hij] at hi
    have hi' : i < ns.length := by omega
    rw [List.getElem?_eq_getElem hi'] at hi
    exact List.pairwise_iff_getElem.mp h2 i j hi' hj hij (Option.some.inj hi)
theorem good_perm {ns ms : List Str} (h : Good ns) (p : ms.Perm ns) : Good ms := by
  obtain ⟨ho, hf⟩ := h
  obtain ⟨h1, h2, h3⟩ := good_iff.mp hf
  exact ⟨ho.perm p, good_iff.mpr ⟨fun w hw => h1 w (p.mem_iff.mp hw), p.nodup_iff.mpr h2, by rw [p.length_eq]; exact h3⟩⟩
theorem good_of {ns : List Str} (h1 : ∀ w, w ∈ ns → isN w = true) (h2 : ns.Nodup) (h3 : ns.length ≤ 12) : Good ns := ⟨⟨by omega, fun w hw => isN_ok (h1 w hw)⟩, good_iff.mpr ⟨h1, h2, h3⟩⟩
theorem rot_sz {ns : List Str} {j : Nat} (h : Ok ns) : (ns.drop j).length + (ns.take j).length ≤ sizeLine := by
  have := h.l
  refine Nat.le_trans (m := 1000) ?_ (by decide)
  rw [List.length_drop, List.length_take]
  omega
theorem rotI_nil {i : Int} : rotI [] i = [] := by unfold rotI rot; rw [List.drop_nil, List.take_nil]; rfl
theorem rotI_perm {ns : List Str} {i : Int} : (rotI ns i).Perm ns := rot_perm
/-- Round(..) of good names -/
theorem mk_ok {A : Ad} {d : DV} {ns : List Str} {Ψ : List (Str × DV) → Prop} {Ξ : XP} (hd : d = .lst (sd ns) ∨ d = .tup true (sd ns)) (h : Good ns) (k : Ψ [("names", .tup true (sd ns))]) : S_Round_init A [d] Ψ Ξ := ⟨d, ns, rfl, hd, h.1, by rw [h.2]; exact k⟩
theorem sd_nil0 : ([] : List DV) = sd [] := rfl
theorem good_nil : Good [] := good_of (fun w h => by simp at h) List.nodup_nil (by decide)
theorem len_Round_lshift (A : Ad) : ∀ ds Ψ Ξ, S_Round_lshift A ds Ψ Ξ → ds.length = 2 := by
  rintro ds Ψ Ξ ⟨ns, i, rfl, _⟩; rfl
theorem pure_Round_lshift {K : PySem.W.Frag} {mg : Str → Option Value} {A : Ad} (T : Txt K mg A) : ∀ ds Ψ Ξ, S_Round_lshift A ds Ψ Ξ → t_Round_lshift K A (endsF Ψ Ξ) (stD N_Round_lshift ds) := by
  rintro ds Ψ Ξ ⟨ns, i, rfl, hg, k⟩
  show t_Round_lshift K A _ [.sh (RD A ns), .sh (.int i), .un]
  unfold t_Round_lshift
  simp! only
  cases ns with
  | nil =>
    rw [if_pos (show (!([] : List Str).isEmpty) = false from rfl)]
    exact ⟨by decide, mk_ok (ns := []) (.inr rfl) good_nil (by rw [rotI_nil] at k; exact k)⟩
  | cons a l =>
    rw [if_neg (by simp)]
    obtain ⟨j, e, hj⟩ := emod_nat (i := i) (n := (a :: l).length) (by simp)
    refine ⟨by rw [List.length_cons]; omega, ?_⟩
    unfold rotI at k
    rw [e] at k ⊢
    rw [Int.toNat_natCast] at k
    simp! only
    exact ⟨rot_sz hg.1, mk_ok (.inr rfl) (good_perm hg rot_perm) k⟩
theorem len_Round_rshift (A : Ad) : ∀ ds Ψ Ξ, S_Round_rshift A ds Ψ Ξ → ds.length = 2 := by
  rintro ds Ψ Ξ ⟨ns, i, rfl, _⟩; rfl
theorem pure_Round_rshift {K : PySem.W.Frag} {mg : Str → Option Value} {A : Ad} (T : Txt K mg A) : ∀ ds Ψ Ξ, S_Round_rshift A ds Ψ Ξ → t_Round_rshift K A (endsF Ψ Ξ) (stD N_Round_rshift ds) := by
  rintro ds Ψ Ξ ⟨ns, i, rfl, hg, k⟩
  show t_Round_rshift K A _ [.sh (RD A ns), .sh (.int i)]
  unfold t_Round_rshift
  simp! only
  exact ⟨⟨_, rfl⟩, ⟨_, rfl⟩, ns, 0 - i, rfl, hg, k⟩
theorem len_Round_invert (A : Ad) : ∀ ds Ψ Ξ, S_Round_invert A ds Ψ Ξ → ds.length = 1 := by
  rintro ds Ψ Ξ ⟨ns, rfl, _⟩; rfl
theorem pure_Round_invert {K : PySem.W.Frag} {mg : Str → Option Value} {A : Ad} (T : Txt K mg A) : ∀ ds Ψ Ξ, S_Round_invert A ds Ψ Ξ → t_Round_invert K A (endsF Ψ Ξ) (stD N_Round_invert ds) := by
  rintro ds Ψ Ξ ⟨ns, rfl, hg, k⟩
  show t_Round_invert K A _ [.sh (RD A ns)]
  unfold t_Round_invert
  simp! only
  rw [show cut ns Option.none (some 1) = ns.take 1 from cut_to (by omega)]
  have hz := hg.1.l
  refine ⟨Nat.le_trans (m := 1000) ?_ (by decide), mk_ok (.inr rfl) (good_perm hg back_perm) k⟩
  rw [List.length_take, List.length_reverse, List.length_drop]
  omega
theorem len_Round_eq (A : Ad) : ∀ ds Ψ Ξ, S_Round_eq A ds Ψ Ξ → ds.length = 2 := by
  rintro ds Ψ Ξ ⟨ns, ms, rfl, _⟩; rfl
theorem int_mem {lo : Int} {n : Nat} {d : DV} (h : d ∈ intDs lo n) : ∃ i : Nat, i < n ∧ d = .int (lo + (i : Int)) := by
  unfold intDs at h
  obtain ⟨i, hi, rfl⟩ := List.mem_map.mp h
  exact ⟨i, List.mem_range.mp hi, rfl⟩
/-- a comprehension over range(n) that gives bools -/
theorem map_int {n : Nat} {β : Type} {g : Nat → β} {c : β → DV} {f : DV → DV} (h : ∀ i : Nat, i < n → f (.int (i : Int)) = c (g i)) : (intDs 0 n).map f = ((List.range n).map g).map c := by
  unfold intDs
  rw [List.map_map, List.map_map]
  refine List.map_congr_left fun i hi => ?_
  show f (.int (0 + (i : Int))) = c (g i)
  rw [Int.zero_add]
  exact h i (List.mem_range.mp hi)
theorem pure_Round_eq {K : PySem.W.Frag} {mg : Str → Option Value} {A : Ad} (T : Txt K mg A) : ∀ ds Ψ Ξ, S_Round_eq A ds Ψ Ξ → t_Round_eq K A (endsF Ψ Ξ) (stD N_Round_eq ds) := by
  rintro ds Ψ Ξ ⟨ns, ms, rfl, ho, hm, k⟩
  show t_Round_eq K A _ [.sh (RD A ns), .sh (RD A ms), .un]
  unfold t_Round_eq
  simp! only [isi_obj T.ic_Round T.ki_Round]
  have hm' := hm.l
  refine vlc_map (intDs 0 (ms.length + 1)) (fun P h => ?_) (fun d => match d with
    | .int i => .bl (decide (ns = rot ms i.toNat))
    | _ => .non) (by rw [intDs_len]; omega) (fun d hd => ?_) ?_
  · simp! only
    refine ⟨by omega, ?_⟩
    rw [show ((ms.length : Int) + 1).toNat = ms.length + 1 by omega]
    exact h
  · obtain ⟨j, hj, rfl⟩ := int_mem hd
    rw [Int.zero_add]
    simp! only
    refine ⟨rot_sz hm, eqD_tup ho.w (hm.rot j).w ?_⟩
    rw [Int.toNat_natCast]; rfl
  · simp! only
    rw [map_int (c := .bl) (g := fun j => decide (ns = rot ms j)) fun j _ => rfl, asBls_map]
    simp! only
    rw [List.any_map]
    exact k
/-! ### cut, splits -/
theorem idx_at {ns : List Str} {w : Str} (h : w ∈ ns) : ns[idx ns w]? = some w ∧ ∀ m, m < idx ns w → ns[m]? ≠ some w := by
  unfold idx
  have hlt := List.findIdx_lt_length_of_exists (p := (· == w)) ⟨w, h, by simp⟩
  refine ⟨?_, fun m hm e => ?_⟩
  · have := List.findIdx_getElem (p := (· == w)) (w := hlt)
    rw [List.getElem?_eq_getElem hlt]
    simpa using this
  · have := List.not_of_lt_findIdx hm
    rw [List.getElem?_eq_getElem (by omega)] at e
    have e' := Option.some.inj e
    simp [e'] at this
theorem idx_lt {ns : List Str} {w : Str} (h : w ∈ ns) : idx ns w < ns.length := List.findIdx_lt_length_of_exists ⟨w, h, by simp⟩
theorem len_Round_cut (A : Ad) : ∀ ds Ψ Ξ, S_Round_cut A ds Ψ Ξ → ds.length = 2 := by
  rintro ds Ψ Ξ ⟨ns, w, rfl, _⟩; rfl
theorem pure_Round_cut {K : PySem.W.Frag} {mg : Str → Option Value} {A : Ad} (T : Txt K mg A) : ∀ ds Ψ Ξ, S_Round_cut A ds Ψ Ξ → t_Round_cut K A (endsF Ψ Ξ) (stD N_Round_cut ds) := by
  rintro ds Ψ Ξ ⟨ns, w, rfl, ho, k⟩
  show t_Round_cut K A _ [.sh (RD A ns), .sh (.str w), .un]
  unfold t_Round_cut
  simp! only
  by_cases h : w ∈ ns
  · rw [if_pos h] at k ⊢
    obtain ⟨h1, h2⟩ := idx_at h
    refine ⟨ns, idx ns w, sd_asStrs, h1, h2, ?_⟩
    rw [show cut ns (some ((idx ns w : Nat) + 1 : Int)) Option.none = ns.drop (idx ns w + 1) from cut_fromN (i := idx ns w + 1)]
    have := ho.l
    refine ⟨Nat.le_trans (m := 1000) ?_ (by decide), k⟩
    rw [List.length_drop, List.length_take]
    have := idx_lt h
    omega
  · rw [if_neg h] at k ⊢
    exact ⟨by decide, by simp, k⟩
theorem stranger_none {ns ms : List Str} (h : stranger ns ms = Option.none) : ∀ x, x ∈ ms → x ∈ ns := fun x hx => by
  have := List.find?_eq_none.mp h x hx
  simpa using this
theorem twice_none {ms : List Str} (h : twice ms = Option.none) : ms.Nodup := by
  have h' : ((List.range ms.length).find? (dup ms)).bind (ms[·]?) = Option.none := h
  have nb : ∀ j, j < ms.length → dup ms j = false := by
    cases q : (List.range ms.length).find? (dup ms) with
    | none =>
      rw [List.find?_eq_none] at q
      exact fun j hj => by simpa using q j (List.mem_range.mpr hj)
    | some k =>
      rw [q] at h'
      have hk := List.mem_range.mp (List.mem_of_find?_eq_some q)
      have : ms[k]? = Option.none := h'
      rw [List.getElem?_eq_getElem hk] at this
      cases this
  refine List.pairwise_iff_getElem.mpr fun i j hi hj hij e => ?_
  have := nb j hj
  unfold dup at this
  rw [List.getElem?_eq_getElem hj] at this
  simp at this
  refine this (List.mem_of_getElem? (i := i) ?_)
  rw [List.getElem?_take_of_lt hij, List.getElem?_eq_getElem hi, e]
theorem split_at {ns : List Str} {p : Str} (h : p ∈ ns) : ns = ns.take (idx ns p) ++ p :: ns.drop (idx ns p + 1) := by
  have e := (idx_at h).1
  have hl := idx_lt h
  rw [List.getElem?_eq_getElem hl] at e
  have e' := Option.some.inj e
  have := List.take_append_drop (idx ns p) ns
  rw [List.drop_eq_getElem_cons hl, e'] at this
  exact this.symm
theorem cut_mem {ns : List Str} {p x : Str} (hp : p ∈ ns) (hx : x ∈ ns) (ne : x ≠ p) : x ∈ cutAt ns p := by
  unfold cutAt
  rw [split_at hp, List.mem_append, List.mem_cons] at hx
  rw [List.mem_append]
  rcases hx with h | h | h
  · exact .inr h
  · exact absurd h ne
  · exact .inl h
theorem first_idx {l : List Str} {q : Str} (h : q ∈ l) : atFirst (.str q) (sd l) (idx l q) := by
  obtain ⟨h1, h2⟩ := idx_at h
  refine ⟨⟨.str q, by rw [sd_get, h1]; rfl, by show (q == q) = true; simp⟩, fun m z hm hz => ?_⟩
  rw [sd_get, Option.map_eq_some_iff] at hz
  obtain ⟨w, hw, rfl⟩ := hz
  show (w == q) = false
  refine beq_eq_false_iff_ne.mpr fun e => h2 m hm (by rw [hw, e])
theorem ne_cut : (("cut" : Str) == ("names" : Str)) = false := by decide +kernel
theorem bne_dec {a b : Bool} : (!decide (a = b)) = (a != b) := by cases a <;> cases b <;> rfl
theorem len_Round_splits (A : Ad) : ∀ ds Ψ Ξ, S_Round_splits A ds Ψ Ξ → ds.length = 5 := by
  rintro ds Ψ Ξ ⟨ns, p, q, r, s, rfl, _⟩; rfl
theorem pure_Round_splits {K : PySem.W.Frag} {mg : Str → Option Value} {A : Ad} (T : Txt K mg A) : ∀ ds Ψ Ξ, S_Round_splits A ds Ψ Ξ → t_Round_splits K A (endsF Ψ Ξ) (stD N_Round_splits ds) := by
  rintro ds Ψ Ξ ⟨ns, p, q, r, s, rfl, ho, h4, k⟩
  show t_Round_splits K A _ [.sh (RD A ns), .sh (.str p), .sh (.str q), .sh (.str r), .sh (.str s), .un, .un]
  unfold t_Round_splits
  simp! only
  refine ⟨by decide, _, _, ns, [p, q, r, s], rfl, .inr ⟨_, rfl⟩, .inr ⟨true, rfl⟩, ho, h4, ?_⟩
  cases hs : stranger ns [p, q, r, s] with
  | some w => rw [hs] at k; exact k
  | none =>
    rw [hs] at k
    cases ht : twice [p, q, r, s] with
    | some w => rw [ht] at k; exact k
    | none =>
      rw [ht] at k
      have hin := stranger_none hs
      have hp : p ∈ ns := hin p (by simp)
      have hq : q ∈ ns := hin q (by simp)
      have nd := twice_none ht
      have nqp : q ≠ p := fun e => by
        rw [e] at nd
        simp at nd
      refine ⟨by rw [ne_cut], ns, p, rfl, ho, ?_⟩
      rw [if_pos hp]
      have hm := cut_mem hp hq nqp
      simp! only [sd_flat]
      refine ⟨rfl, idx (cutAt ns p) q, first_idx hm, ?_⟩
      rw [bne_dec]
      exact k

/-! ### the law's numbers -/
theorem len__law_cell (A : Ad) : ∀ ds Ψ Ξ, S__law_cell A ds Ψ Ξ → ds.length = 2 := by
  rintro ds Ψ Ξ ⟨ns, k, rfl, _⟩; rfl
theorem pure__law_cell {K : PySem.W.Frag} {mg : Str → Option Value} {A : Ad} (T : Txt K mg A) : ∀ ds Ψ Ξ, S__law_cell A ds Ψ Ξ → t__law_cell K A (endsF Ψ Ξ) (stD N__law_cell ds) := by
  rintro ds Ψ Ξ ⟨ns, k, rfl, h0, h1, hn, kk⟩
  show t__law_cell K A _ [.sh (.scr ns), .sh (.int k)]
  unfold t__law_cell
  simp! only
  by_cases h : k < (ns.length : Int)
  · rw [if_pos h, atI_pos h0, List.getElem?_eq_getElem (show k.toNat < ns.length by omega)]
    exact kk _
  · rw [if_neg h]
    exact kk _
theorem cmul_r {i j : Int} (h1 : -(2 ^ 64) < j) (h2 : j < 2 ^ 64) : CMul i j := .inr ⟨h1, h2⟩
theorem cmul_l {i j : Int} (h1 : -(2 ^ 64) < i) (h2 : i < 2 ^ 64) : CMul i j := .inl ⟨h1, h2⟩
theorem is27_mod {l : List Int} (h : is27 l) (i : Int) : is27 (l ++ [i % 27720]) := fun x hx => by
  rcases List.mem_append.mp hx with hx | hx
  · exact h x hx
  · rw [List.mem_singleton.mp hx]
    exact ⟨Int.emod_nonneg _ (by decide), Int.emod_lt_of_pos _ (by decide)⟩
theorem id_one {i : Int} : [DV.int i] = id' [i] := rfl
theorem id_app {l m : List Int} : id' l ++ id' m = id' (l ++ m) := (List.map_append ..).symm
theorem len__law_pool (A : Ad) : ∀ ds Ψ Ξ, S__law_pool A ds Ψ Ξ → ds.length = 3 := by
  rintro ds Ψ Ξ ⟨ns, k, rfl, _⟩; rfl
theorem pow18 : (10 : Int) ^ (18 : Int).toNat = 1000000000000000000 := by decide +kernel
theorem pure__law_pool {K : PySem.W.Frag} {mg : Str → Option Value} {A : Ad} (T : Txt K mg A) : ∀ ds Ψ Ξ, S__law_pool A ds Ψ Ξ → t__law_pool K A (endsF Ψ Ξ) (stD N__law_pool ds) := by
  rintro ds Ψ Ξ ⟨ns, k, rfl, h0, h1, hn, kk⟩
  show t__law_pool K A _ [.sh (.scr ns), .sh (.int k), .sh (.int 60), .un, .un, .un, .un, .un, .un]
  unfold t__law_pool
  simp! only
  refine ⟨ns, k, rfl, h0, by omega, hn, fun v => ?_⟩
  simp! only
  rw [pow18]
  refine ⟨by decide, ?_⟩
  have cp : CPow 10 18 := ⟨by decide, by decide, by decide⟩
  refine ⟨cp, ?_⟩
  generalize (if v < 0 then -v else v) = v1
  have r60 : ∀ {P : List DV → Prop}, P (intDs 0 60) → (-(2 ^ 62) ≤ (60 : Int) ∧ (60 : Int) < 2 ^ 62) ∧ P (intDs 0 (60 : Int).toNat) := fun h => ⟨by decide, h⟩
  by_cases h18 : (1000000000000000000 : Int) ≤ v1
  · rw [if_pos h18]
    refine ⟨cp, ?_⟩
    refine vfor (intDs 0 60) (fun P h => r60 h) (fun i ρ => ∃ w x l, ρ = [.sh (.scr ns), .sh (.int k), .sh (.int 60), .sh (.int w), .ow (id' l), x, .un, .un, .un] ∧ l.length = i ∧ is27 l) ⟨_, _, [], rfl, rfl, fun x hx => by simp at hx⟩ ?_ ?_
    · rintro i y ρ1 hy ⟨w, x, l, rfl, hl, h27⟩
      obtain ⟨hi, rfl⟩ := intDs_get hy
      simp! only
      refine ⟨by decide, by omega, ⟨by decide, by decide⟩, ?_⟩
      rw [id_one, id_app]
      exact ⟨_, _, _, rfl, by rw [List.length_append, List.length_singleton, hl], is27_mod h27 w⟩
    · rintro ρ1 ⟨w, x, l, rfl, hl, h27⟩
      rw [intDs_len] at hl
      exact kk l hl h27
  · rw [if_neg h18]
    refine vfor (intDs 0 60) (fun P h => r60 h) (fun i ρ => ∃ x5 x6 x7 x8 l, ρ = [.sh (.scr ns), .sh (.int k), .sh (.int 60), .sh (.int v1), .ow (id' l), x5, x6, x7, x8] ∧ l.length = i ∧ is27 l) ⟨_, _, _, _, [], rfl, rfl, fun x hx => by simp at hx⟩ ?_ ?_
    · rintro i y ρ1 hy ⟨x5, x6, x7, x8, l, rfl, hl, h27⟩
      obtain ⟨hi, rfl⟩ := intDs_get hy
      simp! only
      refine ⟨cmul_r (by decide) (by decide), cmul_r (by decide) (by decide), cmul_r (by decide) (by decide), by decide, ?_⟩
      generalize hA : (v1 * 48271 + (0 + (i : Int) + 1) * 69621 + k * 7919 + 1234577) % 2147483647 = a
      have ha : 0 ≤ a ∧ a < 2147483647 := by rw [← hA]; exact ⟨Int.emod_nonneg _ (by decide), Int.emod_lt_of_pos _ (by decide)⟩
      refine ⟨cmul_r (by omega) (by omega), cmul_r (by decide) (by decide), by decide, ?_⟩
      generalize hB : (a * a + v1 * 16807 + (0 + (i : Int))) % 2147483629 = b
      have hb : 0 ≤ b ∧ b < 2147483629 := by rw [← hB]; exact ⟨Int.emod_nonneg _ (by decide), Int.emod_lt_of_pos _ (by decide)⟩
      refine ⟨cmul_r (by omega) (by omega), by decide, ?_⟩
      refine ⟨⟨by decide, by decide⟩, by decide, by omega, ?_⟩
      rw [id_one, id_app]
      exact ⟨_, _, _, _, _, rfl, by rw [List.length_append, List.length_singleton, hl], is27_mod h27 _⟩
    · rintro ρ1 ⟨x5, x6, x7, x8, l, rfl, hl, h27⟩
      rw [intDs_len] at hl
      exact kk l hl h27

/-- the places of a pool -/
theorem at27 {l : List Int} {i : Int} (h0 : 0 ≤ i) (h1 : i < l.length) (h27 : is27 l) : ∃ x, atI l i = some x ∧ 0 ≤ x ∧ x < 27720 := by
  rw [atI_pos h0, List.getElem?_eq_getElem (show i.toNat < l.length by omega)]
  exact ⟨_, rfl, h27 _ (List.getElem_mem _)⟩
theorem len__law_whole (A : Ad) : ∀ ds Ψ Ξ, S__law_whole A ds Ψ Ξ → ds.length = 2 := by
  rintro ds Ψ Ξ ⟨l, i, rfl, _⟩; rfl
theorem pow9 : (10 : Int) ^ (9 : Int).toNat = 1000000000 := by decide +kernel
theorem mod4 {a : Int} : a % 4 = 0 ∨ a % 4 = 1 ∨ a % 4 = 2 ∨ a % 4 = 3 := by omega
theorem at_menu {a x : Int} (hx : 0 < x) : ∃ v, atI [DV.int 7, DV.int 41, DV.int 2001, DV.int x] (a % 4) = some (.int v) ∧ 0 < v := by
  rcases mod4 (a := a) with h | h | h | h <;> rw [h]
  · exact ⟨7, rfl, by decide⟩
  · exact ⟨41, rfl, by decide⟩
  · exact ⟨2001, rfl, by decide⟩
  · exact ⟨x, rfl, hx⟩
theorem pure__law_whole {K : PySem.W.Frag} {mg : Str → Option Value} {A : Ad} (T : Txt K mg A) : ∀ ds Ψ Ξ, S__law_whole A ds Ψ Ξ → t__law_whole K A (endsF Ψ Ξ) (stD N__law_whole ds) := by
  rintro ds Ψ Ξ ⟨l, i, rfl, h27, h0, h1, h2, k⟩
  show t__law_whole K A _ [.sh (.lst (id' l)), .sh (.int i), .un, .un, .un]
  obtain ⟨a0, e0, b0, c0⟩ := at27 (i := i) h0 (by omega) h27
  obtain ⟨a1, e1, b1, c1⟩ := at27 (i := i + 1) (by omega) (by omega) h27
  obtain ⟨a2, e2, b2, c2⟩ := at27 (i := i + 2) (by omega) (by omega) h27
  obtain ⟨a3, e3, b3, c3⟩ := at27 (i := i + 3) (by omega) (by omega) h27
  obtain ⟨v, ev, hv⟩ := at_menu (a := a0) (x := 2 * 1000000000 - 1) (by decide)
  unfold t__law_whole
  simp! only [e0, e1, e2, e3, pow9, ev]
  exact ⟨⟨by decide, by decide, by decide⟩, cmul_r (by decide) (by decide), by decide, by decide, cmul_r (by decide) (by decide), cmul_r (by decide) (by decide), hv, ⟨by decide, by decide⟩, k _⟩
theorem len__law_word (A : Ad) : ∀ ds Ψ Ξ, S__law_word A ds Ψ Ξ → ds.length = 2 := by
  rintro ds Ψ Ξ ⟨l, i, rfl, _⟩; rfl
theorem lt_len : Lt.cps.toList.length = 26 := by decide +kernel
/-- one more letter -/
theorem str_one_len {c : Nat} : (⟨#[c]⟩ : Str).length = 1 := rfl
theorem str_app_len {a b : Str} : (a ++ b).length = a.length + b.length := by
  show (a.cps ++ b.cps).size = a.cps.size + b.cps.size
  rw [Array.size_append]
theorem str_app_cps {a b : Str} : (a ++ b).cps.toList = a.cps.toList ++ b.cps.toList := by
  show (a.cps ++ b.cps).toList = _
  rw [Array.toList_append]
theorem lt_at {i : Int} : ∃ c, atI Lt.cps.toList (i % 26) = some c ∧ lett c = true := by
  have h1 := Int.emod_nonneg i (b := 26) (by decide)
  have h2 := Int.emod_lt_of_pos i (b := 26) (by decide)
  rw [atI_pos h1, List.getElem?_eq_getElem (show (i % 26).toNat < Lt.cps.toList.length by rw [lt_len]; omega)]
  exact ⟨_, rfl, decide_eq_true (List.getElem_mem _)⟩
theorem lt_size : Lt.length ≤ sizeLine := by decide +kernel
theorem pure__law_word {K : PySem.W.Frag} {mg : Str → Option Value} {A : Ad} (T : Txt K mg A) : ∀ ds Ψ Ξ, S__law_word A ds Ψ Ξ → t__law_word K A (endsF Ψ Ξ) (stD N__law_word ds) := by
  rintro ds Ψ Ξ ⟨l, i, rfl, h27, h0, h1, h2, k⟩
  show t__law_word K A _ [.sh (.lst (id' l)), .sh (.int i), .un, .un, .un, .un]
  obtain ⟨a0, e0, b0, c0⟩ := at27 (i := i) h0 (by omega) h27
  obtain ⟨a1, e1, b1, c1⟩ := at27 (i := i + 1) (by omega) (by omega) h27
  obtain ⟨a2, e2, b2, c2⟩ := at27 (i := i + 2) (by omega) (by omega) h27
  unfold t__law_word
  simp! only [e0, e1, e2]
  generalize ((a0 * 27720 + a1) * 27720 + a2) = code
  obtain ⟨n, en, hn⟩ := emod_nat (i := code) (n := 8) (by decide)
  have en' : code % 8 = (n : Int) := en
  rw [en']
  refine ⟨cmul_r (by decide) (by decide), cmul_r (by decide) (by decide), by decide, ⟨by decide, by decide⟩, ?_⟩
  refine vfor (intDs 0 (n + 1)) (fun P h => ?_) (fun j ρ => ∃ c x w, ρ = [.sh (.lst (id' l)), .sh (.int i), .sh (.int c), .sh (.int (1 + (n : Int))), .sh (.str w), x] ∧ w.length = j ∧ w.cps.toList.all lett = true) ⟨_, _, _, rfl, rfl, rfl⟩ ?_ ?_
  · simp! only
    refine ⟨by omega, ?_⟩
    rw [show (1 + (n : Int)).toNat = n + 1 by omega]
    exact h
  · rintro j y ρ1 hy ⟨c, x, w, rfl, hl, hw⟩
    obtain ⟨hj, rfl⟩ := intDs_get hy
    obtain ⟨ch, ech, hch⟩ := lt_at (i := c)
    simp! only [ech]
    refine ⟨by decide, lt_size, by rw [str_one_len]; exact sz1000 (by omega), ⟨by decide, by decide⟩, _, _, _, rfl, by rw [str_app_len, str_one_len, hl], ?_⟩
    rw [str_app_cps, List.all_append, hw]
    show (true && ([ch] : List Nat).all lett) = true
    rw [List.all_cons, hch]; rfl
  · rintro ρ1 ⟨c, x, w, rfl, hl, hw⟩
    rw [intDs_len] at hl
    refine k w ?_
    unfold isN
    rw [decide_eq_true (show 1 ≤ w.length by omega), decide_eq_true (show w.length ≤ 8 by omega), hw]
    rfl

/-! ### a new name -/
def Sl (l : List Nat) : Str := ⟨l.toArray⟩
theorem sl_of (w : Str) : w = Sl w.cps.toList := by
  unfold Sl
  rw [Array.toArray_toList]
theorem sl_list {l : List Nat} : (Sl l).cps.toList = l := rfl
theorem sl_len {l : List Nat} : (Sl l).length = l.length := by
  show l.toArray.size = l.length
  rw [List.size_toArray]
theorem sl_inj {l m : List Nat} (h : Sl l = Sl m) : l = m := by rw [← sl_list (l := l), h]; rfl
theorem cutS_last {l : List Nat} {c : Nat} : cutS (Sl (l ++ [c])) Option.none (some (-1)) = Sl l := by
  unfold cutS
  rw [sl_list, sl_len]
  show (⟨((((l ++ [c]).drop 0).take (((-1 : Int) + ((l ++ [c]).length : Int)).toNat - 0))).toArray⟩ : Str) = Sl l
  have e : ((-1 : Int) + ((l ++ [c]).length : Int)).toNat - 0 = l.length := by
    rw [List.length_append, List.length_singleton]; omega
  rw [e, List.drop_zero, List.take_left]
  rfl
theorem atI_last {α : Type} {l : List α} {c : α} : atI (l ++ [c]) (-1) = some c := by
  unfold L2.atI L2.ixN
  rw [if_neg (by decide), if_pos (by rw [List.length_append, List.length_singleton]; omega), Option.bind_some]
  have e : ((-1 : Int) + ((l ++ [c]).length : Int)).toNat = l.length := by rw [List.length_append, List.length_singleton]; omega
  rw [e, List.getElem?_append_right (Nat.le_refl _), Nat.sub_self]
  rfl
/-- the k-th letter -/
def ltr (k : Nat) : Nat := (Lt.cps.toList)[k % 26]?.getD 0
theorem ltr_get {k : Nat} : Lt.cps.toList[k % 26]? = some (ltr k) := by
  have h : k % 26 < Lt.cps.toList.length := by rw [lt_len]; omega
  unfold ltr
  rw [List.getElem?_eq_getElem h]; rfl
theorem ltr_lett {k : Nat} : lett (ltr k) = true := decide_eq_true (List.mem_of_getElem? ltr_get)
theorem lett_ltr {c : Nat} (h : lett c = true) : ∃ k, k < 26 ∧ c = ltr k := by
  obtain ⟨k, hk⟩ := List.mem_iff_getElem?.mp (of_decide_eq_true h)
  have hl := (List.getElem?_eq_some_iff.mp hk).1
  rw [lt_len] at hl
  have e := ltr_get (k := k)
  rw [Nat.mod_eq_of_lt hl, hk] at e
  exact ⟨k, hl, Option.some.inj e⟩
theorem ltr_mod {k : Nat} : ltr (k % 26) = ltr k := by unfold ltr; rw [Nat.mod_mod]
theorem lt_nodup : Lt.cps.toList.Nodup := by decide +kernel
theorem ltr_all : ((List.range 26).all fun j => (List.range 26).all fun k => !(ltr j == ltr k) || j == k) = true := by decide +kernel
theorem ltr_inj {j k : Nat} (hj : j < 26) (hk : k < 26) (h : ltr j = ltr k) : j = k := by
  have e := List.all_eq_true.mp (List.all_eq_true.mp ltr_all j (List.mem_range.mpr hj)) k (List.mem_range.mpr hk)
  rw [h, beq_self_eq_true, Bool.not_true, Bool.false_or] at e
  exact eq_of_beq e
theorem occ_all : (List.range 26).all (fun k => match Builtin.Str.occurrences Lt ⟨#[ltr k]⟩ 0 Lt.length 1 with
  | i :: _ => i == k
  | [] => false) = true := by decide +kernel
theorem occ_at {k : Nat} (hk : k < 26) : ∃ rest, Builtin.Str.occurrences Lt ⟨#[ltr k]⟩ 0 Lt.length 1 = k :: rest := by
  have h := List.all_eq_true.mp occ_all k (List.mem_range.mpr hk)
  split at h
  · rename_i i rest e
    rw [e, eq_of_beq h]
    exact ⟨rest, rfl⟩
  · cases h
theorem nodup_le {α : Type} [BEq α] [LawfulBEq α] : ∀ {l m : List α}, l.Nodup → (∀ x, x ∈ l → x ∈ m) → l.length ≤ m.length
  | [], _, _, _ => Nat.zero_le _
  | a :: l, m, nd, h => by
    have nd' := List.nodup_cons.mp nd
    have ha := h a List.mem_cons_self
    have := nodup_le (l := l) (m := m.erase a) nd'.2 fun x hx => (List.mem_erase_of_ne fun e => nd'.1 (by rw [← e]; exact hx)).mpr (h x (List.mem_cons_of_mem _ hx))
    rw [List.length_erase_of_mem ha] at this
    have : 0 < m.length := List.length_pos_of_mem ha
    rw [List.length_cons]
    omega
theorem isN_sl {l : List Nat} : isN (Sl l) = (decide (1 ≤ l.length) && decide (l.length ≤ 8) && l.all lett) := by
  unfold isN
  rw [sl_len, sl_list]
/-- the m-th word to be tried -/
def wd (u : List Nat) (i0 m : Nat) : Str := Sl (u ++ [ltr ((i0 + m) % 26)])
theorem len__law_new (A : Ad) : ∀ ds Ψ Ξ, S__law_new A ds Ψ Ξ → ds.length = 2 := by
  rintro ds Ψ Ξ ⟨ns, w, rfl, _⟩; rfl
theorem pure__law_new {K : PySem.W.Frag} {mg : Str → Option Value} {A : Ad} (T : Txt K mg A) : ∀ ds Ψ Ξ, S__law_new A ds Ψ Ξ → t__law_new K A (endsF Ψ Ξ) (stD N__law_new ds) := by
  rintro ds Ψ Ξ ⟨ns, w, rfl, hw, hn, k⟩
  -- the word as its head and its last letter
  have hw' := hw
  rw [sl_of w, isN_sl, Bool.and_eq_true, Bool.and_eq_true, decide_eq_true_eq, decide_eq_true_eq, List.all_eq_true] at hw'
  obtain ⟨⟨hl1, hl2⟩, hall⟩ := hw'
  obtain ⟨u, c, eu⟩ : ∃ u c, w.cps.toList = u ++ [c] := by
    rcases List.eq_nil_or_concat w.cps.toList with e | ⟨u, c, e⟩
    · rw [e] at hl1; simp at hl1
    · exact ⟨u, c, by rw [e, List.concat_eq_append]⟩
  rw [eu] at hall hl1 hl2
  obtain ⟨i0, hi0, rfl⟩ := lett_ltr (hall c (by simp))
  have hu : ∀ x, x ∈ u → lett x = true := fun x hx => hall x (by simp [hx])
  have hul : u.length ≤ 7 := by rw [List.length_append, List.length_singleton] at hl2; omega
  have ew : w = wd u i0 0 := by
    unfold wd
    rw [sl_of w, eu, Nat.add_zero, ltr_mod]
  have isW : ∀ m, isN (wd u i0 m) = true := fun m => by
    unfold wd
    rw [isN_sl, List.length_append, List.length_singleton, decide_eq_true (by omega), decide_eq_true (by omega), List.all_append]
    rw [List.all_eq_true.mpr hu, List.all_cons, ltr_lett]; rfl
  subst ew
  show t__law_new K A _ [.sh (.lst (sd ns)), .sh (.str (wd u i0 0)), .un, .un]
  unfold t__law_new
  simp! only
  refine vfor (intDs 0 26) (fun P h => ⟨⟨by decide, by decide⟩, h⟩) (fun j ρ => ∃ x, ρ = [.sh (.lst (sd ns)), .sh (.str (wd u i0 j)), .sh (.str Lt), x] ∧ ∀ m, m < j → wd u i0 m ∈ ns) ⟨_, rfl, fun m hm => by omega⟩ ?_ ?_
  · rintro j y ρ1 hy ⟨x, rfl, hin⟩
    obtain ⟨hj, rfl⟩ := intDs_get hy
    simp! only
    by_cases h : wd u i0 j ∈ ns
    · rw [if_pos h]
      have e1 : (wd u i0 j).cps.toList = u ++ [ltr ((i0 + j) % 26)] := rfl
      obtain ⟨rest, eo⟩ := occ_at (k := (i0 + j) % 26) (Nat.mod_lt _ (by decide))
      have e3 : (((i0 + j) % 26 : Nat) + 1 : Int) % 26 = (((i0 + (j + 1)) % 26 : Nat) : Int) := by omega
      have e4 : atI Lt.cps.toList (((i0 + (j + 1)) % 26 : Nat) : Int) = some (ltr ((i0 + (j + 1)) % 26)) := by
        rw [DL.atI_nat, ← ltr_get (k := (i0 + (j + 1)) % 26), Nat.mod_mod]
      have sz := okz (isN_ok (isW j))
      have e5 : cutS (wd u i0 j) Option.none (some (-1)) = Sl u := cutS_last
      refine ⟨sz, sz, ?_⟩
      rw [e1, atI_last]
      simp! only
      refine ⟨_, rest, eo, by decide, lt_size, ?_⟩
      rw [e3, e4]
      simp! only
      have e6 : Sl u ++ (⟨#[ltr ((i0 + (j + 1)) % 26)]⟩ : Str) = wd u i0 (j + 1) := by
        show (⟨u.toArray ++ #[ltr ((i0 + (j + 1)) % 26)]⟩ : Str) = ⟨(u ++ [ltr ((i0 + (j + 1)) % 26)]).toArray⟩
        rw [List.append_toArray]
      rw [e5, e6]
      refine ⟨by rw [sl_len, str_one_len]; exact sz1000 (by omega), _, rfl, fun m hm => ?_⟩
      by_cases e : m = j
      · rw [e]; exact h
      · exact hin m (by omega)
    · rw [if_neg h]
      exact k _ (isW j) h
  · rintro ρ1 ⟨x, rfl, hin⟩
    exfalso
    have nd : ((List.range 26).map (wd u i0)).Nodup := by
      refine List.pairwise_map.mpr (List.Pairwise.imp_of_mem (fun {a b} ha hb hab e => hab ?_) List.nodup_range)
      have ha := List.mem_range.mp ha
      have hb := List.mem_range.mp hb
      have e := sl_inj e
      have e2 := List.append_cancel_left e
      have e3 := ltr_inj (Nat.mod_lt _ (by decide)) (Nat.mod_lt _ (by decide)) (List.cons.inj e2).1
      omega
    have := nodup_le nd (m := ns) fun x hx => by
      obtain ⟨m, hm, rfl⟩ := List.mem_map.mp hx
      exact hin m (by rw [intDs_len]; exact List.mem_range.mp hm)
    rw [List.length_map, List.length_range] at this
    omega
/-! ### sequences -/
theorem len__law_sequence (A : Ad) : ∀ ds Ψ Ξ, S__law_sequence A ds Ψ Ξ → ds.length = 2 := by
  rintro ds Ψ Ξ ⟨ns, i, rfl, _⟩; rfl
theorem take_drop_perm {α : Type} {l : List α} {j : Nat} {w : α} (h : l[j]? = some w) : (w :: (l.take j ++ l.drop (j + 1))).Perm l := by
  have hl := (List.getElem?_eq_some_iff.mp h).1
  rw [List.getElem?_eq_getElem hl] at h
  have e := List.take_append_drop j l
  rw [List.drop_eq_getElem_cons hl, Option.some.inj h] at e
  have := (List.perm_middle (a := w) (l₁ := l.take j) (l₂ := l.drop (j + 1))).symm
  rw [e] at this
  exact this
theorem pure__law_sequence {K : PySem.W.Frag} {mg : Str → Option Value} {A : Ad} (T : Txt K mg A) : ∀ ds Ψ Ξ, S__law_sequence A ds Ψ Ξ → t__law_sequence K A (endsF Ψ Ξ) (stD N__law_sequence ds) := by
  rintro ds Ψ Ξ ⟨ns, i, rfl, hz, k⟩
  show t__law_sequence K A _ [.sh (.lst (sd ns)), .sh (.int i), .un, .un, .un, .un]
  unfold t__law_sequence
  simp! only
  refine ⟨by decide, ?_⟩
  refine vfor (intDs 0 ns.length) (fun P h => ?_) (fun m ρ => ∃ dr l r x4 x5, ρ = [.sh (.lst (sd ns)), .sh (.int dr), .sh (.lst (sd l)), .ow (sd r), x4, x5] ∧ (r ++ l).Perm ns ∧ r.length = m) ⟨_, ns, [], _, _, rfl, List.Perm.refl _, rfl⟩ ?_ ?_
  · simp! only
    exact ⟨by omega, by rw [Int.toNat_natCast]; exact h⟩
  · rintro m y ρ1 hy ⟨dr, l, r, x4, x5, rfl, hp, hr⟩
    obtain ⟨hm, rfl⟩ := intDs_get hy
    have hlen := hp.length_eq
    rw [List.length_append] at hlen
    have hl : 0 < l.length := by omega
    obtain ⟨j, ej, hj⟩ := emod_nat (i := dr) hl
    have hw := List.getElem?_eq_getElem hj
    simp! only [ej, hw]
    refine ⟨by omega, ⟨by omega, by omega⟩, by omega, ?_⟩
    rw [show cut l (some ((j : Nat) + 1 : Int)) Option.none = l.drop (j + 1) from cut_fromN (i := j + 1), List.length_take, List.length_drop]
    refine ⟨Nat.le_trans (m := 1000) (by omega) (by decide), ?_⟩
    rw [sd_one, sd_app]
    refine ⟨_, _, _, _, _, rfl, ?_, by rw [List.length_append, List.length_singleton, hr]⟩
    refine List.Perm.trans ?_ hp
    rw [List.append_assoc]
    exact List.Perm.append_left r (take_drop_perm hw)
  · rintro ρ1 ⟨dr, l, r, x4, x5, rfl, hp, hr⟩
    rw [intDs_len] at hr
    have hlen := hp.length_eq
    rw [List.length_append] at hlen
    have : l = [] := List.length_eq_zero_iff.mp (by omega)
    subst this
    rw [List.append_nil] at hp
    exact k r hp
/-! ### turned lists -/
theorem len__law_from (A : Ad) : ∀ ds Ψ Ξ, S__law_from A ds Ψ Ξ → ds.length = 2 := by
  rintro ds Ψ Ξ ⟨ns, i, rfl, _⟩; rfl
theorem rot_get {ns : List Str} {j i : Nat} (hj : j < ns.length) (hi : i < ns.length) : (rot ns j)[i]? = ns[(j + i) % ns.length]? := by
  unfold rot
  by_cases h : i < ns.length - j
  · rw [List.getElem?_append_left (by rw [List.length_drop]; exact h), List.getElem?_drop, Nat.mod_eq_of_lt (by omega)]
  · rw [List.getElem?_append_right (by rw [List.length_drop]; omega), List.length_drop, List.getElem?_take_of_lt (by omega)]
    have : (j + i) % ns.length = i - (ns.length - j) := by
      rw [Nat.mod_eq_sub_mod (by omega), Nat.mod_eq_of_lt (by omega)]
      omega
    rw [this]
theorem rot_list {ns : List Str} {j : Nat} (hj : j < ns.length) : (List.range ns.length).map (fun i => (ns[(j + i) % ns.length]?).getD "") = rot ns j := by
  refine List.ext_getElem? fun i => ?_
  rw [List.getElem?_map]
  by_cases hi : i < ns.length
  · rw [List.getElem?_range hi, rot_get hj hi]
    have : (j + i) % ns.length < ns.length := Nat.mod_lt _ (by omega)
    rw [List.getElem?_eq_getElem this]
    show some ((ns[(j + i) % ns.length]?).getD "") = _
    rw [List.getElem?_eq_getElem this]; rfl
  · rw [List.getElem?_eq_none (by rw [List.length_range]; omega), List.getElem?_eq_none (by rw [rot_len]; omega)]
    rfl
theorem pure__law_from {K : PySem.W.Frag} {mg : Str → Option Value} {A : Ad} (T : Txt K mg A) : ∀ ds Ψ Ξ, S__law_from A ds Ψ Ξ → t__law_from K A (endsF Ψ Ξ) (stD N__law_from ds) := by
  rintro ds Ψ Ξ ⟨ns, i, rfl, ho, k⟩
  have hz := ho.l
  show t__law_from K A _ [.sh (.lst (sd ns)), .sh (.int i), .un, .un, .un]
  unfold t__law_from
  simp! only
  by_cases h0 : (ns.length : Int) = 0
  · rw [if_pos h0]
    have : ns = [] := List.length_eq_zero_iff.mp (by omega)
    subst this
    rw [rotI_nil] at k
    exact ⟨by decide, k⟩
  · rw [if_neg h0]
    have hl : 0 < ns.length := by omega
    obtain ⟨j, ej, hj⟩ := emod_nat (i := i) hl
    have es : i - i / (ns.length : Int) * (ns.length : Int) = (j : Int) := by
      have := Int.emod_add_mul_ediv i (ns.length : Int)
      rw [Int.mul_comm] at this
      omega
    refine ⟨⟨by omega, by omega⟩, cmul_r (by omega) (by omega), ?_⟩
    rw [es]
    refine vlc_map (intDs 0 ns.length) (fun P h => ?_) (fun d => match d with
      | .int i => .str ((ns[((j : Int) + i).toNat % ns.length]?).getD "")
      | _ => .non) (by rw [intDs_len]; omega) (fun d hd => ?_) ?_
    · simp! only
      exact ⟨by omega, by rw [Int.toNat_natCast]; exact h⟩
    · obtain ⟨m, hm, rfl⟩ := int_mem hd
      have e2 : (((j : Int) + (0 + (m : Int))) % (ns.length : Int)) = (((j + m) % ns.length : Nat) : Int) := by
        rw [Int.natCast_emod]; congr 1; omega
      have hlt : (j + m) % ns.length < ns.length := Nat.mod_lt _ hl
      have e3 : ((j : Int) + (0 + (m : Int))).toNat = j + m := by omega
      simp! only [e2, List.getElem?_eq_getElem hlt]
      refine ⟨by omega, ?_⟩
      rw [e3, List.getElem?_eq_getElem hlt]
      rfl
    · simp! only
      rw [map_int (c := .str) (g := fun m => (ns[(j + m) % ns.length]?).getD "") fun m _ => by show DV.str ((ns[((j : Int) + (m : Int)).toNat % ns.length]?).getD "") = _; rw [show ((j : Int) + (m : Int)).toNat = j + m by omega], rot_list hj]
      unfold rotI at k
      rw [ej, Int.toNat_natCast] at k
      exact k
theorem len__law_back (A : Ad) : ∀ ds Ψ Ξ, S__law_back A ds Ψ Ξ → ds.length = 1 := by
  rintro ds Ψ Ξ ⟨ns, rfl, _⟩; rfl
theorem back_list {ns : List Str} : (List.range (ns.length - 1)).map (fun i => (ns[ns.length - 1 - i]?).getD "") = (ns.drop 1).reverse := by
  refine List.ext_getElem? fun i => ?_
  rw [List.getElem?_map]
  by_cases hi : i < ns.length - 1
  · rw [List.getElem?_range hi, List.getElem?_reverse (by rw [List.length_drop]; exact hi), List.getElem?_drop, List.length_drop]
    have e3 : 1 + (ns.length - 1 - 1 - i) = ns.length - 1 - i := by omega
    rw [e3]
    have : ns.length - 1 - i < ns.length := by omega
    show some ((ns[ns.length - 1 - i]?).getD "") = _
    rw [List.getElem?_eq_getElem this]; rfl
  · rw [List.getElem?_eq_none (by rw [List.length_range]; omega), List.getElem?_eq_none (by rw [List.length_reverse, List.length_drop]; omega)]
    rfl
theorem map_int1 {n : Nat} {β : Type} {g : Nat → β} {c : β → DV} {f : DV → DV} {lo : Int} (h : ∀ i : Nat, i < n → f (.int (lo + (i : Int))) = c (g i)) : (intDs lo n).map f = ((List.range n).map g).map c := by
  unfold intDs
  rw [List.map_map, List.map_map]
  exact List.map_congr_left fun i hi => h i (List.mem_range.mp hi)
theorem pure__law_back {K : PySem.W.Frag} {mg : Str → Option Value} {A : Ad} (T : Txt K mg A) : ∀ ds Ψ Ξ, S__law_back A ds Ψ Ξ → t__law_back K A (endsF Ψ Ξ) (stD N__law_back ds) := by
  rintro ds Ψ Ξ ⟨ns, rfl, ho, k⟩
  have hz := ho.l
  show t__law_back K A _ [.sh (.lst (sd ns)), .un]
  unfold t__law_back
  simp! only
  refine vlc_map (intDs 1 (ns.length - 1)) (fun P h => ?_) (fun d => match d with
    | .int i => .str ((ns[((ns.length : Int) - i).toNat]?).getD "")
    | _ => .non) (by rw [intDs_len]; omega) (fun d hd => ?_) ?_
  · simp! only
    exact ⟨by omega, by rw [show ((ns.length : Int) - 1).toNat = ns.length - 1 by omega]; exact h⟩
  · obtain ⟨m, hm, rfl⟩ := int_mem hd
    have e2 : (ns.length : Int) - (1 + (m : Int)) = ((ns.length - 1 - m : Nat) : Int) := by omega
    have hlt : ns.length - 1 - m < ns.length := by omega
    simp! only [e2, List.getElem?_eq_getElem hlt]
    rw [Int.toNat_natCast, List.getElem?_eq_getElem hlt]
    rfl
  · simp! only
    rw [map_int1 (c := .str) (g := fun m => (ns[ns.length - 1 - m]?).getD "") fun m hm => by show DV.str ((ns[((ns.length : Int) - (1 + (m : Int))).toNat]?).getD "") = _; rw [show ((ns.length : Int) - (1 + (m : Int))).toNat = ns.length - 1 - m by omega], back_list]
    rw [show cut ns Option.none (some 1) = ns.take 1 from cut_to (by omega)]
    refine ⟨Nat.le_trans (m := 1000) ?_ (by decide), ?_⟩
    · rw [List.length_map, List.length_take, List.length_reverse, List.length_drop]; omega
    · show Ψ (.sh (.lst (sd (ns.take 1) ++ sd (ns.drop 1).reverse)))
      rw [sd_app]
      exact k
/-! ### is it this ring -/
theorem len__law_is_round (A : Ad) : ∀ ds Ψ Ξ, S__law_is_round A ds Ψ Ξ → ds.length = 2 := by
  rintro ds Ψ Ξ ⟨ns, ms, rfl, _⟩; rfl
theorem pure__law_is_round {K : PySem.W.Frag} {mg : Str → Option Value} {A : Ad} (T : Txt K mg A) : ∀ ds Ψ Ξ, S__law_is_round A ds Ψ Ξ → t__law_is_round K A (endsF Ψ Ξ) (stD N__law_is_round ds) := by
  rintro ds Ψ Ξ ⟨ns, ms, rfl, ho, hm, k⟩
  have hz := ho.l
  show t__law_is_round K A _ [.sh (RD A ns), .sh (.lst (sd ms)), .un]
  unfold t__law_is_round
  simp! only [isi_obj T.ic_Round T.ki_Round]
  refine ⟨⟨ns, rfl, ho, rfl⟩, ?_⟩
  refine eqD_lst ho.w hm.w ?_
  by_cases h : ns = ms
  · subst h
    rw [decide_eq_true rfl] at k ⊢
    simp! only
    refine ⟨⟨_, rfl⟩, ns, rfl, ho, ?_⟩
    simp! only
    refine ⟨by omega, by omega, ?_⟩
    refine vlc_map (sd ns) (fun P h => ?_) (fun d => d) (by rw [sd_len]; omega) (fun d hd => ?_) ?_
    · simp! only; exact h
    · simp! only
    · simp! only
      rw [List.map_id']
      exact eqD_lst ho.w ho.w (by rw [decide_eq_true rfl]; exact k)
  · rw [decide_eq_false h] at k ⊢
    simp! only
    exact k
/-! ### turned right -/
theorem atI_neg1 {α : Type} {l : List α} (h : 0 < l.length) : atI l (-1) = l[l.length - 1]? := by
  unfold L2.atI L2.ixN
  rw [if_neg (by decide), if_pos (by omega), Option.bind_some]
  have e : ((-1 : Int) + (l.length : Int)).toNat = l.length - 1 := by omega
  rw [e]
theorem neg1_mod {n : Nat} (h : 0 < n) : ((-1 : Int) % (n : Int)).toNat = n - 1 := by
  have : (-1 : Int) % (n : Int) = (n : Int) - 1 := by
    rw [show (-1 : Int) = ((n : Int) - 1) + (n : Int) * (-1) by omega, Int.add_mul_emod_self_left, Int.emod_eq_of_lt (by omega) (by omega)]
  omega
theorem idx_head {a : Str} {l : List Str} : idx (a :: l) a = 0 := by
  unfold idx
  rw [List.findIdx_cons, beq_self_eq_true]; rfl
theorem len__law_turned_right (A : Ad) : ∀ ds Ψ Ξ, S__law_turned_right A ds Ψ Ξ → ds.length = 2 := by
  rintro ds Ψ Ξ ⟨ns, rfl, _⟩; rfl
theorem pure__law_turned_right {K : PySem.W.Frag} {mg : Str → Option Value} {A : Ad} (T : Txt K mg A) : ∀ ds Ψ Ξ, S__law_turned_right A ds Ψ Ξ → t__law_turned_right K A (endsF Ψ Ξ) (stD N__law_turned_right ds) := by
  rintro ds Ψ Ξ ⟨ns, rfl, hg, k⟩
  have ho := hg.1
  have hz := ho.l
  show t__law_turned_right K A _ [.sh (RD A ns), .sh (.lst (sd ns)), .un]
  unfold t__law_turned_right
  by_cases hn0 : ns.length = 0
  · have : ns = [] := List.length_eq_zero_iff.mp hn0
    subst this
    simp! only
    exact k
  · have hn : 0 < ns.length := by omega
    have h0 : ¬ (ns.length : Int) = 0 := by omega
    obtain ⟨j, ej, hj⟩ := emod_nat (i := (ns.length : Int) + 1) hn
    obtain ⟨x, hx⟩ : ∃ x, ns[j]? = some x := ⟨_, List.getElem?_eq_getElem hj⟩
    obtain ⟨w, hw⟩ : ∃ w, ns[ns.length - 1]? = some w := ⟨_, List.getElem?_eq_getElem (by omega)⟩
    obtain ⟨a, ha⟩ : ∃ a, ns[0]? = some a := ⟨_, List.getElem?_eq_getElem hn⟩
    have hw' : w ∈ ns := List.mem_of_getElem? hw
    have ha' : a ∈ ns := List.mem_of_getElem? ha
    have e0 : atI ns 0 = some a := by rw [show (0 : Int) = ((0 : Nat) : Int) from rfl, DL.atI_nat]; exact ha
    have e1 : atI ns (-1) = some w := by rw [atI_neg1 hn]; exact hw
    have ei : idx ns a = 0 := by
      cases ns with
      | nil => simp at hn
      | cons b l => cases ha; exact idx_head
    have ec : cutAt ns a = ns.drop 1 := by
      unfold cutAt
      rw [ei, List.take_zero, List.append_nil]
    have q0 : ns[((0 : Int) % (ns.length : Int)).toNat]? = some a := by rw [Int.zero_emod]; exact ha
    simp! only [e0, e1, ej, hx]
    rw [if_neg h0]
    refine ⟨⟨_, rfl⟩, ns, 0, rfl, ho, ?_⟩
    rw [q0]
    simp! only [e0, e1, ej, hx]
    refine ⟨⟨_, rfl⟩, ns, -1, rfl, ho, ?_⟩
    rw [neg1_mod hn, hw]
    simp! only [e0, e1, ej, hx]
    refine ⟨⟨_, rfl⟩, ns, _, rfl, ho, ?_⟩
    rw [ej, Int.toNat_natCast, hx]
    simp! only [e0, e1, ej, hx]
    refine ⟨by omega, by rw [ne_cut], ns, a, rfl, ho, ?_⟩
    rw [if_pos ha', ec, show cut ns (some 1) Option.none = ns.drop 1 from cut_from (by omega)]
    simp! only
    refine eqD_lst (ho.drop 1).w (ho.drop 1).w ?_
    simp! only
    refine ⟨⟨_, rfl⟩, ns, w, rfl, ho, ?_⟩
    simp! only [hw']
    exact k
/-! ### turns -/
theorem good_rotI {ns : List Str} {i : Int} (h : Good ns) : Good (rotI ns i) := good_perm h rotI_perm
theorem good_back {ns : List Str} (h : Good ns) : Good (back ns) := good_perm h back_perm
theorem rotI_len {ns : List Str} {i : Int} : (rotI ns i).length = ns.length := rot_len
theorem get_ext_rot {ns ms : List Str} (hl : ms.length = ns.length) (h : ∀ i, i < ns.length → ms[i]? = ns[i]?) : ms = ns := by
  refine List.ext_getElem? fun i => ?_
  by_cases hi : i < ns.length
  · exact h i hi
  · rw [List.getElem?_eq_none (by omega), List.getElem?_eq_none (by omega)]
theorem rot_rot {ns : List Str} {j k : Nat} (hj : j < ns.length) (hk : k < ns.length) (h : (j + k) % ns.length = 0) : rot (rot ns j) k = ns := by
  refine get_ext_rot (by rw [rot_len, rot_len]) fun i hi => ?_
  rw [rot_get (by rw [rot_len]; exact hk) (by rw [rot_len]; exact hi), rot_len, rot_get hj (Nat.mod_lt _ (by omega))]
  congr 1
  rw [Nat.add_mod_mod, ← Nat.add_assoc, Nat.add_mod, h, Nat.zero_add, Nat.mod_mod, Nat.mod_eq_of_lt hi]
theorem rotI_inv {ns : List Str} {p q : Int} (h : (p + q) % (ns.length : Int) = 0) : rotI (rotI ns p) q = ns := by
  by_cases h0 : ns.length = 0
  · have : ns = [] := List.length_eq_zero_iff.mp h0
    subst this
    rw [rotI_nil, rotI_nil]
  · have hl : 0 < ns.length := by omega
    obtain ⟨j, ej, hj⟩ := emod_nat (i := p) hl
    obtain ⟨k, ek, hk⟩ := emod_nat (i := q) hl
    unfold rotI
    rw [rot_len, ej, ek, Int.toNat_natCast, Int.toNat_natCast]
    refine rot_rot hj hk ?_
    have e : ((j : Int) + (k : Int)) % (ns.length : Int) = 0 := by rw [← ej, ← ek, ← Int.add_emod]; exact h
    rw [← Int.natCast_add, ← Int.natCast_emod] at e
    exact Int.ofNat.inj e
theorem eqR_of {ns ms : List Str} {k : Nat} (hk : k ≤ ms.length) (h : ns = rot ms k) : eqR ns ms = true := by
  unfold eqR
  rw [List.any_eq_true]
  exact ⟨k, List.mem_range.mpr (by omega), decide_eq_true h⟩
theorem rotI_is {ns : List Str} {p : Int} : ∃ k, k ≤ ns.length ∧ rotI ns p = rot ns k := by
  by_cases h0 : ns.length = 0
  · have : ns = [] := List.length_eq_zero_iff.mp h0
    subst this
    exact ⟨0, Nat.le_refl _, by rw [rotI_nil]; rfl⟩
  · obtain ⟨k, ek, hk⟩ := emod_nat (i := p) (n := ns.length) (by omega)
    exact ⟨k, by omega, by unfold rotI; rw [ek, Int.toNat_natCast]⟩
theorem rotI_head {ns : List Str} {p : Int} (h : 0 < ns.length) : ∃ w, ns[(p % (ns.length : Int)).toNat]? = some w ∧ atI (rotI ns p) 0 = some w := by
  obtain ⟨j, ej, hj⟩ := emod_nat (i := p) h
  rw [ej, Int.toNat_natCast]
  refine ⟨ns[j], List.getElem?_eq_getElem hj, ?_⟩
  rw [show (0 : Int) = ((0 : Nat) : Int) from rfl, DL.atI_nat]
  unfold rotI
  rw [ej, Int.toNat_natCast, rot_get hj (by omega), Nat.add_zero, Nat.mod_eq_of_lt hj, List.getElem?_eq_getElem hj]
theorem len__law_turns (A : Ad) : ∀ ds Ψ Ξ, S__law_turns A ds Ψ Ξ → ds.length = 3 := by
  rintro ds Ψ Ξ ⟨ns, i, rfl, _⟩; rfl
theorem pure__law_turns {K : PySem.W.Frag} {mg : Str → Option Value} {A : Ad} (T : Txt K mg A) : ∀ ds Ψ Ξ, S__law_turns A ds Ψ Ξ → t__law_turns K A (endsF Ψ Ξ) (stD N__law_turns ds) := by
  rintro ds Ψ Ξ ⟨ns, p, rfl, hg, k⟩
  have ho := hg.1
  have hz := ho.l
  have eneg : 0 - p = -p := by omega
  show t__law_turns K A _ [.sh (RD A ns), .sh (.lst (sd ns)), .sh (.int p), .un, .un, .un, .un, .un, .un]
  have gp := good_rotI (i := p) hg
  have gm := good_rotI (i := -p) hg
  unfold t__law_turns
  refine seq1 fun v hv => ?_
  simp! only
  refine ⟨ns, p, rfl, ho, ?_⟩
  simp! only
  rw [hv]; clear hv v
  refine seq1 fun v hv => ?_
  simp! only
  refine ⟨ns, -p, rfl, ho, ?_⟩
  simp! only
  rw [hv]; clear hv v
  refine seq1 fun v hv => ?_
  simp! only
  refine ⟨⟨_, rfl⟩, ⟨_, rfl⟩, ns, p, rfl, hg, ?_⟩
  simp! only
  refine ⟨rotI ns p, rotI ns p, rfl, gp.1, gp.1, ?_⟩
  simp! only
  refine ⟨⟨_, rfl⟩, ⟨_, rfl⟩, ns, p, rfl, hg, ?_⟩
  rw [eneg]
  simp! only
  refine ⟨rotI ns (-p), rotI ns (-p), rfl, gm.1, gm.1, ?_⟩
  simp! only
  rw [hv]; clear hv v
  refine seq1 fun v hv => ?_
  simp! only
  refine ⟨⟨_, rfl⟩, ⟨_, rfl⟩, ns, p, rfl, hg, ?_⟩
  simp! only
  refine ⟨⟨_, rfl⟩, ⟨_, rfl⟩, rotI ns p, p, rfl, gp, ?_⟩
  rw [rotI_inv (p := p) (q := 0 - p) (by rw [show p + (0 - p) = 0 by omega, Int.zero_emod])]
  simp! only
  refine ⟨ns, ns, rfl, ho, ho, ?_⟩
  simp! only
  refine ⟨⟨_, rfl⟩, ⟨_, rfl⟩, ns, p, rfl, hg, ?_⟩
  simp! only
  refine ⟨⟨_, rfl⟩, rotI ns p, rfl, gp, ?_⟩
  refine ⟨rotI ns p, rfl, gp.1, ?_⟩
  simp! only
  refine ⟨back (rotI ns p), back (rotI ns p), rfl, (good_back gp).1, (good_back gp).1, ?_⟩
  simp! only
  rw [hv]; clear hv v
  refine seq1 fun v hv => ?_
  simp! only
  obtain ⟨k1, hk1, ek1⟩ := rotI_is (ns := rotI ns p) (p := -p)
  have ep : ns = rot (rotI ns p) k1 := by rw [← ek1, rotI_inv (by rw [show p + -p = 0 by omega, Int.zero_emod])]
  obtain ⟨k2, hk2, ek2⟩ := rotI_is (ns := ns) (p := -p)
  refine ⟨⟨_, rfl⟩, ⟨_, rfl⟩, ⟨_, rfl⟩, ns, p, rfl, hg, ?_⟩
  simp! only
  refine ⟨⟨_, rfl⟩, ns, rotI ns p, rfl, ho, gp.1, ?_⟩
  rw [eqR_of hk1 ep]
  simp! only
  refine ⟨⟨_, rfl⟩, ⟨_, rfl⟩, ns, p, rfl, hg, ?_⟩
  rw [eneg]
  simp! only
  refine ⟨⟨_, rfl⟩, ⟨_, rfl⟩, rotI ns (-p), ns, rfl, gm.1, ho, ?_⟩
  rw [eqR_of hk2 ek2]
  simp! only
  rw [hv]; clear hv v
  refine seq1 fun v hv => ?_
  simp! only
  refine ⟨⟨_, rfl⟩, ⟨_, rfl⟩, ns, p, rfl, hg, ?_⟩
  simp! only
  refine ⟨rotI ns p, rfl, gp, ?_⟩
  simp! only
  refine ⟨⟨_, rfl⟩, ⟨_, rfl⟩, ns, p, rfl, hg, ?_⟩
  rw [eneg]
  simp! only
  refine ⟨rotI ns (-p), rfl, gm, ?_⟩
  simp! only
  rw [hv]; clear hv v
  refine seq1 fun v hv => ?_
  simp! only
  refine ⟨⟨_, rfl⟩, ⟨_, rfl⟩, ns, p, rfl, hg, ?_⟩
  simp! only
  refine ⟨⟨_, rfl⟩, rotI ns p, rfl, gp, ?_⟩
  refine ⟨rotI ns p, rfl, gp.1, ?_⟩
  simp! only
  refine ⟨back (rotI ns p), rfl, good_back gp, ?_⟩
  simp! only
  rw [hv]; clear hv v
  refine seq1 fun v hv => ?_
  by_cases hn : 0 < ns.length
  · obtain ⟨w1, hw1, e1⟩ := rotI_head (p := p) hn
    obtain ⟨w2, hw2, e2⟩ := rotI_head (p := -p) hn
    simp! only [e1, e2]
    rw [if_pos (by omega)]
    refine ⟨⟨_, rfl⟩, ns, p, rfl, ho, ?_⟩
    rw [hw1]
    simp! only [e1, e2]
    refine ⟨⟨_, rfl⟩, ns, -p, rfl, ho, ?_⟩
    rw [hw2]
    simp! only [e1, e2]
    refine ⟨⟨_, rfl⟩, ns, p, rfl, ho, ?_⟩
    rw [hw1]
    simp! only
    exact k
  · have : ns = [] := List.length_eq_zero_iff.mp (by omega)
    subst this
    simp! only
    rw [if_neg (by decide), hv]; clear hv v
    refine seq1 fun v hv => ?_
    simp! only
    refine ⟨by decide, ?_⟩
    rw [hv]; clear hv v
    refine seq1 fun v hv => ?_
    simp! only
    rw [hv]; clear hv v
    refine seq1 fun v hv => ?_
    simp! only
    rw [hv]; clear hv v
    refine seq1 fun v hv => ?_
    unfold vTry
    simp! only
    refine ⟨⟨_, rfl⟩, [], p, rfl, ho, ?_⟩
    show vHds K _ _ _ (xn1 A.c_BadNumber "number" (.int p))
    refine vhds_yes T.ex_BadNumber_BadNumber ?_
    simp! only [xn1, vXF, vIsX, clD, clED, clR, T.kt_BadNumber_RowsError, T.kt_BadNumber_ValueError, T.kt_BadNumber_Unknown, T.kt_BadNumber_Impossible]
    refine ⟨by decide, rfl, ?_⟩
    rw [hv]; clear hv v
    refine seq1 fun v hv => ?_
    simp! only
    refine ⟨by decide, eqD_bls (a := [true, true, false, false]) (b := [true, true, false, false]) ?_⟩
    simp! only
    rw [hv]; clear hv v
    simp! only
    exact k
/-! ### equal rings -/
theorem len__law_equals (A : Ad) : ∀ ds Ψ Ξ, S__law_equals A ds Ψ Ξ → ds.length = 3 := by
  rintro ds Ψ Ξ ⟨ns, ms, rfl, _⟩; rfl
/-- what the law counts -/
def eqL (ns ms : List Str) : Bool := (decide (ns.length = ms.length) && decide (ns.length = 0)) || (List.range ns.length).any fun k => decide (ns = rotI ms (k : Int))
theorem rotI_nat {ms : List Str} {k : Nat} (hk : k < ms.length) : rotI ms (k : Int) = rot ms k := by
  unfold rotI
  rw [← Int.natCast_emod, Int.toNat_natCast, Nat.mod_eq_of_lt hk]
theorem rot_full {ms : List Str} : rot ms ms.length = rot ms 0 := by
  unfold rot
  rw [List.drop_length, List.take_length, List.drop_zero, List.take_zero, List.nil_append, List.append_nil]
theorem eqL_eq {ns ms : List Str} : eqL ns ms = eqR ns ms := by
  unfold eqL eqR
  rw [Bool.eq_iff_iff, Bool.or_eq_true, Bool.and_eq_true, decide_eq_true_eq, decide_eq_true_eq, List.any_eq_true, List.any_eq_true]
  constructor
  · rintro (⟨h1, h2⟩ | ⟨k, hk, h⟩)
    · have e1 : ns = [] := List.length_eq_zero_iff.mp h2
      have e2 : ms = [] := List.length_eq_zero_iff.mp (by omega)
      subst e1 e2
      exact ⟨0, List.mem_range.mpr (by decide), rfl⟩
    · have h := of_decide_eq_true h
      have hk := List.mem_range.mp hk
      have hl : ns.length = ms.length := by
        have := congrArg List.length h
        rw [rotI_len] at this; exact this
      exact ⟨k, List.mem_range.mpr (by omega), decide_eq_true (by rw [← rotI_nat (by omega)]; exact h)⟩
  · rintro ⟨k, hk, h⟩
    have h := of_decide_eq_true h
    have hk := List.mem_range.mp hk
    have hl : ns.length = ms.length := by
      have := congrArg List.length h
      rw [rot_len] at this; exact this
    by_cases h0 : ns.length = 0
    · exact .inl ⟨hl, h0⟩
    · refine .inr ?_
      by_cases hf : k = ms.length
      · refine ⟨0, List.mem_range.mpr (by omega), decide_eq_true ?_⟩
        rw [show ((0 : Nat) : Int) = ((0 : Nat) : Int) from rfl, rotI_nat (by omega), ← rot_full, ← hf]
        exact h
      · exact ⟨k, List.mem_range.mpr (by omega), decide_eq_true (by rw [rotI_nat (by omega)]; exact h)⟩
theorem eqR_comm {ns ms : List Str} : eqR ns ms = eqR ms ns := by
  have half : ∀ a b : List Str, eqR a b = true → eqR b a = true := fun a b h => by
    unfold eqR at h
    rw [List.any_eq_true] at h
    obtain ⟨k, hk, h⟩ := h
    have h := of_decide_eq_true h
    have hk := List.mem_range.mp hk
    have hl : a.length = b.length := by
      have := congrArg List.length h
      rw [rot_len] at this; exact this
    refine eqR_of (k := b.length - k) (by omega) ?_
    rw [h]
    unfold rot
    rw [List.drop_left' (by rw [List.length_drop]), List.take_left' (by rw [List.length_drop]), List.take_append_drop]
  rw [Bool.eq_iff_iff]
  exact ⟨half ns ms, half ms ns⟩
theorem pure__law_equals {K : PySem.W.Frag} {mg : Str → Option Value} {A : Ad} (T : Txt K mg A) : ∀ ds Ψ Ξ, S__law_equals A ds Ψ Ξ → t__law_equals K A (endsF Ψ Ξ) (stD N__law_equals ds) := by
  rintro ds Ψ Ξ ⟨ns, ms, rfl, hg, hm, k⟩
  have ho := hg.1
  have hz := ho.l
  have hmz := hm.1.l
  show t__law_equals K A _ [.sh (RD A ns), .sh (.lst (sd ns)), .sh (.lst (sd ms)), .un, .un, .un, .un]
  unfold t__law_equals
  refine seq1 fun v hv => ?_
  have key : ∀ b : Bool, b = (decide (ns.length = ms.length) && decide (ns.length = 0)) → v (endsF Ψ Ξ) [.sh (RD A ns), .sh (.lst (sd ns)), .sh (.lst (sd ms)), .sh (.bl b), .un, .un, .un] := by
    intro b eb
    rw [hv]; clear hv v
    refine seq1 fun v hv => ?_
    refine vfor (intDs 0 ns.length) (fun P h => ?_) (fun i ρ => ∃ c x, ρ = [.sh (RD A ns), .sh (.lst (sd ns)), .sh (.lst (sd ms)), .sh (.bl c), x, .un, .un] ∧ c = ((decide (ns.length = ms.length) && decide (ns.length = 0)) || (List.range i).any fun k => decide (ns = rotI ms (k : Int)))) ⟨_, _, rfl, by rw [eb]; simp⟩ ?_ ?_
    · simp! only
      exact ⟨by omega, by rw [Int.toNat_natCast]; exact h⟩
    · rintro i y ρ1 hy ⟨c, x, rfl, ec⟩
      obtain ⟨hi, rfl⟩ := intDs_get hy
      rw [Int.zero_add]
      simp! only
      cases hc : c with
      | true =>
        simp! only
        rw [hc] at ec
        exact ⟨_, _, rfl, by rw [List.range_succ, List.any_append, ← Bool.or_assoc, ← ec]; rfl⟩
      | false =>
        simp! only
        refine ⟨ms, (i : Int), rfl, hm.1, ?_⟩
        simp! only
        refine eqD_lst ho.w (hm.1.perm rotI_perm).w ?_
        rw [hc] at ec
        exact ⟨_, _, rfl, by rw [List.range_succ, List.any_append, ← Bool.or_assoc, ← ec]; simp⟩
    · rintro ρ1 ⟨c, x, rfl, ec⟩
      rw [intDs_len] at ec
      have ec : c = eqR ns ms := by rw [ec, ← eqL_eq]; rfl
      show v (endsF Ψ Ξ) _
      rw [hv]; clear hv v
      refine seq1 fun v hv => ?_
      simp! only
      refine mk_ok (.inl rfl) hm ?_
      show v (endsF Ψ Ξ) _
      rw [hv]; clear hv v
      have e2 : eqR ms ns = eqR ns ms := eqR_comm
      refine seq1 fun v hv => ?_
      refine vfor [.bl (eqR ns ms), .bl (eqR ms ns)] (fun P h => ?_) (fun i ρ => ∃ z, ρ = [.sh (RD A ns), .sh (.lst (sd ns)), .sh (.lst (sd ms)), .sh (.bl c), x, .sh (RD A ms), z]) ⟨_, rfl⟩ ?_ ?_
      · simp! only
        refine ⟨⟨_, rfl⟩, ⟨_, rfl⟩, ns, ms, rfl, ho, hm.1, ?_⟩
        simp! only
        refine ⟨⟨_, rfl⟩, ⟨_, rfl⟩, ms, ns, rfl, hm.1, ho, ?_⟩
        simp! only
        exact ⟨by decide, h⟩
      · rintro i y ρ1 hy ⟨z, rfl⟩
        have ey : y = .bl c := by
          rw [e2, ← ec] at hy
          match i, hy with
          | 0, hy => exact (Option.some.inj hy).symm
          | 1, hy => exact (Option.some.inj hy).symm
          | i + 2, hy => cases hy
        subst ey
        simp! only
        exact ⟨_, rfl⟩
      · rintro ρ1 ⟨z, rfl⟩
        show v (endsF Ψ Ξ) _
        rw [hv]; clear hv v
        simp! only
        exact k
  simp! only
  by_cases h : ns.length = ms.length
  · rw [if_pos (by rw [h])]
    exact key _ (by simp [h])
  · rw [if_neg (by omega)]
    exact key _ (by simp [h])
/-! ### cuts, ahead -/
theorem len__law_cut_is (A : Ad) : ∀ ds Ψ Ξ, S__law_cut_is A ds Ψ Ξ → ds.length = 3 := by
  rintro ds Ψ Ξ ⟨ns, w, rfl, _⟩; rfl
theorem cutAt_from {ns : List Str} {w : Str} (h : w ∈ ns) : (rotI ns (idx ns w : Nat)).drop 1 = cutAt ns w := by
  have hi := idx_lt h
  rw [rotI_nat hi]
  unfold rot cutAt
  rw [List.drop_append_of_le_length (by rw [List.length_drop]; omega), List.drop_drop]
theorem cutAt_ok {ns : List Str} {w : Str} (h : Ok ns) : Ok (cutAt ns w) := by
  unfold cutAt
  refine ⟨?_, fun x hx => ?_⟩
  · rw [List.length_append, List.length_drop, List.length_take]
    have := h.l
    omega
  · rcases List.mem_append.mp hx with q | q
    · exact h.w x (List.mem_of_mem_drop q)
    · exact h.w x (List.mem_of_mem_take q)
theorem pure__law_cut_is {K : PySem.W.Frag} {mg : Str → Option Value} {A : Ad} (T : Txt K mg A) : ∀ ds Ψ Ξ, S__law_cut_is A ds Ψ Ξ → t__law_cut_is K A (endsF Ψ Ξ) (stD N__law_cut_is ds) := by
  rintro ds Ψ Ξ ⟨ns, w, rfl, hg, k⟩
  have ho := hg.1
  have hz := ho.l
  show t__law_cut_is K A _ [.sh (RD A ns), .sh (.lst (sd ns)), .sh (.str w), .un, .un, .un, .un, .un, .un]
  unfold t__law_cut_is
  refine seq1 fun v hv => ?_
  simp! only
  rw [hv]; clear hv v
  refine seq1 fun v hv => ?_
  simp! only
  rw [hv]; clear hv v
  refine seq1 fun v hv => ?_
  simp! only
  refine ⟨by decide, ?_⟩
  rw [hv]; clear hv v
  refine seq1 fun v hv => ?_
  unfold vTry
  simp! only
  refine ⟨by rw [ne_cut], ns, w, rfl, ho, ?_⟩
  by_cases h : w ∈ ns
  · rw [if_pos h]
    simp! only
    show v (endsF Ψ Ξ) _
    rw [hv]; clear hv v
    refine seq1 fun v hv => ?_
    simp! only
    refine ⟨⟨_, rfl⟩, ns, w, rfl, ho, ?_⟩
    simp! only [h]
    rw [hv]; clear hv v
    refine seq1 fun v hv => ?_
    simp! only [h]
    rw [hv]; clear hv v
    refine seq1 fun v hv => ?_
    simp! only [h]
    rw [hv]; clear hv v
    refine seq1 fun v hv => ?_
    simp! only [sd_flat]
    refine ⟨rfl, idx ns w, first_idx h, ?_⟩
    refine ⟨ns, ((idx ns w : Nat) : Int), rfl, ho, ?_⟩
    simp! only
    rw [show cut (rotI ns ((idx ns w : Nat) : Int)) (some 1) Option.none = (rotI ns ((idx ns w : Nat) : Int)).drop 1 from cut_fromN (i := 1), cutAt_from h]
    rw [hv]; clear hv v
    refine seq1 fun v hv => ?_
    simp! only
    have oc := cutAt_ok (w := w) ho
    refine eqD_lst oc.w oc.w ?_
    simp! only
    rw [hv]; clear hv v
    refine seq1 fun v hv => ?_
    simp! only
    refine ⟨Nat.lt_of_le_of_lt oc.l (by decide), ?_⟩
    rw [hv]; clear hv v
    simp! only [vFz, fz]
    refine ⟨by rw [ne_cut], ns, w, rfl, ho, ?_⟩
    rw [if_pos h]
    simp! only
    refine eqD_lst oc.w oc.w ?_
    simp! only
    exact k
  · rw [if_neg h]
    show vHds K _ _ _ (xn1 A.c_UnknownColumn "name" (.str w))
    refine vhds_yes T.ex_UnknownColumn_UnknownColumn ?_
    simp! only [xn1, vXF, vIsX, clD, clED, clR, T.kt_UnknownColumn_RowsError, T.kt_UnknownColumn_ValueError, T.kt_UnknownColumn_Unknown, T.kt_UnknownColumn_Impossible]
    refine ⟨by decide, rfl, ?_⟩
    rw [hv]; clear hv v
    refine seq1 fun v hv => ?_
    simp! only
    refine ⟨⟨_, rfl⟩, ns, w, rfl, ho, ?_⟩
    simp! only [h]
    rw [hv]; clear hv v
    refine seq1 fun v hv => ?_
    simp! only [h]
    rw [hv]; clear hv v
    refine seq1 fun v hv => ?_
    simp! only [h]
    refine ⟨by decide, eqD_bls (a := [true, true, true, false]) (b := [true, true, true, false]) ?_⟩
    simp! only
    exact k
theorem len__law_ahead (A : Ad) : ∀ ds Ψ Ξ, S__law_ahead A ds Ψ Ξ → ds.length = 4 := by
  rintro ds Ψ Ξ ⟨ns, s, a, b, rfl, _⟩; rfl
theorem pure__law_ahead {K : PySem.W.Frag} {mg : Str → Option Value} {A : Ad} (T : Txt K mg A) : ∀ ds Ψ Ξ, S__law_ahead A ds Ψ Ξ → t__law_ahead K A (endsF Ψ Ξ) (stD N__law_ahead ds) := by
  rintro ds Ψ Ξ ⟨ns, s, a, b, rfl, ho, hs, ha, hb, k⟩
  have hz := ho.l
  show t__law_ahead K A _ [.sh (.lst (sd ns)), .sh (.str s), .sh (.str a), .sh (.str b), .un]
  unfold t__law_ahead
  simp! only
  simp! only [sd_flat]
  refine ⟨rfl, idx ns s, first_idx hs, ?_⟩
  refine ⟨ns, ((idx ns s : Nat) : Int), rfl, ho, ?_⟩
  rw [rotI_nat (idx_lt hs)]
  have ma : a ∈ rot ns (idx ns s) := rot_perm.mem_iff.mpr ha
  have mb : b ∈ rot ns (idx ns s) := rot_perm.mem_iff.mpr hb
  simp! only [sd_flat]
  refine ⟨rfl, _, first_idx ma, ?_⟩
  refine ⟨rfl, _, first_idx mb, ?_⟩
  rw [show decide (((idx (rot ns (idx ns s)) a : Nat) : Int) < ((idx (rot ns (idx ns s)) b : Nat) : Int)) = decide (idx (rot ns (idx ns s)) a < idx (rot ns (idx ns s)) b) by simp]
  exact k
/-! ### splits are -/
theorem len__law_splits_are (A : Ad) : ∀ ds Ψ Ξ, S__law_splits_are A ds Ψ Ξ → ds.length = 3 := by
  rintro ds Ψ Ξ ⟨ns, four, rfl, _⟩; rfl
/-- the law's own list of what is wrong -/
def w1 (ns ms : List Str) : List DV := ((sd ms).filter fun d => match d with
  | .str w => !decide (w ∈ ns)
  | _ => false).map fun d => .tup true [.str "unknown", d]
def w2 (ms : List Str) : List DV := ((intDs 0 4).filter fun d => match d with
  | .int i => dup ms i.toNat
  | _ => false).map fun d => match d with
  | .int i => .tup true [.str "same", .str ((ms[i.toNat]?).getD "")]
  | _ => .non
theorem w1_head {ns ms : List Str} : (w1 ns ms).head? = (stranger ns ms).map fun w => .tup true [.str "unknown", .str w] := by
  unfold w1 stranger sd
  rw [List.head?_map, List.head?_filter, List.find?_map, Option.map_map]
  rfl
theorem w2_head {ms : List Str} (h : ms.length = 4) : (w2 ms).head? = (twice ms).map fun w => .tup true [.str "same", .str w] := by
  have e : twice ms = ((List.range 4).find? (dup ms)).bind (ms[·]?) := by rw [← h]; rfl
  unfold w2 intDs
  rw [e, List.head?_map, List.head?_filter, List.find?_map]
  have e2 : ((fun d : DV => match d with
    | .int i => dup ms i.toNat
    | _ => false) ∘ fun i : Nat => DV.int (0 + (i : Int))) = dup ms := funext fun i => by
    show dup ms ((0 : Int) + (i : Int)).toNat = _
    rw [Int.zero_add, Int.toNat_natCast]
  rw [e2]
  cases q : (List.range 4).find? (dup ms) with
  | none => rfl
  | some k =>
    have hk := List.mem_range.mp (List.mem_of_find?_eq_some q)
    show some (DV.tup true [.str "same", .str ((ms[((0 : Int) + (k : Int)).toNat]?).getD "")]) = Option.map _ (ms[k]?)
    rw [Int.zero_add, Int.toNat_natCast, List.getElem?_eq_getElem (by omega)]
    rfl
theorem w_none {l : List DV} (h : l.head? = Option.none) : l = [] := by cases l <;> first | rfl | cases h
theorem take_iff {l : List Str} {w : Str} {n : Nat} (h : w ∈ l) : w ∈ l.take n ↔ idx l w < n := by
  obtain ⟨h1, h2⟩ := idx_at h
  constructor
  · intro q
    obtain ⟨i, hi, e⟩ := List.getElem_of_mem q
    rw [List.length_take] at hi
    rw [List.getElem_take] at e
    by_cases hc : idx l w ≤ i
    · omega
    · exact absurd (by rw [List.getElem?_eq_getElem (by omega), e]) (h2 i (by omega))
  · intro q
    refine List.mem_of_getElem? (i := idx l w) ?_
    rw [List.getElem?_take_of_lt q]
    exact h1
theorem rot_cut {ns : List Str} {p : Str} (h : p ∈ ns) : rot ns (idx ns p) = p :: cutAt ns p := by
  unfold rot cutAt
  have e := (idx_at h).1
  have hi := idx_lt h
  rw [List.drop_eq_getElem_cons hi]
  rw [List.getElem?_eq_getElem hi] at e
  rw [Option.some.inj e]
  rfl
theorem idx_cons {l : List Str} {p w : Str} (h : w ≠ p) : idx (p :: l) w = idx l w + 1 := by
  unfold idx
  rw [List.findIdx_cons]
  have : (p == w) = false := by simpa using fun e => h e.symm
  rw [this]
  rfl
theorem ahead_eq {ns : List Str} {p q r : Str} (hp : p ∈ ns) (hr : r ∈ ns) (nq : q ≠ p) (nr : r ≠ p) : decide (idx (rot ns (idx ns p)) r < idx (rot ns (idx ns p)) q) = decide (r ∈ (cutAt ns p).take (idx (cutAt ns p) q)) := by
  rw [rot_cut hp, idx_cons nr, idx_cons nq]
  refine decide_eq_decide.mpr ?_
  rw [take_iff (cut_mem hp hr nr)]
  omega
theorem ne_splits : (("splits" : Str) == ("names" : Str)) = false := by decide +kernel
theorem pair_eq {a w : Str} {Ψ : Bool → Prop} (h1 : okS a) (h2 : okS w) (k : Ψ true) : eqD (.tup true [.str a, .str w]) (.tup true [.str a, .str w]) Ψ := by
  have : ∀ x, x ∈ [a, w] → okS x := fun x hx => by
    rcases List.mem_cons.mp hx with rfl | hx
    · exact h1
    · rw [List.mem_singleton.mp hx]; exact h2
  exact eqD_tup (ns := [a, w]) (ms := [a, w]) this this (by rw [decide_eq_true rfl]; exact k)
theorem twice_mem {ms : List Str} {w : Str} (h : twice ms = some w) : w ∈ ms := by
  unfold twice at h
  obtain ⟨k, _, e⟩ := Option.bind_eq_some_iff.mp h
  exact List.mem_of_getElem? e
theorem okU : okS "unknown" := by unfold okS; decide +kernel
theorem okSm : okS "same" := by unfold okS; decide +kernel
theorem bdec : ∀ a b : Bool, decide ((a != b) = !decide (a = b)) = true := by decide
theorem pure__law_splits_are {K : PySem.W.Frag} {mg : Str → Option Value} {A : Ad} (T : Txt K mg A) : ∀ ds Ψ Ξ, S__law_splits_are A ds Ψ Ξ → t__law_splits_are K A (endsF Ψ Ξ) (stD N__law_splits_are ds) := by
  rintro ds Ψ Ξ ⟨ns, four, rfl, hg, h4, hl, k⟩
  obtain ⟨p, q, r, s, rfl⟩ : ∃ p q r s, four = [p, q, r, s] := by
    match four, hl with
    | [p, q, r, s], _ => exact ⟨p, q, r, s, rfl⟩
  have ho := hg.1
  have hz := ho.l
  show t__law_splits_are K A _ [.sh (RD A ns), .sh (.lst (sd ns)), .sh (.lst (sd [p, q, r, s])), .un, .un, .un, .un, .un, .un, .un, .un, .un]
  unfold t__law_splits_are
  refine seq1 fun v hv => ?_
  unfold vAsgS
  refine vlc_fil (sd [p, q, r, s]) (fun P h => by simp! only; exact h) (fun d => match d with
    | .str w => !decide (w ∈ ns)
    | _ => false) (fun d => .tup true [.str "unknown", d]) (by rw [sd_len]; simp) (fun d hd => ?_) ?_
  · obtain ⟨w, hw, rfl⟩ := List.mem_map.mp hd
    simp! only
    exact fun _ => by decide
  refine ⟨trivial, ?_⟩
  show v (endsF Ψ Ξ) [.sh (RD A ns), .sh (.lst (sd ns)), .sh (.lst (sd [p, q, r, s])), .sh (.lst (w1 ns [p, q, r, s])), .un, .un, .un, .un, .un, .un, .un, .un]
  rw [hv]; clear hv v
  refine seq1 fun v hv => ?_
  unfold vAsgS
  simp! only
  refine vlc_fil (intDs 0 4) (fun P h => by simp! only; exact ⟨by decide, h⟩) (fun d => match d with
    | .int i => dup [p, q, r, s] i.toNat
    | _ => false) (fun d => match d with
    | .int i => .tup true [.str "same", .str (([p, q, r, s][i.toNat]?).getD "")]
    | _ => .non) (by decide) (fun d hd => ?_) ?_
  · obtain ⟨m, hm, rfl⟩ := int_mem hd
    rw [Int.zero_add]
    simp! only
    have hs : [p, q, r, s][m]? = some (([p, q, r, s][m]?).getD "") := by rw [List.getElem?_eq_getElem (by rw [hl]; exact hm)]; rfl
    rw [Int.toNat_natCast]
    unfold dup
    rw [hs]
    simp! only [Option.getD_some]
    exact fun _ => by decide
  simp! only
  show _ ∧ v (endsF Ψ Ξ) [.sh (RD A ns), .sh (.lst (sd ns)), .sh (.lst (sd [p, q, r, s])), .sh (.lst (w1 ns [p, q, r, s] ++ w2 [p, q, r, s])), .un, .un, .un, .un, .un, .un, .un, .un]
  refine ⟨by
    rw [List.length_map]
    have l1 : (w1 ns [p, q, r, s]).length ≤ 4 := by unfold w1; rw [List.length_map]; exact Nat.le_trans (List.length_filter_le _ _) (by rw [sd_len]; exact Nat.le_refl _)
    have l2 := List.length_filter_le (fun d : DV => match d with
      | .int i => dup [p, q, r, s] i.toNat
      | _ => false) (intDs 0 4)
    rw [intDs_len] at l2
    exact Nat.le_trans (Nat.add_le_add l1 l2) (by decide), ?_⟩
  have eh1 := w1_head (ns := ns) (ms := [p, q, r, s])
  have eh2 := w2_head (ms := [p, q, r, s]) rfl
  generalize w1 ns [p, q, r, s] = W1 at eh1
  generalize w2 [p, q, r, s] = W2 at eh2
  have a0 : atI [p, q, r, s] 0 = some p := rfl
  have a1 : atI [p, q, r, s] 1 = some q := rfl
  have a2 : atI [p, q, r, s] 2 = some r := rfl
  have a3 : atI [p, q, r, s] 3 = some s := rfl
  rw [hv]; clear hv v
  refine seq1 fun v hv => ?_
  simp! only
  rw [hv]; clear hv v
  refine seq1 fun v hv => ?_
  simp! only
  rw [hv]; clear hv v
  refine seq1 fun v hv => ?_
  simp! only
  refine ⟨by decide, ?_⟩
  rw [hv]; clear hv v
  refine seq1 fun v hv => ?_
  unfold vTry
  simp! only [a0, a1, a2, a3]
  refine ⟨by rw [ne_splits], ns, p, q, r, s, rfl, ho, h4, ?_⟩
  cases hs : stranger ns [p, q, r, s] with
  | some w =>
    rw [hs] at eh1
    show vHds K _ _ _ (xn1 A.c_UnknownColumn "name" (.str w))
    refine vhds_yes T.ex_UnknownColumn_UnknownColumn ?_
    simp! only [xn1, vXF, vIsX, clD, clED, clR, T.kt_UnknownColumn_RowsError, T.kt_UnknownColumn_ValueError, T.kt_UnknownColumn_Unknown, T.kt_UnknownColumn_Impossible]
    refine ⟨by decide, by decide, rfl, ?_⟩
    rw [hv]; clear hv v
    refine seq1 fun v hv => ?_
    have ow : okS w := h4.w w (List.mem_of_find?_eq_some hs)
    obtain ⟨t, rfl⟩ : ∃ t, W1 = .tup true [.str "unknown", .str w] :: t := by
      cases W1 with
      | nil => cases eh1
      | cons z t => exact ⟨t, by rw [Option.some.inj eh1]⟩
    simp! only
    rw [if_pos (by simp; omega)]
    rw [show atI (DV.tup true [.str "unknown", .str w] :: t ++ W2) 0 = some (DV.tup true [.str "unknown", .str w]) by rw [atI_pos (by decide)]; rfl]
    show eqD (.tup true [.str "unknown", .str w]) (.tup true [.str "unknown", .str w]) _
    refine pair_eq okU ow ?_
    simp! only
    refine ⟨by decide, eqD_bls (a := [true, true, false]) (b := [true, true, false]) ?_⟩
    simp! only
    exact k
  | none =>
    rw [hs] at eh1
    have e1 := w_none eh1
    subst e1
    cases ht : twice [p, q, r, s] with
    | some w =>
      rw [ht] at eh2
      show vHds K _ _ _ (xn1 A.c_SameColumn "name" (.str w))
      refine vhds_no T.ex_SameColumn_UnknownColumn ?_
      refine vhds_yes T.ex_SameColumn_SameColumn ?_
      simp! only [xn1, vXF, vIsX, clD, clED, clR, T.kt_SameColumn_RowsError, T.kt_SameColumn_Unknown, T.kt_SameColumn_Impossible]
      refine ⟨by decide, by decide, rfl, ?_⟩
      rw [hv]; clear hv v
      refine seq1 fun v hv => ?_
      have ow : okS w := h4.w w (twice_mem ht)
      obtain ⟨t, rfl⟩ : ∃ t, W2 = .tup true [.str "same", .str w] :: t := by
        cases W2 with
        | nil => cases eh2
        | cons z t => exact ⟨t, by rw [Option.some.inj eh2]⟩
      simp! only
      rw [if_pos (by simp)]
      rw [show atI ([] ++ DV.tup true [.str "same", .str w] :: t) 0 = some (DV.tup true [.str "same", .str w]) by rw [atI_pos (by decide)]; rfl]
      show eqD (.tup true [.str "same", .str w]) (.tup true [.str "same", .str w]) _
      refine pair_eq okSm ow ?_
      simp! only
      refine ⟨by decide, eqD_bls (a := [true, true, false]) (b := [true, true, false]) ?_⟩
      simp! only
      exact k
    | none =>
      rw [ht] at eh2
      have e2 := w_none eh2
      subst e2
      have hin := stranger_none hs
      have hp : p ∈ ns := hin p (by simp)
      have hq : q ∈ ns := hin q (by simp)
      have hr : r ∈ ns := hin r (by simp)
      have hs' : s ∈ ns := hin s (by simp)
      have nd := twice_none ht
      have nqp : q ≠ p := fun e => by
        rw [e] at nd
        simp at nd
      have nrp : r ≠ p := fun e => by
        rw [e] at nd
        simp at nd
      have nsp : s ≠ p := fun e => by
        rw [e] at nd
        simp at nd
      simp! only
      show v (endsF Ψ Ξ) _
      rw [hv]; clear hv v
      refine seq1 fun v hv => ?_
      simp! only
      rw [if_neg (by decide)]
      rw [hv]; clear hv v
      refine seq1 fun v hv => ?_
      simp! only [a0, a1, a2, a3]
      refine ⟨ns, p, r, q, rfl, ho, hp, hr, hq, ?_⟩
      rw [ahead_eq hp hr nqp nrp]
      simp! only
      rw [hv]; clear hv v
      refine seq1 fun v hv => ?_
      simp! only [a0, a1, a2, a3]
      refine ⟨ns, p, s, q, rfl, ho, hp, hs', hq, ?_⟩
      rw [ahead_eq hp hs' nqp nsp]
      simp! only
      rw [hv]; clear hv v
      simp! only
      rw [bdec]
      exact k
/-! ### refused -/
theorem len__law_refused (A : Ad) : ∀ ds Ψ Ξ, S__law_refused A ds Ψ Ξ → ds.length = 1 := by
  rintro ds Ψ Ξ ⟨ns, rfl, _⟩; rfl
theorem goes_lett (c : Nat) : Lt.cps.contains c = lett c := by
  unfold lett
  rw [Bool.eq_iff_iff, decide_eq_true_eq, Array.contains_iff_mem, Array.mem_def]
theorem all_getD {w : Str} {p : Nat → Bool} : w.cps.toList.all p = true ↔ ∀ k, k < w.length → p (w.cps.getD k 0) = true := by
  rw [List.all_eq_true]
  constructor
  · intro h k hk
    have hk' : k < w.cps.size := hk
    refine h _ ?_
    simp [Array.getD, hk']
  · intro h c hc
    obtain ⟨k, hk, e⟩ := List.getElem_of_mem hc
    have hk' : k < w.cps.size := by simpa using hk
    have := h k hk'
    simp [Array.getD, hk'] at this
    simp at e
    rw [← e]; exact this
theorem strip_all {w : Str} : decide (Txt.stripChars w Lt = "") = w.cps.toList.all lett := by
  have eg : (Array.contains Lt.cps) = lett := funext goes_lett
  have e0 : Txt.stripChars w Lt = Builtin.Str.strSub w (stripLo lett true w) (stripHi lett true w (stripLo lett true w)) := by
    unfold Txt.stripChars
    rw [eg, PyProof.Rows.stripBy_eq]
  rw [e0]
  obtain ⟨l1, l2, l3⟩ := PyProof.Rows.lo_facts lett w
  generalize stripLo lett true w = lo at l1 l2 l3
  obtain ⟨m1, m2, m3, m4⟩ := PyProof.Rows.hi_facts lett w lo l1
  generalize stripHi lett true w lo = hi at m1 m2 m3 m4
  rw [Bool.eq_iff_iff, decide_eq_true_eq, all_getD]
  constructor
  · intro e q hq
    have := congrArg Str.length e
    rw [size_strSub w lo hi m2] at this
    have this : hi - lo = 0 := this
    by_cases h : q < lo
    · exact l2 q h
    · exact m3 q (by omega) hq
  · intro h
    have e1 : lo = w.length := by
      rcases l3 with h3 | h3
      · exact h3
      · by_cases hl : lo < w.length
        · rw [h lo hl] at h3; cases h3
        · omega
    have : (Builtin.Str.strSub w lo hi).length = 0 := by rw [size_strSub w lo hi m2]; omega
    have := Array.eq_empty_of_size_eq_zero (xs := (Builtin.Str.strSub w lo hi).cps) this
    rw [show (("" : Str)) = Str.mk #[] from rfl]
    show Str.mk (Builtin.Str.strSub w lo hi).cps = Str.mk #[]
    rw [this]
theorem pure__law_refused {K : PySem.W.Frag} {mg : Str → Option Value} {A : Ad} (T : Txt K mg A) : ∀ ds Ψ Ξ, S__law_refused A ds Ψ Ξ → t__law_refused K A (endsF Ψ Ξ) (stD N__law_refused ds) := by
  rintro ds Ψ Ξ ⟨ns, rfl, ho, k⟩
  have hz := ho.l
  show t__law_refused K A _ [.sh (.lst (sd ns)), .un, .un, .un, .un, .un, .un, .un, .un, .un]
  unfold t__law_refused
  refine seq1 fun v hv => ?_
  simp! only
  rw [hv]; clear hv v
  refine seq1 fun v hv => ?_
  refine vfor (intDs 0 ns.length) (fun P h => ?_) (fun i ρ => ∃ x y z, ρ = [.sh (.lst (sd ns)), .sh (match (List.range i).find? (badAt ns) with
    | some k => .int (k : Nat)
    | _ => .non), x, y, z, .un, .un, .un, .un, .un] ∧ noEx [x, y, z] = true) ⟨_, _, _, rfl, rfl⟩ ?_ ?_
  · simp! only
    exact ⟨by omega, by rw [Int.toNat_natCast]; exact h⟩
  · rintro i y ρ1 hy ⟨x, x2, x3, rfl, hx⟩
    obtain ⟨hi, rfl⟩ := intDs_get hy
    rw [Int.zero_add]
    have hw : ns[i]? = some (ns[i]) := List.getElem?_eq_getElem hi
    generalize ns[i] = w at hw
    have okw := ho.w w (List.mem_of_getElem? hw)
    have bad : badAt ns i = (!isN w || decide (w ∈ ns.take i)) := by unfold badAt; rw [hw]
    have nxt : (List.range (i + 1)).find? (badAt ns) = match (List.range i).find? (badAt ns) with
      | some k => some k
      | _ => if badAt ns i then some i else Option.none := by
      rw [List.range_succ, List.find?_append]
      cases (List.range i).find? (badAt ns) with
      | some k => rfl
      | none =>
        show List.find? (badAt ns) [i] = _
        rw [List.find?_cons]
        cases badAt ns i <;> rfl
    rw [nxt, bad]
    have hz8 := okz okw
    have hst : (Txt.stripChars w Lt = "") ↔ w.cps.toList.all lett = true := by rw [← strip_all, decide_eq_true_eq]
    cases (List.range i).find? (badAt ns) with
    | some k =>
      simp! only [hw]
      refine ⟨hz8, ?_⟩
      split
      · refine ⟨hz8, ?_⟩
        split
        · exact ⟨hz8, _, _, _, rfl, rfl⟩
        · exact ⟨_, _, _, rfl, rfl⟩
      · exact ⟨_, _, _, rfl, rfl⟩
    | none =>
      simp! only [hw]
      refine ⟨hz8, ?_⟩
      by_cases h1 : Txt.stripChars w Lt = ""
      · rw [if_pos h1]
        refine ⟨hz8, ?_⟩
        have h1 := hst.mp h1
        by_cases h2 : 0 < w.length
        · rw [if_pos (by omega)]
          refine ⟨hz8, ?_⟩
          by_cases h3 : w.length < 9
          · rw [if_pos (by omega)]
            have hN : isN w = true := by
              unfold isN
              rw [h1, decide_eq_true (by omega), decide_eq_true (by omega)]; rfl
            rw [hN]
            by_cases h4 : w ∈ ns.take i
            · rw [if_pos h4, decide_eq_true h4]
              exact ⟨_, _, _, rfl, rfl⟩
            · rw [if_neg h4, decide_eq_false h4]
              exact ⟨_, _, _, rfl, rfl⟩
          · rw [if_neg (by omega)]
            have hN : isN w = false := by
              unfold isN
              rw [decide_eq_false (by omega : ¬ w.length ≤ 8)]; simp
            rw [hN]
            exact ⟨_, _, _, rfl, rfl⟩
        · rw [if_neg (by omega)]
          have hN : isN w = false := by
            unfold isN
            rw [decide_eq_false (by omega : ¬ 1 ≤ w.length)]; rfl
          rw [hN]
          exact ⟨_, _, _, rfl, rfl⟩
      · rw [if_neg h1]
        have h1 : ¬ w.cps.toList.all lett = true := fun e => h1 (hst.mpr e)
        have hN : isN w = false := by
          unfold isN
          rw [show w.cps.toList.all lett = false by simpa using h1, Bool.and_false]
        rw [hN]
        exact ⟨_, _, _, rfl, rfl⟩
  · rintro ρ1 ⟨x, x2, x3, rfl, hx⟩
    rw [intDs_len]
    show v (endsF Ψ Ξ) _
    rw [hv]; clear hv v
    refine seq1 fun v hv => ?_
    have key : v (endsF Ψ Ξ) [.sh (.lst (sd ns)), .sh (match fault ns with
      | some k => .int (k : Nat)
      | _ => .non), x, x2, x3, .un, .un, .un, .un, .un] := by
      rw [hv]; clear hv v
      refine seq1 fun v hv => ?_
      simp! only
      rw [hv]; clear hv v
      refine seq1 fun v hv => ?_
      simp! only
      rw [hv]; clear hv v
      refine seq1 fun v hv => ?_
      simp! only
      rw [hv]; clear hv v
      refine seq1 fun v hv => ?_
      simp! only
      refine ⟨by decide, ?_⟩
      rw [hv]; clear hv v
      refine seq1 fun v hv => ?_
      unfold vTry
      simp! only
      refine ⟨_, ns, rfl, .inl rfl, ho, ?_⟩
      cases hf : fault ns with
      | some kk =>
        show vHds K _ _ _ (xn1 A.c_BadRound "index" (.int (kk : Nat)))
        refine vhds_yes T.ex_BadRound_BadRound ?_
        simp! only [xn1, vXF, vIsX, clD, clED, clR, T.kt_BadRound_RowsError, T.kt_BadRound_ValueError, T.kt_BadRound_Unknown, T.kt_BadRound_Impossible]
        refine ⟨by decide, by unfold noEx at hx ⊢; simpa using hx, ?_⟩
        rw [hv]; clear hv v
        refine seq1 fun v hv => ?_
        simp! only
        refine eqD_lst ho.w ho.w ?_
        simp! only
        rw [hv]; clear hv v
        refine seq1 fun v hv => ?_
        simp! only
        rw [hv]; clear hv v
        refine seq1 fun v hv => ?_
        simp! only
        refine ⟨by decide, eqD_bls (a := [true, true, false, false]) (b := [true, true, false, false]) ?_⟩
        simp! only
        rw [hv]; clear hv v
        simp! only
        exact k
      | none =>
        show v (endsF Ψ Ξ) _
        rw [hv]; clear hv v
        refine seq1 fun v hv => ?_
        simp! only
        refine eqD_lst ho.w ho.w ?_
        simp! only
        rw [hv]; clear hv v
        refine seq1 fun v hv => ?_
        simp! only
        refine ⟨⟨ns, rfl, ho, rfl⟩, ?_⟩
        refine eqD_lst ho.w ho.w ?_
        simp! only
        exact k
    cases q : (List.range ns.length).find? (badAt ns) with
    | some k =>
      have ef : fault ns = some k := by unfold fault; rw [q]
      rw [ef] at key
      simp! only
      exact key
    | none =>
      have ef : fault ns = if 12 < ns.length then some 12 else Option.none := by unfold fault; rw [q]
      rw [ef] at key
      simp! only
      by_cases h : 12 < ns.length
      · rw [if_pos h] at key
        rw [if_pos (by omega)]
        exact key
      · rw [if_neg h] at key
        rw [if_neg (by omega)]
        exact key
/-! ### lists refused -/
theorem len__law_lists_refused (A : Ad) : ∀ ds Ψ Ξ, S__law_lists_refused A ds Ψ Ξ → ds.length = 2 := by
  rintro ds Ψ Ξ ⟨ns, l, rfl, _⟩; rfl
theorem pool_at {l : List Int} (h : is27 l) {i : Nat} (hi : i < l.length) : ∃ x, l[i]? = some x ∧ 0 ≤ x := ⟨l[i], List.getElem?_eq_getElem hi, (h _ (List.getElem_mem hi)).1⟩
def Sg : Str := " !\"#$&'()*+,-./0123456789:;<=>?@ABCDEFGHIJKLMNOPQRSTUVWXYZ[\\]^_`{|}~"
theorem sg_len : Sg.length = 68 := by decide +kernel
theorem sg_all : Sg.cps.toList.all (fun c => decide (c < 128)) = true := by decide +kernel
theorem sg_at {i : Int} : ∃ c, atI Sg.cps.toList (i % (Sg.length : Int)) = some c ∧ c < 128 := by
  obtain ⟨j, ej, hj⟩ := emod_nat (i := i) (n := Sg.length) (by rw [sg_len]; decide)
  rw [ej, DL.atI_nat]
  have hj' : j < Sg.cps.toList.length := by
    have : Sg.cps.toList.length = Sg.length := by simp [Str.length]
    omega
  refine ⟨_, List.getElem?_eq_getElem hj', ?_⟩
  have := List.all_eq_true.mp sg_all _ (List.getElem_mem hj')
  simpa using this
theorem okS_of {w : Str} (h1 : w.length ≤ 1000) (h2 : (w.cps.all (· < 0x110000)) = true) : okS w := ⟨h1, h2⟩
theorem odd_at {c : Nat} (hc : c < 128) {i : Int} : ∃ w, atI (sd ["", "A", "abcdefghi", "a" ++ (⟨#[c]⟩ : Str) ++ "b", "z1", " a"]) (i % 6) = some (.str w) ∧ okS w := by
  obtain ⟨j, ej, hj⟩ := emod_nat (i := i) (n := 6) (by decide)
  have ej : i % 6 = (j : Int) := ej
  rw [ej, sd_at, DL.atI_nat]
  have hall : ∀ x, x ∈ (["", "A", "abcdefghi", "a" ++ (⟨#[c]⟩ : Str) ++ "b", "z1", " a"] : List Str) → okS x := by
    intro x hx
    simp only [List.mem_cons, List.not_mem_nil, or_false] at hx
    rcases hx with rfl | rfl | rfl | rfl | rfl | rfl
    · exact okS_of (by decide +kernel) (by decide +kernel)
    · exact okS_of (by decide +kernel) (by decide +kernel)
    · exact okS_of (by decide +kernel) (by decide +kernel)
    · refine okS_of ?_ ?_
      · rw [str_app_len, str_app_len]; exact (by decide +kernel : ("a" : Str).length + 1 + ("b" : Str).length ≤ 1000)
      · rw [← Array.all_toList, str_app_cps, str_app_cps, List.all_append, List.all_append]
        show (_ && ([c] : List Nat).all _ && _) = true
        rw [List.all_cons, List.all_nil, decide_eq_true (by omega : c < 0x110000)]
        decide +kernel
    · exact okS_of (by decide +kernel) (by decide +kernel)
    · exact okS_of (by decide +kernel) (by decide +kernel)
  refine ⟨_, congrArg (Option.map DV.str) (List.getElem?_eq_getElem (show j < ((["", "A", "abcdefghi", "a" ++ (⟨#[c]⟩ : Str) ++ "b", "z1", " a"] : List Str)).length from hj)), ?_⟩
  exact hall _ (List.getElem_mem _)
theorem Ok.one {w : Str} (h : okS w) : Ok [w] := ⟨by rw [List.length_singleton]; decide, fun x hx => by rw [List.mem_singleton.mp hx]; exact h⟩
theorem Ok.app {a b : List Str} (ha : Ok a) (hb : Ok b) (h : a.length + b.length ≤ 1000) : Ok (a ++ b) := ⟨by rw [List.length_append]; exact h, fun x hx => (List.mem_append.mp hx).elim (ha.w x) (hb.w x)⟩
theorem pure__law_lists_refused {K : PySem.W.Frag} {mg : Str → Option Value} {A : Ad} (T : Txt K mg A) : ∀ ds Ψ Ξ, S__law_lists_refused A ds Ψ Ξ → t__law_lists_refused K A (endsF Ψ Ξ) (stD N__law_lists_refused ds) := by
  rintro ds Ψ Ξ ⟨ns, l, rfl, hg, hl, l1, l2, k⟩
  have ho := hg.1
  have hz : ns.length ≤ 12 := (good_iff.mp hg.2).2.2
  obtain ⟨p0, e0, q0⟩ := pool_at hl (i := 0) (by omega)
  obtain ⟨p1, e1, q1⟩ := pool_at hl (i := 1) (by omega)
  obtain ⟨p2, e2, q2⟩ := pool_at hl (i := 2) (by omega)
  obtain ⟨p3, e3, q3⟩ := pool_at hl (i := 3) (by omega)
  obtain ⟨p4, e4, q4⟩ := pool_at hl (i := 4) (by omega)
  have a0 : atI l 0 = some p0 := by rw [atI_pos (by decide)]; exact e0
  have a1 : atI l 1 = some p1 := by rw [atI_pos (by decide)]; exact e1
  have a2 : atI l 2 = some p2 := by rw [atI_pos (by decide)]; exact e2
  have a3 : atI l 3 = some p3 := by rw [atI_pos (by decide)]; exact e3
  have a4 : atI l 4 = some p4 := by rw [atI_pos (by decide)]; exact e4
  show t__law_lists_refused K A _ [.sh (.lst (sd ns)), .sh (.lst (id' l)), .un, .un, .un, .un, .un, .un, .un]
  unfold t__law_lists_refused
  refine seq1 fun v hv => ?_
  simp! only
  rw [hv]; clear hv v
  refine seq1 fun v hv => ?_
  simp! only [a0, a4]
  obtain ⟨c, ec, hc⟩ := sg_at (i := p4)
  refine ⟨by decide +kernel, by decide +kernel, by decide +kernel, ?_⟩
  unfold Sg at ec
  rw [ec]
  obtain ⟨odd, eo, hodd⟩ := odd_at hc (i := p0)
  refine ⟨(by decide +kernel : ("a" : Str).length + 1 ≤ sizeLine), ?_, by decide, by decide, ?_⟩
  · rw [str_app_len]; exact (by decide +kernel : ("a" : Str).length + 1 + ("b" : Str).length ≤ sizeLine)
  have eo : atI [DV.str "", DV.str "A", DV.str "abcdefghi", DV.str ("a" ++ (⟨#[c]⟩ : Str) ++ "b"), DV.str "z1", DV.str " a"] (p0 % 6) = some (.str odd) := eo
  rw [eo]
  show v (endsF Ψ Ξ) _
  rw [hv]; clear hv v
  clear ec eo
  refine seq1 fun v hv => ?_
  simp! only
  rw [hv]; clear hv v
  refine seq1 fun v hv => ?_
  refine vfor (intDs 0 (13 + p1 % 3).toNat) (fun P h => ?_) (fun i ρ => ∃ ms x, ρ = [.sh (.lst (sd ns)), .sh (.lst (id' l)), .sh (.str Sg), .sh (.str odd), .ow (sd ms), x, .un, .un, .un] ∧ Ok ms ∧ ms.length ≤ 15) ⟨_, _, rfl, ho, by omega⟩ ?_ ?_
  · simp! only [a1]
    exact ⟨by decide, ⟨by omega, by omega⟩, h⟩
  · rintro i y ρ1 hy ⟨ms, x, rfl, hm, hml⟩
    obtain ⟨hi, rfl⟩ := intDs_get hy
    rw [Int.zero_add]
    simp! only [a1]
    refine ⟨by decide, ?_⟩
    by_cases h : (ms.length : Int) < 13 + p1 % 3
    · rw [if_pos h]
      refine ⟨ms, "k", rfl, by decide +kernel, by omega, fun w hw hn => ?_⟩
      refine ⟨by rw [q_ok1 rfl]; trivial, trivial, by omega, ms ++ [w], _, by rw [← sd_app]; rfl, ?_, ?_⟩
      · exact Ok.app hm (Ok.one (isN_ok hw)) (by rw [List.length_singleton]; omega)
      · rw [List.length_append, List.length_singleton]; omega
    · rw [if_neg h]
      exact ⟨ms, _, rfl, hm, hml⟩
  · rintro ρ1 ⟨ms, x, rfl, hm, hml⟩
    show v (endsF Ψ Ξ) _
    rw [hv]; clear hv v
    refine seq1 fun v hv => ?_
    unfold vFz
    simp! only [fz]
    refine vfor [.lst (sd ns), .lst (sd ms)] (fun P h => ?_) (fun i ρ => ∃ y z t, ρ = [.sh (.lst (sd ns)), .sh (.lst (id' l)), .sh (.str Sg), .sh (.str odd), .sh (.lst (sd ms)), x, y, z, t]) ⟨_, _, _, rfl⟩ ?_ ?_
    · simp! only
      exact ⟨by decide, h⟩
    · rintro i y ρ1 hy ⟨y1, y2, y3, rfl⟩
      obtain ⟨L, rfl, hL, hLl⟩ : ∃ L, y = .lst (sd L) ∧ Ok L ∧ L.length ≤ 15 := by
        match i, hy with
        | 0, hy => exact ⟨ns, (Option.some.inj hy).symm, ho, by omega⟩
        | 1, hy => exact ⟨ms, (Option.some.inj hy).symm, hm, hml⟩
        | i + 2, hy => cases hy
      clear hy
      obtain ⟨j, ej, hj⟩ := emod_nat (i := p2) (n := L.length + 1) (by omega)
      obtain ⟨j3, ej3, hj3⟩ := emod_nat (i := p3) (n := L.length + 1) (by omega)
      rw [Int.natCast_add] at ej ej3
      have ej : p2 % ((L.length : Int) + 1) = (j : Int) := ej
      have ej3 : p3 % ((L.length : Int) + 1) = (j3 : Int) := ej3
      have hj3' : j3 < (L ++ [odd]).length := by rw [List.length_append, List.length_singleton]; omega
      have hw8 : (L ++ [odd])[j3]? = some ((L ++ [odd])[j3]) := List.getElem?_eq_getElem hj3'
      have ok8 : okS ((L ++ [odd])[j3]) := (List.mem_append.mp (List.getElem_mem hj3')).elim (hL.w _) fun h => by rw [List.mem_singleton.mp h]; exact hodd
      generalize (L ++ [odd])[j3] = w8 at hw8 ok8
      have c1 : cut L Option.none (some 1) = L.take 1 := cut_toN (i := 1)
      have cj : cut L (some ((j : Int) + 1)) Option.none = L.drop (j + 1) := by rw [show ((j : Int) + 1) = ((j + 1 : Nat) : Int) by omega, cut_fromN]
      have ad : ∀ (a b : List Str), Ok a → Ok b → a.length ≤ 50 → b.length ≤ 50 → Ok (a ++ b) := fun a b ha hb h1 h2 => Ok.app ha hb (by omega)
      have o1 : Ok [odd] := Ok.one hodd
      have o8 : Ok [w8] := Ok.one ok8
      have z1 : ([odd] : List Str).length = 1 := rfl
      have z8 : ([w8] : List Str).length = 1 := rfl
      have zt : (L.take j).length ≤ 15 := by rw [List.length_take]; omega
      have zd : (L.drop j).length ≤ 15 := by rw [List.length_drop]; omega
      have zd1 : (L.drop (j + 1)).length ≤ 15 := by rw [List.length_drop]; omega
      have zt1 : (L.take 1).length ≤ 15 := by rw [List.length_take]; omega
      simp! only [a2, a3, ej, ej3, sd_one, c1, cj, hw8]
      refine ⟨by omega, by decide, sz1000 (by first | omega | (simp only [List.length_append, z1, z8]; omega)), by omega, _, rfl, hL, ?_⟩
      simp! only
      refine ⟨by decide, sz1000 (by first | omega | (simp only [List.length_append, z1, z8]; omega)), sz1000 (by first | omega | (simp only [List.length_append, z1, z8]; omega)), _, rfl, ad _ _ (ad _ _ (hL.take j) (o1) (by first | omega | (simp only [z1, z8]; omega)) (by first | omega | (simp only [z1, z8]; omega))) (hL.drop j) (by simp only [List.length_append, z1, z8]; omega) (by first | omega | (simp only [z1, z8]; omega)), ?_⟩
      simp! only
      refine ⟨sz1000 (by first | omega | (simp only [List.length_append, z1, z8]; omega)), by decide, sz1000 (by first | omega | (simp only [List.length_append, z1, z8]; omega)), _, rfl, ad _ _ (ad _ _ (hL) (hL.take 1) (by first | omega | (simp only [z1, z8]; omega)) (by first | omega | (simp only [z1, z8]; omega))) (o1) (by simp only [List.length_append, z1, z8]; omega) (by first | omega | (simp only [z1, z8]; omega)), ?_⟩
      simp! only
      refine ⟨by decide, sz1000 (by first | omega | (simp only [List.length_append, z1, z8]; omega)), sz1000 (by first | omega | (simp only [List.length_append, z1, z8]; omega)), _, rfl, ad _ _ (ad _ _ (o1) (hL) (by first | omega | (simp only [z1, z8]; omega)) (by first | omega | (simp only [z1, z8]; omega))) (hL.take 1) (by simp only [List.length_append, z1, z8]; omega) (by first | omega | (simp only [z1, z8]; omega)), ?_⟩
      simp! only
      refine ⟨by decide, sz1000 (by first | omega | (simp only [List.length_append, z1, z8]; omega)), sz1000 (by first | omega | (simp only [List.length_append, z1, z8]; omega)), _, rfl, ad _ _ (ad _ _ (hL.take j) (o8) (by first | omega | (simp only [z1, z8]; omega)) (by first | omega | (simp only [z1, z8]; omega))) (hL.drop j) (by simp only [List.length_append, z1, z8]; omega) (by first | omega | (simp only [z1, z8]; omega)), ?_⟩
      simp! only
      refine ⟨by decide, sz1000 (by first | omega | (simp only [List.length_append, z1, z8]; omega)), sz1000 (by first | omega | (simp only [List.length_append, z1, z8]; omega)), _, rfl, ad _ _ (ad _ _ (hL.take j) (o1) (by first | omega | (simp only [z1, z8]; omega)) (by first | omega | (simp only [z1, z8]; omega))) (hL.drop (j + 1)) (by simp only [List.length_append, z1, z8]; omega) (by first | omega | (simp only [z1, z8]; omega)), ?_⟩
      simp! only
      exact ⟨_, _, _, rfl⟩
    · rintro ρ1 ⟨y1, y2, y3, rfl⟩
      show v (endsF Ψ Ξ) _
      rw [hv]; clear hv v
      simp! only
      exact k
/-! ### the law -/
theorem len_law (A : Ad) : ∀ ds Ψ Ξ, S_law A ds Ψ Ξ → ds.length = 1 := by
  rintro ds Ψ Ξ ⟨ns, rfl, _⟩; rfl
theorem many_at {i : Int} : ∃ m : Nat, atI [DV.int 3, .int 4, .int 5, .int 2, .int 8, .int 6, .int 9, .int 10, .int 1, .int 7, .int 0, .int 12, .int 11] (i % 13) = some (.int (m : Nat)) ∧ m ≤ 12 := by
  obtain ⟨j, ej, hj⟩ := emod_nat (i := i) (n := 13) (by decide)
  have ej : i % 13 = (j : Int) := ej
  rw [ej, DL.atI_nat]
  match j, hj with
  | 0, _ => exact ⟨3, rfl, by decide⟩
  | 1, _ => exact ⟨4, rfl, by decide⟩
  | 2, _ => exact ⟨5, rfl, by decide⟩
  | 3, _ => exact ⟨2, rfl, by decide⟩
  | 4, _ => exact ⟨8, rfl, by decide⟩
  | 5, _ => exact ⟨6, rfl, by decide⟩
  | 6, _ => exact ⟨9, rfl, by decide⟩
  | 7, _ => exact ⟨10, rfl, by decide⟩
  | 8, _ => exact ⟨1, rfl, by decide⟩
  | 9, _ => exact ⟨7, rfl, by decide⟩
  | 10, _ => exact ⟨0, rfl, by decide⟩
  | 11, _ => exact ⟨12, rfl, by decide⟩
  | 12, _ => exact ⟨11, rfl, by decide⟩
  | j + 13, h => omega
theorem noLL_sd {ms : List Str} : noLL (sd ms) = true := by
  induction ms with
  | nil => rfl
  | cons a l ih =>
    show (noL (.str a) && noLL (sd l)) = true
    rw [ih]; rfl
theorem noL_ring {C : Addr} {ms : List Str} : noL (.obj C [("names", .tup true (sd ms))]) = true := by
  show (noL (.tup true (sd ms)) && true) = true
  rw [show noL (.tup true (sd ms)) = noLL (sd ms) from rfl, noLL_sd]
  rfl
theorem back_back {ns : List Str} : back (back ns) = ns := by
  cases ns with
  | nil => rfl
  | cons a l =>
    show [a] ++ (([a] ++ l.reverse).drop 1).reverse = a :: l
    show a :: (l.reverse).reverse = a :: l
    rw [List.reverse_reverse]
theorem swap_perm {ms : List Str} : ((ms.drop 1).take 1 ++ ms.take 1 ++ ms.drop 2).Perm ms := by
  match ms with
  | [] => exact List.Perm.refl _
  | [a] => exact List.Perm.refl _
  | a :: b :: r => exact List.Perm.swap a b r
theorem good_drop {ms : List Str} (h : Good ms) (k : Nat) : Good (ms.drop k) := by
  obtain ⟨h1, h2, h3⟩ := good_iff.mp h.2
  exact good_of (fun w hw => h1 w (List.mem_of_mem_drop hw)) (h2.sublist (List.drop_sublist k ms)) (by rw [List.length_drop]; omega)
theorem good_snoc {ms : List Str} {w : Str} (h : Good ms) (hw : isN w = true) (hn : w ∉ ms) (hl : ms.length < 12) : Good (ms ++ [w]) := by
  obtain ⟨h1, h2, h3⟩ := good_iff.mp h.2
  refine good_of (fun z hz => ?_) ?_ (by rw [List.length_append, List.length_singleton]; omega)
  · rcases List.mem_append.mp hz with h | h
    · exact h1 z h
    · rw [List.mem_singleton.mp h]; exact hw
  · refine List.nodup_append.mpr ⟨h2, List.nodup_cons.mpr ⟨by simp, List.nodup_nil⟩, fun x hx y hy e => ?_⟩
    rw [List.mem_singleton.mp hy] at e
    exact hn (e ▸ hx)
def pick (ms : List Str) (st : Str) (o : List Int) (i : Int) : Str := match atI o (2 + i) with
  | some y => ((ms ++ [st])[(y % ((ms.length + 1 : Nat) : Int)).toNat]?).getD ""
  | _ => ""
theorem okE : okS "" := by unfold okS; decide +kernel
theorem pick_ok {ms : List Str} {st : Str} {o : List Int} {i : Int} (h : Ok (ms ++ [st])) : okS (pick ms st o i) := by
  unfold pick
  split
  · rename_i y _
    cases q : (ms ++ [st])[(y % ((ms.length + 1 : Nat) : Int)).toNat]? with
    | none => exact okE
    | some w => exact h.w w (List.mem_of_getElem? q)
  · exact okE
theorem is27_drop {l : List Int} (h : is27 l) (k : Nat) : is27 (l.drop k) := fun x hx => h x (List.mem_of_mem_drop hx)
theorem pure_law {K : PySem.W.Frag} {mg : Str → Option Value} {A : Ad} (T : Txt K mg A) : ∀ ds Ψ Ξ, S_law A ds Ψ Ξ → t_law K A (endsF Ψ Ξ) (stD N_law ds) := by
  rintro ds Ψ Ξ ⟨sc, rfl, hsc, k⟩
  show t_law K A _ [.sh (.scr sc), .un, .un, .un, .un, .un, .un, .un, .un, .un, .un, .un, .un]
  unfold t_law
  refine seq1 fun v hv => ?_
  simp! only
  refine ⟨sc, 0, rfl, by decide, by decide, hsc, fun l l1 hl => ?_⟩
  simp! only
  rw [hv]; clear hv v
  refine seq1 fun v hv => ?_
  simp! only
  refine ⟨sc, 1, rfl, by decide, by decide, hsc, fun o o1 hol => ?_⟩
  simp! only
  rw [hv]; clear hv v
  refine seq1 fun v hv => ?_
  simp! only
  refine ⟨by decide, ?_⟩
  rw [hv]; clear hv v
  obtain ⟨p0, e0, q0⟩ := pool_at hl (i := 0) (by omega)
  have a0 : atI l 0 = some p0 := by rw [atI_pos (by decide)]; exact e0
  obtain ⟨m, em, hm⟩ := many_at (i := p0)
  refine seq1 fun v hv => ?_
  refine vfor (intDs 0 m) (fun P h => ?_) (fun i ρ => ∃ ms x, ρ = [.sh (.scr sc), .sh (.lst (id' l)), .sh (.lst (id' o)), .ow (sd ms), x, .un, .un, .un, .un, .un, .un, .un, .un] ∧ (∀ w, w ∈ ms → isN w = true) ∧ ms.Nodup ∧ ms.length = i) ⟨[], _, rfl, fun w h => by simp at h, List.nodup_nil, rfl⟩ ?_ ?_
  · simp! only [a0, em]
    exact ⟨by decide, by decide, ⟨by omega, by omega⟩, by rw [Int.toNat_natCast]; exact h⟩
  · rintro i y ρ1 hy ⟨ms, x, rfl, n1, n2, n3⟩
    obtain ⟨hi, rfl⟩ := intDs_get hy
    rw [Int.zero_add]
    simp! only
    refine ⟨cmul_l (by decide) (by decide), l, 1 + 3 * (i : Int), rfl, hl, by omega, by omega, by omega, fun w hw => ?_⟩
    refine ⟨True.intro, ms, w, rfl, hw, by omega, fun w' hw' hn' => ?_⟩
    refine ⟨by rw [q_ok1 rfl]; trivial, trivial, by omega, ms ++ [w'], _, by rw [← sd_app]; rfl, ?_, ?_, ?_⟩
    · intro z hz
      rcases List.mem_append.mp hz with h | h
      · exact n1 z h
      · rw [List.mem_singleton.mp h]; exact hw'
    · refine List.nodup_append.mpr ⟨n2, List.nodup_cons.mpr ⟨by simp, List.nodup_nil⟩, fun x hx y hy e => ?_⟩
      rw [List.mem_singleton.mp hy] at e
      exact hn' (e ▸ hx)
    · rw [List.length_append, List.length_singleton, n3]
  · rintro ρ1 ⟨ms, x, rfl, n1, n2, n3⟩
    rw [intDs_len] at n3
    have hg : Good ms := good_of n1 n2 (by omega)
    show v (endsF Ψ Ξ) _
    rw [hv]; clear hv v
    refine seq1 fun v hv => ?_
    simp! only [vFz, fz]
    rw [hv]; clear hv v
    refine seq1 fun v hv => ?_
    simp! only
    refine mk_ok (.inl rfl) hg ?_
    refine ⟨by rw [q_ok1 noL_ring]; trivial, ?_⟩
    show v (endsF Ψ Ξ) _
    rw [hv]; clear hv v
    refine seq1 fun v hv => ?_
    have zm : ms.length ≤ 12 := by omega
    have ho := hg.1
    simp! only
    refine ⟨by omega, ?_⟩
    rw [hv]; clear hv v
    refine seq1 fun v hv => ?_
    simp! only [vFz, fz]
    refine ⟨l, 45, rfl, hl, by omega, by omega, by omega, fun w hw => ?_⟩
    simp! only
    refine ⟨ms, w, rfl, hw, by omega, fun st hst hsn => ?_⟩
    simp! only
    rw [hv]; clear hv v
    refine seq1 fun v hv => ?_
    simp! only
    refine ⟨ms, ms, rfl, ho, ho, ?_⟩
    simp! only
    refine ⟨⟨_, rfl⟩, ms, rfl, hg, ?_⟩
    refine ⟨ms, rfl, ho, ?_⟩
    refine ⟨⟨trivial, trivial⟩, back ms, back ms, rfl, (good_back hg).1, (good_back hg).1, ?_⟩
    refine ⟨by rw [q_ok1 rfl]; trivial, ?_⟩
    simp! only
    rw [hv]; clear hv v
    refine seq1 fun v hv => ?_
    simp! only
    refine ⟨⟨_, rfl⟩, ms, rfl, hg, ?_⟩
    simp! only
    refine ⟨⟨_, rfl⟩, back ms, rfl, good_back hg, ?_⟩
    rw [back_back]
    simp! only
    refine ⟨ms, ms, rfl, ho, ho, ?_⟩
    simp! only
    refine mk_ok (.inr rfl) hg ?_
    refine ⟨ms, ms, rfl, ho, ho, ?_⟩
    simp! only
    rw [hv]; clear hv v
    refine seq1 fun v hv => ?_
    unfold vFor
    simp! only
    refine ⟨l, 37, rfl, hl, by omega, by omega, by omega, fun wa => ?_⟩
    simp! only
    refine ⟨l, 41, rfl, hl, by omega, by omega, by omega, fun wb => ?_⟩
    simp! only
    refine ⟨by decide, fun (i : Nat) ρ => ∃ z, ρ = [.sh (.scr sc), .sh (.lst (id' l)), .sh (.lst (id' o)), .sh (.lst (sd ms)), x, .sh (.lst (sd ms ++ [.str "q"])), .sh (RD A ms), .sh (.str st), z, .un, .un, .un, .un], ⟨_, rfl⟩, ?_, ?_⟩
    · rintro i y ρ1 hy ⟨z, rfl⟩
      obtain ⟨pl, rfl⟩ : ∃ pl, y = .int pl := by
        match i, hy with
        | 0, hy => exact ⟨_, (Option.some.inj hy).symm⟩
        | 1, hy => exact ⟨_, (Option.some.inj hy).symm⟩
        | 2, hy => exact ⟨_, (Option.some.inj hy).symm⟩
        | 3, hy => exact ⟨_, (Option.some.inj hy).symm⟩
        | i + 4, hy => cases hy
      simp! only
      refine ⟨ms, pl, rfl, hg, ?_⟩
      simp! only
      exact ⟨_, rfl⟩
    rintro ρ1 ⟨z, rfl⟩
    show v (endsF Ψ Ξ) _
    rw [hv]; clear hv v
    refine seq1 fun v hv => ?_
    obtain ⟨p0', e0', q0'⟩ := pool_at hol (i := 0) (by omega)
    obtain ⟨p1', e1', q1'⟩ := pool_at hol (i := 1) (by omega)
    have b0 : atI o 0 = some p0' := by rw [atI_pos (by decide)]; exact e0'
    have b1 : atI o 1 = some p1' := by rw [atI_pos (by decide)]; exact e1'
    simp! only [b0, b1]
    refine ⟨cmul_r (by decide) (by decide), ms, _, rfl, by omega, fun mx hmx => ?_⟩
    simp! only
    rw [hv]; clear hv v
    refine seq1 fun v hv => ?_
    simp! only
    refine ⟨ms, mx, rfl, hg, good_perm hg hmx, ?_⟩
    simp! only
    refine ⟨ms, ms.reverse, rfl, hg, good_perm hg (List.reverse_perm ms), ?_⟩
    simp! only
    rw [hv]; clear hv v
    refine seq1 fun v hv => ?_
    have c1 : cut ms (some 1) Option.none = ms.drop 1 := cut_fromN (i := 1)
    have c2 : cut ms (some 2) Option.none = ms.drop 2 := cut_fromN (i := 2)
    have c3 : cut ms Option.none (some 1) = ms.take 1 := cut_toN (i := 1)
    have c4 : cut ms (some 1) (some 2) = (ms.drop 1).take 1 := cut_mid (by decide) (by decide)
    simp! only [c1, sd_one]
    refine ⟨ms, ms.drop 1, rfl, hg, good_drop hg 1, ?_⟩
    have z1 : (ms.drop 1).length ≤ 11 := by rw [List.length_drop]; omega
    simp! only
    refine ⟨by decide, sz1000 (by omega), ms, ms.drop 1 ++ [st], rfl, hg, good_snoc (good_drop hg 1) hst (fun h => hsn (List.mem_of_mem_drop h)) (by omega), ?_⟩
    simp! only
    rw [hv]; clear hv v
    refine seq1 fun v hv => ?_
    simp! only [c2, c3, c4]
    have z2 : ((ms.drop 1).take 1).length ≤ 1 := by rw [List.length_take]; omega
    have z3 : (ms.take 1).length ≤ 1 := by rw [List.length_take]; omega
    have z4 : (ms.drop 2).length ≤ 12 := by rw [List.length_drop]; omega
    refine ⟨sz1000 (by omega), sz1000 (by rw [List.length_append]; omega), ms, _, rfl, hg, good_perm hg swap_perm, ?_⟩
    simp! only
    rw [hv]; clear hv v
    refine seq1 fun v hv => ?_
    refine vfor (sd (ms ++ [st, ("" : Str)])) (fun P h => ?_) (fun (i : Nat) ρ => ∃ nm, ρ = [.sh (.scr sc), .sh (.lst (id' l)), .sh (.lst (id' o)), .sh (.lst (sd ms)), x, .sh (.lst (sd (ms ++ [("q" : Str)]))), .sh (RD A ms), .sh (.str st), z, .sh (.lst (sd mx)), nm, .un, .un]) ⟨_, rfl⟩ ?_ ?_
    · simp! only
      exact ⟨by decide, sz1000 (by omega), by rw [show sd ms ++ [DV.str st, DV.str ""] = sd (ms ++ [st, ("" : Str)]) from sd_app (ns := ms) (ms := [st, ("" : Str)])]; exact h⟩
    · rintro i y ρ1 hy ⟨nm, rfl⟩
      obtain ⟨w, hw, rfl⟩ := List.mem_map.mp (List.mem_of_getElem? hy)
      simp! only
      refine ⟨ms, w, rfl, hg, ?_⟩
      simp! only
      exact ⟨_, rfl⟩
    rintro ρ1 ⟨nm, rfl⟩
    show v (endsF Ψ Ξ) _
    rw [hv]; clear hv v
    refine seq1 fun v hv => ?_
    simp! only [sd_one]
    refine ⟨by decide, sz1000 (by omega), ?_⟩
    rw [hv]; clear hv v
    refine seq1 fun v hv => ?_
    have okk : Ok (ms ++ [st]) := Ok.app ho (Ok.one (isN_ok hst)) (by rw [List.length_singleton]; omega)
    unfold vAsgS
    refine vlc_map (intDs 0 4) (fun P h => by simp! only; exact ⟨by decide, h⟩) (fun d => match d with
      | .int i => .str (pick ms st o i)
      | _ => .non) (by decide) (fun d hd => ?_) ?_
    · obtain ⟨j, hj, rfl⟩ := int_mem hd
      rw [Int.zero_add]
      obtain ⟨y, ey, y1, y2⟩ := at27 (l := o) (i := 2 + (j : Int)) (by omega) (by omega) hol
      have lk : (ms ++ [st]).length = ms.length + 1 := by rw [List.length_append, List.length_singleton]
      obtain ⟨jj, ejj, hjj⟩ := emod_nat (i := y) (n := ms.length + 1) (by omega)
      have hjk : jj < (ms ++ [st]).length := by omega
      simp! only [ey, lk, ejj, List.getElem?_eq_getElem hjk]
      refine ⟨by omega, ?_⟩
      unfold pick
      rw [ey]
      show _ = DV.str (((ms ++ [st])[(y % ((ms.length + 1 : Nat) : Int)).toNat]?).getD "")
      rw [ejj, Int.toNat_natCast, List.getElem?_eq_getElem hjk]
      rfl
    refine ⟨trivial, ?_⟩
    rw [map_int (c := .str) (g := fun j => pick ms st o (j : Int)) fun j _ => rfl]
    have ok4 : Ok ((List.range 4).map fun j : Nat => pick ms st o (j : Int)) := ⟨by rw [List.length_map]; decide, fun w hw => by
      obtain ⟨j, _, rfl⟩ := List.mem_map.mp hw
      exact pick_ok okk⟩
    have l4 : ((List.range 4).map fun j : Nat => pick ms st o (j : Int)).length = 4 := by rw [List.length_map]; rfl
    generalize ((List.range 4).map fun j : Nat => pick ms st o (j : Int)) = four at ok4 l4
    show v (endsF Ψ Ξ) [.sh (.scr sc), .sh (.lst (id' l)), .sh (.lst (id' o)), .sh (.lst (sd ms)), x, .sh (.lst (sd (ms ++ [("q" : Str)]))), .sh (RD A ms), .sh (.str st), z, .sh (.lst (sd mx)), nm, .sh (.lst (sd (ms ++ [st]))), .sh (.lst (sd four))]
    have t4 : ∀ q : List Str, cut q Option.none (some 4) = q.take 4 := fun q => cut_toN (i := 4)
    have t6 : cut o (some 6) Option.none = o.drop 6 := cut_fromN (i := 6)
    have zx : mx.length = ms.length := hmx.length_eq
    have okx : Ok mx := ho.perm hmx
    have okt : ∀ q : List Str, Ok q → q.length ≤ 12 → Ok ((q ++ four).take 4) ∧ ((q ++ four).take 4).length = 4 := fun q hq hl => ⟨(Ok.app hq ok4 (by omega)).take 4, by rw [List.length_take, List.length_append]; omega⟩
    rw [hv]; clear hv v
    refine seq1 fun v hv => ?_
    simp! only [t4]
    refine ⟨ms, four, rfl, hg, ok4, l4, ?_⟩
    simp! only [t4]
    refine ⟨sz1000 (by omega), ms, _, rfl, hg, (okt mx okx (by omega)).1, (okt mx okx (by omega)).2, ?_⟩
    simp! only
    rw [hv]; clear hv v
    refine seq1 fun v hv => ?_
    simp! only [t4, t6]
    refine ⟨sz1000 (by omega), ms, _, rfl, hg, (okt ms ho (by omega)).1, (okt ms ho (by omega)).2, ?_⟩
    simp! only [t6]
    refine ⟨ms, o.drop 6, rfl, hg, is27_drop hol 6, by rw [List.length_drop]; omega, by rw [List.length_drop]; omega, ?_⟩
    simp! only
    rw [hv]; clear hv v
    simp! only
    refine ⟨ms, ms, rfl, ho, ho, ?_⟩
    simp! only
    refine ⟨l, 41, rfl, hl, by omega, by omega, by omega, fun wc => ?_⟩
    simp! only
    refine ⟨ms, wc, rfl, hg, ?_⟩
    exact k
end K09
/-! K09: the derivations. Printed by gen.py. -/
namespace K09
open PySem L2 DL PySem.Spec
open PyProof.Rows (envOfC)
section
variable {P : Program} {w : World} {K : PySem.W.Frag} {mg : Str → Option Value} {base : Heap} {A : Ad}
theorem _root_.DL.FnIt.mono {P : Program} {w : World} {K : PySem.W.Frag} {mg : Str → Option Value} {base : Heap} {j k : Nat} {f C : Addr} {fd : FuncData} {F : Str} (h : FnIt P w K mg base j f fd C F) (e : j ≤ k) : FnIt P w K mg base k f fd C F := ⟨fun A outer s H a dx t fs zs r => h.run A outer s H a dx t fs zs (r.mono e)⟩
theorem ok_UnknownColumn_init (T : Txt K mg A) : FnE P w K mg base 1 A.f_UnknownColumn_init A.fd_UnknownColumn_init ["self", "name"] A.c_UnknownColumn ["name"] := err1 T.F_UnknownColumn_init sc_UnknownColumn_init rfl T.ox_UnknownColumn T.en_UnknownColumn_name fun cdv A' outer s H E => (pss_one (ps_ost (pv 0) (pv 1)))
theorem ok_BadRound_init (T : Txt K mg A) : FnE P w K mg base 1 A.f_BadRound_init A.fd_BadRound_init ["self", "index"] A.c_BadRound ["index"] := err1 T.F_BadRound_init sc_BadRound_init rfl T.ox_BadRound T.en_BadRound_index fun cdv A' outer s H E => (pss_one (ps_ost (pv 0) (pv 1)))
theorem ok_BadNumber_init (T : Txt K mg A) : FnE P w K mg base 1 A.f_BadNumber_init A.fd_BadNumber_init ["self", "number"] A.c_BadNumber ["number"] := err1 T.F_BadNumber_init sc_BadNumber_init rfl T.ox_BadNumber T.en_BadNumber_number fun cdv A' outer s H E => (pss_one (ps_ost (pv 0) (pv 1)))
theorem ok_SameColumn_init (T : Txt K mg A) : FnE P w K mg base 1 A.f_SameColumn_init A.fd_SameColumn_init ["self", "name"] A.c_SameColumn ["name"] := err1 T.F_SameColumn_init sc_SameColumn_init rfl T.ox_SameColumn T.en_SameColumn_name fun cdv A' outer s H E => (pss_one (ps_ost (pv 0) (pv 1)))
set_option maxHeartbeats 8000000 in
theorem ok_is_name (T : Txt K mg A) : FnD P w K mg base 2 A.f_is_name A.fd_is_name ["text"] (S_is_name A) := by
  refine fnD (k := 1) (t := t_is_name K A) T.F_is_name sc_is_name (len_is_name A) (fun cdv A' outer s H E hr => ?_) (pure_is_name T)
  have tk := takes_of (X := cxOf (L2.CX P w) P w K mg base N_is_name "is_name" (defScope s_is_name) A.f_is_name cdv A' outer s H E) rfl rfl rfl rfl
  unfold t_is_name
  exact (dss_cons (ds_if (dt_not (dt_chn op_le (oA_I0 fun _ _ => .bl _) op_le (oA_I0 fun _ _ => .bl _) de_int (de_len T.b_len (da_cons (de_var (pv 0)) da_nil)) (de_gint T.g_LONGEST_NAME))) (dss_one (ds_ret de_bl)) dss_nil)
      (dss_one (ds_ret (de_all rfl T.b_all (da_cons (de_lc (own := [("letter", 1)]) (i := 1) rfl sc_is_name.nd (di_str (de_var (pv 0))) (by show blkC N_is_name (defScope s_is_name) _ _ = true; decide +kernel) (fun _ _ _ _ _ => pg_name (i := 1) sc_is_name.nd rfl (Or.inl rfl)) (fun _ _ _ _ _ => dts_nil) (fun _ _ _ _ _ => (de_in (de_var (pv 1)) (de_gstr T.g_LETTERS)))) da_nil)))))
set_option maxHeartbeats 8000000 in
theorem ok_check_known (T : Txt K mg A) : FnD P w K mg base 3 A.f_check_known A.fd_check_known ["columns", "names"] (S_check_known A) := by
  refine fnD (k := 2) (t := t_check_known K A) T.F_check_known sc_check_known (len_check_known A) (fun cdv A' outer s H E hr => ?_) (pure_check_known T)
  have tk := takes_of (X := cxOf (L2.CX P w) P w K mg base N_check_known "check_known" (defScope s_check_known) A.f_check_known cdv A' outer s H E) rfl rfl rfl rfl
  unfold t_check_known
  exact (dss_one (ds_for (passes_of rfl) rfl (di_seq (de_var (pv 1))) (dg_name sc_check_known.nd (i := 2) rfl (Or.inl rfl) (Or.inl rfl)) (dss_one (ds_if (dt_nin (de_var (pv 2)) (de_var (pv 0))) (dss_one (ds_raise rfl tk T.ox_UnknownColumn T.ei_UnknownColumn T.et_UnknownColumn (ok_UnknownColumn_init T) (hr.mono (by decide)) T.B_UnknownColumn_init T.m_UnknownColumn (da_cons (de_var (pv 2)) da_nil))) dss_nil))))
set_option maxHeartbeats 8000000 in
theorem ok_check_different (T : Txt K mg A) : FnD P w K mg base 4 A.f_check_different A.fd_check_different ["known", "names"] (S_check_different A) := by
  refine fnD (k := 3) (t := t_check_different K A) T.F_check_different sc_check_different (len_check_different A) (fun cdv A' outer s H E hr => ?_) (pure_check_different T)
  have tk := takes_of (X := cxOf (L2.CX P w) P w K mg base N_check_different "check_different" (defScope s_check_different) A.f_check_different cdv A' outer s H E) rfl rfl rfl rfl
  unfold t_check_different
  exact (dss_cons (ds_expr (de_call (ok_check_known T) (hr.mono (by decide)) T.m_check_known T.k_check_known T.B_check_known tk (da_cons (de_var (pv 0)) (da_cons (de_var (pv 1)) da_nil))))
      (dss_one (ds_for (passes_of rfl) rfl (di_enum rfl T.b_enumerate (da_cons (de_var (pv 1)) da_nil)) (dg_tup rfl (dgs_cons (dg_name sc_check_different.nd (i := 2) rfl (Or.inl rfl) (Or.inl rfl)) (dgs_cons (dg_name sc_check_different.nd (i := 3) rfl (Or.inl rfl) (Or.inl rfl)) dgs_nil))) (dss_one (ds_if (dt_in (de_var (pv 3)) (de_slice (de_var (pv 1)) do_none (do_some (de_var (pv 2))))) (dss_one (ds_raise rfl tk T.ox_SameColumn T.ei_SameColumn T.et_SameColumn (ok_SameColumn_init T) (hr.mono (by decide)) T.B_SameColumn_init T.m_SameColumn (da_cons (de_var (pv 3)) da_nil))) dss_nil)))))
set_option maxHeartbeats 8000000 in
theorem ok_Round_init (T : Txt K mg A) : FnI P w K mg base 3 A.f_Round_init A.fd_Round_init ["self", "names"] A.c_Round (S_Round_init A) := by
  refine initD (k := 2) (t := t_Round_init K A) T.F_Round_init sc_Round_init (by decide) (len_Round_init A) (fun cdv A' outer s H E hr => ?_) (pure_Round_init T)
  have tk := takes_of (X := cxOf (L2.CX P w) P w K mg base N_Round_init "Round.__init__" (defScope s_Round_init) A.f_Round_init cdv A' outer s H E) rfl rfl rfl rfl
  unfold t_Round_init
  exact (dss_cons (ds_for (passes_of rfl) rfl (di_enum rfl T.b_enumerate (da_cons (de_var (pv 1)) da_nil)) (dg_tup rfl (dgs_cons (dg_name sc_Round_init.nd (i := 2) rfl (Or.inl rfl) (Or.inl rfl)) (dgs_cons (dg_name sc_Round_init.nd (i := 3) rfl (Or.inl rfl) (Or.inl rfl)) dgs_nil))) (dss_one (ds_if (dt_pw (dw_or (dt_not (dt_truth (de_call (ok_is_name T) (hr.mono (by decide)) T.m_is_name T.k_is_name T.B_is_name tk (da_cons (de_var (pv 3)) da_nil)))) (dw_or1 (dt_in (de_var (pv 3)) (de_slice (de_var (pv 1)) do_none (do_some (de_var (pv 2)))))))) (dss_one (ds_raise rfl tk T.ox_BadRound T.ei_BadRound T.et_BadRound (ok_BadRound_init T) (hr.mono (by decide)) T.B_BadRound_init T.m_BadRound (da_cons (de_var (pv 2)) da_nil))) dss_nil)))
      (dss_cons (ds_if (dt_gt (de_len T.b_len (da_cons (de_var (pv 1)) da_nil)) (de_gint T.g_MOST_NAMES)) (dss_one (ds_raise rfl tk T.ox_BadRound T.ei_BadRound T.et_BadRound (ok_BadRound_init T) (hr.mono (by decide)) T.B_BadRound_init T.m_BadRound (da_cons (de_gint T.g_MOST_NAMES) da_nil))) dss_nil)
      (dss_one (ds_self (Cs := [A.c_Round]) (pv 0) (de_tuple T.b_tuple (da_cons (de_var (pv 1)) da_nil)) (fun _ h => by rw [List.mem_singleton.mp h]; exact ⟨T.cl_Round, T.na_Round_names⟩)))))
set_option maxHeartbeats 8000000 in
theorem ok_Round_len (T : Txt K mg A) : FnD P w K mg base 2 A.f_Round_len A.fd_Round_len ["self"] (S_Round_len A) := by
  refine fnD (k := 1) (t := t_Round_len K A) T.F_Round_len sc_Round_len (len_Round_len A) (fun cdv A' outer s H E hr => ?_) (pure_Round_len T)
  have tk := takes_of (X := cxOf (L2.CX P w) P w K mg base N_Round_len "Round.__len__" (defScope s_Round_len) A.f_Round_len cdv A' outer s H E) rfl rfl rfl rfl
  unfold t_Round_len
  exact (dss_one (ds_ret (de_len T.b_len (da_cons (de_fldC (de_var (pv 0)) (fun _ h => by rw [List.mem_singleton.mp h]; exact ⟨T.cl_Round, T.na_Round_names⟩)) da_nil))))
theorem it_Round_iter (T : Txt K mg A) : FnIt P w K mg base 2 A.f_Round_iter A.fd_Round_iter A.c_Round "names" := it_of T.F_Round_iter sc_Round_iter T.cl_Round T.na_Round_names T.B_Round_iter fun cdv A' outer s H E => pss_one (ps_ret (pe_callB call_iterT rfl T.b_iter bo_iter (pa_cons (pe_fld (pv 0) rfl) pa_nil)))
set_option maxHeartbeats 8000000 in
theorem ok_Round_contains (T : Txt K mg A) : FnD P w K mg base 2 A.f_Round_contains A.fd_Round_contains ["self", "name"] (S_Round_contains A) := by
  refine fnD (k := 1) (t := t_Round_contains K A) T.F_Round_contains sc_Round_contains (len_Round_contains A) (fun cdv A' outer s H E hr => ?_) (pure_Round_contains T)
  have tk := takes_of (X := cxOf (L2.CX P w) P w K mg base N_Round_contains "Round.__contains__" (defScope s_Round_contains) A.f_Round_contains cdv A' outer s H E) rfl rfl rfl rfl
  unfold t_Round_contains
  exact (dss_one (ds_ret (de_in (de_var (pv 1)) (de_fldC (de_var (pv 0)) (fun _ h => by rw [List.mem_singleton.mp h]; exact ⟨T.cl_Round, T.na_Round_names⟩)))))
set_option maxHeartbeats 8000000 in
theorem ok_Round_getitem (T : Txt K mg A) : FnD P w K mg base 3 A.f_Round_getitem A.fd_Round_getitem ["self", "places"] (S_Round_getitem A) := by
  refine fnD (k := 2) (t := t_Round_getitem K A) T.F_Round_getitem sc_Round_getitem (len_Round_getitem A) (fun cdv A' outer s H E hr => ?_) (pure_Round_getitem T)
  have tk := takes_of (X := cxOf (L2.CX P w) P w K mg base N_Round_getitem "Round.__getitem__" (defScope s_Round_getitem) A.f_Round_getitem cdv A' outer s H E) rfl rfl rfl rfl
  unfold t_Round_getitem
  exact (dss_cons (ds_if (dt_not (dt_truth (de_fldC (de_var (pv 0)) (fun _ h => by rw [List.mem_singleton.mp h]; exact ⟨T.cl_Round, T.na_Round_names⟩)))) (dss_one (ds_raise rfl tk T.ox_BadNumber T.ei_BadNumber T.et_BadNumber (ok_BadNumber_init T) (hr.mono (by decide)) T.B_BadNumber_init T.m_BadNumber (da_cons (de_var (pv 1)) da_nil))) dss_nil)
      (dss_one (ds_ret (de_ixc (de_fldC (de_var (pv 0)) (fun _ h => by rw [List.mem_singleton.mp h]; exact ⟨T.cl_Round, T.na_Round_names⟩)) (de_mod (de_var (pv 1)) (de_len T.b_len (da_cons (de_fldC (de_var (pv 0)) (fun _ h => by rw [List.mem_singleton.mp h]; exact ⟨T.cl_Round, T.na_Round_names⟩)) da_nil)))))))
set_option maxHeartbeats 8000000 in
theorem ok_Round_lshift (T : Txt K mg A) : FnD P w K mg base 5 A.f_Round_lshift A.fd_Round_lshift ["self", "places"] (S_Round_lshift A) := by
  refine fnD (k := 4) (t := t_Round_lshift K A) T.F_Round_lshift sc_Round_lshift (len_Round_lshift A) (fun cdv A' outer s H E hr => ?_) (pure_Round_lshift T)
  have tk := takes_of (X := cxOf (L2.CX P w) P w K mg base N_Round_lshift "Round.__lshift__" (defScope s_Round_lshift) A.f_Round_lshift cdv A' outer s H E) rfl rfl rfl rfl
  unfold t_Round_lshift
  exact (dss_cons (ds_if (dt_not (dt_truth (de_fldC (de_var (pv 0)) (fun _ h => by rw [List.mem_singleton.mp h]; exact ⟨T.cl_Round, T.na_Round_names⟩)))) (dss_one (ds_ret (de_make T.mk_Round (ok_Round_init T) (hr.mono (by decide)) T.m_Round T.B_Round_init tk (da_cons (de_tup da_nil) da_nil)))) dss_nil)
      (dss_cons (ds_setS (i := 2) sc_Round_lshift.nd rfl (Or.inl rfl) (de_mod (de_var (pv 1)) (de_len T.b_len (da_cons (de_fldC (de_var (pv 0)) (fun _ h => by rw [List.mem_singleton.mp h]; exact ⟨T.cl_Round, T.na_Round_names⟩)) da_nil))))
      (dss_one (ds_ret (de_make T.mk_Round (ok_Round_init T) (hr.mono (by decide)) T.m_Round T.B_Round_init tk (da_cons (de_add (de_slice (de_fldC (de_var (pv 0)) (fun _ h => by rw [List.mem_singleton.mp h]; exact ⟨T.cl_Round, T.na_Round_names⟩)) (do_some (de_var (pv 2))) do_none) (de_slice (de_fldC (de_var (pv 0)) (fun _ h => by rw [List.mem_singleton.mp h]; exact ⟨T.cl_Round, T.na_Round_names⟩)) do_none (do_some (de_var (pv 2))))) da_nil))))))
set_option maxHeartbeats 8000000 in
theorem ok_Round_rshift (T : Txt K mg A) : FnD P w K mg base 6 A.f_Round_rshift A.fd_Round_rshift ["self", "places"] (S_Round_rshift A) := by
  refine fnD (k := 5) (t := t_Round_rshift K A) T.F_Round_rshift sc_Round_rshift (len_Round_rshift A) (fun cdv A' outer s H E hr => ?_) (pure_Round_rshift T)
  have tk := takes_of (X := cxOf (L2.CX P w) P w K mg base N_Round_rshift "Round.__rshift__" (defScope s_Round_rshift) A.f_Round_rshift cdv A' outer s H E) rfl rfl rfl rfl
  unfold t_Round_rshift
  exact (dss_one (ds_ret (de_dunI (op := .LShift) (op_dunI T.d_Round_lshift (ok_Round_lshift T) (hr.mono (by decide)) T.B_Round_lshift T.sf_Round T.rr_Round_lshift (.inl rfl) T.if_lshift T.ir_lshift T.us_Round) (de_var (pv 0)) (de_sub de_int (de_var (pv 1))))))
set_option maxHeartbeats 8000000 in
theorem ok_Round_invert (T : Txt K mg A) : FnD P w K mg base 5 A.f_Round_invert A.fd_Round_invert ["self"] (S_Round_invert A) := by
  refine fnD (k := 4) (t := t_Round_invert K A) T.F_Round_invert sc_Round_invert (len_Round_invert A) (fun cdv A' outer s H E hr => ?_) (pure_Round_invert T)
  have tk := takes_of (X := cxOf (L2.CX P w) P w K mg base N_Round_invert "Round.__invert__" (defScope s_Round_invert) A.f_Round_invert cdv A' outer s H E) rfl rfl rfl rfl
  unfold t_Round_invert
  exact (dss_one (ds_ret (de_make T.mk_Round (ok_Round_init T) (hr.mono (by decide)) T.m_Round T.B_Round_init tk (da_cons (de_add (de_slice (de_fldC (de_var (pv 0)) (fun _ h => by rw [List.mem_singleton.mp h]; exact ⟨T.cl_Round, T.na_Round_names⟩)) do_none (do_some de_int)) (de_backT (de_fldC (de_var (pv 0)) (fun _ h => by rw [List.mem_singleton.mp h]; exact ⟨T.cl_Round, T.na_Round_names⟩)))) da_nil))))
set_option maxHeartbeats 8000000 in
theorem ok_Round_eq (T : Txt K mg A) : FnD P w K mg base 2 A.f_Round_eq A.fd_Round_eq ["self", "other"] (S_Round_eq A) := by
  refine fnD (k := 1) (t := t_Round_eq K A) T.F_Round_eq sc_Round_eq (len_Round_eq A) (fun cdv A' outer s H E hr => ?_) (pure_Round_eq T)
  have tk := takes_of (X := cxOf (L2.CX P w) P w K mg base N_Round_eq "Round.__eq__" (defScope s_Round_eq) A.f_Round_eq cdv A' outer s H E) rfl rfl rfl rfl
  unfold t_Round_eq
  exact (dss_cons (ds_if (dt_not (dt_truth (de_isi T.b_isinstance (da_cons (de_var (pv 1)) (da_cons (de_cls T.m_Round) da_nil))))) (dss_one (ds_ret de_bl)) dss_nil)
      (dss_one (ds_ret (de_any rfl T.b_any (da_cons (de_lc (own := [("k", 2)]) (i := 2) rfl sc_Round_eq.nd (di_rng1 rfl T.b_range (da_cons (de_add (de_len T.b_len (da_cons (de_fldC (de_var (pv 1)) (fun _ h => by rw [List.mem_singleton.mp h]; exact ⟨T.cl_Round, T.na_Round_names⟩)) da_nil)) de_int) da_nil)) (by show blkC N_Round_eq (defScope s_Round_eq) _ _ = true; decide +kernel) (fun _ _ _ _ _ => pg_name (i := 2) sc_Round_eq.nd rfl (Or.inl rfl)) (fun _ _ _ _ _ => dts_nil) (fun _ _ _ _ _ => (de_eq hr.units (de_fldC (de_var (pv 0)) (fun _ h => by rw [List.mem_singleton.mp h]; exact ⟨T.cl_Round, T.na_Round_names⟩)) (de_add (de_slice (de_fldC (de_var (pv 1)) (fun _ h => by rw [List.mem_singleton.mp h]; exact ⟨T.cl_Round, T.na_Round_names⟩)) (do_some (de_var (pv 2))) do_none) (de_slice (de_fldC (de_var (pv 1)) (fun _ h => by rw [List.mem_singleton.mp h]; exact ⟨T.cl_Round, T.na_Round_names⟩)) do_none (do_some (de_var (pv 2)))))))) da_nil)))))
set_option maxHeartbeats 8000000 in
theorem ok_Round_cut (T : Txt K mg A) : FnD P w K mg base 3 A.f_Round_cut A.fd_Round_cut ["self", "name"] (S_Round_cut A) := by
  refine fnD (k := 2) (t := t_Round_cut K A) T.F_Round_cut sc_Round_cut (len_Round_cut A) (fun cdv A' outer s H E hr => ?_) (pure_Round_cut T)
  have tk := takes_of (X := cxOf (L2.CX P w) P w K mg base N_Round_cut "Round.cut" (defScope s_Round_cut) A.f_Round_cut cdv A' outer s H E) rfl rfl rfl rfl
  unfold t_Round_cut
  exact (dss_cons (ds_if (dt_nin (de_var (pv 1)) (de_fldC (de_var (pv 0)) (fun _ h => by rw [List.mem_singleton.mp h]; exact ⟨T.cl_Round, T.na_Round_names⟩))) (dss_one (ds_raise rfl tk T.ox_UnknownColumn T.ei_UnknownColumn T.et_UnknownColumn (ok_UnknownColumn_init T) (hr.mono (by decide)) T.B_UnknownColumn_init T.m_UnknownColumn (da_cons (de_var (pv 1)) da_nil))) dss_nil)
      (dss_cons (ds_setS (i := 2) sc_Round_cut.nd rfl (Or.inl rfl) (de_tindex1 (de_fldC (de_var (pv 0)) (fun _ h => by rw [List.mem_singleton.mp h]; exact ⟨T.cl_Round, T.na_Round_names⟩)) (da_cons (de_var (pv 1)) da_nil)))
      (dss_one (ds_retF (de_list T.b_list (da_cons (de_add (de_slice (de_fldC (de_var (pv 0)) (fun _ h => by rw [List.mem_singleton.mp h]; exact ⟨T.cl_Round, T.na_Round_names⟩)) (do_some (de_add (de_var (pv 2)) de_int)) do_none) (de_slice (de_fldC (de_var (pv 0)) (fun _ h => by rw [List.mem_singleton.mp h]; exact ⟨T.cl_Round, T.na_Round_names⟩)) do_none (do_some (de_var (pv 2))))) da_nil))))))
set_option maxHeartbeats 8000000 in
theorem ok_Round_splits (T : Txt K mg A) : FnD P w K mg base 5 A.f_Round_splits A.fd_Round_splits ["self", "p", "q", "r", "s"] (S_Round_splits A) := by
  refine fnD (k := 4) (t := t_Round_splits K A) T.F_Round_splits sc_Round_splits (len_Round_splits A) (fun cdv A' outer s H E hr => ?_) (pure_Round_splits T)
  have tk := takes_of (X := cxOf (L2.CX P w) P w K mg base N_Round_splits "Round.splits" (defScope s_Round_splits) A.f_Round_splits cdv A' outer s H E) rfl rfl rfl rfl
  unfold t_Round_splits
  exact (dss_cons (ds_expr (de_call (ok_check_different T) (hr.mono (by decide)) T.m_check_different T.k_check_different T.B_check_different tk (da_cons (de_fldC (de_var (pv 0)) (fun _ h => by rw [List.mem_singleton.mp h]; exact ⟨T.cl_Round, T.na_Round_names⟩)) (da_cons (de_tup (da_cons (de_var (pv 1)) (da_cons (de_var (pv 2)) (da_cons (de_var (pv 3)) (da_cons (de_var (pv 4)) da_nil))))) da_nil))))
      (dss_cons (ds_setS (i := 5) sc_Round_splits.nd rfl (Or.inl rfl) (de_meth (de_var (pv 0)) T.cl_Round T.me_Round_cut (ok_Round_cut T) (hr.mono (by decide)) T.B_Round_cut tk (da_cons (de_var (pv 1)) da_nil)))
      (dss_cons (ds_setS (i := 6) sc_Round_splits.nd rfl (Or.inl rfl) (de_slice (de_var (pv 5)) do_none (do_some (de_lindex (de_var (pv 5)) (da_cons (de_var (pv 2)) da_nil)))))
      (dss_one (ds_ret (de_ne hr.units (de_in (de_var (pv 3)) (de_var (pv 6))) (de_in (de_var (pv 4)) (de_var (pv 6)))))))))
set_option maxHeartbeats 8000000 in
theorem ok__law_cell (T : Txt K mg A) : FnD P w K mg base 2 A.f__law_cell A.fd__law_cell ["script", "k"] (S__law_cell A) := by
  refine fnD (k := 1) (t := t__law_cell K A) T.F__law_cell sc__law_cell (len__law_cell A) (fun cdv A' outer s H E hr => ?_) (pure__law_cell T)
  have tk := takes_of (X := cxOf (L2.CX P w) P w K mg base N__law_cell "_law_cell" (defScope s__law_cell) A.f__law_cell cdv A' outer s H E) rfl rfl rfl rfl
  unfold t__law_cell
  exact (dss_cons (ds_if (dt_lt (de_var (pv 1)) (de_len T.b_len (da_cons (de_var (pv 0)) da_nil))) (dss_one (ds_ret (de_ixc (de_var (pv 0)) (de_var (pv 1))))) dss_nil)
      (dss_one (ds_ret de_int)))
set_option maxHeartbeats 8000000 in
theorem ok__law_pool (T : Txt K mg A) : FnD P w K mg base 3 A.f__law_pool A.fd__law_pool ["script", "k", "count"] (S__law_pool A) := by
  refine fnD (k := 2) (t := t__law_pool K A) T.F__law_pool sc__law_pool (len__law_pool A) (fun cdv A' outer s H E hr => ?_) (pure__law_pool T)
  have tk := takes_of (X := cxOf (L2.CX P w) P w K mg base N__law_pool "_law_pool" (defScope s__law_pool) A.f__law_pool cdv A' outer s H E) rfl rfl rfl rfl
  unfold t__law_pool
  exact (dss_cons (ds_setS (i := 3) sc__law_pool.nd rfl (Or.inl rfl) (de_abs T.b_abs (da_cons (de_call (ok__law_cell T) (hr.mono (by decide)) T.m__law_cell T.k__law_cell T.B__law_cell tk (da_cons (de_var (pv 0)) (da_cons (de_var (pv 1)) da_nil))) da_nil)))
      (dss_cons (ds_set (i := 4) sc__law_pool.nd rfl (Or.inl rfl) (de_lst da_nil))
      (dss_cons (ds_if (dt_ge (de_var (pv 3)) (de_pow de_int de_int)) (dss_cons (ds_setS (i := 3) sc__law_pool.nd rfl (Or.inl rfl) (de_sub (de_var (pv 3)) (de_pow de_int de_int)))
      (dss_cons (ds_for (passes_of rfl) rfl (di_rng1 rfl T.b_range (da_cons (de_var (pv 2)) da_nil)) (dg_name sc__law_pool.nd (i := 5) rfl (Or.inl rfl) (Or.inl rfl)) (dss_cons (ds_append (pv 4) (da_cons (de_mod (de_int1 T.b_int (da_cons (de_var (pv 3)) da_nil)) de_int) da_nil))
      (dss_one (ds_setS (i := 3) sc__law_pool.nd rfl (Or.inl rfl) (de_fdiv (de_var (pv 3)) de_int)))))
      (dss_one (ds_ret (de_var (pv 4)))))) dss_nil)
      (dss_cons (ds_for (passes_of rfl) rfl (di_rng1 rfl T.b_range (da_cons (de_var (pv 2)) da_nil)) (dg_name sc__law_pool.nd (i := 5) rfl (Or.inl rfl) (Or.inl rfl)) (dss_cons (ds_setS (i := 6) sc__law_pool.nd rfl (Or.inl rfl) (de_mod (de_int1 T.b_int (da_cons (de_add (de_add (de_add (de_mul (de_var (pv 3)) de_int) (de_mul (de_add (de_var (pv 5)) de_int) de_int)) (de_mul (de_var (pv 1)) de_int)) de_int) da_nil)) de_int))
      (dss_cons (ds_setS (i := 7) sc__law_pool.nd rfl (Or.inl rfl) (de_mod (de_int1 T.b_int (da_cons (de_add (de_add (de_mul (de_var (pv 6)) (de_var (pv 6))) (de_mul (de_var (pv 3)) de_int)) (de_var (pv 5))) da_nil)) de_int))
      (dss_cons (ds_setS (i := 8) sc__law_pool.nd rfl (Or.inl rfl) (de_mod (de_int1 T.b_int (da_cons (de_add (de_mul (de_var (pv 7)) (de_var (pv 7))) (de_var (pv 6))) da_nil)) de_int))
      (dss_one (ds_append (pv 4) (da_cons (de_mod (de_int1 T.b_int (da_cons (de_fdiv (de_var (pv 8)) de_int) da_nil)) de_int) da_nil)))))))
      (dss_one (ds_fz 4 (ds_ret (de_var (pv 4)))))))))
set_option maxHeartbeats 8000000 in
theorem ok__law_whole (T : Txt K mg A) : FnD P w K mg base 2 A.f__law_whole A.fd__law_whole ["pool", "i"] (S__law_whole A) := by
  refine fnD (k := 1) (t := t__law_whole K A) T.F__law_whole sc__law_whole (len__law_whole A) (fun cdv A' outer s H E hr => ?_) (pure__law_whole T)
  have tk := takes_of (X := cxOf (L2.CX P w) P w K mg base N__law_whole "_law_whole" (defScope s__law_whole) A.f__law_whole cdv A' outer s H E) rfl rfl rfl rfl
  unfold t__law_whole
  exact (dss_cons (ds_setS (i := 2) sc__law_whole.nd rfl (Or.inl rfl) (de_lst (da_cons de_int (da_cons de_int (da_cons de_int (da_cons (de_sub (de_mul de_int (de_pow de_int de_int)) de_int) da_nil))))))
      (dss_cons (ds_setS (i := 3) sc__law_whole.nd rfl (Or.inl rfl) (de_ixc (de_var (pv 2)) (de_mod (de_int1 T.b_int (da_cons (de_ixc (de_var (pv 0)) (de_var (pv 1))) da_nil)) de_int)))
      (dss_cons (ds_setS (i := 4) sc__law_whole.nd rfl (Or.inl rfl) (de_add (de_mul (de_add (de_mul (de_ixc (de_var (pv 0)) (de_add (de_var (pv 1)) de_int)) de_int) (de_ixc (de_var (pv 0)) (de_add (de_var (pv 1)) de_int))) de_int) (de_ixc (de_var (pv 0)) (de_add (de_var (pv 1)) de_int))))
      (dss_one (ds_ret (de_sub (de_mod (de_int1 T.b_int (da_cons (de_var (pv 4)) da_nil)) (de_var (pv 3))) (de_fdiv (de_var (pv 3)) de_int)))))))
set_option maxHeartbeats 8000000 in
theorem ok__law_word (T : Txt K mg A) : FnD P w K mg base 2 A.f__law_word A.fd__law_word ["pool", "at"] (S__law_word A) := by
  refine fnD (k := 1) (t := t__law_word K A) T.F__law_word sc__law_word (len__law_word A) (fun cdv A' outer s H E hr => ?_) (pure__law_word T)
  have tk := takes_of (X := cxOf (L2.CX P w) P w K mg base N__law_word "_law_word" (defScope s__law_word) A.f__law_word cdv A' outer s H E) rfl rfl rfl rfl
  unfold t__law_word
  exact (dss_cons (ds_setS (i := 2) sc__law_word.nd rfl (Or.inl rfl) (de_add (de_mul (de_add (de_mul (de_ixc (de_var (pv 0)) (de_var (pv 1))) de_int) (de_ixc (de_var (pv 0)) (de_add (de_var (pv 1)) de_int))) de_int) (de_ixc (de_var (pv 0)) (de_add (de_var (pv 1)) de_int))))
      (dss_cons (ds_setS (i := 3) sc__law_word.nd rfl (Or.inl rfl) (de_add de_int (de_mod (de_int1 T.b_int (da_cons (de_var (pv 2)) da_nil)) de_int)))
      (dss_cons (ds_setS (i := 2) sc__law_word.nd rfl (Or.inl rfl) (de_fdiv (de_var (pv 2)) de_int))
      (dss_cons (ds_setS (i := 4) sc__law_word.nd rfl (Or.inl rfl) de_str)
      (dss_cons (ds_for (passes_of rfl) rfl (di_rng1 rfl T.b_range (da_cons (de_var (pv 3)) da_nil)) (dg_name sc__law_word.nd (i := 5) rfl (Or.inl rfl) (Or.inl rfl)) (dss_cons (ds_setS (i := 4) sc__law_word.nd rfl (Or.inl rfl) (de_add (de_var (pv 4)) (de_ixc de_str (de_mod (de_int1 T.b_int (da_cons (de_var (pv 2)) da_nil)) de_int))))
      (dss_one (ds_setS (i := 2) sc__law_word.nd rfl (Or.inl rfl) (de_fdiv (de_var (pv 2)) de_int)))))
      (dss_one (ds_ret (de_var (pv 4)))))))))
set_option maxHeartbeats 8000000 in
theorem ok__law_new (T : Txt K mg A) : FnD P w K mg base 2 A.f__law_new A.fd__law_new ["names", "word"] (S__law_new A) := by
  refine fnD (k := 1) (t := t__law_new K A) T.F__law_new sc__law_new (len__law_new A) (fun cdv A' outer s H E hr => ?_) (pure__law_new T)
  have tk := takes_of (X := cxOf (L2.CX P w) P w K mg base N__law_new "_law_new" (defScope s__law_new) A.f__law_new cdv A' outer s H E) rfl rfl rfl rfl
  unfold t__law_new
  exact (dss_cons (ds_setS (i := 2) sc__law_new.nd rfl (Or.inl rfl) de_str)
      (dss_cons (ds_for (passes_of rfl) rfl (di_rng1 rfl T.b_range (da_cons de_int da_nil)) (dg_name sc__law_new.nd (i := 3) rfl (Or.inl rfl) (Or.inl rfl)) (dss_cons (ds_if (dt_nin (de_var (pv 1)) (de_var (pv 0))) (dss_one ds_brk) dss_nil)
      (dss_one (ds_setS (i := 1) sc__law_new.nd rfl (Or.inl rfl) (de_add (de_slice (de_var (pv 1)) do_none (do_some (de_neg de_int))) (de_ixc (de_var (pv 2)) (de_mod (de_int1 T.b_int (da_cons (de_add (de_sindex (de_var (pv 2)) (da_cons (de_ixc (de_var (pv 1)) (de_neg de_int)) da_nil)) de_int) da_nil)) de_int)))))))
      (dss_one (ds_ret (de_var (pv 1))))))
set_option maxHeartbeats 8000000 in
theorem ok__law_sequence (T : Txt K mg A) : FnD P w K mg base 2 A.f__law_sequence A.fd__law_sequence ["names", "draw"] (S__law_sequence A) := by
  refine fnD (k := 1) (t := t__law_sequence K A) T.F__law_sequence sc__law_sequence (len__law_sequence A) (fun cdv A' outer s H E hr => ?_) (pure__law_sequence T)
  have tk := takes_of (X := cxOf (L2.CX P w) P w K mg base N__law_sequence "_law_sequence" (defScope s__law_sequence) A.f__law_sequence cdv A' outer s H E) rfl rfl rfl rfl
  unfold t__law_sequence
  exact (dss_cons (ds_setS (i := 2) sc__law_sequence.nd rfl (Or.inl rfl) (de_list T.b_list (da_cons (de_var (pv 0)) da_nil)))
      (dss_cons (ds_set (i := 3) sc__law_sequence.nd rfl (Or.inl rfl) (de_lst da_nil))
      (dss_cons (ds_for (passes_of rfl) rfl (di_rng1 rfl T.b_range (da_cons (de_len T.b_len (da_cons (de_var (pv 0)) da_nil)) da_nil)) (dg_name sc__law_sequence.nd (i := 4) rfl (Or.inl rfl) (Or.inl rfl)) (dss_cons (ds_setS (i := 5) sc__law_sequence.nd rfl (Or.inl rfl) (de_mod (de_int1 T.b_int (da_cons (de_var (pv 1)) da_nil)) (de_len T.b_len (da_cons (de_var (pv 2)) da_nil))))
      (dss_cons (ds_setS (i := 1) sc__law_sequence.nd rfl (Or.inl rfl) (de_fdiv (de_var (pv 1)) (de_len T.b_len (da_cons (de_var (pv 2)) da_nil))))
      (dss_cons (ds_append (pv 3) (da_cons (de_ixc (de_var (pv 2)) (de_var (pv 5))) da_nil))
      (dss_one (ds_setS (i := 2) sc__law_sequence.nd rfl (Or.inl rfl) (de_add (de_slice (de_var (pv 2)) do_none (do_some (de_var (pv 5)))) (de_slice (de_var (pv 2)) (do_some (de_add (de_var (pv 5)) de_int)) do_none))))))))
      (dss_one (ds_fz 3 (ds_ret (de_var (pv 3))))))))
set_option maxHeartbeats 8000000 in
theorem ok__law_from (T : Txt K mg A) : FnD P w K mg base 2 A.f__law_from A.fd__law_from ["names", "places"] (S__law_from A) := by
  refine fnD (k := 1) (t := t__law_from K A) T.F__law_from sc__law_from (len__law_from A) (fun cdv A' outer s H E hr => ?_) (pure__law_from T)
  have tk := takes_of (X := cxOf (L2.CX P w) P w K mg base N__law_from "_law_from" (defScope s__law_from) A.f__law_from cdv A' outer s H E) rfl rfl rfl rfl
  unfold t__law_from
  exact (dss_cons (ds_setS (i := 2) sc__law_from.nd rfl (Or.inr rfl) (de_len T.b_len (da_cons (de_var (pv 0)) da_nil)))
      (dss_cons (ds_if (dt_eq hr.units (de_var (pv 2)) de_int) (dss_one (ds_ret (de_lst da_nil))) dss_nil)
      (dss_cons (ds_setS (i := 3) sc__law_from.nd rfl (Or.inr rfl) (de_sub (de_var (pv 1)) (de_mul (de_fdiv (de_var (pv 1)) (de_var (pv 2))) (de_var (pv 2)))))
      (dss_one (ds_ret (de_lc (own := [("i", 4)]) (i := 4) rfl sc__law_from.nd (di_rng1 rfl T.b_range (da_cons (de_var (pv 2)) da_nil)) (by show blkC N__law_from (defScope s__law_from) _ _ = true; decide +kernel) (fun _ _ _ _ _ => pg_name (i := 4) sc__law_from.nd rfl (Or.inl rfl)) (fun _ _ _ _ _ => dts_nil) (fun _ _ _ _ _ => (de_ixc (de_var (pv 0)) (de_mod (de_int1 T.b_int (da_cons (de_add (de_var (pv 3)) (de_var (pv 4))) da_nil)) (de_var (pv 2)))))))))))
set_option maxHeartbeats 8000000 in
theorem ok__law_back (T : Txt K mg A) : FnD P w K mg base 2 A.f__law_back A.fd__law_back ["names"] (S__law_back A) := by
  refine fnD (k := 1) (t := t__law_back K A) T.F__law_back sc__law_back (len__law_back A) (fun cdv A' outer s H E hr => ?_) (pure__law_back T)
  have tk := takes_of (X := cxOf (L2.CX P w) P w K mg base N__law_back "_law_back" (defScope s__law_back) A.f__law_back cdv A' outer s H E) rfl rfl rfl rfl
  unfold t__law_back
  exact (dss_one (ds_ret (de_add (de_slice (de_var (pv 0)) do_none (do_some de_int)) (de_lc (own := [("k", 1)]) (i := 1) rfl sc__law_back.nd (di_rng2 rfl T.b_range (da_cons de_int (da_cons (de_len T.b_len (da_cons (de_var (pv 0)) da_nil)) da_nil))) (by show blkC N__law_back (defScope s__law_back) _ _ = true; decide +kernel) (fun _ _ _ _ _ => pg_name (i := 1) sc__law_back.nd rfl (Or.inl rfl)) (fun _ _ _ _ _ => dts_nil) (fun _ _ _ _ _ => (de_ixc (de_var (pv 0)) (de_sub (de_len T.b_len (da_cons (de_var (pv 0)) da_nil)) (de_var (pv 1)))))))))
set_option maxHeartbeats 8000000 in
theorem ok__law_is_round (T : Txt K mg A) : FnD P w K mg base 7 A.f__law_is_round A.fd__law_is_round ["found", "due"] (S__law_is_round A) := by
  refine fnD (k := 6) (t := t__law_is_round K A) T.F__law_is_round sc__law_is_round (len__law_is_round A) (fun cdv A' outer s H E hr => ?_) (pure__law_is_round T)
  have tk := takes_of (X := cxOf (L2.CX P w) P w K mg base N__law_is_round "_law_is_round" (defScope s__law_is_round) A.f__law_is_round cdv A' outer s H E) rfl rfl rfl rfl
  unfold t__law_is_round
  exact (dss_cons (ds_if (dt_pw (dw_or (dt_not (dt_truth (de_isi T.b_isinstance (da_cons (de_var (pv 0)) (da_cons (de_cls T.m_Round) da_nil))))) (dw_or1 (dt_ne hr.units (de_listO (k := 2) T.d_Round_iter ((it_Round_iter T).mono (by decide)) T.d_Round_len (FnOk.mono (ok_Round_len T) (by decide)) T.B_Round_len (hr.mono (by decide)) rfl T.b_list bo_list (da_cons (de_var (pv 0)) da_nil)) (de_var (pv 1)))))) (dss_one (ds_ret de_bl)) dss_nil)
      (dss_one (ds_ret (de_and (de_eq hr.units (de_dunLen T.d_Round_len (ok_Round_len T) (hr.mono (by decide)) T.B_Round_len rfl T.b_len bo_len (da_cons (de_var (pv 0)) da_nil)) (de_len T.b_len (da_cons (de_var (pv 1)) da_nil))) (de_one (de_eq hr.units (de_lc (own := [("name", 2)]) (i := 2) rfl sc__law_is_round.nd (di_own T.d_Round_iter (it_Round_iter T) (hr.mono (by decide)) (de_var (pv 0))) (by show blkC N__law_is_round (defScope s__law_is_round) _ _ = true; decide +kernel) (fun _ _ _ _ _ => pg_name (i := 2) sc__law_is_round.nd rfl (Or.inl rfl)) (fun _ _ _ _ _ => dts_nil) (fun _ _ _ _ _ => (de_var (pv 2)))) (de_var (pv 1))))))))
set_option maxHeartbeats 8000000 in
theorem ok__law_turned_right (T : Txt K mg A) : FnD P w K mg base 5 A.f__law_turned_right A.fd__law_turned_right ["turned", "due"] (S__law_turned_right A) := by
  refine fnD (k := 4) (t := t__law_turned_right K A) T.F__law_turned_right sc__law_turned_right (len__law_turned_right A) (fun cdv A' outer s H E hr => ?_) (pure__law_turned_right T)
  have tk := takes_of (X := cxOf (L2.CX P w) P w K mg base N__law_turned_right "_law_turned_right" (defScope s__law_turned_right) A.f__law_turned_right cdv A' outer s H E) rfl rfl rfl rfl
  unfold t__law_turned_right
  exact (dss_cons (ds_setS (i := 2) sc__law_turned_right.nd rfl (Or.inl rfl) (de_len T.b_len (da_cons (de_var (pv 1)) da_nil)))
      (dss_cons (ds_if (dt_eq hr.units (de_var (pv 2)) de_int) (dss_one (ds_ret de_bl)) dss_nil)
      (dss_cons (ds_if (dt_pw (dw_or (dt_ne hr.units (de_dunIx T.d_Round_getitem T.fi_Round (ok_Round_getitem T) (hr.mono (by decide)) T.B_Round_getitem tk (de_var (pv 0)) de_int) (de_ixc (de_var (pv 1)) de_int)) (dw_or (dt_ne hr.units (de_dunIx T.d_Round_getitem T.fi_Round (ok_Round_getitem T) (hr.mono (by decide)) T.B_Round_getitem tk (de_var (pv 0)) (de_neg de_int)) (de_ixc (de_var (pv 1)) (de_neg de_int))) (dw_or1 (dt_ne hr.units (de_dunIx T.d_Round_getitem T.fi_Round (ok_Round_getitem T) (hr.mono (by decide)) T.B_Round_getitem tk (de_var (pv 0)) (de_add (de_var (pv 2)) de_int)) (de_ixc (de_var (pv 1)) (de_mod (de_int1 T.b_int (da_cons (de_add (de_var (pv 2)) de_int) da_nil)) (de_var (pv 2))))))))) (dss_one (ds_ret de_bl)) dss_nil)
      (dss_one (ds_ret (de_and (de_eq hr.units (de_meth (de_var (pv 0)) T.cl_Round T.me_Round_cut (ok_Round_cut T) (hr.mono (by decide)) T.B_Round_cut tk (da_cons (de_ixc (de_var (pv 1)) de_int) da_nil)) (de_slice (de_var (pv 1)) (do_some de_int) do_none)) (de_one (de_dunIn (op_dunIn T.d_Round_contains (ok_Round_contains T) (hr.mono (by decide)) T.B_Round_contains) (de_ixc (de_var (pv 1)) (de_neg de_int)) (de_var (pv 0)) (by with_unfolding_all rfl)))))))))
set_option maxHeartbeats 8000000 in
theorem ok__law_turns (T : Txt K mg A) : FnD P w K mg base 8 A.f__law_turns A.fd__law_turns ["ring", "names", "places"] (S__law_turns A) := by
  refine fnD (k := 7) (t := t__law_turns K A) T.F__law_turns sc__law_turns (len__law_turns A) (fun cdv A' outer s H E hr => ?_) (pure__law_turns T)
  have tk := takes_of (X := cxOf (L2.CX P w) P w K mg base N__law_turns "_law_turns" (defScope s__law_turns) A.f__law_turns cdv A' outer s H E) rfl rfl rfl rfl
  unfold t__law_turns
  exact (dss_cons (ds_setS (i := 3) sc__law_turns.nd rfl (Or.inl rfl) (de_call (ok__law_from T) (hr.mono (by decide)) T.m__law_from T.k__law_from T.B__law_from tk (da_cons (de_var (pv 1)) (da_cons (de_var (pv 2)) da_nil))))
      (dss_cons (ds_setS (i := 4) sc__law_turns.nd rfl (Or.inl rfl) (de_call (ok__law_from T) (hr.mono (by decide)) T.m__law_from T.k__law_from T.B__law_from tk (da_cons (de_var (pv 1)) (da_cons (de_neg (de_var (pv 2))) da_nil))))
      (dss_cons (ds_if (dt_pw (dw_or (dt_not (dt_truth (de_call (ok__law_is_round T) (hr.mono (by decide)) T.m__law_is_round T.k__law_is_round T.B__law_is_round tk (da_cons (de_dunI (op := .LShift) (op_dunI T.d_Round_lshift (ok_Round_lshift T) (hr.mono (by decide)) T.B_Round_lshift T.sf_Round T.rr_Round_lshift (.inl rfl) T.if_lshift T.ir_lshift T.us_Round) (de_var (pv 0)) (de_var (pv 2))) (da_cons (de_var (pv 3)) da_nil))))) (dw_or1 (dt_not (dt_truth (de_call (ok__law_is_round T) (hr.mono (by decide)) T.m__law_is_round T.k__law_is_round T.B__law_is_round tk (da_cons (de_dunI (op := .RShift) (op_dunI T.d_Round_rshift (ok_Round_rshift T) (hr.mono (by decide)) T.B_Round_rshift T.sf_Round T.rr_Round_rshift (.inl rfl) T.if_rshift T.ir_rshift T.us_Round) (de_var (pv 0)) (de_var (pv 2))) (da_cons (de_var (pv 4)) da_nil)))))))) (dss_one (ds_ret de_bl)) dss_nil)
      (dss_cons (ds_if (dt_pw (dw_or (dt_not (dt_truth (de_call (ok__law_is_round T) (hr.mono (by decide)) T.m__law_is_round T.k__law_is_round T.B__law_is_round tk (da_cons (de_dunI (op := .RShift) (op_dunI T.d_Round_rshift (ok_Round_rshift T) (hr.mono (by decide)) T.B_Round_rshift T.sf_Round T.rr_Round_rshift (.inl rfl) T.if_rshift T.ir_rshift T.us_Round) (de_dunI (op := .LShift) (op_dunI T.d_Round_lshift (ok_Round_lshift T) (hr.mono (by decide)) T.B_Round_lshift T.sf_Round T.rr_Round_lshift (.inl rfl) T.if_lshift T.ir_lshift T.us_Round) (de_var (pv 0)) (de_var (pv 2))) (de_var (pv 2))) (da_cons (de_var (pv 1)) da_nil))))) (dw_or1 (dt_not (dt_truth (de_call (ok__law_is_round T) (hr.mono (by decide)) T.m__law_is_round T.k__law_is_round T.B__law_is_round tk (da_cons (de_inv T.d_Round_invert (ok_Round_invert T) (hr.mono (by decide)) T.B_Round_invert (de_dunI (op := .LShift) (op_dunI T.d_Round_lshift (ok_Round_lshift T) (hr.mono (by decide)) T.B_Round_lshift T.sf_Round T.rr_Round_lshift (.inl rfl) T.if_lshift T.ir_lshift T.us_Round) (de_var (pv 0)) (de_var (pv 2)))) (da_cons (de_call (ok__law_back T) (hr.mono (by decide)) T.m__law_back T.k__law_back T.B__law_back tk (da_cons (de_var (pv 3)) da_nil)) da_nil)))))))) (dss_one (ds_ret de_bl)) dss_nil)
      (dss_cons (ds_if (dt_pw (dw_or (dt_isn (de_dunEq (op_dunEq T.d_Round_eq (ok_Round_eq T) (hr.mono (by decide)) T.B_Round_eq) (de_var (pv 0)) (de_dunI (op := .LShift) (op_dunI T.d_Round_lshift (ok_Round_lshift T) (hr.mono (by decide)) T.B_Round_lshift T.sf_Round T.rr_Round_lshift (.inl rfl) T.if_lshift T.ir_lshift T.us_Round) (de_var (pv 0)) (de_var (pv 2))) (nomark _)) de_bl) (dw_or1 (dt_isn (de_dunEq (op_dunEq T.d_Round_eq (ok_Round_eq T) (hr.mono (by decide)) T.B_Round_eq) (de_dunI (op := .RShift) (op_dunI T.d_Round_rshift (ok_Round_rshift T) (hr.mono (by decide)) T.B_Round_rshift T.sf_Round T.rr_Round_rshift (.inl rfl) T.if_rshift T.ir_rshift T.us_Round) (de_var (pv 0)) (de_var (pv 2))) (de_var (pv 0)) (nomark _)) de_bl)))) (dss_one (ds_ret de_bl)) dss_nil)
      (dss_cons (ds_if (dt_pw (dw_or (dt_not (dt_truth (de_call (ok__law_turned_right T) (hr.mono (by decide)) T.m__law_turned_right T.k__law_turned_right T.B__law_turned_right tk (da_cons (de_dunI (op := .LShift) (op_dunI T.d_Round_lshift (ok_Round_lshift T) (hr.mono (by decide)) T.B_Round_lshift T.sf_Round T.rr_Round_lshift (.inl rfl) T.if_lshift T.ir_lshift T.us_Round) (de_var (pv 0)) (de_var (pv 2))) (da_cons (de_var (pv 3)) da_nil))))) (dw_or1 (dt_not (dt_truth (de_call (ok__law_turned_right T) (hr.mono (by decide)) T.m__law_turned_right T.k__law_turned_right T.B__law_turned_right tk (da_cons (de_dunI (op := .RShift) (op_dunI T.d_Round_rshift (ok_Round_rshift T) (hr.mono (by decide)) T.B_Round_rshift T.sf_Round T.rr_Round_rshift (.inl rfl) T.if_rshift T.ir_rshift T.us_Round) (de_var (pv 0)) (de_var (pv 2))) (da_cons (de_var (pv 4)) da_nil)))))))) (dss_one (ds_ret de_bl)) dss_nil)
      (dss_cons (ds_if (dt_not (dt_truth (de_call (ok__law_turned_right T) (hr.mono (by decide)) T.m__law_turned_right T.k__law_turned_right T.B__law_turned_right tk (da_cons (de_inv T.d_Round_invert (ok_Round_invert T) (hr.mono (by decide)) T.B_Round_invert (de_dunI (op := .LShift) (op_dunI T.d_Round_lshift (ok_Round_lshift T) (hr.mono (by decide)) T.B_Round_lshift T.sf_Round T.rr_Round_lshift (.inl rfl) T.if_lshift T.ir_lshift T.us_Round) (de_var (pv 0)) (de_var (pv 2)))) (da_cons (de_call (ok__law_back T) (hr.mono (by decide)) T.m__law_back T.k__law_back T.B__law_back tk (da_cons (de_var (pv 3)) da_nil)) da_nil))))) (dss_one (ds_ret de_bl)) dss_nil)
      (dss_cons (ds_if (dt_gt (de_len T.b_len (da_cons (de_var (pv 1)) da_nil)) de_int) (dss_one (ds_ret (de_and (de_eq hr.units (de_dunIx T.d_Round_getitem T.fi_Round (ok_Round_getitem T) (hr.mono (by decide)) T.B_Round_getitem tk (de_var (pv 0)) (de_var (pv 2))) (de_ixc (de_var (pv 3)) de_int)) (de_and (de_eq hr.units (de_dunIx T.d_Round_getitem T.fi_Round (ok_Round_getitem T) (hr.mono (by decide)) T.B_Round_getitem tk (de_var (pv 0)) (de_neg (de_var (pv 2)))) (de_ixc (de_var (pv 4)) de_int)) (de_one (de_isi T.b_isinstance (da_cons (de_dunIx T.d_Round_getitem T.fi_Round (ok_Round_getitem T) (hr.mono (by decide)) T.B_Round_getitem tk (de_var (pv 0)) (de_var (pv 2))) (da_cons (de_tyn T.b_str bo_str) da_nil)))))))) dss_nil)
      (dss_cons (ds_setS (i := 5) sc__law_turns.nd rfl (Or.inl rfl) (de_lst da_nil))
      (dss_cons (ds_setS (i := 6) sc__law_turns.nd rfl (Or.inl rfl) de_non)
      (dss_cons (ds_setS (i := 7) sc__law_turns.nd rfl (Or.inl rfl) de_non)
      (dss_cons (ds_try rfl rfl sc__law_turns.nd tk rfl (fun W pn xe tk hpw => (dss_one (ds_setS (i := 7) sc__law_turns.nd rfl (Or.inl rfl) (de_dunIx T.d_Round_getitem T.fi_Round (ok_Round_getitem T) (hr.mono (by decide)) T.B_Round_getitem tk (de_var (pv 0)) (de_var (pv 2)))))) (.named (i := 8) ⟨rfl, by decide, Or.inl T.m_BadNumber⟩ rfl rfl (fun a oe cls d pn hz hf => (dss_cons (ds_setS (i := 6) sc__law_turns.nd rfl (Or.inl rfl) (de_xf hz hf (fun _ h => by rw [List.mem_singleton.mp h]; exact T.xf_BadNumber_number) (de_var (pv 8))))
      (dss_one (ds_setS (i := 5) sc__law_turns.nd rfl (Or.inl rfl) (de_lst (da_cons (de_isX hz hf (fun _ h => by rw [List.mem_singleton.mp h]; exact T.xi_BadNumber) rfl T.b_isinstance bo_isi (da_cons (de_var (pv 8)) (da_cons (de_cls T.m_RowsError) da_nil))) (da_cons (de_isX hz hf (fun _ h => by rw [List.mem_singleton.mp h]; exact T.xi_BadNumber) rfl T.b_isinstance bo_isi (da_cons (de_var (pv 8)) (da_cons (de_tyn T.b_ValueError bo_VE) da_nil))) (da_cons (de_isX hz hf (fun _ h => by rw [List.mem_singleton.mp h]; exact T.xi_BadNumber) rfl T.b_isinstance bo_isi (da_cons (de_var (pv 8)) (da_cons (de_cls T.m_Unknown) da_nil))) (da_cons (de_isX hz hf (fun _ h => by rw [List.mem_singleton.mp h]; exact T.xi_BadNumber) rfl T.b_isinstance bo_isi (da_cons (de_var (pv 8)) (da_cons (de_cls T.m_Impossible) da_nil))) da_nil))))))))) .nil))
      (dss_cons (ds_if (dt_pw (dw_or (dt_isn (de_var (pv 7)) de_non) (dw_or1 (dt_ne hr.units (de_var (pv 5)) (de_lst (da_cons de_bl (da_cons de_bl (da_cons de_bl (da_cons de_bl da_nil))))))))) (dss_one (ds_ret de_bl)) dss_nil)
      (dss_one (ds_ret (de_and (de_isi T.b_isinstance (da_cons (de_var (pv 6)) (da_cons (de_tyn T.b_int bo_int) da_nil))) (de_and (de_not (de_isi T.b_isinstance (da_cons (de_var (pv 6)) (da_cons (de_tyn T.b_bool bo_bool) da_nil)))) (de_one (de_eq hr.units (de_var (pv 6)) (de_var (pv 2)))))))))))))))))))))
set_option maxHeartbeats 8000000 in
theorem ok__law_equals (T : Txt K mg A) : FnD P w K mg base 5 A.f__law_equals A.fd__law_equals ["ring", "names", "others"] (S__law_equals A) := by
  refine fnD (k := 4) (t := t__law_equals K A) T.F__law_equals sc__law_equals (len__law_equals A) (fun cdv A' outer s H E hr => ?_) (pure__law_equals T)
  have tk := takes_of (X := cxOf (L2.CX P w) P w K mg base N__law_equals "_law_equals" (defScope s__law_equals) A.f__law_equals cdv A' outer s H E) rfl rfl rfl rfl
  unfold t__law_equals
  exact (dss_cons (ds_setS (i := 3) sc__law_equals.nd rfl (Or.inl rfl) (de_and (de_eq hr.units (de_len T.b_len (da_cons (de_var (pv 1)) da_nil)) (de_len T.b_len (da_cons (de_var (pv 2)) da_nil))) (de_one (de_eq hr.units (de_len T.b_len (da_cons (de_var (pv 1)) da_nil)) de_int))))
      (dss_cons (ds_for (passes_of rfl) rfl (di_rng1 rfl T.b_range (da_cons (de_len T.b_len (da_cons (de_var (pv 1)) da_nil)) da_nil)) (dg_name sc__law_equals.nd (i := 4) rfl (Or.inl rfl) (Or.inl rfl)) (dss_one (ds_setS (i := 3) sc__law_equals.nd rfl (Or.inl rfl) (de_or (de_var (pv 3)) (de_one (de_eq hr.units (de_var (pv 1)) (de_call (ok__law_from T) (hr.mono (by decide)) T.m__law_from T.k__law_from T.B__law_from tk (da_cons (de_var (pv 2)) (da_cons (de_var (pv 4)) da_nil)))))))))
      (dss_cons (ds_setS (i := 5) sc__law_equals.nd rfl (Or.inl rfl) (de_make T.mk_Round (ok_Round_init T) (hr.mono (by decide)) T.m_Round T.B_Round_init tk (da_cons (de_list T.b_list (da_cons (de_var (pv 2)) da_nil)) da_nil)))
      (dss_cons (ds_for (passes_of rfl) rfl (di_seq (de_lst (da_cons (de_dunEq (op_dunEq T.d_Round_eq (ok_Round_eq T) (hr.mono (by decide)) T.B_Round_eq) (de_var (pv 0)) (de_var (pv 5)) (nomark _)) (da_cons (de_dunEq (op_dunEq T.d_Round_eq (ok_Round_eq T) (hr.mono (by decide)) T.B_Round_eq) (de_var (pv 5)) (de_var (pv 0)) (nomark _)) da_nil)))) (dg_name sc__law_equals.nd (i := 6) rfl (Or.inl rfl) (Or.inl rfl)) (dss_one (ds_if (dt_pw (dw_or (dt_not (dt_truth (de_isi T.b_isinstance (da_cons (de_var (pv 6)) (da_cons (de_tyn T.b_bool bo_bool) da_nil))))) (dw_or1 (dt_ne hr.units (de_var (pv 6)) (de_var (pv 3)))))) (dss_one (ds_ret de_bl)) dss_nil)))
      (dss_one (ds_ret de_bl))))))
set_option maxHeartbeats 8000000 in
theorem ok__law_cut_is (T : Txt K mg A) : FnD P w K mg base 4 A.f__law_cut_is A.fd__law_cut_is ["ring", "names", "name"] (S__law_cut_is A) := by
  refine fnD (k := 3) (t := t__law_cut_is K A) T.F__law_cut_is sc__law_cut_is (len__law_cut_is A) (fun cdv A' outer s H E hr => ?_) (pure__law_cut_is T)
  have tk := takes_of (X := cxOf (L2.CX P w) P w K mg base N__law_cut_is "_law_cut_is" (defScope s__law_cut_is) A.f__law_cut_is cdv A' outer s H E) rfl rfl rfl rfl
  unfold t__law_cut_is
  exact (dss_cons (ds_set (i := 3) sc__law_cut_is.nd rfl (Or.inl rfl) de_non)
      (dss_cons (ds_setS (i := 4) sc__law_cut_is.nd rfl (Or.inl rfl) de_non)
      (dss_cons (ds_setS (i := 5) sc__law_cut_is.nd rfl (Or.inl rfl) (de_lst da_nil))
      (dss_cons (ds_try rfl rfl sc__law_cut_is.nd tk rfl (fun W pn xe tk hpw => (dss_one (ds_set (i := 3) sc__law_cut_is.nd rfl (Or.inl rfl) (de_meth (de_var (pv 0)) T.cl_Round T.me_Round_cut (ok_Round_cut T) (hr.mono (by decide)) T.B_Round_cut tk (da_cons (de_var (pv 2)) da_nil))))) (.named (i := 6) ⟨rfl, by decide, Or.inl T.m_UnknownColumn⟩ rfl rfl (fun a oe cls d pn hz hf => (dss_cons (ds_setS (i := 4) sc__law_cut_is.nd rfl (Or.inl rfl) (de_xf hz hf (fun _ h => by rw [List.mem_singleton.mp h]; exact T.xf_UnknownColumn_name) (de_var (pv 6))))
      (dss_one (ds_setS (i := 5) sc__law_cut_is.nd rfl (Or.inl rfl) (de_lst (da_cons (de_isX hz hf (fun _ h => by rw [List.mem_singleton.mp h]; exact T.xi_UnknownColumn) rfl T.b_isinstance bo_isi (da_cons (de_var (pv 6)) (da_cons (de_cls T.m_RowsError) da_nil))) (da_cons (de_isX hz hf (fun _ h => by rw [List.mem_singleton.mp h]; exact T.xi_UnknownColumn) rfl T.b_isinstance bo_isi (da_cons (de_var (pv 6)) (da_cons (de_tyn T.b_ValueError bo_VE) da_nil))) (da_cons (de_isX hz hf (fun _ h => by rw [List.mem_singleton.mp h]; exact T.xi_UnknownColumn) rfl T.b_isinstance bo_isi (da_cons (de_var (pv 6)) (da_cons (de_cls T.m_Unknown) da_nil))) (da_cons (de_isX hz hf (fun _ h => by rw [List.mem_singleton.mp h]; exact T.xi_UnknownColumn) rfl T.b_isinstance bo_isi (da_cons (de_var (pv 6)) (da_cons (de_cls T.m_Impossible) da_nil))) da_nil))))))))) .nil))
      (dss_cons (ds_setS (i := 7) sc__law_cut_is.nd rfl (Or.inl rfl) (de_dunIn (op_dunIn T.d_Round_contains (ok_Round_contains T) (hr.mono (by decide)) T.B_Round_contains) (de_var (pv 2)) (de_var (pv 0)) (by with_unfolding_all rfl)))
      (dss_cons (ds_if (dt_ne hr.units (de_var (pv 7)) (de_in (de_var (pv 2)) (de_var (pv 1)))) (dss_one (ds_ret de_bl)) dss_nil)
      (dss_cons (ds_if (dt_nin (de_var (pv 2)) (de_var (pv 1))) (dss_one (ds_ret (de_and (de_is (de_var (pv 3)) de_non) (de_and (de_eq hr.units (de_var (pv 4)) (de_var (pv 2))) (de_one (de_eq hr.units (de_var (pv 5)) (de_lst (da_cons de_bl (da_cons de_bl (da_cons de_bl (da_cons de_bl da_nil))))))))))) dss_nil)
      (dss_cons (ds_setS (i := 8) sc__law_cut_is.nd rfl (Or.inl rfl) (de_slice (de_call (ok__law_from T) (hr.mono (by decide)) T.m__law_from T.k__law_from T.B__law_from tk (da_cons (de_var (pv 1)) (da_cons (de_lindex (de_var (pv 1)) (da_cons (de_var (pv 2)) da_nil)) da_nil))) (do_some de_int) do_none))
      (dss_cons (ds_if (dt_pw (dw_or (dt_not (dt_truth (de_isi T.b_isinstance (da_cons (de_var (pv 3)) (da_cons (de_tyn T.b_list bo_list) da_nil))))) (dw_or1 (dt_ne hr.units (de_var (pv 3)) (de_var (pv 8)))))) (dss_one (ds_ret de_bl)) dss_nil)
      (dss_cons (ds_append (pv 3) (da_cons de_str da_nil))
      (dss_one (ds_fz 3 (ds_ret (de_eq hr.units (de_meth (de_var (pv 0)) T.cl_Round T.me_Round_cut (ok_Round_cut T) (hr.mono (by decide)) T.B_Round_cut tk (da_cons (de_var (pv 2)) da_nil)) (de_var (pv 8))))))))))))))))
set_option maxHeartbeats 8000000 in
theorem ok__law_ahead (T : Txt K mg A) : FnD P w K mg base 3 A.f__law_ahead A.fd__law_ahead ["names", "start", "one", "other"] (S__law_ahead A) := by
  refine fnD (k := 2) (t := t__law_ahead K A) T.F__law_ahead sc__law_ahead (len__law_ahead A) (fun cdv A' outer s H E hr => ?_) (pure__law_ahead T)
  have tk := takes_of (X := cxOf (L2.CX P w) P w K mg base N__law_ahead "_law_ahead" (defScope s__law_ahead) A.f__law_ahead cdv A' outer s H E) rfl rfl rfl rfl
  unfold t__law_ahead
  exact (dss_cons (ds_setS (i := 4) sc__law_ahead.nd rfl (Or.inl rfl) (de_call (ok__law_from T) (hr.mono (by decide)) T.m__law_from T.k__law_from T.B__law_from tk (da_cons (de_var (pv 0)) (da_cons (de_lindex (de_var (pv 0)) (da_cons (de_var (pv 1)) da_nil)) da_nil))))
      (dss_one (ds_ret (de_lt (de_lindex (de_var (pv 4)) (da_cons (de_var (pv 2)) da_nil)) (de_lindex (de_var (pv 4)) (da_cons (de_var (pv 3)) da_nil))))))
set_option maxHeartbeats 8000000 in
theorem ok__law_splits_are (T : Txt K mg A) : FnD P w K mg base 6 A.f__law_splits_are A.fd__law_splits_are ["ring", "names", "four"] (S__law_splits_are A) := by
  refine fnD (k := 5) (t := t__law_splits_are K A) T.F__law_splits_are sc__law_splits_are (len__law_splits_are A) (fun cdv A' outer s H E hr => ?_) (pure__law_splits_are T)
  have tk := takes_of (X := cxOf (L2.CX P w) P w K mg base N__law_splits_are "_law_splits_are" (defScope s__law_splits_are) A.f__law_splits_are cdv A' outer s H E) rfl rfl rfl rfl
  unfold t__law_splits_are
  exact (dss_cons (ds_setLcS (own := [("name", 10)]) (i := 10) rfl sc__law_splits_are.nd (j := 3) rfl rfl rfl (di_seq (de_var (pv 2))) (by show blkC N__law_splits_are (defScope s__law_splits_are) _ _ = true; decide +kernel) (fun _ _ _ _ _ => pg_name (i := 10) sc__law_splits_are.nd rfl (Or.inl rfl)) (fun _ _ _ _ _ => dts_one (dt_nin (de_var (pv 10)) (de_var (pv 1)))) (fun _ _ _ _ _ => (de_tup (da_cons de_str (da_cons (de_var (pv 10)) da_nil)))))
      (dss_cons (ds_setS (i := 3) sc__law_splits_are.nd rfl (Or.inl rfl) (de_add (de_var (pv 3)) (de_lc (own := [("k", 11)]) (i := 11) rfl sc__law_splits_are.nd (di_rng1 rfl T.b_range (da_cons de_int da_nil)) (by show blkC N__law_splits_are (defScope s__law_splits_are) _ _ = true; decide +kernel) (fun _ _ _ _ _ => pg_name (i := 11) sc__law_splits_are.nd rfl (Or.inl rfl)) (fun _ _ _ _ _ => dts_one (dt_in (de_ixc (de_var (pv 2)) (de_var (pv 11))) (de_slice (de_var (pv 2)) do_none (do_some (de_var (pv 11)))))) (fun _ _ _ _ _ => (de_tup (da_cons de_str (da_cons (de_ixc (de_var (pv 2)) (de_var (pv 11))) da_nil)))))))
      (dss_cons (ds_setS (i := 4) sc__law_splits_are.nd rfl (Or.inl rfl) de_non)
      (dss_cons (ds_setS (i := 5) sc__law_splits_are.nd rfl (Or.inl rfl) de_non)
      (dss_cons (ds_setS (i := 6) sc__law_splits_are.nd rfl (Or.inl rfl) (de_lst da_nil))
      (dss_cons (ds_try rfl rfl sc__law_splits_are.nd tk rfl (fun W pn xe tk hpw => (dss_one (ds_setS (i := 4) sc__law_splits_are.nd rfl (Or.inl rfl) (de_meth (de_var (pv 0)) T.cl_Round T.me_Round_splits (ok_Round_splits T) (hr.mono (by decide)) T.B_Round_splits tk (da_cons (de_ixc (de_var (pv 2)) de_int) (da_cons (de_ixc (de_var (pv 2)) de_int) (da_cons (de_ixc (de_var (pv 2)) de_int) (da_cons (de_ixc (de_var (pv 2)) de_int) da_nil)))))))) (.named (i := 7) ⟨rfl, by decide, Or.inl T.m_UnknownColumn⟩ rfl rfl (fun a oe cls d pn hz hf => (dss_cons (ds_setS (i := 5) sc__law_splits_are.nd rfl (Or.inl rfl) (de_tup (da_cons de_str (da_cons (de_xf hz hf (fun _ h => by rw [List.mem_singleton.mp h]; exact T.xf_UnknownColumn_name) (de_var (pv 7))) da_nil))))
      (dss_one (ds_setS (i := 6) sc__law_splits_are.nd rfl (Or.inl rfl) (de_lst (da_cons (de_isX hz hf (fun _ h => by rw [List.mem_singleton.mp h]; exact T.xi_UnknownColumn) rfl T.b_isinstance bo_isi (da_cons (de_var (pv 7)) (da_cons (de_cls T.m_RowsError) da_nil))) (da_cons (de_isX hz hf (fun _ h => by rw [List.mem_singleton.mp h]; exact T.xi_UnknownColumn) rfl T.b_isinstance bo_isi (da_cons (de_var (pv 7)) (da_cons (de_cls T.m_Unknown) da_nil))) (da_cons (de_isX hz hf (fun _ h => by rw [List.mem_singleton.mp h]; exact T.xi_UnknownColumn) rfl T.b_isinstance bo_isi (da_cons (de_var (pv 7)) (da_cons (de_cls T.m_Impossible) da_nil))) da_nil)))))))) (.named (i := 7) ⟨rfl, by decide, Or.inl T.m_SameColumn⟩ rfl rfl (fun a oe cls d pn hz hf => (dss_cons (ds_setS (i := 5) sc__law_splits_are.nd rfl (Or.inl rfl) (de_tup (da_cons de_str (da_cons (de_xf hz hf (fun _ h => by rw [List.mem_singleton.mp h]; exact T.xf_SameColumn_name) (de_var (pv 7))) da_nil))))
      (dss_one (ds_setS (i := 6) sc__law_splits_are.nd rfl (Or.inl rfl) (de_lst (da_cons (de_isX hz hf (fun _ h => by rw [List.mem_singleton.mp h]; exact T.xi_SameColumn) rfl T.b_isinstance bo_isi (da_cons (de_var (pv 7)) (da_cons (de_cls T.m_RowsError) da_nil))) (da_cons (de_not (de_isX hz hf (fun _ h => by rw [List.mem_singleton.mp h]; exact T.xi_SameColumn) rfl T.b_isinstance bo_isi (da_cons (de_var (pv 7)) (da_cons (de_cls T.m_Unknown) da_nil)))) (da_cons (de_isX hz hf (fun _ h => by rw [List.mem_singleton.mp h]; exact T.xi_SameColumn) rfl T.b_isinstance bo_isi (da_cons (de_var (pv 7)) (da_cons (de_cls T.m_Impossible) da_nil))) da_nil)))))))) .nil)))
      (dss_cons (ds_if (dt_gt (de_len T.b_len (da_cons (de_var (pv 3)) da_nil)) de_int) (dss_one (ds_ret (de_and (de_is (de_var (pv 4)) de_non) (de_and (de_eq hr.units (de_var (pv 5)) (de_ixc (de_var (pv 3)) de_int)) (de_one (de_eq hr.units (de_var (pv 6)) (de_lst (da_cons de_bl (da_cons de_bl (da_cons de_bl da_nil)))))))))) dss_nil)
      (dss_cons (ds_setS (i := 8) sc__law_splits_are.nd rfl (Or.inl rfl) (de_call (ok__law_ahead T) (hr.mono (by decide)) T.m__law_ahead T.k__law_ahead T.B__law_ahead tk (da_cons (de_var (pv 1)) (da_cons (de_ixc (de_var (pv 2)) de_int) (da_cons (de_ixc (de_var (pv 2)) de_int) (da_cons (de_ixc (de_var (pv 2)) de_int) da_nil))))))
      (dss_cons (ds_setS (i := 9) sc__law_splits_are.nd rfl (Or.inl rfl) (de_call (ok__law_ahead T) (hr.mono (by decide)) T.m__law_ahead T.k__law_ahead T.B__law_ahead tk (da_cons (de_var (pv 1)) (da_cons (de_ixc (de_var (pv 2)) de_int) (da_cons (de_ixc (de_var (pv 2)) de_int) (da_cons (de_ixc (de_var (pv 2)) de_int) da_nil))))))
      (dss_one (ds_ret (de_and (de_isi T.b_isinstance (da_cons (de_var (pv 4)) (da_cons (de_tyn T.b_bool bo_bool) da_nil))) (de_one (de_eq hr.units (de_var (pv 4)) (de_ne hr.units (de_var (pv 8)) (de_var (pv 9)))))))))))))))))
set_option maxHeartbeats 8000000 in
theorem ok__law_refused (T : Txt K mg A) : FnD P w K mg base 7 A.f__law_refused A.fd__law_refused ["names"] (S__law_refused A) := by
  refine fnD (k := 6) (t := t__law_refused K A) T.F__law_refused sc__law_refused (len__law_refused A) (fun cdv A' outer s H E hr => ?_) (pure__law_refused T)
  have tk := takes_of (X := cxOf (L2.CX P w) P w K mg base N__law_refused "_law_refused" (defScope s__law_refused) A.f__law_refused cdv A' outer s H E) rfl rfl rfl rfl
  unfold t__law_refused
  exact (dss_cons (ds_setS (i := 1) sc__law_refused.nd rfl (Or.inl rfl) de_non)
      (dss_cons (ds_for (passes_of rfl) rfl (di_rng1 rfl T.b_range (da_cons (de_len T.b_len (da_cons (de_var (pv 0)) da_nil)) da_nil)) (dg_name sc__law_refused.nd (i := 2) rfl (Or.inl rfl) (Or.inl rfl)) (dss_cons (ds_setS (i := 3) sc__law_refused.nd rfl (Or.inl rfl) (de_ixc (de_var (pv 0)) (de_var (pv 2))))
      (dss_cons (ds_setS (i := 4) sc__law_refused.nd rfl (Or.inl rfl) (de_and (de_eq hr.units (de_stripC (de_var (pv 3)) (da_cons de_str da_nil)) de_str) (de_and (de_lt de_int (de_len T.b_len (da_cons (de_var (pv 3)) da_nil))) (de_one (de_lt (de_len T.b_len (da_cons (de_var (pv 3)) da_nil)) de_int)))))
      (dss_one (ds_if (dt_pw (dw_and (dt_is (de_var (pv 1)) de_non) (dw_and1 (dt_pw (dw_or (dt_not (dt_truth (de_var (pv 4)))) (dw_or1 (dt_in (de_var (pv 3)) (de_slice (de_var (pv 0)) do_none (do_some (de_var (pv 2))))))))))) (dss_one (ds_setS (i := 1) sc__law_refused.nd rfl (Or.inl rfl) (de_var (pv 2)))) dss_nil)))))
      (dss_cons (ds_if (dt_pw (dw_and (dt_is (de_var (pv 1)) de_non) (dw_and1 (dt_gt (de_len T.b_len (da_cons (de_var (pv 0)) da_nil)) de_int)))) (dss_one (ds_setS (i := 1) sc__law_refused.nd rfl (Or.inl rfl) de_int)) dss_nil)
      (dss_cons (ds_setS (i := 5) sc__law_refused.nd rfl (Or.inl rfl) (de_list T.b_list (da_cons (de_var (pv 0)) da_nil)))
      (dss_cons (ds_setS (i := 6) sc__law_refused.nd rfl (Or.inl rfl) de_non)
      (dss_cons (ds_setS (i := 7) sc__law_refused.nd rfl (Or.inl rfl) de_non)
      (dss_cons (ds_setS (i := 8) sc__law_refused.nd rfl (Or.inl rfl) (de_lst da_nil))
      (dss_cons (ds_try rfl rfl sc__law_refused.nd tk rfl (fun W pn xe tk hpw => (dss_one (ds_setS (i := 6) sc__law_refused.nd rfl (Or.inl rfl) (de_make T.mk_Round (ok_Round_init T) (hr.mono (by decide)) T.m_Round T.B_Round_init tk (da_cons (de_var (pv 5)) da_nil))))) (.named (i := 9) ⟨rfl, by decide, Or.inl T.m_BadRound⟩ rfl rfl (fun a oe cls d pn hz hf => (dss_cons (ds_setS (i := 7) sc__law_refused.nd rfl (Or.inl rfl) (de_xf hz hf (fun _ h => by rw [List.mem_singleton.mp h]; exact T.xf_BadRound_index) (de_var (pv 9))))
      (dss_one (ds_setS (i := 8) sc__law_refused.nd rfl (Or.inl rfl) (de_lst (da_cons (de_isX hz hf (fun _ h => by rw [List.mem_singleton.mp h]; exact T.xi_BadRound) rfl T.b_isinstance bo_isi (da_cons (de_var (pv 9)) (da_cons (de_cls T.m_RowsError) da_nil))) (da_cons (de_isX hz hf (fun _ h => by rw [List.mem_singleton.mp h]; exact T.xi_BadRound) rfl T.b_isinstance bo_isi (da_cons (de_var (pv 9)) (da_cons (de_tyn T.b_ValueError bo_VE) da_nil))) (da_cons (de_isX hz hf (fun _ h => by rw [List.mem_singleton.mp h]; exact T.xi_BadRound) rfl T.b_isinstance bo_isi (da_cons (de_var (pv 9)) (da_cons (de_cls T.m_Unknown) da_nil))) (da_cons (de_isX hz hf (fun _ h => by rw [List.mem_singleton.mp h]; exact T.xi_BadRound) rfl T.b_isinstance bo_isi (da_cons (de_var (pv 9)) (da_cons (de_cls T.m_Impossible) da_nil))) da_nil))))))))) .nil))
      (dss_cons (ds_if (dt_ne hr.units (de_var (pv 5)) (de_var (pv 0))) (dss_one (ds_ret de_bl)) dss_nil)
      (dss_cons (ds_if (dt_is (de_var (pv 1)) de_non) (dss_one (ds_ret (de_and (de_isn (de_var (pv 6)) de_non) (de_one (de_eq hr.units (de_listO (k := 2) T.d_Round_iter ((it_Round_iter T).mono (by decide)) T.d_Round_len (FnOk.mono (ok_Round_len T) (by decide)) T.B_Round_len (hr.mono (by decide)) rfl T.b_list bo_list (da_cons (de_var (pv 6)) da_nil)) (de_var (pv 0))))))) dss_nil)
      (dss_cons (ds_if (dt_pw (dw_or (dt_isn (de_var (pv 6)) de_non) (dw_or1 (dt_ne hr.units (de_var (pv 8)) (de_lst (da_cons de_bl (da_cons de_bl (da_cons de_bl (da_cons de_bl da_nil))))))))) (dss_one (ds_ret de_bl)) dss_nil)
      (dss_one (ds_ret (de_and (de_isi T.b_isinstance (da_cons (de_var (pv 7)) (da_cons (de_tyn T.b_int bo_int) da_nil))) (de_and (de_not (de_isi T.b_isinstance (da_cons (de_var (pv 7)) (da_cons (de_tyn T.b_bool bo_bool) da_nil)))) (de_one (de_eq hr.units (de_var (pv 7)) (de_var (pv 1)))))))))))))))))))
set_option maxHeartbeats 8000000 in
theorem ok__law_lists_refused (T : Txt K mg A) : FnD P w K mg base 8 A.f__law_lists_refused A.fd__law_lists_refused ["names", "pool"] (S__law_lists_refused A) := by
  refine fnD (k := 7) (t := t__law_lists_refused K A) T.F__law_lists_refused sc__law_lists_refused (len__law_lists_refused A) (fun cdv A' outer s H E hr => ?_) (pure__law_lists_refused T)
  have tk := takes_of (X := cxOf (L2.CX P w) P w K mg base N__law_lists_refused "_law_lists_refused" (defScope s__law_lists_refused) A.f__law_lists_refused cdv A' outer s H E) rfl rfl rfl rfl
  unfold t__law_lists_refused
  exact (dss_cons (ds_setS (i := 2) sc__law_lists_refused.nd rfl (Or.inl rfl) de_str)
      (dss_cons (ds_setS (i := 3) sc__law_lists_refused.nd rfl (Or.inl rfl) (de_ixc (de_lst (da_cons de_str (da_cons de_str (da_cons de_str (da_cons (de_add (de_add de_str (de_ixc (de_var (pv 2)) (de_mod (de_int1 T.b_int (da_cons (de_ixc (de_var (pv 1)) de_int) da_nil)) (de_len T.b_len (da_cons (de_var (pv 2)) da_nil))))) de_str) (da_cons de_str (da_cons de_str da_nil))))))) (de_mod (de_int1 T.b_int (da_cons (de_ixc (de_var (pv 1)) de_int) da_nil)) de_int)))
      (dss_cons (ds_set (i := 4) sc__law_lists_refused.nd rfl (Or.inl rfl) (de_list T.b_list (da_cons (de_var (pv 0)) da_nil)))
      (dss_cons (ds_for (passes_of rfl) rfl (di_rng1 rfl T.b_range (da_cons (de_add de_int (de_mod (de_int1 T.b_int (da_cons (de_ixc (de_var (pv 1)) de_int) da_nil)) de_int)) da_nil)) (dg_name sc__law_lists_refused.nd (i := 5) rfl (Or.inl rfl) (Or.inl rfl)) (dss_one (ds_if (dt_lt (de_len T.b_len (da_cons (de_var (pv 4)) da_nil)) (de_add de_int (de_mod (de_int1 T.b_int (da_cons (de_ixc (de_var (pv 1)) de_int) da_nil)) de_int))) (dss_one (ds_append (pv 4) (da_cons (de_call (ok__law_new T) (hr.mono (by decide)) T.m__law_new T.k__law_new T.B__law_new tk (da_cons (de_var (pv 4)) (da_cons de_str da_nil))) da_nil))) dss_nil)))
      (dss_cons (ds_fz 4 (ds_for (passes_of rfl) rfl (di_seq (de_lst (da_cons (de_list T.b_list (da_cons (de_var (pv 0)) da_nil)) (da_cons (de_var (pv 4)) da_nil)))) (dg_name sc__law_lists_refused.nd (i := 6) rfl (Or.inl rfl) (Or.inl rfl)) (dss_cons (ds_setS (i := 7) sc__law_lists_refused.nd rfl (Or.inl rfl) (de_mod (de_int1 T.b_int (da_cons (de_ixc (de_var (pv 1)) de_int) da_nil)) (de_add (de_len T.b_len (da_cons (de_var (pv 6)) da_nil)) de_int)))
      (dss_cons (ds_setS (i := 8) sc__law_lists_refused.nd rfl (Or.inl rfl) (de_ixc (de_add (de_var (pv 6)) (de_lst (da_cons (de_var (pv 3)) da_nil))) (de_mod (de_int1 T.b_int (da_cons (de_ixc (de_var (pv 1)) de_int) da_nil)) (de_add (de_len T.b_len (da_cons (de_var (pv 6)) da_nil)) de_int))))
      (dss_cons (ds_if (dt_pw (dw_or (dt_not (dt_truth (de_call (ok__law_refused T) (hr.mono (by decide)) T.m__law_refused T.k__law_refused T.B__law_refused tk (da_cons (de_var (pv 6)) da_nil)))) (dw_or1 (dt_not (dt_truth (de_call (ok__law_refused T) (hr.mono (by decide)) T.m__law_refused T.k__law_refused T.B__law_refused tk (da_cons (de_add (de_add (de_slice (de_var (pv 6)) do_none (do_some (de_var (pv 7)))) (de_lst (da_cons (de_var (pv 3)) da_nil))) (de_slice (de_var (pv 6)) (do_some (de_var (pv 7))) do_none)) da_nil))))))) (dss_one (ds_ret de_bl)) dss_nil)
      (dss_cons (ds_if (dt_pw (dw_or (dt_not (dt_truth (de_call (ok__law_refused T) (hr.mono (by decide)) T.m__law_refused T.k__law_refused T.B__law_refused tk (da_cons (de_add (de_add (de_var (pv 6)) (de_slice (de_var (pv 6)) do_none (do_some de_int))) (de_lst (da_cons (de_var (pv 3)) da_nil))) da_nil)))) (dw_or1 (dt_not (dt_truth (de_call (ok__law_refused T) (hr.mono (by decide)) T.m__law_refused T.k__law_refused T.B__law_refused tk (da_cons (de_add (de_add (de_lst (da_cons (de_var (pv 3)) da_nil)) (de_var (pv 6))) (de_slice (de_var (pv 6)) do_none (do_some de_int))) da_nil))))))) (dss_one (ds_ret de_bl)) dss_nil)
      (dss_one (ds_if (dt_pw (dw_or (dt_not (dt_truth (de_call (ok__law_refused T) (hr.mono (by decide)) T.m__law_refused T.k__law_refused T.B__law_refused tk (da_cons (de_add (de_add (de_slice (de_var (pv 6)) do_none (do_some (de_var (pv 7)))) (de_lst (da_cons (de_var (pv 8)) da_nil))) (de_slice (de_var (pv 6)) (do_some (de_var (pv 7))) do_none)) da_nil)))) (dw_or1 (dt_not (dt_truth (de_call (ok__law_refused T) (hr.mono (by decide)) T.m__law_refused T.k__law_refused T.B__law_refused tk (da_cons (de_add (de_add (de_slice (de_var (pv 6)) do_none (do_some (de_var (pv 7)))) (de_lst (da_cons (de_var (pv 3)) da_nil))) (de_slice (de_var (pv 6)) (do_some (de_add (de_var (pv 7)) de_int)) do_none)) da_nil))))))) (dss_one (ds_ret de_bl)) dss_nil))))))))
      (dss_one (ds_ret de_bl)))))))
set_option maxHeartbeats 8000000 in
theorem ok_law (T : Txt K mg A) : FnD P w K mg base 9 A.f_law A.fd_law ["script"] (S_law A) := by
  refine fnD (k := 8) (t := t_law K A) T.F_law sc_law (len_law A) (fun cdv A' outer s H E hr => ?_) (pure_law T)
  have tk := takes_of (X := cxOf (L2.CX P w) P w K mg base N_law "law" (defScope s_law) A.f_law cdv A' outer s H E) rfl rfl rfl rfl
  unfold t_law
  exact (dss_cons (ds_setS (i := 1) sc_law.nd rfl (Or.inl rfl) (de_call (ok__law_pool T) (hr.mono (by decide)) T.m__law_pool T.k__law_pool T.B__law_pool tk (da_cons (de_var (pv 0)) (da_cons de_int (da_cons de_int da_nil)))))
      (dss_cons (ds_setS (i := 2) sc_law.nd rfl (Or.inr rfl) (de_call (ok__law_pool T) (hr.mono (by decide)) T.m__law_pool T.k__law_pool T.B__law_pool tk (da_cons (de_var (pv 0)) (da_cons de_int (da_cons de_int da_nil)))))
      (dss_cons (ds_set (i := 3) sc_law.nd rfl (Or.inl rfl) (de_lst da_nil))
      (dss_cons (ds_for (passes_of rfl) rfl (di_rng1 rfl T.b_range (da_cons (de_ixc (de_lst (da_cons de_int (da_cons de_int (da_cons de_int (da_cons de_int (da_cons de_int (da_cons de_int (da_cons de_int (da_cons de_int (da_cons de_int (da_cons de_int (da_cons de_int (da_cons de_int (da_cons de_int da_nil)))))))))))))) (de_mod (de_int1 T.b_int (da_cons (de_ixc (de_var (pv 1)) de_int) da_nil)) de_int)) da_nil)) (dg_name sc_law.nd (i := 4) rfl (Or.inl rfl) (Or.inl rfl)) (dss_one (ds_append (pv 3) (da_cons (de_call (ok__law_new T) (hr.mono (by decide)) T.m__law_new T.k__law_new T.B__law_new tk (da_cons (de_var (pv 3)) (da_cons (de_call (ok__law_word T) (hr.mono (by decide)) T.m__law_word T.k__law_word T.B__law_word tk (da_cons (de_var (pv 1)) (da_cons (de_add de_int (de_mul de_int (de_var (pv 4)))) da_nil))) da_nil))) da_nil))))
      (dss_cons (ds_fz 3 (ds_set (i := 5) sc_law.nd rfl (Or.inl rfl) (de_list T.b_list (da_cons (de_var (pv 3)) da_nil))))
      (dss_cons (ds_setS (i := 6) sc_law.nd rfl (Or.inl rfl) (de_make T.mk_Round (ok_Round_init T) (hr.mono (by decide)) T.m_Round T.B_Round_init tk (da_cons (de_var (pv 5)) da_nil)))
      (dss_cons (ds_append (pv 5) (da_cons de_str da_nil))
      (dss_cons (ds_fz 5 (ds_setS (i := 7) sc_law.nd rfl (Or.inl rfl) (de_call (ok__law_new T) (hr.mono (by decide)) T.m__law_new T.k__law_new T.B__law_new tk (da_cons (de_var (pv 3)) (da_cons (de_call (ok__law_word T) (hr.mono (by decide)) T.m__law_word T.k__law_word T.B__law_word tk (da_cons (de_var (pv 1)) (da_cons de_int da_nil))) da_nil)))))
      (dss_cons (ds_if (dt_pw (dw_or (dt_not (dt_truth (de_call (ok__law_is_round T) (hr.mono (by decide)) T.m__law_is_round T.k__law_is_round T.B__law_is_round tk (da_cons (de_var (pv 6)) (da_cons (de_var (pv 3)) da_nil))))) (dw_or1 (dt_not (dt_truth (de_call (ok__law_is_round T) (hr.mono (by decide)) T.m__law_is_round T.k__law_is_round T.B__law_is_round tk (da_cons (de_inv T.d_Round_invert (ok_Round_invert T) (hr.mono (by decide)) T.B_Round_invert (de_var (pv 6))) (da_cons (de_call (ok__law_back T) (hr.mono (by decide)) T.m__law_back T.k__law_back T.B__law_back tk (da_cons (de_var (pv 3)) da_nil)) da_nil)))))))) (dss_one (ds_ret de_bl)) dss_nil)
      (dss_cons (ds_if (dt_pw (dw_or (dt_not (dt_truth (de_call (ok__law_is_round T) (hr.mono (by decide)) T.m__law_is_round T.k__law_is_round T.B__law_is_round tk (da_cons (de_inv T.d_Round_invert (ok_Round_invert T) (hr.mono (by decide)) T.B_Round_invert (de_inv T.d_Round_invert (ok_Round_invert T) (hr.mono (by decide)) T.B_Round_invert (de_var (pv 6)))) (da_cons (de_var (pv 3)) da_nil))))) (dw_or1 (dt_not (dt_truth (de_call (ok__law_is_round T) (hr.mono (by decide)) T.m__law_is_round T.k__law_is_round T.B__law_is_round tk (da_cons (de_make T.mk_Round (ok_Round_init T) (hr.mono (by decide)) T.m_Round T.B_Round_init tk (da_cons (de_tuple T.b_tuple (da_cons (de_var (pv 3)) da_nil)) da_nil)) (da_cons (de_var (pv 3)) da_nil)))))))) (dss_one (ds_ret de_bl)) dss_nil)
      (dss_cons (ds_for (passes_of rfl) rfl (di_seq (de_lst (da_cons (de_call (ok__law_whole T) (hr.mono (by decide)) T.m__law_whole T.k__law_whole T.B__law_whole tk (da_cons (de_var (pv 1)) (da_cons de_int da_nil))) (da_cons (de_call (ok__law_whole T) (hr.mono (by decide)) T.m__law_whole T.k__law_whole T.B__law_whole tk (da_cons (de_var (pv 1)) (da_cons de_int da_nil))) (da_cons de_int (da_cons de_int da_nil)))))) (dg_name sc_law.nd (i := 8) rfl (Or.inl rfl) (Or.inl rfl)) (dss_one (ds_if (dt_not (dt_truth (de_call (ok__law_turns T) (hr.mono (by decide)) T.m__law_turns T.k__law_turns T.B__law_turns tk (da_cons (de_var (pv 6)) (da_cons (de_var (pv 3)) (da_cons (de_var (pv 8)) da_nil)))))) (dss_one (ds_ret de_bl)) dss_nil)))
      (dss_cons (ds_setS (i := 9) sc_law.nd rfl (Or.inl rfl) (de_call (ok__law_sequence T) (hr.mono (by decide)) T.m__law_sequence T.k__law_sequence T.B__law_sequence tk (da_cons (de_var (pv 3)) (da_cons (de_add (de_mul (de_ixc (de_var (pv 2)) de_int) de_int) (de_ixc (de_var (pv 2)) de_int)) da_nil))))
      (dss_cons (ds_if (dt_pw (dw_or (dt_not (dt_truth (de_call (ok__law_equals T) (hr.mono (by decide)) T.m__law_equals T.k__law_equals T.B__law_equals tk (da_cons (de_var (pv 6)) (da_cons (de_var (pv 3)) (da_cons (de_var (pv 9)) da_nil)))))) (dw_or1 (dt_not (dt_truth (de_call (ok__law_equals T) (hr.mono (by decide)) T.m__law_equals T.k__law_equals T.B__law_equals tk (da_cons (de_var (pv 6)) (da_cons (de_var (pv 3)) (da_cons (de_revL (de_var (pv 3))) da_nil))))))))) (dss_one (ds_ret de_bl)) dss_nil)
      (dss_cons (ds_if (dt_pw (dw_or (dt_not (dt_truth (de_call (ok__law_equals T) (hr.mono (by decide)) T.m__law_equals T.k__law_equals T.B__law_equals tk (da_cons (de_var (pv 6)) (da_cons (de_var (pv 3)) (da_cons (de_slice (de_var (pv 3)) (do_some de_int) do_none) da_nil)))))) (dw_or1 (dt_not (dt_truth (de_call (ok__law_equals T) (hr.mono (by decide)) T.m__law_equals T.k__law_equals T.B__law_equals tk (da_cons (de_var (pv 6)) (da_cons (de_var (pv 3)) (da_cons (de_add (de_slice (de_var (pv 3)) (do_some de_int) do_none) (de_lst (da_cons (de_var (pv 7)) da_nil))) da_nil))))))))) (dss_one (ds_ret de_bl)) dss_nil)
      (dss_cons (ds_if (dt_not (dt_truth (de_call (ok__law_equals T) (hr.mono (by decide)) T.m__law_equals T.k__law_equals T.B__law_equals tk (da_cons (de_var (pv 6)) (da_cons (de_var (pv 3)) (da_cons (de_add (de_add (de_slice (de_var (pv 3)) (do_some de_int) (do_some de_int)) (de_slice (de_var (pv 3)) do_none (do_some de_int))) (de_slice (de_var (pv 3)) (do_some de_int) do_none)) da_nil)))))) (dss_one (ds_ret de_bl)) dss_nil)
      (dss_cons (ds_for (passes_of rfl) rfl (di_seq (de_add (de_var (pv 3)) (de_lst (da_cons (de_var (pv 7)) (da_cons de_str da_nil))))) (dg_name sc_law.nd (i := 10) rfl (Or.inl rfl) (Or.inl rfl)) (dss_one (ds_if (dt_not (dt_truth (de_call (ok__law_cut_is T) (hr.mono (by decide)) T.m__law_cut_is T.k__law_cut_is T.B__law_cut_is tk (da_cons (de_var (pv 6)) (da_cons (de_var (pv 3)) (da_cons (de_var (pv 10)) da_nil)))))) (dss_one (ds_ret de_bl)) dss_nil)))
      (dss_cons (ds_setS (i := 11) sc_law.nd rfl (Or.inr rfl) (de_add (de_var (pv 3)) (de_lst (da_cons (de_var (pv 7)) da_nil))))
      (dss_cons (ds_setLcS (own := [("k", 4)]) (i := 4) rfl sc_law.nd (j := 12) rfl rfl rfl (di_rng1 rfl T.b_range (da_cons de_int da_nil)) (by show blkC N_law (defScope s_law) _ _ = true; decide +kernel) (fun _ _ _ _ _ => pg_name (i := 4) sc_law.nd rfl (Or.inl rfl)) (fun _ _ _ _ _ => dts_nil) (fun _ _ _ _ _ => (de_ixc (de_var (pv 11)) (de_mod (de_int1 T.b_int (da_cons (de_ixc (de_var (pv 2)) (de_add de_int (de_var (pv 4)))) da_nil)) (de_len T.b_len (da_cons (de_var (pv 11)) da_nil))))))
      (dss_cons (ds_if (dt_pw (dw_or (dt_not (dt_truth (de_call (ok__law_splits_are T) (hr.mono (by decide)) T.m__law_splits_are T.k__law_splits_are T.B__law_splits_are tk (da_cons (de_var (pv 6)) (da_cons (de_var (pv 3)) (da_cons (de_var (pv 12)) da_nil)))))) (dw_or1 (dt_not (dt_truth (de_call (ok__law_splits_are T) (hr.mono (by decide)) T.m__law_splits_are T.k__law_splits_are T.B__law_splits_are tk (da_cons (de_var (pv 6)) (da_cons (de_var (pv 3)) (da_cons (de_slice (de_add (de_var (pv 9)) (de_var (pv 12))) do_none (do_some de_int)) da_nil))))))))) (dss_one (ds_ret de_bl)) dss_nil)
      (dss_cons (ds_if (dt_pw (dw_or (dt_not (dt_truth (de_call (ok__law_splits_are T) (hr.mono (by decide)) T.m__law_splits_are T.k__law_splits_are T.B__law_splits_are tk (da_cons (de_var (pv 6)) (da_cons (de_var (pv 3)) (da_cons (de_slice (de_add (de_var (pv 3)) (de_var (pv 12))) do_none (do_some de_int)) da_nil)))))) (dw_or1 (dt_not (dt_truth (de_call (ok__law_lists_refused T) (hr.mono (by decide)) T.m__law_lists_refused T.k__law_lists_refused T.B__law_lists_refused tk (da_cons (de_var (pv 3)) (da_cons (de_slice (de_var (pv 2)) (do_some de_int) do_none) da_nil)))))))) (dss_one (ds_ret de_bl)) dss_nil)
      (dss_one (ds_ret (de_and (de_call (ok__law_is_round T) (hr.mono (by decide)) T.m__law_is_round T.k__law_is_round T.B__law_is_round tk (da_cons (de_var (pv 6)) (da_cons (de_var (pv 3)) da_nil))) (de_one (de_call (ok__law_turns T) (hr.mono (by decide)) T.m__law_turns T.k__law_turns T.B__law_turns tk (da_cons (de_var (pv 6)) (da_cons (de_var (pv 3)) (da_cons (de_call (ok__law_whole T) (hr.mono (by decide)) T.m__law_whole T.k__law_whole T.B__law_whole tk (da_cons (de_var (pv 1)) (da_cons de_int da_nil))) da_nil))))))))))))))))))))))))))))
end
end K09
/-! K09: what the top has written, and the law. Printed by gen.py. -/
namespace K09
open PySem L2 DL PySem.Spec

theorem kit_ref {K : PySem.W.Frag} {t : Value} {C : Addr} {b : Bool} (ne : (t == .ref C) = false) (h1 : PySem.W.isClsIn K C = true) (h2 : PySem.W.typeIn K (.ref C) = some (.type "type")) (h3 : PySem.W.subIn K t (.ref C) = some b) : PySem.W.kitOne K t (.ref C) = some b := by
  have e : ((PySem.W.clsIn K C).isSome && PySem.W.typeIn K (.ref C) == some (.type "type")) = true := by
    have h1' : (PySem.W.clsIn K C).isSome = true := h1
    rw [h1', h2] <;> rfl
  unfold PySem.W.kitOne
  rw [ne, if_neg Bool.false_ne_true]
  show (if ((PySem.W.clsIn K C).isSome && PySem.W.typeIn K (.ref C) == some (.type "type")) = true then PySem.W.subIn K t (.ref C) else Option.none) = some b
  rw [if_pos e]
  exact h3
theorem kit_tyE {K : PySem.W.Frag} {C : Addr} {T : String} {b : Bool} (hT : PySem.W.kitMeta T = true) (h3 : PySem.W.subIn K (.ref C) (.type T) = some b) : PySem.W.kitOne K (.ref C) (.type T) = some b := by
  unfold PySem.W.kitOne
  rw [if_neg (show ¬ ((Value.ref C == Value.type T) = true) from by simp)]
  show (if PySem.W.kitMeta T = true then PySem.W.subIn K (.ref C) (.type T) else Option.none) = some b
  rw [if_pos hT]
  exact h3
theorem kit_self {K : PySem.W.Frag} {t : Value} : PySem.W.kitOne K t t = some true := by
  unfold PySem.W.kitOne
  rw [if_pos (beq_self_eq_true t)]
theorem exm_ref {K : PySem.W.Frag} {t : Value} {C : Addr} {b : Bool} (h0 : PySem.W.subIn K (.ref C) (.type "BaseException") = some true) (h1 : PySem.W.isClsIn K C = true) (h2 : PySem.W.typeIn K (.ref C) = some (.type "type")) (h3 : PySem.W.subIn K t (.ref C) = some b) : PySem.W.exmOne K t (.ref C) = some b := by
  have e1 : (PySem.W.subIn K (.ref C) (.type "BaseException") == some true) = true := by rw [h0] <;> rfl
  have e : ((PySem.W.clsIn K C).isSome && PySem.W.typeIn K (.ref C) == some (.type "type")) = true := by
    have h1' : (PySem.W.clsIn K C).isSome = true := h1
    rw [h1', h2] <;> rfl
  show (if (PySem.W.subIn K (.ref C) (.type "BaseException") == some true) = true then (if ((PySem.W.clsIn K C).isSome && PySem.W.typeIn K (.ref C) == some (.type "type")) = true then PySem.W.subIn K t (.ref C) else Option.none) else Option.none) = some b
  rw [if_pos e1, if_pos e]
  exact h3
theorem all_mk {P : Program} {w : World} {K : PySem.W.Frag} {h : Heap} {mg : Str → Option Value} {fa : Addr} (X : K.In h) (G : h.Ns mainGlobals mg) (hfa : mg "law" = some (.ref fa))
    {c_RowsError : Addr}
    {c_Unknown : Addr}
    {c_Impossible : Addr}
    {c_UnknownColumn : Addr}
    {c_BadRound : Addr}
    {c_BadNumber : Addr}
    {c_SameColumn : Addr}
    {c_Round : Addr}
    {f_UnknownColumn_init : Addr} {od_UnknownColumn_init an_UnknownColumn_init : Option Addr} {sl_UnknownColumn_init : Array (Option Value)} {oc_UnknownColumn_init kV_UnknownColumn_init dc_UnknownColumn_init pm_UnknownColumn_init cd_UnknownColumn_init ct_UnknownColumn_init : Value}
    {f_BadRound_init : Addr} {od_BadRound_init an_BadRound_init : Option Addr} {sl_BadRound_init : Array (Option Value)} {oc_BadRound_init kV_BadRound_init dc_BadRound_init pm_BadRound_init cd_BadRound_init ct_BadRound_init : Value}
    {f_BadNumber_init : Addr} {od_BadNumber_init an_BadNumber_init : Option Addr} {sl_BadNumber_init : Array (Option Value)} {oc_BadNumber_init kV_BadNumber_init dc_BadNumber_init pm_BadNumber_init cd_BadNumber_init ct_BadNumber_init : Value}
    {f_SameColumn_init : Addr} {od_SameColumn_init an_SameColumn_init : Option Addr} {sl_SameColumn_init : Array (Option Value)} {oc_SameColumn_init kV_SameColumn_init dc_SameColumn_init pm_SameColumn_init cd_SameColumn_init ct_SameColumn_init : Value}
    {f_is_name : Addr} {od_is_name an_is_name : Option Addr} {sl_is_name : Array (Option Value)} {oc_is_name kV_is_name dc_is_name pm_is_name cd_is_name ct_is_name : Value}
    {f_check_known : Addr} {od_check_known an_check_known : Option Addr} {sl_check_known : Array (Option Value)} {oc_check_known kV_check_known dc_check_known pm_check_known cd_check_known ct_check_known : Value}
    {f_check_different : Addr} {od_check_different an_check_different : Option Addr} {sl_check_different : Array (Option Value)} {oc_check_different kV_check_different dc_check_different pm_check_different cd_check_different ct_check_different : Value}
    {f_Round_init : Addr} {od_Round_init an_Round_init : Option Addr} {sl_Round_init : Array (Option Value)} {oc_Round_init kV_Round_init dc_Round_init pm_Round_init cd_Round_init ct_Round_init : Value}
    {f_Round_len : Addr} {od_Round_len an_Round_len : Option Addr} {sl_Round_len : Array (Option Value)} {oc_Round_len kV_Round_len dc_Round_len pm_Round_len cd_Round_len ct_Round_len : Value}
    {f_Round_iter : Addr} {od_Round_iter an_Round_iter : Option Addr} {sl_Round_iter : Array (Option Value)} {oc_Round_iter kV_Round_iter dc_Round_iter pm_Round_iter cd_Round_iter ct_Round_iter : Value}
    {f_Round_contains : Addr} {od_Round_contains an_Round_contains : Option Addr} {sl_Round_contains : Array (Option Value)} {oc_Round_contains kV_Round_contains dc_Round_contains pm_Round_contains cd_Round_contains ct_Round_contains : Value}
    {f_Round_getitem : Addr} {od_Round_getitem an_Round_getitem : Option Addr} {sl_Round_getitem : Array (Option Value)} {oc_Round_getitem kV_Round_getitem dc_Round_getitem pm_Round_getitem cd_Round_getitem ct_Round_getitem : Value}
    {f_Round_lshift : Addr} {od_Round_lshift an_Round_lshift : Option Addr} {sl_Round_lshift : Array (Option Value)} {oc_Round_lshift kV_Round_lshift dc_Round_lshift pm_Round_lshift cd_Round_lshift ct_Round_lshift : Value}
    {f_Round_rshift : Addr} {od_Round_rshift an_Round_rshift : Option Addr} {sl_Round_rshift : Array (Option Value)} {oc_Round_rshift kV_Round_rshift dc_Round_rshift pm_Round_rshift cd_Round_rshift ct_Round_rshift : Value}
    {f_Round_invert : Addr} {od_Round_invert an_Round_invert : Option Addr} {sl_Round_invert : Array (Option Value)} {oc_Round_invert kV_Round_invert dc_Round_invert pm_Round_invert cd_Round_invert ct_Round_invert : Value}
    {f_Round_eq : Addr} {od_Round_eq an_Round_eq : Option Addr} {sl_Round_eq : Array (Option Value)} {oc_Round_eq kV_Round_eq dc_Round_eq pm_Round_eq cd_Round_eq ct_Round_eq : Value}
    {f_Round_cut : Addr} {od_Round_cut an_Round_cut : Option Addr} {sl_Round_cut : Array (Option Value)} {oc_Round_cut kV_Round_cut dc_Round_cut pm_Round_cut cd_Round_cut ct_Round_cut : Value}
    {f_Round_splits : Addr} {od_Round_splits an_Round_splits : Option Addr} {sl_Round_splits : Array (Option Value)} {oc_Round_splits kV_Round_splits dc_Round_splits pm_Round_splits cd_Round_splits ct_Round_splits : Value}
    {f__law_cell : Addr} {od__law_cell an__law_cell : Option Addr} {sl__law_cell : Array (Option Value)} {oc__law_cell kV__law_cell dc__law_cell pm__law_cell cd__law_cell ct__law_cell : Value}
    {f__law_pool : Addr} {od__law_pool an__law_pool : Option Addr} {sl__law_pool : Array (Option Value)} {oc__law_pool kV__law_pool dc__law_pool pm__law_pool cd__law_pool ct__law_pool : Value}
    {f__law_whole : Addr} {od__law_whole an__law_whole : Option Addr} {sl__law_whole : Array (Option Value)} {oc__law_whole kV__law_whole dc__law_whole pm__law_whole cd__law_whole ct__law_whole : Value}
    {f__law_word : Addr} {od__law_word an__law_word : Option Addr} {sl__law_word : Array (Option Value)} {oc__law_word kV__law_word dc__law_word pm__law_word cd__law_word ct__law_word : Value}
    {f__law_new : Addr} {od__law_new an__law_new : Option Addr} {sl__law_new : Array (Option Value)} {oc__law_new kV__law_new dc__law_new pm__law_new cd__law_new ct__law_new : Value}
    {f__law_sequence : Addr} {od__law_sequence an__law_sequence : Option Addr} {sl__law_sequence : Array (Option Value)} {oc__law_sequence kV__law_sequence dc__law_sequence pm__law_sequence cd__law_sequence ct__law_sequence : Value}
    {f__law_from : Addr} {od__law_from an__law_from : Option Addr} {sl__law_from : Array (Option Value)} {oc__law_from kV__law_from dc__law_from pm__law_from cd__law_from ct__law_from : Value}
    {f__law_back : Addr} {od__law_back an__law_back : Option Addr} {sl__law_back : Array (Option Value)} {oc__law_back kV__law_back dc__law_back pm__law_back cd__law_back ct__law_back : Value}
    {f__law_is_round : Addr} {od__law_is_round an__law_is_round : Option Addr} {sl__law_is_round : Array (Option Value)} {oc__law_is_round kV__law_is_round dc__law_is_round pm__law_is_round cd__law_is_round ct__law_is_round : Value}
    {f__law_turned_right : Addr} {od__law_turned_right an__law_turned_right : Option Addr} {sl__law_turned_right : Array (Option Value)} {oc__law_turned_right kV__law_turned_right dc__law_turned_right pm__law_turned_right cd__law_turned_right ct__law_turned_right : Value}
    {f__law_turns : Addr} {od__law_turns an__law_turns : Option Addr} {sl__law_turns : Array (Option Value)} {oc__law_turns kV__law_turns dc__law_turns pm__law_turns cd__law_turns ct__law_turns : Value}
    {f__law_equals : Addr} {od__law_equals an__law_equals : Option Addr} {sl__law_equals : Array (Option Value)} {oc__law_equals kV__law_equals dc__law_equals pm__law_equals cd__law_equals ct__law_equals : Value}
    {f__law_cut_is : Addr} {od__law_cut_is an__law_cut_is : Option Addr} {sl__law_cut_is : Array (Option Value)} {oc__law_cut_is kV__law_cut_is dc__law_cut_is pm__law_cut_is cd__law_cut_is ct__law_cut_is : Value}
    {f__law_ahead : Addr} {od__law_ahead an__law_ahead : Option Addr} {sl__law_ahead : Array (Option Value)} {oc__law_ahead kV__law_ahead dc__law_ahead pm__law_ahead cd__law_ahead ct__law_ahead : Value}
    {f__law_splits_are : Addr} {od__law_splits_are an__law_splits_are : Option Addr} {sl__law_splits_are : Array (Option Value)} {oc__law_splits_are kV__law_splits_are dc__law_splits_are pm__law_splits_are cd__law_splits_are ct__law_splits_are : Value}
    {f__law_refused : Addr} {od__law_refused an__law_refused : Option Addr} {sl__law_refused : Array (Option Value)} {oc__law_refused kV__law_refused dc__law_refused pm__law_refused cd__law_refused ct__law_refused : Value}
    {f__law_lists_refused : Addr} {od__law_lists_refused an__law_lists_refused : Option Addr} {sl__law_lists_refused : Array (Option Value)} {oc__law_lists_refused kV__law_lists_refused dc__law_lists_refused pm__law_lists_refused cd__law_lists_refused ct__law_lists_refused : Value}
    {f_law : Addr} {od_law an_law : Option Addr} {sl_law : Array (Option Value)} {oc_law kV_law dc_law pm_law cd_law ct_law : Value}
    {tok_LETTERS : Tok}
    {tok_LONGEST_NAME : Tok}
    {tok_MOST_NAMES : Tok}
    {nm_BadNumber q_BadNumber : Str} {N_BadNumber : Addr} {bs_BadNumber bm_BadNumber : List Value} {sn_BadNumber : List Str} {sub_BadNumber : List Value} {ab_BadNumber : Bool} {col_BadNumber : Option Bool} {dd_BadNumber : Option Addr} {m0_BadNumber m1_BadNumber m2_BadNumber m3_BadNumber m5_BadNumber : Option Value}
    {nm_BadRound q_BadRound : Str} {N_BadRound : Addr} {bs_BadRound bm_BadRound : List Value} {sn_BadRound : List Str} {sub_BadRound : List Value} {ab_BadRound : Bool} {col_BadRound : Option Bool} {dd_BadRound : Option Addr} {m0_BadRound m1_BadRound m2_BadRound m3_BadRound m5_BadRound : Option Value}
    {nm_SameColumn q_SameColumn : Str} {N_SameColumn : Addr} {bs_SameColumn bm_SameColumn : List Value} {sn_SameColumn : List Str} {sub_SameColumn : List Value} {ab_SameColumn : Bool} {col_SameColumn : Option Bool} {dd_SameColumn : Option Addr} {m0_SameColumn m1_SameColumn m2_SameColumn m3_SameColumn m5_SameColumn : Option Value}
    {nm_UnknownColumn q_UnknownColumn : Str} {N_UnknownColumn : Addr} {bs_UnknownColumn bm_UnknownColumn : List Value} {sn_UnknownColumn : List Str} {sub_UnknownColumn : List Value} {ab_UnknownColumn : Bool} {col_UnknownColumn : Option Bool} {dd_UnknownColumn : Option Addr} {m0_UnknownColumn m1_UnknownColumn m2_UnknownColumn m3_UnknownColumn m5_UnknownColumn : Option Value}
    (aC_RowsError : PySem.W.nsIn K mainGlobals "RowsError" = some (some (.ref c_RowsError)))
    (aC_Unknown : PySem.W.nsIn K mainGlobals "Unknown" = some (some (.ref c_Unknown)))
    (aC_Impossible : PySem.W.nsIn K mainGlobals "Impossible" = some (some (.ref c_Impossible)))
    (aC_UnknownColumn : PySem.W.nsIn K mainGlobals "UnknownColumn" = some (some (.ref c_UnknownColumn)))
    (aC_BadRound : PySem.W.nsIn K mainGlobals "BadRound" = some (some (.ref c_BadRound)))
    (aC_BadNumber : PySem.W.nsIn K mainGlobals "BadNumber" = some (some (.ref c_BadNumber)))
    (aC_SameColumn : PySem.W.nsIn K mainGlobals "SameColumn" = some (some (.ref c_SameColumn)))
    (aC_Round : PySem.W.nsIn K mainGlobals "Round" = some (some (.ref c_Round)))
    (a_UnknownColumn_init : PySem.W.findIn K (.ref c_UnknownColumn) "__init__" = some (some (.ref f_UnknownColumn_init)))
    (i_UnknownColumn_init : PySem.W.isFn K (.ref f_UnknownColumn_init) = true)
    (l_UnknownColumn_init : K.lookup f_UnknownColumn_init = some ⟨oc_UnknownColumn_init, od_UnknownColumn_init, .func (PySem.W.fnOf "__init__" "UnknownColumn.__init__" (defArgs s_UnknownColumn_init) (defBody s_UnknownColumn_init) (defScope s_UnknownColumn_init) .none kV_UnknownColumn_init dc_UnknownColumn_init pm_UnknownColumn_init an_UnknownColumn_init cd_UnknownColumn_init ct_UnknownColumn_init), sl_UnknownColumn_init⟩)
    (h_UnknownColumn_init : PySem.W.codeIn K cd_UnknownColumn_init "UnknownColumn.__init__" = true)
    (k_UnknownColumn_init : PySem.W.keepIn K (.ref f_UnknownColumn_init) = true)
    (a_BadRound_init : PySem.W.findIn K (.ref c_BadRound) "__init__" = some (some (.ref f_BadRound_init)))
    (i_BadRound_init : PySem.W.isFn K (.ref f_BadRound_init) = true)
    (l_BadRound_init : K.lookup f_BadRound_init = some ⟨oc_BadRound_init, od_BadRound_init, .func (PySem.W.fnOf "__init__" "BadRound.__init__" (defArgs s_BadRound_init) (defBody s_BadRound_init) (defScope s_BadRound_init) .none kV_BadRound_init dc_BadRound_init pm_BadRound_init an_BadRound_init cd_BadRound_init ct_BadRound_init), sl_BadRound_init⟩)
    (h_BadRound_init : PySem.W.codeIn K cd_BadRound_init "BadRound.__init__" = true)
    (k_BadRound_init : PySem.W.keepIn K (.ref f_BadRound_init) = true)
    (a_BadNumber_init : PySem.W.findIn K (.ref c_BadNumber) "__init__" = some (some (.ref f_BadNumber_init)))
    (i_BadNumber_init : PySem.W.isFn K (.ref f_BadNumber_init) = true)
    (l_BadNumber_init : K.lookup f_BadNumber_init = some ⟨oc_BadNumber_init, od_BadNumber_init, .func (PySem.W.fnOf "__init__" "BadNumber.__init__" (defArgs s_BadNumber_init) (defBody s_BadNumber_init) (defScope s_BadNumber_init) .none kV_BadNumber_init dc_BadNumber_init pm_BadNumber_init an_BadNumber_init cd_BadNumber_init ct_BadNumber_init), sl_BadNumber_init⟩)
    (h_BadNumber_init : PySem.W.codeIn K cd_BadNumber_init "BadNumber.__init__" = true)
    (k_BadNumber_init : PySem.W.keepIn K (.ref f_BadNumber_init) = true)
    (a_SameColumn_init : PySem.W.findIn K (.ref c_SameColumn) "__init__" = some (some (.ref f_SameColumn_init)))
    (i_SameColumn_init : PySem.W.isFn K (.ref f_SameColumn_init) = true)
    (l_SameColumn_init : K.lookup f_SameColumn_init = some ⟨oc_SameColumn_init, od_SameColumn_init, .func (PySem.W.fnOf "__init__" "SameColumn.__init__" (defArgs s_SameColumn_init) (defBody s_SameColumn_init) (defScope s_SameColumn_init) .none kV_SameColumn_init dc_SameColumn_init pm_SameColumn_init an_SameColumn_init cd_SameColumn_init ct_SameColumn_init), sl_SameColumn_init⟩)
    (h_SameColumn_init : PySem.W.codeIn K cd_SameColumn_init "SameColumn.__init__" = true)
    (k_SameColumn_init : PySem.W.keepIn K (.ref f_SameColumn_init) = true)
    (a_is_name : PySem.W.nsIn K mainGlobals "is_name" = some (some (.ref f_is_name)))
    (l_is_name : K.lookup f_is_name = some ⟨oc_is_name, od_is_name, .func (PySem.W.fnOf "is_name" "is_name" (defArgs s_is_name) (defBody s_is_name) (defScope s_is_name) .none kV_is_name dc_is_name pm_is_name an_is_name cd_is_name ct_is_name), sl_is_name⟩)
    (h_is_name : PySem.W.codeIn K cd_is_name "is_name" = true)
    (k_is_name : PySem.W.keepIn K (.ref f_is_name) = true)
    (a_check_known : PySem.W.nsIn K mainGlobals "check_known" = some (some (.ref f_check_known)))
    (l_check_known : K.lookup f_check_known = some ⟨oc_check_known, od_check_known, .func (PySem.W.fnOf "check_known" "check_known" (defArgs s_check_known) (defBody s_check_known) (defScope s_check_known) .none kV_check_known dc_check_known pm_check_known an_check_known cd_check_known ct_check_known), sl_check_known⟩)
    (h_check_known : PySem.W.codeIn K cd_check_known "check_known" = true)
    (k_check_known : PySem.W.keepIn K (.ref f_check_known) = true)
    (a_check_different : PySem.W.nsIn K mainGlobals "check_different" = some (some (.ref f_check_different)))
    (l_check_different : K.lookup f_check_different = some ⟨oc_check_different, od_check_different, .func (PySem.W.fnOf "check_different" "check_different" (defArgs s_check_different) (defBody s_check_different) (defScope s_check_different) .none kV_check_different dc_check_different pm_check_different an_check_different cd_check_different ct_check_different), sl_check_different⟩)
    (h_check_different : PySem.W.codeIn K cd_check_different "check_different" = true)
    (k_check_different : PySem.W.keepIn K (.ref f_check_different) = true)
    (a_Round_init : PySem.W.findIn K (.ref c_Round) "__init__" = some (some (.ref f_Round_init)))
    (i_Round_init : PySem.W.isFn K (.ref f_Round_init) = true)
    (l_Round_init : K.lookup f_Round_init = some ⟨oc_Round_init, od_Round_init, .func (PySem.W.fnOf "__init__" "Round.__init__" (defArgs s_Round_init) (defBody s_Round_init) (defScope s_Round_init) .none kV_Round_init dc_Round_init pm_Round_init an_Round_init cd_Round_init ct_Round_init), sl_Round_init⟩)
    (h_Round_init : PySem.W.codeIn K cd_Round_init "Round.__init__" = true)
    (k_Round_init : PySem.W.keepIn K (.ref f_Round_init) = true)
    (a_Round_len : PySem.W.findIn K (.ref c_Round) "__len__" = some (some (.ref f_Round_len)))
    (i_Round_len : PySem.W.isFn K (.ref f_Round_len) = true)
    (l_Round_len : K.lookup f_Round_len = some ⟨oc_Round_len, od_Round_len, .func (PySem.W.fnOf "__len__" "Round.__len__" (defArgs s_Round_len) (defBody s_Round_len) (defScope s_Round_len) .none kV_Round_len dc_Round_len pm_Round_len an_Round_len cd_Round_len ct_Round_len), sl_Round_len⟩)
    (h_Round_len : PySem.W.codeIn K cd_Round_len "Round.__len__" = true)
    (k_Round_len : PySem.W.keepIn K (.ref f_Round_len) = true)
    (a_Round_iter : PySem.W.findIn K (.ref c_Round) "__iter__" = some (some (.ref f_Round_iter)))
    (i_Round_iter : PySem.W.isFn K (.ref f_Round_iter) = true)
    (l_Round_iter : K.lookup f_Round_iter = some ⟨oc_Round_iter, od_Round_iter, .func (PySem.W.fnOf "__iter__" "Round.__iter__" (defArgs s_Round_iter) (defBody s_Round_iter) (defScope s_Round_iter) .none kV_Round_iter dc_Round_iter pm_Round_iter an_Round_iter cd_Round_iter ct_Round_iter), sl_Round_iter⟩)
    (h_Round_iter : PySem.W.codeIn K cd_Round_iter "Round.__iter__" = true)
    (k_Round_iter : PySem.W.keepIn K (.ref f_Round_iter) = true)
    (a_Round_contains : PySem.W.findIn K (.ref c_Round) "__contains__" = some (some (.ref f_Round_contains)))
    (i_Round_contains : PySem.W.isFn K (.ref f_Round_contains) = true)
    (l_Round_contains : K.lookup f_Round_contains = some ⟨oc_Round_contains, od_Round_contains, .func (PySem.W.fnOf "__contains__" "Round.__contains__" (defArgs s_Round_contains) (defBody s_Round_contains) (defScope s_Round_contains) .none kV_Round_contains dc_Round_contains pm_Round_contains an_Round_contains cd_Round_contains ct_Round_contains), sl_Round_contains⟩)
    (h_Round_contains : PySem.W.codeIn K cd_Round_contains "Round.__contains__" = true)
    (k_Round_contains : PySem.W.keepIn K (.ref f_Round_contains) = true)
    (a_Round_getitem : PySem.W.findIn K (.ref c_Round) "__getitem__" = some (some (.ref f_Round_getitem)))
    (i_Round_getitem : PySem.W.isFn K (.ref f_Round_getitem) = true)
    (l_Round_getitem : K.lookup f_Round_getitem = some ⟨oc_Round_getitem, od_Round_getitem, .func (PySem.W.fnOf "__getitem__" "Round.__getitem__" (defArgs s_Round_getitem) (defBody s_Round_getitem) (defScope s_Round_getitem) .none kV_Round_getitem dc_Round_getitem pm_Round_getitem an_Round_getitem cd_Round_getitem ct_Round_getitem), sl_Round_getitem⟩)
    (h_Round_getitem : PySem.W.codeIn K cd_Round_getitem "Round.__getitem__" = true)
    (k_Round_getitem : PySem.W.keepIn K (.ref f_Round_getitem) = true)
    (a_Round_lshift : PySem.W.findIn K (.ref c_Round) "__lshift__" = some (some (.ref f_Round_lshift)))
    (i_Round_lshift : PySem.W.isFn K (.ref f_Round_lshift) = true)
    (l_Round_lshift : K.lookup f_Round_lshift = some ⟨oc_Round_lshift, od_Round_lshift, .func (PySem.W.fnOf "__lshift__" "Round.__lshift__" (defArgs s_Round_lshift) (defBody s_Round_lshift) (defScope s_Round_lshift) .none kV_Round_lshift dc_Round_lshift pm_Round_lshift an_Round_lshift cd_Round_lshift ct_Round_lshift), sl_Round_lshift⟩)
    (h_Round_lshift : PySem.W.codeIn K cd_Round_lshift "Round.__lshift__" = true)
    (k_Round_lshift : PySem.W.keepIn K (.ref f_Round_lshift) = true)
    (a_Round_rshift : PySem.W.findIn K (.ref c_Round) "__rshift__" = some (some (.ref f_Round_rshift)))
    (i_Round_rshift : PySem.W.isFn K (.ref f_Round_rshift) = true)
    (l_Round_rshift : K.lookup f_Round_rshift = some ⟨oc_Round_rshift, od_Round_rshift, .func (PySem.W.fnOf "__rshift__" "Round.__rshift__" (defArgs s_Round_rshift) (defBody s_Round_rshift) (defScope s_Round_rshift) .none kV_Round_rshift dc_Round_rshift pm_Round_rshift an_Round_rshift cd_Round_rshift ct_Round_rshift), sl_Round_rshift⟩)
    (h_Round_rshift : PySem.W.codeIn K cd_Round_rshift "Round.__rshift__" = true)
    (k_Round_rshift : PySem.W.keepIn K (.ref f_Round_rshift) = true)
    (a_Round_invert : PySem.W.findIn K (.ref c_Round) "__invert__" = some (some (.ref f_Round_invert)))
    (i_Round_invert : PySem.W.isFn K (.ref f_Round_invert) = true)
    (l_Round_invert : K.lookup f_Round_invert = some ⟨oc_Round_invert, od_Round_invert, .func (PySem.W.fnOf "__invert__" "Round.__invert__" (defArgs s_Round_invert) (defBody s_Round_invert) (defScope s_Round_invert) .none kV_Round_invert dc_Round_invert pm_Round_invert an_Round_invert cd_Round_invert ct_Round_invert), sl_Round_invert⟩)
    (h_Round_invert : PySem.W.codeIn K cd_Round_invert "Round.__invert__" = true)
    (k_Round_invert : PySem.W.keepIn K (.ref f_Round_invert) = true)
    (a_Round_eq : PySem.W.findIn K (.ref c_Round) "__eq__" = some (some (.ref f_Round_eq)))
    (i_Round_eq : PySem.W.isFn K (.ref f_Round_eq) = true)
    (l_Round_eq : K.lookup f_Round_eq = some ⟨oc_Round_eq, od_Round_eq, .func (PySem.W.fnOf "__eq__" "Round.__eq__" (defArgs s_Round_eq) (defBody s_Round_eq) (defScope s_Round_eq) .none kV_Round_eq dc_Round_eq pm_Round_eq an_Round_eq cd_Round_eq ct_Round_eq), sl_Round_eq⟩)
    (h_Round_eq : PySem.W.codeIn K cd_Round_eq "Round.__eq__" = true)
    (k_Round_eq : PySem.W.keepIn K (.ref f_Round_eq) = true)
    (a_Round_cut : PySem.W.findIn K (.ref c_Round) "cut" = some (some (.ref f_Round_cut)))
    (i_Round_cut : PySem.W.isFn K (.ref f_Round_cut) = true)
    (l_Round_cut : K.lookup f_Round_cut = some ⟨oc_Round_cut, od_Round_cut, .func (PySem.W.fnOf "cut" "Round.cut" (defArgs s_Round_cut) (defBody s_Round_cut) (defScope s_Round_cut) .none kV_Round_cut dc_Round_cut pm_Round_cut an_Round_cut cd_Round_cut ct_Round_cut), sl_Round_cut⟩)
    (h_Round_cut : PySem.W.codeIn K cd_Round_cut "Round.cut" = true)
    (k_Round_cut : PySem.W.keepIn K (.ref f_Round_cut) = true)
    (a_Round_splits : PySem.W.findIn K (.ref c_Round) "splits" = some (some (.ref f_Round_splits)))
    (i_Round_splits : PySem.W.isFn K (.ref f_Round_splits) = true)
    (l_Round_splits : K.lookup f_Round_splits = some ⟨oc_Round_splits, od_Round_splits, .func (PySem.W.fnOf "splits" "Round.splits" (defArgs s_Round_splits) (defBody s_Round_splits) (defScope s_Round_splits) .none kV_Round_splits dc_Round_splits pm_Round_splits an_Round_splits cd_Round_splits ct_Round_splits), sl_Round_splits⟩)
    (h_Round_splits : PySem.W.codeIn K cd_Round_splits "Round.splits" = true)
    (k_Round_splits : PySem.W.keepIn K (.ref f_Round_splits) = true)
    (a__law_cell : PySem.W.nsIn K mainGlobals "_law_cell" = some (some (.ref f__law_cell)))
    (l__law_cell : K.lookup f__law_cell = some ⟨oc__law_cell, od__law_cell, .func (PySem.W.fnOf "_law_cell" "_law_cell" (defArgs s__law_cell) (defBody s__law_cell) (defScope s__law_cell) .none kV__law_cell dc__law_cell pm__law_cell an__law_cell cd__law_cell ct__law_cell), sl__law_cell⟩)
    (h__law_cell : PySem.W.codeIn K cd__law_cell "_law_cell" = true)
    (k__law_cell : PySem.W.keepIn K (.ref f__law_cell) = true)
    (a__law_pool : PySem.W.nsIn K mainGlobals "_law_pool" = some (some (.ref f__law_pool)))
    (l__law_pool : K.lookup f__law_pool = some ⟨oc__law_pool, od__law_pool, .func (PySem.W.fnOf "_law_pool" "_law_pool" (defArgs s__law_pool) (defBody s__law_pool) (defScope s__law_pool) .none kV__law_pool dc__law_pool pm__law_pool an__law_pool cd__law_pool ct__law_pool), sl__law_pool⟩)
    (h__law_pool : PySem.W.codeIn K cd__law_pool "_law_pool" = true)
    (k__law_pool : PySem.W.keepIn K (.ref f__law_pool) = true)
    (a__law_whole : PySem.W.nsIn K mainGlobals "_law_whole" = some (some (.ref f__law_whole)))
    (l__law_whole : K.lookup f__law_whole = some ⟨oc__law_whole, od__law_whole, .func (PySem.W.fnOf "_law_whole" "_law_whole" (defArgs s__law_whole) (defBody s__law_whole) (defScope s__law_whole) .none kV__law_whole dc__law_whole pm__law_whole an__law_whole cd__law_whole ct__law_whole), sl__law_whole⟩)
    (h__law_whole : PySem.W.codeIn K cd__law_whole "_law_whole" = true)
    (k__law_whole : PySem.W.keepIn K (.ref f__law_whole) = true)
    (a__law_word : PySem.W.nsIn K mainGlobals "_law_word" = some (some (.ref f__law_word)))
    (l__law_word : K.lookup f__law_word = some ⟨oc__law_word, od__law_word, .func (PySem.W.fnOf "_law_word" "_law_word" (defArgs s__law_word) (defBody s__law_word) (defScope s__law_word) .none kV__law_word dc__law_word pm__law_word an__law_word cd__law_word ct__law_word), sl__law_word⟩)
    (h__law_word : PySem.W.codeIn K cd__law_word "_law_word" = true)
    (k__law_word : PySem.W.keepIn K (.ref f__law_word) = true)
    (a__law_new : PySem.W.nsIn K mainGlobals "_law_new" = some (some (.ref f__law_new)))
    (l__law_new : K.lookup f__law_new = some ⟨oc__law_new, od__law_new, .func (PySem.W.fnOf "_law_new" "_law_new" (defArgs s__law_new) (defBody s__law_new) (defScope s__law_new) .none kV__law_new dc__law_new pm__law_new an__law_new cd__law_new ct__law_new), sl__law_new⟩)
    (h__law_new : PySem.W.codeIn K cd__law_new "_law_new" = true)
    (k__law_new : PySem.W.keepIn K (.ref f__law_new) = true)
    (a__law_sequence : PySem.W.nsIn K mainGlobals "_law_sequence" = some (some (.ref f__law_sequence)))
    (l__law_sequence : K.lookup f__law_sequence = some ⟨oc__law_sequence, od__law_sequence, .func (PySem.W.fnOf "_law_sequence" "_law_sequence" (defArgs s__law_sequence) (defBody s__law_sequence) (defScope s__law_sequence) .none kV__law_sequence dc__law_sequence pm__law_sequence an__law_sequence cd__law_sequence ct__law_sequence), sl__law_sequence⟩)
    (h__law_sequence : PySem.W.codeIn K cd__law_sequence "_law_sequence" = true)
    (k__law_sequence : PySem.W.keepIn K (.ref f__law_sequence) = true)
    (a__law_from : PySem.W.nsIn K mainGlobals "_law_from" = some (some (.ref f__law_from)))
    (l__law_from : K.lookup f__law_from = some ⟨oc__law_from, od__law_from, .func (PySem.W.fnOf "_law_from" "_law_from" (defArgs s__law_from) (defBody s__law_from) (defScope s__law_from) .none kV__law_from dc__law_from pm__law_from an__law_from cd__law_from ct__law_from), sl__law_from⟩)
    (h__law_from : PySem.W.codeIn K cd__law_from "_law_from" = true)
    (k__law_from : PySem.W.keepIn K (.ref f__law_from) = true)
    (a__law_back : PySem.W.nsIn K mainGlobals "_law_back" = some (some (.ref f__law_back)))
    (l__law_back : K.lookup f__law_back = some ⟨oc__law_back, od__law_back, .func (PySem.W.fnOf "_law_back" "_law_back" (defArgs s__law_back) (defBody s__law_back) (defScope s__law_back) .none kV__law_back dc__law_back pm__law_back an__law_back cd__law_back ct__law_back), sl__law_back⟩)
    (h__law_back : PySem.W.codeIn K cd__law_back "_law_back" = true)
    (k__law_back : PySem.W.keepIn K (.ref f__law_back) = true)
    (a__law_is_round : PySem.W.nsIn K mainGlobals "_law_is_round" = some (some (.ref f__law_is_round)))
    (l__law_is_round : K.lookup f__law_is_round = some ⟨oc__law_is_round, od__law_is_round, .func (PySem.W.fnOf "_law_is_round" "_law_is_round" (defArgs s__law_is_round) (defBody s__law_is_round) (defScope s__law_is_round) .none kV__law_is_round dc__law_is_round pm__law_is_round an__law_is_round cd__law_is_round ct__law_is_round), sl__law_is_round⟩)
    (h__law_is_round : PySem.W.codeIn K cd__law_is_round "_law_is_round" = true)
    (k__law_is_round : PySem.W.keepIn K (.ref f__law_is_round) = true)
    (a__law_turned_right : PySem.W.nsIn K mainGlobals "_law_turned_right" = some (some (.ref f__law_turned_right)))
    (l__law_turned_right : K.lookup f__law_turned_right = some ⟨oc__law_turned_right, od__law_turned_right, .func (PySem.W.fnOf "_law_turned_right" "_law_turned_right" (defArgs s__law_turned_right) (defBody s__law_turned_right) (defScope s__law_turned_right) .none kV__law_turned_right dc__law_turned_right pm__law_turned_right an__law_turned_right cd__law_turned_right ct__law_turned_right), sl__law_turned_right⟩)
    (h__law_turned_right : PySem.W.codeIn K cd__law_turned_right "_law_turned_right" = true)
    (k__law_turned_right : PySem.W.keepIn K (.ref f__law_turned_right) = true)
    (a__law_turns : PySem.W.nsIn K mainGlobals "_law_turns" = some (some (.ref f__law_turns)))
    (l__law_turns : K.lookup f__law_turns = some ⟨oc__law_turns, od__law_turns, .func (PySem.W.fnOf "_law_turns" "_law_turns" (defArgs s__law_turns) (defBody s__law_turns) (defScope s__law_turns) .none kV__law_turns dc__law_turns pm__law_turns an__law_turns cd__law_turns ct__law_turns), sl__law_turns⟩)
    (h__law_turns : PySem.W.codeIn K cd__law_turns "_law_turns" = true)
    (k__law_turns : PySem.W.keepIn K (.ref f__law_turns) = true)
    (a__law_equals : PySem.W.nsIn K mainGlobals "_law_equals" = some (some (.ref f__law_equals)))
    (l__law_equals : K.lookup f__law_equals = some ⟨oc__law_equals, od__law_equals, .func (PySem.W.fnOf "_law_equals" "_law_equals" (defArgs s__law_equals) (defBody s__law_equals) (defScope s__law_equals) .none kV__law_equals dc__law_equals pm__law_equals an__law_equals cd__law_equals ct__law_equals), sl__law_equals⟩)
    (h__law_equals : PySem.W.codeIn K cd__law_equals "_law_equals" = true)
    (k__law_equals : PySem.W.keepIn K (.ref f__law_equals) = true)
    (a__law_cut_is : PySem.W.nsIn K mainGlobals "_law_cut_is" = some (some (.ref f__law_cut_is)))
    (l__law_cut_is : K.lookup f__law_cut_is = some ⟨oc__law_cut_is, od__law_cut_is, .func (PySem.W.fnOf "_law_cut_is" "_law_cut_is" (defArgs s__law_cut_is) (defBody s__law_cut_is) (defScope s__law_cut_is) .none kV__law_cut_is dc__law_cut_is pm__law_cut_is an__law_cut_is cd__law_cut_is ct__law_cut_is), sl__law_cut_is⟩)
    (h__law_cut_is : PySem.W.codeIn K cd__law_cut_is "_law_cut_is" = true)
    (k__law_cut_is : PySem.W.keepIn K (.ref f__law_cut_is) = true)
    (a__law_ahead : PySem.W.nsIn K mainGlobals "_law_ahead" = some (some (.ref f__law_ahead)))
    (l__law_ahead : K.lookup f__law_ahead = some ⟨oc__law_ahead, od__law_ahead, .func (PySem.W.fnOf "_law_ahead" "_law_ahead" (defArgs s__law_ahead) (defBody s__law_ahead) (defScope s__law_ahead) .none kV__law_ahead dc__law_ahead pm__law_ahead an__law_ahead cd__law_ahead ct__law_ahead), sl__law_ahead⟩)
    (h__law_ahead : PySem.W.codeIn K cd__law_ahead "_law_ahead" = true)
    (k__law_ahead : PySem.W.keepIn K (.ref f__law_ahead) = true)
    (a__law_splits_are : PySem.W.nsIn K mainGlobals "_law_splits_are" = some (some (.ref f__law_splits_are)))
    (l__law_splits_are : K.lookup f__law_splits_are = some ⟨oc__law_splits_are, od__law_splits_are, .func (PySem.W.fnOf "_law_splits_are" "_law_splits_are" (defArgs s__law_splits_are) (defBody s__law_splits_are) (defScope s__law_splits_are) .none kV__law_splits_are dc__law_splits_are pm__law_splits_are an__law_splits_are cd__law_splits_are ct__law_splits_are), sl__law_splits_are⟩)
    (h__law_splits_are : PySem.W.codeIn K cd__law_splits_are "_law_splits_are" = true)
    (k__law_splits_are : PySem.W.keepIn K (.ref f__law_splits_are) = true)
    (a__law_refused : PySem.W.nsIn K mainGlobals "_law_refused" = some (some (.ref f__law_refused)))
    (l__law_refused : K.lookup f__law_refused = some ⟨oc__law_refused, od__law_refused, .func (PySem.W.fnOf "_law_refused" "_law_refused" (defArgs s__law_refused) (defBody s__law_refused) (defScope s__law_refused) .none kV__law_refused dc__law_refused pm__law_refused an__law_refused cd__law_refused ct__law_refused), sl__law_refused⟩)
    (h__law_refused : PySem.W.codeIn K cd__law_refused "_law_refused" = true)
    (k__law_refused : PySem.W.keepIn K (.ref f__law_refused) = true)
    (a__law_lists_refused : PySem.W.nsIn K mainGlobals "_law_lists_refused" = some (some (.ref f__law_lists_refused)))
    (l__law_lists_refused : K.lookup f__law_lists_refused = some ⟨oc__law_lists_refused, od__law_lists_refused, .func (PySem.W.fnOf "_law_lists_refused" "_law_lists_refused" (defArgs s__law_lists_refused) (defBody s__law_lists_refused) (defScope s__law_lists_refused) .none kV__law_lists_refused dc__law_lists_refused pm__law_lists_refused an__law_lists_refused cd__law_lists_refused ct__law_lists_refused), sl__law_lists_refused⟩)
    (h__law_lists_refused : PySem.W.codeIn K cd__law_lists_refused "_law_lists_refused" = true)
    (k__law_lists_refused : PySem.W.keepIn K (.ref f__law_lists_refused) = true)
    (a_law : PySem.W.nsIn K mainGlobals "law" = some (some (.ref f_law)))
    (l_law : K.lookup f_law = some ⟨oc_law, od_law, .func (PySem.W.fnOf "law" "law" (defArgs s_law) (defBody s_law) (defScope s_law) .none kV_law dc_law pm_law an_law cd_law ct_law), sl_law⟩)
    (h_law : PySem.W.codeIn K cd_law "law" = true)
    (k_law : PySem.W.keepIn K (.ref f_law) = true)
    (g_LETTERS : PySem.W.nsIn K mainGlobals "LETTERS" = some (some (.str "abcdefghijklmnopqrstuvwxyz" tok_LETTERS)))
    (g_LONGEST_NAME : PySem.W.nsIn K mainGlobals "LONGEST_NAME" = some (some (.int 8 tok_LONGEST_NAME)))
    (g_MOST_NAMES : PySem.W.nsIn K mainGlobals "MOST_NAMES" = some (some (.int 12 tok_MOST_NAMES)))
    (b_ValueError : PySem.W.nsIn K mainGlobals "ValueError" = some Option.none)
    (b_abs : PySem.W.nsIn K mainGlobals "abs" = some Option.none)
    (b_all : PySem.W.nsIn K mainGlobals "all" = some Option.none)
    (b_any : PySem.W.nsIn K mainGlobals "any" = some Option.none)
    (b_bool : PySem.W.nsIn K mainGlobals "bool" = some Option.none)
    (b_enumerate : PySem.W.nsIn K mainGlobals "enumerate" = some Option.none)
    (b_int : PySem.W.nsIn K mainGlobals "int" = some Option.none)
    (b_isinstance : PySem.W.nsIn K mainGlobals "isinstance" = some Option.none)
    (b_iter : PySem.W.nsIn K mainGlobals "iter" = some Option.none)
    (b_len : PySem.W.nsIn K mainGlobals "len" = some Option.none)
    (b_list : PySem.W.nsIn K mainGlobals "list" = some Option.none)
    (b_range : PySem.W.nsIn K mainGlobals "range" = some Option.none)
    (b_str : PySem.W.nsIn K mainGlobals "str" = some Option.none)
    (b_tuple : PySem.W.nsIn K mainGlobals "tuple" = some Option.none)
    (pg_Round : PySem.W.plainGet K c_Round Str.empty = true)
    (hd_Round : PySem.W.hasDictIn K c_Round = true)
    (po_Round : PySem.W.plainOver K c_Round = true)
    (sa_Round : PySem.W.findIn K (.ref c_Round) "__setattr__" = some (some (.builtin "object.__setattr__")))
    (na_Round_names : PySem.W.findIn K (.ref c_Round) "names" = some Option.none)
    (mk_Round : PySem.W.makesIn K c_Round = true)
    (kC_Round : PySem.W.keepIn K (.ref c_Round) = true)
    (fi_Round : PySem.W.fnIn K f_Round_getitem = true)
    (sf_Round : PySem.W.selfFirst K c_Round = true)
    (us_Round : PySem.W.subIn K (.type "int") (.ref c_Round) = some false)
    (rr_Round_lshift : PySem.W.findIn K (.ref c_Round) "__rlshift__" = some Option.none)
    (rr_Round_rshift : PySem.W.findIn K (.ref c_Round) "__rrshift__" = some Option.none)
    (if_lshift : PySem.W.findIn K (.type "int") "__lshift__" = some (some (.builtin "int.__lshift__")))
    (ir_lshift : PySem.W.findIn K (.type "int") "__rlshift__" = some (some (.builtin "int.__rlshift__")))
    (if_rshift : PySem.W.findIn K (.type "int") "__rshift__" = some (some (.builtin "int.__rshift__")))
    (ir_rshift : PySem.W.findIn K (.type "int") "__rrshift__" = some (some (.builtin "int.__rrshift__")))
    (spG : PySem.W.specialIn K (.builtin "object.__class__") "__get__" = some (some (.builtin "getset_descriptor.__get__")))
    (tkG : PySem.W.takesIn K (.builtin "object.__class__") = some true)
    (ca_Round : PySem.W.findIn K (.ref c_Round) "__class__" = some (some (.builtin "object.__class__")))
    (mr_Round : PySem.W.mroIn K c_Round (.type "object") = some true)
    (xL_BadNumber : K.lookup c_BadNumber = some (excClassObj nm_BadNumber q_BadNumber c_BadNumber N_BadNumber bs_BadNumber bm_BadNumber true sn_BadNumber sub_BadNumber ab_BadNumber col_BadNumber dd_BadNumber m0_BadNumber m1_BadNumber m2_BadNumber m3_BadNumber m5_BadNumber "ValueError.__new__"))
    (xV_BadNumber : PySem.HandSPX.refsVE bm_BadNumber = true)
    (sa_BadNumber : PySem.W.findIn K (.ref c_BadNumber) "__setattr__" = some (some (.builtin "object.__setattr__")))
    (ex_BadNumber : PySem.W.subIn K (.ref c_BadNumber) (.type "BaseException") = some true)
    (ty_BadNumber : PySem.W.typeIn K (.ref c_BadNumber) = some (.type "type"))
    (is_BadNumber : PySem.W.isClsIn K c_BadNumber = true)
    (kC_BadNumber : PySem.W.keepIn K (.ref c_BadNumber) = true)
    (et_BadNumber : PySem.W.typeIn K (.ref f_BadNumber_init) = some (.type "function"))
    (en_BadNumber_number : PySem.W.findIn K (.ref c_BadNumber) "number" = some Option.none)
    (xL_BadRound : K.lookup c_BadRound = some (excClassObj nm_BadRound q_BadRound c_BadRound N_BadRound bs_BadRound bm_BadRound true sn_BadRound sub_BadRound ab_BadRound col_BadRound dd_BadRound m0_BadRound m1_BadRound m2_BadRound m3_BadRound m5_BadRound "ValueError.__new__"))
    (xV_BadRound : PySem.HandSPX.refsVE bm_BadRound = true)
    (sa_BadRound : PySem.W.findIn K (.ref c_BadRound) "__setattr__" = some (some (.builtin "object.__setattr__")))
    (ex_BadRound : PySem.W.subIn K (.ref c_BadRound) (.type "BaseException") = some true)
    (ty_BadRound : PySem.W.typeIn K (.ref c_BadRound) = some (.type "type"))
    (is_BadRound : PySem.W.isClsIn K c_BadRound = true)
    (kC_BadRound : PySem.W.keepIn K (.ref c_BadRound) = true)
    (et_BadRound : PySem.W.typeIn K (.ref f_BadRound_init) = some (.type "function"))
    (en_BadRound_index : PySem.W.findIn K (.ref c_BadRound) "index" = some Option.none)
    (xL_SameColumn : K.lookup c_SameColumn = some (excClassObj nm_SameColumn q_SameColumn c_SameColumn N_SameColumn bs_SameColumn bm_SameColumn true sn_SameColumn sub_SameColumn ab_SameColumn col_SameColumn dd_SameColumn m0_SameColumn m1_SameColumn m2_SameColumn m3_SameColumn m5_SameColumn "ValueError.__new__"))
    (xV_SameColumn : PySem.HandSPX.refsVE bm_SameColumn = true)
    (sa_SameColumn : PySem.W.findIn K (.ref c_SameColumn) "__setattr__" = some (some (.builtin "object.__setattr__")))
    (ex_SameColumn : PySem.W.subIn K (.ref c_SameColumn) (.type "BaseException") = some true)
    (ty_SameColumn : PySem.W.typeIn K (.ref c_SameColumn) = some (.type "type"))
    (is_SameColumn : PySem.W.isClsIn K c_SameColumn = true)
    (kC_SameColumn : PySem.W.keepIn K (.ref c_SameColumn) = true)
    (et_SameColumn : PySem.W.typeIn K (.ref f_SameColumn_init) = some (.type "function"))
    (en_SameColumn_name : PySem.W.findIn K (.ref c_SameColumn) "name" = some Option.none)
    (xL_UnknownColumn : K.lookup c_UnknownColumn = some (excClassObj nm_UnknownColumn q_UnknownColumn c_UnknownColumn N_UnknownColumn bs_UnknownColumn bm_UnknownColumn true sn_UnknownColumn sub_UnknownColumn ab_UnknownColumn col_UnknownColumn dd_UnknownColumn m0_UnknownColumn m1_UnknownColumn m2_UnknownColumn m3_UnknownColumn m5_UnknownColumn "ValueError.__new__"))
    (xV_UnknownColumn : PySem.HandSPX.refsVE bm_UnknownColumn = true)
    (sa_UnknownColumn : PySem.W.findIn K (.ref c_UnknownColumn) "__setattr__" = some (some (.builtin "object.__setattr__")))
    (ex_UnknownColumn : PySem.W.subIn K (.ref c_UnknownColumn) (.type "BaseException") = some true)
    (ty_UnknownColumn : PySem.W.typeIn K (.ref c_UnknownColumn) = some (.type "type"))
    (is_UnknownColumn : PySem.W.isClsIn K c_UnknownColumn = true)
    (kC_UnknownColumn : PySem.W.keepIn K (.ref c_UnknownColumn) = true)
    (et_UnknownColumn : PySem.W.typeIn K (.ref f_UnknownColumn_init) = some (.type "function"))
    (en_UnknownColumn_name : PySem.W.findIn K (.ref c_UnknownColumn) "name" = some Option.none)
    (ga_BadNumber : PySem.W.findIn K (.ref c_BadNumber) "__getattribute__" = some (some (.builtin "BaseException.__getattribute__")))
    (gg_BadNumber : PySem.W.findIn K (.ref c_BadNumber) "__getattr__" = some Option.none)
    (hd_BadNumber : PySem.W.hasDictIn K c_BadNumber = true)
    (ga_BadRound : PySem.W.findIn K (.ref c_BadRound) "__getattribute__" = some (some (.builtin "BaseException.__getattribute__")))
    (gg_BadRound : PySem.W.findIn K (.ref c_BadRound) "__getattr__" = some Option.none)
    (hd_BadRound : PySem.W.hasDictIn K c_BadRound = true)
    (ga_SameColumn : PySem.W.findIn K (.ref c_SameColumn) "__getattribute__" = some (some (.builtin "BaseException.__getattribute__")))
    (gg_SameColumn : PySem.W.findIn K (.ref c_SameColumn) "__getattr__" = some Option.none)
    (hd_SameColumn : PySem.W.hasDictIn K c_SameColumn = true)
    (ga_UnknownColumn : PySem.W.findIn K (.ref c_UnknownColumn) "__getattribute__" = some (some (.builtin "BaseException.__getattribute__")))
    (gg_UnknownColumn : PySem.W.findIn K (.ref c_UnknownColumn) "__getattr__" = some Option.none)
    (hd_UnknownColumn : PySem.W.hasDictIn K c_UnknownColumn = true)
    (ca_BadNumber : PySem.W.findIn K (.ref c_BadNumber) "__class__" = some (some (.builtin "object.__class__")))
    (mr_BadNumber : PySem.W.mroIn K c_BadNumber (.type "object") = some true)
    (ca_BadRound : PySem.W.findIn K (.ref c_BadRound) "__class__" = some (some (.builtin "object.__class__")))
    (mr_BadRound : PySem.W.mroIn K c_BadRound (.type "object") = some true)
    (ca_SameColumn : PySem.W.findIn K (.ref c_SameColumn) "__class__" = some (some (.builtin "object.__class__")))
    (mr_SameColumn : PySem.W.mroIn K c_SameColumn (.type "object") = some true)
    (ca_UnknownColumn : PySem.W.findIn K (.ref c_UnknownColumn) "__class__" = some (some (.builtin "object.__class__")))
    (mr_UnknownColumn : PySem.W.mroIn K c_UnknownColumn (.type "object") = some true)
    (su_BadNumber_Impossible : PySem.W.subIn K (.ref c_BadNumber) (.ref c_Impossible) = some false)
    (ex_Impossible : PySem.W.subIn K (.ref c_Impossible) (.type "BaseException") = some true)
    (ty_Impossible : PySem.W.typeIn K (.ref c_Impossible) = some (.type "type"))
    (is_Impossible : PySem.W.isClsIn K c_Impossible = true)
    (ne_BadNumber_Impossible : (Value.ref c_BadNumber == Value.ref c_Impossible) = false)
    (su_BadNumber_RowsError : PySem.W.subIn K (.ref c_BadNumber) (.ref c_RowsError) = some true)
    (ex_RowsError : PySem.W.subIn K (.ref c_RowsError) (.type "BaseException") = some true)
    (ty_RowsError : PySem.W.typeIn K (.ref c_RowsError) = some (.type "type"))
    (is_RowsError : PySem.W.isClsIn K c_RowsError = true)
    (ne_BadNumber_RowsError : (Value.ref c_BadNumber == Value.ref c_RowsError) = false)
    (su_BadNumber_Unknown : PySem.W.subIn K (.ref c_BadNumber) (.ref c_Unknown) = some false)
    (ex_Unknown : PySem.W.subIn K (.ref c_Unknown) (.type "BaseException") = some true)
    (ty_Unknown : PySem.W.typeIn K (.ref c_Unknown) = some (.type "type"))
    (is_Unknown : PySem.W.isClsIn K c_Unknown = true)
    (ne_BadNumber_Unknown : (Value.ref c_BadNumber == Value.ref c_Unknown) = false)
    (su_BadNumber_ValueError : PySem.W.subIn K (.ref c_BadNumber) (.type "ValueError") = some true)
    (su_BadRound_Impossible : PySem.W.subIn K (.ref c_BadRound) (.ref c_Impossible) = some false)
    (ne_BadRound_Impossible : (Value.ref c_BadRound == Value.ref c_Impossible) = false)
    (su_BadRound_RowsError : PySem.W.subIn K (.ref c_BadRound) (.ref c_RowsError) = some true)
    (ne_BadRound_RowsError : (Value.ref c_BadRound == Value.ref c_RowsError) = false)
    (su_BadRound_Unknown : PySem.W.subIn K (.ref c_BadRound) (.ref c_Unknown) = some false)
    (ne_BadRound_Unknown : (Value.ref c_BadRound == Value.ref c_Unknown) = false)
    (su_BadRound_ValueError : PySem.W.subIn K (.ref c_BadRound) (.type "ValueError") = some true)
    (su_SameColumn_Impossible : PySem.W.subIn K (.ref c_SameColumn) (.ref c_Impossible) = some false)
    (ne_SameColumn_Impossible : (Value.ref c_SameColumn == Value.ref c_Impossible) = false)
    (su_SameColumn_RowsError : PySem.W.subIn K (.ref c_SameColumn) (.ref c_RowsError) = some true)
    (ne_SameColumn_RowsError : (Value.ref c_SameColumn == Value.ref c_RowsError) = false)
    (su_SameColumn_Unknown : PySem.W.subIn K (.ref c_SameColumn) (.ref c_Unknown) = some false)
    (ne_SameColumn_Unknown : (Value.ref c_SameColumn == Value.ref c_Unknown) = false)
    (su_UnknownColumn_Impossible : PySem.W.subIn K (.ref c_UnknownColumn) (.ref c_Impossible) = some false)
    (ne_UnknownColumn_Impossible : (Value.ref c_UnknownColumn == Value.ref c_Impossible) = false)
    (su_UnknownColumn_RowsError : PySem.W.subIn K (.ref c_UnknownColumn) (.ref c_RowsError) = some true)
    (ne_UnknownColumn_RowsError : (Value.ref c_UnknownColumn == Value.ref c_RowsError) = false)
    (su_UnknownColumn_Unknown : PySem.W.subIn K (.ref c_UnknownColumn) (.ref c_Unknown) = some true)
    (ne_UnknownColumn_Unknown : (Value.ref c_UnknownColumn == Value.ref c_Unknown) = false)
    (su_UnknownColumn_ValueError : PySem.W.subIn K (.ref c_UnknownColumn) (.type "ValueError") = some true)
    (su_BadNumber_BadNumber : PySem.W.subIn K (.ref c_BadNumber) (.ref c_BadNumber) = some true)
    (su_BadNumber_BadRound : PySem.W.subIn K (.ref c_BadNumber) (.ref c_BadRound) = some false)
    (su_BadNumber_SameColumn : PySem.W.subIn K (.ref c_BadNumber) (.ref c_SameColumn) = some false)
    (su_BadNumber_UnknownColumn : PySem.W.subIn K (.ref c_BadNumber) (.ref c_UnknownColumn) = some false)
    (su_BadRound_BadNumber : PySem.W.subIn K (.ref c_BadRound) (.ref c_BadNumber) = some false)
    (su_BadRound_BadRound : PySem.W.subIn K (.ref c_BadRound) (.ref c_BadRound) = some true)
    (su_BadRound_SameColumn : PySem.W.subIn K (.ref c_BadRound) (.ref c_SameColumn) = some false)
    (su_BadRound_UnknownColumn : PySem.W.subIn K (.ref c_BadRound) (.ref c_UnknownColumn) = some false)
    (su_SameColumn_BadNumber : PySem.W.subIn K (.ref c_SameColumn) (.ref c_BadNumber) = some false)
    (su_SameColumn_BadRound : PySem.W.subIn K (.ref c_SameColumn) (.ref c_BadRound) = some false)
    (su_SameColumn_SameColumn : PySem.W.subIn K (.ref c_SameColumn) (.ref c_SameColumn) = some true)
    (su_SameColumn_UnknownColumn : PySem.W.subIn K (.ref c_SameColumn) (.ref c_UnknownColumn) = some false)
    (su_UnknownColumn_BadNumber : PySem.W.subIn K (.ref c_UnknownColumn) (.ref c_BadNumber) = some false)
    (su_UnknownColumn_BadRound : PySem.W.subIn K (.ref c_UnknownColumn) (.ref c_BadRound) = some false)
    (su_UnknownColumn_SameColumn : PySem.W.subIn K (.ref c_UnknownColumn) (.ref c_SameColumn) = some false)
    (su_UnknownColumn_UnknownColumn : PySem.W.subIn K (.ref c_UnknownColumn) (.ref c_UnknownColumn) = some true)
    : ∃ fd : FuncData, (∀ (s : Shared) (v : Value), BindsTo s fd ⟨[v], []⟩ [("script", v)]) ∧ ∀ base : Heap, K.In base → base.Ns mainGlobals mg → FnOk P w K mg base (L2.CX P w) 9 fa fd ["script"] (spOf K S_law0) := by
  have e : f_law = fa := by have e := hfa.symm.trans (PySem.W.mg_of X G a_law); cases e; rfl
  subst e
  have F_UnknownColumn_init : Fun K "__init__" "UnknownColumn.__init__" s_UnknownColumn_init f_UnknownColumn_init (PySem.W.fnOf "__init__" "UnknownColumn.__init__" (defArgs s_UnknownColumn_init) (defBody s_UnknownColumn_init) (defScope s_UnknownColumn_init) .none kV_UnknownColumn_init dc_UnknownColumn_init pm_UnknownColumn_init an_UnknownColumn_init cd_UnknownColumn_init ct_UnknownColumn_init) := fun_mk (st := s_UnknownColumn_init) l_UnknownColumn_init h_UnknownColumn_init k_UnknownColumn_init
  have F_BadRound_init : Fun K "__init__" "BadRound.__init__" s_BadRound_init f_BadRound_init (PySem.W.fnOf "__init__" "BadRound.__init__" (defArgs s_BadRound_init) (defBody s_BadRound_init) (defScope s_BadRound_init) .none kV_BadRound_init dc_BadRound_init pm_BadRound_init an_BadRound_init cd_BadRound_init ct_BadRound_init) := fun_mk (st := s_BadRound_init) l_BadRound_init h_BadRound_init k_BadRound_init
  have F_BadNumber_init : Fun K "__init__" "BadNumber.__init__" s_BadNumber_init f_BadNumber_init (PySem.W.fnOf "__init__" "BadNumber.__init__" (defArgs s_BadNumber_init) (defBody s_BadNumber_init) (defScope s_BadNumber_init) .none kV_BadNumber_init dc_BadNumber_init pm_BadNumber_init an_BadNumber_init cd_BadNumber_init ct_BadNumber_init) := fun_mk (st := s_BadNumber_init) l_BadNumber_init h_BadNumber_init k_BadNumber_init
  have F_SameColumn_init : Fun K "__init__" "SameColumn.__init__" s_SameColumn_init f_SameColumn_init (PySem.W.fnOf "__init__" "SameColumn.__init__" (defArgs s_SameColumn_init) (defBody s_SameColumn_init) (defScope s_SameColumn_init) .none kV_SameColumn_init dc_SameColumn_init pm_SameColumn_init an_SameColumn_init cd_SameColumn_init ct_SameColumn_init) := fun_mk (st := s_SameColumn_init) l_SameColumn_init h_SameColumn_init k_SameColumn_init
  have F_is_name : Fun K "is_name" "is_name" s_is_name f_is_name (PySem.W.fnOf "is_name" "is_name" (defArgs s_is_name) (defBody s_is_name) (defScope s_is_name) .none kV_is_name dc_is_name pm_is_name an_is_name cd_is_name ct_is_name) := fun_mk (st := s_is_name) l_is_name h_is_name k_is_name
  have F_check_known : Fun K "check_known" "check_known" s_check_known f_check_known (PySem.W.fnOf "check_known" "check_known" (defArgs s_check_known) (defBody s_check_known) (defScope s_check_known) .none kV_check_known dc_check_known pm_check_known an_check_known cd_check_known ct_check_known) := fun_mk (st := s_check_known) l_check_known h_check_known k_check_known
  have F_check_different : Fun K "check_different" "check_different" s_check_different f_check_different (PySem.W.fnOf "check_different" "check_different" (defArgs s_check_different) (defBody s_check_different) (defScope s_check_different) .none kV_check_different dc_check_different pm_check_different an_check_different cd_check_different ct_check_different) := fun_mk (st := s_check_different) l_check_different h_check_different k_check_different
  have F_Round_init : Fun K "__init__" "Round.__init__" s_Round_init f_Round_init (PySem.W.fnOf "__init__" "Round.__init__" (defArgs s_Round_init) (defBody s_Round_init) (defScope s_Round_init) .none kV_Round_init dc_Round_init pm_Round_init an_Round_init cd_Round_init ct_Round_init) := fun_mk (st := s_Round_init) l_Round_init h_Round_init k_Round_init
  have F_Round_len : Fun K "__len__" "Round.__len__" s_Round_len f_Round_len (PySem.W.fnOf "__len__" "Round.__len__" (defArgs s_Round_len) (defBody s_Round_len) (defScope s_Round_len) .none kV_Round_len dc_Round_len pm_Round_len an_Round_len cd_Round_len ct_Round_len) := fun_mk (st := s_Round_len) l_Round_len h_Round_len k_Round_len
  have F_Round_iter : Fun K "__iter__" "Round.__iter__" s_Round_iter f_Round_iter (PySem.W.fnOf "__iter__" "Round.__iter__" (defArgs s_Round_iter) (defBody s_Round_iter) (defScope s_Round_iter) .none kV_Round_iter dc_Round_iter pm_Round_iter an_Round_iter cd_Round_iter ct_Round_iter) := fun_mk (st := s_Round_iter) l_Round_iter h_Round_iter k_Round_iter
  have F_Round_contains : Fun K "__contains__" "Round.__contains__" s_Round_contains f_Round_contains (PySem.W.fnOf "__contains__" "Round.__contains__" (defArgs s_Round_contains) (defBody s_Round_contains) (defScope s_Round_contains) .none kV_Round_contains dc_Round_contains pm_Round_contains an_Round_contains cd_Round_contains ct_Round_contains) := fun_mk (st := s_Round_contains) l_Round_contains h_Round_contains k_Round_contains
  have F_Round_getitem : Fun K "__getitem__" "Round.__getitem__" s_Round_getitem f_Round_getitem (PySem.W.fnOf "__getitem__" "Round.__getitem__" (defArgs s_Round_getitem) (defBody s_Round_getitem) (defScope s_Round_getitem) .none kV_Round_getitem dc_Round_getitem pm_Round_getitem an_Round_getitem cd_Round_getitem ct_Round_getitem) := fun_mk (st := s_Round_getitem) l_Round_getitem h_Round_getitem k_Round_getitem
  have F_Round_lshift : Fun K "__lshift__" "Round.__lshift__" s_Round_lshift f_Round_lshift (PySem.W.fnOf "__lshift__" "Round.__lshift__" (defArgs s_Round_lshift) (defBody s_Round_lshift) (defScope s_Round_lshift) .none kV_Round_lshift dc_Round_lshift pm_Round_lshift an_Round_lshift cd_Round_lshift ct_Round_lshift) := fun_mk (st := s_Round_lshift) l_Round_lshift h_Round_lshift k_Round_lshift
  have F_Round_rshift : Fun K "__rshift__" "Round.__rshift__" s_Round_rshift f_Round_rshift (PySem.W.fnOf "__rshift__" "Round.__rshift__" (defArgs s_Round_rshift) (defBody s_Round_rshift) (defScope s_Round_rshift) .none kV_Round_rshift dc_Round_rshift pm_Round_rshift an_Round_rshift cd_Round_rshift ct_Round_rshift) := fun_mk (st := s_Round_rshift) l_Round_rshift h_Round_rshift k_Round_rshift
  have F_Round_invert : Fun K "__invert__" "Round.__invert__" s_Round_invert f_Round_invert (PySem.W.fnOf "__invert__" "Round.__invert__" (defArgs s_Round_invert) (defBody s_Round_invert) (defScope s_Round_invert) .none kV_Round_invert dc_Round_invert pm_Round_invert an_Round_invert cd_Round_invert ct_Round_invert) := fun_mk (st := s_Round_invert) l_Round_invert h_Round_invert k_Round_invert
  have F_Round_eq : Fun K "__eq__" "Round.__eq__" s_Round_eq f_Round_eq (PySem.W.fnOf "__eq__" "Round.__eq__" (defArgs s_Round_eq) (defBody s_Round_eq) (defScope s_Round_eq) .none kV_Round_eq dc_Round_eq pm_Round_eq an_Round_eq cd_Round_eq ct_Round_eq) := fun_mk (st := s_Round_eq) l_Round_eq h_Round_eq k_Round_eq
  have F_Round_cut : Fun K "cut" "Round.cut" s_Round_cut f_Round_cut (PySem.W.fnOf "cut" "Round.cut" (defArgs s_Round_cut) (defBody s_Round_cut) (defScope s_Round_cut) .none kV_Round_cut dc_Round_cut pm_Round_cut an_Round_cut cd_Round_cut ct_Round_cut) := fun_mk (st := s_Round_cut) l_Round_cut h_Round_cut k_Round_cut
  have F_Round_splits : Fun K "splits" "Round.splits" s_Round_splits f_Round_splits (PySem.W.fnOf "splits" "Round.splits" (defArgs s_Round_splits) (defBody s_Round_splits) (defScope s_Round_splits) .none kV_Round_splits dc_Round_splits pm_Round_splits an_Round_splits cd_Round_splits ct_Round_splits) := fun_mk (st := s_Round_splits) l_Round_splits h_Round_splits k_Round_splits
  have F__law_cell : Fun K "_law_cell" "_law_cell" s__law_cell f__law_cell (PySem.W.fnOf "_law_cell" "_law_cell" (defArgs s__law_cell) (defBody s__law_cell) (defScope s__law_cell) .none kV__law_cell dc__law_cell pm__law_cell an__law_cell cd__law_cell ct__law_cell) := fun_mk (st := s__law_cell) l__law_cell h__law_cell k__law_cell
  have F__law_pool : Fun K "_law_pool" "_law_pool" s__law_pool f__law_pool (PySem.W.fnOf "_law_pool" "_law_pool" (defArgs s__law_pool) (defBody s__law_pool) (defScope s__law_pool) .none kV__law_pool dc__law_pool pm__law_pool an__law_pool cd__law_pool ct__law_pool) := fun_mk (st := s__law_pool) l__law_pool h__law_pool k__law_pool
  have F__law_whole : Fun K "_law_whole" "_law_whole" s__law_whole f__law_whole (PySem.W.fnOf "_law_whole" "_law_whole" (defArgs s__law_whole) (defBody s__law_whole) (defScope s__law_whole) .none kV__law_whole dc__law_whole pm__law_whole an__law_whole cd__law_whole ct__law_whole) := fun_mk (st := s__law_whole) l__law_whole h__law_whole k__law_whole
  have F__law_word : Fun K "_law_word" "_law_word" s__law_word f__law_word (PySem.W.fnOf "_law_word" "_law_word" (defArgs s__law_word) (defBody s__law_word) (defScope s__law_word) .none kV__law_word dc__law_word pm__law_word an__law_word cd__law_word ct__law_word) := fun_mk (st := s__law_word) l__law_word h__law_word k__law_word
  have F__law_new : Fun K "_law_new" "_law_new" s__law_new f__law_new (PySem.W.fnOf "_law_new" "_law_new" (defArgs s__law_new) (defBody s__law_new) (defScope s__law_new) .none kV__law_new dc__law_new pm__law_new an__law_new cd__law_new ct__law_new) := fun_mk (st := s__law_new) l__law_new h__law_new k__law_new
  have F__law_sequence : Fun K "_law_sequence" "_law_sequence" s__law_sequence f__law_sequence (PySem.W.fnOf "_law_sequence" "_law_sequence" (defArgs s__law_sequence) (defBody s__law_sequence) (defScope s__law_sequence) .none kV__law_sequence dc__law_sequence pm__law_sequence an__law_sequence cd__law_sequence ct__law_sequence) := fun_mk (st := s__law_sequence) l__law_sequence h__law_sequence k__law_sequence
  have F__law_from : Fun K "_law_from" "_law_from" s__law_from f__law_from (PySem.W.fnOf "_law_from" "_law_from" (defArgs s__law_from) (defBody s__law_from) (defScope s__law_from) .none kV__law_from dc__law_from pm__law_from an__law_from cd__law_from ct__law_from) := fun_mk (st := s__law_from) l__law_from h__law_from k__law_from
  have F__law_back : Fun K "_law_back" "_law_back" s__law_back f__law_back (PySem.W.fnOf "_law_back" "_law_back" (defArgs s__law_back) (defBody s__law_back) (defScope s__law_back) .none kV__law_back dc__law_back pm__law_back an__law_back cd__law_back ct__law_back) := fun_mk (st := s__law_back) l__law_back h__law_back k__law_back
  have F__law_is_round : Fun K "_law_is_round" "_law_is_round" s__law_is_round f__law_is_round (PySem.W.fnOf "_law_is_round" "_law_is_round" (defArgs s__law_is_round) (defBody s__law_is_round) (defScope s__law_is_round) .none kV__law_is_round dc__law_is_round pm__law_is_round an__law_is_round cd__law_is_round ct__law_is_round) := fun_mk (st := s__law_is_round) l__law_is_round h__law_is_round k__law_is_round
  have F__law_turned_right : Fun K "_law_turned_right" "_law_turned_right" s__law_turned_right f__law_turned_right (PySem.W.fnOf "_law_turned_right" "_law_turned_right" (defArgs s__law_turned_right) (defBody s__law_turned_right) (defScope s__law_turned_right) .none kV__law_turned_right dc__law_turned_right pm__law_turned_right an__law_turned_right cd__law_turned_right ct__law_turned_right) := fun_mk (st := s__law_turned_right) l__law_turned_right h__law_turned_right k__law_turned_right
  have F__law_turns : Fun K "_law_turns" "_law_turns" s__law_turns f__law_turns (PySem.W.fnOf "_law_turns" "_law_turns" (defArgs s__law_turns) (defBody s__law_turns) (defScope s__law_turns) .none kV__law_turns dc__law_turns pm__law_turns an__law_turns cd__law_turns ct__law_turns) := fun_mk (st := s__law_turns) l__law_turns h__law_turns k__law_turns
  have F__law_equals : Fun K "_law_equals" "_law_equals" s__law_equals f__law_equals (PySem.W.fnOf "_law_equals" "_law_equals" (defArgs s__law_equals) (defBody s__law_equals) (defScope s__law_equals) .none kV__law_equals dc__law_equals pm__law_equals an__law_equals cd__law_equals ct__law_equals) := fun_mk (st := s__law_equals) l__law_equals h__law_equals k__law_equals
  have F__law_cut_is : Fun K "_law_cut_is" "_law_cut_is" s__law_cut_is f__law_cut_is (PySem.W.fnOf "_law_cut_is" "_law_cut_is" (defArgs s__law_cut_is) (defBody s__law_cut_is) (defScope s__law_cut_is) .none kV__law_cut_is dc__law_cut_is pm__law_cut_is an__law_cut_is cd__law_cut_is ct__law_cut_is) := fun_mk (st := s__law_cut_is) l__law_cut_is h__law_cut_is k__law_cut_is
  have F__law_ahead : Fun K "_law_ahead" "_law_ahead" s__law_ahead f__law_ahead (PySem.W.fnOf "_law_ahead" "_law_ahead" (defArgs s__law_ahead) (defBody s__law_ahead) (defScope s__law_ahead) .none kV__law_ahead dc__law_ahead pm__law_ahead an__law_ahead cd__law_ahead ct__law_ahead) := fun_mk (st := s__law_ahead) l__law_ahead h__law_ahead k__law_ahead
  have F__law_splits_are : Fun K "_law_splits_are" "_law_splits_are" s__law_splits_are f__law_splits_are (PySem.W.fnOf "_law_splits_are" "_law_splits_are" (defArgs s__law_splits_are) (defBody s__law_splits_are) (defScope s__law_splits_are) .none kV__law_splits_are dc__law_splits_are pm__law_splits_are an__law_splits_are cd__law_splits_are ct__law_splits_are) := fun_mk (st := s__law_splits_are) l__law_splits_are h__law_splits_are k__law_splits_are
  have F__law_refused : Fun K "_law_refused" "_law_refused" s__law_refused f__law_refused (PySem.W.fnOf "_law_refused" "_law_refused" (defArgs s__law_refused) (defBody s__law_refused) (defScope s__law_refused) .none kV__law_refused dc__law_refused pm__law_refused an__law_refused cd__law_refused ct__law_refused) := fun_mk (st := s__law_refused) l__law_refused h__law_refused k__law_refused
  have F__law_lists_refused : Fun K "_law_lists_refused" "_law_lists_refused" s__law_lists_refused f__law_lists_refused (PySem.W.fnOf "_law_lists_refused" "_law_lists_refused" (defArgs s__law_lists_refused) (defBody s__law_lists_refused) (defScope s__law_lists_refused) .none kV__law_lists_refused dc__law_lists_refused pm__law_lists_refused an__law_lists_refused cd__law_lists_refused ct__law_lists_refused) := fun_mk (st := s__law_lists_refused) l__law_lists_refused h__law_lists_refused k__law_lists_refused
  have F_law : Fun K "law" "law" s_law f_law (PySem.W.fnOf "law" "law" (defArgs s_law) (defBody s_law) (defScope s_law) .none kV_law dc_law pm_law an_law cd_law ct_law) := fun_mk (st := s_law) l_law h_law k_law
  have cl_Round : Cls K c_Round := ⟨pg_Round, hd_Round, po_Round, sa_Round⟩
  have T : Txt K mg { c_RowsError := c_RowsError, c_Unknown := c_Unknown, c_Impossible := c_Impossible, c_UnknownColumn := c_UnknownColumn, c_BadRound := c_BadRound, c_BadNumber := c_BadNumber, c_SameColumn := c_SameColumn, c_Round := c_Round, f_UnknownColumn_init := f_UnknownColumn_init, fd_UnknownColumn_init := PySem.W.fnOf "__init__" "UnknownColumn.__init__" (defArgs s_UnknownColumn_init) (defBody s_UnknownColumn_init) (defScope s_UnknownColumn_init) .none kV_UnknownColumn_init dc_UnknownColumn_init pm_UnknownColumn_init an_UnknownColumn_init cd_UnknownColumn_init ct_UnknownColumn_init, f_BadRound_init := f_BadRound_init, fd_BadRound_init := PySem.W.fnOf "__init__" "BadRound.__init__" (defArgs s_BadRound_init) (defBody s_BadRound_init) (defScope s_BadRound_init) .none kV_BadRound_init dc_BadRound_init pm_BadRound_init an_BadRound_init cd_BadRound_init ct_BadRound_init, f_BadNumber_init := f_BadNumber_init, fd_BadNumber_init := PySem.W.fnOf "__init__" "BadNumber.__init__" (defArgs s_BadNumber_init) (defBody s_BadNumber_init) (defScope s_BadNumber_init) .none kV_BadNumber_init dc_BadNumber_init pm_BadNumber_init an_BadNumber_init cd_BadNumber_init ct_BadNumber_init, f_SameColumn_init := f_SameColumn_init, fd_SameColumn_init := PySem.W.fnOf "__init__" "SameColumn.__init__" (defArgs s_SameColumn_init) (defBody s_SameColumn_init) (defScope s_SameColumn_init) .none kV_SameColumn_init dc_SameColumn_init pm_SameColumn_init an_SameColumn_init cd_SameColumn_init ct_SameColumn_init, f_is_name := f_is_name, fd_is_name := PySem.W.fnOf "is_name" "is_name" (defArgs s_is_name) (defBody s_is_name) (defScope s_is_name) .none kV_is_name dc_is_name pm_is_name an_is_name cd_is_name ct_is_name, f_check_known := f_check_known, fd_check_known := PySem.W.fnOf "check_known" "check_known" (defArgs s_check_known) (defBody s_check_known) (defScope s_check_known) .none kV_check_known dc_check_known pm_check_known an_check_known cd_check_known ct_check_known, f_check_different := f_check_different, fd_check_different := PySem.W.fnOf "check_different" "check_different" (defArgs s_check_different) (defBody s_check_different) (defScope s_check_different) .none kV_check_different dc_check_different pm_check_different an_check_different cd_check_different ct_check_different, f_Round_init := f_Round_init, fd_Round_init := PySem.W.fnOf "__init__" "Round.__init__" (defArgs s_Round_init) (defBody s_Round_init) (defScope s_Round_init) .none kV_Round_init dc_Round_init pm_Round_init an_Round_init cd_Round_init ct_Round_init, f_Round_len := f_Round_len, fd_Round_len := PySem.W.fnOf "__len__" "Round.__len__" (defArgs s_Round_len) (defBody s_Round_len) (defScope s_Round_len) .none kV_Round_len dc_Round_len pm_Round_len an_Round_len cd_Round_len ct_Round_len, f_Round_iter := f_Round_iter, fd_Round_iter := PySem.W.fnOf "__iter__" "Round.__iter__" (defArgs s_Round_iter) (defBody s_Round_iter) (defScope s_Round_iter) .none kV_Round_iter dc_Round_iter pm_Round_iter an_Round_iter cd_Round_iter ct_Round_iter, f_Round_contains := f_Round_contains, fd_Round_contains := PySem.W.fnOf "__contains__" "Round.__contains__" (defArgs s_Round_contains) (defBody s_Round_contains) (defScope s_Round_contains) .none kV_Round_contains dc_Round_contains pm_Round_contains an_Round_contains cd_Round_contains ct_Round_contains, f_Round_getitem := f_Round_getitem, fd_Round_getitem := PySem.W.fnOf "__getitem__" "Round.__getitem__" (defArgs s_Round_getitem) (defBody s_Round_getitem) (defScope s_Round_getitem) .none kV_Round_getitem dc_Round_getitem pm_Round_getitem an_Round_getitem cd_Round_getitem ct_Round_getitem, f_Round_lshift := f_Round_lshift, fd_Round_lshift := PySem.W.fnOf "__lshift__" "Round.__lshift__" (defArgs s_Round_lshift) (defBody s_Round_lshift) (defScope s_Round_lshift) .none kV_Round_lshift dc_Round_lshift pm_Round_lshift an_Round_lshift cd_Round_lshift ct_Round_lshift, f_Round_rshift := f_Round_rshift, fd_Round_rshift := PySem.W.fnOf "__rshift__" "Round.__rshift__" (defArgs s_Round_rshift) (defBody s_Round_rshift) (defScope s_Round_rshift) .none kV_Round_rshift dc_Round_rshift pm_Round_rshift an_Round_rshift cd_Round_rshift ct_Round_rshift, f_Round_invert := f_Round_invert, fd_Round_invert := PySem.W.fnOf "__invert__" "Round.__invert__" (defArgs s_Round_invert) (defBody s_Round_invert) (defScope s_Round_invert) .none kV_Round_invert dc_Round_invert pm_Round_invert an_Round_invert cd_Round_invert ct_Round_invert, f_Round_eq := f_Round_eq, fd_Round_eq := PySem.W.fnOf "__eq__" "Round.__eq__" (defArgs s_Round_eq) (defBody s_Round_eq) (defScope s_Round_eq) .none kV_Round_eq dc_Round_eq pm_Round_eq an_Round_eq cd_Round_eq ct_Round_eq, f_Round_cut := f_Round_cut, fd_Round_cut := PySem.W.fnOf "cut" "Round.cut" (defArgs s_Round_cut) (defBody s_Round_cut) (defScope s_Round_cut) .none kV_Round_cut dc_Round_cut pm_Round_cut an_Round_cut cd_Round_cut ct_Round_cut, f_Round_splits := f_Round_splits, fd_Round_splits := PySem.W.fnOf "splits" "Round.splits" (defArgs s_Round_splits) (defBody s_Round_splits) (defScope s_Round_splits) .none kV_Round_splits dc_Round_splits pm_Round_splits an_Round_splits cd_Round_splits ct_Round_splits, f__law_cell := f__law_cell, fd__law_cell := PySem.W.fnOf "_law_cell" "_law_cell" (defArgs s__law_cell) (defBody s__law_cell) (defScope s__law_cell) .none kV__law_cell dc__law_cell pm__law_cell an__law_cell cd__law_cell ct__law_cell, f__law_pool := f__law_pool, fd__law_pool := PySem.W.fnOf "_law_pool" "_law_pool" (defArgs s__law_pool) (defBody s__law_pool) (defScope s__law_pool) .none kV__law_pool dc__law_pool pm__law_pool an__law_pool cd__law_pool ct__law_pool, f__law_whole := f__law_whole, fd__law_whole := PySem.W.fnOf "_law_whole" "_law_whole" (defArgs s__law_whole) (defBody s__law_whole) (defScope s__law_whole) .none kV__law_whole dc__law_whole pm__law_whole an__law_whole cd__law_whole ct__law_whole, f__law_word := f__law_word, fd__law_word := PySem.W.fnOf "_law_word" "_law_word" (defArgs s__law_word) (defBody s__law_word) (defScope s__law_word) .none kV__law_word dc__law_word pm__law_word an__law_word cd__law_word ct__law_word, f__law_new := f__law_new, fd__law_new := PySem.W.fnOf "_law_new" "_law_new" (defArgs s__law_new) (defBody s__law_new) (defScope s__law_new) .none kV__law_new dc__law_new pm__law_new an__law_new cd__law_new ct__law_new, f__law_sequence := f__law_sequence, fd__law_sequence := PySem.W.fnOf "_law_sequence" "_law_sequence" (defArgs s__law_sequence) (defBody s__law_sequence) (defScope s__law_sequence) .none kV__law_sequence dc__law_sequence pm__law_sequence an__law_sequence cd__law_sequence ct__law_sequence, f__law_from := f__law_from, fd__law_from := PySem.W.fnOf "_law_from" "_law_from" (defArgs s__law_from) (defBody s__law_from) (defScope s__law_from) .none kV__law_from dc__law_from pm__law_from an__law_from cd__law_from ct__law_from, f__law_back := f__law_back, fd__law_back := PySem.W.fnOf "_law_back" "_law_back" (defArgs s__law_back) (defBody s__law_back) (defScope s__law_back) .none kV__law_back dc__law_back pm__law_back an__law_back cd__law_back ct__law_back, f__law_is_round := f__law_is_round, fd__law_is_round := PySem.W.fnOf "_law_is_round" "_law_is_round" (defArgs s__law_is_round) (defBody s__law_is_round) (defScope s__law_is_round) .none kV__law_is_round dc__law_is_round pm__law_is_round an__law_is_round cd__law_is_round ct__law_is_round, f__law_turned_right := f__law_turned_right, fd__law_turned_right := PySem.W.fnOf "_law_turned_right" "_law_turned_right" (defArgs s__law_turned_right) (defBody s__law_turned_right) (defScope s__law_turned_right) .none kV__law_turned_right dc__law_turned_right pm__law_turned_right an__law_turned_right cd__law_turned_right ct__law_turned_right, f__law_turns := f__law_turns, fd__law_turns := PySem.W.fnOf "_law_turns" "_law_turns" (defArgs s__law_turns) (defBody s__law_turns) (defScope s__law_turns) .none kV__law_turns dc__law_turns pm__law_turns an__law_turns cd__law_turns ct__law_turns, f__law_equals := f__law_equals, fd__law_equals := PySem.W.fnOf "_law_equals" "_law_equals" (defArgs s__law_equals) (defBody s__law_equals) (defScope s__law_equals) .none kV__law_equals dc__law_equals pm__law_equals an__law_equals cd__law_equals ct__law_equals, f__law_cut_is := f__law_cut_is, fd__law_cut_is := PySem.W.fnOf "_law_cut_is" "_law_cut_is" (defArgs s__law_cut_is) (defBody s__law_cut_is) (defScope s__law_cut_is) .none kV__law_cut_is dc__law_cut_is pm__law_cut_is an__law_cut_is cd__law_cut_is ct__law_cut_is, f__law_ahead := f__law_ahead, fd__law_ahead := PySem.W.fnOf "_law_ahead" "_law_ahead" (defArgs s__law_ahead) (defBody s__law_ahead) (defScope s__law_ahead) .none kV__law_ahead dc__law_ahead pm__law_ahead an__law_ahead cd__law_ahead ct__law_ahead, f__law_splits_are := f__law_splits_are, fd__law_splits_are := PySem.W.fnOf "_law_splits_are" "_law_splits_are" (defArgs s__law_splits_are) (defBody s__law_splits_are) (defScope s__law_splits_are) .none kV__law_splits_are dc__law_splits_are pm__law_splits_are an__law_splits_are cd__law_splits_are ct__law_splits_are, f__law_refused := f__law_refused, fd__law_refused := PySem.W.fnOf "_law_refused" "_law_refused" (defArgs s__law_refused) (defBody s__law_refused) (defScope s__law_refused) .none kV__law_refused dc__law_refused pm__law_refused an__law_refused cd__law_refused ct__law_refused, f__law_lists_refused := f__law_lists_refused, fd__law_lists_refused := PySem.W.fnOf "_law_lists_refused" "_law_lists_refused" (defArgs s__law_lists_refused) (defBody s__law_lists_refused) (defScope s__law_lists_refused) .none kV__law_lists_refused dc__law_lists_refused pm__law_lists_refused an__law_lists_refused cd__law_lists_refused ct__law_lists_refused, f_law := f_law, fd_law := PySem.W.fnOf "law" "law" (defArgs s_law) (defBody s_law) (defScope s_law) .none kV_law dc_law pm_law an_law cd_law ct_law } := {
    F_UnknownColumn_init := F_UnknownColumn_init,
    B_UnknownColumn_init := F_UnknownColumn_init.binds (ps := ["self", "name"]) fun _ _ _ _ _ _ us hl => match us, hl with | [_, _], _ => rfl,
    F_BadRound_init := F_BadRound_init,
    B_BadRound_init := F_BadRound_init.binds (ps := ["self", "index"]) fun _ _ _ _ _ _ us hl => match us, hl with | [_, _], _ => rfl,
    F_BadNumber_init := F_BadNumber_init,
    B_BadNumber_init := F_BadNumber_init.binds (ps := ["self", "number"]) fun _ _ _ _ _ _ us hl => match us, hl with | [_, _], _ => rfl,
    F_SameColumn_init := F_SameColumn_init,
    B_SameColumn_init := F_SameColumn_init.binds (ps := ["self", "name"]) fun _ _ _ _ _ _ us hl => match us, hl with | [_, _], _ => rfl,
    F_is_name := F_is_name,
    B_is_name := F_is_name.binds (ps := ["text"]) fun _ _ _ _ _ _ us hl => match us, hl with | [_], _ => rfl,
    F_check_known := F_check_known,
    B_check_known := F_check_known.binds (ps := ["columns", "names"]) fun _ _ _ _ _ _ us hl => match us, hl with | [_, _], _ => rfl,
    F_check_different := F_check_different,
    B_check_different := F_check_different.binds (ps := ["known", "names"]) fun _ _ _ _ _ _ us hl => match us, hl with | [_, _], _ => rfl,
    F_Round_init := F_Round_init,
    B_Round_init := F_Round_init.binds (ps := ["self", "names"]) fun _ _ _ _ _ _ us hl => match us, hl with | [_, _], _ => rfl,
    F_Round_len := F_Round_len,
    B_Round_len := F_Round_len.binds (ps := ["self"]) fun _ _ _ _ _ _ us hl => match us, hl with | [_], _ => rfl,
    F_Round_iter := F_Round_iter,
    B_Round_iter := F_Round_iter.binds (ps := ["self"]) fun _ _ _ _ _ _ us hl => match us, hl with | [_], _ => rfl,
    F_Round_contains := F_Round_contains,
    B_Round_contains := F_Round_contains.binds (ps := ["self", "name"]) fun _ _ _ _ _ _ us hl => match us, hl with | [_, _], _ => rfl,
    F_Round_getitem := F_Round_getitem,
    B_Round_getitem := F_Round_getitem.binds (ps := ["self", "places"]) fun _ _ _ _ _ _ us hl => match us, hl with | [_, _], _ => rfl,
    F_Round_lshift := F_Round_lshift,
    B_Round_lshift := F_Round_lshift.binds (ps := ["self", "places"]) fun _ _ _ _ _ _ us hl => match us, hl with | [_, _], _ => rfl,
    F_Round_rshift := F_Round_rshift,
    B_Round_rshift := F_Round_rshift.binds (ps := ["self", "places"]) fun _ _ _ _ _ _ us hl => match us, hl with | [_, _], _ => rfl,
    F_Round_invert := F_Round_invert,
    B_Round_invert := F_Round_invert.binds (ps := ["self"]) fun _ _ _ _ _ _ us hl => match us, hl with | [_], _ => rfl,
    F_Round_eq := F_Round_eq,
    B_Round_eq := F_Round_eq.binds (ps := ["self", "other"]) fun _ _ _ _ _ _ us hl => match us, hl with | [_, _], _ => rfl,
    F_Round_cut := F_Round_cut,
    B_Round_cut := F_Round_cut.binds (ps := ["self", "name"]) fun _ _ _ _ _ _ us hl => match us, hl with | [_, _], _ => rfl,
    F_Round_splits := F_Round_splits,
    B_Round_splits := F_Round_splits.binds (ps := ["self", "p", "q", "r", "s"]) fun _ _ _ _ _ _ us hl => match us, hl with | [_, _, _, _, _], _ => rfl,
    F__law_cell := F__law_cell,
    B__law_cell := F__law_cell.binds (ps := ["script", "k"]) fun _ _ _ _ _ _ us hl => match us, hl with | [_, _], _ => rfl,
    F__law_pool := F__law_pool,
    B__law_pool := F__law_pool.binds (ps := ["script", "k", "count"]) fun _ _ _ _ _ _ us hl => match us, hl with | [_, _, _], _ => rfl,
    F__law_whole := F__law_whole,
    B__law_whole := F__law_whole.binds (ps := ["pool", "i"]) fun _ _ _ _ _ _ us hl => match us, hl with | [_, _], _ => rfl,
    F__law_word := F__law_word,
    B__law_word := F__law_word.binds (ps := ["pool", "at"]) fun _ _ _ _ _ _ us hl => match us, hl with | [_, _], _ => rfl,
    F__law_new := F__law_new,
    B__law_new := F__law_new.binds (ps := ["names", "word"]) fun _ _ _ _ _ _ us hl => match us, hl with | [_, _], _ => rfl,
    F__law_sequence := F__law_sequence,
    B__law_sequence := F__law_sequence.binds (ps := ["names", "draw"]) fun _ _ _ _ _ _ us hl => match us, hl with | [_, _], _ => rfl,
    F__law_from := F__law_from,
    B__law_from := F__law_from.binds (ps := ["names", "places"]) fun _ _ _ _ _ _ us hl => match us, hl with | [_, _], _ => rfl,
    F__law_back := F__law_back,
    B__law_back := F__law_back.binds (ps := ["names"]) fun _ _ _ _ _ _ us hl => match us, hl with | [_], _ => rfl,
    F__law_is_round := F__law_is_round,
    B__law_is_round := F__law_is_round.binds (ps := ["found", "due"]) fun _ _ _ _ _ _ us hl => match us, hl with | [_, _], _ => rfl,
    F__law_turned_right := F__law_turned_right,
    B__law_turned_right := F__law_turned_right.binds (ps := ["turned", "due"]) fun _ _ _ _ _ _ us hl => match us, hl with | [_, _], _ => rfl,
    F__law_turns := F__law_turns,
    B__law_turns := F__law_turns.binds (ps := ["ring", "names", "places"]) fun _ _ _ _ _ _ us hl => match us, hl with | [_, _, _], _ => rfl,
    F__law_equals := F__law_equals,
    B__law_equals := F__law_equals.binds (ps := ["ring", "names", "others"]) fun _ _ _ _ _ _ us hl => match us, hl with | [_, _, _], _ => rfl,
    F__law_cut_is := F__law_cut_is,
    B__law_cut_is := F__law_cut_is.binds (ps := ["ring", "names", "name"]) fun _ _ _ _ _ _ us hl => match us, hl with | [_, _, _], _ => rfl,
    F__law_ahead := F__law_ahead,
    B__law_ahead := F__law_ahead.binds (ps := ["names", "start", "one", "other"]) fun _ _ _ _ _ _ us hl => match us, hl with | [_, _, _, _], _ => rfl,
    F__law_splits_are := F__law_splits_are,
    B__law_splits_are := F__law_splits_are.binds (ps := ["ring", "names", "four"]) fun _ _ _ _ _ _ us hl => match us, hl with | [_, _, _], _ => rfl,
    F__law_refused := F__law_refused,
    B__law_refused := F__law_refused.binds (ps := ["names"]) fun _ _ _ _ _ _ us hl => match us, hl with | [_], _ => rfl,
    F__law_lists_refused := F__law_lists_refused,
    B__law_lists_refused := F__law_lists_refused.binds (ps := ["names", "pool"]) fun _ _ _ _ _ _ us hl => match us, hl with | [_, _], _ => rfl,
    F_law := F_law,
    B_law := F_law.binds (ps := ["script"]) fun _ _ _ _ _ _ us hl => match us, hl with | [_], _ => rfl,
    m__law_ahead := PySem.W.mg_of X G a__law_ahead,
    k__law_ahead := k__law_ahead,
    m__law_back := PySem.W.mg_of X G a__law_back,
    k__law_back := k__law_back,
    m__law_cell := PySem.W.mg_of X G a__law_cell,
    k__law_cell := k__law_cell,
    m__law_cut_is := PySem.W.mg_of X G a__law_cut_is,
    k__law_cut_is := k__law_cut_is,
    m__law_equals := PySem.W.mg_of X G a__law_equals,
    k__law_equals := k__law_equals,
    m__law_from := PySem.W.mg_of X G a__law_from,
    k__law_from := k__law_from,
    m__law_is_round := PySem.W.mg_of X G a__law_is_round,
    k__law_is_round := k__law_is_round,
    m__law_lists_refused := PySem.W.mg_of X G a__law_lists_refused,
    k__law_lists_refused := k__law_lists_refused,
    m__law_new := PySem.W.mg_of X G a__law_new,
    k__law_new := k__law_new,
    m__law_pool := PySem.W.mg_of X G a__law_pool,
    k__law_pool := k__law_pool,
    m__law_refused := PySem.W.mg_of X G a__law_refused,
    k__law_refused := k__law_refused,
    m__law_sequence := PySem.W.mg_of X G a__law_sequence,
    k__law_sequence := k__law_sequence,
    m__law_splits_are := PySem.W.mg_of X G a__law_splits_are,
    k__law_splits_are := k__law_splits_are,
    m__law_turned_right := PySem.W.mg_of X G a__law_turned_right,
    k__law_turned_right := k__law_turned_right,
    m__law_turns := PySem.W.mg_of X G a__law_turns,
    k__law_turns := k__law_turns,
    m__law_whole := PySem.W.mg_of X G a__law_whole,
    k__law_whole := k__law_whole,
    m__law_word := PySem.W.mg_of X G a__law_word,
    k__law_word := k__law_word,
    m_check_different := PySem.W.mg_of X G a_check_different,
    k_check_different := k_check_different,
    m_check_known := PySem.W.mg_of X G a_check_known,
    k_check_known := k_check_known,
    m_is_name := PySem.W.mg_of X G a_is_name,
    k_is_name := k_is_name,
    m_BadNumber := PySem.W.mg_of X G aC_BadNumber,
    m_BadRound := PySem.W.mg_of X G aC_BadRound,
    m_Impossible := PySem.W.mg_of X G aC_Impossible,
    m_Round := PySem.W.mg_of X G aC_Round,
    m_RowsError := PySem.W.mg_of X G aC_RowsError,
    m_SameColumn := PySem.W.mg_of X G aC_SameColumn,
    m_Unknown := PySem.W.mg_of X G aC_Unknown,
    m_UnknownColumn := PySem.W.mg_of X G aC_UnknownColumn,
    g_LETTERS := ⟨_, PySem.W.mg_of X G g_LETTERS⟩,
    g_LONGEST_NAME := ⟨_, PySem.W.mg_of X G g_LONGEST_NAME⟩,
    g_MOST_NAMES := ⟨_, PySem.W.mg_of X G g_MOST_NAMES⟩,
    b_ValueError := PySem.W.mg_none_of X G b_ValueError,
    b_abs := PySem.W.mg_none_of X G b_abs,
    b_all := PySem.W.mg_none_of X G b_all,
    b_any := PySem.W.mg_none_of X G b_any,
    b_bool := PySem.W.mg_none_of X G b_bool,
    b_enumerate := PySem.W.mg_none_of X G b_enumerate,
    b_int := PySem.W.mg_none_of X G b_int,
    b_isinstance := PySem.W.mg_none_of X G b_isinstance,
    b_iter := PySem.W.mg_none_of X G b_iter,
    b_len := PySem.W.mg_none_of X G b_len,
    b_list := PySem.W.mg_none_of X G b_list,
    b_range := PySem.W.mg_none_of X G b_range,
    b_str := PySem.W.mg_none_of X G b_str,
    b_tuple := PySem.W.mg_none_of X G b_tuple,
    cl_Round := cl_Round,
    na_Round_names := na_Round_names,
    mk_Round := ⟨mk_Round, a_Round_init, i_Round_init, kC_Round⟩,
    me_Round_cut := ⟨a_Round_cut, i_Round_cut, k_Round_cut⟩,
    me_Round_splits := ⟨a_Round_splits, i_Round_splits, k_Round_splits⟩,
    d_Round_contains := ⟨a_Round_contains, i_Round_contains⟩,
    d_Round_eq := ⟨a_Round_eq, i_Round_eq⟩,
    d_Round_getitem := ⟨a_Round_getitem, i_Round_getitem⟩,
    d_Round_invert := ⟨a_Round_invert, i_Round_invert⟩,
    d_Round_iter := ⟨a_Round_iter, i_Round_iter⟩,
    d_Round_len := ⟨a_Round_len, i_Round_len⟩,
    d_Round_lshift := ⟨a_Round_lshift, i_Round_lshift⟩,
    d_Round_rshift := ⟨a_Round_rshift, i_Round_rshift⟩,
    fi_Round := fi_Round,
    sf_Round := sf_Round,
    us_Round := us_Round,
    rr_Round_lshift := rr_Round_lshift,
    rr_Round_rshift := rr_Round_rshift,
    if_lshift := if_lshift,
    ir_lshift := ir_lshift,
    if_rshift := if_rshift,
    ir_rshift := ir_rshift,
    ic_Round := ⟨cl_Round, ca_Round, spG, tkG, mr_Round⟩,
    ox_BadNumber := ⟨⟨_, _, _, _, _, _, _, _, _, _, _, _, _, _, _, xL_BadNumber, xV_BadNumber⟩, sa_BadNumber, ex_BadNumber, ty_BadNumber, kC_BadNumber⟩,
    ei_BadNumber := a_BadNumber_init,
    et_BadNumber := et_BadNumber,
    en_BadNumber_number := en_BadNumber_number,
    ox_BadRound := ⟨⟨_, _, _, _, _, _, _, _, _, _, _, _, _, _, _, xL_BadRound, xV_BadRound⟩, sa_BadRound, ex_BadRound, ty_BadRound, kC_BadRound⟩,
    ei_BadRound := a_BadRound_init,
    et_BadRound := et_BadRound,
    en_BadRound_index := en_BadRound_index,
    ox_SameColumn := ⟨⟨_, _, _, _, _, _, _, _, _, _, _, _, _, _, _, xL_SameColumn, xV_SameColumn⟩, sa_SameColumn, ex_SameColumn, ty_SameColumn, kC_SameColumn⟩,
    ei_SameColumn := a_SameColumn_init,
    et_SameColumn := et_SameColumn,
    en_SameColumn_name := en_SameColumn_name,
    ox_UnknownColumn := ⟨⟨_, _, _, _, _, _, _, _, _, _, _, _, _, _, _, xL_UnknownColumn, xV_UnknownColumn⟩, sa_UnknownColumn, ex_UnknownColumn, ty_UnknownColumn, kC_UnknownColumn⟩,
    ei_UnknownColumn := a_UnknownColumn_init,
    et_UnknownColumn := et_UnknownColumn,
    en_UnknownColumn_name := en_UnknownColumn_name,
    xf_BadNumber_number := ⟨ga_BadNumber, gg_BadNumber, ex_BadNumber, hd_BadNumber, en_BadNumber_number⟩,
    xf_BadRound_index := ⟨ga_BadRound, gg_BadRound, ex_BadRound, hd_BadRound, en_BadRound_index⟩,
    xf_SameColumn_name := ⟨ga_SameColumn, gg_SameColumn, ex_SameColumn, hd_SameColumn, en_SameColumn_name⟩,
    xf_UnknownColumn_name := ⟨ga_UnknownColumn, gg_UnknownColumn, ex_UnknownColumn, hd_UnknownColumn, en_UnknownColumn_name⟩,
    xi_BadNumber := ⟨is_BadNumber, ga_BadNumber, gg_BadNumber, ex_BadNumber, ca_BadNumber, spG, tkG, mr_BadNumber⟩,
    xi_BadRound := ⟨is_BadRound, ga_BadRound, gg_BadRound, ex_BadRound, ca_BadRound, spG, tkG, mr_BadRound⟩,
    xi_SameColumn := ⟨is_SameColumn, ga_SameColumn, gg_SameColumn, ex_SameColumn, ca_SameColumn, spG, tkG, mr_SameColumn⟩,
    xi_UnknownColumn := ⟨is_UnknownColumn, ga_UnknownColumn, gg_UnknownColumn, ex_UnknownColumn, ca_UnknownColumn, spG, tkG, mr_UnknownColumn⟩,
    kt_BadNumber_Impossible := kit_ref ne_BadNumber_Impossible is_Impossible ty_Impossible su_BadNumber_Impossible,
    kt_BadNumber_RowsError := kit_ref ne_BadNumber_RowsError is_RowsError ty_RowsError su_BadNumber_RowsError,
    kt_BadNumber_Unknown := kit_ref ne_BadNumber_Unknown is_Unknown ty_Unknown su_BadNumber_Unknown,
    kt_BadNumber_ValueError := kit_tyE (by decide +kernel) su_BadNumber_ValueError,
    kt_BadRound_Impossible := kit_ref ne_BadRound_Impossible is_Impossible ty_Impossible su_BadRound_Impossible,
    kt_BadRound_RowsError := kit_ref ne_BadRound_RowsError is_RowsError ty_RowsError su_BadRound_RowsError,
    kt_BadRound_Unknown := kit_ref ne_BadRound_Unknown is_Unknown ty_Unknown su_BadRound_Unknown,
    kt_BadRound_ValueError := kit_tyE (by decide +kernel) su_BadRound_ValueError,
    kt_SameColumn_Impossible := kit_ref ne_SameColumn_Impossible is_Impossible ty_Impossible su_SameColumn_Impossible,
    kt_SameColumn_RowsError := kit_ref ne_SameColumn_RowsError is_RowsError ty_RowsError su_SameColumn_RowsError,
    kt_SameColumn_Unknown := kit_ref ne_SameColumn_Unknown is_Unknown ty_Unknown su_SameColumn_Unknown,
    kt_UnknownColumn_Impossible := kit_ref ne_UnknownColumn_Impossible is_Impossible ty_Impossible su_UnknownColumn_Impossible,
    kt_UnknownColumn_RowsError := kit_ref ne_UnknownColumn_RowsError is_RowsError ty_RowsError su_UnknownColumn_RowsError,
    kt_UnknownColumn_Unknown := kit_ref ne_UnknownColumn_Unknown is_Unknown ty_Unknown su_UnknownColumn_Unknown,
    kt_UnknownColumn_ValueError := kit_tyE (by decide +kernel) su_UnknownColumn_ValueError,
    ex_BadNumber_BadNumber := exm_ref ex_BadNumber is_BadNumber ty_BadNumber su_BadNumber_BadNumber,
    ex_BadNumber_BadRound := exm_ref ex_BadRound is_BadRound ty_BadRound su_BadNumber_BadRound,
    ex_BadNumber_SameColumn := exm_ref ex_SameColumn is_SameColumn ty_SameColumn su_BadNumber_SameColumn,
    ex_BadNumber_UnknownColumn := exm_ref ex_UnknownColumn is_UnknownColumn ty_UnknownColumn su_BadNumber_UnknownColumn,
    ex_BadRound_BadNumber := exm_ref ex_BadNumber is_BadNumber ty_BadNumber su_BadRound_BadNumber,
    ex_BadRound_BadRound := exm_ref ex_BadRound is_BadRound ty_BadRound su_BadRound_BadRound,
    ex_BadRound_SameColumn := exm_ref ex_SameColumn is_SameColumn ty_SameColumn su_BadRound_SameColumn,
    ex_BadRound_UnknownColumn := exm_ref ex_UnknownColumn is_UnknownColumn ty_UnknownColumn su_BadRound_UnknownColumn,
    ex_SameColumn_BadNumber := exm_ref ex_BadNumber is_BadNumber ty_BadNumber su_SameColumn_BadNumber,
    ex_SameColumn_BadRound := exm_ref ex_BadRound is_BadRound ty_BadRound su_SameColumn_BadRound,
    ex_SameColumn_SameColumn := exm_ref ex_SameColumn is_SameColumn ty_SameColumn su_SameColumn_SameColumn,
    ex_SameColumn_UnknownColumn := exm_ref ex_UnknownColumn is_UnknownColumn ty_UnknownColumn su_SameColumn_UnknownColumn,
    ex_UnknownColumn_BadNumber := exm_ref ex_BadNumber is_BadNumber ty_BadNumber su_UnknownColumn_BadNumber,
    ex_UnknownColumn_BadRound := exm_ref ex_BadRound is_BadRound ty_BadRound su_UnknownColumn_BadRound,
    ex_UnknownColumn_SameColumn := exm_ref ex_SameColumn is_SameColumn ty_SameColumn su_UnknownColumn_SameColumn,
    ex_UnknownColumn_UnknownColumn := exm_ref ex_UnknownColumn is_UnknownColumn ty_UnknownColumn su_UnknownColumn_UnknownColumn,
    ki_Round := kit_self }
  exact ⟨_, fun s v => .of_eq rfl, fun base _ _ => ok_law T⟩
theorem sp_law (K : PySem.W.Frag) (H : Hp) (a : Addr) (ns : List Int) (hl : ns.length ≤ 63) (hS : SqL K H a (ns.map V.int)) : spOf K S_law0 [.ref a] H (fun v _ => v = .bl true) fun _ _ _ => False :=
  ⟨H, [.scr ns], fun r => r = .sh (.bl true), fun _ => False, Same.refl _, .cons (.scr hS) .nil, ⟨ns, rfl, hl, rfl⟩, fun Φ r v B' H' e _ _ d => by subst e; cases (show Den K B' v (.bl true) from d); rfl, fun _ _ _ _ _ z => z.elim⟩
theorem walk {l : PySem.W.OpenLaw} {q : Program} {loose : List Str} {XP : (Str → Option Value) → Heap → Prop} {YP : World → Heap → Prop} {d : DefRec} {K : Params → PySem.W.Frag} (hn : l.most = some 63) (hdf : d.params.defaults = [])
    (hY : ∀ (w : World) (h : Heap), YP w h → (K w.params).In h)
    (F : ∀ (w : World) (mg : Str → Option Value) (fa : Addr) (h : Heap), (K w.params).In h → h.Ns mainGlobals mg → mg d.name = some (.ref fa) →
      ∃ fd : FuncData, (∀ (s : Shared) (u : Value), BindsTo s fd ⟨[u], []⟩ [("script", u)]) ∧ ∀ base : Heap, (K w.params).In base → base.Ns mainGlobals mg → FnOk l.prog w (K w.params) mg base (L2.CX l.prog w) 9 fa fd ["script"] (spOf (K w.params) S_law0)) :
    PySem.W.WalkO q loose XP YP l.row.toRowW d [] (fun f vs => PySem.call f vs) :=
  L2.walk_of (n := 63) (k := 9) (x := "script") (CX := fun w => L2.CX l.prog w) (sp := fun w => spOf (K w.params) S_law0) hn (by decide) hdf ⟨rfl, by decide, by decide⟩ hY F (fun w H a ns hl _ hS => sp_law (K w.params) H a ns hl hS) fun _ _ _ _ _ ⟨_, _, _, _, _, _, _, _, _, _, _, _, z⟩ => z
end K09
open PySem PySem.W PyProof.Rows
set_option maxRecDepth 100000 in
set_option maxHeartbeats 0 in
theorem PySem.Challenge.cw_standingrows_k09_rounds_holds : PySem.Challenge.rw_standingrows_k09_rounds.Holds := by
  w_on; o_law; k_head; (case hw => w_witness2)
  k_fill
  refine K09.walk (l := PySem.Challenge.rw_standingrows_k09_rounds) rfl rfl (fun w h Y => PySem.W.kIn_of Y) ?F
  case F =>
    intro w mg fa h KX G hmg
    refine' K09.all_mk KX G hmg ?aC_RowsError ?aC_Unknown ?aC_Impossible ?aC_UnknownColumn ?aC_BadRound ?aC_BadNumber ?aC_SameColumn ?aC_Round ?a_UnknownColumn_init ?i_UnknownColumn_init ?l_UnknownColumn_init ?h_UnknownColumn_init ?k_UnknownColumn_init ?a_BadRound_init ?i_BadRound_init ?l_BadRound_init ?h_BadRound_init ?k_BadRound_init ?a_BadNumber_init ?i_BadNumber_init ?l_BadNumber_init ?h_BadNumber_init ?k_BadNumber_init ?a_SameColumn_init ?i_SameColumn_init ?l_SameColumn_init ?h_SameColumn_init ?k_SameColumn_init ?a_is_name ?l_is_name ?h_is_name ?k_is_name ?a_check_known ?l_check_known ?h_check_known ?k_check_known ?a_check_different ?l_check_different ?h_check_different ?k_check_different ?a_Round_init ?i_Round_init ?l_Round_init ?h_Round_init ?k_Round_init ?a_Round_len ?i_Round_len ?l_Round_len ?h_Round_len ?k_Round_len ?a_Round_iter ?i_Round_iter ?l_Round_iter ?h_Round_iter ?k_Round_iter ?a_Round_contains ?i_Round_contains ?l_Round_contains ?h_Round_contains ?k_Round_contains ?a_Round_getitem ?i_Round_getitem ?l_Round_getitem ?h_Round_getitem ?k_Round_getitem ?a_Round_lshift ?i_Round_lshift ?l_Round_lshift ?h_Round_lshift ?k_Round_lshift ?a_Round_rshift ?i_Round_rshift ?l_Round_rshift ?h_Round_rshift ?k_Round_rshift ?a_Round_invert ?i_Round_invert ?l_Round_invert ?h_Round_invert ?k_Round_invert ?a_Round_eq ?i_Round_eq ?l_Round_eq ?h_Round_eq ?k_Round_eq ?a_Round_cut ?i_Round_cut ?l_Round_cut ?h_Round_cut ?k_Round_cut ?a_Round_splits ?i_Round_splits ?l_Round_splits ?h_Round_splits ?k_Round_splits ?a__law_cell ?l__law_cell ?h__law_cell ?k__law_cell ?a__law_pool ?l__law_pool ?h__law_pool ?k__law_pool ?a__law_whole ?l__law_whole ?h__law_whole ?k__law_whole ?a__law_word ?l__law_word ?h__law_word ?k__law_word ?a__law_new ?l__law_new ?h__law_new ?k__law_new ?a__law_sequence ?l__law_sequence ?h__law_sequence ?k__law_sequence ?a__law_from ?l__law_from ?h__law_from ?k__law_from ?a__law_back ?l__law_back ?h__law_back ?k__law_back ?a__law_is_round ?l__law_is_round ?h__law_is_round ?k__law_is_round ?a__law_turned_right ?l__law_turned_right ?h__law_turned_right ?k__law_turned_right ?a__law_turns ?l__law_turns ?h__law_turns ?k__law_turns ?a__law_equals ?l__law_equals ?h__law_equals ?k__law_equals ?a__law_cut_is ?l__law_cut_is ?h__law_cut_is ?k__law_cut_is ?a__law_ahead ?l__law_ahead ?h__law_ahead ?k__law_ahead ?a__law_splits_are ?l__law_splits_are ?h__law_splits_are ?k__law_splits_are ?a__law_refused ?l__law_refused ?h__law_refused ?k__law_refused ?a__law_lists_refused ?l__law_lists_refused ?h__law_lists_refused ?k__law_lists_refused ?a_law ?l_law ?h_law ?k_law ?g_LETTERS ?g_LONGEST_NAME ?g_MOST_NAMES ?b_ValueError ?b_abs ?b_all ?b_any ?b_bool ?b_enumerate ?b_int ?b_isinstance ?b_iter ?b_len ?b_list ?b_range ?b_str ?b_tuple ?pg_Round ?hd_Round ?po_Round ?sa_Round ?na_Round_names ?mk_Round ?kC_Round ?fi_Round ?sf_Round ?us_Round ?rr_Round_lshift ?rr_Round_rshift ?if_lshift ?ir_lshift ?if_rshift ?ir_rshift ?spG ?tkG ?ca_Round ?mr_Round ?xL_BadNumber ?xV_BadNumber ?sa_BadNumber ?ex_BadNumber ?ty_BadNumber ?is_BadNumber ?kC_BadNumber ?et_BadNumber ?en_BadNumber_number ?xL_BadRound ?xV_BadRound ?sa_BadRound ?ex_BadRound ?ty_BadRound ?is_BadRound ?kC_BadRound ?et_BadRound ?en_BadRound_index ?xL_SameColumn ?xV_SameColumn ?sa_SameColumn ?ex_SameColumn ?ty_SameColumn ?is_SameColumn ?kC_SameColumn ?et_SameColumn ?en_SameColumn_name ?xL_UnknownColumn ?xV_UnknownColumn ?sa_UnknownColumn ?ex_UnknownColumn ?ty_UnknownColumn ?is_UnknownColumn ?kC_UnknownColumn ?et_UnknownColumn ?en_UnknownColumn_name ?ga_BadNumber ?gg_BadNumber ?hd_BadNumber ?ga_BadRound ?gg_BadRound ?hd_BadRound ?ga_SameColumn ?gg_SameColumn ?hd_SameColumn ?ga_UnknownColumn ?gg_UnknownColumn ?hd_UnknownColumn ?ca_BadNumber ?mr_BadNumber ?ca_BadRound ?mr_BadRound ?ca_SameColumn ?mr_SameColumn ?ca_UnknownColumn ?mr_UnknownColumn ?su_BadNumber_Impossible ?ex_Impossible ?ty_Impossible ?is_Impossible ?ne_BadNumber_Impossible ?su_BadNumber_RowsError ?ex_RowsError ?ty_RowsError ?is_RowsError ?ne_BadNumber_RowsError ?su_BadNumber_Unknown ?ex_Unknown ?ty_Unknown ?is_Unknown ?ne_BadNumber_Unknown ?su_BadNumber_ValueError ?su_BadRound_Impossible ?ne_BadRound_Impossible ?su_BadRound_RowsError ?ne_BadRound_RowsError ?su_BadRound_Unknown ?ne_BadRound_Unknown ?su_BadRound_ValueError ?su_SameColumn_Impossible ?ne_SameColumn_Impossible ?su_SameColumn_RowsError ?ne_SameColumn_RowsError ?su_SameColumn_Unknown ?ne_SameColumn_Unknown ?su_UnknownColumn_Impossible ?ne_UnknownColumn_Impossible ?su_UnknownColumn_RowsError ?ne_UnknownColumn_RowsError ?su_UnknownColumn_Unknown ?ne_UnknownColumn_Unknown ?su_UnknownColumn_ValueError ?su_BadNumber_BadNumber ?su_BadNumber_BadRound ?su_BadNumber_SameColumn ?su_BadNumber_UnknownColumn ?su_BadRound_BadNumber ?su_BadRound_BadRound ?su_BadRound_SameColumn ?su_BadRound_UnknownColumn ?su_SameColumn_BadNumber ?su_SameColumn_BadRound ?su_SameColumn_SameColumn ?su_SameColumn_UnknownColumn ?su_UnknownColumn_BadNumber ?su_UnknownColumn_BadRound ?su_UnknownColumn_SameColumn ?su_UnknownColumn_UnknownColumn
    (case aC_RowsError => k_is)
    (case aC_Unknown => k_is)
    (case aC_Impossible => k_is)
    (case aC_UnknownColumn => k_is)
    (case aC_BadRound => k_is)
    (case aC_BadNumber => k_is)
    (case aC_SameColumn => k_is)
    (case aC_Round => k_is)
    (case a_UnknownColumn_init => k_is)
    (case i_UnknownColumn_init => k_is)
    (case l_UnknownColumn_init => k_is)
    (case h_UnknownColumn_init => k_is)
    (case k_UnknownColumn_init => k_is)
    (case a_BadRound_init => k_is)
    (case i_BadRound_init => k_is)
    (case l_BadRound_init => k_is)
    (case h_BadRound_init => k_is)
    (case k_BadRound_init => k_is)
    (case a_BadNumber_init => k_is)
    (case i_BadNumber_init => k_is)
    (case l_BadNumber_init => k_is)
    (case h_BadNumber_init => k_is)
    (case k_BadNumber_init => k_is)
    (case a_SameColumn_init => k_is)
    (case i_SameColumn_init => k_is)
    (case l_SameColumn_init => k_is)
    (case h_SameColumn_init => k_is)
    (case k_SameColumn_init => k_is)
    (case a_is_name => k_is)
    (case l_is_name => k_is)
    (case h_is_name => k_is)
    (case k_is_name => k_is)
    (case a_check_known => k_is)
    (case l_check_known => k_is)
    (case h_check_known => k_is)
    (case k_check_known => k_is)
    (case a_check_different => k_is)
    (case l_check_different => k_is)
    (case h_check_different => k_is)
    (case k_check_different => k_is)
    (case a_Round_init => k_is)
    (case i_Round_init => k_is)
    (case l_Round_init => k_is)
    (case h_Round_init => k_is)
    (case k_Round_init => k_is)
    (case a_Round_len => k_is)
    (case i_Round_len => k_is)
    (case l_Round_len => k_is)
    (case h_Round_len => k_is)
    (case k_Round_len => k_is)
    (case a_Round_iter => k_is)
    (case i_Round_iter => k_is)
    (case l_Round_iter => k_is)
    (case h_Round_iter => k_is)
    (case k_Round_iter => k_is)
    (case a_Round_contains => k_is)
    (case i_Round_contains => k_is)
    (case l_Round_contains => k_is)
    (case h_Round_contains => k_is)
    (case k_Round_contains => k_is)
    (case a_Round_getitem => k_is)
    (case i_Round_getitem => k_is)
    (case l_Round_getitem => k_is)
    (case h_Round_getitem => k_is)
    (case k_Round_getitem => k_is)
    (case a_Round_lshift => k_is)
    (case i_Round_lshift => k_is)
    (case l_Round_lshift => k_is)
    (case h_Round_lshift => k_is)
    (case k_Round_lshift => k_is)
    (case a_Round_rshift => k_is)
    (case i_Round_rshift => k_is)
    (case l_Round_rshift => k_is)
    (case h_Round_rshift => k_is)
    (case k_Round_rshift => k_is)
    (case a_Round_invert => k_is)
    (case i_Round_invert => k_is)
    (case l_Round_invert => k_is)
    (case h_Round_invert => k_is)
    (case k_Round_invert => k_is)
    (case a_Round_eq => k_is)
    (case i_Round_eq => k_is)
    (case l_Round_eq => k_is)
    (case h_Round_eq => k_is)
    (case k_Round_eq => k_is)
    (case a_Round_cut => k_is)
    (case i_Round_cut => k_is)
    (case l_Round_cut => k_is)
    (case h_Round_cut => k_is)
    (case k_Round_cut => k_is)
    (case a_Round_splits => k_is)
    (case i_Round_splits => k_is)
    (case l_Round_splits => k_is)
    (case h_Round_splits => k_is)
    (case k_Round_splits => k_is)
    (case a__law_cell => k_is)
    (case l__law_cell => k_is)
    (case h__law_cell => k_is)
    (case k__law_cell => k_is)
    (case a__law_pool => k_is)
    (case l__law_pool => k_is)
    (case h__law_pool => k_is)
    (case k__law_pool => k_is)
    (case a__law_whole => k_is)
    (case l__law_whole => k_is)
    (case h__law_whole => k_is)
    (case k__law_whole => k_is)
    (case a__law_word => k_is)
    (case l__law_word => k_is)
    (case h__law_word => k_is)
    (case k__law_word => k_is)
    (case a__law_new => k_is)
    (case l__law_new => k_is)
    (case h__law_new => k_is)
    (case k__law_new => k_is)
    (case a__law_sequence => k_is)
    (case l__law_sequence => k_is)
    (case h__law_sequence => k_is)
    (case k__law_sequence => k_is)
    (case a__law_from => k_is)
    (case l__law_from => k_is)
    (case h__law_from => k_is)
    (case k__law_from => k_is)
    (case a__law_back => k_is)
    (case l__law_back => k_is)
    (case h__law_back => k_is)
    (case k__law_back => k_is)
    (case a__law_is_round => k_is)
    (case l__law_is_round => k_is)
    (case h__law_is_round => k_is)
    (case k__law_is_round => k_is)
    (case a__law_turned_right => k_is)
    (case l__law_turned_right => k_is)
    (case h__law_turned_right => k_is)
    (case k__law_turned_right => k_is)
    (case a__law_turns => k_is)
    (case l__law_turns => k_is)
    (case h__law_turns => k_is)
    (case k__law_turns => k_is)
    (case a__law_equals => k_is)
    (case l__law_equals => k_is)
    (case h__law_equals => k_is)
    (case k__law_equals => k_is)
    (case a__law_cut_is => k_is)
    (case l__law_cut_is => k_is)
    (case h__law_cut_is => k_is)
    (case k__law_cut_is => k_is)
    (case a__law_ahead => k_is)
    (case l__law_ahead => k_is)
    (case h__law_ahead => k_is)
    (case k__law_ahead => k_is)
    (case a__law_splits_are => k_is)
    (case l__law_splits_are => k_is)
    (case h__law_splits_are => k_is)
    (case k__law_splits_are => k_is)
    (case a__law_refused => k_is)
    (case l__law_refused => k_is)
    (case h__law_refused => k_is)
    (case k__law_refused => k_is)
    (case a__law_lists_refused => k_is)
    (case l__law_lists_refused => k_is)
    (case h__law_lists_refused => k_is)
    (case k__law_lists_refused => k_is)
    (case a_law => k_is)
    (case l_law => k_is)
    (case h_law => k_is)
    (case k_law => k_is)
    (case g_LETTERS => k_is)
    (case g_LONGEST_NAME => k_is)
    (case g_MOST_NAMES => k_is)
    (case b_ValueError => k_is)
    (case b_abs => k_is)
    (case b_all => k_is)
    (case b_any => k_is)
    (case b_bool => k_is)
    (case b_enumerate => k_is)
    (case b_int => k_is)
    (case b_isinstance => k_is)
    (case b_iter => k_is)
    (case b_len => k_is)
    (case b_list => k_is)
    (case b_range => k_is)
    (case b_str => k_is)
    (case b_tuple => k_is)
    (case pg_Round => k_is)
    (case hd_Round => k_is)
    (case po_Round => k_is)
    (case sa_Round => k_is)
    (case na_Round_names => k_is)
    (case mk_Round => k_is)
    (case kC_Round => k_is)
    (case fi_Round => k_is)
    (case sf_Round => k_is)
    (case us_Round => k_is)
    (case rr_Round_lshift => k_is)
    (case rr_Round_rshift => k_is)
    (case if_lshift => k_is)
    (case ir_lshift => k_is)
    (case if_rshift => k_is)
    (case ir_rshift => k_is)
    (case spG => k_is)
    (case tkG => k_is)
    (case ca_Round => k_is)
    (case mr_Round => k_is)
    (case xL_BadNumber => k_is)
    (case xV_BadNumber => decide +kernel)
    (case sa_BadNumber => k_is)
    (case ex_BadNumber => k_is)
    (case ty_BadNumber => k_is)
    (case is_BadNumber => k_is)
    (case kC_BadNumber => k_is)
    (case et_BadNumber => k_is)
    (case en_BadNumber_number => k_is)
    (case xL_BadRound => k_is)
    (case xV_BadRound => decide +kernel)
    (case sa_BadRound => k_is)
    (case ex_BadRound => k_is)
    (case ty_BadRound => k_is)
    (case is_BadRound => k_is)
    (case kC_BadRound => k_is)
    (case et_BadRound => k_is)
    (case en_BadRound_index => k_is)
    (case xL_SameColumn => k_is)
    (case xV_SameColumn => decide +kernel)
    (case sa_SameColumn => k_is)
    (case ex_SameColumn => k_is)
    (case ty_SameColumn => k_is)
    (case is_SameColumn => k_is)
    (case kC_SameColumn => k_is)
    (case et_SameColumn => k_is)
    (case en_SameColumn_name => k_is)
    (case xL_UnknownColumn => k_is)
    (case xV_UnknownColumn => decide +kernel)
    (case sa_UnknownColumn => k_is)
    (case ex_UnknownColumn => k_is)
    (case ty_UnknownColumn => k_is)
    (case is_UnknownColumn => k_is)
    (case kC_UnknownColumn => k_is)
    (case et_UnknownColumn => k_is)
    (case en_UnknownColumn_name => k_is)
    (case ga_BadNumber => k_is)
    (case gg_BadNumber => k_is)
    (case hd_BadNumber => k_is)
    (case ga_BadRound => k_is)
    (case gg_BadRound => k_is)
    (case hd_BadRound => k_is)
    (case ga_SameColumn => k_is)
    (case gg_SameColumn => k_is)
    (case hd_SameColumn => k_is)
    (case ga_UnknownColumn => k_is)
    (case gg_UnknownColumn => k_is)
    (case hd_UnknownColumn => k_is)
    (case ca_BadNumber => k_is)
    (case mr_BadNumber => k_is)
    (case ca_BadRound => k_is)
    (case mr_BadRound => k_is)
    (case ca_SameColumn => k_is)
    (case mr_SameColumn => k_is)
    (case ca_UnknownColumn => k_is)
    (case mr_UnknownColumn => k_is)
    (case su_BadNumber_Impossible => k_is)
    (case ex_Impossible => k_is)
    (case ty_Impossible => k_is)
    (case is_Impossible => k_is)
    (case ne_BadNumber_Impossible => rfl)
    (case su_BadNumber_RowsError => k_is)
    (case ex_RowsError => k_is)
    (case ty_RowsError => k_is)
    (case is_RowsError => k_is)
    (case ne_BadNumber_RowsError => rfl)
    (case su_BadNumber_Unknown => k_is)
    (case ex_Unknown => k_is)
    (case ty_Unknown => k_is)
    (case is_Unknown => k_is)
    (case ne_BadNumber_Unknown => rfl)
    (case su_BadNumber_ValueError => k_is)
    (case su_BadRound_Impossible => k_is)
    (case ne_BadRound_Impossible => rfl)
    (case su_BadRound_RowsError => k_is)
    (case ne_BadRound_RowsError => rfl)
    (case su_BadRound_Unknown => k_is)
    (case ne_BadRound_Unknown => rfl)
    (case su_BadRound_ValueError => k_is)
    (case su_SameColumn_Impossible => k_is)
    (case ne_SameColumn_Impossible => rfl)
    (case su_SameColumn_RowsError => k_is)
    (case ne_SameColumn_RowsError => rfl)
    (case su_SameColumn_Unknown => k_is)
    (case ne_SameColumn_Unknown => rfl)
    (case su_UnknownColumn_Impossible => k_is)
    (case ne_UnknownColumn_Impossible => rfl)
    (case su_UnknownColumn_RowsError => k_is)
    (case ne_UnknownColumn_RowsError => rfl)
    (case su_UnknownColumn_Unknown => k_is)
    (case ne_UnknownColumn_Unknown => rfl)
    (case su_UnknownColumn_ValueError => k_is)
    (case su_BadNumber_BadNumber => k_is)
    (case su_BadNumber_BadRound => k_is)
    (case su_BadNumber_SameColumn => k_is)
    (case su_BadNumber_UnknownColumn => k_is)
    (case su_BadRound_BadNumber => k_is)
    (case su_BadRound_BadRound => k_is)
    (case su_BadRound_SameColumn => k_is)
    (case su_BadRound_UnknownColumn => k_is)
    (case su_SameColumn_BadNumber => k_is)
    (case su_SameColumn_BadRound => k_is)
    (case su_SameColumn_SameColumn => k_is)
    (case su_SameColumn_UnknownColumn => k_is)
    (case su_UnknownColumn_BadNumber => k_is)
    (case su_UnknownColumn_BadRound => k_is)
    (case su_UnknownColumn_SameColumn => k_is)
    (case su_UnknownColumn_UnknownColumn => k_is)
