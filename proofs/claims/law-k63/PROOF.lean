import PyProof.Rows.All
import Wide.All
import OpenK.AllK
import Wide.FinOn
import HandS.ForMost
import HandS.HeadHook1
import HandS.Deep
import HandS.TupAny
import HandS.TupLe
import HandS.Style
import HandS.FStr
import HandS.Codes
import HandS.Conv
import HandS.Wide
import HandS.Defaults
import HandS.IsInst
import HandS.Property
import HandS.Zip
import HandS.Flow
import HandS.MakeKwOnly
import PySem.Challenge.RW_everyfire_k63_whole_checked_texts
import KE.DatumOrd
import HandS.SortKw
import HandS.Strs
import KE.GoesEnum
import KE.GoesMore
import PyProof.EnumMake
import HandS.More
import HandS.Exc
import HandS.ExcInit
import HandS.ExcOwn
import HandS.ExcIs
import HandS.ExcField
import HandS.TryMany
import HandS.ExcSuper
import KE.KSuperObj
import KE.KSuper
import KE.KExcSuper
import KE.Datum
import HandS.Text
import KE.DatumMore
import HandS.Words
import HandS.WordsExc
import HandS.Head0
import HandS.Head1
import HandS.Head2
import HandS.HeadEnd
import HandS.HeadHook2
import KE.KStateDown
set_option Elab.async false
set_option linter.all false
set_option maxRecDepth 100000
set_option maxHeartbeats 4000000
/-! Efa: a layer of our own over HandS: what an expression, a test, a statement does to DATA (no addresses, no heap in sight). -/
namespace Ef
open PySem L2

/-! ### heaps that grow -/
def Sub (H H' : Hp) : Prop := ∀ a o, H a = some o → H' a = some o
theorem Sub.rfl {H : Hp} : Sub H H := fun _ _ h => h
theorem Sub.trans {H H1 H2 : Hp} (a : Sub H H1) (b : Sub H1 H2) : Sub H H2 := fun x o h => b x o (a x o h)
theorem Sub.none {H H' : Hp} {a : Addr} (s : Sub H H') (h : H' a = Option.none) : H a = Option.none := by
  cases e : H a with
  | none => rfl
  | some o => rw [s a o e] at h; cases h
theorem Sub.upd {H : Hp} {p : Addr} {o : HO} (h : H p = Option.none) : Sub H (upd H p o) := fun a u e => by
  rw [upd_ne (ne_of_none e h)]; exact e
theorem sub_upd {F H : Hp} {p : Addr} {o : HO} (s : Sub F H) (h : F p = Option.none) : Sub F (L2.upd H p o) := fun a u e => by
  rw [upd_ne (ne_of_none e h)]; exact s a u e

/-! ### data -/
inductive D where
  /-- a flat value (or a raw one) -/
  | v (x : V)
  | lst (ds : List D)
  | tup (ds : List D)
  /-- a tuple that tuple() made of a list: its index() may be called -/
  | tix (ds : List D)
  /-- a dict from texts to whole numbers -/
  | dic (kvs : List (Str × Int))
  /-- a dict that stands still for a while (locked) -/
  | ldic (kvs : List (Str × Int))
  /-- a list that stands still -/
  | zst (ds : List D)
  /-- an instance: its class by the module's name, its attributes -/
  | obj (c : Str) (fs : List (Str × D))
abbrev di (i : Int) : D := .v (.int i)
abbrev ds (x : Str) : D := .v (.str x)
abbrev db (b : Bool) : D := .v (.bl b)
abbrev dn : D := .v .non

def encK (kvs : List (Str × Int)) : List (Key × V) := kvs.map fun p => (Sum.inr p.1, V.int p.2)

mutual
inductive Rep (K : PySem.W.Frag) (H : Hp) : V → D → Prop
  | v (x : V) : Rep K H x (.v x)
  | lst {a : Addr} {xs : List V} {ds : List D} : H a = some (.lst xs) → RepA K H xs ds → Rep K H (.ref a) (.lst ds)
  | tup {a : Addr} {xs : List V} {ds : List D} : SqT K H a xs → RepA K H xs ds → Rep K H (.ref a) (.tup ds)
  | tix {a : Addr} {o : Obj} {xs : List V} {ds : List D} : H a = some (.frz o (.tup xs)) → o.dict = none → RepA K H xs ds → Rep K H (.ref a) (.tix ds)
  | dic {a : Addr} {kvs : List (Str × Int)} : H a = some (.dK (encK kvs)) → Rep K H (.ref a) (.dic kvs)
  | zst {a : Addr} {xs : List V} {ds : List D} : SqL K H a xs → RepA K H xs ds → Rep K H (.ref a) (.zst ds)
  | ldic {a : Addr} {o : Obj} {kvs : List (Str × Int)} : H a = some (.frz o (.dK (encK kvs))) → Rep K H (.ref a) (.ldic kvs)
  | obj {a dx : Addr} {c : Str} {vs : List (Str × V)} {fs : List (Str × D)} : H a = some (.ins (He.ga K c) dx vs) → RepF K H vs fs → Rep K H (.ref a) (.obj c fs)
inductive RepA (K : PySem.W.Frag) (H : Hp) : List V → List D → Prop
  | nil : RepA K H [] []
  | cons {x : V} {xs : List V} {d : D} {ds : List D} : Rep K H x d → RepA K H xs ds → RepA K H (x :: xs) (d :: ds)
inductive RepF (K : PySem.W.Frag) (H : Hp) : List (Str × V) → List (Str × D) → Prop
  | nil : RepF K H [] []
  | cons {n : Str} {x : V} {xs : List (Str × V)} {d : D} {ds : List (Str × D)} : Rep K H x d → RepF K H xs ds → RepF K H ((n, x) :: xs) ((n, d) :: ds)
end

theorem sub_l {K : PySem.W.Frag} {H H' : Hp} {a : Addr} {xs : List V} (e : Sub H H') (h : SqL K H a xs) : SqL K H' a xs := by
  rcases h with (h | ⟨o, h⟩) | h
  · exact .inl (.inl (e _ _ h))
  · exact .inl (.inr ⟨o, e _ _ h⟩)
  · exact .inr h
theorem sub_t {K : PySem.W.Frag} {H H' : Hp} {a : Addr} {xs : List V} (e : Sub H H') (h : SqT K H a xs) : SqT K H' a xs := by
  rcases h with (h | ⟨o, h⟩) | h
  · exact .inl (.inl (e _ _ h))
  · exact .inl (.inr ⟨o, e _ _ h⟩)
  · exact .inr h
section
variable {K : PySem.W.Frag} {H H' : Hp}
mutual
theorem Rep.mono (e : Sub H H') : ∀ {x : V} {d : D}, Rep K H x d → Rep K H' x d
  | _, _, .v x => .v x
  | _, _, .lst h r => .lst (e _ _ h) (RepA.mono e r)
  | _, _, .tup h r => .tup (sub_t e h) (RepA.mono e r)
  | _, _, .tix h n r => .tix (e _ _ h) n (RepA.mono e r)
  | _, _, .dic h => .dic (e _ _ h)
  | _, _, .ldic h => .ldic (e _ _ h)
  | _, _, .zst h r => .zst (sub_l e h) (RepA.mono e r)
  | _, _, .obj h r => .obj (e _ _ h) (RepF.mono e r)
theorem RepA.mono (e : Sub H H') : ∀ {xs : List V} {ds : List D}, RepA K H xs ds → RepA K H' xs ds
  | _, _, .nil => .nil
  | _, _, .cons h r => .cons (Rep.mono e h) (RepA.mono e r)
theorem RepF.mono (e : Sub H H') : ∀ {xs : List (Str × V)} {ds : List (Str × D)}, RepF K H xs ds → RepF K H' xs ds
  | _, _, .nil => .nil
  | _, _, .cons h r => .cons (Rep.mono e h) (RepF.mono e r)
end
theorem RepA.length : ∀ {xs : List V} {ds : List D}, RepA K H xs ds → xs.length = ds.length
  | _, _, .nil => rfl
  | _, _, .cons _ r => congrArg Nat.succ (RepA.length r)
theorem RepA.append : ∀ {xs ys : List V} {ds es : List D}, RepA K H xs ds → RepA K H ys es → RepA K H (xs ++ ys) (ds ++ es)
  | _, _, _, _, .nil, q => q
  | _, _, _, _, .cons h r, q => .cons h (RepA.append r q)
theorem RepA.get : ∀ {xs : List V} {ds : List D} {i : Nat} {d : D}, RepA K H xs ds → ds[i]? = some d → ∃ x, xs[i]? = some x ∧ Rep K H x d
  | _, _, _, _, .nil, e => by simp at e
  | _, _, 0, _, .cons h _, e => by simp at e; subst e; exact ⟨_, rfl, h⟩
  | _, _, i + 1, d, .cons _ r, e => RepA.get (i := i) r (by simpa using e)
theorem RepA.get' : ∀ {xs : List V} {ds : List D} {i : Nat} {x : V}, RepA K H xs ds → xs[i]? = some x → ∃ d, ds[i]? = some d ∧ Rep K H x d
  | _, _, _, _, .nil, e => by simp at e
  | _, _, 0, _, .cons h _, e => by simp at e; subst e; exact ⟨_, rfl, h⟩
  | _, _, i + 1, x, .cons _ r, e => RepA.get' (i := i) r (by simpa using e)
theorem RepA.drop : ∀ {xs : List V} {ds : List D} (n : Nat), RepA K H xs ds → RepA K H (xs.drop n) (ds.drop n)
  | _, _, 0, r => r
  | _, _, _ + 1, .nil => .nil
  | _, _, n + 1, .cons _ r => RepA.drop n r
theorem RepA.take : ∀ {xs : List V} {ds : List D} (n : Nat), RepA K H xs ds → RepA K H (xs.take n) (ds.take n)
  | _, _, 0, _ => .nil
  | _, _, _ + 1, .nil => .nil
  | _, _, n + 1, .cons h r => .cons h (RepA.take n r)
theorem RepA.reverse : ∀ {xs : List V} {ds : List D}, RepA K H xs ds → RepA K H xs.reverse ds.reverse
  | _, _, .nil => .nil
  | _, _, .cons h r => by rw [List.reverse_cons, List.reverse_cons]; exact RepA.append (RepA.reverse r) (.cons h .nil)
theorem RepA.flat : ∀ (xs : List V), RepA K H xs (xs.map D.v)
  | [] => .nil
  | x :: xs => .cons (.v x) (RepA.flat xs)
theorem RepA.unflat : ∀ {vs xs : List V}, RepA K H xs (vs.map D.v) → xs = vs := fun {vs} => by
  induction vs with
  | nil => intro xs r; cases r; rfl
  | cons v vs ih =>
    intro xs r
    have r : RepA K H xs (D.v v :: vs.map D.v) := r
    cases r with
    | cons h r2 =>
      cases h
      rw [ih r2]
theorem RepF.lookup : ∀ {xs : List (Str × V)} {ds : List (Str × D)} {n : Str} {d : D}, RepF K H xs ds → ds.lookup n = some d → ∃ x, xs.lookup n = some x ∧ Rep K H x d
  | _, _, _, _, .nil, e => by simp at e
  | _, _, n, d, .cons (n := m) (x := x) h r, e => by
    rw [List.lookup_cons] at e ⊢
    cases q : (n == m) with
    | true => rw [q] at e; cases e; exact ⟨_, rfl, h⟩
    | false => rw [q] at e; exact RepF.lookup r e
theorem RepF.lookup_none : ∀ {xs : List (Str × V)} {ds : List (Str × D)} {n : Str}, RepF K H xs ds → ds.lookup n = none → xs.lookup n = none
  | _, _, _, .nil, _ => rfl
  | _, _, n, .cons (n := m) h r, e => by
    rw [List.lookup_cons] at e ⊢
    cases q : (n == m) with
    | true => rw [q] at e; cases e
    | false => rw [q] at e; exact RepF.lookup_none r e
theorem RepF.length : ∀ {xs : List (Str × V)} {ds : List (Str × D)}, RepF K H xs ds → xs.length = ds.length
  | _, _, .nil => rfl
  | _, _, .cons _ r => congrArg Nat.succ (RepF.length r)
end

theorem Rep.tixTup {K : PySem.W.Frag} {H : Hp} {v : V} {ds : List D} (r : Rep K H v (.tix ds)) : Rep K H v (.tup ds) := by
  cases r with
  | tix h n a => exact .tup (.inl (.inr ⟨_, h⟩)) a
/-- a tuple (or a locked one) -/
def isT : HO → Bool
  | .tup _ => true
  | .frz _ (.tup _) => true
  | _ => false
/-! ### what a step may do: F is the frozen part of H -/
structure Grow (F H F' H' : Hp) : Prop where
  ff : Sub F F'
  fh : Sub F' H'
  hh : Sub H H'
  new : ∀ a o, F' a = some o → F a = none → H a = none ∨ isT o = true
theorem Grow.refl {F H : Hp} (s : Sub F H) : Grow F H F H := ⟨.rfl, s, .rfl, fun a o h n => by rw [n] at h; cases h⟩
theorem Grow.trans {F H F1 H1 F2 H2 : Hp} (a : Grow F H F1 H1) (b : Grow F1 H1 F2 H2) : Grow F H F2 H2 := by
  refine ⟨a.ff.trans b.ff, b.fh, a.hh.trans b.hh, fun x o h n => ?_⟩
  cases e : F1 x with
  | some u =>
    have q := b.ff x u e
    rw [h] at q; cases q
    exact a.new x o e n
  | none =>
    rcases b.new x o h e with z | z
    · exact .inl (a.hh.none z)
    · exact .inr z
/-- the same step, seen from a larger frozen part -/
theorem Grow.join {F G H F' H' : Hp} (s : Sub F G) (t : Sub G H) (g : Grow F H F' H') : ∃ G', Grow G H G' H' ∧ Sub F' G' := by
  refine ⟨fun a => match G a with | some o => some o | none => F' a, ⟨fun a o e => by simp only [e], fun a o e => ?_, g.hh, fun a o e n => ?_⟩, fun a o e => ?_⟩
  · cases q : G a with
    | some u => simp only [q] at e; cases e; exact g.hh a _ (t a _ q)
    | none => simp only [q] at e; exact g.fh a o e
  · simp only [n] at e
    exact g.new a o e (s.none n)
  · cases q : G a with
    | some u =>
      have h1 := g.fh a o e
      have h2 := g.hh a u (t a u q)
      rw [h1] at h2; cases h2
      simp only [q]
    | none => simp only [q]; exact e
/-- a new object is frozen -/
theorem Grow.freeze {F H F' H' : Hp} {p : Addr} {o : HO} (g : Grow F H F' H') (hp : H p = none) (fp : F' p = none) (e : H' p = some o) : Grow F H (upd F' p o) H' := by
  refine ⟨g.ff.trans (Sub.upd fp), fun a u h => ?_, g.hh, fun a u h n => ?_⟩
  · by_cases q : a = p
    · subst q; rw [upd_same] at h; cases h; exact e
    · rw [upd_ne q] at h; exact g.fh a u h
  · by_cases q : a = p
    · subst q; exact .inl hp
    · rw [upd_ne q] at h; exact g.new a u h n

/-! ### what is wanted behind an expression whose value is the datum d; is a new container that holds c -/
def Give (K : PySem.W.Frag) (d : D) (F H : Hp) (Q : VK) : Prop := ∀ v F' H', Grow F H F' H' → Rep K F' v d → Q v H'
theorem Give.go {K : PySem.W.Frag} {d : D} {F H F1 H1 : Hp} {Q : VK} (h : Give K d F H Q) (g : Grow F H F1 H1) : Give K d F1 H1 Q := fun v F' H' g' r => h v F' H' (g.trans g') r
/-- what a container holds, by the frozen part -/
def CellIs (K : PySem.W.Frag) (F H : Hp) (p : Addr) : D → Prop
  | .lst ds => ∃ xs, H p = some (.lst xs) ∧ RepA K F xs ds
  | .dic kvs => H p = some (.dK (encK kvs))
  | .obj c fs => ∃ dx vs, H p = some (.ins (He.ga K c) dx vs) ∧ RepF K F vs fs
  | _ => False
theorem CellIs.there {K : PySem.W.Frag} {F H : Hp} {p : Addr} : ∀ {c : D}, CellIs K F H p c → ∃ o, H p = some o ∧ isT o = false
  | .lst _, ⟨xs, h, _⟩ => ⟨_, h, rfl⟩
  | .dic _, h => ⟨_, h, rfl⟩
  | .obj _ _, ⟨_, _, h, _⟩ => ⟨_, h, rfl⟩
/-- frozen, it is a datum -/
theorem CellIs.rep {K : PySem.W.Frag} {F H : Hp} {p : Addr} {c : D} {o : HO} (h : CellIs K F H p c) (e : H p = some o) (n : F p = none) : Rep K (upd F p o) (.ref p) c := by
  have s : Sub F (upd F p o) := Sub.upd n
  cases c with
  | lst ds =>
    obtain ⟨xs, h1, r⟩ := h
    rw [h1] at e; cases e
    exact .lst upd_same (r.mono s)
  | dic kvs =>
    have h : H p = some (.dK (encK kvs)) := h
    rw [h] at e; cases e
    exact .dic upd_same
  | obj c fs =>
    obtain ⟨dx, vs, h1, r⟩ := h
    rw [h1] at e; cases e
    exact .obj upd_same (r.mono s)
  | v _ => exact h.elim
  | tup _ => exact h.elim
  | tix _ => exact h.elim
  | ldic _ => exact h.elim
  | zst _ => exact h.elim
theorem CellIs.mono {K : PySem.W.Frag} {F F' H H' : Hp} {p : Addr} (s : Sub F F') (t : Sub H H') : ∀ {c : D}, CellIs K F H p c → CellIs K F' H' p c
  | .lst _, ⟨xs, h, r⟩ => ⟨xs, t _ _ h, r.mono s⟩
  | .dic _, h => t _ _ h
  | .obj _ _, ⟨dx, vs, h, r⟩ => ⟨dx, vs, t _ _ h, r.mono s⟩
def GiveN (K : PySem.W.Frag) (c : D) (F H : Hp) (Q : VK) : Prop := ∀ p F' H', Grow F H F' H' → H p = none → F' p = none → CellIs K F' H' p c → Q (.ref p) H'
theorem Give.new {K : PySem.W.Frag} {c : D} {F H : Hp} {Q : VK} (h : Give K c F H Q) : GiveN K c F H Q := fun p F' H' g hp fp ci => by
  obtain ⟨o, e, _⟩ := ci.there
  exact h (.ref p) (upd F' p o) H' (g.freeze hp fp e) (ci.rep e fp)

/-! ### the readings by themselves -/
def WE (X : Cx) (e : Expr) : TE := fun σ H Q => ∀ (pins : List (Addr × Obj)) (s : Shared), Inv X pins σ H s → wpAny (model X.prog X.w) X.A (eval e X.env) (EP X pins σ Q) X.xe s
theorem pe_self {X : Cx} {e : Expr} : PE X e (WE X e) := ⟨fun pins s _ _ _ I h => h pins s I⟩
theorem PE.we {X : Cx} {e : Expr} {t : TE} (h : PE X e t) {σ : L2.St} {H : Hp} {Q : VK} (q : t σ H Q) : WE X e σ H Q := fun pins s I => h.run pins s σ H Q I q
def WT (X : Cx) (e : Expr) : TT := fun σ H Q => ∀ (pins : List (Addr × Obj)) (s : Shared), Inv X pins σ H s → wpAny (model X.prog X.w) X.A (isTrue e X.env (eval e X.env)) (TP X pins σ Q) X.xe s
theorem pt_self {X : Cx} {e : Expr} : PT X e (WT X e) := ⟨fun pins s _ _ _ I h => h pins s I⟩
theorem PT.wt {X : Cx} {e : Expr} {t : TT} (h : PT X e t) {σ : L2.St} {H : Hp} {Q : Bool → Hp → Prop} (q : t σ H Q) : WT X e σ H Q := fun pins s I => h.run pins s σ H Q I q
def WW (X : Cx) (e : Expr) : TT := fun σ H Q => ∀ (wh : Sem Value) (pins : List (Addr × Obj)) (s : Shared), Inv X pins σ H s → wpAny (model X.prog X.w) X.A (isTrue e X.env wh) (TP X pins σ Q) X.xe s
theorem pw_self {X : Cx} {e : Expr} : PW X e (WW X e) := ⟨fun wh pins s _ _ _ I h => h wh pins s I⟩
theorem PW.ww {X : Cx} {e : Expr} {t : TT} (h : PW X e t) {σ : L2.St} {H : Hp} {Q : Bool → Hp → Prop} (q : t σ H Q) : WW X e σ H Q := fun wh pins s I => h.run wh pins s σ H Q I q
def WA (X : Cx) (es : List Expr) : TA := fun σ H Q => ∀ (pos : Pos) (pins : List (Addr × Obj)) (s : Shared), Inv X pins σ H s → wpAny (model X.prog X.w) X.A (spliced (backTo pos (starEach es X.env))) (AP X pins σ Q) X.xe s
theorem pa_self {X : Cx} {es : List Expr} : PA X es (WA X es) := ⟨fun pos pins s _ _ _ I h => h pos pins s I⟩
theorem PA.wa {X : Cx} {es : List Expr} {t : TA} (h : PA X es t) {σ : L2.St} {H : Hp} {Q : List V → Hp → Prop} (q : t σ H Q) : WA X es σ H Q := fun pos pins s I => h.run pos pins s σ H Q I q
def WS (X : Cx) (st : Stmt) : TS := fun E σ H => ∀ (pins : List (Addr × Obj)) (s : Shared), Inv X pins σ H s → wpAny (model X.prog X.w) X.A (exec st X.env) (SP X pins E) X.xe s
theorem ps_self {X : Cx} {st : Stmt} : PS X st (WS X st) := ⟨fun pins s _ _ _ I h => h pins s I⟩
theorem PS.ws {X : Cx} {st : Stmt} {t : TS} (h : PS X st t) {σ : L2.St} {H : Hp} {E : Ends} (q : t E σ H) : WS X st E σ H := fun pins s I => h.run pins s σ H E I q
def WSs (X : Cx) (st : List Stmt) : TS := fun E σ H => ∀ (pins : List (Addr × Obj)) (s : Shared), Inv X pins σ H s → wpAny (model X.prog X.w) X.A (execs st X.env) (SP X pins E) X.xe s
theorem pss_self {X : Cx} {st : List Stmt} : PSs X st (WSs X st) := ⟨fun pins s _ _ _ I h => h pins s I⟩
theorem PSs.wss {X : Cx} {st : List Stmt} {t : TS} (h : PSs X st t) {σ : L2.St} {H : Hp} {E : Ends} (q : t E σ H) : WSs X st E σ H := fun pins s I => h.run pins s σ H E I q
end Ef
set_option maxRecDepth 100000
set_option maxHeartbeats 4000000
/-! EfB: expressions and tests over data. -/
namespace Ef
open PySem L2

/-- the slots as the view ro tells them -/
structure Sl (K : PySem.W.Frag) (F : Hp) (σ : L2.St) (ro : List (Option D)) : Prop where
  len : σ.length = ro.length
  at_ : ∀ (i : Nat) (d : D), ro[i]? = some (some d) → ∃ v, σ[i]? = some (some v) ∧ Rep K F v d
theorem Sl.mono {K : PySem.W.Frag} {F F' : Hp} {σ : L2.St} {ro : List (Option D)} (S : Sl K F σ ro) (s : Sub F F') : Sl K F' σ ro :=
  ⟨S.len, fun i d h => let ⟨v, e, r⟩ := S.at_ i d h; ⟨v, e, r.mono s⟩⟩

/-- e gives the datum d | a new container that holds c | the test gives b | the arguments are ds -/
def DE (X : Cx) (e : Expr) (ro : List (Option D)) (d : D) : Prop := ∀ (σ : L2.St) (F H : Hp), Sl X.K F σ ro → Sub F H → ∀ Q : VK, Give X.K d F H Q → WE X e σ H Q
def DN (X : Cx) (e : Expr) (ro : List (Option D)) (c : D) : Prop := ∀ (σ : L2.St) (F H : Hp), Sl X.K F σ ro → Sub F H → ∀ Q : VK, GiveN X.K c F H Q → WE X e σ H Q
def DT (X : Cx) (e : Expr) (ro : List (Option D)) (b : Bool) : Prop := ∀ (σ : L2.St) (F H : Hp), Sl X.K F σ ro → Sub F H → ∀ Q : Bool → Hp → Prop, (∀ F' H', Grow F H F' H' → Q b H') → WT X e σ H Q
def DW (X : Cx) (e : Expr) (ro : List (Option D)) (b : Bool) : Prop := ∀ (σ : L2.St) (F H : Hp), Sl X.K F σ ro → Sub F H → ∀ Q : Bool → Hp → Prop, (∀ F' H', Grow F H F' H' → Q b H') → WW X e σ H Q
def DA (X : Cx) (es : List Expr) (ro : List (Option D)) (ds : List D) : Prop := ∀ (σ : L2.St) (F H : Hp), Sl X.K F σ ro → Sub F H → ∀ Q : List V → Hp → Prop, (∀ vs F' H', Grow F H F' H' → RepA X.K F' vs ds → Q vs H') → WA X es σ H Q

section
variable {X : Cx} {e a b c o : Expr} {es : List Expr} {ro : List (Option D)} {d da db' dc : D} {ds' : List D} {pos apos cpos p : Pos} {ba bb : Bool}

theorem DN.de (h : DN X e ro d) : DE X e ro d := fun σ F H S hs Q q => h σ F H S hs Q q.new
theorem DE.tup {xs : List D} (h : DE X e ro (.tix xs)) : DE X e ro (.tup xs) := fun σ F H S hs Q q => h σ F H S hs Q fun v F' H' g r => q v F' H' g r.tixTup
theorem DE.is {d' : D} (h : DE X e ro d) (q : d = d') : DE X e ro d' := q ▸ h
theorem DT.is {b' : Bool} (h : DT X e ro ba) (q : ba = b') : DT X e ro b' := q ▸ h

/-! ### in a row -/
theorem two {σ : L2.St} {F H : Hp} {R : V → V → Hp → Prop} (ha : DE X a ro da) (hb : DE X b ro db') (S : Sl X.K F σ ro) (hs : Sub F H)
    (h : ∀ v w F' H', Grow F H F' H' → Rep X.K F' v da → Rep X.K F' w db' → R v w H') : WE X a σ H fun x H1 => WE X b σ H1 fun y H2 => R x y H2 :=
  ha σ F H S hs _ fun v F1 H1 g1 r1 => hb σ F1 H1 (S.mono g1.ff) g1.fh _ fun w F2 H2 g2 r2 => h v w F2 H2 (g1.trans g2) (r1.mono g2.ff) r2
theorem three {σ : L2.St} {F H : Hp} {R : V → V → V → Hp → Prop} (ha : DE X a ro da) (hb : DE X b ro db') (hc : DE X c ro dc) (S : Sl X.K F σ ro) (hs : Sub F H)
    (h : ∀ v w z F' H', Grow F H F' H' → Rep X.K F' v da → Rep X.K F' w db' → Rep X.K F' z dc → R v w z H') : WE X a σ H fun x H1 => WE X b σ H1 fun y H2 => WE X c σ H2 fun z H3 => R x y z H3 :=
  ha σ F H S hs _ fun v F1 H1 g1 r1 => hb σ F1 H1 (S.mono g1.ff) g1.fh _ fun w F2 H2 g2 r2 => hc σ F2 H2 ((S.mono g1.ff).mono g2.ff) g2.fh _ fun z F3 H3 g3 r3 =>
    h v w z F3 H3 ((g1.trans g2).trans g3) ((r1.mono g2.ff).mono g3.ff) (r2.mono g3.ff) r3

/-! ### names, constants -/
theorem de_name (i : Nat) {x : Str} (hr : ro[i]? = some (some d)) (hN : X.N[i]? = some x) (hv : Vis X.env.scope x) (hd : (x == ("__debug__" : Str)) = false := by kernel_rfl) (hcd : (x == ("__classdict__" : Str)) = false := by kernel_rfl) :
    DE X (.Name x pos) ro d := fun σ F H S hs Q q => by
  obtain ⟨v, e, r⟩ := S.at_ i d hr
  exact PE.we (pe_var hN hv hd hcd) ⟨v, e, q v F H (.refl hs) r⟩
theorem de_int {i : Int} {j : Nat} : DE X (.Constant (.int i) j pos) ro (di i) := fun σ F H S hs Q q => PE.we pe_int (q _ F H (.refl hs) (.v _))
theorem de_bl {i : Bool} {j : Nat} : DE X (.Constant (.bool i) j pos) ro (db i) := fun σ F H S hs Q q => PE.we pe_bl (q _ F H (.refl hs) (.v _))
theorem de_non {j : Nat} : DE X (.Constant .none j pos) ro dn := fun σ F H S hs Q q => PE.we pe_non (q _ F H (.refl hs) (.v _))
theorem de_str {i : Str} {j : Nat} : DE X (.Constant (.str i) j pos) ro (ds i) := fun σ F H S hs Q q => PE.we pe_str (q _ F H (.refl hs) (.v _))
theorem de_glob {x : Str} {v : V} {u : Value} (hg : X.env.kindOf x = some .globalImplicit) (hm : X.mg x = some u) (r : RelV v u) (hd : (x == ("__debug__" : Str)) = false := by kernel_rfl) : DE X (.Name x pos) ro (.v v) :=
  fun σ F H S hs Q q => PE.we (pe_glob hg hm r hd) (q _ F H (.refl hs) (.v _))
/-- a tuple of the module's top -/
theorem de_globT {x : Str} {t : Addr} {vs : List V} (hg : X.env.kindOf x = some .globalImplicit) (hm : X.mg x = some (.ref t)) (ht : ∀ H, SqT X.K H t vs) (hd : (x == ("__debug__" : Str)) = false := by kernel_rfl) : DE X (.Name x pos) ro (.tup (vs.map D.v)) :=
  fun σ F H S hs Q q => PE.we (pe_glob (v := .ref t) hg hm rfl hd) (q _ F H (.refl hs) (.tup (ht F) (RepA.flat vs)))

/-! ### operators, comparisons -/
def OpD (X : Cx) (f : Value → Value → Sem Value) (da db' d : D) : Prop := ∃ r, OpR X f r ∧ ∀ v w F H Q, Sub F H → Rep X.K F v da → Rep X.K F w db' → Give X.K d F H Q → r v w H Q
def OpN (X : Cx) (f : Value → Value → Sem Value) (da db' d : D) : Prop := ∃ r, OpR X f r ∧ ∀ v w F H Q, Sub F H → Rep X.K F v da → Rep X.K F w db' → GiveN X.K d F H Q → r v w H Q
theorem GiveN.go {K : PySem.W.Frag} {d : D} {F H F1 H1 : Hp} {Q : VK} (h : GiveN K d F H Q) (g : Grow F H F1 H1) : GiveN K d F1 H1 Q := fun v F' H' g' n1 n2 r => h v F' H' (g.trans g') (g.hh.none n1) n2 r
theorem Give.done {K : PySem.W.Frag} {F H : Hp} {Q : VK} {v : V} {d : D} (q : Give K d F H Q) (hs : Sub F H) (r : Rep K F v d) : Q v H := q v F H (.refl hs) r
theorem Give.newT {K : PySem.W.Frag} {F H : Hp} {Q : VK} {vs : List V} {ds : List D} (q : Give K (.tup ds) F H Q) (hs : Sub F H) (r : RepA K F vs ds) {p : Addr} (hp : H p = none) : Q (.ref p) (upd H p (.tup vs)) := by
  have fp := hs.none hp
  have s : Sub F (upd F p (.tup vs)) := Sub.upd fp
  exact q (.ref p) (upd F p (.tup vs)) _ ((Grow.mk .rfl (sub_upd hs fp) (Sub.upd hp) (fun a o h n => by rw [n] at h; cases h) : Grow F H F (upd H p (.tup vs))).freeze hp fp upd_same) (.tup (.inl (.inl upd_same)) (r.mono s))
theorem GiveN.newC {K : PySem.W.Frag} {F H : Hp} {Q : VK} {c : D} (q : GiveN K c F H Q) (hs : Sub F H) {p : Addr} {ob : HO} (hp : H p = none) (ci : CellIs K F (upd H p ob) p c) : Q (.ref p) (upd H p ob) :=
  q p F _ ⟨.rfl, sub_upd hs (hs.none hp), Sub.upd hp, fun a o h n => by rw [n] at h; cases h⟩ hp (hs.none hp) ci
theorem GiveN.newL {K : PySem.W.Frag} {F H : Hp} {Q : VK} {vs : List V} {ds : List D} (q : GiveN K (.lst ds) F H Q) (hs : Sub F H) (r : RepA K F vs ds) {p : Addr} (hp : H p = none) : Q (.ref p) (upd H p (.lst vs)) :=
  q.newC hs hp ⟨vs, upd_same, r⟩

theorem de_bin {op : Operator} (ha : DE X a ro da) (hb : DE X b ro db') (h : OpD X (binaryOp op) da db' d) : DE X (.BinOp a op b pos) ro d := fun σ F H S hs Q q => by
  obtain ⟨r, hr, k⟩ := h
  exact PE.we (pe_op hr pe_self pe_self) (two ha hb S hs fun v w F' H' g r1 r2 => k v w F' H' Q g.fh r1 r2 (q.go g))
theorem dn_bin {op : Operator} (ha : DE X a ro da) (hb : DE X b ro db') (h : OpN X (binaryOp op) da db' d) : DN X (.BinOp a op b pos) ro d := fun σ F H S hs Q q => by
  obtain ⟨r, hr, k⟩ := h
  exact PE.we (pe_op hr pe_self pe_self) (two ha hb S hs fun v w F' H' g r1 r2 => k v w F' H' Q g.fh r1 r2 (q.go g))
theorem de_cmp {op : CmpOp} (ha : DE X a ro da) (hb : DE X b ro db') (h : OpD X (compareOp op) da db' d) (hm : behindInMarks op b = false := by kernel_rfl) : DE X (.Compare a [op] [b] pos) ro d := fun σ F H S hs Q q => by
  obtain ⟨r, hr, k⟩ := h
  exact PE.we (pe_cmpR hr pe_self pe_self hm) (two ha hb S hs fun v w F' H' g r1 r2 => k v w F' H' Q g.fh r1 r2 (q.go g))
theorem dt_cmp {op : CmpOp} (ha : DE X a ro da) (hb : DE X b ro db') (h : OpD X (compareOp op) da db' (db ba)) (hm : behindInMarks op b = false := by kernel_rfl) : DT X (.Compare a [op] [b] pos) ro ba := fun σ F H S hs Q q => by
  obtain ⟨r, hr, k⟩ := h
  exact PT.wt (pt_cmpR hr pe_self pe_self hm) (two ha hb S hs fun v w F' H' g r1 r2 => k v w F' H' _ g.fh r1 r2 fun z F2 H2 g2 r3 => by cases r3; exact ⟨_, rfl, q F2 H2 (g.trans g2)⟩)
/-- a < b < c -/
theorem dt_chain {op op' : CmpOp} (ha : DE X a ro da) (hb : DE X b ro db') (hc : DE X c ro dc) (h : OpD X (compareOp op) da db' (db ba)) (h' : OpD X (compareOp op') db' dc (db bb))
    (hm : lastMarks [op, op'] [b, c] = false := by kernel_rfl) : DT X (.Compare a [op, op'] [b, c] pos) ro (ba && bb) := fun σ F H S hs Q q => by
  obtain ⟨r, hr, k⟩ := h
  obtain ⟨r', hr', k'⟩ := h'
  refine PT.wt (pt_chain hr hr' pe_self pe_self pe_self hm) (two ha hb S hs fun v w F1 H1 g r1 r2 => k v w F1 H1 _ g.fh r1 r2 fun z F2 H2 g2 r3 => ?_)
  cases r3
  refine ⟨_, rfl, ?_⟩
  cases ba with
  | true =>
    rw [if_pos rfl]
    refine hc σ F2 H2 ((S.mono g.ff).mono g2.ff) g2.fh _ fun u F3 H3 g3 r4 => k' w u F3 H3 _ g3.fh ((r2.mono g2.ff).mono g3.ff) r4 fun z2 F4 H4 g4 r5 => ?_
    cases r5
    exact ⟨_, rfl, q F4 H4 (((g.trans g2).trans g3).trans g4)⟩
  | false =>
    rw [if_neg Bool.false_ne_true]
    exact ⟨_, rfl, q F2 H2 (g.trans g2)⟩
theorem de_chain {op op' : CmpOp} (ha : DE X a ro da) (hb : DE X b ro db') (hc : DE X c ro dc) (h : OpD X (compareOp op) da db' (db ba)) (h' : OpD X (compareOp op') db' dc (db bb))
    (hm : lastMarks [op, op'] [b, c] = false := by kernel_rfl) : DE X (.Compare a [op, op'] [b, c] pos) ro (db (ba && bb)) := fun σ F H S hs Q q => by
  obtain ⟨r, hr, k⟩ := h
  obtain ⟨r', hr', k'⟩ := h'
  refine PE.we (pe_chain hr hr' pe_self pe_self pe_self hm) (two ha hb S hs fun v w F1 H1 g r1 r2 => k v w F1 H1 _ g.fh r1 r2 fun z F2 H2 g2 r3 => ?_)
  cases r3
  refine ⟨_, rfl, ?_⟩
  cases ba with
  | true =>
    rw [if_pos rfl]
    refine hc σ F2 H2 ((S.mono g.ff).mono g2.ff) g2.fh _ fun u F3 H3 g3 r4 => k' w u F3 H3 _ g3.fh ((r2.mono g2.ff).mono g3.ff) r4 ?_
    exact ((q.go g).go g2).go g3
  | false =>
    rw [if_neg Bool.false_ne_true]
    exact q _ F2 H2 (g.trans g2) (.v _)
/-! ### tests -/
theorem dt_val (h : DE X e ro (db ba)) (he : ∀ whole, isTrue e X.env whole = (do let v ← whole; standAt e.pos; holding [v] (truthy v)) := by intro _; rfl) : DT X e ro ba := fun σ F H S hs Q q =>
  PT.wt (pt_val pe_self he) (h σ F H S hs _ fun v F' H' g r => by cases r; exact ⟨_, rfl, q F' H' g⟩)
theorem dt_w (h : DW X e ro ba) : DT X e ro ba := fun σ F H S hs Q q => fun pins s I => h σ F H S hs Q q _ pins s I
theorem dw_and1 (h : DT X a ro ba) : DW X (.BoolOp .And [a] pos) ro ba := fun σ F H S hs Q q => PW.ww (pw_and1 pt_self) (h σ F H S hs Q q)
theorem dw_or1 (h : DT X a ro ba) : DW X (.BoolOp .Or [a] pos) ro ba := fun σ F H S hs Q q => PW.ww (pw_or1 pt_self) (h σ F H S hs Q q)
theorem dw_and {rest : List Expr} (h : DT X a ro ba) (h2 : ba = true → DW X (.BoolOp .And (b :: rest) pos) ro bb) : DW X (.BoolOp .And (a :: b :: rest) pos) ro (ba && bb) := fun σ F H S hs Q q => by
  refine PW.ww (pw_and pt_self pw_self) (h σ F H S hs _ fun F1 H1 g => ?_)
  cases ba with
  | true => rw [if_pos rfl]; exact h2 rfl σ F1 H1 (S.mono g.ff) g.fh Q fun F2 H2 g2 => q F2 H2 (g.trans g2)
  | false => rw [if_neg Bool.false_ne_true]; exact q F1 H1 g
theorem dw_or {rest : List Expr} (h : DT X a ro ba) (h2 : ba = false → DW X (.BoolOp .Or (b :: rest) pos) ro bb) : DW X (.BoolOp .Or (a :: b :: rest) pos) ro (ba || bb) := fun σ F H S hs Q q => by
  refine PW.ww (pw_or pt_self pw_self) (h σ F H S hs _ fun F1 H1 g => ?_)
  cases ba with
  | true => rw [if_pos rfl]; exact q F1 H1 g
  | false => rw [if_neg Bool.false_ne_true]; exact h2 rfl σ F1 H1 (S.mono g.ff) g.fh Q fun F2 H2 g2 => q F2 H2 (g.trans g2)
theorem dt_and {rest : List Expr} (h : DT X a ro ba) (h2 : ba = true → DW X (.BoolOp .And (b :: rest) pos) ro bb) : DT X (.BoolOp .And (a :: b :: rest) pos) ro (ba && bb) := dt_w (dw_and h h2)
theorem dt_or {rest : List Expr} (h : DT X a ro ba) (h2 : ba = false → DW X (.BoolOp .Or (b :: rest) pos) ro bb) : DT X (.BoolOp .Or (a :: b :: rest) pos) ro (ba || bb) := dt_w (dw_or h h2)
theorem dt_not (h : DT X a ro ba) : DT X (.UnaryOp .Not a pos) ro (!ba) := fun σ F H S hs Q q => PT.wt (pt_not pt_self) (h σ F H S hs _ fun F' H' g => q F' H' g)
/-- .. as values -/
theorem de_one {op} (h : DE X a ro d) : DE X (.BoolOp op [a] pos) ro d := fun σ F H S hs Q q => PE.we (pe_one pe_self) (h σ F H S hs Q q)
theorem de_and {rest : List Expr} (h : DE X a ro (db ba)) (h2 : ba = true → DE X (.BoolOp .And (b :: rest) pos) ro (db bb)) : DE X (.BoolOp .And (a :: b :: rest) pos) ro (db (ba && bb)) := fun σ F H S hs Q q => by
  refine PE.we (pe_and pe_self pe_self) (h σ F H S hs _ fun v F1 H1 g r => ?_)
  cases r
  refine ⟨_, rfl, ?_⟩
  cases ba with
  | true => rw [if_pos rfl]; exact h2 rfl σ F1 H1 (S.mono g.ff) g.fh Q (q.go g)
  | false => rw [if_neg Bool.false_ne_true]; exact q _ F1 H1 g (.v _)
theorem de_or {rest : List Expr} (h : DE X a ro (db ba)) (h2 : ba = false → DE X (.BoolOp .Or (b :: rest) pos) ro (db bb)) : DE X (.BoolOp .Or (a :: b :: rest) pos) ro (db (ba || bb)) := fun σ F H S hs Q q => by
  refine PE.we (pe_or pe_self pe_self) (h σ F H S hs _ fun v F1 H1 g r => ?_)
  cases r
  refine ⟨_, rfl, ?_⟩
  cases ba with
  | true => rw [if_pos rfl]; exact q _ F1 H1 g (.v _)
  | false => rw [if_neg Bool.false_ne_true]; exact h2 rfl σ F1 H1 (S.mono g.ff) g.fh Q (q.go g)
theorem de_not (h : DE X a ro (db ba)) : DE X (.UnaryOp .Not a pos) ro (db (!ba)) := fun σ F H S hs Q q => PE.we (pe_not pe_self) (h σ F H S hs _ fun v F' H' g r => by cases r; exact ⟨_, rfl, q _ F' H' g (.v _)⟩)
theorem de_if (h : DT X c ro ba) (h1 : ba = true → DE X a ro d) (h2 : ba = false → DE X b ro d) : DE X (.IfExp c a b pos) ro d := fun σ F H S hs Q q => by
  refine PE.we (pe_ifExp pt_self pe_self pe_self) (h σ F H S hs _ fun F1 H1 g => ?_)
  cases ba with
  | true => rw [if_pos rfl]; exact h1 rfl σ F1 H1 (S.mono g.ff) g.fh Q (q.go g)
  | false => rw [if_neg Bool.false_ne_true]; exact h2 rfl σ F1 H1 (S.mono g.ff) g.fh Q (q.go g)
theorem de_neg {i : Int} (h : DE X a ro (di i)) : DE X (.UnaryOp .USub a pos) ro (di (-i)) := fun σ F H S hs Q q => PE.we (pe_un un_neg pe_self) (h σ F H S hs _ fun v F' H' g r => by cases r; exact ⟨_, rfl, q _ F' H' g (.v _)⟩)
/-- truth of a list, a dict -/
theorem dt_lst {ds : List D} (h : DE X a ro (.lst ds)) (he : ∀ whole, isTrue a X.env whole = (do let v ← whole; standAt a.pos; holding [v] (truthy v)) := by intro _; rfl) : DT X a ro (!ds.isEmpty) := fun σ F H S hs Q q => by
  refine PT.wt (pt_truth pe_self he) (h σ F H S hs _ fun v F' H' g r => ?_)
  cases r with
  | lst hl ra =>
    refine ⟨_, .inl ⟨_, .inl (.inl (g.fh _ _ hl)), ?_⟩, q F' H' g⟩
    cases ra <;> rfl
theorem dt_dic {kvs : List (Str × Int)} (h : DE X a ro (.dic kvs)) (he : ∀ whole, isTrue a X.env whole = (do let v ← whole; standAt a.pos; holding [v] (truthy v)) := by intro _; rfl) : DT X a ro (!kvs.isEmpty) := fun σ F H S hs Q q => by
  refine PT.wt (pt_truth pe_self he) (h σ F H S hs _ fun v F' H' g r => ?_)
  cases r with
  | dic hd =>
    refine ⟨_, .inr (.inr ⟨_, g.fh _ _ hd, _root_.rfl⟩), ?_⟩
    have e : (!(encK kvs).isEmpty) = !kvs.isEmpty := by cases kvs <;> rfl
    rw [e]
    exact q F' H' g

/-! ### arguments, displays -/
theorem da_nil : DA X [] ro [] := fun σ F H S hs Q q => PA.wa pa_nil (q [] F H (.refl hs) .nil)
theorem da_cons (h : DE X e ro d) (h2 : DA X es ro ds') (he : starEach (e :: es) X.env = (false, eval e X.env) :: starEach es X.env := by kernel_rfl) : DA X (e :: es) ro (d :: ds') := fun σ F H S hs Q q =>
  PA.wa (pa_cons pe_self pa_self he) (h σ F H S hs _ fun v F1 H1 g1 r1 => h2 σ F1 H1 (S.mono g1.ff) g1.fh _ fun vs F2 H2 g2 r2 => q (v :: vs) F2 H2 (g1.trans g2) (.cons (r1.mono g2.ff) r2))
theorem de_tup {x1} (h : DA X es ro ds') (hl : ds'.length ≤ sizeLine := by first | decide | (simp only [List.length_cons, List.length_nil]; decide)) : DE X (.Tuple es x1 pos) ro (.tup ds') := fun σ F H S hs Q q =>
  PE.we (pe_tup pa_self) (h σ F H S hs _ fun vs F1 H1 g r => ⟨by rw [r.length]; exact hl, fun p hp => (q.go g).newT g.fh r hp⟩)
theorem dn_lst (h : DA X es ro ds') (hl : ds'.length ≤ sizeLine := by first | decide | (simp only [List.length_cons, List.length_nil]; decide)) : DN X (.List es pos) ro (.lst ds') := fun σ F H S hs Q q =>
  PE.we (pe_lst pa_self) (h σ F H S hs _ fun vs F1 H1 g r => ⟨by rw [r.length]; exact hl, fun p hp => (q.go g).newL g.fh r hp⟩)
theorem dn_dic : DN X (.Dict [] [] pos) ro (.dic []) := fun σ F H S hs Q q => PE.we pe_dnewK fun p hp => q.newC hs hp upd_same
end
end Ef
set_option maxRecDepth 100000
set_option maxHeartbeats 4000000
/-! EfC: operators, subscripts, slices, calls of built-ins, of defs, methods, attributes. -/
namespace Ef
open PySem L2
section
variable {X : Cx} {e e1 e2 a b c o : Expr} {es : List Expr} {ro : List (Option D)} {d da db' dc : D} {ds' : List D} {pos apos cpos p : Pos} {ba bb : Bool}

/-! ### operators by data -/
theorem opd_ii {f : Value → Value → Sem Value} {g : Int → Int → V} {i j : Int} (h : OpR X f (rI0 g)) : OpD X f (di i) (di j) (.v (g i j)) := ⟨_, h, fun v w F H Q hs r1 r2 q => by cases r1; cases r2; exact ⟨i, j, rfl, rfl, q.done hs (.v _)⟩⟩
theorem opd_iic {f : Value → Value → Sem Value} {C : Int → Int → Prop} {g : Int → Int → V} {i j : Int} (h : OpR X f (rI C g)) (hc : C i j) : OpD X f (di i) (di j) (.v (g i j)) := ⟨_, h, fun v w F H Q hs r1 r2 q => by cases r1; cases r2; exact ⟨i, j, rfl, rfl, hc, q.done hs (.v _)⟩⟩
theorem o_add {i j : Int} : OpD X (binaryOp .Add) (di i) (di j) (di (i + j)) := opd_ii op_add
theorem o_sub {i j : Int} : OpD X (binaryOp .Sub) (di i) (di j) (di (i - j)) := opd_ii op_sub
theorem o_mul {i j : Int} (h : CMul i j) : OpD X (binaryOp .Mult) (di i) (di j) (di (i * j)) := opd_iic op_mul h
theorem o_mulW {i j : Int} (h : CMulW i j) : OpD X (binaryOp .Mult) (di i) (di j) (di (i * j)) := opd_iic op_mulW h
theorem o_fdiv {i j : Int} (h : CDiv i j) : OpD X (binaryOp .FloorDiv) (di i) (di j) (di (i / j)) := opd_iic op_fdiv h
theorem o_mod {i j : Int} (h : 0 < j) : OpD X (binaryOp .Mod) (di i) (di j) (di (i % j)) := opd_iic op_mod h
theorem o_pow {i j : Int} (h : CPow i j) : OpD X (binaryOp .Pow) (di i) (di j) (di (i ^ j.toNat)) := opd_iic op_pow h
theorem o_lt {i j : Int} : OpD X (compareOp .Lt) (di i) (di j) (db (decide (i < j))) := opd_ii op_lt
theorem o_le {i j : Int} : OpD X (compareOp .LtE) (di i) (di j) (db (decide (i ≤ j))) := opd_ii op_le
theorem o_gt {i j : Int} : OpD X (compareOp .Gt) (di i) (di j) (db (decide (j < i))) := opd_ii op_gt
theorem o_ge {i j : Int} : OpD X (compareOp .GtE) (di i) (di j) (db (decide (j ≤ i))) := opd_ii op_ge
theorem o_eq {x y : V} (h : scal x y = true := by rfl) : OpD X (compareOp .Eq) (.v x) (.v y) (db (decide (x = y))) := ⟨_, op_eq, fun v w F H Q hs r1 r2 q => by cases r1; cases r2; exact ⟨h, q.done hs (.v _)⟩⟩
theorem o_ne {x y : V} (h : scal x y = true := by rfl) : OpD X (compareOp .NotEq) (.v x) (.v y) (db (!decide (x = y))) := ⟨_, op_ne, fun v w F H Q hs r1 r2 q => by cases r1; cases r2; exact ⟨h, q.done hs (.v _)⟩⟩
theorem o_eqS {x y : Str} : OpD X (compareOp .Eq) (ds x) (ds y) (db (decide (x = y))) := by
  have h : OpD X (compareOp .Eq) (ds x) (ds y) (db (decide (V.str x = V.str y))) := o_eq
  have e : decide (V.str x = V.str y) = decide (x = y) := by
    by_cases q : x = y
    · rw [q, decide_eq_true rfl, decide_eq_true rfl]
    · rw [decide_eq_false q, decide_eq_false (fun z => q (V.str.inj z))]
  rwa [e] at h
theorem o_eqI {x y : Int} : OpD X (compareOp .Eq) (di x) (di y) (db (decide (x = y))) := by
  have h : OpD X (compareOp .Eq) (di x) (di y) (db (decide (V.int x = V.int y))) := o_eq
  have e : decide (V.int x = V.int y) = decide (x = y) := by
    by_cases q : x = y
    · rw [q, decide_eq_true rfl, decide_eq_true rfl]
    · rw [decide_eq_false q, decide_eq_false (fun z => q (V.int.inj z))]
  rwa [e] at h
theorem o_neS {x y : Str} : OpD X (compareOp .NotEq) (ds x) (ds y) (db (!decide (x = y))) := by
  have h : OpD X (compareOp .NotEq) (ds x) (ds y) (db (!decide (V.str x = V.str y))) := o_ne
  have e : decide (V.str x = V.str y) = decide (x = y) := by
    by_cases q : x = y
    · rw [q, decide_eq_true rfl, decide_eq_true rfl]
    · rw [decide_eq_false q, decide_eq_false (fun z => q (V.str.inj z))]
  rwa [e] at h
theorem o_neI {x y : Int} : OpD X (compareOp .NotEq) (di x) (di y) (db (!decide (x = y))) := by
  have h : OpD X (compareOp .NotEq) (di x) (di y) (db (!decide (V.int x = V.int y))) := o_ne
  have e : decide (V.int x = V.int y) = decide (x = y) := by
    by_cases q : x = y
    · rw [q, decide_eq_true rfl, decide_eq_true rfl]
    · rw [decide_eq_false q, decide_eq_false (fun z => q (V.int.inj z))]
  rwa [e] at h
theorem o_neB {x y : Bool} : OpD X (compareOp .NotEq) (db x) (db y) (db (!decide (x = y))) := by
  have h : OpD X (compareOp .NotEq) (db x) (db y) (db (!decide (V.bl x = V.bl y))) := o_ne
  have e : decide (V.bl x = V.bl y) = decide (x = y) := by
    by_cases q : x = y
    · rw [q, decide_eq_true rfl, decide_eq_true rfl]
    · rw [decide_eq_false q, decide_eq_false (fun z => q (V.bl.inj z))]
  rwa [e] at h
/-- is None, is not None: any datum -/
def isN : D → Bool
  | .v .non => true
  | _ => false
theorem rep_isN {K : PySem.W.Frag} {H : Hp} {v : V} {d : D} (r : Rep K H v d) : decide (v = .non) = isN d := by
  cases r with
  | v => cases v <;> rfl
  | lst _ _ => rfl
  | tup _ _ => rfl
  | tix _ _ _ => rfl
  | dic _ => rfl
  | ldic _ => rfl
  | zst _ _ => rfl
  | obj _ _ => rfl
theorem o_isN : OpD X (compareOp .Is) d dn (db (isN d)) := ⟨_, op_isN, fun v w F H Q hs r1 r2 q => by cases r2; exact ⟨rfl, by rw [rep_isN r1]; exact q.done hs (.v _)⟩⟩
theorem o_notN : OpD X (compareOp .IsNot) d dn (db (!isN d)) := ⟨_, op_notN, fun v w F H Q hs r1 r2 q => by cases r2; exact ⟨rfl, by rw [rep_isN r1]; exact q.done hs (.v _)⟩⟩
theorem o_notB {x y : Bool} : OpD X (compareOp .IsNot) (db x) (db y) (db (!decide (x = y))) := ⟨_, op_notBl, fun v w F H Q hs r1 r2 q => by cases r1; cases r2; exact ⟨x, y, rfl, rfl, q.done hs (.v _)⟩⟩
theorem o_addS {x y : Str} (h : x.length + y.length ≤ sizeLine) : OpD X (binaryOp .Add) (ds x) (ds y) (ds (x ++ y)) := ⟨_, op_add_str, fun v w F H Q hs r1 r2 q => by cases r1; cases r2; exact ⟨x, y, rfl, rfl, h, q.done hs (.v _)⟩⟩
theorem o_cat {xs ys : List D} (h : xs.length + ys.length ≤ sizeLine) : OpN X (binaryOp .Add) (.lst xs) (.lst ys) (.lst (xs ++ ys)) := ⟨_, op_cat, fun v w F H Q hs r1 r2 q => by
  cases r1 with
  | lst h1 a1 =>
    cases r2 with
    | lst h2 a2 => exact ⟨_, _, _, _, rfl, rfl, hs _ _ h1, hs _ _ h2, by rw [a1.length, a2.length]; exact h, fun p hp => q.newL hs (a1.append a2) hp⟩⟩
theorem o_inSign {c : Nat} {z : Str} : OpD X (compareOp .In) (ds ⟨#[c]⟩) (ds z) (db (decide (c ∈ z.cps.toList))) := ⟨_, op_in_sign, fun v w F H Q hs r1 r2 q => by cases r1; cases r2; exact ⟨c, z, rfl, rfl, q.done hs (.v _)⟩⟩
/-- x in a list, a tuple of flat things -/
def inD (x : V) (ys : List D) : Bool := ys.any fun d => match d with | .v y => eqV y x | _ => false
theorem inV_map (x : V) : ∀ ys : List V, inV x ys = (ys.any fun y => eqV y x) := fun _ => rfl
theorem o_inT {x : V} {ys : List V} (hx : flatV x = true) (hy : ys.all flatV = true) : OpD X (compareOp .In) (.v x) (.tup (ys.map D.v)) (db (inV x ys)) := ⟨_, op_in_seq, fun v w F H Q hs r1 r2 q => by
  cases r1
  cases r2 with
  | tup h2 a2 =>
    have e := RepA.unflat a2
    subst e
    exact ⟨_, _, rfl, .inr (sub_t hs h2), hx, hy, q.done hs (.v _)⟩⟩
theorem o_notInT {x : V} {ys : List V} (hx : flatV x = true) (hy : ys.all flatV = true) : OpD X (compareOp .NotIn) (.v x) (.tup (ys.map D.v)) (db (!inV x ys)) := ⟨_, op_notIn_seq, fun v w F H Q hs r1 r2 q => by
  cases r1
  cases r2 with
  | tup h2 a2 =>
    have e := RepA.unflat a2
    subst e
    exact ⟨_, _, rfl, .inr (sub_t hs h2), hx, hy, q.done hs (.v _)⟩⟩

/-! ### == of nested data -/
/-- plain data, as the library tells it -/
def flatP : V → PyData
  | .bl b => .bool b
  | .int i => .int i
  | .str x => .str x
  | _ => .none
def okV : V → Bool
  | .non | .bl _ | .int _ | .str _ => true
  | _ => false
mutual
def D.py : D → PyData
  | .v x => flatP x
  | .lst ds => .list (D.pys ds)
  | .tup ds => .tuple (D.pys ds)
  | .tix ds => .tuple (D.pys ds)
  | _ => .none
def D.pys : List D → List PyData
  | [] => []
  | d :: ds => D.py d :: D.pys ds
end
mutual
/-- None, bools, ints, texts, lists and tuples of these -/
def D.plain : D → Bool
  | .v x => okV x
  | .lst ds => D.plains ds
  | .tup ds => D.plains ds
  | .tix ds => D.plains ds
  | _ => false
def D.plains : List D → Bool
  | [] => true
  | d :: ds => D.plain d && D.plains ds
end
section
variable {K : PySem.W.Frag} {H : Hp}
mutual
theorem Rep.dp : ∀ {d : D} {v : V}, Rep K H v d → d.plain = true → Dp K H v d.py
  | .v x, _, .v _, h => by
    cases x with
    | non => exact .non
    | bl b => exact .bl b
    | int i => exact .int i
    | str x => exact .str x
    | _ => cases h
  | .lst ds, _, .lst h1 a1, h => by
    show Dp K H _ (.list (D.pys ds))
    exact .lst (.inl (.inl h1)) (RepA.dps a1 h)
  | .tup ds, _, .tup h1 a1, h => by
    show Dp K H _ (.tuple (D.pys ds))
    exact .tup h1 (RepA.dps a1 h)
  | .tix ds, _, .tix h1 n a1, h => by
    show Dp K H _ (.tuple (D.pys ds))
    exact .tup (.inl (.inr ⟨_, h1⟩)) (RepA.dps a1 h)
theorem RepA.dps : ∀ {ds : List D} {vs : List V}, RepA K H vs ds → D.plains ds = true → DpAll K H vs (D.pys ds)
  | [], _, .nil, _ => .nil
  | d :: ds, _, .cons h1 a1, h => by
    have h' : (d.plain && D.plains ds) = true := h
    rw [Bool.and_eq_true_iff] at h'
    show DpAll K H _ (d.py :: D.pys ds)
    exact .cons (Rep.dp h1 h'.1) (RepA.dps a1 h'.2)
end
end
/-- what it asks: plain on both sides, not too deep -/
structure EqOk (da db' : D) : Prop where
  p1 : da.plain = true
  p2 : db'.plain = true
  s1 : SeqAt.shaped da.py = true
  s2 : SeqAt.shaped db'.py = true
theorem o_eqD (hu : X.A.units + 64 < cLine) (h : EqOk da db') : OpD X (compareOp .Eq) da db' (db (PyData.eqv da.py db'.py)) := ⟨_, op_eqD hu, fun v w F H Q hs r1 r2 q => ⟨_, _, (r1.mono hs).dp h.p1, (r2.mono hs).dp h.p2, h.s1, h.s2, q.done hs (.v _)⟩⟩
theorem o_neD (hu : X.A.units + 64 < cLine) (h : EqOk da db') : OpD X (compareOp .NotEq) da db' (db (!PyData.eqv da.py db'.py)) := ⟨_, op_neD hu, fun v w F H Q hs r1 r2 q => ⟨_, _, (r1.mono hs).dp h.p1, (r2.mono hs).dp h.p2, h.s1, h.s2, q.done hs (.v _)⟩⟩
theorem o_notInD (hu : X.A.units + 65 < cLine) {ys : List D} (h : EqOk da (.lst ys)) : OpD X (compareOp .NotIn) da (.lst ys) (db (!(D.pys ys).any fun z => PyData.eqv z da.py)) := ⟨_, op_notInD hu, fun v w F H Q hs r1 r2 q => ⟨_, _, (r1.mono hs).dp h.p1, (r2.mono hs).dp h.p2, h.s1, h.s2, q.done hs (.v _)⟩⟩
theorem o_inDD (hu : X.A.units + 65 < cLine) {ys : List D} (h : EqOk da (.lst ys)) : OpD X (compareOp .In) da (.lst ys) (db ((D.pys ys).any fun z => PyData.eqv z da.py)) := ⟨_, op_inD hu, fun v w F H Q hs r1 r2 q => ⟨_, _, (r1.mono hs).dp h.p1, (r2.mono hs).dp h.p2, h.s1, h.s2, q.done hs (.v _)⟩⟩

/-! ### subscripts -/
theorem RepA.atI {K : PySem.W.Frag} {H : Hp} {xs : List V} {ds : List D} {i : Int} {d : D} (r : RepA K H xs ds) (h : L2.atI ds i = some d) : ∃ x, L2.atI xs i = some x ∧ Rep K H x d := by
  unfold L2.atI at h ⊢
  rw [r.length]
  cases e : ixN ds.length i with
  | none => rw [e] at h; cases h
  | some j =>
    rw [e] at h
    exact r.get h
def IxD (X : Cx) (da db' d : D) : Prop := ∃ r, IxR X r ∧ ∀ v w F H Q, Sub F H → Rep X.K F v da → Rep X.K F w db' → Give X.K d F H Q → r v w H Q
theorem ix_l {xs : List D} {i : Int} (h : L2.atI xs i = some d) : IxD X (.lst xs) (di i) d := ⟨_, ix_list, fun v w F H Q hs r1 r2 q => by
  cases r2
  cases r1 with
  | lst h1 a1 =>
    obtain ⟨x, e, r⟩ := a1.atI h
    exact ⟨_, _, _, _, rfl, rfl, .inl (.inl (hs _ _ h1)), e, q.done hs r⟩⟩
theorem ix_t {xs : List D} {i : Int} (h : L2.atI xs i = some d) : IxD X (.tup xs) (di i) d := ⟨_, ix_tup, fun v w F H Q hs r1 r2 q => by
  cases r2
  cases r1 with
  | tup h1 a1 =>
    obtain ⟨x, e, r⟩ := a1.atI h
    exact ⟨_, _, _, _, rfl, rfl, sub_t hs h1, e, q.done hs r⟩⟩
theorem ix_s {z : Str} {i : Int} {c : Nat} (hz : z.length ≤ sizeLine) (h : L2.atI z.cps.toList i = some c) : IxD X (ds z) (di i) (ds ⟨#[c]⟩) := ⟨_, ix_str, fun v w F H Q hs r1 r2 q => by
  cases r1; cases r2
  exact ⟨_, _, _, rfl, rfl, hz, h, q.done hs (.v _)⟩⟩
theorem de_ix (ha : DE X a ro da) (hb : DE X b ro db') (h : IxD X da db' d) (hs : PlainIx b := by exact fun _ _ => rfl) : DE X (.Subscript a b pos) ro d := fun σ F H S s Q q => by
  obtain ⟨r, hr, k⟩ := h
  exact PE.we (pe_ix hr pe_self pe_self hs) (two ha hb S s fun v w F' H' g r1 r2 => k v w F' H' Q g.fh r1 r2 (q.go g))

/-! ### slices -/
def cutG {α : Type} (xs : List α) (lo hi : Option Int) : List α := (xs.drop (HT.sIx xs.length 0 lo)).take (HT.sIx xs.length xs.length hi - HT.sIx xs.length 0 lo)
theorem RepA.cut {K : PySem.W.Frag} {H : Hp} {xs : List V} {ds : List D} (r : RepA K H xs ds) (lo hi : Option Int) : RepA K H (cutV xs lo hi) (cutG ds lo hi) := by
  unfold cutV cutG
  rw [r.length]
  exact (r.drop _).take _
def DO (X : Cx) (e : Option Expr) (ro : List (Option D)) (i : Option Int) : Prop := ∃ t, PO X e t ∧ ∀ (σ : L2.St) (F H : Hp), Sl X.K F σ ro → Sub F H → ∀ Q : Option Int → Hp → Prop, (∀ F' H', Grow F H F' H' → Q i H') → t σ H Q
theorem do_none : DO X none ro none := ⟨_, po_none, fun σ F H S hs Q q => q F H (.refl hs)⟩
theorem do_some {i : Int} (h : DE X e ro (di i)) : DO X (some e) ro (some i) := ⟨_, po_some pe_self, fun σ F H S hs Q q => h σ F H S hs _ fun v F' H' g r => by cases r; exact ⟨_, rfl, q F' H' g⟩⟩
theorem slice3 {lo hi : Option Expr} {li hi' : Option Int} {p2 : Pos} {r : V → Option Int → Option Int → Hp → VK → Prop} (hr : SlR X r) (ha : DE X a ro da) (hl : DO X lo ro li) (hh : DO X hi ro hi') {σ : L2.St} {F H : Hp} {Q : VK} (S : Sl X.K F σ ro) (hs : Sub F H)
    (k : ∀ v F' H', Grow F H F' H' → Rep X.K F' v da → r v li hi' H' Q) : WE X (.Subscript a (.Slice lo hi none p2) pos) σ H Q := by
  obtain ⟨tl, pl, ql⟩ := hl
  obtain ⟨th, ph, qh⟩ := hh
  exact PE.we (pe_slice hr pe_self pl ph) (ha σ F H S hs _ fun v F1 H1 g1 r1 => ql σ F1 H1 (S.mono g1.ff) g1.fh _ fun F2 H2 g2 => qh σ F2 H2 ((S.mono g1.ff).mono g2.ff) g2.fh _ fun F3 H3 g3 => k v F3 H3 ((g1.trans g2).trans g3) ((r1.mono g2.ff).mono g3.ff))
theorem dn_slice {lo hi : Option Expr} {li hi' : Option Int} {p2 : Pos} {xs : List D} (ha : DE X a ro (.lst xs)) (hl : DO X lo ro li) (hh : DO X hi ro hi') : DN X (.Subscript a (.Slice lo hi none p2) pos) ro (.lst (cutG xs li hi')) := fun σ F H S hs Q q =>
  slice3 sl_list ha hl hh S hs fun v F' H' g r => by
    cases r with
    | lst h1 a1 => exact ⟨_, _, rfl, .inl (.inl (g.fh _ _ h1)), fun p hp => (q.go g).newL g.fh (a1.cut _ _) hp⟩
theorem dn_sliceZ {lo hi : Option Expr} {li hi' : Option Int} {p2 : Pos} {xs : List D} (ha : DE X a ro (.zst xs)) (hl : DO X lo ro li) (hh : DO X hi ro hi') : DN X (.Subscript a (.Slice lo hi none p2) pos) ro (.lst (cutG xs li hi')) := fun σ F H S hs Q q =>
  slice3 sl_list ha hl hh S hs fun v F' H' g r => by
    cases r with
    | zst h1 a1 => exact ⟨_, _, rfl, sub_l g.fh h1, fun p hp => (q.go g).newL g.fh (a1.cut _ _) hp⟩
theorem cutG_all {α : Type} (xs : List α) (lo hi : Option Int) (h1 : HT.sIx xs.length 0 lo = 0) (h2 : HT.sIx xs.length xs.length hi = xs.length) : cutG xs lo hi = xs := by
  unfold cutG
  rw [h1, h2, List.drop_zero, Nat.sub_zero, List.take_length]
theorem de_sliceT {lo hi : Option Expr} {li hi' : Option Int} {p2 : Pos} {xs : List D} (ha : DE X a ro (.tup xs)) (hl : DO X lo ro li) (hh : DO X hi ro hi') : DE X (.Subscript a (.Slice lo hi none p2) pos) ro (.tup (cutG xs li hi')) := fun σ F H S hs Q q =>
  slice3 sl_tupA ha hl hh S hs fun v F' H' g r => by
    cases r with
    | tup h1 a1 =>
      refine ⟨_, _, rfl, sub_t g.fh h1, fun z => ?_, fun _ p hp => (q.go g).newT g.fh (a1.cut _ _) hp⟩
      obtain ⟨z1, z2⟩ := z
      rw [a1.length] at z1 z2
      have e := cutG_all xs _ _ z1 z2
      exact q _ F' H' g (by rw [e]; exact .tup h1 a1)
theorem de_sliceS {lo hi : Option Expr} {li hi' : Option Int} {p2 : Pos} {z : Str} (hz : z.length ≤ sizeLine) (ha : DE X a ro (ds z)) (hl : DO X lo ro li) (hh : DO X hi ro hi') : DE X (.Subscript a (.Slice lo hi none p2) pos) ro (ds (cutS z li hi')) := fun σ F H S hs Q q =>
  slice3 sl_str ha hl hh S hs fun v F' H' g r => by cases r; exact ⟨_, rfl, hz, q _ F' H' g (.v _)⟩
theorem dn_rev {xs : List D} {k : Nat} {p1 p2 p3 : Pos} (ha : DE X a ro (.lst xs)) : DN X (.Subscript a (.Slice none none (some (.UnaryOp .USub (.Constant (.int 1) k p1) p2)) p3) pos) ro (.lst xs.reverse) := fun σ F H S hs Q q =>
  PE.we (pe_revL pe_self) (ha σ F H S hs _ fun v F' H' g r => by
    cases r with
    | lst h1 a1 => exact ⟨_, _, rfl, .inl (.inl (g.fh _ _ h1)), fun p hp => (q.go g).newL g.fh a1.reverse hp⟩)
end
end Ef
set_option maxRecDepth 100000
set_option maxHeartbeats 4000000
/-! EfD: calls. -/
namespace Ef
open PySem L2 C8

/-! ### what a def promises: the arguments' data, the datum handed back | a new container -/
def spD (K : PySem.W.Frag) (R : List D → D → Prop) : Sp := fun vs H Q _ => ∃ F ds d, Sub F H ∧ RepA K F vs ds ∧ R ds d ∧ Give K d F H Q
def spN (K : PySem.W.Frag) (R : List D → D → Prop) : Sp := fun vs H Q _ => ∃ F ds d, Sub F H ∧ RepA K F vs ds ∧ R ds d ∧ GiveN K d F H Q
theorem spD_of {K : PySem.W.Frag} {R : List D → D → Prop} : ∀ vs H Q E, spD K R vs H Q E → spN K R vs H Q E := fun vs H Q E ⟨F, ds, d, s, r, h, q⟩ => ⟨F, ds, d, s, r, h, q.new⟩
section
variable {P : Program} {w : World} {K : PySem.W.Frag} {mg : Str → Option Value} {base : Heap} {k : Nat} {x m : Str} {R : List D → D → Prop} {dvs : List V}
theorem _root_.C8.Cal.frz (c : Cal P w K mg base k x (spN K R) dvs) : Cal P w K mg base k x (spD K R) dvs := by
  obtain ⟨f, fd, ps, ds, h1, h2⟩ := c.ex
  exact ⟨f, fd, ps, ds, h1.imp spD_of, h2⟩
theorem _root_.C8.Cal.imp {R' : List D → D → Prop} (c : Cal P w K mg base k x (spD K R) dvs) (h : ∀ ds d, R' ds d → R ds d) : Cal P w K mg base k x (spD K R') dvs := by
  obtain ⟨f, fd, ps, ds, h1, h2⟩ := c.ex
  exact ⟨f, fd, ps, ds, h1.imp fun vs H Q E ⟨F, ds, d, s, r, hR, q⟩ => ⟨F, ds, d, s, r, h _ _ hR, q⟩, h2⟩
end

section
variable {X : Cx} {e e1 e2 a b c o : Expr} {es : List Expr} {ro : List (Option D)} {d da db' dc : D} {ds' : List D} {pos apos cpos p : Pos} {ba bb : Bool} {x m : Str}

/-! ### built-ins by their names -/
def CallD (X : Cx) (f : Value) (ds : List D) (d : D) : Prop := ∃ r, CallR X f r ∧ ∀ vs F H Q, Sub F H → RepA X.K F vs ds → Give X.K d F H Q → r vs H Q
def CallN (X : Cx) (f : Value) (ds : List D) (d : D) : Prop := ∃ r, CallR X f r ∧ ∀ vs F H Q, Sub F H → RepA X.K F vs ds → GiveN X.K d F H Q → r vs H Q
theorem de_B {id : String} (hv : bootBuiltins x = some (.builtin id)) (hn : x ≠ "__name__") (hdb : (x == ("__debug__" : Str)) = false) (hc : CallD X (.builtin id) ds' d) (hg : X.env.kindOf x = some .globalImplicit) (hm : X.mg x = none) (ha : DA X (e :: es) ro ds')
    (he : starEach (e :: es) X.env = (false, eval e X.env) :: starEach es X.env) (hpl : (backTo pos (starEach es X.env)).any (·.1) = false) : DE X (.Call (.Name x p) (e :: es) [] pos) ro d := fun σ F H S hs Q q => by
  obtain ⟨r, hr, k⟩ := hc
  exact PE.we (pe_callB hr hg hm hv pa_self hn hdb he hpl) (ha σ F H S hs _ fun vs F' H' g ra => k vs F' H' Q g.fh ra (q.go g))
theorem dn_B {id : String} (hv : bootBuiltins x = some (.builtin id)) (hn : x ≠ "__name__") (hdb : (x == ("__debug__" : Str)) = false) (hc : CallN X (.builtin id) ds' d) (hg : X.env.kindOf x = some .globalImplicit) (hm : X.mg x = none) (ha : DA X (e :: es) ro ds')
    (he : starEach (e :: es) X.env = (false, eval e X.env) :: starEach es X.env) (hpl : (backTo pos (starEach es X.env)).any (·.1) = false) : DN X (.Call (.Name x p) (e :: es) [] pos) ro d := fun σ F H S hs Q q => by
  obtain ⟨r, hr, k⟩ := hc
  exact PE.we (pe_callB hr hg hm hv pa_self hn hdb he hpl) (ha σ F H S hs _ fun vs F' H' g ra => k vs F' H' Q g.fh ra (q.go g))
theorem de_Ty {T : String} (hv : bootBuiltins x = some (.type T)) (hn : x ≠ "__name__") (hdb : (x == ("__debug__" : Str)) = false) (hc : CallD X (.type T) ds' d) (hg : X.env.kindOf x = some .globalImplicit) (hm : X.mg x = none) (ha : DA X (e :: es) ro ds')
    (he : starEach (e :: es) X.env = (false, eval e X.env) :: starEach es X.env) (hpl : (backTo pos (starEach es X.env)).any (·.1) = false) : DE X (.Call (.Name x p) (e :: es) [] pos) ro d := fun σ F H S hs Q q => by
  obtain ⟨r, hr, k⟩ := hc
  exact PE.we (pe_callTy hr hg hm hv pa_self hn hdb he hpl) (ha σ F H S hs _ fun vs F' H' g ra => k vs F' H' Q g.fh ra (q.go g))
theorem dn_Ty {T : String} (hv : bootBuiltins x = some (.type T)) (hn : x ≠ "__name__") (hdb : (x == ("__debug__" : Str)) = false) (hc : CallN X (.type T) ds' d) (hg : X.env.kindOf x = some .globalImplicit) (hm : X.mg x = none) (ha : DA X (e :: es) ro ds')
    (he : starEach (e :: es) X.env = (false, eval e X.env) :: starEach es X.env) (hpl : (backTo pos (starEach es X.env)).any (·.1) = false) : DN X (.Call (.Name x p) (e :: es) [] pos) ro d := fun σ F H S hs Q q => by
  obtain ⟨r, hr, k⟩ := hc
  exact PE.we (pe_callTy hr hg hm hv pa_self hn hdb he hpl) (ha σ F H S hs _ fun vs F' H' g ra => k vs F' H' Q g.fh ra (q.go g))
theorem one_of {K : PySem.W.Frag} {F : Hp} {vs : List V} (r : RepA K F vs [d]) : ∃ v, vs = [v] ∧ Rep K F v d := by
  cases r with
  | cons h r => cases r; exact ⟨_, rfl, h⟩
theorem two_of {K : PySem.W.Frag} {F : Hp} {vs : List V} (r : RepA K F vs [da, db']) : ∃ v w, vs = [v, w] ∧ Rep K F v da ∧ Rep K F w db' := by
  cases r with
  | cons h r => cases r with
    | cons h2 r => cases r; exact ⟨_, _, rfl, h, h2⟩
/-- len -/
inductive LenD : D → Nat → Prop
  | l (xs : List D) : LenD (.lst xs) xs.length
  | t (xs : List D) : LenD (.tup xs) xs.length
  | s {z : Str} (h : z.length ≤ sizeLine) : LenD (ds z) z.length
theorem de_len {n : Nat} (hg : X.env.kindOf "len" = some .globalImplicit) (hm : X.mg "len" = none) (ha : DA X [e] ro [d]) (hl : LenD d n)
    (he : starEach [e] X.env = (false, eval e X.env) :: starEach [] X.env := by kernel_rfl) (hpl : (backTo pos (starEach [] X.env)).any (·.1) = false := by kernel_rfl) : DE X (.Call (.Name "len" p) [e] [] pos) ro (di n) :=
  de_B (by decide +kernel) (by decide +kernel) (by decide +kernel) ⟨_, call_len, fun vs F H Q hs r q => by
    obtain ⟨v, rfl, rr⟩ := one_of r
    refine ⟨v, n, rfl, ?_, q.done hs (.v _)⟩
    cases hl with
    | l xs => cases rr with | lst h1 a1 => exact .inl ⟨_, .inl (.inl (hs _ _ h1)), a1.length.symm⟩
    | t xs => cases rr with | tup h1 a1 => exact .inr ⟨_, sub_t hs h1, a1.length.symm⟩
    | s h => cases rr; exact ⟨h, rfl⟩⟩ hg hm ha he hpl
theorem de_abs {i : Int} (hg : X.env.kindOf "abs" = some .globalImplicit) (hm : X.mg "abs" = none) (ha : DA X [e] ro [di i])
    (he : starEach [e] X.env = (false, eval e X.env) :: starEach [] X.env := by kernel_rfl) (hpl : (backTo pos (starEach [] X.env)).any (·.1) = false := by kernel_rfl) : DE X (.Call (.Name "abs" p) [e] [] pos) ro (di (if i < 0 then -i else i)) :=
  de_B (by decide +kernel) (by decide +kernel) (by decide +kernel) ⟨_, call_abs, fun vs F H Q hs r q => by
    obtain ⟨v, rfl, rr⟩ := one_of r
    cases rr
    exact ⟨i, rfl, q.done hs (.v _)⟩⟩ hg hm ha he hpl
theorem de_max2 {i j : Int} (hc : X.calm = true) (hg : X.env.kindOf "max" = some .globalImplicit) (hm : X.mg "max" = none) (ha : DA X [e1, e2] ro [di i, di j])
    (he : starEach [e1, e2] X.env = (false, eval e1 X.env) :: starEach [e2] X.env := by kernel_rfl) (hpl : (backTo pos (starEach [e2] X.env)).any (·.1) = false := by kernel_rfl) : DE X (.Call (.Name "max" p) [e1, e2] [] pos) ro (di (if j > i then j else i)) :=
  de_B (by decide +kernel) (by decide +kernel) (by decide +kernel) ⟨_, call_max2 hc, fun vs F H Q hs r q => by
    obtain ⟨v, w, rfl, rr, r2⟩ := two_of r
    cases rr; cases r2
    exact ⟨i, j, rfl, q.done hs (.v _)⟩⟩ hg hm ha he hpl
theorem de_min2 {i j : Int} (hc : X.calm = true) (hg : X.env.kindOf "min" = some .globalImplicit) (hm : X.mg "min" = none) (ha : DA X [e1, e2] ro [di i, di j])
    (he : starEach [e1, e2] X.env = (false, eval e1 X.env) :: starEach [e2] X.env := by kernel_rfl) (hpl : (backTo pos (starEach [e2] X.env)).any (·.1) = false := by kernel_rfl) : DE X (.Call (.Name "min" p) [e1, e2] [] pos) ro (di (if j < i then j else i)) :=
  de_B (by decide +kernel) (by decide +kernel) (by decide +kernel) ⟨_, call_min2 hc, fun vs F H Q hs r q => by
    obtain ⟨v, w, rfl, rr, r2⟩ := two_of r
    cases rr; cases r2
    exact ⟨i, j, rfl, q.done hs (.v _)⟩⟩ hg hm ha he hpl
theorem de_int1 {i : Int} (hg : X.env.kindOf "int" = some .globalImplicit) (hm : X.mg "int" = none) (ha : DA X [e] ro [di i])
    (he : starEach [e] X.env = (false, eval e X.env) :: starEach [] X.env := by kernel_rfl) (hpl : (backTo pos (starEach [] X.env)).any (·.1) = false := by kernel_rfl) : DE X (.Call (.Name "int" p) [e] [] pos) ro (di i) :=
  de_Ty (by decide +kernel) (by decide +kernel) (by decide +kernel) ⟨_, call_int1, fun vs F H Q hs r q => by
    obtain ⟨v, rfl, rr⟩ := one_of r
    cases rr
    exact .inl ⟨i, rfl, q.done hs (.v _)⟩⟩ hg hm ha he hpl
theorem de_intB {i : Bool} (hg : X.env.kindOf "int" = some .globalImplicit) (hm : X.mg "int" = none) (ha : DA X [e] ro [db i])
    (he : starEach [e] X.env = (false, eval e X.env) :: starEach [] X.env := by kernel_rfl) (hpl : (backTo pos (starEach [] X.env)).any (·.1) = false := by kernel_rfl) : DE X (.Call (.Name "int" p) [e] [] pos) ro (di (if i then 1 else 0)) :=
  de_Ty (by decide +kernel) (by decide +kernel) (by decide +kernel) ⟨_, call_int1, fun vs F H Q hs r q => by
    obtain ⟨v, rfl, rr⟩ := one_of r
    cases rr
    exact .inr ⟨i, rfl, q.done hs (.v _)⟩⟩ hg hm ha he hpl
theorem de_intS {i : Int} {z : Str} (h1 : PySem.intText? z = some i) (h2 : z.length ≤ 640) (hg : X.env.kindOf "int" = some .globalImplicit) (hm : X.mg "int" = none) (ha : DA X [e] ro [ds z])
    (he : starEach [e] X.env = (false, eval e X.env) :: starEach [] X.env := by kernel_rfl) (hpl : (backTo pos (starEach [] X.env)).any (·.1) = false := by kernel_rfl) : DE X (.Call (.Name "int" p) [e] [] pos) ro (di i) :=
  de_Ty (by decide +kernel) (by decide +kernel) (by decide +kernel) ⟨_, call_int_str, fun vs F H Q hs r q => by
    obtain ⟨v, rfl, rr⟩ := one_of r
    cases rr
    exact ⟨z, i, rfl, h1, h2, q.done hs (.v _)⟩⟩ hg hm ha he hpl
theorem de_strI {i : Int} (h1 : i.natAbs.log2 < 1920) (hg : X.env.kindOf "str" = some .globalImplicit) (hm : X.mg "str" = none) (ha : DA X [e] ro [di i])
    (he : starEach [e] X.env = (false, eval e X.env) :: starEach [] X.env := by kernel_rfl) (hpl : (backTo pos (starEach [] X.env)).any (·.1) = false := by kernel_rfl) : DE X (.Call (.Name "str" p) [e] [] pos) ro (ds (toString i)) :=
  de_Ty (by decide +kernel) (by decide +kernel) (by decide +kernel) ⟨_, call_str_int, fun vs F H Q hs r q => by
    obtain ⟨v, rfl, rr⟩ := one_of r
    cases rr
    exact ⟨i, rfl, h1, q.done hs (.v _)⟩⟩ hg hm ha he hpl
/-- tuple(list), tuple(tuple), list(..) -/
theorem de_tupL {xs : List D} (hg : X.env.kindOf "tuple" = some .globalImplicit) (hm : X.mg "tuple" = none) (ha : DA X [e] ro [.lst xs])
    (he : starEach [e] X.env = (false, eval e X.env) :: starEach [] X.env := by kernel_rfl) (hpl : (backTo pos (starEach [] X.env)).any (·.1) = false := by kernel_rfl) : DE X (.Call (.Name "tuple" p) [e] [] pos) ro (.tup xs) :=
  de_Ty (by decide +kernel) (by decide +kernel) (by decide +kernel) ⟨_, call_tuple_of, fun vs F H Q hs r q => by
    obtain ⟨v, rfl, rr⟩ := one_of r
    cases rr with
    | lst h1 a1 => exact ⟨_, _, rfl, .inl ⟨.inl (.inl (hs _ _ h1)), fun l hl => q.newT hs a1 hl⟩⟩⟩ hg hm ha he hpl
theorem de_tupT {xs : List D} (hg : X.env.kindOf "tuple" = some .globalImplicit) (hm : X.mg "tuple" = none) (ha : DA X [e] ro [.tup xs])
    (he : starEach [e] X.env = (false, eval e X.env) :: starEach [] X.env := by kernel_rfl) (hpl : (backTo pos (starEach [] X.env)).any (·.1) = false := by kernel_rfl) : DE X (.Call (.Name "tuple" p) [e] [] pos) ro (.tup xs) :=
  de_Ty (by decide +kernel) (by decide +kernel) (by decide +kernel) ⟨_, call_tuple_of, fun vs F H Q hs r q => by
    obtain ⟨v, rfl, rr⟩ := one_of r
    cases rr with
    | tup h1 a1 => exact ⟨_, _, rfl, .inr ⟨sub_t hs h1, q.done hs (.tup h1 a1)⟩⟩⟩ hg hm ha he hpl
inductive SeqD : D → List D → Prop
  | l (xs : List D) : SeqD (.lst xs) xs
  | t (xs : List D) : SeqD (.tup xs) xs
theorem dn_list {xs : List D} (hg : X.env.kindOf "list" = some .globalImplicit) (hm : X.mg "list" = none) (ha : DA X [e] ro [d]) (hd : SeqD d xs)
    (he : starEach [e] X.env = (false, eval e X.env) :: starEach [] X.env := by kernel_rfl) (hpl : (backTo pos (starEach [] X.env)).any (·.1) = false := by kernel_rfl) : DN X (.Call (.Name "list" p) [e] [] pos) ro (.lst xs) :=
  dn_Ty (by decide +kernel) (by decide +kernel) (by decide +kernel) ⟨_, call_list_of, fun vs F H Q hs r q => by
    obtain ⟨v, rfl, rr⟩ := one_of r
    cases hd with
    | l => cases rr with | lst h1 a1 => exact ⟨_, _, rfl, .inl (.inl (.inl (hs _ _ h1))), fun l hl => q.newL hs a1 hl⟩
    | t => cases rr with | tup h1 a1 => exact ⟨_, _, rfl, .inr (sub_t hs h1), fun l hl => q.newL hs a1 hl⟩⟩ hg hm ha he hpl
/-- all, any of a list of bools -/
theorem de_all {bs : List Bool} (hc : X.calm = true) (hg : X.env.kindOf "all" = some .globalImplicit) (hm : X.mg "all" = none) (ha : DA X [e] ro [.lst (bs.map db)])
    (he : starEach [e] X.env = (false, eval e X.env) :: starEach [] X.env := by kernel_rfl) (hpl : (backTo pos (starEach [] X.env)).any (·.1) = false := by kernel_rfl) : DE X (.Call (.Name "all" p) [e] [] pos) ro (db (bs.all id)) :=
  de_B (by decide +kernel) (by decide +kernel) (by decide +kernel) ⟨_, cr_all hc, fun vs F H Q hs r q => by
    obtain ⟨v, rfl, rr⟩ := one_of r
    cases rr with
    | lst h1 a1 =>
      have e1 : bs.map db = (bs.map V.bl).map D.v := by rw [List.map_map]; rfl
      rw [e1] at a1
      have e2 := RepA.unflat a1
      subst e2
      exact ⟨_, bs, rfl, .inl (.inl (hs _ _ h1)), q.done hs (.v _)⟩⟩ hg hm ha he hpl
theorem de_any {bs : List Bool} (hc : X.calm = true) (hg : X.env.kindOf "any" = some .globalImplicit) (hm : X.mg "any" = none) (ha : DA X [e] ro [.lst (bs.map db)])
    (he : starEach [e] X.env = (false, eval e X.env) :: starEach [] X.env := by kernel_rfl) (hpl : (backTo pos (starEach [] X.env)).any (·.1) = false := by kernel_rfl) : DE X (.Call (.Name "any" p) [e] [] pos) ro (db (bs.any id)) :=
  de_B (by decide +kernel) (by decide +kernel) (by decide +kernel) ⟨_, cr_any hc, fun vs F H Q hs r q => by
    obtain ⟨v, rfl, rr⟩ := one_of r
    cases rr with
    | lst h1 a1 =>
      have e1 : bs.map db = (bs.map V.bl).map D.v := by rw [List.map_map]; rfl
      rw [e1] at a1
      have e2 := RepA.unflat a1
      subst e2
      exact ⟨_, bs, rfl, .inl (.inl (hs _ _ h1)), q.done hs (.v _)⟩⟩ hg hm ha he hpl

/-! ### dicts -/
def getK (kvs : List (Str × Int)) (k : Str) : Option Int := (kvs.find? fun kv => decide (kv.1 = k)).map (·.2)
def setK (kvs : List (Str × Int)) (k : Str) (v : Int) : List (Str × Int) := if (getK kvs k).isSome then kvs.map (fun kv => if kv.1 = k then (kv.1, v) else kv) else kvs ++ [(k, v)]
def delK (kvs : List (Str × Int)) (k : Str) : List (Str × Int) := kvs.filter fun kv => decide (kv.1 ≠ k)
theorem valV_enc (k : Str) : ∀ kvs : List (Str × Int), valV (encK kvs) (Sum.inr k : Key) = (getK kvs k).map V.int
  | [] => rfl
  | (x, i) :: r => by
    by_cases h : x = k
    · have h1 : (Sum.inr x : Key) = Sum.inr k := by rw [h]
      show valV ((Sum.inr x, V.int i) :: encK r) _ = _
      rw [valV_pos h1]
      simp [getK, List.find?_cons, h]
    · have h1 : ¬ (Sum.inr x : Key) = Sum.inr k := fun z => h (Sum.inr.inj z)
      show valV ((Sum.inr x, V.int i) :: encK r) _ = _
      rw [valV_neg h1, valV_enc k r]
      simp [getK, List.find?_cons, h]
theorem DGet.enc {H : Hp} {a : Addr} {kvs : List (Str × Int)} {k : Str} (h : H a = some (.dK (encK kvs))) : DGet H a (.str k) ((getK kvs k).map V.int) := by
  rw [← valV_enc]
  exact DGet.k (k := Sum.inr k) h
theorem isD_enc {H : Hp} {a : Addr} {kvs : List (Str × Int)} (h : H a = some (.dK (encK kvs))) : IsD H a := .inl ⟨_, .inl h⟩
theorem de_dget {kvs : List (Str × Int)} {k : Str} {i : Int} (hu : X.A.units + 1 < cLine) (ho : DE X o ro (.dic kvs)) (hi : DE X e ro (ds k)) (hk : getK kvs k = some i) (hs : NoSl e := by exact fun _ _ => rfl) : DE X (.Subscript o e pos) ro (di i) := fun σ F H S s Q q =>
  PE.we (pe_dget hu pe_self pe_self hs) (two ho hi S s fun v w F' H' g r1 r2 => by
    cases r2
    cases r1 with
    | dic h1 =>
      have h := DGet.enc (k := k) (g.fh _ _ h1)
      rw [hk] at h
      exact ⟨_, _, rfl, h, q _ F' H' g (.v _)⟩)
theorem dt_din {kvs : List (Str × Int)} {k : Str} (hu : X.A.units + 1 < cLine) (hi : DE X e ro (ds k)) (ho : DE X o ro (.dic kvs)) (hb : behindInMarks .In o = false := by kernel_rfl) : DT X (.Compare e [.In] [o] pos) ro (getK kvs k).isSome := fun σ F H S s Q q =>
  PT.wt (pt_cmp (pc_din hu pe_self pe_self) hb) (two hi ho S s fun v w F' H' g r1 r2 => by
    cases r1
    cases r2 with
    | dic h1 =>
      refine ⟨_, _, rfl, DGet.enc (k := k) (g.fh _ _ h1), _, rfl, ?_⟩
      rw [Option.isSome_map]
      exact q F' H' g)
theorem dt_dnotin {kvs : List (Str × Int)} {k : Str} (hu : X.A.units + 1 < cLine) (hi : DE X e ro (ds k)) (ho : DE X o ro (.dic kvs)) (hb : behindInMarks .NotIn o = false := by kernel_rfl) : DT X (.Compare e [.NotIn] [o] pos) ro (!(getK kvs k).isSome) := fun σ F H S s Q q =>
  PT.wt (pt_cmp (pc_dnotin hu pe_self pe_self) hb) (two hi ho S s fun v w F' H' g r1 r2 => by
    cases r1
    cases r2 with
    | dic h1 =>
      refine ⟨_, _, rfl, DGet.enc (k := k) (g.fh _ _ h1), _, rfl, ?_⟩
      rw [Option.isSome_map]
      exact q F' H' g)
theorem de_din {kvs : List (Str × Int)} {k : Str} (hu : X.A.units + 1 < cLine) (hi : DE X e ro (ds k)) (ho : DE X o ro (.dic kvs)) (hb : behindInMarks .In o = false := by kernel_rfl) : DE X (.Compare e [.In] [o] pos) ro (db (getK kvs k).isSome) := fun σ F H S s Q q =>
  PE.we (pe_cmp (pc_din hu pe_self pe_self) hb) (two hi ho S s fun v w F' H' g r1 r2 => by
    cases r1
    cases r2 with
    | dic h1 =>
      refine ⟨_, _, rfl, DGet.enc (k := k) (g.fh _ _ h1), ?_⟩
      rw [Option.isSome_map]
      exact q _ F' H' g (.v _))
theorem m1_mk {m : Str} (base : attributeBase o m X.env (eval o X.env) = eval o X.env)
    (few : ((backTo cpos (starEach [e] X.env)).all (fun x => !x.1) && (backToKw cpos (keywordEach [] X.env)).all (fun x => x.1.isSome) && decide (([e] : List Expr).length + ([] : List Keyword).length + (if ([] : List Keyword).isEmpty then 0 else 1) < 30)) = true)
    (line : (apos.endLine == cpos.line) = true) (trees : backTo cpos (starEach [e] X.env) = [(false, eval e X.env)]) : M1 X o m apos e cpos := ⟨base, few, line, trees⟩
/-- d.get(k), d.get(k, x) -/
theorem de_dget1 {kvs : List (Str × Int)} {k : Str} (hu : X.A.units + 1 < cLine) (ho : DE X o ro (.dic kvs)) (hi : DE X e ro (ds k))
    (base : attributeBase o "get" X.env (eval o X.env) = eval o X.env := by kernel_rfl)
    (few : ((backTo cpos (starEach [e] X.env)).all (fun x => !x.1) && (backToKw cpos (keywordEach [] X.env)).all (fun x => x.1.isSome) && decide (([e] : List Expr).length + ([] : List Keyword).length + (if ([] : List Keyword).isEmpty then 0 else 1) < 30)) = true := by kernel_rfl)
    (line : (apos.endLine == cpos.line) = true := by kernel_rfl) (trees : backTo cpos (starEach [e] X.env) = [(false, eval e X.env)] := by kernel_rfl) :
    DE X (.Call (.Attribute o "get" apos) [e] [] cpos) ro (.v (((getK kvs k).map V.int).getD .non)) := fun σ F H S s Q q =>
  PE.we (pe_dget1 hu pe_self pe_self ⟨base, few, line, trees⟩) (ho σ F H S s _ fun v F1 H1 g1 r1 => by
    cases r1 with
    | dic h1 => exact ⟨_, rfl, isD_enc (g1.fh _ _ h1), hi σ F1 H1 (S.mono g1.ff) g1.fh _ fun w F2 H2 g2 r2 => by
        cases r2
        exact ⟨_, DGet.enc (k := k) (g2.fh _ _ (g2.ff _ _ h1)), q _ F2 H2 (g1.trans g2) (.v _)⟩⟩)
theorem de_dget2 {kvs : List (Str × Int)} {k : Str} {i : Int} (hu : X.A.units + 1 < cLine) (ho : DE X o ro (.dic kvs)) (hi : DE X e ro (ds k)) (hf : DE X e2 ro (di i))
    (base : attributeBase o "get" X.env (eval o X.env) = eval o X.env := by kernel_rfl)
    (few : ((backTo cpos (starEach [e, e2] X.env)).all (fun x => !x.1) && (backToKw cpos (keywordEach [] X.env)).all (fun x => x.1.isSome) && decide (([e, e2] : List Expr).length + ([] : List Keyword).length + (if ([] : List Keyword).isEmpty then 0 else 1) < 30)) = true := by kernel_rfl)
    (line : (apos.endLine == cpos.line) = true := by kernel_rfl) (trees : backTo cpos (starEach [e, e2] X.env) = [(false, eval e X.env), (false, eval e2 X.env)] := by kernel_rfl) :
    DE X (.Call (.Attribute o "get" apos) [e, e2] [] cpos) ro (di ((getK kvs k).getD i)) := fun σ F H S s Q q =>
  PE.we (pe_dget2 hu pe_self pe_self pe_self ⟨base, few, line, trees⟩) (ho σ F H S s _ fun v F1 H1 g1 r1 => by
    cases r1 with
    | dic h1 => exact ⟨_, rfl, isD_enc (g1.fh _ _ h1), hi σ F1 H1 (S.mono g1.ff) g1.fh _ fun w F2 H2 g2 r2 => hf σ F2 H2 ((S.mono g1.ff).mono g2.ff) g2.fh _ fun z F3 H3 g3 r3 => by
        cases r2
        cases r3
        refine ⟨_, DGet.enc (k := k) (g3.fh _ _ (g3.ff _ _ (g2.ff _ _ h1))), ?_⟩
        have ee : ((getK kvs k).map V.int).getD (V.int i) = V.int ((getK kvs k).getD i) := by cases getK kvs k <;> rfl
        rw [ee]
        exact q _ F3 H3 ((g1.trans g2).trans g3) (.v _)⟩)

/-! ### texts: join, split -/
theorem de_join {sep : Str} {ys : List Str} (hl : (ys.map (·.length)).sum + ys.length * sep.length ≤ 16777216) (ho : DE X o ro (ds sep)) (ha : DE X e ro (.lst (ys.map ds)))
    (hs : starEach [e] X.env = [(false, eval e X.env)] := by kernel_rfl) (hbase : attributeBase o "join" X.env (eval o X.env) = eval o X.env := by kernel_rfl) (hline : (apos.endLine == pos.line) = true := by kernel_rfl) :
    DE X (.Call (.Attribute o "join" apos) [e] [] pos) ro (ds (Txt.join sep ys)) := fun σ F H S s Q q =>
  PE.we (pe_join pe_self pe_self hs hbase hline) (ho σ F H S s _ fun v F1 H1 g1 r1 => by
    cases r1
    refine ⟨⟨_, rfl⟩, ha σ F1 H1 (S.mono g1.ff) g1.fh _ fun w F2 H2 g2 r2 => ?_⟩
    cases r2 with
    | lst h1 a1 =>
      have e1 : ys.map ds = (ys.map V.str).map D.v := by rw [List.map_map]; rfl
      rw [e1] at a1
      have e2 := RepA.unflat a1
      subst e2
      exact ⟨_, _, ys, rfl, rfl, .inl (.inl (.inl (g2.fh _ _ h1))), hl, q _ F2 H2 (g1.trans g2) (.v _)⟩)
theorem dn_split {z sep : Str} (h0 : (sep.length == 0) = false) (hl : z.length + 2 ≤ sizeLine) (ho : DE X o ro (ds z)) (ha : DE X e ro (ds sep))
    (hs : starEach [e] X.env = [(false, eval e X.env)] := by kernel_rfl) (hbase : attributeBase o "split" X.env (eval o X.env) = eval o X.env := by kernel_rfl) (hline : (apos.endLine == pos.line) = true := by kernel_rfl) :
    DN X (.Call (.Attribute o "split" apos) [e] [] pos) ro (.lst ((Txt.split z sep).map ds)) := fun σ F H S s Q q =>
  PE.we (pe_split pe_self pe_self hs hbase hline) (ho σ F H S s _ fun v F1 H1 g1 r1 => by
    cases r1
    refine ⟨⟨_, rfl⟩, ha σ F1 H1 (S.mono g1.ff) g1.fh _ fun w F2 H2 g2 r2 => ?_⟩
    cases r2
    refine ⟨_, _, rfl, rfl, h0, hl, fun p hp => ?_⟩
    have e1 : (Txt.split z sep).map ds = ((Txt.split z sep).map V.str).map D.v := by rw [List.map_map]; rfl
    rw [e1] at q
    exact (q.go (g1.trans g2)).newL g2.fh (RepA.flat _) hp)

/-! ### defs, methods, attributes -/
theorem RepA.app0 {K : PySem.W.Frag} {F : Hp} {vs : List V} {ds : List D} (r : RepA K F vs ds) : RepA K F (vs ++ []) ds := by rw [List.append_nil]; exact r
theorem de_call {k j : Nat} {R : List D → D → Prop} (c : Cal X.prog X.w X.K X.mg X.base k x (spD X.K R) []) (hr : Room j X.A) (hg : X.env.kindOf x = some .globalImplicit) (ha : DA X (e :: es) ro ds') (hR : R ds' d) (hk : k ≤ j := by decide)
    (hdb : (x == ("__debug__" : Str)) = false := by kernel_rfl) (he : starEach (e :: es) X.env = (false, eval e X.env) :: starEach es X.env := by kernel_rfl) (hpl : (backTo pos (starEach es X.env)).any (·.1) = false := by kernel_rfl) :
    DE X (.Call (.Name x p) (e :: es) [] pos) ro d := fun σ F H S s Q q =>
  PE.we (pe_c c hr hk hg pa_self hdb he hpl) (ha σ F H S s _ fun vs F1 H1 g r => ⟨F1, ds', d, g.fh, r.app0, hR, q.go g⟩)
theorem dn_call {k j : Nat} {R : List D → D → Prop} (c : Cal X.prog X.w X.K X.mg X.base k x (spN X.K R) []) (hr : Room j X.A) (hg : X.env.kindOf x = some .globalImplicit) (ha : DA X (e :: es) ro ds') (hR : R ds' d) (hk : k ≤ j := by decide)
    (hdb : (x == ("__debug__" : Str)) = false := by kernel_rfl) (he : starEach (e :: es) X.env = (false, eval e X.env) :: starEach es X.env := by kernel_rfl) (hpl : (backTo pos (starEach es X.env)).any (·.1) = false := by kernel_rfl) :
    DN X (.Call (.Name x p) (e :: es) [] pos) ro d := fun σ F H S s Q q =>
  PE.we (pe_c c hr hk hg pa_self hdb he hpl) (ha σ F H S s _ fun vs F1 H1 g r => ⟨F1, ds', d, g.fh, r.app0, hR, q.go g⟩)
theorem de_meth {pl : Sem Bool} {k j : Nat} {cn : Str} {fs : List (Str × D)} {R : List D → D → Prop} (c : Met X.prog X.w X.K X.mg X.base k (He.ga X.K cn) m (spD X.K R) []) (hr : Room j X.A) (ho : DE X o ro (.obj cn fs)) (hm : fs.lookup m = none) (ha : DA X (e :: es) ro ds') (hR : R (.obj cn fs :: ds') d) (hk : k ≤ j := by decide)
    (hst : starEach (e :: es) X.env = (false, eval e X.env) :: starEach es X.env := by kernel_rfl) (hpl : (backTo pos (starEach es X.env)).any (·.1) = false := by kernel_rfl)
    (ht : eval (.Call (.Attribute o m apos) (e :: es) [] pos) X.env = (do
      let ov ← eval o X.env
      standAt apos.atName
      let (f, first) ← holding [ov] (getMethod ov m pl)
      callWith pos f first (backTo pos (starEach (e :: es) X.env)) (backToKw pos (keywordEach [] X.env))) := by rfl) :
    DE X (.Call (.Attribute o m apos) (e :: es) [] pos) ro d := fun σ F H S s Q q =>
  PE.we (pe_mt (pl := pl) c hr hk pe_self pa_self hst hpl ht) (ho σ F H S s _ fun v F1 H1 g1 r1 => by
    cases r1 with
    | obj h1 f1 => exact ⟨_, _, _, rfl, g1.fh _ _ h1, f1.lookup_none hm, ha σ F1 H1 (S.mono g1.ff) g1.fh _ fun vs F2 H2 g2 r2 =>
        ⟨F2, .obj cn fs :: ds', d, g2.fh, .cons (.obj (g2.ff _ _ h1) (f1.mono g2.ff)) r2.app0, hR, q.go (g1.trans g2)⟩⟩)
theorem de_fld {cn f : Str} {fs : List (Str × D)} (ho : DE X o ro (.obj cn fs)) (hl : fs.lookup f = some d) (cl : Cls X.K (He.ga X.K cn)) (na : NoAttr X.K (He.ga X.K cn) f) (hb : attributeBase o f X.env (eval o X.env) = eval o X.env := by kernel_rfl) : DE X (.Attribute o f pos) ro d := fun σ F H S s Q q =>
  PE.we (pe_fld pe_self hb) (ho σ F H S s _ fun v F1 H1 g1 r1 => by
    cases r1 with
    | obj h1 f1 =>
      obtain ⟨x, e, r⟩ := f1.lookup hl
      exact ⟨_, _, _, _, _, rfl, g1.fh _ _ h1, cl, na, e, q _ F1 H1 g1 r⟩)
end
end Ef
set_option maxRecDepth 100000
set_option maxHeartbeats 4000000
/-! EfE: what is walked; targets; list comprehensions. -/
namespace Ef
open PySem L2 C8 RZ

/-! ### what is walked -/
structure Walks (K : PySem.W.Frag) (J : It) (its : List D) (F1 : Hp) : Prop where
  go : ∀ i H, Sub F1 H → i < its.length → J.go i H
  stop : ∀ H, Sub F1 H → J.stop its.length H
  yld : ∀ i d H x H' F, Sub F1 F → Sub F H → its[i]? = some d → J.yld i H x H' → ∃ F', Grow F H F' H' ∧ Rep K F' x d
def DI (X : Cx) (tg iter : Expr) (ro : List (Option D)) (its : List D) : Prop :=
  ∃ wi : TI, PI X tg iter wi ∧ ∀ (σ : L2.St) (F H : Hp), Sl X.K F σ ro → Sub F H → ∀ R : It → Hp → Prop, (∀ J F1 H1, Grow F H F1 H1 → Walks X.K J its F1 → R J H1) → wi σ H R
section
variable {X : Cx} {e e1 e2 a b c o tg : Expr} {es : List Expr} {ro : List (Option D)} {d da db' dc : D} {ds' its : List D} {pos apos cpos p : Pos} {ba bb : Bool} {x m : Str}
theorem some_lt {α : Type} {l : List α} {i : Nat} {y : α} (h : l[i]? = some y) : i < l.length := (List.getElem?_eq_some_iff.mp h).1
theorem walks_list {K : PySem.W.Frag} {F : Hp} {p : Addr} {xs : List V} {ds : List D} (h : F p = some (.lst xs)) (r : RepA K F xs ds) : Walks K (Itl K p) ds F where
  go := fun i H s hi => by
    have hi' : i < xs.length := by rw [r.length]; exact hi
    exact ⟨xs, xs[i], .inl (.inl (s _ _ h)), List.getElem?_eq_getElem hi'⟩
  stop := fun H s => ⟨xs, .inl (.inl (s _ _ h)), Nat.le_of_eq r.length⟩
  yld := fun i d H x H' F' s t e q => by
    obtain ⟨rfl, q⟩ := q
    obtain ⟨y, e2, ry⟩ := r.get e
    have e3 := q xs (.inl (.inl (t _ _ (s _ _ h))))
    rw [e2] at e3; cases e3
    exact ⟨F', .refl t, ry.mono s⟩
theorem walks_tup {K : PySem.W.Frag} {F : Hp} {p : Addr} {xs : List V} {ds : List D} (h : SqT K F p xs) (r : RepA K F xs ds) : Walks K (Itt K p) ds F where
  go := fun i H s hi => by
    have hi' : i < xs.length := by rw [r.length]; exact hi
    exact ⟨xs, xs[i], sub_t s h, List.getElem?_eq_getElem hi'⟩
  stop := fun H s => ⟨xs, sub_t s h, Nat.le_of_eq r.length⟩
  yld := fun i d H x H' F' s t e q => by
    obtain ⟨rfl, q⟩ := q
    obtain ⟨y, e2, ry⟩ := r.get e
    have e3 := q xs (sub_t t (sub_t s h))
    rw [e2] at e3; cases e3
    exact ⟨F', .refl t, ry.mono s⟩
theorem di_list (h : DE X e ro (.lst its)) : DI X tg e ro its := ⟨_, pi_list pe_self, fun σ F H S hs R q => h σ F H S hs _ fun v F' H' g r => by
  cases r with
  | lst h1 a1 => exact ⟨_, rfl, ⟨_, .inl (.inl (g.fh _ _ h1))⟩, q _ F' H' g (walks_list h1 a1)⟩⟩
theorem di_tup (h : DE X e ro (.tup its)) : DI X tg e ro its := ⟨_, pi_tup pe_self, fun σ F H S hs R q => h σ F H S hs _ fun v F' H' g r => by
  cases r with
  | tup h1 a1 => exact ⟨_, rfl, ⟨_, sub_t g.fh h1⟩, q _ F' H' g (walks_tup h1 a1)⟩⟩
/-- 0, 1, .. -/
def rng (n : Nat) : List D := (List.range n).map fun (i : Nat) => di (i : Int)
theorem rng_length (n : Nat) : (rng n).length = n := by unfold rng; rw [List.length_map, List.length_range]
theorem rng_get {n i : Nat} {d : D} (h : (rng n)[i]? = some d) : i < n ∧ d = di (i : Int) := by
  have h1 : i < n := by have := some_lt h; rwa [rng_length] at this
  unfold rng at h
  rw [List.getElem?_map, List.getElem?_range h1] at h
  exact ⟨h1, (Option.some.inj h).symm⟩
theorem di_range {n : Nat} (hn : (n : Int) < 2 ^ 62) (hg : X.env.kindOf "range" = some .globalImplicit) (hm : X.mg "range" = none) (ha : DA X [e] ro [di (n : Int)]) (hs : starEach [e] X.env = [(false, eval e X.env)] := by kernel_rfl) :
    DI X tg (.Call (.Name "range" p) [e] [] pos) ro (rng n) := ⟨_, pi_range1 hg hm pa_self hs, fun σ F H S s R q => ha σ F H S s _ fun vs F' H' g r => by
  obtain ⟨v, rfl, rv⟩ := one_of r
  cases rv
  refine ⟨(n : Int), rfl, by omega, hn, q _ F' H' g ?_⟩
  rw [Int.toNat_natCast]
  exact { go := fun i H _ h => by rw [rng_length] at h; exact h
          stop := fun H _ => by rw [rng_length]; exact Nat.le_refl n
          yld := fun i d H x H' F1 _ t e q => by
            obtain ⟨rfl, rfl⟩ := q
            obtain ⟨_, rfl⟩ := rng_get e
            rw [Int.zero_add]
            exact ⟨F1, .refl t, .v _⟩ }⟩
/-- the signs of a text -/
def signs (z : Str) : List D := z.cps.toList.map fun c => ds ⟨#[c]⟩
theorem di_str {z : Str} (h : DE X e ro (ds z)) : DI X tg e ro (signs z) := ⟨_, pi_str pe_self, fun σ F H S hs R q => h σ F H S hs _ fun v F' H' g r => by
  cases r
  refine ⟨z, rfl, q _ F' H' g ?_⟩
  have hl : (signs z).length = z.cps.size := by unfold signs; rw [List.length_map, Array.length_toList]
  exact { go := fun i H _ h => by rw [hl] at h; exact h
          stop := fun H _ => by rw [hl]; exact Nat.le_refl _
          yld := fun i d H x H' F1 _ t e q => by
            obtain ⟨rfl, c, e2, rfl⟩ := q
            unfold signs at e
            rw [List.getElem?_map, Array.getElem?_toList, e2] at e
            cases e
            exact ⟨F1, .refl t, .v _⟩ }⟩
/-- a new pair -/
theorem pair_new {K : PySem.W.Frag} {F H : Hp} {T : Addr} {x y : V} {dx dy : D} (t : Sub F H) (hT : H T = none) (rx : Rep K F x dx) (ry : Rep K F y dy) : ∃ F', Grow F H F' (upd H T (.tup [x, y])) ∧ Rep K F' (.ref T) (.tup [dx, dy]) := by
  have fT := t.none hT
  have s : Sub F (upd F T (.tup [x, y])) := Sub.upd fT
  exact ⟨upd F T (.tup [x, y]), (Grow.mk .rfl (sub_upd t fT) (Sub.upd hT) (fun a o h n => by rw [n] at h; cases h) : Grow F H F (upd H T (.tup [x, y]))).freeze hT fT upd_same, .tup (.inl (.inl upd_same)) (.cons (rx.mono s) (.cons (ry.mono s) .nil))⟩
def pairs : List D → List D → List D
  | x :: xs, y :: ys => .tup [x, y] :: pairs xs ys
  | _, _ => []
theorem pairs_length : ∀ xs ys : List D, (pairs xs ys).length = min xs.length ys.length
  | [], ys => by simp [pairs]
  | x :: xs, [] => by simp [pairs]
  | x :: xs, y :: ys => by show (pairs xs ys).length + 1 = min (xs.length + 1) (ys.length + 1); rw [pairs_length xs ys]; omega
theorem pairs_get : ∀ {xs ys : List D} {i : Nat} {d : D}, (pairs xs ys)[i]? = some d → ∃ x y, xs[i]? = some x ∧ ys[i]? = some y ∧ d = .tup [x, y]
  | [], ys, _, _, h => by simp [pairs] at h
  | x :: xs, [], _, _, h => by simp [pairs] at h
  | x :: xs, y :: ys, 0, d, h => ⟨x, y, rfl, rfl, (Option.some.inj h).symm⟩
  | x :: xs, y :: ys, i + 1, d, h => pairs_get (xs := xs) (ys := ys) (i := i) (by simpa [pairs] using h)
theorem walks_zipT {K : PySem.W.Frag} {F : Hp} {p q : Addr} {us ws : List V} {xs ys : List D} (h1 : SqT K F p us) (a1 : RepA K F us xs) (h2 : SqT K F q ws) (a2 : RepA K F ws ys) : Walks K (ItzT K p q) (pairs xs ys) F where
  go := fun i H s hi => by
    rw [pairs_length] at hi
    have i1 : i < us.length := by rw [a1.length]; omega
    have i2 : i < ws.length := by rw [a2.length]; omega
    exact ⟨_, _, _, _, sub_t s h1, sub_t s h2, List.getElem?_eq_getElem i1, List.getElem?_eq_getElem i2⟩
  stop := fun H s => by
    refine ⟨_, _, sub_t s h1, sub_t s h2, ?_⟩
    rw [pairs_length, a1.length, a2.length]; omega
  yld := fun i d H x H' F1 s t e q => by
    obtain ⟨T, u, z, rfl, hT, rfl, q1, q2⟩ := q
    obtain ⟨y1, y2, g1, g2, rfl⟩ := pairs_get e
    obtain ⟨u1, k1, ru1⟩ := a1.get g1
    obtain ⟨u2, k2, ru2⟩ := a2.get g2
    have e3 := q1 _ (sub_t t (sub_t s h1))
    rw [k1] at e3; cases e3
    have e4 := q2 _ (sub_t t (sub_t s h2))
    rw [k2] at e4; cases e4
    exact pair_new t hT (ru1.mono s) (ru2.mono s)
theorem walks_zipL {K : PySem.W.Frag} {F : Hp} {p q : Addr} {us ws : List V} {xs ys : List D} (h1 : F p = some (.lst us)) (a1 : RepA K F us xs) (h2 : F q = some (.lst ws)) (a2 : RepA K F ws ys) : Walks K (Itz K p q) (pairs xs ys) F where
  go := fun i H s hi => by
    rw [pairs_length] at hi
    have i1 : i < us.length := by rw [a1.length]; omega
    have i2 : i < ws.length := by rw [a2.length]; omega
    exact ⟨_, _, _, _, .inl (.inl (s _ _ h1)), .inl (.inl (s _ _ h2)), List.getElem?_eq_getElem i1, List.getElem?_eq_getElem i2⟩
  stop := fun H s => by
    refine ⟨_, _, .inl (.inl (s _ _ h1)), .inl (.inl (s _ _ h2)), ?_⟩
    rw [pairs_length, a1.length, a2.length]; omega
  yld := fun i d H x H' F1 s t e q => by
    obtain ⟨T, u, z, rfl, hT, rfl, q1, q2⟩ := q
    obtain ⟨y1, y2, g1, g2, rfl⟩ := pairs_get e
    obtain ⟨u1, k1, ru1⟩ := a1.get g1
    obtain ⟨u2, k2, ru2⟩ := a2.get g2
    have e3 := q1 _ (.inl (.inl (t _ _ (s _ _ h1))))
    rw [k1] at e3; cases e3
    have e4 := q2 _ (.inl (.inl (t _ _ (s _ _ h2))))
    rw [k2] at e4; cases e4
    exact pair_new t hT (ru1.mono s) (ru2.mono s)
/-- zip of two tuples | two lists -/
theorem di_zipT {elts : List Expr} {kk : Nat} {tpos : Pos} {xs ys : List D} (hg : X.env.kindOf "zip" = some .globalImplicit) (hm : X.mg "zip" = none) (ha : DA X [e1, e2] ro [.tup xs, .tup ys])
    (hs : starEach [e1, e2] X.env = (false, eval e1 X.env) :: starEach [e2] X.env := by kernel_rfl) (hpl : (backTo pos (starEach [e2] X.env)).any (·.1) = false := by kernel_rfl) :
    DI X (.Tuple elts kk tpos) (.Call (.Name "zip" p) [e1, e2] [] pos) ro (pairs xs ys) := ⟨_, pi_zipA hg hm pa_self hs hpl, fun σ F H S s R q => ha σ F H S s _ fun vs F' H' g r => by
  obtain ⟨v, w, rfl, r1, r2⟩ := two_of r
  cases r1 with
  | tup h1 a1 =>
    cases r2 with
    | tup h2 a2 => exact ⟨_, _, _, _, rfl, .inr ⟨sub_t g.fh h1, sub_t g.fh h2, q _ F' H' g (walks_zipT h1 a1 h2 a2)⟩⟩⟩
theorem di_zipL {elts : List Expr} {kk : Nat} {tpos : Pos} {xs ys : List D} (hg : X.env.kindOf "zip" = some .globalImplicit) (hm : X.mg "zip" = none) (ha : DA X [e1, e2] ro [.lst xs, .lst ys])
    (hs : starEach [e1, e2] X.env = (false, eval e1 X.env) :: starEach [e2] X.env := by kernel_rfl) (hpl : (backTo pos (starEach [e2] X.env)).any (·.1) = false := by kernel_rfl) :
    DI X (.Tuple elts kk tpos) (.Call (.Name "zip" p) [e1, e2] [] pos) ro (pairs xs ys) := ⟨_, pi_zipA hg hm pa_self hs hpl, fun σ F H S s R q => ha σ F H S s _ fun vs F' H' g r => by
  obtain ⟨v, w, rfl, r1, r2⟩ := two_of r
  cases r1 with
  | lst h1 a1 =>
    cases r2 with
    | lst h2 a2 => exact ⟨_, _, _, _, rfl, .inl ⟨.inl (.inl (g.fh _ _ h1)), .inl (.inl (g.fh _ _ h2)), q _ F' H' g (walks_zipL h1 a1 h2 a2)⟩⟩⟩
/-- the pairs of a new dict that is walked once -/
def itemsD (kvs : List (Str × Int)) : List D := kvs.map fun p => .tup [ds p.1, di p.2]
theorem itemsD_get {kvs : List (Str × Int)} {i : Nat} {d : D} (h : (itemsD kvs)[i]? = some d) : ∃ k v, kvs[i]? = some (k, v) ∧ d = .tup [ds k, di v] := by
  unfold itemsD at h
  rw [List.getElem?_map] at h
  cases e : kvs[i]? with
  | none => rw [e] at h; cases h
  | some p => rw [e] at h; exact ⟨p.1, p.2, rfl, (Option.some.inj h).symm⟩
theorem encK_get {kvs : List (Str × Int)} {i : Nat} {k : Str} {v : Int} (h : kvs[i]? = some (k, v)) : (encK kvs)[i]? = some (Sum.inr k, V.int v) := by
  unfold encK
  rw [List.getElem?_map, h]; rfl
theorem encK_length (kvs : List (Str × Int)) : (encK kvs).length = kvs.length := by unfold encK; rw [List.length_map]
theorem walks_items {K : PySem.W.Frag} {F : Hp} {a : Addr} {od : Obj} {kvs : List (Str × Int)} (h : F a = some (.frz od (.dK (encK kvs)))) : Walks K (Iti a od (encK kvs)) (itemsD kvs) F := by
  have hl : (itemsD kvs).length = (encK kvs).length := by unfold itemsD; rw [encK_length, List.length_map]
  exact { go := fun i H s hi => ⟨s _ _ h, by rw [← hl]; exact hi⟩
          stop := fun H s => ⟨s _ _ h, by rw [hl]; exact Nat.le_refl _⟩
          yld := fun i d H x H' F1 s t e q => by
            obtain ⟨T, k, v, e2, rfl, hT, rfl⟩ := q
            obtain ⟨k', v', e3, rfl⟩ := itemsD_get e
            rw [encK_get e3] at e2
            cases e2
            exact pair_new t hT (.v _) (.v _) }
theorem di_itemsN {elts : List Expr} {kk : Nat} {tpos : Pos} {kvs : List (Str × Int)} (h : DN X e ro (.dic kvs))
    (hbase : attributeBase e "items" X.env (eval e X.env) = eval e X.env := by kernel_rfl) (hline : (apos.endLine == cpos.line) = true := by kernel_rfl) :
    DI X (.Tuple elts kk tpos) (.Call (.Attribute e "items" apos) [] [] cpos) ro (itemsD kvs) := by
  refine ⟨fun σ H R => WE X e σ H fun v H1 => ∃ d, v = .ref d ∧ H1 d = some (.dK (encK kvs)) ∧ ∀ od, R (Iti d od (encK kvs)) (upd H1 d (.frz od (.dK (encK kvs)))), ⟨fun pins s σ H R I h => ?_⟩, fun σ F H S s R q => h σ F H S s _ fun d F' H' g hp fp ci => ?_⟩
  · have pe : PE X e (fun σ H Q => WE X e σ H fun v H1 => ∃ d, v = .ref d ∧ H1 d = some (.dK (encK kvs)) ∧ ∀ od, Q v (upd H1 d (.frz od (.dK (encK kvs))))) := by
      refine ⟨fun pins s σ H Q I h => ?_⟩
      refine thn (h pins s I) fun u s1 ⟨v, H1, I1, r1, d, e1, hd, q⟩ => ?_
      subst e1
      obtain ⟨od, I2⟩ := Inv.lock I1 hd True.intro
      exact ⟨_, _, I2, r1, q od⟩
    have pi := pi_items (elts := elts) (kk := kk) (tpos := tpos) (apos := apos) (cpos := cpos) pe hbase hline
    refine pi.run pins s σ H R I ?_
    show WE X e σ H fun v H1 => ∃ d, v = .ref d ∧ H1 d = some (.dK (encK kvs)) ∧ ∀ od, _
    intro pins2 s2 I2
    exact thn (h pins2 s2 I2) fun u s3 ⟨v, H1, I1, r1, d, e1, hd, q⟩ => ⟨v, H1, I1, r1, d, e1, hd, fun od => ⟨d, od, encK kvs, e1, upd_same, q od⟩⟩
  · have ci : H' d = some (.dK (encK kvs)) := ci
    refine ⟨d, rfl, ci, fun od => ?_⟩
    refine q _ (upd F' d (.frz od (.dK (encK kvs)))) _ ⟨g.ff.trans (Sub.upd fp), fun a o h => ?_, fun a o h => ?_, fun a o h n => ?_⟩ (walks_items upd_same)
    · by_cases z : a = d
      · subst z; rw [upd_same] at h ⊢; exact h
      · rw [upd_ne z] at h ⊢; exact g.fh a o h
    · rw [upd_ne (ne_of_none h hp)]; exact g.hh a o h
    · by_cases z : a = d
      · subst z; exact .inl hp
      · rw [upd_ne z] at h; exact g.new a o h n

/-! ### targets: the stores that they make -/
def setsV : L2.St → List Nat → List V → L2.St
  | σ, i :: is, v :: vs => setsV (σ.set i (some v)) is vs
  | σ, _, _ => σ
def setsD : List (Option D) → List (Nat × D) → List (Option D)
  | ro, [] => ro
  | ro, (i, d) :: r => setsD (ro.set i (some d)) r
theorem setsV_length : ∀ (is : List Nat) (vs : List V) (σ : L2.St), (setsV σ is vs).length = σ.length
  | [], _, σ => by cases ‹List V› <;> rfl
  | i :: is, [], σ => rfl
  | i :: is, v :: vs, σ => by show (setsV (σ.set i (some v)) is vs).length = _; rw [setsV_length is vs, List.length_set]
theorem setsV_ne : ∀ (is : List Nat) (vs : List V) (σ : L2.St) (j : Nat), j ∉ is → (setsV σ is vs)[j]? = σ[j]?
  | [], vs, σ, j, _ => by cases vs <;> rfl
  | i :: is, [], σ, j, _ => rfl
  | i :: is, v :: vs, σ, j, h => by
    show (setsV (σ.set i (some v)) is vs)[j]? = _
    rw [setsV_ne is vs _ j (fun z => h (List.mem_cons_of_mem _ z)), List.getElem?_set_ne (fun z => h (by rw [z]; exact List.mem_cons_self))]
theorem setsV_append : ∀ (is js : List Nat) (vs ws : List V) (σ : L2.St), is.length = vs.length → setsV σ (is ++ js) (vs ++ ws) = setsV (setsV σ is vs) js ws
  | [], js, [], ws, σ, _ => rfl
  | i :: is, js, v :: vs, ws, σ, h => setsV_append is js vs ws (σ.set i (some v)) (Nat.succ.inj h)
theorem Sl.set {K : PySem.W.Frag} {F : Hp} {σ : L2.St} (S : Sl K F σ ro) {v : V} (i : Nat) (r : Rep K F v d) : Sl K F (σ.set i (some v)) (ro.set i (some d)) := by
  refine ⟨by rw [List.length_set, List.length_set, S.len], fun j d' h => ?_⟩
  by_cases e : j = i
  · subst e
    have hl : j < ro.length := by have := some_lt h; rwa [List.length_set] at this
    rw [List.getElem?_set_self hl] at h
    cases h
    exact ⟨v, List.getElem?_set_self (by rw [S.len]; exact hl), r⟩
  · rw [List.getElem?_set_ne (Ne.symm e)] at h ⊢
    exact S.at_ j d' h
theorem Sl.sets {K : PySem.W.Frag} {F : Hp} : ∀ {asg : List (Nat × D)} {σ : L2.St} {ro : List (Option D)} {vs : List V}, Sl K F σ ro → RepA K F vs (asg.map (·.2)) → Sl K F (setsV σ (asg.map (·.1)) vs) (setsD ro asg)
  | [], σ, ro, vs, S, r => by cases vs <;> exact S
  | (i, d) :: asg, σ, ro, vs, S, r => by
    have r : RepA K F vs (d :: asg.map (·.2)) := r
    cases r with
    | cons h1 r1 => exact Sl.sets (σ := σ.set i (some _)) (ro := ro.set i (some d)) (Sl.set S i h1) r1
def WG (X : Cx) (tg : Expr) : TG := fun v σ H Q => ∀ (pins : List (Addr × Obj)) (s : Shared) (u : Value), Inv X pins σ H s → RelV v u → wpAny (model X.prog X.w) X.A (assign tg X.env u) (fun _ s' => ∃ σ' H', Inv X pins σ' H' s' ∧ Q σ' H') X.xe s
theorem pg_self : PG X tg (WG X tg) := ⟨fun pins s _ _ _ u _ I r h => h pins s u I r⟩
theorem PG.wg {t : TG} (h : PG X tg t) {v : V} {σ : L2.St} {H : Hp} {Q : L2.St → Hp → Prop} (q : t v σ H Q) : WG X tg v σ H Q := fun pins s u I r => h.run pins s σ H v u Q I r q
def WGs (X : Cx) (ts : List Expr) : TGs := fun vs σ H Q => ∀ (pins : List (Addr × Obj)) (s : Shared) (us : List Value), Inv X pins σ H s → Vals vs us → wpAny (model X.prog X.w) X.A (assignInOrder ((assignEach ts X.env).map (·.2)) us) (fun _ s' => ∃ σ' H', Inv X pins σ' H' s' ∧ Q σ' H') X.xe s
theorem pgs_self {ts : List Expr} : PGs X ts (WGs X ts) := ⟨fun pins s _ _ _ us _ I r h => h pins s us I r⟩
theorem PGs.wgs {ts : List Expr} {t : TGs} (h : PGs X ts t) {vs : List V} {σ : L2.St} {H : Hp} {Q : L2.St → Hp → Prop} (q : t vs σ H Q) : WGs X ts vs σ H Q := fun pins s us I r => h.run pins s σ H vs us Q I r q
/-- storing the datum d through the target makes these stores -/
def DG (X : Cx) (tg : Expr) (d : D) (asg : List (Nat × D)) : Prop := ∀ (v : V) (σ : L2.St) (F H : Hp), Sub F H → Rep X.K F v d → ∀ Q : L2.St → Hp → Prop, (∀ vs, RepA X.K F vs (asg.map (·.2)) → Q (setsV σ (asg.map (·.1)) vs) H) → WG X tg v σ H Q
def DGs (X : Cx) (ts : List Expr) (ds : List D) (asg : List (Nat × D)) : Prop := ∀ (vs : List V) (σ : L2.St) (F H : Hp), Sub F H → RepA X.K F vs ds → ∀ Q : L2.St → Hp → Prop, (∀ ws, RepA X.K F ws (asg.map (·.2)) → Q (setsV σ (asg.map (·.1)) ws) H) → WGs X ts vs σ H Q
theorem dg_name (i : Nat) (hN : X.N.Nodup) (hi : X.N[i]? = some x) (hx : Loc X.env.scope x) (hf : X.fn x = true ∨ X.env.scope.names.lookup x = some .local) : DG X (.Name x pos) d [(i, d)] := fun v σ F H s r Q q =>
  PG.wg (pg_name hN hi hx hf) (q [v] (.cons r .nil))
theorem dgs_nil : DGs X [] [] [] := fun vs σ F H s r Q q => by
  cases r
  exact PGs.wgs pgs_nil ⟨rfl, q [] .nil⟩
theorem dgs_cons {asg bsg : List (Nat × D)} (h1 : DG X e d asg) (h2 : DGs X es ds' bsg) (hs : (assignEach (e :: es) X.env).map (·.2) = assign e X.env :: (assignEach es X.env).map (·.2) := by kernel_rfl) : DGs X (e :: es) (d :: ds') (asg ++ bsg) := fun vs σ F H s r Q q => by
  cases r with
  | cons r1 r2 =>
    refine PGs.wgs (pgs_cons pg_self pgs_self hs) ⟨_, _, rfl, h1 _ σ F H s r1 _ fun us ru => h2 _ _ F H s r2 _ fun ws rw' => ?_⟩
    have hl : (asg.map (·.1)).length = us.length := by rw [ru.length, List.length_map, List.length_map]
    rw [← setsV_append _ _ _ _ _ hl, ← List.map_append]
    exact q (us ++ ws) (by rw [List.map_append]; exact ru.append rw')
theorem dg_tup {k : Nat} {n : Nat} {asg : List (Nat × D)} (hc : X.calm = true) (h : DGs X es ds' asg) (hl : ds'.length = n := by rfl) (hn : (assignEach es X.env).length = n := by kernel_rfl) (hst : (assignEach es X.env).findIdx? (·.1) = none := by kernel_rfl) : DG X (.Tuple es k pos) (.tup ds') asg := fun v σ F H s r Q q => by
  cases r with
  | tup h1 a1 => exact PG.wg (pg_tup hc pgs_self hn hst) ⟨_, _, rfl, sub_t s h1, by rw [a1.length]; exact hl, h _ σ F H s a1 Q q⟩

/-! ### list comprehensions -/
def wipeD (ro : List (Option D)) : List Nat → List (Option D)
  | [] => ro
  | v :: vs => (wipeD ro vs).set v none
theorem wipeD_length (ro : List (Option D)) : ∀ vs : List Nat, (wipeD ro vs).length = ro.length
  | [] => rfl
  | v :: vs => by unfold wipeD; rw [List.length_set, wipeD_length ro vs]
theorem Sl.wipe {K : PySem.W.Frag} {F : Hp} {σ : L2.St} (S : Sl K F σ ro) : ∀ vs : List Nat, Sl K F (L2.wipe σ vs) (wipeD ro vs)
  | [] => S
  | v :: vs => by
    have S' := Sl.wipe S vs
    refine ⟨by unfold L2.wipe wipeD; rw [List.length_set, List.length_set]; exact S'.len, fun j d' h => ?_⟩
    unfold wipeD at h
    unfold L2.wipe
    by_cases e : j = v
    · subst e
      have hl : j < (wipeD ro vs).length := by have := some_lt h; rwa [List.length_set] at this
      rw [List.getElem?_set_self hl] at h; cases h
    · rw [List.getElem?_set_ne (Ne.symm e)] at h ⊢
      exact S'.at_ j d' h
theorem wipe_get (σ : L2.St) (j : Nat) : ∀ vs : List Nat, (L2.wipe σ vs)[j]? = if j ∈ vs then (σ[j]?).map (fun _ => none) else σ[j]?
  | [] => by simp [L2.wipe]
  | v :: vs => by
    unfold L2.wipe
    by_cases e : j = v
    · subst e
      rw [if_pos List.mem_cons_self]
      by_cases hl : j < σ.length
      · rw [List.getElem?_set_self (by rw [wipe_length]; exact hl), List.getElem?_eq_getElem hl]; rfl
      · rw [List.getElem?_eq_none (by rw [List.length_set, wipe_length]; omega), List.getElem?_eq_none (by omega)]; rfl
    · rw [List.getElem?_set_ne (Ne.symm e), wipe_get σ j vs]
      by_cases hm : j ∈ vs
      · rw [if_pos hm, if_pos (List.mem_cons_of_mem _ hm)]
      · rw [if_neg hm, if_neg (fun z => (List.mem_cons.mp z).elim e hm)]
theorem wipe_sets (σ : L2.St) (is : List Nat) (vs : List V) (ws : List Nat) (h : ∀ i ∈ is, i ∈ ws) : L2.wipe (setsV (L2.wipe σ ws) is vs) ws = L2.wipe σ ws := by
  refine List.ext_getElem? fun j => ?_
  rw [wipe_get]
  by_cases hm : j ∈ ws
  · rw [if_pos hm]
    have hl : (setsV (L2.wipe σ ws) is vs).length = σ.length := by rw [setsV_length, wipe_length]
    rw [wipe_get, if_pos hm]
    by_cases hj : j < σ.length
    · rw [List.getElem?_eq_getElem (by rw [hl]; exact hj), List.getElem?_eq_getElem hj]; rfl
    · rw [List.getElem?_eq_none (by rw [hl]; omega), List.getElem?_eq_none (by omega)]
  · rw [if_neg hm, setsV_ne _ _ _ _ (fun z => hm (h j z))]
/-- tests behind a for -/
def WTs (X : Cx) (ifs : List Expr) : TT := fun σ H Q => ∀ (pins : List (Addr × Obj)) (s : Shared), Inv X pins σ H s →
  wpAny (model X.prog X.w) X.A (forIn ifs true fun c r => if r = true then do let ok ← isTrue c X.env (eval c X.env); pure (ForInStep.yield ok) else pure (ForInStep.yield r)) (TP X pins σ Q) X.xe s
def DTs (X : Cx) (ifs : List Expr) (ro : List (Option D)) (b : Bool) : Prop := ∀ (σ : L2.St) (F H : Hp), Sl X.K F σ ro → Sub F H → ∀ Q : Bool → Hp → Prop, (∀ F' H', Grow F H F' H' → Q b H') → WTs X ifs σ H Q
theorem dts_nil : DTs X [] ro true := fun σ F H S hs Q q => fun pins s I => pts_nil.run pins s σ H Q I (q F H (.refl hs))
theorem dts_one (h : DT X c ro ba) : DTs X [c] ro ba := fun σ F H S hs Q q => fun pins s I => (pts_one pt_self).run pins s σ H Q I (h σ F H S hs Q q)
theorem take_filter_succ {α : Type} {l : List α} {i : Nat} {y : α} (h : l[i]? = some y) : l.take (i + 1) = l.take i ++ [y] := by
  rw [List.take_add_one, h]; rfl
theorem lc_of {elt iter : Expr} {ifs : List Expr} {scope : Scope} {own : List (Str × Nat)} {asg : D → List (Nat × D)} {keep : D → Bool} {g : D → D} (hc : X.calm = true) (hN : X.N.Nodup) (hi : DI X tg iter ro its) (ok : BlkOk X.N X.env.scope scope own) (hl : its.length < sizeLine)
    (step : ∀ (s : Shared) (H : Hp) (C : Addr) (cl : List (Str × Addr)) (fp : List Addr) (i : Nat) (d : D), its[i]? = some d →
      DG (X.blk s H scope (compEnvC scope cl C X.env) fp) tg d (asg d) ∧ (∀ q ∈ asg d, q.1 ∈ own.map (·.2)) ∧
      DTs (X.blk s H scope (compEnvC scope cl C X.env) fp) ifs (setsD (wipeD ro (own.map (·.2))) (asg d)) (keep d) ∧
      (keep d = true → DE (X.blk s H scope (compEnvC scope cl C X.env) fp) elt (setsD (wipeD ro (own.map (·.2))) (asg d)) (g d)))
    :
    ∃ (wi : TI) (gg : TG) (tt : TT) (te : TE), PI X tg iter wi ∧ (∀ (s : Shared) (H : Hp) (C : Addr) (cl : List (Str × Addr)) (fp : List Addr), PG (X.blk s H scope (compEnvC scope cl C X.env) fp) tg gg) ∧ (∀ (s : Shared) (H : Hp) (C : Addr) (cl : List (Str × Addr)) (fp : List Addr), PTs (X.blk s H scope (compEnvC scope cl C X.env) fp) ifs tt) ∧
      (∀ (s : Shared) (H : Hp) (C : Addr) (cl : List (Str × Addr)) (fp : List Addr), PE (X.blk s H scope (compEnvC scope cl C X.env) fp) elt te) ∧ ∀ (σ : L2.St) (F H : Hp), Sl X.K F σ ro → Sub F H → ∀ Q : VK, GiveN X.K (.lst ((its.filter keep).map g)) F H Q → tLc wi gg tt te (own.map (·.2)) σ H Q := by
  obtain ⟨wi, hpi, qi⟩ := hi
  let gg : TG := fun v σ H Q => ∀ (s : Shared) (H0 : Hp) (C : Addr) (cl : List (Str × Addr)) (fp : List Addr), WG (X.blk s H0 scope (compEnvC scope cl C X.env) fp) tg v σ H Q
  let te : TE := fun σ H Q => ∀ (s : Shared) (H0 : Hp) (C : Addr) (cl : List (Str × Addr)) (fp : List Addr), WE (X.blk s H0 scope (compEnvC scope cl C X.env) fp) elt σ H Q
  let tt : TT := fun σ H Q => ∀ (s : Shared) (H0 : Hp) (C : Addr) (cl : List (Str × Addr)) (fp : List Addr), WTs (X.blk s H0 scope (compEnvC scope cl C X.env) fp) ifs σ H Q
  have hg : ∀ (s : Shared) (H : Hp) (C : Addr) (cl : List (Str × Addr)) (fp : List Addr), PG (X.blk s H scope (compEnvC scope cl C X.env) fp) tg gg := fun s H C cl fp => ⟨fun pins s' σ H' v u Q I r h => h s H C cl fp pins s' u I r⟩
  have he : ∀ (s : Shared) (H : Hp) (C : Addr) (cl : List (Str × Addr)) (fp : List Addr), PE (X.blk s H scope (compEnvC scope cl C X.env) fp) elt te := fun s H C cl fp => ⟨fun pins s' σ H' Q I h => h s H C cl fp pins s' I⟩
  have ht : ∀ (s : Shared) (H : Hp) (C : Addr) (cl : List (Str × Addr)) (fp : List Addr), PTs (X.blk s H scope (compEnvC scope cl C X.env) fp) ifs tt := fun s H C cl fp => ⟨fun pins s' σ H' Q I h => h s H C cl fp pins s' I⟩
  refine ⟨wi, gg, tt, te, hpi, hg, ht, he, ?_⟩
  intro σ F H S hs' Q q
  show wi σ H fun J H1 => ∀ D, H1 D = none → _
  refine qi σ F H S hs' _ fun J F1 H1 g1 W A hA => ?_
  -- the invariant: i items are taken
  refine ⟨fun i m H2 => m = its.length - i ∧ i ≤ its.length ∧ ∃ F2 xs, Sub F1 F2 ∧ Grow F1 H1 F2 H2 ∧ F2 A = none ∧ H2 A = some (.lst xs) ∧ RepA X.K F2 xs (((its.take i).filter keep).map g),
    ⟨its.length, by rw [Nat.sub_zero], Nat.zero_le _, F1, [], .rfl, ⟨.rfl, sub_upd g1.fh (g1.fh.none hA), Sub.upd hA, fun a o h n => by rw [n] at h; cases h⟩, g1.fh.none hA, upd_same, .nil⟩, ?_⟩
  rintro i m H2 ⟨rfl, hi, F2, xs, s2, g2, nA, eA, r2⟩
  by_cases hlt : i < its.length
  · refine .inr ⟨W.go i H2 (s2.trans g2.fh) hlt, fun H3 => i + 1 ≤ its.length ∧ ∃ F3 xs, Sub F1 F3 ∧ Grow F1 H1 F3 H3 ∧ F3 A = none ∧ H3 A = some (.lst xs) ∧ RepA X.K F3 xs (((its.take (i + 1)).filter keep).map g), fun H3 ⟨h1, h2⟩ => ⟨its.length - (i + 1), by omega, rfl, h1, h2⟩, fun x H3 hy => ?_⟩
    have ei : its[i]? = some its[i] := List.getElem?_eq_getElem hlt
    obtain ⟨F3, g3, rx⟩ := W.yld i its[i] H2 x H3 F2 s2 g2.fh ei hy
    have keepA : ∀ {F4 H4 F5 H5 : Hp}, Grow F4 H4 F5 H5 → F4 A = none → H4 A = some (.lst xs) → F5 A = none ∧ H5 A = some (.lst xs) := fun {F4 H4 F5 H5} gg n e => by
      refine ⟨?_, gg.hh _ _ e⟩
      cases z : F5 A with
      | none => rfl
      | some u =>
        rcases gg.new A u z n with y | y
        · rw [e] at y; cases y
        · have e5 := gg.fh A u z
          rw [gg.hh A _ e] at e5
          cases e5; cases y
    obtain ⟨n3, e3⟩ := keepA g3 nA eA
    have S3 : Sl X.K F3 (L2.wipe σ (own.map (·.2))) (wipeD ro (own.map (·.2))) := ((((S.mono g1.ff).mono s2).mono g3.ff)).wipe _
    have takeE := take_filter_succ ei
    intro s H0 C cl fp
    refine (step s H0 C cl fp i its[i] ei).1 x _ F3 H3 g3.fh rx _ fun vs rvs => ?_
    refine ⟨wipe_sets σ _ _ _ (fun j hj => ?_), ?_⟩
    · obtain ⟨p, hp, rfl⟩ := List.mem_map.mp hj
      exact (step s H0 C cl fp i its[i] ei).2.1 p hp
    have S4 := S3.sets rvs
    have done : ∀ (b : Bool) (F4 H4 : Hp), b = keep its[i] → Grow F3 H3 F4 H4 → (if b = true then te (setsV (L2.wipe σ (own.map (·.2))) ((asg its[i]).map (·.1)) vs) H4 (fun y H5 => ∃ acc, H5 A = some (.lst acc) ∧ acc.length < sizeLine ∧
        (i + 1 ≤ its.length ∧ ∃ F3 xs, Sub F1 F3 ∧ Grow F1 H1 F3 (upd H5 A (.lst (acc ++ [y]))) ∧ F3 A = none ∧ (upd H5 A (.lst (acc ++ [y]))) A = some (.lst xs) ∧ RepA X.K F3 xs (((its.take (i + 1)).filter keep).map g)))
        else (i + 1 ≤ its.length ∧ ∃ F3 xs, Sub F1 F3 ∧ Grow F1 H1 F3 H4 ∧ F3 A = none ∧ H4 A = some (.lst xs) ∧ RepA X.K F3 xs (((its.take (i + 1)).filter keep).map g))) := fun b F4 H4 eb g4 => by
      obtain ⟨n4, e4⟩ := keepA g4 n3 e3
      cases b with
      | true =>
        rw [if_pos rfl]
        intro s H0 C cl fp
        refine (step s H0 C cl fp i its[i] ei).2.2.2 eb.symm _ F4 H4 (S4.mono g4.ff) g4.fh _ fun y F5 H5 g5 ry => ?_
        obtain ⟨n5, e5⟩ := keepA g5 n4 e4
        have gA : Grow F1 H1 F5 H5 := ((g2.trans g3).trans g4).trans g5
        have lx : xs.length ≤ i := by
          rw [r2.length, List.length_map]
          exact Nat.le_trans (List.length_filter_le _ _) (by rw [List.length_take]; omega)
        refine ⟨xs, e5, by omega, hlt, F5, xs ++ [y], gA.ff, ⟨gA.ff, fun a o h => ?_, fun a o h => ?_, gA.new⟩, n5, upd_same, ?_⟩
        · rw [upd_ne (ne_of_none h n5)]; exact gA.fh a o h
        · have : a ≠ A := ne_of_none h hA
          rw [upd_ne this]; exact gA.hh a o h
        · rw [takeE, List.filter_append, List.map_append]
          refine RepA.append (((r2.mono g3.ff).mono g4.ff).mono g5.ff) ?_
          rw [List.filter_cons, if_pos eb.symm]
          exact .cons ry .nil
      | false =>
        rw [if_neg Bool.false_ne_true]
        refine ⟨hlt, F4, xs, (s2.trans g3.ff).trans g4.ff, (g2.trans g3).trans g4, n4, e4, ?_⟩
        rw [takeE, List.filter_append, List.map_append, List.filter_cons, if_neg (by rw [← eb]; exact Bool.false_ne_true)]
        show RepA X.K F4 xs (_ ++ [])
        rw [List.append_nil]
        exact (r2.mono g3.ff).mono g4.ff
    intro s H0 C cl fp
    exact (step s H0 C cl fp i its[i] ei).2.2.1 _ F3 H3 S4 g3.fh _ fun F4 H4 g4 => done _ F4 H4 rfl g4
  · have e : i = its.length := by omega
    subst e
    refine .inl ⟨W.stop H2 (s2.trans g2.fh), ?_⟩
    rw [List.take_length] at r2
    exact q A F2 H2 (g1.trans g2) (g1.hh.none hA) nA ⟨xs, eA, r2⟩
theorem dn_lc {elt iter : Expr} {ifs : List Expr} {scope : Scope} {own : List (Str × Nat)} {asg : D → List (Nat × D)} {keep : D → Bool} {g : D → D} (hc : X.calm = true) (hN : X.N.Nodup) (hi : DI X tg iter ro its) (ok : BlkOk X.N X.env.scope scope own) (hl : its.length < sizeLine)
    (step : ∀ (s : Shared) (H : Hp) (C : Addr) (cl : List (Str × Addr)) (fp : List Addr) (i : Nat) (d : D), its[i]? = some d →
      DG (X.blk s H scope (compEnvC scope cl C X.env) fp) tg d (asg d) ∧ (∀ q ∈ asg d, q.1 ∈ own.map (·.2)) ∧
      DTs (X.blk s H scope (compEnvC scope cl C X.env) fp) ifs (setsD (wipeD ro (own.map (·.2))) (asg d)) (keep d) ∧
      (keep d = true → DE (X.blk s H scope (compEnvC scope cl C X.env) fp) elt (setsD (wipeD ro (own.map (·.2))) (asg d)) (g d)))
    (hs : ∀ x, foldedSetIterable iter X.env x = pure x := by intro _; rfl) : DN X (.ListComp elt [⟨tg, iter, ifs, 0⟩] scope pos) ro (.lst ((its.filter keep).map g)) := by
  obtain ⟨wi, gg, tt, te, hpi, hg, ht, he, k⟩ := lc_of hc hN hi ok hl step
  exact fun σ F H S hs' Q q => PE.we (pe_lc hc hN hpi ok hg ht he hs) (k σ F H S hs' Q q)
end
end Ef
set_option maxRecDepth 100000
set_option maxHeartbeats 4000000
/-! EfF: statements over data: the slots (data, or a container that is being filled), the containers' contents. -/
namespace Ef
open PySem L2 C8 RZ PyProof.Rows PySem.Spec

inductive SD where
  /-- not known -/
  | un
  | d (d : D)
  /-- the n-th container -/
  | c (n : Nat)
inductive CD where
  | dat (d : D)
  /-- a container that stands still for a while (locked) -/
  | raw (o : HO)
  /-- a container at a known place (an object that is being made) -/
  | at (x : Addr) (d : D)
def CellOk (K : PySem.W.Frag) (F H : Hp) (a : Addr) : CD → Prop
  | .dat d => CellIs K F H a d
  | .raw o => H a = some o ∧ isT o = false
  | .at x d => a = x ∧ CellIs K F H a d
def SlotIs (K : PySem.W.Frag) (F : Hp) (as : List Addr) (σ : L2.St) (i : Nat) : SD → Prop
  | .un => True
  | .d d => ∃ v, σ[i]? = some (some v) ∧ Rep K F v d
  | .c n => ∃ a, as[n]? = some a ∧ σ[i]? = some (some (.ref a))
/-- the state: F0, H0 at the def's entry -/
structure StA (K : PySem.W.Frag) (F0 H0 F H : Hp) (σ : L2.St) (ρ : List SD) (cs : List CD) (as : List Addr) : Prop where
  grow : Grow F0 H0 F H
  len : σ.length = ρ.length
  slot : ∀ (i : Nat) s, ρ[i]? = some s → SlotIs K F as σ i s
  cell : ∀ (n : Nat) c, cs[n]? = some c → ∃ a, as[n]? = some a ∧ F a = none ∧ H0 a = none ∧ CellOk K F H a c
  alen : as.length = cs.length
  nd : as.Nodup
def St (K : PySem.W.Frag) (F0 H0 F H : Hp) (σ : L2.St) (ρ : List SD) (cs : List CD) : Prop := ∃ as, StA K F0 H0 F H σ ρ cs as

def coldS : SD → Option D
  | .d d => some d
  | _ => none
def coldV (ρ : List SD) : List (Option D) := ρ.map coldS
def datC : Option CD → Option D
  | some (.dat d) => some d
  | some (.at _ d) => some d
  | _ => none
def hotS (cs : List CD) : SD → Option D
  | .d d => some d
  | .c n => datC cs[n]?
  | .un => none
def hotV (cs : List CD) (ρ : List SD) : List (Option D) := ρ.map (hotS cs)

section
variable {K : PySem.W.Frag} {F0 H0 F H F' H' : Hp} {σ : L2.St} {ρ : List SD} {cs : List CD} {as : List Addr} {d : D}
theorem CellOk.there {a : Addr} : ∀ {c : CD}, CellOk K F H a c → ∃ o, H a = some o ∧ isT o = false
  | .dat _, h => CellIs.there h
  | .raw o, ⟨h, t⟩ => ⟨o, h, t⟩
  | .at _ _, h => CellIs.there h.2
theorem CellOk.mono {a : Addr} (s : Sub F F') (t : Sub H H') : ∀ {c : CD}, CellOk K F H a c → CellOk K F' H' a c
  | .dat _, h => CellIs.mono s t h
  | .raw o, ⟨h, q⟩ => ⟨t _ _ h, q⟩
  | .at _ _, h => ⟨h.1, CellIs.mono s t h.2⟩
theorem SlotIs.mono {i : Nat} (s : Sub F F') : ∀ {x : SD}, SlotIs K F as σ i x → SlotIs K F' as σ i x
  | .un, _ => trivial
  | .d _, ⟨v, e, r⟩ => ⟨v, e, r.mono s⟩
  | .c _, h => h
/-- behind a step -/
theorem StA.step (S : StA K F0 H0 F H σ ρ cs as) (g : Grow F H F' H') : StA K F0 H0 F' H' σ ρ cs as := by
  refine ⟨S.grow.trans g, S.len, fun i s h => (S.slot i s h).mono g.ff, fun n c h => ?_, S.alen, S.nd⟩
  obtain ⟨a, e, fa, h0, ci⟩ := S.cell n c h
  refine ⟨a, e, ?_, h0, ci.mono g.ff g.hh⟩
  cases z : F' a with
  | none => rfl
  | some u =>
    obtain ⟨o, e1, t⟩ := ci.there
    rcases g.new a u z fa with y | y
    · rw [e1] at y; cases y
    · have e2 := g.fh a u z
      rw [g.hh a o e1] at e2
      cases e2
      rw [t] at y; cases y
theorem StA.cold (S : StA K F0 H0 F H σ ρ cs as) : Sl K F σ (coldV ρ) := by
  refine ⟨by unfold coldV; rw [List.length_map, S.len], fun i d h => ?_⟩
  unfold coldV at h
  rw [List.getElem?_map] at h
  cases e : ρ[i]? with
  | none => rw [e] at h; cases h
  | some s =>
    rw [e] at h
    have q := S.slot i s e
    cases s with
    | un => cases h
    | d d' => cases h; exact q
    | c n => cases h
theorem CellIs.hot {a : Addr} (s : Sub F H) : ∀ {c : D}, CellIs K F H a c → Rep K H (.ref a) c
  | .lst _, ⟨xs, h, r⟩ => .lst h (r.mono s)
  | .dic _, h => .dic h
  | .obj _ _, ⟨dx, vs, h, r⟩ => .obj h (r.mono s)
theorem StA.hot (S : StA K F0 H0 F H σ ρ cs as) : Sl K H σ (hotV cs ρ) := by
  refine ⟨by unfold hotV; rw [List.length_map, S.len], fun i d h => ?_⟩
  unfold hotV at h
  rw [List.getElem?_map] at h
  cases e : ρ[i]? with
  | none => rw [e] at h; cases h
  | some s =>
    rw [e] at h
    have h : hotS cs s = some d := Option.some.inj h
    have q := S.slot i s e
    cases s with
    | un => cases h
    | d d' => cases h; obtain ⟨v, e, r⟩ := q; exact ⟨v, e, r.mono S.grow.fh⟩
    | c n =>
      obtain ⟨a, ea, es⟩ := q
      have h : datC cs[n]? = some d := h
      cases ec : cs[n]? with
      | none => rw [ec] at h; cases h
      | some c =>
        rw [ec] at h
        cases c with
        | raw o => cases h
        | dat d' =>
          cases h
          obtain ⟨a', ea', _, _, ci⟩ := S.cell n _ ec
          rw [ea] at ea'; cases ea'
          exact ⟨_, es, CellIs.hot S.grow.fh ci⟩
        | «at» x d' =>
          cases h
          obtain ⟨a', ea', _, _, ci⟩ := S.cell n _ ec
          rw [ea] at ea'; cases ea'
          exact ⟨_, es, CellIs.hot S.grow.fh ci.2⟩

/-! ### pure data: no container within -/
mutual
def D.pure : D → Bool
  | .v _ => true
  | .tup ds => D.pures ds
  | .tix ds => D.pures ds
  | _ => false
def D.pures : List D → Bool
  | [] => true
  | d :: ds => D.pure d && D.pures ds
end
theorem pures_all : ∀ {ds : List D}, (∀ d ∈ ds, d.pure = true) → D.pures ds = true
  | [], _ => rfl
  | d :: ds, h => by
    show (D.pure d && D.pures ds) = true
    rw [h d List.mem_cons_self, pures_all (fun d' m => h d' (List.mem_cons_of_mem _ m))]; rfl
/-- the frozen part with the tuples of G -/
def coolF (F G : Hp) : Hp := fun a => match F a with
  | some o => some o
  | none => match G a with
    | some o => if isT o = true then some o else none
    | none => none
theorem coolF_sub {F G : Hp} : Sub F (coolF F G) := fun a o h => by unfold coolF; rw [h]
theorem coolF_T {F G : Hp} (s : Sub F H) (t : Sub G H) {a : Addr} {o : HO} (h : G a = some o) (q : isT o = true) : coolF F G a = some o := by
  unfold coolF
  cases e : F a with
  | some u =>
    have e1 := s a u e
    rw [t a o h] at e1
    cases e1; rfl
  | none => simp only [h, q, if_true]
mutual
theorem Rep.cool {F G : Hp} (s : Sub F H) (t : Sub G H) : ∀ {d : D} {v : V}, Rep K G v d → d.pure = true → Rep K (coolF F G) v d
  | .v _, _, .v _, _ => .v _
  | .tup ds, _, .tup h r, p => by
    refine .tup ?_ (RepA.cool s t r p)
    rcases h with (h | ⟨o, h⟩) | h
    · exact .inl (.inl (coolF_T s t h rfl))
    · exact .inl (.inr ⟨o, coolF_T s t h rfl⟩)
    · exact .inr h
  | .tix ds, _, .tix h n r, p => .tix (coolF_T s t h rfl) n (RepA.cool s t r p)
theorem RepA.cool {F G : Hp} (s : Sub F H) (t : Sub G H) : ∀ {ds : List D} {vs : List V}, RepA K G vs ds → D.pures ds = true → RepA K (coolF F G) vs ds
  | [], _, .nil, _ => .nil
  | d :: ds, _, .cons h r, p => by
    have p' : (D.pure d && D.pures ds) = true := p
    rw [Bool.and_eq_true_iff] at p'
    exact .cons (Rep.cool s t h p'.1) (RepA.cool s t r p'.2)
end
theorem coolF_grow {F G : Hp} (s : Sub F H) (g : Grow H H G H') : Grow F H (coolF F G) H' := by
  refine ⟨coolF_sub, fun a o h => ?_, g.hh, fun a o h n => .inr ?_⟩
  · unfold coolF at h
    cases e : F a with
    | some u => rw [e] at h; cases h; exact g.hh a _ (s a _ e)
    | none =>
      simp only [e] at h
      cases e2 : G a with
      | none => rw [e2] at h; cases h
      | some u =>
        simp only [e2] at h
        by_cases q : isT u = true
        · rw [if_pos q] at h; cases h; exact g.fh a _ e2
        · rw [if_neg q] at h; cases h
  · unfold coolF at h
    simp only [n] at h
    cases e2 : G a with
    | none => rw [e2] at h; cases h
    | some u =>
      simp only [e2] at h
      by_cases q : isT u = true
      · rw [if_pos q] at h; cases h; exact q
      · rw [if_neg q] at h; cases h
/-- a container whose contents are pure -/
def pureC : D → Bool
  | .lst ds => D.pures ds
  | .dic _ => true
  | _ => false
theorem CellIs.cool {F G : Hp} (s : Sub F H) (t : Sub G H) {p : Addr} {H1 : Hp} : ∀ {c : D}, CellIs K G H1 p c → pureC c = true → CellIs K (coolF F G) H1 p c
  | .lst _, ⟨xs, h, r⟩, q => ⟨xs, h, r.cool s t q⟩
  | .dic _, h, _ => h
end

/-! ### a value, a new container, a test at a state -/
section
variable {X : Cx} {e e1 e2 a b c o tg : Expr} {es : List Expr} {ρ : List SD} {cs : List CD} {d da db' dc : D} {pos apos cpos p : Pos} {ba bb : Bool} {x m : Str}
def EV (X : Cx) (e : Expr) (ρ : List SD) (cs : List CD) (d : D) : Prop := ∀ (F0 H0 F H : Hp) (σ : L2.St) (as : List Addr), StA X.K F0 H0 F H σ ρ cs as → ∀ Q : VK, Give X.K d F H Q → WE X e σ H Q
def EN (X : Cx) (e : Expr) (ρ : List SD) (cs : List CD) (d : D) : Prop := ∀ (F0 H0 F H : Hp) (σ : L2.St) (as : List Addr), StA X.K F0 H0 F H σ ρ cs as → ∀ Q : VK, GiveN X.K d F H Q → WE X e σ H Q
def ET (X : Cx) (e : Expr) (ρ : List SD) (cs : List CD) (b : Bool) : Prop := ∀ (F0 H0 F H : Hp) (σ : L2.St) (as : List Addr), StA X.K F0 H0 F H σ ρ cs as → ∀ Q : Bool → Hp → Prop, (∀ F' H', Grow F H F' H' → Q b H') → WT X e σ H Q
/-- the containers not read -/
theorem ev (h : DE X e (coldV ρ) d) : EV X e ρ cs d := fun F0 H0 F H σ as S Q q => h σ F H S.cold S.grow.fh Q q
theorem en (h : DN X e (coldV ρ) d) : EN X e ρ cs d := fun F0 H0 F H σ as S Q q => h σ F H S.cold S.grow.fh Q q
/-- the containers read: what comes out is pure -/
theorem evh (h : DE X e (hotV cs ρ) d) (p : d.pure = true := by rfl) : EV X e ρ cs d := fun F0 H0 F H σ as S Q q =>
  h σ H H S.hot .rfl Q fun v G H' g r => q v (coolF F G) H' (coolF_grow S.grow.fh g) (r.cool (S.grow.fh.trans g.hh) g.fh p)
theorem enh (h : DN X e (hotV cs ρ) d) (p : pureC d = true := by rfl) : EN X e ρ cs d := fun F0 H0 F H σ as S Q q =>
  h σ H H S.hot .rfl Q fun a G H' g ha ga ci => by
    refine q a (coolF F G) H' (coolF_grow S.grow.fh g) ha ?_ (ci.cool (S.grow.fh.trans g.hh) g.fh p)
    unfold coolF
    rw [S.grow.fh.none ha]
    simp only [ga]
theorem et (h : DT X e (hotV cs ρ) ba) : ET X e ρ cs ba := fun F0 H0 F H σ as S Q q =>
  h σ H H S.hot .rfl Q fun G H' g => q (coolF F G) H' (coolF_grow S.grow.fh g)

/-! ### what is wanted behind a block -/
inductive RV where
  | dat (d : D)
  | new (c : D)
structure Po where
  nx : List SD → List CD → Prop
  rt : RV → Prop
  bk : List SD → List CD → Prop := fun _ _ => False
  ct : List SD → List CD → Prop := fun _ _ => False
def RetIs (K : PySem.W.Frag) (F0 H0 : Hp) (v : V) (H : Hp) : RV → Prop
  | .dat d => ∃ F, Grow F0 H0 F H ∧ Rep K F v d
  | .new c => ∃ F p, v = .ref p ∧ Grow F0 H0 F H ∧ H0 p = none ∧ F p = none ∧ CellIs K F H p c
structure OkE (K : PySem.W.Frag) (F0 H0 : Hp) (P : Po) (E : Ends) : Prop where
  nx : ∀ (σ : L2.St) (F H : Hp) ρ cs, P.nx ρ cs → St K F0 H0 F H σ ρ cs → E.nx σ H
  rt : ∀ r v (H : Hp), P.rt r → RetIs K F0 H0 v H r → E.rt v H
  bk : ∀ (σ : L2.St) (F H : Hp) ρ cs, P.bk ρ cs → St K F0 H0 F H σ ρ cs → E.bk σ H
  ct : ∀ (σ : L2.St) (F H : Hp) ρ cs, P.ct ρ cs → St K F0 H0 F H σ ρ cs → E.ct σ H
def DS (X : Cx) (st : Stmt) (ρ : List SD) (cs : List CD) (P : Po) : Prop := ∀ (F0 H0 F H : Hp) (σ : L2.St) (E : Ends), St X.K F0 H0 F H σ ρ cs → OkE X.K F0 H0 P E → WS X st E σ H
def DSs (X : Cx) (st : List Stmt) (ρ : List SD) (cs : List CD) (P : Po) : Prop := ∀ (F0 H0 F H : Hp) (σ : L2.St) (E : Ends), St X.K F0 H0 F H σ ρ cs → OkE X.K F0 H0 P E → WSs X st E σ H
variable {P : Po} {st : Stmt} {rest : List Stmt}
theorem dss_nil (h : P.nx ρ cs) : DSs X [] ρ cs P := fun F0 H0 F H σ E S ok => PSs.wss pss_nil (ok.nx σ F H ρ cs h S)
theorem dss_cons (h : DS X st ρ cs { P with nx := fun ρ' cs' => DSs X rest ρ' cs' P }) : DSs X (st :: rest) ρ cs P := fun F0 H0 F H σ E S ok =>
  PSs.wss (pss_cons ps_self pss_self) (h F0 H0 F H σ _ S ⟨fun σ F H ρ cs q S' => q F0 H0 F H σ E S' ok, ok.rt, ok.bk, ok.ct⟩)
theorem dss_one (h : DS X st ρ cs P) : DSs X [st] ρ cs P := fun F0 H0 F H σ E S ok => PSs.wss (pss_one ps_self) (h F0 H0 F H σ _ S ok)
theorem ds_pass (h : P.nx ρ cs) : DS X (.Pass pos) ρ cs P := fun F0 H0 F H σ E S ok => PS.ws ps_pass (ok.nx σ F H ρ cs h S)
theorem ds_break (h : P.bk ρ cs) : DS X (.Break pos) ρ cs P := fun F0 H0 F H σ E S ok => PS.ws ps_break (ok.bk σ F H ρ cs h S)
theorem ds_if {th el : List Stmt} (h : ET X c ρ cs ba) (h1 : ba = true → DSs X th ρ cs P) (h2 : ba = false → DSs X el ρ cs P) : DS X (.If c th el pos) ρ cs P := fun F0 H0 F H σ E S ok => by
  obtain ⟨as, S⟩ := S
  refine PS.ws (ps_if pt_self pss_self pss_self) (h F0 H0 F H σ as S _ fun F' H' g => ?_)
  cases ba with
  | true => rw [if_pos rfl]; exact h1 rfl F0 H0 F' H' σ E ⟨as, S.step g⟩ ok
  | false => rw [if_neg Bool.false_ne_true]; exact h2 rfl F0 H0 F' H' σ E ⟨as, S.step g⟩ ok
theorem ds_ret (h : EV X e ρ cs d) (q : P.rt (.dat d)) : DS X (.Return (some e) pos) ρ cs P := fun F0 H0 F H σ E S ok => by
  obtain ⟨as, S⟩ := S
  exact PS.ws (ps_ret pe_self) (h F0 H0 F H σ as S _ fun v F' H' g r => ok.rt _ v H' q ⟨F', S.grow.trans g, r⟩)
theorem ds_retN (h : EN X e ρ cs d) (q : P.rt (.new d)) : DS X (.Return (some e) pos) ρ cs P := fun F0 H0 F H σ E S ok => by
  obtain ⟨as, S⟩ := S
  exact PS.ws (ps_ret pe_self) (h F0 H0 F H σ as S _ fun a F' H' g ha fa ci => ok.rt _ _ H' q ⟨F', a, rfl, S.grow.trans g, S.grow.hh.none ha, fa, ci⟩)
/-- return x, x a container that was filled -/
theorem ds_retC (i : Nat) {n : Nat} (hr : ρ[i]? = some (.c n)) (hc : cs[n]? = some (.dat d)) (q : P.rt (.new d)) (hN : X.N[i]? = some x) (hv : Vis X.env.scope x) (hd : (x == ("__debug__" : Str)) = false := by kernel_rfl) (hcd : (x == ("__classdict__" : Str)) = false := by kernel_rfl) :
    DS X (.Return (some (.Name x p)) pos) ρ cs P := fun F0 H0 F H σ E S ok => by
  obtain ⟨as, S⟩ := S
  obtain ⟨a, ea, es⟩ := S.slot i _ hr
  obtain ⟨a', ea', fa, h0, ci⟩ := S.cell n _ hc
  rw [ea] at ea'; cases ea'
  exact PS.ws (ps_ret (pe_var hN hv hd hcd)) ⟨_, es, ok.rt _ _ H q ⟨F, a, rfl, S.grow, h0, fa, ci⟩⟩
theorem ds_expr (h : EV X e ρ cs d) (q : P.nx ρ cs) (hs : swapsWith e none pos.line X.env = pure false := by rfl) : DS X (.Expr e pos) ρ cs P := fun F0 H0 F H σ E S ok => by
  obtain ⟨as, S⟩ := S
  exact PS.ws (ps_expr pe_self hs) (h F0 H0 F H σ as S _ fun v F' H' g r => ok.nx σ F' H' ρ cs q ⟨as, S.step g⟩)
theorem ds_never (h : False) : DS X st ρ cs P := h.elim

/-! ### stores to names -/
theorem StA.setD {K : PySem.W.Frag} {F0 H0 F H : Hp} {σ : L2.St} {as : List Addr} (S : StA K F0 H0 F H σ ρ cs as) (i : Nat) {v : V} (r : Rep K F v d) : StA K F0 H0 F H (σ.set i (some v)) (ρ.set i (.d d)) cs as := by
  refine ⟨S.grow, by rw [List.length_set, List.length_set, S.len], fun j s h => ?_, S.cell, S.alen, S.nd⟩
  by_cases e : j = i
  · subst e
    have hl : j < ρ.length := by have := some_lt h; rwa [List.length_set] at this
    rw [List.getElem?_set_self hl] at h
    cases h
    exact ⟨v, List.getElem?_set_self (by rw [S.len]; exact hl), r⟩
  · rw [List.getElem?_set_ne (Ne.symm e)] at h
    have q := S.slot j s h
    cases s with
    | un => trivial
    | d d' => obtain ⟨w, ew, rw'⟩ := q; exact ⟨w, by rw [List.getElem?_set_ne (Ne.symm e)]; exact ew, rw'⟩
    | c n => obtain ⟨a, ea, es⟩ := q; exact ⟨a, ea, by rw [List.getElem?_set_ne (Ne.symm e)]; exact es⟩
/-- a new container takes the last place -/
theorem StA.addC {K : PySem.W.Frag} {F0 H0 F H : Hp} {σ : L2.St} {as : List Addr} {a : Addr} {c : CD} (S : StA K F0 H0 F H σ ρ cs as) (na : a ∉ as) (fa : F a = none) (h0 : H0 a = none) (ci : CellOk K F H a c) : StA K F0 H0 F H σ ρ (cs ++ [c]) (as ++ [a]) := by
  refine ⟨S.grow, S.len, fun j s h => ?_, fun n c' h => ?_, by rw [List.length_append, List.length_append, S.alen]; rfl, ?_⟩
  · have q := S.slot j s h
    cases s with
    | un => trivial
    | d d' => exact q
    | c n =>
      obtain ⟨b, eb, es⟩ := q
      exact ⟨b, by rw [List.getElem?_append_left (some_lt eb)]; exact eb, es⟩
  · by_cases hl : n < cs.length
    · rw [List.getElem?_append_left hl] at h
      obtain ⟨b, eb, q⟩ := S.cell n c' h
      exact ⟨b, by rw [List.getElem?_append_left (some_lt eb)]; exact eb, q⟩
    · have hn : n = cs.length := by
        have := some_lt h
        rw [List.length_append, List.length_singleton] at this
        omega
      subst hn
      rw [List.getElem?_append_right (Nat.le_refl _), Nat.sub_self] at h
      cases h
      exact ⟨a, by rw [List.getElem?_append_right (by rw [S.alen]; exact Nat.le_refl _), S.alen, Nat.sub_self]; rfl, fa, h0, ci⟩
  · rw [List.nodup_append]
    exact ⟨S.nd, List.nodup_cons.mpr ⟨List.not_mem_nil, List.nodup_nil⟩, fun x hx y hy z => by
      rw [List.mem_singleton] at hy
      subst hy; subst z; exact na hx⟩
theorem StA.setC {K : PySem.W.Frag} {F0 H0 F H : Hp} {σ : L2.St} {as : List Addr} (S : StA K F0 H0 F H σ ρ cs as) (i : Nat) {n : Nat} {a : Addr} (ea : as[n]? = some a) : StA K F0 H0 F H (σ.set i (some (.ref a))) (ρ.set i (.c n)) cs as := by
  refine ⟨S.grow, by rw [List.length_set, List.length_set, S.len], fun j s h => ?_, S.cell, S.alen, S.nd⟩
  by_cases e : j = i
  · subst e
    have hl : j < ρ.length := by have := some_lt h; rwa [List.length_set] at this
    rw [List.getElem?_set_self hl] at h
    cases h
    exact ⟨a, ea, List.getElem?_set_self (by rw [S.len]; exact hl)⟩
  · rw [List.getElem?_set_ne (Ne.symm e)] at h
    have q := S.slot j s h
    cases s with
    | un => trivial
    | d d' => obtain ⟨w, ew, rw'⟩ := q; exact ⟨w, by rw [List.getElem?_set_ne (Ne.symm e)]; exact ew, rw'⟩
    | c n => obtain ⟨a, ea, es⟩ := q; exact ⟨a, ea, by rw [List.getElem?_set_ne (Ne.symm e)]; exact es⟩
theorem StA.notin {K : PySem.W.Frag} {F0 H0 F H : Hp} {σ : L2.St} {as : List Addr} {a : Addr} (S : StA K F0 H0 F H σ ρ cs as) (ha : H a = none) : a ∉ as := fun m => by
  obtain ⟨n, hn⟩ := List.mem_iff_getElem?.mp m
  have hl : n < cs.length := by rw [← S.alen]; exact some_lt hn
  obtain ⟨b, eb, _, _, ci⟩ := S.cell n _ (List.getElem?_eq_getElem hl)
  rw [hn] at eb; cases eb
  obtain ⟨o, e1, _⟩ := ci.there
  rw [ha] at e1; cases e1
theorem ds_set (i : Nat) (h : EV X e ρ cs d) (q : P.nx (ρ.set i (.d d)) cs) (hN : X.N.Nodup) (hi : X.N[i]? = some x) (hx : Loc X.env.scope x) (hf : X.fn x = true ∨ X.env.scope.names.lookup x = some .local) (hs : swapsWith e (some (.Name x p)) pos.line X.env = pure false := by rfl) :
    DS X (.Assign [.Name x p] e pos) ρ cs P := fun F0 H0 F H σ E S ok => by
  obtain ⟨as, S⟩ := S
  exact PS.ws (ps_set hN hi hx pe_self hs hf) (h F0 H0 F H σ as S _ fun v F' H' g r => ok.nx _ F' H' _ _ q ⟨as, (S.step g).setD i r⟩)
theorem ds_setN (i : Nat) (h : EN X e ρ cs d) (q : P.nx (ρ.set i (.c cs.length)) (cs ++ [.dat d])) (hN : X.N.Nodup) (hi : X.N[i]? = some x) (hx : Loc X.env.scope x) (hf : X.fn x = true ∨ X.env.scope.names.lookup x = some .local) (hs : swapsWith e (some (.Name x p)) pos.line X.env = pure false := by rfl) :
    DS X (.Assign [.Name x p] e pos) ρ cs P := fun F0 H0 F H σ E S ok => by
  obtain ⟨as, S⟩ := S
  refine PS.ws (ps_set hN hi hx pe_self hs hf) (h F0 H0 F H σ as S _ fun a F' H' g ha fa ci => ok.nx _ F' H' _ _ q ⟨as ++ [a], ((S.step g).addC (c := .dat d) (S.notin ha) fa (S.grow.hh.none ha) ci).setC i ?_⟩)
  rw [List.getElem?_append_right (by rw [S.alen]; exact Nat.le_refl _), S.alen, Nat.sub_self]; rfl
/-- x = [..] on one line -/
theorem ds_setLc {elt iter : Expr} {its : List D} {ifs : List Expr} {scope : Scope} {own : List (Str × Nat)} {asg : D → List (Nat × D)} {keep : D → Bool} {g : D → D} (i : Nat) (hc : X.calm = true) (hN : X.N.Nodup) (hi : DI X tg iter (coldV ρ) its) (ok : BlkOk X.N X.env.scope scope own) (hl : its.length < sizeLine)
    (step : ∀ (s : Shared) (H : Hp) (C : Addr) (cl : List (Str × Addr)) (fp : List Addr) (i : Nat) (d : D), its[i]? = some d →
      DG (X.blk s H scope (compEnvC scope cl C X.env) fp) tg d (asg d) ∧ (∀ q ∈ asg d, q.1 ∈ own.map (·.2)) ∧
      DTs (X.blk s H scope (compEnvC scope cl C X.env) fp) ifs (setsD (wipeD (coldV ρ) (own.map (·.2))) (asg d)) (keep d) ∧
      (keep d = true → DE (X.blk s H scope (compEnvC scope cl C X.env) fp) elt (setsD (wipeD (coldV ρ) (own.map (·.2))) (asg d)) (g d)))
    (q : P.nx (ρ.set i (.c cs.length)) (cs ++ [.dat (.lst ((its.filter keep).map g))])) (hy : X.N[i]? = some x) (hyl : X.env.scope.names.lookup x = some .local)
    (hsw : swapsWith (.ListComp elt [⟨tg, iter, ifs, 0⟩] scope apos) (some (.Name x p)) pos.line X.env = pure true := by rfl)
    (hs : ∀ x, foldedSetIterable iter X.env x = pure x := by intro _; rfl) : DS X (.Assign [.Name x p] (.ListComp elt [⟨tg, iter, ifs, 0⟩] scope apos) pos) ρ cs P := fun F0 H0 F H σ E S ok' => by
  obtain ⟨as, S⟩ := S
  obtain ⟨wi, gg, tt, te, hpi, hg, ht, he, k⟩ := lc_of hc hN hi ok hl step
  exact PS.ws (ps_setLc hc hN hy hyl hsw hpi ok hg ht he hs) (k σ F H S.cold S.grow.fh _ fun a F' H' gr ha fa ci => ok'.nx _ F' H' _ _ q ⟨as ++ [a], ((S.step gr).addC (c := .dat (.lst ((its.filter keep).map g))) (S.notin ha) fa (S.grow.hh.none ha) ci).setC i (by rw [List.getElem?_append_right (by rw [S.alen]; exact Nat.le_refl _), S.alen, Nat.sub_self]; rfl)⟩)
/-- the same, the list a datum at once -/
theorem ds_setLcD {elt iter : Expr} {its : List D} {ifs : List Expr} {scope : Scope} {own : List (Str × Nat)} {asg : D → List (Nat × D)} {keep : D → Bool} {g : D → D} (i : Nat) (hc : X.calm = true) (hN : X.N.Nodup) (hi : DI X tg iter (coldV ρ) its) (ok : BlkOk X.N X.env.scope scope own) (hl : its.length < sizeLine)
    (step : ∀ (s : Shared) (H : Hp) (C : Addr) (cl : List (Str × Addr)) (fp : List Addr) (i : Nat) (d : D), its[i]? = some d →
      DG (X.blk s H scope (compEnvC scope cl C X.env) fp) tg d (asg d) ∧ (∀ q ∈ asg d, q.1 ∈ own.map (·.2)) ∧
      DTs (X.blk s H scope (compEnvC scope cl C X.env) fp) ifs (setsD (wipeD (coldV ρ) (own.map (·.2))) (asg d)) (keep d) ∧
      (keep d = true → DE (X.blk s H scope (compEnvC scope cl C X.env) fp) elt (setsD (wipeD (coldV ρ) (own.map (·.2))) (asg d)) (g d)))
    (q : P.nx (ρ.set i (.d (.lst ((its.filter keep).map g)))) cs) (hy : X.N[i]? = some x) (hyl : X.env.scope.names.lookup x = some .local)
    (hsw : swapsWith (.ListComp elt [⟨tg, iter, ifs, 0⟩] scope apos) (some (.Name x p)) pos.line X.env = pure true := by rfl)
    (hs : ∀ x, foldedSetIterable iter X.env x = pure x := by intro _; rfl) : DS X (.Assign [.Name x p] (.ListComp elt [⟨tg, iter, ifs, 0⟩] scope apos) pos) ρ cs P := fun F0 H0 F H σ E S ok' => by
  obtain ⟨as, S⟩ := S
  obtain ⟨wi, gg, tt, te, hpi, hg, ht, he, k⟩ := lc_of hc hN hi ok hl step
  exact PS.ws (ps_setLc hc hN hy hyl hsw hpi ok hg ht he hs) (k σ F H S.cold S.grow.fh _ (Give.new fun v F' H' gr r => ok'.nx _ F' H' _ _ q ⟨as, (S.step gr).setD i r⟩))
def setsS : List SD → List (Nat × D) → List SD
  | ρ, [] => ρ
  | ρ, (i, d) :: r => setsS (ρ.set i (.d d)) r
theorem StA.sets {K : PySem.W.Frag} {F0 H0 F H : Hp} {as : List Addr} : ∀ {asg : List (Nat × D)} {σ : L2.St} {ρ : List SD} {vs : List V}, StA K F0 H0 F H σ ρ cs as → RepA K F vs (asg.map (·.2)) → StA K F0 H0 F H (setsV σ (asg.map (·.1)) vs) (setsS ρ asg) cs as
  | [], σ, ρ, vs, S, r => by cases vs <;> exact S
  | (i, d) :: asg, σ, ρ, vs, S, r => by
    have r : RepA K F vs (d :: asg.map (·.2)) := r
    cases r with
    | cons h1 r1 => exact StA.sets (σ := σ.set i (some _)) (ρ := ρ.set i (.d d)) (StA.setD S i h1) r1
theorem ds_asg {asg : List (Nat × D)} (h : EV X e ρ cs d) (hg : DG X tg d asg) (q : P.nx (setsS ρ asg) cs) (hs : swapsWithSole [tg] e pos.line X.env = pure false := by rfl) (hw : swappedStores [tg] e X.env = pure none := by rfl)
    (h1 : (assignEach [tg] X.env).map (·.2) = [assign tg X.env] := by kernel_rfl) : DS X (.Assign [tg] e pos) ρ cs P := fun F0 H0 F H σ E S ok => by
  obtain ⟨as, S⟩ := S
  exact PS.ws (ps_asg pe_self pg_self hs hw h1) (h F0 H0 F H σ as S _ fun v F' H' g r => hg v σ F' H' g.fh r _ fun vs rvs => ok.nx _ F' H' _ _ q ⟨as, (S.step g).sets rvs⟩)

/-! ### stores into containers -/
/-- the n-th container is changed -/
theorem StA.put {K : PySem.W.Frag} {F0 H0 F H : Hp} {σ : L2.St} {as : List Addr} {n : Nat} {a : Addr} {ob : HO} {c : CD} (S : StA K F0 H0 F H σ ρ cs as) (ea : as[n]? = some a) (hn : n < cs.length) (ci : CellOk K F (upd H a ob) a c) : StA K F0 H0 F (upd H a ob) σ ρ (cs.set n c) as := by
  obtain ⟨a', ea', fa, h0, ci0⟩ := S.cell n _ (List.getElem?_eq_getElem hn)
  rw [ea] at ea'; cases ea'
  refine ⟨⟨S.grow.ff, sub_upd S.grow.fh fa, sub_upd S.grow.hh h0, S.grow.new⟩, S.len, S.slot, fun m c' h => ?_, by rw [List.length_set]; exact S.alen, S.nd⟩
  by_cases e : m = n
  · subst e
    rw [List.getElem?_set_self hn] at h
    cases h
    exact ⟨a, ea, fa, h0, ci⟩
  · rw [List.getElem?_set_ne (Ne.symm e)] at h
    obtain ⟨b, eb, fb, hb0, cb⟩ := S.cell m c' h
    have nb : b ≠ a := fun z => by
      subst z
      exact e ((List.getElem_inj S.nd).mp ((List.getElem?_eq_some_iff.mp eb).2.trans (List.getElem?_eq_some_iff.mp ea).2.symm))
    refine ⟨b, eb, fb, hb0, ?_⟩
    have keep : ∀ d' : D, CellIs K F H b d' → CellIs K F (upd H a ob) b d' := fun d' cb => by
      cases d' with
      | lst ds => obtain ⟨xs, h1, r⟩ := cb; exact ⟨xs, by rw [upd_ne nb]; exact h1, r⟩
      | dic kvs => have cb : H b = some _ := cb; show upd H a ob b = _; rw [upd_ne nb]; exact cb
      | obj cn fs => obtain ⟨dx, vs, h1, r⟩ := cb; exact ⟨dx, vs, by rw [upd_ne nb]; exact h1, r⟩
      | v _ => exact cb.elim
      | tup _ => exact cb.elim
      | tix _ => exact cb.elim
      | ldic _ => exact cb.elim
      | zst _ => exact cb.elim
    cases c' with
    | raw o => exact ⟨by rw [upd_ne nb]; exact cb.1, cb.2⟩
    | dat d' => exact keep d' cb
    | «at» x d' => exact ⟨cb.1, keep d' cb.2⟩
/-- xs.append(e) -/
theorem ds_append (i : Nat) {n : Nat} {ds : List D} (hr : ρ[i]? = some (.c n)) (hc : cs[n]? = some (.dat (.lst ds))) (h : EV X e ρ cs d) (hl : ds.length < sizeLine) (q : P.nx ρ (cs.set n (.dat (.lst (ds ++ [d]))))) (hN : X.N[i]? = some x) (hv : Vis X.env.scope x)
    (hd : (x == ("__debug__" : Str)) = false := by kernel_rfl) (hcd : (x == ("__classdict__" : Str)) = false := by kernel_rfl)
    (hbase : attributeBase (.Name x p) "append" X.env (eval (.Name x p) X.env) = eval (.Name x p) X.env := by kernel_rfl)
    (hfew : ((backTo cpos (starEach [e] X.env)).all (fun x => !x.1) && (backToKw cpos (keywordEach [] X.env)).all (fun x => x.1.isSome)
      && decide (([e] : List Expr).length + ([] : List Keyword).length + (if ([] : List Keyword).isEmpty then 0 else 1) < 30)) = true := by kernel_rfl)
    (hline : (apos.endLine == cpos.line) = true := by kernel_rfl) (hs : starEach [e] X.env = (false, eval e X.env) :: starEach [] X.env := by kernel_rfl) (hplain : (backTo cpos (starEach [] X.env)).any (·.1) = false := by kernel_rfl)
    (hsw : swapsWith (.Call (.Attribute (.Name x p) "append" apos) [e] [] cpos) none pos.line X.env = pure false := by rfl) :
    DS X (.Expr (.Call (.Attribute (.Name x p) "append" apos) [e] [] cpos) pos) ρ cs P := fun F0 H0 F H σ E S ok => by
  obtain ⟨as, S⟩ := S
  obtain ⟨a, ea, es⟩ := S.slot i _ hr
  obtain ⟨a', ea', fa, h0, ci⟩ := S.cell n _ hc
  rw [ea] at ea'; cases ea'
  obtain ⟨xs, hx, rx⟩ := ci
  refine PS.ws (ps_expr (pe_bm PySem.F.plainAttrs_list PySem.F.slot_list_append PySem.F.type_list_append mt_append (pe_var hN hv hd hcd) (pa_cons pe_self pa_nil hs) hbase hfew hline hs hplain) hsw) ?_
  refine ⟨_, es, .inl ⟨rfl, xs, .inl (.inl hx)⟩, h F0 H0 F H σ as S _ fun v F' H' g r => ?_⟩
  have S' := S.step g
  refine ⟨a, xs, v, rfl, rfl, g.hh _ _ hx, by rw [rx.length]; exact hl, ok.nx σ F' _ _ _ q ⟨as, S'.put ea (some_lt hc) ⟨_, upd_same, (rx.mono g.ff).append (.cons r .nil)⟩⟩⟩
theorem setK_enc (kvs : List (Str × Int)) (k : Str) (v : Int) : putK (encK kvs) (Sum.inr k : Key) (V.int v) = encK (setK kvs k v) := by
  unfold putK setK
  have e : ((encK kvs).any fun kv => decide (kv.1 = (Sum.inr k : Key))) = (getK kvs k).isSome := by
    rw [valV_any, valV_enc, Option.isSome_map]
  rw [e]
  by_cases h : (getK kvs k).isSome = true
  · rw [if_pos h, if_pos h]
    unfold encK
    rw [List.map_map, List.map_map]
    refine List.map_congr_left fun p _ => ?_
    show (if (Sum.inr p.1 : Key) = Sum.inr k then ((Sum.inr p.1 : Key), V.int v) else (Sum.inr p.1, V.int p.2)) = _
    by_cases hp : p.1 = k
    · rw [if_pos (by rw [hp])]
      show _ = (Sum.inr (if p.1 = k then (p.1, v) else p).1, V.int (if p.1 = k then (p.1, v) else p).2)
      rw [if_pos hp]
    · rw [if_neg (fun z => hp (Sum.inr.inj z))]
      show _ = (Sum.inr (if p.1 = k then (p.1, v) else p).1, V.int (if p.1 = k then (p.1, v) else p).2)
      rw [if_neg hp]
  · rw [if_neg h, if_neg h]
    unfold encK
    rw [List.map_append]; rfl
theorem delK_enc (kvs : List (Str × Int)) (k : Str) : dropK (encK kvs) (Sum.inr k : Key) = encK (delK kvs k) := by
  unfold dropK delK encK
  rw [List.filter_map]
  refine congrArg _ (List.filter_congr fun p _ => ?_)
  by_cases h : p.1 = k
  · simp [Function.comp, h]
  · simp [Function.comp, h]
/-- d[k] = e -/
theorem ds_dput (hu : X.A.units + 1 < cLine) (i : Nat) {n : Nat} {kvs : List (Str × Int)} {k : Str} {z : Int} (hr : ρ[i]? = some (.c n)) (hc : cs[n]? = some (.dat (.dic kvs))) (hk : EV X e ρ cs (ds k)) (h : EV X e2 ρ cs (di z)) (hl : kvs.length < sizeLine) (q : P.nx ρ (cs.set n (.dat (.dic (setK kvs k z)))))
    (hN : X.N[i]? = some x) (hv : Vis X.env.scope x) (hd : (x == ("__debug__" : Str)) = false := by kernel_rfl) (hcd : (x == ("__classdict__" : Str)) = false := by kernel_rfl)
    (hs : swapsWith e2 (some (.Subscript (.Name x p) e apos)) pos.line X.env = pure false := by rfl) : DS X (.Assign [.Subscript (.Name x p) e apos] e2 pos) ρ cs P := fun F0 H0 F H σ E S ok => by
  obtain ⟨as, S⟩ := S
  obtain ⟨a, ea, es⟩ := S.slot i _ hr
  obtain ⟨a', ea', fa, h0, ci⟩ := S.cell n _ hc
  rw [ea] at ea'; cases ea'
  have ci : H a = some (.dK (encK kvs)) := ci
  refine PS.ws (ps_dput hu (pe_var hN hv hd hcd) pe_self pe_self hs) (h F0 H0 F H σ as S _ fun v F1 H1 g1 r1 => ?_)
  cases r1
  have S1 := S.step g1
  refine ⟨_, es, hk F0 H0 F1 H1 σ as S1 _ fun w F2 H2 g2 r2 => ?_⟩
  cases r2
  have S2 := S1.step g2
  refine ⟨a, _, rfl, DPut.k (k := Sum.inr k) (g2.hh _ _ (g1.hh _ _ ci)) (by rw [encK_length]; exact hl), ok.nx σ F2 _ _ _ q ⟨as, S2.put ea (some_lt hc) ?_⟩⟩
  show upd _ _ _ a = _
  rw [upd_same, setK_enc]
/-- d.pop(k), the key there -/
theorem ds_dpop (i : Nat) {n : Nat} {kvs : List (Str × Int)} {k : Str} {z : Int} (hr : ρ[i]? = some (.c n)) (hc : cs[n]? = some (.dat (.dic kvs))) (hk : EV X e ρ cs (ds k)) (hz : getK kvs k = some z) (q : P.nx ρ (cs.set n (.dat (.dic (delK kvs k)))))
    (hN : X.N[i]? = some x) (hv : Vis X.env.scope x) (hd : (x == ("__debug__" : Str)) = false := by kernel_rfl) (hcd : (x == ("__classdict__" : Str)) = false := by kernel_rfl)
    (base : attributeBase (.Name x p) "pop" X.env (eval (.Name x p) X.env) = eval (.Name x p) X.env := by kernel_rfl)
    (few : ((backTo cpos (starEach [e] X.env)).all (fun x => !x.1) && (backToKw cpos (keywordEach [] X.env)).all (fun x => x.1.isSome) && decide (([e] : List Expr).length + ([] : List Keyword).length + (if ([] : List Keyword).isEmpty then 0 else 1) < 30)) = true := by kernel_rfl)
    (line : (apos.endLine == cpos.line) = true := by kernel_rfl) (trees : backTo cpos (starEach [e] X.env) = [(false, eval e X.env)] := by kernel_rfl)
    (hsw : swapsWith (.Call (.Attribute (.Name x p) "pop" apos) [e] [] cpos) none pos.line X.env = pure false := by rfl) : DS X (.Expr (.Call (.Attribute (.Name x p) "pop" apos) [e] [] cpos) pos) ρ cs P := fun F0 H0 F H σ E S ok => by
  obtain ⟨as, S⟩ := S
  obtain ⟨a, ea, es⟩ := S.slot i _ hr
  obtain ⟨a', ea', fa, h0, ci⟩ := S.cell n _ hc
  rw [ea] at ea'; cases ea'
  have ci : H a = some (.dK (encK kvs)) := ci
  refine PS.ws (ps_expr (pe_dpop1 (pe_var hN hv hd hcd) pe_self ⟨base, few, line, trees⟩) hsw) ⟨_, es, a, rfl, isD_enc ci, hk F0 H0 F H σ as S _ fun w F2 H2 g2 r2 => ?_⟩
  cases r2
  have S2 := S.step g2
  refine ⟨encK kvs, Sum.inr k, V.int z, g2.hh _ _ ci, rfl, by rw [valV_enc, hz]; rfl, ok.nx σ F2 _ _ _ q ⟨as, S2.put ea (some_lt hc) ?_⟩⟩
  show upd _ _ _ a = _
  rw [upd_same, delK_enc]
/-- self.f = e, self a container (an object that is being made) -/
theorem RepF.put {K : PySem.W.Frag} {F : Hp} {f : Str} {v : V} (r : Rep K F v d) : ∀ {vs : List (Str × V)} {fs : List (Str × D)}, RepF K F vs fs → (fs.lookup f = none) → RepF K F (putF f v vs) (fs ++ [(f, d)])
  | _, _, .nil, _ => .cons r .nil
  | _, _, .cons (n := n) h q, e => by
    rw [List.lookup_cons] at e
    cases z : (f == n) with
    | true => rw [z] at e; cases e
    | false =>
      rw [z] at e
      have ne : ¬ n = f := fun y => by rw [y, beq_self_eq_true] at z; cases z
      show RepF K F (if n = f then _ else _) _
      rw [if_neg ne]
      exact .cons h (RepF.put r q e)
theorem ds_fld (i : Nat) {n : Nat} {y : Addr} {cn f : Str} {fs : List (Str × D)} (hr : ρ[i]? = some (.c n)) (hc : cs[n]? = some (.at y (.obj cn fs))) (h : EV X e ρ cs d) (hl : fs.lookup f = none) (hlen : fs.length < 1000) (cl : Cls X.K (He.ga X.K cn)) (na : NoAttr X.K (He.ga X.K cn) f) (q : P.nx ρ (cs.set n (.at y (.obj cn (fs ++ [(f, d)])))))
    (hN : X.N[i]? = some x) (hv : Vis X.env.scope x) (hd : (x == ("__debug__" : Str)) = false := by kernel_rfl) (hcd : (x == ("__classdict__" : Str)) = false := by kernel_rfl)
    (hs : swapsWith e (some (.Attribute (.Name x p) f apos)) pos.line X.env = pure false := by rfl) : DS X (.Assign [.Attribute (.Name x p) f apos] e pos) ρ cs P := fun F0 H0 F H σ E S ok => by
  obtain ⟨as, S⟩ := S
  obtain ⟨a, ea, es⟩ := S.slot i _ hr
  obtain ⟨a', ea', fa, h0, ci⟩ := S.cell n _ hc
  rw [ea] at ea'; cases ea'
  obtain ⟨ey, dx, vs, hx, rx⟩ := ci
  refine PS.ws (ps_fld (pe_var hN hv hd hcd) pe_self hs) (h F0 H0 F H σ as S _ fun v F1 H1 g1 r1 => ?_)
  have S1 := S.step g1
  exact ⟨_, es, a, _, dx, vs, rfl, g1.hh _ _ hx, cl, na, by rw [rx.length]; exact hlen, ok.nx σ F1 _ _ _ q ⟨as, S1.put ea (some_lt hc) ⟨ey, dx, _, upd_same, (rx.mono g1.ff).put r1 hl⟩⟩⟩

/-! ### loops -/
theorem RetIs.base {K : PySem.W.Frag} {F0 H0 F1 H1 : Hp} (g : Grow F0 H0 F1 H1) {v : V} {H : Hp} : ∀ {r : RV}, RetIs K F1 H0 v H r → RetIs K F0 H0 v H r
  | .dat d, ⟨F, gg, r⟩ => ⟨F, ⟨g.ff.trans gg.ff, gg.fh, gg.hh, fun a o h n => by
      cases z : F1 a with
      | some u => have e := gg.ff a u z; rw [h] at e; cases e; exact g.new a o z n
      | none => exact gg.new a o h z⟩, r⟩
  | .new c, ⟨F, p, e, gg, r⟩ => ⟨F, p, e, ⟨g.ff.trans gg.ff, gg.fh, gg.hh, fun a o h n => by
      cases z : F1 a with
      | some u => have e := gg.ff a u z; rw [h] at e; cases e; exact g.new a o z n
      | none => exact gg.new a o h z⟩, r⟩
theorem Grow.base {F0 H0 F1 H1 F H : Hp} (g : Grow F0 H0 F1 H1) (gg : Grow F1 H0 F H) : Grow F0 H0 F H := ⟨g.ff.trans gg.ff, gg.fh, gg.hh, fun a o h n => by
  cases z : F1 a with
  | some u => have e := gg.ff a u z; rw [h] at e; cases e; exact g.new a o z n
  | none => exact gg.new a o h z⟩
theorem StA.base {K : PySem.W.Frag} {F0 H0 F1 H1 F H : Hp} {σ : L2.St} {as : List Addr} (g : Grow F0 H0 F1 H1) (S : StA K F1 H0 F H σ ρ cs as) : StA K F0 H0 F H σ ρ cs as := ⟨g.base S.grow, S.len, S.slot, S.cell, S.alen, S.nd⟩
theorem StA.rebase {K : PySem.W.Frag} {F0 H0 F1 F H : Hp} {σ : L2.St} {as : List Addr} (f0 : Sub F0 F1) (s : Sub F1 F) (S : StA K F0 H0 F H σ ρ cs as) : StA K F1 H0 F H σ ρ cs as :=
  ⟨⟨s, S.grow.fh, S.grow.hh, fun a o h n => S.grow.new a o h (f0.none n)⟩, S.len, S.slot, S.cell, S.alen, S.nd⟩
def EI (X : Cx) (tg iter : Expr) (ρ : List SD) (cs : List CD) (its : List D) : Prop :=
  ∃ wi : TI, PI X tg iter wi ∧ ∀ (F0 H0 F H : Hp) (σ : L2.St) (as : List Addr), StA X.K F0 H0 F H σ ρ cs as → ∀ R : It → Hp → Prop, (∀ J F1 H1, Grow F H F1 H1 → Walks X.K J its F1 → R J H1) → wi σ H R
theorem ei {its : List D} {iter : Expr} (h : DI X tg iter (coldV ρ) its) : EI X tg iter ρ cs its := by
  obtain ⟨wi, p, k⟩ := h
  exact ⟨wi, p, fun F0 H0 F H σ as S R q => k σ F H S.cold S.grow.fh R q⟩
/-- for target in iter: body -/
theorem ds_for {its : List D} {iter : Expr} {body : List Stmt} {asg : D → List (Nat × D)} (I : Nat → List SD → List CD → Prop) (hp : PassesOwn (model X.prog X.w) X.A X.env X.xe) (hc : X.calm = true) (hi : EI X tg iter ρ cs its) (h0 : I 0 ρ cs)
    (step : ∀ i d ρ' cs', its[i]? = some d → I i ρ' cs' → DG X tg d (asg d) ∧ DSs X body (setsS ρ' (asg d)) cs' { nx := I (i + 1), rt := P.rt, bk := P.nx, ct := I (i + 1) })
    (done : ∀ ρ' cs', I its.length ρ' cs' → P.nx ρ' cs') (hs : ∀ x, foldedSetIterable iter X.env x = pure x := by intro _; rfl) : DS X (.For tg iter body [] pos) ρ cs P := fun F0 H0 F H σ E S ok => by
  obtain ⟨as, S⟩ := S
  obtain ⟨wi, p, k⟩ := hi
  refine PS.ws (ps_for hp hc p pg_self pss_self (hs := hs)) (k F0 H0 F H σ as S _ fun J F1 H1 g1 W => ?_)
  have gB : Grow F0 H0 F1 H1 := S.grow.trans g1
  refine ⟨fun i m σ' H' => m = its.length - i ∧ i ≤ its.length ∧ ∃ F' ρ' cs', I i ρ' cs' ∧ St X.K F1 H0 F' H' σ' ρ' cs', ⟨its.length, by rw [Nat.sub_zero], Nat.zero_le _, F1, ρ, cs, h0, as, (S.step g1).rebase gB.ff .rfl⟩, ?_⟩
  rintro i m σ' H' ⟨rfl, hi, F', ρ', cs', iv, as', S'⟩
  have sF : Sub F1 H' := S'.grow.ff.trans S'.grow.fh
  by_cases hlt : i < its.length
  · have ei : its[i]? = some its[i] := List.getElem?_eq_getElem hlt
    obtain ⟨hg, hb⟩ := step i its[i] ρ' cs' ei iv
    refine .inr ⟨W.go i H' sF hlt, fun σ2 H2 => i + 1 ≤ its.length ∧ ∃ F2 ρ2 cs2, I (i + 1) ρ2 cs2 ∧ St X.K F1 H0 F2 H2 σ2 ρ2 cs2, fun σ2 H2 ⟨h1, h2⟩ => ⟨its.length - (i + 1), by omega, rfl, h1, h2⟩, fun x H2 hy => ?_⟩
    obtain ⟨F2, g2, rx⟩ := W.yld i its[i] H' x H2 F' S'.grow.ff S'.grow.fh ei hy
    have S2 := S'.step g2
    refine hg x σ' F2 H2 g2.fh rx _ fun vs rvs => ?_
    refine hb F1 H0 F2 H2 _ _ ⟨as', S2.sets rvs⟩ ⟨fun σ3 F3 H3 ρ3 cs3 iv3 S3 => ⟨hlt, F3, ρ3, cs3, iv3, S3⟩, fun r v H3 hr ret => ok.rt r v H3 hr (ret.base gB), fun σ3 F3 H3 ρ3 cs3 hn ⟨as3, S3⟩ => ok.nx σ3 F3 H3 ρ3 cs3 hn ⟨as3, S3.base gB⟩, fun σ3 F3 H3 ρ3 cs3 iv3 S3 => ⟨hlt, F3, ρ3, cs3, iv3, S3⟩⟩
  · have e : i = its.length := by omega
    subst e
    exact .inl ⟨W.stop H' sF, ok.nx σ' F' H' ρ' cs' (done ρ' cs' iv) ⟨as', S'.base gB⟩⟩
/-- while test: body; the states are told by α -/
theorem ds_while {α : Type} {body : List Stmt} (ρ' : α → List SD) (cs' : α → List CD) (I : α → Prop) (μ : α → Nat) (b' : α → Bool) (a0 : α) (hp : PassesOwn (model X.prog X.w) X.A X.env X.xe) (h0 : I a0)
    (test : ∀ a, I a → ET X c (ρ' a) (cs' a) (b' a))
    (step : ∀ a, I a → b' a = true → DSs X body (ρ' a) (cs' a) { nx := fun ρ2 cs2 => ∃ a2, I a2 ∧ μ a2 < μ a ∧ ρ2 = ρ' a2 ∧ cs2 = cs' a2, rt := P.rt, bk := P.nx, ct := fun ρ2 cs2 => ∃ a2, I a2 ∧ μ a2 < μ a ∧ ρ2 = ρ' a2 ∧ cs2 = cs' a2 })
    (done : ∀ a, I a → b' a = false → P.nx (ρ' a) (cs' a)) (e1 : ρ = ρ' a0 := by rfl) (e2 : cs = cs' a0 := by rfl) : DS X (.While c body [] pos) ρ cs P := fun F0 H0 F H σ E S ok => by
  subst e1 e2
  refine PS.ws (ps_while hp pt_self pss_self) ⟨fun m σ1 H1 => ∃ a F1, m = μ a ∧ I a ∧ St X.K F0 H0 F1 H1 σ1 (ρ' a) (cs' a), ⟨μ a0, a0, F, rfl, h0, S⟩, ?_⟩
  rintro m σ1 H1 ⟨a, F1, rfl, ia, as, S1⟩
  refine test a ia F0 H0 F1 H1 σ1 as S1 _ fun F2 H2 g2 => ?_
  have S2 := S1.step g2
  cases hb : b' a with
  | true =>
    rw [if_pos rfl]
    refine ⟨fun σ3 H3 => ∃ m', m' < μ a ∧ ∃ a3 F3, m' = μ a3 ∧ I a3 ∧ St X.K F0 H0 F3 H3 σ3 (ρ' a3) (cs' a3), fun σ3 H3 h => h, ?_⟩
    have go : ∀ (σ3 : L2.St) (F3 H3 : Hp) ρ3 cs3, (∃ a2, I a2 ∧ μ a2 < μ a ∧ ρ3 = ρ' a2 ∧ cs3 = cs' a2) → St X.K F0 H0 F3 H3 σ3 ρ3 cs3 → ∃ m', m' < μ a ∧ ∃ a3 F3, m' = μ a3 ∧ I a3 ∧ St X.K F0 H0 F3 H3 σ3 (ρ' a3) (cs' a3) := by
      rintro σ3 F3 H3 ρ3 cs3 ⟨a2, i2, l2, rfl, rfl⟩ S3
      exact ⟨_, l2, a2, F3, rfl, i2, S3⟩
    exact step a ia hb F0 H0 F2 H2 σ1 _ ⟨as, S2⟩ ⟨go, ok.rt, ok.nx, go⟩
  | false =>
    rw [if_neg Bool.false_ne_true]
    exact ok.nx σ1 F2 H2 _ _ (done a ia hb) ⟨as, S2⟩
end

/-! ### a def's promise by its body -/
def argS (ds : List D) (n : Nat) : List SD := ds.map SD.d ++ List.replicate (n - ds.length) SD.un
section
variable {P : Program} {w : World} {K : PySem.W.Frag} {mg : Str → Option Value} {base : Heap} {x qual : Str} {params : Arguments} {body : List Stmt} {scope : Scope} {dvs : List V} {kws : List (Str × V)} {f : Addr} {fd : FuncData} {N ps : List Str} {k : Nat} {R : List D → D → Prop}
theorem start_st {F H : Hp} {vs : List V} {ds : List D} {n : Nat} (hs : Sub F H) (r : RepA K F vs ds) (hn : N.length = n) (hl : ds.length ≤ n) : StA K F H F H (L2.start N vs) (argS ds n) [] [] := by
  have hl2 : (L2.start N vs).length = (argS ds n).length := by
    unfold L2.start argS
    rw [List.length_append, List.length_append, List.length_map, List.length_map, List.length_replicate, List.length_replicate, r.length, hn]
  refine ⟨.refl hs, hl2, fun i s h => ?_, fun n c h => by simp at h, rfl, List.nodup_nil⟩
  unfold argS at h
  by_cases hi : i < ds.length
  · rw [List.getElem?_append_left (by rw [List.length_map]; exact hi), List.getElem?_map] at h
    cases e : ds[i]? with
    | none => rw [e] at h; cases h
    | some d =>
      rw [e] at h; cases h
      obtain ⟨v, ev, rv⟩ := r.get e
      refine ⟨v, ?_, rv⟩
      unfold L2.start
      rw [List.getElem?_append_left (by rw [List.length_map]; exact some_lt ev), List.getElem?_map, ev]; rfl
  · rw [List.getElem?_append_right (by rw [List.length_map]; omega), List.getElem?_replicate] at h
    by_cases hj : i - (ds.map SD.d).length < n - ds.length
    · rw [if_pos hj] at h; cases h; trivial
    · rw [if_neg hj] at h; cases h
/-- hands back a datum -/
theorem def_D (F : FunD K x qual params body scope dvs kws f fd) (S : FnScope N ps scope) (len : ∀ ds d, R ds d → ds.length = ps.length)
    (h : ∀ (cdv : Value) (A : Around) (outer : List Env) (s : Shared) (H : Hp) (E : XK) (ds : List D) (d : D), R ds d → Room k (A.deeper (envOfC qual scope s.heap.objs.size f cdv)) →
      DSs (cxOf L2.CX0 P w K mg base N qual scope f cdv A outer s H E).nox body (argS ds N.length) [] { nx := fun _ _ => d = dn, rt := fun r => r = .dat d ∨ r = .new d }) : FnOk P w K mg base L2.CX0 (k + 1) f fd ps (spD K R) := by
  refine F.ok S (fun vs H Q E hq => ?_) (fun cdv A outer s H vs Q E hr hq => ?_)
  · obtain ⟨F', ds, d, _, r, hR, _⟩ := hq
    rw [r.length]; exact len ds d hR
  · obtain ⟨F', ds, d, hs, r, hR, q⟩ := hq
    have hpl : ds.length ≤ N.length := by
      rw [len ds d hR]
      have := congrArg List.length S.pre; rw [List.length_take] at this; omega
    refine ⟨WSs _ body, PSs.nox pss_self, ?_⟩
    refine h cdv A outer s H E ds d hR hr F' H F' H (L2.start N vs) _ ⟨[], start_st hs r rfl hpl⟩ ⟨fun σ F2 H2 ρ cs e ⟨as, S2⟩ => ?_, fun rv v H2 e ret => ?_, fun _ _ _ _ _ z => z.elim, fun _ _ _ _ _ z => z.elim⟩
    · exact q .non F2 H2 S2.grow (by rw [e]; exact .v _)
    · rcases e with rfl | rfl
      · obtain ⟨F2, g, rr⟩ := ret
        exact q v F2 H2 g rr
      · obtain ⟨F2, p, rfl, g, h0, fp, ci⟩ := ret
        exact q.new p F2 H2 g h0 fp ci
/-- hands back a new container -/
theorem def_N (F : FunD K x qual params body scope dvs kws f fd) (S : FnScope N ps scope) (len : ∀ ds d, R ds d → ds.length = ps.length)
    (h : ∀ (cdv : Value) (A : Around) (outer : List Env) (s : Shared) (H : Hp) (E : XK) (ds : List D) (d : D), R ds d → Room k (A.deeper (envOfC qual scope s.heap.objs.size f cdv)) →
      DSs (cxOf L2.CX0 P w K mg base N qual scope f cdv A outer s H E).nox body (argS ds N.length) [] { nx := fun _ _ => False, rt := fun r => r = .new d }) : FnOk P w K mg base L2.CX0 (k + 1) f fd ps (spN K R) := by
  refine F.ok S (fun vs H Q E hq => ?_) (fun cdv A outer s H vs Q E hr hq => ?_)
  · obtain ⟨F', ds, d, _, r, hR, _⟩ := hq
    rw [r.length]; exact len ds d hR
  · obtain ⟨F', ds, d, hs, r, hR, q⟩ := hq
    have hpl : ds.length ≤ N.length := by
      rw [len ds d hR]
      have := congrArg List.length S.pre; rw [List.length_take] at this; omega
    refine ⟨WSs _ body, PSs.nox pss_self, ?_⟩
    refine h cdv A outer s H E ds d hR hr F' H F' H (L2.start N vs) _ ⟨[], start_st hs r rfl hpl⟩ ⟨fun σ F2 H2 ρ cs e S2 => e.elim, fun rv v H2 e ret => ?_, fun _ _ _ _ _ z => z.elim, fun _ _ _ _ _ z => z.elim⟩
    subst e
    obtain ⟨F2, p, rfl, g, h0, fp, ci⟩ := ret
    exact q p F2 H2 g h0 fp ci
end
end Ef
set_option maxRecDepth 100000
set_option maxHeartbeats 4000000
/-! EfT: the text by places; what the walk asks of the top. Printed by genT.py. -/
namespace Ef
open PySem L2 C8 RZ PyProof.Rows PySem.Spec
def top (i : Nat) : Stmt := PySem.Challenge.pw_everyfire_k63_whole_checked_texts.main.body.getD i (.Pass ⟨0, 0, 0, 0⟩)
def chars : Str := "abcdefghijklmnopqrstuvwxyz0123456789"
def digits : Str := "0123456789"
abbrev s_is_name : Stmt := top 15
abbrev N_is_name : List Str := ["text", "char"]
abbrev P_is_name : List Str := ["text"]
abbrev s_are_different : Stmt := top 16
abbrev N_are_different : List Str := ["parts", "number", "part"]
abbrev P_are_different : List Str := ["parts"]
abbrev s_require : Stmt := top 17
abbrev N_require : List Str := ["holds"]
abbrev P_require : List Str := ["holds"]
abbrev s_checked_times : Stmt := top 18
abbrev N_checked_times : List Str := ["times", "many", "found", "pair"]
abbrev P_checked_times : List Str := ["times", "many"]
abbrev s_is_number : Stmt := top 23
abbrev N_is_number : List Str := ["word", "char"]
abbrev P_is_number : List Str := ["word"]
abbrev s_check_winds : Stmt := top 27
abbrev N_check_winds : List Str := ["land", "weather", "_", "wind"]
abbrev P_check_winds : List Str := ["land", "weather"]
abbrev s_check_changes : Stmt := top 28
abbrev N_check_changes : List Str := ["weather", "minutes", "minute", "_", "later"]
abbrev P_check_changes : List Str := ["weather"]
abbrev s_blowing : Stmt := top 29
abbrev N_blowing : List Str := ["weather", "minute", "start", "wind"]
abbrev P_blowing : List Str := ["weather", "minute"]
abbrev s_chances : Stmt := top 30
abbrev N_chances : List Str := ["weather", "minute", "start", "_"]
abbrev P_chances : List Str := ["weather", "minute"]
abbrev s_least_numbers : Stmt := top 32
abbrev N_least_numbers : List Str := ["land", "link", "pair"]
abbrev P_least_numbers : List Str := ["land"]
abbrev s_most_numbers : Stmt := top 33
abbrev N_most_numbers : List Str := ["land", "link", "pair"]
abbrev P_most_numbers : List Str := ["land"]
abbrev s_check_rows : Stmt := top 34
abbrev N_check_rows : List Str := ["land", "rows", "place", "_"]
abbrev P_check_rows : List Str := ["land", "rows"]
abbrev s_least_minutes : Stmt := top 35
abbrev N_least_minutes : List Str := ["rows", "found", "place", "minute"]
abbrev P_least_minutes : List Str := ["rows"]
abbrev s_caught : Stmt := top 36
abbrev N_caught : List Str := ["land", "weather", "row", "minute", "ends", "start", "number"]
abbrev P_caught : List Str := ["land", "weather", "row", "minute"]
abbrev s_spread : Stmt := top 37
abbrev N_spread : List Str := ["land", "weather", "starts", "breaks", "numbers", "broken", "waiting", "found", "place", "minute", "link", "row", "end"]
abbrev P_spread : List Str := ["land", "weather", "starts", "breaks", "numbers"]
abbrev s_word_of : Stmt := top 38
abbrev N_word_of : List Str := ["first", "last"]
abbrev P_word_of : List Str := ["first", "last"]
abbrev s_check_fire_at : Stmt := top 39
abbrev N_check_fire_at : List Str := ["land", "weather", "starts", "breaks", "place"]
abbrev P_check_fire_at : List Str := ["land", "weather", "starts", "breaks", "place"]
abbrev s_labels_of : Stmt := top 42
abbrev N_labels_of : List Str := ["land", "found", "place"]
abbrev P_labels_of : List Str := ["land", "found"]
abbrev s_step_back : Stmt := top 43
abbrev N_step_back : List Str := ["land", "weather", "numbers", "found", "place", "link", "row"]
abbrev P_step_back : List Str := ["land", "weather", "numbers", "found", "place"]
abbrev s_chain_to : Stmt := top 44
abbrev N_chain_to : List Str := ["land", "weather", "starts", "numbers", "found", "place", "begun", "rows", "link"]
abbrev P_chain_to : List Str := ["land", "weather", "starts", "numbers", "found", "place"]
abbrev s_paper : Stmt := top 45
abbrev N_paper : List Str := ["land", "weather", "starts", "breaks", "place", "fast", "slow", "word"]
abbrev P_paper : List Str := ["land", "weather", "starts", "breaks", "place"]
abbrev s_is_ahead : Stmt := top 46
abbrev N_is_ahead : List Str := ["broken", "place", "minute"]
abbrev P_is_ahead : List Str := ["broken", "place", "minute"]
abbrev s_least_labels : Stmt := top 47
abbrev N_least_labels : List Str := ["land", "labels", "place", "minute"]
abbrev P_least_labels : List Str := ["land", "labels"]
abbrev s_are_closed : Stmt := top 48
abbrev N_are_closed : List Str := ["land", "weather", "starts", "breaks", "numbers", "least", "broken", "place", "minute", "link", "row", "end"]
abbrev P_are_closed : List Str := ["land", "weather", "starts", "breaks", "numbers", "least"]
abbrev s_is_link : Stmt := top 49
abbrev N_is_link : List Str := ["land", "weather", "numbers", "broken", "last", "row", "at", "link", "place", "name", "minute"]
abbrev P_is_link : List Str := ["land", "weather", "numbers", "broken", "last", "row"]
abbrev s_is_chain : Stmt := top 50
abbrev N_is_chain : List Str := ["land", "weather", "starts", "breaks", "numbers", "chain", "place", "broken", "first", "_", "minute", "last", "row"]
abbrev P_is_chain : List Str := ["land", "weather", "starts", "breaks", "numbers", "chain", "place"]
abbrev s_check_paper : Stmt := top 51
abbrev N_check_paper : List Str := ["land", "weather", "starts", "breaks", "place", "told", "least", "fast", "slow"]
abbrev P_check_paper : List Str := ["land", "weather", "starts", "breaks", "place", "told"]
abbrev s_paper_text : Stmt := top 55
abbrev N_paper_text : List Str := ["told", "lines", "place", "name", "minute"]
abbrev P_paper_text : List Str := ["told"]
abbrev s_is_label : Stmt := top 56
abbrev N_is_label : List Str := ["words"]
abbrev P_is_label : List Str := ["words"]
abbrev s_is_catch : Stmt := top 57
abbrev N_is_catch : List Str := ["words"]
abbrev P_is_catch : List Str := ["words"]
abbrev s_parse_paper : Stmt := top 58
abbrev N_parse_paper : List Str := ["text", "lines", "labels", "chain", "number", "words", "line"]
abbrev P_parse_paper : List Str := ["text"]
abbrev s_check_text : Stmt := top 59
abbrev N_check_text : List Str := ["land", "weather", "starts", "breaks", "place", "text"]
abbrev P_check_text : List Str := ["land", "weather", "starts", "breaks", "place", "text"]
abbrev s__law_row : Stmt := top 61
abbrev N__law_row : List Str := ["_law_cell", "_law_many", "_law_row_here", "_law_rest", "_law_mixed", "_law_k"]
abbrev P__law_row : List Str := ["_law_cell", "_law_many"]
abbrev s__law_numbers : Stmt := top 62
abbrev N__law_numbers : List Str := ["_law_script", "_law_many", "_law_cells", "_law_each", "_law_numbers_here", "_law_cell", "_law_number"]
abbrev P__law_numbers : List Str := ["_law_script", "_law_many"]
abbrev s__law_names : Stmt := top 63
abbrev N__law_names : List Str := ["_law_number", "_law_many", "_law_letters", "_law_size", "_law_rest", "_law_place", "_law_names_here", "_law_k", "_law_own", "_law_spot", "_law_step"]
abbrev P__law_names : List Str := ["_law_number", "_law_many"]
abbrev s__law_parts : Stmt := top 64
abbrev N__law_parts : List Str := ["_law_numbers_here", "_law_at", "_law_winds", "_law_places", "_law_names_here", "_law_links", "_law_k", "_law_paths", "_law_spot", "_law_one", "_law_other", "_law_times", "_law_j", "_law_known", "_law_least_here", "_law_path"]
abbrev P__law_parts : List Str := ["_law_numbers_here", "_law_at"]
abbrev s__law_weather : Stmt := top 65
abbrev N__law_weather : List Str := ["_law_numbers_here", "_law_at", "_law_parts_here", "_law_weather_here", "_law_k"]
abbrev P__law_weather : List Str := ["_law_numbers_here", "_law_at", "_law_parts_here"]
abbrev s__law_wind : Stmt := top 66
abbrev N__law_wind : List Str := ["_law_parts_here", "_law_weather_here", "_law_minute", "_law_wind_here", "_law_row_here"]
abbrev P__law_wind : List Str := ["_law_parts_here", "_law_weather_here", "_law_minute"]
abbrev s__law_caught : Stmt := top 67
abbrev N__law_caught : List Str := ["_law_parts_here", "_law_weather_here", "_law_link", "_law_minute", "_law_side", "_law_caught_here", "_law_start", "_law_bounds", "_law_row_here"]
abbrev P__law_caught : List Str := ["_law_parts_here", "_law_weather_here", "_law_link", "_law_minute", "_law_side"]
abbrev s__law_fire : Stmt := top 68
abbrev N__law_fire : List Str := ["_law_parts_here", "_law_weather_here", "_law_starts", "_law_breaks", "_law_side", "_law_ends", "_law_burns", "_law_turn", "_law_place", "_law_minute", "_law_link", "_law_caught_here"]
abbrev P__law_fire : List Str := ["_law_parts_here", "_law_weather_here", "_law_starts", "_law_breaks", "_law_side"]
abbrev s__law_rows : Stmt := top 69
abbrev N__law_rows : List Str := ["_law_numbers_here", "_law_at", "_law_many", "_law_parts_here", "_law_most", "_law_k"]
abbrev P__law_rows : List Str := ["_law_numbers_here", "_law_at", "_law_many", "_law_parts_here", "_law_most"]
abbrev s__law_land : Stmt := top 70
abbrev N__law_land : List Str := ["_law_parts_here"]
abbrev P__law_land : List Str := ["_law_parts_here"]
abbrev s__law_least : Stmt := top 71
abbrev N__law_least : List Str := ["_law_rows_here", "_law_found", "_law_place", "_law_minute"]
abbrev P__law_least : List Str := ["_law_rows_here"]
abbrev s__law_closed : Stmt := top 72
abbrev N__law_closed : List Str := ["_law_parts_here", "_law_question", "_law_side", "_law_labels", "_law_place", "_law_least_here", "_law_ends", "_law_link", "_law_weather_here", "_law_starts", "_law_breaks", "_law_one", "_law_minute", "_law_caught_here"]
abbrev P__law_closed : List Str := ["_law_parts_here", "_law_question", "_law_side", "_law_labels", "_law_place"]
abbrev s__law_chain : Stmt := top 73
abbrev N__law_chain : List Str := ["_law_parts_here", "_law_question", "_law_side", "_law_chain_here", "_law_place", "_law_ends", "_law_k", "_law_weather_here", "_law_starts", "_law_breaks", "_law_one", "_law_name", "_law_minute", "_law_links", "_law_link"]
abbrev P__law_chain : List Str := ["_law_parts_here", "_law_question", "_law_side", "_law_chain_here", "_law_place"]
abbrev s__law_right : Stmt := top 74
abbrev N__law_right : List Str := ["_law_parts_here", "_law_question", "_law_place", "_law_told", "_law_word", "_law_labels", "_law_chain_here"]
abbrev P__law_right : List Str := ["_law_parts_here", "_law_question", "_law_place", "_law_told"]
abbrev s__law_spoilt : Stmt := top 75
abbrev N__law_spoilt : List Str := ["_law_parts_here", "_law_told", "_law_numbers_here", "_law_choice", "_law_number", "_law_other", "_law_at", "_law_names_here", "_law_changed", "_law_word", "_law_labels", "_law_chain_here", "_law_more", "_law_place", "_law_name", "_law_minute", "_law_link"]
abbrev P__law_spoilt : List Str := ["_law_parts_here", "_law_told", "_law_numbers_here"]
abbrev s__law_text : Stmt := top 76
abbrev N__law_text : List Str := ["_law_told", "_law_lines", "_law_place", "_law_name", "_law_minute", "_law_middle", "_law_row_here"]
abbrev P__law_text : List Str := ["_law_told"]
abbrev s__law_refused : Stmt := top 77
abbrev N__law_refused : List Str := ["_law_land_here", "_law_question", "_law_place", "_law_text_here"]
abbrev P__law_refused : List Str := ["_law_land_here", "_law_question", "_law_place", "_law_text_here"]
abbrev s_law : Stmt := top 78
abbrev N_law : List Str := ["_law_script", "_law_numbers_here", "_law_parts_here", "_law_weather_here", "_law_starts", "_law_breaks", "_law_question", "_law_place", "_law_land_here", "_law_fast", "_law_slow", "_law_word", "_law_paper_told", "_law_told", "_law_bad", "_law_answer"]
abbrev P_law : List Str := ["_law_script"]
abbrev s_Land___init__ : Stmt := inClass (top 19) 0
abbrev N_Land___init__ : List Str := ["self", "winds", "places", "links", "paths", "link", "path", "wind", "place"]
abbrev P_Land___init__ : List Str := ["self", "winds", "places", "links", "paths"]
abbrev s_Land_are_ends : Stmt := inClass (top 19) 1
abbrev N_Land_are_ends : List Str := ["self", "one", "other"]
abbrev P_Land_are_ends : List Str := ["self", "one", "other"]
abbrev s_Land_checked_link : Stmt := inClass (top 19) 2
abbrev N_Land_checked_link : List Str := ["self", "link", "name", "one", "other", "times"]
abbrev P_Land_checked_link : List Str := ["self", "link"]
abbrev s_Land_checked_path : Stmt := inClass (top 19) 3
abbrev N_Land_checked_path : List Str := ["self", "path", "one", "other", "minutes"]
abbrev P_Land_checked_path : List Str := ["self", "path"]
abbrev s_Land_check_place : Stmt := inClass (top 19) 5
abbrev N_Land_check_place : List Str := ["self", "place"]
abbrev P_Land_check_place : List Str := ["self", "place"]
abbrev s_Land_check_wind : Stmt := inClass (top 19) 6
abbrev N_Land_check_wind : List Str := ["self", "wind"]
abbrev P_Land_check_wind : List Str := ["self", "wind"]
abbrev s_Paper___init__ : Stmt := inClass (top 41) 0
abbrev N_Paper___init__ : List Str := ["self", "word", "labels", "chain", "row"]
abbrev P_Paper___init__ : List Str := ["self", "word", "labels", "chain"]
abbrev s_Land_link_names : Stmt := inClass (top 19) 4
abbrev N_Land_link_names : List Str := ["self", "link"]
abbrev P_Land_link_names : List Str := ["self"]
abbrev s_UnknownName___init__ : Stmt := inClass (top 4) 0
abbrev N_UnknownName___init__ : List Str := ["self", "name"]
abbrev P_UnknownName___init__ : List Str := ["self", "name"]
theorem sc_is_name : FnScope N_is_name P_is_name (defScope s_is_name) := ⟨by kernel_rfl, by kernel_rfl, by kernel_rfl, by decide +kernel, by kernel_rfl, by decide +kernel, by decide +kernel⟩
theorem sc_are_different : FnScope N_are_different P_are_different (defScope s_are_different) := ⟨by kernel_rfl, by kernel_rfl, by kernel_rfl, by decide +kernel, by kernel_rfl, by decide +kernel, by decide +kernel⟩
theorem sc_require : FnScope N_require P_require (defScope s_require) := ⟨by kernel_rfl, by kernel_rfl, by kernel_rfl, by decide +kernel, by kernel_rfl, by decide +kernel, by decide +kernel⟩
theorem sc_checked_times : FnScope N_checked_times P_checked_times (defScope s_checked_times) := ⟨by kernel_rfl, by kernel_rfl, by kernel_rfl, by decide +kernel, by kernel_rfl, by decide +kernel, by decide +kernel⟩
theorem sc_is_number : FnScope N_is_number P_is_number (defScope s_is_number) := ⟨by kernel_rfl, by kernel_rfl, by kernel_rfl, by decide +kernel, by kernel_rfl, by decide +kernel, by decide +kernel⟩
theorem sc_check_winds : FnScope N_check_winds P_check_winds (defScope s_check_winds) := ⟨by kernel_rfl, by kernel_rfl, by kernel_rfl, by decide +kernel, by kernel_rfl, by decide +kernel, by decide +kernel⟩
theorem sc_check_changes : FnScope N_check_changes P_check_changes (defScope s_check_changes) := ⟨by kernel_rfl, by kernel_rfl, by kernel_rfl, by decide +kernel, by kernel_rfl, by decide +kernel, by decide +kernel⟩
theorem sc_blowing : FnScope N_blowing P_blowing (defScope s_blowing) := ⟨by kernel_rfl, by kernel_rfl, by kernel_rfl, by decide +kernel, by kernel_rfl, by decide +kernel, by decide +kernel⟩
theorem sc_chances : FnScope N_chances P_chances (defScope s_chances) := ⟨by kernel_rfl, by kernel_rfl, by kernel_rfl, by decide +kernel, by kernel_rfl, by decide +kernel, by decide +kernel⟩
theorem sc_least_numbers : FnScope N_least_numbers P_least_numbers (defScope s_least_numbers) := ⟨by kernel_rfl, by kernel_rfl, by kernel_rfl, by decide +kernel, by kernel_rfl, by decide +kernel, by decide +kernel⟩
theorem sc_most_numbers : FnScope N_most_numbers P_most_numbers (defScope s_most_numbers) := ⟨by kernel_rfl, by kernel_rfl, by kernel_rfl, by decide +kernel, by kernel_rfl, by decide +kernel, by decide +kernel⟩
theorem sc_check_rows : FnScope N_check_rows P_check_rows (defScope s_check_rows) := ⟨by kernel_rfl, by kernel_rfl, by kernel_rfl, by decide +kernel, by kernel_rfl, by decide +kernel, by decide +kernel⟩
theorem sc_least_minutes : FnScope N_least_minutes P_least_minutes (defScope s_least_minutes) := ⟨by kernel_rfl, by kernel_rfl, by kernel_rfl, by decide +kernel, by kernel_rfl, by decide +kernel, by decide +kernel⟩
theorem sc_caught : FnScope N_caught P_caught (defScope s_caught) := ⟨by kernel_rfl, by kernel_rfl, by kernel_rfl, by decide +kernel, by kernel_rfl, by decide +kernel, by decide +kernel⟩
theorem sc_spread : FnScope N_spread P_spread (defScope s_spread) := ⟨by kernel_rfl, by kernel_rfl, by kernel_rfl, by decide +kernel, by kernel_rfl, by decide +kernel, by decide +kernel⟩
theorem sc_word_of : FnScope N_word_of P_word_of (defScope s_word_of) := ⟨by kernel_rfl, by kernel_rfl, by kernel_rfl, by decide +kernel, by kernel_rfl, by decide +kernel, by decide +kernel⟩
theorem sc_check_fire_at : FnScope N_check_fire_at P_check_fire_at (defScope s_check_fire_at) := ⟨by kernel_rfl, by kernel_rfl, by kernel_rfl, by decide +kernel, by kernel_rfl, by decide +kernel, by decide +kernel⟩
theorem sc_labels_of : FnScope N_labels_of P_labels_of (defScope s_labels_of) := ⟨by kernel_rfl, by kernel_rfl, by kernel_rfl, by decide +kernel, by kernel_rfl, by decide +kernel, by decide +kernel⟩
theorem sc_step_back : FnScope N_step_back P_step_back (defScope s_step_back) := ⟨by kernel_rfl, by kernel_rfl, by kernel_rfl, by decide +kernel, by kernel_rfl, by decide +kernel, by decide +kernel⟩
theorem sc_chain_to : FnScope N_chain_to P_chain_to (defScope s_chain_to) := ⟨by kernel_rfl, by kernel_rfl, by kernel_rfl, by decide +kernel, by kernel_rfl, by decide +kernel, by decide +kernel⟩
theorem sc_paper : FnScope N_paper P_paper (defScope s_paper) := ⟨by kernel_rfl, by kernel_rfl, by kernel_rfl, by decide +kernel, by kernel_rfl, by decide +kernel, by decide +kernel⟩
theorem sc_is_ahead : FnScope N_is_ahead P_is_ahead (defScope s_is_ahead) := ⟨by kernel_rfl, by kernel_rfl, by kernel_rfl, by decide +kernel, by kernel_rfl, by decide +kernel, by decide +kernel⟩
theorem sc_least_labels : FnScope N_least_labels P_least_labels (defScope s_least_labels) := ⟨by kernel_rfl, by kernel_rfl, by kernel_rfl, by decide +kernel, by kernel_rfl, by decide +kernel, by decide +kernel⟩
theorem sc_are_closed : FnScope N_are_closed P_are_closed (defScope s_are_closed) := ⟨by kernel_rfl, by kernel_rfl, by kernel_rfl, by decide +kernel, by kernel_rfl, by decide +kernel, by decide +kernel⟩
theorem sc_is_link : FnScope N_is_link P_is_link (defScope s_is_link) := ⟨by kernel_rfl, by kernel_rfl, by kernel_rfl, by decide +kernel, by kernel_rfl, by decide +kernel, by decide +kernel⟩
theorem sc_is_chain : FnScope N_is_chain P_is_chain (defScope s_is_chain) := ⟨by kernel_rfl, by kernel_rfl, by kernel_rfl, by decide +kernel, by kernel_rfl, by decide +kernel, by decide +kernel⟩
theorem sc_check_paper : FnScope N_check_paper P_check_paper (defScope s_check_paper) := ⟨by kernel_rfl, by kernel_rfl, by kernel_rfl, by decide +kernel, by kernel_rfl, by decide +kernel, by decide +kernel⟩
theorem sc_paper_text : FnScope N_paper_text P_paper_text (defScope s_paper_text) := ⟨by kernel_rfl, by kernel_rfl, by kernel_rfl, by decide +kernel, by kernel_rfl, by decide +kernel, by decide +kernel⟩
theorem sc_is_label : FnScope N_is_label P_is_label (defScope s_is_label) := ⟨by kernel_rfl, by kernel_rfl, by kernel_rfl, by decide +kernel, by kernel_rfl, by decide +kernel, by decide +kernel⟩
theorem sc_is_catch : FnScope N_is_catch P_is_catch (defScope s_is_catch) := ⟨by kernel_rfl, by kernel_rfl, by kernel_rfl, by decide +kernel, by kernel_rfl, by decide +kernel, by decide +kernel⟩
theorem sc_parse_paper : FnScope N_parse_paper P_parse_paper (defScope s_parse_paper) := ⟨by kernel_rfl, by kernel_rfl, by kernel_rfl, by decide +kernel, by kernel_rfl, by decide +kernel, by decide +kernel⟩
theorem sc_check_text : FnScope N_check_text P_check_text (defScope s_check_text) := ⟨by kernel_rfl, by kernel_rfl, by kernel_rfl, by decide +kernel, by kernel_rfl, by decide +kernel, by decide +kernel⟩
theorem sc__law_row : FnScope N__law_row P__law_row (defScope s__law_row) := ⟨by kernel_rfl, by kernel_rfl, by kernel_rfl, by decide +kernel, by kernel_rfl, by decide +kernel, by decide +kernel⟩
theorem sc__law_numbers : FnScope N__law_numbers P__law_numbers (defScope s__law_numbers) := ⟨by kernel_rfl, by kernel_rfl, by kernel_rfl, by decide +kernel, by kernel_rfl, by decide +kernel, by decide +kernel⟩
theorem sc__law_names : FnScope N__law_names P__law_names (defScope s__law_names) := ⟨by kernel_rfl, by kernel_rfl, by kernel_rfl, by decide +kernel, by kernel_rfl, by decide +kernel, by decide +kernel⟩
theorem sc__law_parts : FnScope N__law_parts P__law_parts (defScope s__law_parts) := ⟨by kernel_rfl, by kernel_rfl, by kernel_rfl, by decide +kernel, by kernel_rfl, by decide +kernel, by decide +kernel⟩
theorem sc__law_weather : FnScope N__law_weather P__law_weather (defScope s__law_weather) := ⟨by kernel_rfl, by kernel_rfl, by kernel_rfl, by decide +kernel, by kernel_rfl, by decide +kernel, by decide +kernel⟩
theorem sc__law_wind : FnScope N__law_wind P__law_wind (defScope s__law_wind) := ⟨by kernel_rfl, by kernel_rfl, by kernel_rfl, by decide +kernel, by kernel_rfl, by decide +kernel, by decide +kernel⟩
theorem sc__law_caught : FnScope N__law_caught P__law_caught (defScope s__law_caught) := ⟨by kernel_rfl, by kernel_rfl, by kernel_rfl, by decide +kernel, by kernel_rfl, by decide +kernel, by decide +kernel⟩
theorem sc__law_fire : FnScope N__law_fire P__law_fire (defScope s__law_fire) := ⟨by kernel_rfl, by kernel_rfl, by kernel_rfl, by decide +kernel, by kernel_rfl, by decide +kernel, by decide +kernel⟩
theorem sc__law_rows : FnScope N__law_rows P__law_rows (defScope s__law_rows) := ⟨by kernel_rfl, by kernel_rfl, by kernel_rfl, by decide +kernel, by kernel_rfl, by decide +kernel, by decide +kernel⟩
theorem sc__law_land : FnScope N__law_land P__law_land (defScope s__law_land) := ⟨by kernel_rfl, by kernel_rfl, by kernel_rfl, by decide +kernel, by kernel_rfl, by decide +kernel, by decide +kernel⟩
theorem sc__law_least : FnScope N__law_least P__law_least (defScope s__law_least) := ⟨by kernel_rfl, by kernel_rfl, by kernel_rfl, by decide +kernel, by kernel_rfl, by decide +kernel, by decide +kernel⟩
theorem sc__law_closed : FnScope N__law_closed P__law_closed (defScope s__law_closed) := ⟨by kernel_rfl, by kernel_rfl, by kernel_rfl, by decide +kernel, by kernel_rfl, by decide +kernel, by decide +kernel⟩
theorem sc__law_chain : FnScope N__law_chain P__law_chain (defScope s__law_chain) := ⟨by kernel_rfl, by kernel_rfl, by kernel_rfl, by decide +kernel, by kernel_rfl, by decide +kernel, by decide +kernel⟩
theorem sc__law_right : FnScope N__law_right P__law_right (defScope s__law_right) := ⟨by kernel_rfl, by kernel_rfl, by kernel_rfl, by decide +kernel, by kernel_rfl, by decide +kernel, by decide +kernel⟩
theorem sc__law_spoilt : FnScope N__law_spoilt P__law_spoilt (defScope s__law_spoilt) := ⟨by kernel_rfl, by kernel_rfl, by kernel_rfl, by decide +kernel, by kernel_rfl, by decide +kernel, by decide +kernel⟩
theorem sc__law_text : FnScope N__law_text P__law_text (defScope s__law_text) := ⟨by kernel_rfl, by kernel_rfl, by kernel_rfl, by decide +kernel, by kernel_rfl, by decide +kernel, by decide +kernel⟩
theorem sc__law_refused : FnScope N__law_refused P__law_refused (defScope s__law_refused) := ⟨by kernel_rfl, by kernel_rfl, by kernel_rfl, by decide +kernel, by kernel_rfl, by decide +kernel, by decide +kernel⟩
theorem sc_law : FnScope N_law P_law (defScope s_law) := ⟨by kernel_rfl, by kernel_rfl, by kernel_rfl, by decide +kernel, by kernel_rfl, by decide +kernel, by decide +kernel⟩
theorem sc_Land___init__ : FnScope N_Land___init__ P_Land___init__ (defScope s_Land___init__) := ⟨by kernel_rfl, by kernel_rfl, by kernel_rfl, by decide +kernel, by kernel_rfl, by decide +kernel, by decide +kernel⟩
theorem sc_Land_are_ends : FnScope N_Land_are_ends P_Land_are_ends (defScope s_Land_are_ends) := ⟨by kernel_rfl, by kernel_rfl, by kernel_rfl, by decide +kernel, by kernel_rfl, by decide +kernel, by decide +kernel⟩
theorem sc_Land_checked_link : FnScope N_Land_checked_link P_Land_checked_link (defScope s_Land_checked_link) := ⟨by kernel_rfl, by kernel_rfl, by kernel_rfl, by decide +kernel, by kernel_rfl, by decide +kernel, by decide +kernel⟩
theorem sc_Land_checked_path : FnScope N_Land_checked_path P_Land_checked_path (defScope s_Land_checked_path) := ⟨by kernel_rfl, by kernel_rfl, by kernel_rfl, by decide +kernel, by kernel_rfl, by decide +kernel, by decide +kernel⟩
theorem sc_Land_check_place : FnScope N_Land_check_place P_Land_check_place (defScope s_Land_check_place) := ⟨by kernel_rfl, by kernel_rfl, by kernel_rfl, by decide +kernel, by kernel_rfl, by decide +kernel, by decide +kernel⟩
theorem sc_Land_check_wind : FnScope N_Land_check_wind P_Land_check_wind (defScope s_Land_check_wind) := ⟨by kernel_rfl, by kernel_rfl, by kernel_rfl, by decide +kernel, by kernel_rfl, by decide +kernel, by decide +kernel⟩
theorem sc_Paper___init__ : FnScope N_Paper___init__ P_Paper___init__ (defScope s_Paper___init__) := ⟨by kernel_rfl, by kernel_rfl, by kernel_rfl, by decide +kernel, by kernel_rfl, by decide +kernel, by decide +kernel⟩
theorem sc_Land_link_names : FnScope N_Land_link_names P_Land_link_names (defScope s_Land_link_names) := ⟨by kernel_rfl, by kernel_rfl, by kernel_rfl, by decide +kernel, by kernel_rfl, by decide +kernel, by decide +kernel⟩
/-- a def of the top, with its place -/
def FnG (K : PySem.W.Frag) (mg : Str → Option Value) (x : Str) (st : Stmt) : Prop := mg x = some (.ref (He.ga K x)) ∧ ∃ fd, FunD K x x (defArgs st) (defBody st) (defScope st) [] [] (He.ga K x) fd
/-- a method of a class of the top -/
def FnM (K : PySem.W.Frag) (c m q : Str) (st : Stmt) (dvs : List V) (kws : List (Str × V)) : Prop := Meth K (He.ga K c) m (He.ma K (He.ga K c) m) ∧ ∃ fd, FunD K m q (defArgs st) (defBody st) (defScope st) dvs kws (He.ma K (He.ga K c) m) fd
structure Tx (K : PySem.W.Frag) (mg : Str → Option Value) : Prop where
  b_len : mg "len" = none
  b_abs : mg "abs" = none
  b_max : mg "max" = none
  b_min : mg "min" = none
  b_int : mg "int" = none
  b_str : mg "str" = none
  b_tuple : mg "tuple" = none
  b_list : mg "list" = none
  b_sorted : mg "sorted" = none
  b_zip : mg "zip" = none
  b_enumerate : mg "enumerate" = none
  b_range : mg "range" = none
  b_all : mg "all" = none
  b_any : mg "any" = none
  b_isinstance : mg "isinstance" = none
  b_bool : mg "bool" = none
  b_super : mg "super" = none
  b_ValueError : mg "ValueError" = none
  c_MOST_NAME_CHARS : ∃ t, mg "MOST_NAME_CHARS" = some (.int 12 t)
  c_MOST_WINDS : ∃ t, mg "MOST_WINDS" = some (.int 4 t)
  c_MOST_PLACES : ∃ t, mg "MOST_PLACES" = some (.int 24 t)
  c_MOST_LINKS : ∃ t, mg "MOST_LINKS" = some (.int 60 t)
  c_MOST_PATHS : ∃ t, mg "MOST_PATHS" = some (.int 60 t)
  c_MOST_MINUTES : ∃ t, mg "MOST_MINUTES" = some (.int 1000 t)
  c_MOST_DIGITS : ∃ t, mg "MOST_DIGITS" = some (.int 6 t)
  c_MOST_CHANGES : ∃ t, mg "MOST_CHANGES" = some (.int 40 t)
  c_MOST_MINUTE : ∃ t, mg "MOST_MINUTE" = some (.int 100000 t)
  c_NAME_CHARS : ∃ t, mg "NAME_CHARS" = some (.str chars t)
  c_DIGITS : ∃ t, mg "DIGITS" = some (.str digits t)
  c_NO_LINK : ∃ t, mg "NO_LINK" = some (.str "-" t)
  c_WORDS : ∃ a, mg "WORDS" = some (.ref a) ∧ ∀ H, SqT K H a [.str "never", .str "maybe", .str "surely"]
  f_is_name : FnG K mg "is_name" s_is_name
  f_are_different : FnG K mg "are_different" s_are_different
  f_require : FnG K mg "require" s_require
  f_checked_times : FnG K mg "checked_times" s_checked_times
  f_is_number : FnG K mg "is_number" s_is_number
  f_check_winds : FnG K mg "check_winds" s_check_winds
  f_check_changes : FnG K mg "check_changes" s_check_changes
  f_blowing : FnG K mg "blowing" s_blowing
  f_chances : FnG K mg "chances" s_chances
  f_least_numbers : FnG K mg "least_numbers" s_least_numbers
  f_most_numbers : FnG K mg "most_numbers" s_most_numbers
  f_check_rows : FnG K mg "check_rows" s_check_rows
  f_least_minutes : FnG K mg "least_minutes" s_least_minutes
  f_caught : FnG K mg "caught" s_caught
  f_spread : FnG K mg "spread" s_spread
  f_word_of : FnG K mg "word_of" s_word_of
  f_check_fire_at : FnG K mg "check_fire_at" s_check_fire_at
  f_labels_of : FnG K mg "labels_of" s_labels_of
  f_step_back : FnG K mg "step_back" s_step_back
  f_chain_to : FnG K mg "chain_to" s_chain_to
  f_paper : FnG K mg "paper" s_paper
  f_is_ahead : FnG K mg "is_ahead" s_is_ahead
  f_least_labels : FnG K mg "least_labels" s_least_labels
  f_are_closed : FnG K mg "are_closed" s_are_closed
  f_is_link : FnG K mg "is_link" s_is_link
  f_is_chain : FnG K mg "is_chain" s_is_chain
  f_check_paper : FnG K mg "check_paper" s_check_paper
  f_paper_text : FnG K mg "paper_text" s_paper_text
  f_is_label : FnG K mg "is_label" s_is_label
  f_is_catch : FnG K mg "is_catch" s_is_catch
  f_parse_paper : FnG K mg "parse_paper" s_parse_paper
  f_check_text : FnG K mg "check_text" s_check_text
  f__law_row : FnG K mg "_law_row" s__law_row
  f__law_numbers : FnG K mg "_law_numbers" s__law_numbers
  f__law_names : FnG K mg "_law_names" s__law_names
  f__law_parts : FnG K mg "_law_parts" s__law_parts
  f__law_weather : FnG K mg "_law_weather" s__law_weather
  f__law_wind : FnG K mg "_law_wind" s__law_wind
  f__law_caught : FnG K mg "_law_caught" s__law_caught
  f__law_fire : FnG K mg "_law_fire" s__law_fire
  f__law_rows : FnG K mg "_law_rows" s__law_rows
  f__law_land : FnG K mg "_law_land" s__law_land
  f__law_least : FnG K mg "_law_least" s__law_least
  f__law_closed : FnG K mg "_law_closed" s__law_closed
  f__law_chain : FnG K mg "_law_chain" s__law_chain
  f__law_right : FnG K mg "_law_right" s__law_right
  f__law_spoilt : FnG K mg "_law_spoilt" s__law_spoilt
  f__law_text : FnG K mg "_law_text" s__law_text
  f__law_refused : FnG K mg "_law_refused" s__law_refused
  f_law : FnG K mg "law" s_law
  g_Land : mg "Land" = some (.ref (He.ga K "Land"))
  cl_Land : Cls K (He.ga K "Land")
  mk_Land : Mk K (He.ga K "Land") (He.ma K (He.ga K "Land") "__init__")
  na_winds : NoAttr K (He.ga K "Land") "winds"
  na_places : NoAttr K (He.ga K "Land") "places"
  na_links : NoAttr K (He.ga K "Land") "links"
  na_paths : NoAttr K (He.ga K "Land") "paths"
  m_are_ends : FnM K "Land" "are_ends" "Land.are_ends" s_Land_are_ends [] []
  m_checked_link : FnM K "Land" "checked_link" "Land.checked_link" s_Land_checked_link [] []
  m_checked_path : FnM K "Land" "checked_path" "Land.checked_path" s_Land_checked_path [] []
  m_check_place : FnM K "Land" "check_place" "Land.check_place" s_Land_check_place [] []
  m_check_wind : FnM K "Land" "check_wind" "Land.check_wind" s_Land_check_wind [] []
  g_Paper : mg "Paper" = some (.ref (He.ga K "Paper"))
  cl_Paper : Cls K (He.ga K "Paper")
  mk_Paper : Mk K (He.ga K "Paper") (He.ma K (He.ga K "Paper") "__init__")
  na_word : NoAttr K (He.ga K "Paper") "word"
  na_labels : NoAttr K (He.ga K "Paper") "labels"
  na_chain : NoAttr K (He.ga K "Paper") "chain"
  i_Paper : ∃ fd, FunD K "__init__" "Paper.__init__" (defArgs s_Paper___init__) (defBody s_Paper___init__) (defScope s_Paper___init__) [] [] (He.ma K (He.ga K "Paper") "__init__") fd
  i_Land : ∃ (e1 e2 : Addr) (fd : FuncData), FunD K "__init__" "Land.__init__" (defArgs s_Land___init__) (defBody s_Land___init__) (defScope s_Land___init__) [] [("links", .ref e1), ("paths", .ref e2)] (He.ma K (He.ga K "Land") "__init__") fd
  p_link_names : ∃ (p g : Addr) (fd : FuncData), PropOf K (He.ga K "Land") "link_names" p g ∧ FunD K "link_names" "Land.link_names" (defArgs s_Land_link_names) (defBody s_Land_link_names) (defScope s_Land_link_names) [] [] g fd

section
variable {X : Cx} {ro : List (Option D)} {pos : Pos} {x : Str}
theorem de_gI {i : Int} (hg : X.env.kindOf x = some .globalImplicit) (h : ∃ t, X.mg x = some (.int i t)) (hd : (x == ("__debug__" : Str)) = false := by kernel_rfl) : DE X (.Name x pos) ro (di i) := let ⟨t, e⟩ := h; de_glob hg e ⟨t, rfl⟩ hd
theorem de_gS {z : Str} (hg : X.env.kindOf x = some .globalImplicit) (h : ∃ t, X.mg x = some (.str z t)) (hd : (x == ("__debug__" : Str)) = false := by kernel_rfl) : DE X (.Name x pos) ro (ds z) := let ⟨t, e⟩ := h; de_glob hg e ⟨t, rfl⟩ hd
end
section
variable {P : Program} {w : World} {K : PySem.W.Frag} {mg : Str → Option Value} {base : Heap} {k : Nat} {x : Str} {st : Stmt} {N ps : List Str} {R : List D → D → Prop}
/-- a def of the top, called by its name: it hands back a datum -/
theorem calD (G : FnG K mg x st) (S : FnScope N ps (defScope st)) (len : ∀ ds d, R ds d → ds.length = ps.length)
    (hb : ∀ (kV doc pm : Value) (an : Option Addr) (cdv ct : Value) (us : List Value), us.length = ps.length → bindArgs (PySem.W.fnOf x x (defArgs st) (defBody st) (defScope st) .none kV doc pm an cdv ct) ⟨us, []⟩ = pure (ps.zip us))
    (h : ∀ (cdv : Value) (f : Addr) (A : Around) (outer : List Env) (s : Shared) (H : Hp) (E : XK) (ds : List D) (d : D), R ds d → Room k (A.deeper (envOfC x (defScope st) s.heap.objs.size f cdv)) →
      DSs (cxOf L2.CX0 P w K mg base N x (defScope st) f cdv A outer s H E).nox (defBody st) (argS ds N.length) [] { nx := fun _ _ => d = dn, rt := fun r => r = .dat d ∨ r = .new d }) : Cal P w K mg base (k + 1) x (spD K R) [] := by
  obtain ⟨g, fd, F⟩ := G
  exact ⟨_, fd, ps, [], def_D F S len fun cdv A outer s H E ds d hR hr => h cdv _ A outer s H E ds d hR hr, g, F.kp, F.bindsN hb, .nil⟩
/-- .. a new container -/
theorem calN (G : FnG K mg x st) (S : FnScope N ps (defScope st)) (len : ∀ ds d, R ds d → ds.length = ps.length)
    (hb : ∀ (kV doc pm : Value) (an : Option Addr) (cdv ct : Value) (us : List Value), us.length = ps.length → bindArgs (PySem.W.fnOf x x (defArgs st) (defBody st) (defScope st) .none kV doc pm an cdv ct) ⟨us, []⟩ = pure (ps.zip us))
    (h : ∀ (cdv : Value) (f : Addr) (A : Around) (outer : List Env) (s : Shared) (H : Hp) (E : XK) (ds : List D) (d : D), R ds d → Room k (A.deeper (envOfC x (defScope st) s.heap.objs.size f cdv)) →
      DSs (cxOf L2.CX0 P w K mg base N x (defScope st) f cdv A outer s H E).nox (defBody st) (argS ds N.length) [] { nx := fun _ _ => False, rt := fun r => r = .new d }) : Cal P w K mg base (k + 1) x (spN K R) [] := by
  obtain ⟨g, fd, F⟩ := G
  exact ⟨_, fd, ps, [], def_N F S len fun cdv A outer s H E ds d hR hr => h cdv _ A outer s H E ds d hR hr, g, F.kp, F.bindsN hb, .nil⟩
/-- a method -/
theorem metD {c m q : Str} (cl : Cls K (He.ga K c)) (G : FnM K c m q st [] []) (S : FnScope N ps (defScope st)) (len : ∀ ds d, R ds d → ds.length = ps.length)
    (hb : ∀ (kV doc pm : Value) (an : Option Addr) (cdv ct : Value) (us : List Value), us.length = ps.length → bindArgs (PySem.W.fnOf m q (defArgs st) (defBody st) (defScope st) .none kV doc pm an cdv ct) ⟨us, []⟩ = pure (ps.zip us))
    (h : ∀ (cdv : Value) (f : Addr) (A : Around) (outer : List Env) (s : Shared) (H : Hp) (E : XK) (ds : List D) (d : D), R ds d → Room k (A.deeper (envOfC q (defScope st) s.heap.objs.size f cdv)) →
      DSs (cxOf L2.CX0 P w K mg base N q (defScope st) f cdv A outer s H E).nox (defBody st) (argS ds N.length) [] { nx := fun _ _ => d = dn, rt := fun r => r = .dat d ∨ r = .new d }) : Met P w K mg base (k + 1) (He.ga K c) m (spD K R) [] := by
  obtain ⟨me, fd, F⟩ := G
  exact ⟨_, fd, ps, [], cl, me, def_D F S len fun cdv A outer s H E ds d hR hr => h cdv _ A outer s H E ds d hR hr, F.bindsN hb, .nil⟩
end
end Ef
set_option maxRecDepth 100000
set_option maxHeartbeats 4000000
/-! EfG: special rules: tuple(list) and its index(), min of a list. -/
namespace Ef
open PySem L2 C8 PyProof.Rows PySem.W

section
variable {X : Cx} {e e1 e2 a b c o : Expr} {es : List Expr} {ro : List (Option D)} {d da db' dc : D} {ds' : List D} {pos apos cpos p kp : Pos} {ba bb : Bool} {x m : Str}

/-! ### tuple(list), to be asked by index() -/
theorem call_tuple_fz : CallR X (.type "tuple") (fun xs H Q => ∃ p ys, xs = [.ref p] ∧ SqL X.K H p ys ∧ ∀ l o, H l = none → o.dict = none → Q (.ref l) (upd H l (.frz o (.tup ys)))) := by
  intro pins s σ H xs us Q I r h
  obtain ⟨p, ys, rfl, hq, q⟩ := h
  obtain ⟨u, rfl, rx⟩ := vals1 r
  cases rx
  obtain ⟨its, r', pl, hz⟩ := I.list hq
  have hlen := r'.length
  refine call_tuple_list pl.isList (fun h' kp => ?_) (by simp only [List.size_toArray] <;> omega)
  have I1 : Inv X pins σ H { s with heap := h' } := I.kept (t' := s.toks) kp
  have I2 : Inv X pins σ (upd H h'.objs.size (.frz { cls := .type "tuple", data := .seq its.toArray } (.tup ys))) { s with heap := h'.push { cls := .type "tuple", data := .seq its.toArray } } :=
    I1.laid (t' := s.toks) (fun b o e => Heap.get?_push_of_some _ e) (Nat.le_refl _) (show ObjOk X.prog X.w _ _ _ (.frz _ (.tup ys)) from ⟨Heap.get?_push_size _ rfl, hz, its, r', IsTup.new _ _⟩)
  exact ⟨.ref h'.objs.size, _, I2, rfl, q _ _ (I1.hok.fresh (Nat.le_refl _)) rfl⟩
theorem Give.newX {K : PySem.W.Frag} {F H : Hp} {Q : VK} {vs : List V} {ds : List D} {o : Obj} (q : Give K (.tix ds) F H Q) (hs : Sub F H) (r : RepA K F vs ds) {p : Addr} (hp : H p = none) (n : o.dict = none) : Q (.ref p) (upd H p (.frz o (.tup vs))) := by
  have fp := hs.none hp
  have s : Sub F (upd F p (.frz o (.tup vs))) := Sub.upd fp
  exact q (.ref p) (upd F p (.frz o (.tup vs))) _ ((Grow.mk .rfl (sub_upd hs fp) (Sub.upd hp) (fun a o h n => by rw [n] at h; cases h) : Grow F H F (upd H p (.frz o (.tup vs)))).freeze hp fp upd_same) (.tix upd_same n (r.mono s))
theorem de_tixL {xs : List D} (hg : X.env.kindOf "tuple" = some .globalImplicit) (hm : X.mg "tuple" = none) (ha : DA X [e] ro [.lst xs])
    (he : starEach [e] X.env = (false, eval e X.env) :: starEach [] X.env := by kernel_rfl) (hpl : (backTo pos (starEach [] X.env)).any (·.1) = false := by kernel_rfl) : DE X (.Call (.Name "tuple" p) [e] [] pos) ro (.tix xs) :=
  de_Ty (by decide +kernel) (by decide +kernel) (by decide +kernel) ⟨_, call_tuple_fz, fun vs F H Q hs r q => by
    obtain ⟨v, rfl, rr⟩ := one_of r
    cases rr with
    | lst h1 a1 => exact ⟨_, _, rfl, .inl (.inl (hs _ _ h1)), fun l o hl n => q.newX hs a1 hl n⟩⟩ hg hm ha he hpl
theorem de_tixT {xs : List D} (hg : X.env.kindOf "tuple" = some .globalImplicit) (hm : X.mg "tuple" = none) (ha : DA X [e] ro [.tix xs])
    (he : starEach [e] X.env = (false, eval e X.env) :: starEach [] X.env := by kernel_rfl) (hpl : (backTo pos (starEach [] X.env)).any (·.1) = false := by kernel_rfl) : DE X (.Call (.Name "tuple" p) [e] [] pos) ro (.tix xs) :=
  de_Ty (by decide +kernel) (by decide +kernel) (by decide +kernel) ⟨_, call_tuple_of, fun vs F H Q hs r q => by
    obtain ⟨v, rfl, rr⟩ := one_of r
    cases rr with
    | tix h1 n a1 => exact ⟨_, _, rfl, .inr ⟨.inl (.inr ⟨_, hs _ _ h1⟩), q.done hs (.tix h1 n a1)⟩⟩⟩ hg hm ha he hpl
def rIdx (K : PySem.W.Frag) (x : V) (xs : List V) (H : Hp) (Q : VK) : Prop := ∃ p, ∃ ys : List Str, ∃ z j, x = .ref p ∧ xs = [.str z] ∧ SqT K H p (ys.map V.str) ∧ ys[j]? = some z ∧ (∀ m, m < j → ys[m]? ≠ some z) ∧ Q (.int (j : Nat)) H
theorem pe_tix {to : TE} {t : TA} (ho : PE X o to) (ha : PA X (e :: es) t)
    (hbase : attributeBase o "index" X.env (eval o X.env) = eval o X.env)
    (hfew : ((backTo cpos (starEach (e :: es) X.env)).all (fun x => !x.1) && (backToKw cpos (keywordEach [] X.env)).all (fun x => x.1.isSome)
      && decide ((e :: es).length + ([] : List Keyword).length + (if ([] : List Keyword).isEmpty then 0 else 1) < 30)) = true)
    (hline : (apos.endLine == cpos.line) = true) (hs : starEach (e :: es) X.env = (false, eval e X.env) :: starEach es X.env) (hplain : (backTo cpos (starEach es X.env)).any (·.1) = false) :
    PE X (.Call (.Attribute o "index" apos) (e :: es) [] cpos) (fun σ H Q => to σ H fun x H1 => (∃ p ob xs, x = .ref p ∧ H1 p = some (.frz ob (.tup xs)) ∧ ob.dict = none) ∧ t σ H1 fun xs H2 => rIdx X.K x xs H2 Q) := by
  refine ⟨fun pins s σ H Q I h => ?_⟩
  refine wpAny_Call_method_late hbase hfew hline rfl (thn (ho.run pins s σ H _ I h) fun v s1 ⟨x, H1, I1, r1, ⟨p, ob, xs, hx, hf, hd⟩, q1⟩ => ?_)
  subst hx
  cases r1
  obtain ⟨hg, hz, its, rv, ⟨o', ho', hc, n, hdt⟩⟩ := I1.hok p _ hf
  have eo : o' = ob := Option.some.inj (ho'.symm.trans hg)
  subst eo
  refine ⟨"tuple", _, PySem.F.plainAttrs_tuple, PySem.F.slot_tuple_index, PySem.F.type_tuple_index, ⟨o', ho', hc⟩, fun a e => by cases e; exact ⟨o', ho', hd⟩, ?_⟩
  have hA := ha.run cpos pins s1 σ H1 _ I1 q1
  rw [hs] at hA ⊢
  refine Calls.callWith_builtin (by show (false || (backTo cpos (starEach es X.env)).any (·.1)) = false; rw [hplain] <;> rfl) (Calls.evalArgs_plain ?_)
  exact thn hA fun us s2 ⟨vs, H2, I2, r2, q2⟩ => mt_tup_index pins s2 σ H2 (.ref p) vs _ us Q I2 rfl r2 q2
/-- t.index(z): the place j -/
theorem de_tix {ys : List Str} {z : Str} {j : Nat} (ho : DE X o ro (.tix (ys.map ds))) (ha : DE X e ro (ds z)) (hy : ys[j]? = some z) (hno : ∀ m, m < j → ys[m]? ≠ some z)
    (hbase : attributeBase o "index" X.env (eval o X.env) = eval o X.env := by kernel_rfl)
    (hfew : ((backTo cpos (starEach [e] X.env)).all (fun x => !x.1) && (backToKw cpos (keywordEach [] X.env)).all (fun x => x.1.isSome)
      && decide (([e] : List Expr).length + ([] : List Keyword).length + (if ([] : List Keyword).isEmpty then 0 else 1) < 30)) = true := by kernel_rfl)
    (hline : (apos.endLine == cpos.line) = true := by kernel_rfl) (hs : starEach [e] X.env = (false, eval e X.env) :: starEach [] X.env := by kernel_rfl) (hplain : (backTo cpos (starEach [] X.env)).any (·.1) = false := by kernel_rfl) :
    DE X (.Call (.Attribute o "index" apos) [e] [] cpos) ro (di (j : Nat)) := fun σ F H S s Q q =>
  PE.we (pe_tix pe_self (pa_cons pe_self pa_nil hs) hbase hfew hline hs hplain) (ho σ F H S s _ fun v F1 H1 g1 r1 => by
    cases r1 with
    | tix h1 n a1 =>
      refine ⟨⟨_, _, _, rfl, g1.fh _ _ h1, n⟩, ha σ F1 H1 (S.mono g1.ff) g1.fh _ fun w F2 H2 g2 r2 => ?_⟩
      cases r2
      have e1 : ys.map ds = (ys.map V.str).map D.v := by rw [List.map_map]; rfl
      rw [e1] at a1
      have e2 := RepA.unflat a1
      subst e2
      exact ⟨_, ys, z, j, rfl, rfl, .inl (.inr ⟨_, g2.fh _ _ (g2.ff _ _ h1)⟩), hy, hno, q _ F2 H2 (g1.trans g2) (.v _)⟩)

/-! ### min of a list -/
theorem toD_inj {α : Type} [DecidableEq α] [Datum α] {a b : α} (h : Datum.toD a = Datum.toD b) : a = b := by
  have h1 := Datum.eqv a b
  rw [h, Datum.eqv b b, decide_eq_true rfl] at h1
  exact of_decide_eq_true h1.symm
theorem holds_at {h : Heap} {α : Type} [DecidableEq α] [Datum α] : ∀ {vs : List Value} {xs : List α} {i : Nat} {v : Value} {y : α}, HoldAll h vs xs → vs[i]? = some v → Holds h v y → xs[i]? = some y
  | [], xs, i, v, y, _, e, _ => by simp at e
  | u :: vs, [], i, v, y, ⟨as, H⟩, e, _ => by cases H
  | u :: vs, x :: xs, 0, v, y, ⟨as, H⟩, e, ⟨bs, r⟩ => by
    have H : ReadsAll h (u :: vs) (Datum.toD x :: xs.map Datum.toD) as := H
    cases H with
    | cons h1 h2 =>
      cases e
      have := (PyProof.Rows.reads_det (fun _ _ e _ => e) h1 r).1
      rw [toD_inj this]; rfl
  | u :: vs, x :: xs, i + 1, v, y, ⟨as, H⟩, e, r => by
    have H : ReadsAll h (u :: vs) (Datum.toD x :: xs.map Datum.toD) as := H
    cases H with
    | cons h1 h2 => exact holds_at (vs := vs) (xs := xs) (i := i) ⟨_, h2⟩ (by simpa using e) r
theorem cr_minL {α : Type} [DecidableEq α] [DatumOrd α] (hc : X.calm = true) (hu : X.A.units + 1 + Datum.depth α < cLine) : CallR X (.builtin "min") (fun vs H Q => ∃ a ys, ∃ (b : α) (bs : List α), vs = [.ref a] ∧ SqL X.K H a ys ∧ DpAll X.K H ys ((b :: bs).map Datum.toD) ∧
    ∀ (i : Nat) y, ys[i]? = some y → (b :: bs)[i]? = some (minOf b bs) → Q y H) := by
  intro pins s σ H vs us Q I r h
  obtain ⟨a, ys, b, bs, rfl, hq, hd, q⟩ := h
  obtain ⟨u, rfl, rx⟩ := vals1 r
  cases rx
  obtain ⟨its, r', pl, hz⟩ := I.list hq
  obtain ⟨as, hr⟩ := Dp.readsAll I _ _ its hd r'
  refine min_list_datum (x := b) (xs := bs) (I.ok.hd hc) pl.isList ⟨as, by rw [show its.toArray.toList = its by simp]; exact hr⟩ hu fun i v h' tk hv ho kp => ?_
  have hv' : its[i]? = some v := by simpa using hv
  have hx := holds_at (α := α) (HoldAll.keeps kp ⟨as, hr⟩) hv' ho
  obtain ⟨y, hy, ry⟩ := (show ∃ y, ys[i]? = some y ∧ RelV y v from by
    have hl : i < ys.length := by rw [r'.length]; exact (List.getElem?_eq_some_iff.mp hv').1
    obtain ⟨w, hw, rw'⟩ := r'.get (List.getElem?_eq_getElem hl)
    rw [hv'] at hw; cases hw
    exact ⟨_, List.getElem?_eq_getElem hl, rw'⟩)
  exact ⟨y, H, I.kept kp, ry, q i y hy hx⟩
theorem cr_minDef {α : Type} [DecidableEq α] [DatumOrd α] (hc : X.calm = true) (hu : X.A.units + 1 + Datum.depth α < cLine) : CallRK X (.builtin "min") [Str.ofString "default"] (fun vs zs H Q => ∃ a ys z, ∃ (bs : List α), vs = [.ref a] ∧ zs = [z] ∧ SqL X.K H a ys ∧ DpAll X.K H ys (bs.map Datum.toD) ∧
    (bs = [] → Q z H) ∧ ∀ b bs', bs = b :: bs' → ∀ (i : Nat) y, ys[i]? = some y → bs[i]? = some (minOf b bs') → Q y H) := by
  intro pins s σ H vs zs us ws Q I r rz h
  obtain ⟨a, ys, z, bs, rfl, rfl, hq, hd, q0, q⟩ := h
  obtain ⟨u, rfl, rx⟩ := vals1 r
  obtain ⟨w, rfl, rw'⟩ := vals1 rz
  cases rx
  obtain ⟨its, r', pl, hz⟩ := I.list hq
  obtain ⟨as, hr⟩ := Dp.readsAll I _ _ its hd r'
  refine min_list_datum_default (xs := bs) (I.ok.hd hc) pl.isList ⟨as, by rw [show its.toArray.toList = its by simp]; exact hr⟩ hu (fun e h' tk kp => ⟨z, H, I.kept kp, rw', q0 e⟩) fun b bs' i v h' tk e hv ho kp => ?_
  have hv' : its[i]? = some v := by simpa using hv
  have hx := holds_at (α := α) (HoldAll.keeps kp ⟨as, hr⟩) hv' ho
  obtain ⟨y, hy, ry⟩ := (show ∃ y, ys[i]? = some y ∧ RelV y v from by
    have hl : i < ys.length := by rw [r'.length]; exact (List.getElem?_eq_some_iff.mp hv').1
    obtain ⟨w, hw, rw'⟩ := r'.get (List.getElem?_eq_getElem hl)
    rw [hv'] at hw; cases hw
    exact ⟨_, List.getElem?_eq_getElem hl, rw'⟩)
  exact ⟨y, H, I.kept kp, ry, q b bs' e i y hy hx⟩
theorem plains_map {α : Type} {enc : α → D} (h : ∀ a, (enc a).plain = true) : ∀ xs : List α, D.plains (xs.map enc) = true
  | [] => rfl
  | x :: xs => by
    show (D.plain (enc x) && D.plains (xs.map enc)) = true
    rw [h, plains_map h xs]; rfl
theorem pys_map {α : Type} [DecidableEq α] [Datum α] {enc : α → D} (h : ∀ a, (enc a).py = Datum.toD a) : ∀ xs : List α, D.pys (xs.map enc) = xs.map Datum.toD
  | [] => rfl
  | x :: xs => by
    show D.py (enc x) :: D.pys (xs.map enc) = _
    rw [h, pys_map h xs]; rfl
theorem de_minL {α : Type} [DecidableEq α] [DatumOrd α] {enc : α → D} {b : α} {bs : List α} (hc : X.calm = true) (hu : X.A.units + 1 + Datum.depth α < cLine) (h1 : ∀ a, (enc a).plain = true) (h2 : ∀ a, (enc a).py = Datum.toD a) (hg : X.env.kindOf "min" = some .globalImplicit) (hm : X.mg "min" = none) (ha : DA X [e] ro [.lst ((b :: bs).map enc)])
    (he : starEach [e] X.env = (false, eval e X.env) :: starEach [] X.env := by kernel_rfl) (hpl : (backTo pos (starEach [] X.env)).any (·.1) = false := by kernel_rfl) : DE X (.Call (.Name "min" p) [e] [] pos) ro (enc (minOf b bs)) :=
  de_B (by decide +kernel) (by decide +kernel) (by decide +kernel) ⟨_, cr_minL hc hu, fun vs F H Q hs r q => by
    obtain ⟨v, rfl, rr⟩ := one_of r
    cases rr with
    | lst hl a1 =>
      refine ⟨_, _, b, bs, rfl, .inl (.inl (hs _ _ hl)), ?_, fun i y hy hx => ?_⟩
      · rw [← pys_map h2]; exact (a1.mono hs).dps (plains_map h1 _)
      · obtain ⟨d, hd, rd⟩ := a1.get' hy
        rw [List.getElem?_map, hx] at hd
        cases hd
        exact q.done hs rd⟩ hg hm ha he hpl
theorem de_minDef {α : Type} [DecidableEq α] [DatumOrd α] {enc : α → D} {bs : List α} {d0 : D} {dp : D} (hc : X.calm = true) (hu : X.A.units + 1 + Datum.depth α < cLine) (h1 : ∀ a, (enc a).plain = true) (h2 : ∀ a, (enc a).py = Datum.toD a) (hg : X.env.kindOf "min" = some .globalImplicit) (hm : X.mg "min" = none) (ha : DA X [e] ro [.lst (bs.map enc)]) (hd : DE X e2 ro d0)
    (h0 : bs = [] → dp = d0) (h3 : ∀ b bs', bs = b :: bs' → dp = enc (minOf b bs'))
    (he : backTo pos (starEach [e] X.env) = (false, eval e X.env) :: backTo pos (starEach [] X.env) := by kernel_rfl) (hpl : (backTo pos (starEach [e] X.env)).any (·.1) = false := by kernel_rfl)
    (hall : (backToKw pos (keywordEach [⟨some "default", e2, kp⟩] X.env)).all (·.1.isSome) = true := by kernel_rfl) (hnone : (backToKw pos (keywordEach [⟨some "default", e2, kp⟩] X.env)).any (·.1.isNone) = false := by kernel_rfl) (hks : (backToKw pos (keywordEach [⟨some "default", e2, kp⟩] X.env)).filterMap (·.1) = [Str.ofString "default"] := by kernel_rfl) :
    DE X (.Call (.Name "min" p) [e] [⟨some "default", e2, kp⟩] pos) ro dp := fun σ F H S hs Q q => by
  refine PE.we (pe_callBK (cr_minDef (α := α) hc hu) hg hm (by decide +kernel) pa_self (pk_cons pe_self pk_nil) (by decide +kernel) (by decide +kernel) he hpl hall hnone hks) (ha σ F H S hs _ fun vs F1 H1 g1 r1 => hd σ F1 H1 (S.mono g1.ff) g1.fh _ fun z F2 H2 g2 r2 => ?_)
  obtain ⟨v, rfl, rr⟩ := one_of r1
  cases rr with
  | lst hl a1 =>
    have a2 := a1.mono g2.ff
    refine ⟨_, _, z, bs, rfl, rfl, .inl (.inl (g2.fh _ _ (g2.ff _ _ hl))), ?_, fun e => ?_, fun b bs' e i y hy hx => ?_⟩
    · rw [← pys_map h2]; exact (a2.mono g2.fh).dps (plains_map h1 _)
    · rw [h0 e] at q; exact q z F2 H2 (g1.trans g2) r2
    · obtain ⟨d, hd, rd⟩ := a2.get' hy
      rw [List.getElem?_map, hx] at hd
      cases hd
      rw [h3 b bs' e] at q
      exact q y F2 H2 (g1.trans g2) rd
end
end Ef
set_option maxRecDepth 100000
set_option maxHeartbeats 4000000
/-! EfGe: enumerate (printed by genEnum.py). -/
namespace Ef
open PySem L2 C8 PyProof.Rows PySem.W

theorem meets_enum1 {v : Value} {o : Obj} {H : Heap → Prop} (B : Begins v o H) :
    Meets (Builtin.«enumerate.__new__» ⟨[.type "enumerate", v], []⟩) (fun _ R s => H s.heap ∧
      R (.ok (.ret (.ref (s.heap.push o).objs.size))) { s with heap := (s.heap.push o).push { cls := .type "enumerate", data := .fields #[.none, .bool false, .ref s.heap.objs.size, rawInt 0, .none, .none] } }) :=
  .of_wp fun prog w A R s h => by
    obtain ⟨hp, g, d, tk, os⟩ := s; obtain ⟨h1, h⟩ := h
    have hsub := sub_enumerate
    have q1 : ∀ {A' : Around} {E : Value → Shared → Prop} {Q : Value → Shared → Prop}, Q (.ref hp.objs.size) ⟨hp.push o, g, d, tk, os⟩ → wpAny (model prog w) A' (pyIter v) Q E ⟨hp, g, d, tk, os⟩ :=
      fun q => B.iter prog w _ _ ⟨hp, g, d, tk, os⟩ _ h1 q
    wp_walk using q1
    refine wpAny_stack_any fun st => wpAny_pure ?_
    split
    · rename_i c _ _ _ _ _
      cases (c == Value.type "enumerate")
      · wp_walk using q1
        exact ⟨_, rfl, h⟩
      · wp_walk using q1
        exact ⟨_, rfl, h⟩
    · wp_walk using q1
      exact ⟨_, rfl, h⟩
section
variable {prog : Program} {w : World} {A : Around} {E : Value → Shared → Prop} {s : Shared}
theorem enum_begins1 {v : Value} {o : Obj} {H : Heap → Prop} {Q : Value → Shared → Prop} (B : Begins v o H) (h1 : H s.heap)
    (h : ∀ h', IsEnum h' (s.heap.objs.size + 1) s.heap.objs.size 0 .none → h'.get? s.heap.objs.size = some o → h'.objs.size = s.heap.objs.size + 2 →
      (∀ b o, s.heap.get? b = some o → h'.get? b = some o) → Q (.ref (s.heap.objs.size + 1)) { s with heap := h' }) :
    wpAny (model prog w) A (call (.type "enumerate") [v]) Q E s := by
  refine callType_new F.called_enumerate (by decide) (F.typeCall_enumerate_1 _) (F.newCall_enumerate_1 _) (fun obj => F.args_object_init_2 obj _) F.entry_enumerate_new
    (meets_enum1 B) ⟨h1, ?_⟩
  have hz : (s.heap.push o).objs.size = s.heap.objs.size + 1 := Heap.size_push ..
  show _ ∧ _
  rw [hz]
  have he : IsEnum ((s.heap.push o).push { cls := .type "enumerate", data := .fields #[.none, .bool false, .ref s.heap.objs.size, rawInt 0, .none, .none] }) (s.heap.objs.size + 1) s.heap.objs.size 0 .none := by
    have := Heap.get?_push_size (s.heap.push o) (o := { cls := .type "enumerate", data := .fields #[.none, .bool false, .ref s.heap.objs.size, rawInt 0, .none, .none] }) rfl
    rw [hz] at this; exact this
  refine ⟨⟨_, he, rfl⟩, h _ he (Heap.get?_push_of_some _ (Heap.get?_push_size _ B.free)) (by rw [Heap.size_push, hz]) fun b o x => Heap.get?_push_of_some _ (Heap.get?_push_of_some _ x)⟩
end
/-- the items of enumerate -/
def enumD (k : Int) (ds : List D) : List D := (List.range ds.length).zipWith (fun (i : Nat) d => .tup [di (k + (i : Int)), d]) ds
theorem enumD_length (k : Int) (ds : List D) : (enumD k ds).length = ds.length := by unfold enumD; rw [List.length_zipWith, List.length_range, Nat.min_self]
theorem enumD_get {k : Int} {ds : List D} {i : Nat} {d : D} (h : (enumD k ds)[i]? = some d) : ∃ y, ds[i]? = some y ∧ d = .tup [di (k + (i : Int)), y] := by
  have hl : i < ds.length := by have := some_lt h; rwa [enumD_length] at this
  unfold enumD at h
  rw [List.getElem?_zipWith, List.getElem?_range hl, List.getElem?_eq_getElem hl] at h
  exact ⟨ds[i], List.getElem?_eq_getElem hl, (Option.some.inj h).symm⟩

/-! ### over a list -/
def IeL (K : PySem.W.Frag) (a : Addr) (k : Int) : It :=
  ⟨fun i H => ∃ (xs : List V) (x : V), SqL K H a xs ∧ xs[i]? = some x, fun i H v H' => ∃ T x, v = .ref T ∧ H T = none ∧ H' = upd H T (.tup [.int (k + (i : Int)), x]) ∧ ∀ xs, SqL K H a xs → xs[i]? = some x, fun i H => ∃ xs : List V, SqL K H a xs ∧ xs.length = i⟩
theorem turn_eL {P : Program} {w : World} {K : PySem.W.Frag} {elts : List Expr} {kk : Nat} {tpos : Pos} (a e it : Addr) (k : Int) :
    Turn P w K (.Tuple elts kk tpos) (IeL K a k) [e, it] e (fun i h => (∃ old, IsEnum h e it (k + (i : Int)) old) ∧ h.IsListIter it a i ∧ e ≠ it) where
  mem := by simp
  obj := fun i h st b hb => by
    obtain ⟨⟨old, he⟩, ⟨o, ho, hc, hd⟩, _⟩ := st
    have e' : b = e ∨ b = it := by simpa using hb
    rcases e' with z | z
    · rw [z]; exact ⟨_, he, fun v q => nomatch q⟩
    · rw [z]; exact ⟨o, ho, fun v q => by rw [hd] at q; cases q⟩
  keep := fun i h h' st k => let ⟨⟨old, he⟩, hi, hne⟩ := st; ⟨⟨old, k e (by simp) _ he⟩, hi.at fun o q => k it (by simp) o q, hne⟩
  item := by
    intro X hP hw hK hc i pins s σ H E I hf st hg
    subst hP hw hK
    obtain ⟨⟨old, he⟩, hit, hne⟩ := st
    obtain ⟨xs, x, hq, hx⟩ := hg
    obtain ⟨its, rv, p, hz⟩ := I.list hq
    have p' := p.isList
    obtain ⟨u, hu, ru⟩ := rv.get hx
    have hel : e < s.heap.objs.size := Heap.lt_size he
    have hil : it < s.heap.objs.size := by obtain ⟨_, q, _⟩ := hit; exact Heap.lt_size q
    have hae : e ≠ a := fun z => by
      obtain ⟨o, ho, hcl, _⟩ := p'
      subst z
      rw [show s.heap.get? e = _ from he] at ho; cases ho; exact absurd hcl (by simp)
    have hai : a ≠ it := fun z => by
      obtain ⟨o, ho, hcl, _⟩ := p'
      obtain ⟨o2, ho2, hcl2, _⟩ := hit
      subst z
      rw [ho] at ho2; cases ho2; rw [hcl] at hcl2; exact absurd hcl2 (by simp)
    have D := Draws.list (prog := X.prog) (w := X.w) (A := X.A.in1) (I.ok.hd hc) it a hai its.toArray
    refine wpAny_pyNext_enum_itemC D he ⟨hit, p'⟩ (by simpa using (List.getElem?_eq_some_iff.mp hu).1) hne (by simp [hne, hae]) fun u' h' tk hP ho ⟨hit', _⟩ hT hsz hk => ?_
    have eu : u' = u := by
      have hP : its.toArray[i]? = some u' := hP
      have : its[i]? = some u' := by simpa using hP
      rw [hu] at this; exact (Option.some.inj this).symm
    subst eu
    refine ⟨_, rfl, wpAny_letOwnedTupleGo_enum (s := { s with heap := h', toks := tk + 1 }) ho fun h'' he' sb => ?_⟩
    have hT2 : h''.get? s.heap.objs.size = some { cls := .type "tuple", data := .seq #[.int (k + (i : Int)) tk, u'] } := (sb.2 _ (Nat.ne_of_gt hel)).trans hT
    have new : ObjOk X.prog X.w (upd H s.heap.objs.size (.tup [.int (k + (i : Int)), x])) h'' s.heap.objs.size (.tup [.int (k + (i : Int)), x]) :=
      ⟨by show 2 ≤ sizeLine; decide, [.int (k + (i : Int)) tk, u'], .cons ⟨_, rfl⟩ (.cons ru .nil), ⟨_, hT2, rfl, _, rfl⟩⟩
    have I1 : Inv X pins σ (upd H s.heap.objs.size (.tup [.int (k + (i : Int)), x])) { s with heap := h'', toks := tk + 1 } :=
      I.turnedNew (ch := [e, it]) (fun b ob hb q => (sb.2 b (fun z => hb (by simp [z]))).trans (hk b ob (fun z => hb (by simp [z])) (fun z => hb (by simp [z])) q)) hf (Nat.le_refl _) new
    refine ⟨.ref s.heap.objs.size, _, I1, rfl, ⟨_, x, rfl, I.hok.fresh (Nat.le_refl _), rfl, fun ys hy => by rw [I.list_inj hy hq]; exact hx⟩, ⟨⟨u', ?_⟩, hit'.at fun o q => (sb.2 it (Ne.symm hne)).trans q, hne⟩, fun b hb => ?_⟩
    · have e1 : k + ((i + 1 : Nat) : Int) = k + (i : Int) + 1 := by omega
      rw [e1]; exact he'
    · have hb' : b < s.heap.objs.size := by
        have e' : b = e ∨ b = it := by simpa using hb
        rcases e' with z | z
        · rw [z]; exact hel
        · rw [z]; exact hil
      rw [upd_ne (Nat.ne_of_lt hb')]
      exact (hf b hb).1
  done := by
    intro X hP hw hK hc i pins s σ H E I hf st hg
    subst hP hw hK
    obtain ⟨⟨old, he⟩, hit, hne⟩ := st
    obtain ⟨xs, hq, hx⟩ := hg
    obtain ⟨its, rv, p, hz⟩ := I.list hq
    have p' := p.isList
    obtain ⟨f0, f1, f2, f3, f4, f5⟩ := hf it (by simp)
    have hai : a ≠ it := fun z => by
      obtain ⟨o, ho, hcl, _⟩ := p'
      obtain ⟨o2, ho2, hcl2, _⟩ := hit
      subst z
      rw [ho] at ho2; cases ho2; rw [hcl] at hcl2; exact absurd hcl2 (by simp)
    have D := Draws.list (prog := X.prog) (w := X.w) (A := X.A.in1) (I.ok.hd hc) it a hai its.toArray
    have en : i = its.toArray.size := by rw [List.size_toArray, ← rv.length]; exact hx.symm
    exact wpAny_pyNext_enum_endD D he (by rw [← en]; exact ⟨hit, p'⟩) fun h' eb => ⟨rfl, I.turned (t' := s.toks) (fun b o hb q => eb b o hb q) f0 f1 f3 f4 f5⟩
  self := fun A i s Q E st h => let ⟨⟨_, he⟩, _⟩ := st; wpAny_pyIter_enum he h
theorem walks_eL {K : PySem.W.Frag} {F : Hp} {p : Addr} {k : Int} {xs : List V} {ds : List D} (h : F p = some (.lst xs)) (r : RepA K F xs ds) : Walks K (IeL K p k) (enumD k ds) F where
  go := fun i H s hi => by
    have hi' : i < xs.length := by rw [r.length]; rwa [enumD_length] at hi
    exact ⟨xs, xs[i], .inl (.inl (s _ _ h)), List.getElem?_eq_getElem hi'⟩
  stop := fun H s => ⟨xs, .inl (.inl (s _ _ h)), by rw [enumD_length]; exact r.length⟩
  yld := fun i d H x H' F' s t e q => by
    obtain ⟨T, y, rfl, hT, rfl, q⟩ := q
    obtain ⟨dy, e2, rfl⟩ := enumD_get e
    obtain ⟨y', e3, ry⟩ := r.get e2
    have e4 := q xs (.inl (.inl (t _ _ (s _ _ h))))
    rw [e3] at e4; cases e4
    exact pair_new t hT (.v _) (ry.mono s)
section
variable {X : Cx} {e e1 e2 a b c o tg : Expr} {es : List Expr} {ro : List (Option D)} {its : List D} {pos apos cpos p tpos : Pos} {elts : List Expr} {kk : Nat}
theorem di_eL (hg : X.env.kindOf "enumerate" = some .globalImplicit) (hm : X.mg "enumerate" = none) (ha : DE X e ro (.lst its))
    (hs : starEach [e] X.env = [(false, eval e X.env)] := by kernel_rfl) : DI X (.Tuple elts kk tpos) (.Call (.Name "enumerate" p) [e] [] pos) ro (enumD 0 its) :=
  ⟨fun σ H R => WE X e σ H fun v H1 => ∃ a xs, v = .ref a ∧ SqL X.K H1 a xs ∧ R (IeL X.K a 0) H1, ⟨fun pins s σ H R I h => by
    refine Call_ (ld_blt I hg hm boot_enumerate (PyProof.Rows.callWith_type1 (thn ((pa_cons pe_self pa_nil hs).run pos pins s σ H (fun vs H1 => ∃ v, vs = [v] ∧ ∃ a xs, v = .ref a ∧ SqL X.K H1 a xs ∧ R (IeL X.K a 0) H1) I (fun pins s I' => thn (h pins s I') fun v s1 ⟨x, H1, I1, r1, q1⟩ => ⟨x, H1, I1, r1, ⟨x, rfl, q1⟩⟩)) fun us s1 ⟨vs, H1, I1, r1, v, ev, a, xs, ex, hq, q⟩ => ?_) hs rfl))
    subst ev ex
    obtain rfl := Vals.ref1 r1
    obtain ⟨its, rv, p', hz⟩ := I1.list hq
    refine enum_begins1 (begins_list a its.toArray) p'.isList fun h' he hit hsz hk => wpAny_pyIter_enum he ?_
    have I2 : Inv X pins σ H1 { s1 with heap := h' } := I1.kept (t' := s1.toks) hk
    refine ⟨s1.heap.objs.size + 1, [s1.heap.objs.size + 1, s1.heap.objs.size], _, _, H1, rfl, I2, turn_eL a (s1.heap.objs.size + 1) s1.heap.objs.size 0, ⟨⟨.none, he⟩, ⟨_, hit, rfl, rfl⟩, Nat.succ_ne_self _⟩, fun b hb => ?_, q⟩
    have e' : b = s1.heap.objs.size + 1 ∨ b = s1.heap.objs.size := by simpa using hb
    have hle : s1.heap.objs.size ≤ b := by
      rcases e' with z | z
      · rw [z]; exact Nat.le_add_right _ _
      · rw [z]; exact Nat.le_refl _
    exact I1.fpOk hle (I1.hok.fresh hle)⟩, fun σ F H S hs R q => ha σ F H S hs _ fun v F' H' g r => by
      cases r with
      | lst h1 a1 => exact ⟨_, _, rfl, .inl (.inl (g.fh _ _ h1)), q _ F' H' g (walks_eL h1 a1)⟩⟩
theorem di_eL2 {k : Int} (hk0 : -(2 ^ 63) ≤ k) (hk1 : k < 2 ^ 63) (hg : X.env.kindOf "enumerate" = some .globalImplicit) (hm : X.mg "enumerate" = none) (ha : DE X e ro (.lst its)) (hk : DE X e2 ro (di k))
    (hs : starEach [e, e2] X.env = (false, eval e X.env) :: starEach [e2] X.env := by kernel_rfl) (hs2 : starEach [e2] X.env = [(false, eval e2 X.env)] := by kernel_rfl) : DI X (.Tuple elts kk tpos) (.Call (.Name "enumerate" p) [e, e2] [] pos) ro (enumD k its) :=
  ⟨fun σ H R => WE X e σ H fun v H1 => WE X e2 σ H1 fun z H2 => z = .int k ∧ ∃ a xs, v = .ref a ∧ SqL X.K H2 a xs ∧ R (IeL X.K a k) H2, ⟨fun pins s σ H R I h => by
    refine Call_ (ld_blt I hg hm boot_enumerate ?_)
    refine PyProof.Rows.callWith_type1 (thn ((pa_cons pe_self (pa_cons pe_self pa_nil hs2) hs).run pos pins s σ H (fun vs H2 => ∃ v z, vs = [v, z] ∧ z = .int k ∧ ∃ a xs, v = .ref a ∧ SqL X.K H2 a xs ∧ R (IeL X.K a k) H2) I (fun pins s I' => thn (h pins s I') fun v s1 ⟨x, H1, I1, r1, q1⟩ => ⟨x, H1, I1, r1, fun pins s I' => thn (q1 pins s I') fun v s2 ⟨x2, H2, I2, r2, q2⟩ => ⟨x2, H2, I2, r2, ⟨x, x2, rfl, q2⟩⟩⟩)) fun us s1 ⟨vs, H1, I1, r1, v, z, ev, ez, a, xs, ex, hq, q⟩ => ?_) hs (by rw [hs2]; rfl)
    subst ev ez ex
    obtain ⟨u1, u2, rfl, ru, t, rfl⟩ := vals2 r1
    obtain rfl : u1 = .ref a := ru
    obtain ⟨its, rv, p', hz⟩ := I1.list hq
    refine enum_begins (begins_list a its.toArray) p'.isList hk0 hk1 fun h' he hit hsz hk => wpAny_pyIter_enum he ?_
    have I2 : Inv X pins σ H1 { s1 with heap := h' } := I1.kept (t' := s1.toks) hk
    refine ⟨s1.heap.objs.size + 1, [s1.heap.objs.size + 1, s1.heap.objs.size], _, _, H1, rfl, I2, turn_eL a (s1.heap.objs.size + 1) s1.heap.objs.size k, ⟨⟨.none, by rw [show k + ((0 : Nat) : Int) = k from Int.add_zero k]; exact he⟩, ⟨_, hit, rfl, rfl⟩, Nat.succ_ne_self _⟩, fun b hb => ?_, q⟩
    have e' : b = s1.heap.objs.size + 1 ∨ b = s1.heap.objs.size := by simpa using hb
    have hle : s1.heap.objs.size ≤ b := by
      rcases e' with z | z
      · rw [z]; exact Nat.le_add_right _ _
      · rw [z]; exact Nat.le_refl _
    exact I1.fpOk hle (I1.hok.fresh hle)⟩, fun σ F H S hs R q => ha σ F H S hs _ fun v F' H' g r => hk σ F' H' (S.mono g.ff) g.fh _ fun z F2 H2 g2 r2 => by
      cases r2
      cases r with
      | lst h1 a1 => exact ⟨rfl, _, _, rfl, .inl (.inl (g2.fh _ _ (g2.ff _ _ h1))), q _ F2 H2 (g.trans g2) (walks_eL (g2.ff _ _ h1) (a1.mono g2.ff))⟩⟩
end

/-! ### over a tuple -/
def IeT (K : PySem.W.Frag) (a : Addr) (k : Int) : It :=
  ⟨fun i H => ∃ (xs : List V) (x : V), SqT K H a xs ∧ xs[i]? = some x, fun i H v H' => ∃ T x, v = .ref T ∧ H T = none ∧ H' = upd H T (.tup [.int (k + (i : Int)), x]) ∧ ∀ xs, SqT K H a xs → xs[i]? = some x, fun i H => ∃ xs : List V, SqT K H a xs ∧ xs.length = i⟩
theorem turn_eT {P : Program} {w : World} {K : PySem.W.Frag} {elts : List Expr} {kk : Nat} {tpos : Pos} (a e it : Addr) (k : Int) :
    Turn P w K (.Tuple elts kk tpos) (IeT K a k) [e, it] e (fun i h => (∃ old, IsEnum h e it (k + (i : Int)) old) ∧ h.IsTupleIter it a i ∧ e ≠ it) where
  mem := by simp
  obj := fun i h st b hb => by
    obtain ⟨⟨old, he⟩, ⟨o, ho, hc, hd⟩, _⟩ := st
    have e' : b = e ∨ b = it := by simpa using hb
    rcases e' with z | z
    · rw [z]; exact ⟨_, he, fun v q => nomatch q⟩
    · rw [z]; exact ⟨o, ho, fun v q => by rw [hd] at q; cases q⟩
  keep := fun i h h' st k => let ⟨⟨old, he⟩, hi, hne⟩ := st; ⟨⟨old, k e (by simp) _ he⟩, hi.at fun o q => k it (by simp) o q, hne⟩
  item := by
    intro X hP hw hK hc i pins s σ H E I hf st hg
    subst hP hw hK
    obtain ⟨⟨old, he⟩, hit, hne⟩ := st
    obtain ⟨xs, x, hq, hx⟩ := hg
    obtain ⟨its, rv, p, hz⟩ := I.tuple hq
    have p' := (show s.heap.IsTuple a its.toArray from p)
    obtain ⟨u, hu, ru⟩ := rv.get hx
    have hel : e < s.heap.objs.size := Heap.lt_size he
    have hil : it < s.heap.objs.size := by obtain ⟨_, q, _⟩ := hit; exact Heap.lt_size q
    have hae : e ≠ a := fun z => by
      obtain ⟨o, ho, hcl, _⟩ := p'
      subst z
      rw [show s.heap.get? e = _ from he] at ho; cases ho; exact absurd hcl (by simp)
    have hai : a ≠ it := fun z => by
      obtain ⟨o, ho, hcl, _⟩ := p'
      obtain ⟨o2, ho2, hcl2, _⟩ := hit
      subst z
      rw [ho] at ho2; cases ho2; rw [hcl] at hcl2; exact absurd hcl2 (by simp)
    have D := Draws.tuple (prog := X.prog) (w := X.w) (A := X.A.in1) (I.ok.hd hc) it a hai its.toArray
    refine wpAny_pyNext_enum_itemC D he ⟨hit, p'⟩ (by simpa using (List.getElem?_eq_some_iff.mp hu).1) hne (by simp [hne, hae]) fun u' h' tk hP ho ⟨hit', _⟩ hT hsz hk => ?_
    have eu : u' = u := by
      have hP : its.toArray[i]? = some u' := hP
      have : its[i]? = some u' := by simpa using hP
      rw [hu] at this; exact (Option.some.inj this).symm
    subst eu
    refine ⟨_, rfl, wpAny_letOwnedTupleGo_enum (s := { s with heap := h', toks := tk + 1 }) ho fun h'' he' sb => ?_⟩
    have hT2 : h''.get? s.heap.objs.size = some { cls := .type "tuple", data := .seq #[.int (k + (i : Int)) tk, u'] } := (sb.2 _ (Nat.ne_of_gt hel)).trans hT
    have new : ObjOk X.prog X.w (upd H s.heap.objs.size (.tup [.int (k + (i : Int)), x])) h'' s.heap.objs.size (.tup [.int (k + (i : Int)), x]) :=
      ⟨by show 2 ≤ sizeLine; decide, [.int (k + (i : Int)) tk, u'], .cons ⟨_, rfl⟩ (.cons ru .nil), ⟨_, hT2, rfl, _, rfl⟩⟩
    have I1 : Inv X pins σ (upd H s.heap.objs.size (.tup [.int (k + (i : Int)), x])) { s with heap := h'', toks := tk + 1 } :=
      I.turnedNew (ch := [e, it]) (fun b ob hb q => (sb.2 b (fun z => hb (by simp [z]))).trans (hk b ob (fun z => hb (by simp [z])) (fun z => hb (by simp [z])) q)) hf (Nat.le_refl _) new
    refine ⟨.ref s.heap.objs.size, _, I1, rfl, ⟨_, x, rfl, I.hok.fresh (Nat.le_refl _), rfl, fun ys hy => by rw [I.tuple_inj hy hq]; exact hx⟩, ⟨⟨u', ?_⟩, hit'.at fun o q => (sb.2 it (Ne.symm hne)).trans q, hne⟩, fun b hb => ?_⟩
    · have e1 : k + ((i + 1 : Nat) : Int) = k + (i : Int) + 1 := by omega
      rw [e1]; exact he'
    · have hb' : b < s.heap.objs.size := by
        have e' : b = e ∨ b = it := by simpa using hb
        rcases e' with z | z
        · rw [z]; exact hel
        · rw [z]; exact hil
      rw [upd_ne (Nat.ne_of_lt hb')]
      exact (hf b hb).1
  done := by
    intro X hP hw hK hc i pins s σ H E I hf st hg
    subst hP hw hK
    obtain ⟨⟨old, he⟩, hit, hne⟩ := st
    obtain ⟨xs, hq, hx⟩ := hg
    obtain ⟨its, rv, p, hz⟩ := I.tuple hq
    have p' := (show s.heap.IsTuple a its.toArray from p)
    obtain ⟨f0, f1, f2, f3, f4, f5⟩ := hf it (by simp)
    have hai : a ≠ it := fun z => by
      obtain ⟨o, ho, hcl, _⟩ := p'
      obtain ⟨o2, ho2, hcl2, _⟩ := hit
      subst z
      rw [ho] at ho2; cases ho2; rw [hcl] at hcl2; exact absurd hcl2 (by simp)
    have D := Draws.tuple (prog := X.prog) (w := X.w) (A := X.A.in1) (I.ok.hd hc) it a hai its.toArray
    have en : i = its.toArray.size := by rw [List.size_toArray, ← rv.length]; exact hx.symm
    exact wpAny_pyNext_enum_endD D he (by rw [← en]; exact ⟨hit, p'⟩) fun h' eb => ⟨rfl, I.turned (t' := s.toks) (fun b o hb q => eb b o hb q) f0 f1 f3 f4 f5⟩
  self := fun A i s Q E st h => let ⟨⟨_, he⟩, _⟩ := st; wpAny_pyIter_enum he h
theorem walks_eT {K : PySem.W.Frag} {F : Hp} {p : Addr} {k : Int} {xs : List V} {ds : List D} (h : SqT K F p xs) (r : RepA K F xs ds) : Walks K (IeT K p k) (enumD k ds) F where
  go := fun i H s hi => by
    have hi' : i < xs.length := by rw [r.length]; rwa [enumD_length] at hi
    exact ⟨xs, xs[i], sub_t s h, List.getElem?_eq_getElem hi'⟩
  stop := fun H s => ⟨xs, sub_t s h, by rw [enumD_length]; exact r.length⟩
  yld := fun i d H x H' F' s t e q => by
    obtain ⟨T, y, rfl, hT, rfl, q⟩ := q
    obtain ⟨dy, e2, rfl⟩ := enumD_get e
    obtain ⟨y', e3, ry⟩ := r.get e2
    have e4 := q xs (sub_t t (sub_t s h))
    rw [e3] at e4; cases e4
    exact pair_new t hT (.v _) (ry.mono s)
section
variable {X : Cx} {e e1 e2 a b c o tg : Expr} {es : List Expr} {ro : List (Option D)} {its : List D} {pos apos cpos p tpos : Pos} {elts : List Expr} {kk : Nat}
theorem di_eT (hg : X.env.kindOf "enumerate" = some .globalImplicit) (hm : X.mg "enumerate" = none) (ha : DE X e ro (.tup its))
    (hs : starEach [e] X.env = [(false, eval e X.env)] := by kernel_rfl) : DI X (.Tuple elts kk tpos) (.Call (.Name "enumerate" p) [e] [] pos) ro (enumD 0 its) :=
  ⟨fun σ H R => WE X e σ H fun v H1 => ∃ a xs, v = .ref a ∧ SqT X.K H1 a xs ∧ R (IeT X.K a 0) H1, ⟨fun pins s σ H R I h => by
    refine Call_ (ld_blt I hg hm boot_enumerate (PyProof.Rows.callWith_type1 (thn ((pa_cons pe_self pa_nil hs).run pos pins s σ H (fun vs H1 => ∃ v, vs = [v] ∧ ∃ a xs, v = .ref a ∧ SqT X.K H1 a xs ∧ R (IeT X.K a 0) H1) I (fun pins s I' => thn (h pins s I') fun v s1 ⟨x, H1, I1, r1, q1⟩ => ⟨x, H1, I1, r1, ⟨x, rfl, q1⟩⟩)) fun us s1 ⟨vs, H1, I1, r1, v, ev, a, xs, ex, hq, q⟩ => ?_) hs rfl))
    subst ev ex
    obtain rfl := Vals.ref1 r1
    obtain ⟨its, rv, p', hz⟩ := I1.tuple hq
    refine enum_begins1 (begins_tuple a its.toArray) (show s1.heap.IsTuple a its.toArray from p') fun h' he hit hsz hk => wpAny_pyIter_enum he ?_
    have I2 : Inv X pins σ H1 { s1 with heap := h' } := I1.kept (t' := s1.toks) hk
    refine ⟨s1.heap.objs.size + 1, [s1.heap.objs.size + 1, s1.heap.objs.size], _, _, H1, rfl, I2, turn_eT a (s1.heap.objs.size + 1) s1.heap.objs.size 0, ⟨⟨.none, he⟩, ⟨_, hit, rfl, rfl⟩, Nat.succ_ne_self _⟩, fun b hb => ?_, q⟩
    have e' : b = s1.heap.objs.size + 1 ∨ b = s1.heap.objs.size := by simpa using hb
    have hle : s1.heap.objs.size ≤ b := by
      rcases e' with z | z
      · rw [z]; exact Nat.le_add_right _ _
      · rw [z]; exact Nat.le_refl _
    exact I1.fpOk hle (I1.hok.fresh hle)⟩, fun σ F H S hs R q => ha σ F H S hs _ fun v F' H' g r => by
      cases r with
      | tup h1 a1 => exact ⟨_, _, rfl, sub_t g.fh h1, q _ F' H' g (walks_eT h1 a1)⟩⟩
theorem di_eT2 {k : Int} (hk0 : -(2 ^ 63) ≤ k) (hk1 : k < 2 ^ 63) (hg : X.env.kindOf "enumerate" = some .globalImplicit) (hm : X.mg "enumerate" = none) (ha : DE X e ro (.tup its)) (hk : DE X e2 ro (di k))
    (hs : starEach [e, e2] X.env = (false, eval e X.env) :: starEach [e2] X.env := by kernel_rfl) (hs2 : starEach [e2] X.env = [(false, eval e2 X.env)] := by kernel_rfl) : DI X (.Tuple elts kk tpos) (.Call (.Name "enumerate" p) [e, e2] [] pos) ro (enumD k its) :=
  ⟨fun σ H R => WE X e σ H fun v H1 => WE X e2 σ H1 fun z H2 => z = .int k ∧ ∃ a xs, v = .ref a ∧ SqT X.K H2 a xs ∧ R (IeT X.K a k) H2, ⟨fun pins s σ H R I h => by
    refine Call_ (ld_blt I hg hm boot_enumerate ?_)
    refine PyProof.Rows.callWith_type1 (thn ((pa_cons pe_self (pa_cons pe_self pa_nil hs2) hs).run pos pins s σ H (fun vs H2 => ∃ v z, vs = [v, z] ∧ z = .int k ∧ ∃ a xs, v = .ref a ∧ SqT X.K H2 a xs ∧ R (IeT X.K a k) H2) I (fun pins s I' => thn (h pins s I') fun v s1 ⟨x, H1, I1, r1, q1⟩ => ⟨x, H1, I1, r1, fun pins s I' => thn (q1 pins s I') fun v s2 ⟨x2, H2, I2, r2, q2⟩ => ⟨x2, H2, I2, r2, ⟨x, x2, rfl, q2⟩⟩⟩)) fun us s1 ⟨vs, H1, I1, r1, v, z, ev, ez, a, xs, ex, hq, q⟩ => ?_) hs (by rw [hs2]; rfl)
    subst ev ez ex
    obtain ⟨u1, u2, rfl, ru, t, rfl⟩ := vals2 r1
    obtain rfl : u1 = .ref a := ru
    obtain ⟨its, rv, p', hz⟩ := I1.tuple hq
    refine enum_begins (begins_tuple a its.toArray) (show s1.heap.IsTuple a its.toArray from p') hk0 hk1 fun h' he hit hsz hk => wpAny_pyIter_enum he ?_
    have I2 : Inv X pins σ H1 { s1 with heap := h' } := I1.kept (t' := s1.toks) hk
    refine ⟨s1.heap.objs.size + 1, [s1.heap.objs.size + 1, s1.heap.objs.size], _, _, H1, rfl, I2, turn_eT a (s1.heap.objs.size + 1) s1.heap.objs.size k, ⟨⟨.none, by rw [show k + ((0 : Nat) : Int) = k from Int.add_zero k]; exact he⟩, ⟨_, hit, rfl, rfl⟩, Nat.succ_ne_self _⟩, fun b hb => ?_, q⟩
    have e' : b = s1.heap.objs.size + 1 ∨ b = s1.heap.objs.size := by simpa using hb
    have hle : s1.heap.objs.size ≤ b := by
      rcases e' with z | z
      · rw [z]; exact Nat.le_add_right _ _
      · rw [z]; exact Nat.le_refl _
    exact I1.fpOk hle (I1.hok.fresh hle)⟩, fun σ F H S hs R q => ha σ F H S hs _ fun v F' H' g r => hk σ F' H' (S.mono g.ff) g.fh _ fun z F2 H2 g2 r2 => by
      cases r2
      cases r with
      | tup h1 a1 => exact ⟨rfl, _, _, rfl, sub_t g2.fh (sub_t g2.ff h1), q _ F2 H2 (g.trans g2) (walks_eT (sub_t g2.ff h1) (a1.mono g2.ff))⟩⟩
end
end Ef
set_option maxRecDepth 100000
set_option maxHeartbeats 4000000
/-! EfGs: sorted(t) of a tuple of texts. -/
namespace Ef
open PySem L2 C8 PyProof.Rows PySem.W
section
variable {X : Cx} {e : Expr} {ro : List (Option D)} {pos p : Pos}
theorem cr_sortedT : CallR X (.builtin "sorted") (fun vs H Q => ∃ (a : Addr) (xs : List Str), vs = [V.ref a] ∧ SqT X.K H a (xs.map V.str) ∧ xs.length < 64 ∧
    ∀ (ys : List Str) (p : Addr), ys.Perm xs → sortedS ys = true → H p = none → Q (.ref p) (upd H p (.lst (ys.map V.str)))) := by
  intro pins s σ H vs us Q I r h
  obtain ⟨a, xs, rfl, hq, h64, q⟩ := h
  obtain ⟨its, rv, ht, hz⟩ := I.tuple hq
  rw [Vals.ref1 r]
  have hS := rv.strs
  have hl : its.length = xs.length := by
    have z := rv.length
    rw [List.length_map] at z
    exact z.symm
  refine Calls.call_function_entry kind_sorted plain_sorted entry_sorted (args_sorted1 _) ?_
  unfold Builtin.«sorted»
  refine wpAny_bind (m := checkCount "sorted" 1 1 _) (wpAny_pure ?_)
  obtain ⟨o, ho, hc, n, hd⟩ := ht
  refine wpAny_bind (wpAny_collect_seq a (.inr rfl) ho hc hd (fun h' kp => ?_) (by rw [List.size_toArray, hl]; exact small64 h64))
  refine wpAny_bind (wpAny_newList ?_ (by rw [show its.toArray.toList = its by simp, hl]; exact small64 h64))
  have hoL : (h'.push (seqObj "list" its.toArray 0)).get? h'.objs.size = some (seqObj "list" its.toArray 0) := Heap.get?_push_size _ rfl
  show wpAny _ _ _ _ _ { s with heap := h'.push (seqObj "list" its.toArray 0) }
  have I1 : Inv X pins σ H { s with heap := h' } := I.kept (t' := s.toks) kp
  refine wpAny_bind (wpAny_holding (wpAny_call_entry slot_list_sort ⟨_, hoL, rfl⟩ entry_list_sort (list_sort_treeK strKind_oneLt hoL hS.keysOf (fun v₁ v₂ rest e => keyKind_strs (by rw [← e]; exact hS)) (by rw [hl]; exact h64) fun st' hp hs => ⟨_, rfl, ?_⟩) (args_list_sort _)))
  obtain ⟨ys, g1, g2, g3⟩ := sorted_out_str hS hp hs
  obtain ⟨ep, he'⟩ := PyProof.Rows.sortedHeap_at (vs := its) (out := (arrOf st').map (·.2)) hoL
  have hlen : (ys.map V.str).length ≤ sizeLine := by
    rw [List.length_map, g2.length_eq]; exact small64 h64
  refine wpAny_pure ⟨_, rfl, .ref h'.objs.size, upd H h'.objs.size (.lst (ys.map V.str)), ?_, rfl, q ys _ g2 g3 (I1.hok.fresh (Nat.le_refl _))⟩
  refine I1.laid (t' := s.toks) (fun b u hu => ?_) (Nat.le_refl _) ⟨hlen, ((arrOf st').map (·.2)).toList, ep, vals_of_strs g1, by rw [Array.toArray_toList]; exact he'⟩
  have hb : b < h'.objs.size := Heap.lt_size hu
  rw [PyProof.Rows.sortedHeap_old (Nat.ne_of_lt hb) (by rw [Heap.size_push]; exact Nat.lt_succ_of_lt hb)]
  exact Heap.get?_push_of_some _ hu
/-- sorted of a tuple of texts: it is told which list comes -/
theorem dn_sortedT {xs zs : List Str} (h64 : xs.length < 64) (hz : ∀ ys : List Str, ys.Perm xs → sortedS ys = true → ys = zs) (hg : X.env.kindOf "sorted" = some .globalImplicit) (hm : X.mg "sorted" = none) (ha : DA X [e] ro [.tup (xs.map ds)])
    (he : starEach [e] X.env = (false, eval e X.env) :: starEach [] X.env := by kernel_rfl) (hpl : (backTo pos (starEach [] X.env)).any (·.1) = false := by kernel_rfl) : DN X (.Call (.Name "sorted" p) [e] [] pos) ro (.lst (zs.map ds)) :=
  dn_B (by decide +kernel) (by decide +kernel) (by decide +kernel) ⟨_, cr_sortedT, fun vs F H Q hs r q => by
    obtain ⟨v, rfl, rr⟩ := one_of r
    cases rr with
    | tup h1 a1 =>
      have e1 : xs.map ds = (xs.map V.str).map D.v := by rw [List.map_map]; rfl
      rw [e1] at a1
      have e2 := RepA.unflat a1
      subst e2
      refine ⟨_, xs, rfl, sub_t hs h1, h64, fun ys l g2 g3 hl => ?_⟩
      rw [hz ys g2 g3]
      refine q.newL hs ?_ hl
      have e3 : zs.map ds = (zs.map V.str).map D.v := by rw [List.map_map]; rfl
      rw [e3]; exact RepA.flat _⟩ hg hm ha he hpl
end
end Ef
set_option maxRecDepth 100000
set_option maxHeartbeats 4000000
/-! EfGf: f-texts. -/
namespace Ef
open PySem L2 C8 PyProof.Rows PySem.W
section
variable {X : Cx} {e v1 v2 : Expr} {es rest : List Expr} {ro : List (Option D)} {pos p : Pos}
theorem de_fmtS {y : Str} (h : DE X e ro (ds y)) (hz : y.length ≤ sizeLine) : DE X (.FormattedValue e (-1) none pos) ro (ds y) := fun σ F H S hs Q q =>
  PE.we (pe_fmt pe_self) (h σ F H S hs _ fun v F' H' g r => by cases r; exact .inl ⟨y, rfl, hz, q _ F' H' g (.v _)⟩)
theorem de_fmtI {i : Int} (h : DE X e ro (di i)) (hz : i.natAbs.log2 < 1920) : DE X (.FormattedValue e (-1) none pos) ro (ds (toString i)) := fun σ F H S hs Q q =>
  PE.we (pe_fmt pe_self) (h σ F H S hs _ fun v F' H' g r => by cases r; exact .inr ⟨i, rfl, hz, q _ F' H' g (.v _)⟩)
inductive DJ (X : Cx) (ro : List (Option D)) : List Expr → List Str → Prop
  | nil : DJ X ro [] []
  | cons {e : Expr} {y : Str} {es : List Expr} {ys : List Str} : DE X e ro (ds y) → DJ X ro es ys → DJ X ro (e :: es) (y :: ys)
def catAll : Str → List Str → Str
  | acc, [] => acc
  | acc, y :: ys => catAll (acc ++ y) ys
theorem length_catAll : ∀ (ys : List Str) (acc : Str), (catAll acc ys).length = acc.length + (ys.map (·.length)).sum
  | [], acc => rfl
  | y :: ys, acc => by
    show (catAll (acc ++ y) ys).length = _
    rw [length_catAll ys, Str.length_append, List.map_cons, List.sum_cons, Nat.add_assoc]
theorem dj_run {ys : List Str} (h : DJ X ro es ys) : ∃ ts, PJ X es ts ∧ ∀ (acc : Str) (σ : L2.St) (F H : Hp), Sl X.K F σ ro → Sub F H → acc.length + (ys.map (·.length)).sum ≤ sizeLine → ∀ Q : Str → Hp → Prop, (∀ F' H', Grow F H F' H' → Q (catAll acc ys) H') → tJs ts acc σ H Q := by
  induction h with
  | nil => exact ⟨[], .nil, fun acc σ F H S hs _ Q q => q F H (.refl hs)⟩
  | @cons e y es ys h1 h2 ih =>
    obtain ⟨ts, p, k⟩ := ih
    refine ⟨_ :: ts, .cons pe_self p, fun acc σ F H S hs hz Q q => ?_⟩
    rw [List.map_cons, List.sum_cons] at hz
    refine h1 σ F H S hs _ fun v F1 H1 g r => ?_
    cases r
    have hl : (acc ++ y).length + (ys.map (·.length)).sum ≤ sizeLine := by rw [Str.length_append]; omega
    exact ⟨y, rfl, Nat.le_trans (Nat.le_add_right _ _) hl, k (acc ++ y) σ F1 H1 (S.mono g.ff) g.fh hl Q fun F2 H2 g2 => q F2 H2 (g.trans g2)⟩
theorem de_joined {ys : List Str} {z : Str} (h : DJ X ro (v1 :: v2 :: rest) ys) (hz : (ys.map (·.length)).sum ≤ sizeLine) (e : catAll Str.empty ys = z) : DE X (.JoinedStr (v1 :: v2 :: rest) pos) ro (ds z) := fun σ F H S hs Q q => by
  obtain ⟨ts, p, k⟩ := dj_run h
  refine PE.we (pe_joined p) (k Str.empty σ F H S hs (by rw [show Str.empty.length = 0 from rfl, Nat.zero_add]; exact hz) _ fun F' H' g => ?_)
  rw [e]
  exact q _ F' H' g (.v _)
end
end Ef
set_option maxRecDepth 100000
set_option maxHeartbeats 4000000
/-! EfX: exceptions: an own __init__ that says super().__init__(x); try with several clauses by name. -/
namespace Ef
open PySem L2 C8 PyProof.Rows PySem.W PySem.Calls

/-! ### the class whose __init__ is: super().__init__(text); self.f = its argument -/
structure UnF (P : Program) (K : PySem.W.Frag) (mg : Str → Option Value) (C fI : Addr) (fd : FuncData) (body : List Stmt) (scope : Scope) : Prop where
  ex : ∃ (qual : Str) (params : Arguments) (kV doc pm ct oc cl ccl : Value) (an od cld cdd : Option Addr) (osl csl ccs : Array (Option Value)) (cc cda : Addr) (vs : Array Value) (file : Str) (tf : Tok) (cdC : ClassData),
    fd = ksFn "__init__" qual params body scope .none kV doc pm an (.ref cda) ct cc ∧ K.lookup fI = some ⟨oc, od, .func fd, osl⟩ ∧ codeIn K (.ref cda) qual = true ∧ K.lookup cc = some ⟨cl, cld, .cell (some (.ref C)), csl⟩ ∧
    K.lookup cda = some ⟨ccl, cdd, .fields vs, ccs⟩ ∧ vs[2]? = some (.str file tf) ∧ ((P.main.file : Str) == file) = true ∧ clsIn K C = some cdC ∧ alongIn K "__init__" ((cdC.mro.dropWhile (· != .ref C)).drop 1) = some (some (.builtin "ValueError.__init__")) ∧
    (∃ ar rest, params.posonlyargs ++ params.args = ar :: rest ∧ ar.arg = "self") ∧ (∀ us : List Value, us.length = 2 → bindArgs fd ⟨us, []⟩ = pure ((["self", "name"] : List Str).zip us))
  oex : OexC K C
  mro : mroIn K C (.ref C) = some true
  sub : subIn K (.ref C) (.type "ValueError") = some true
  no : findIn K (.ref C) "name" = some none
  third : nsIn K cStatics "thirdparty.any" = some none
  mgS : mg "super" = none
  topS : (P.main.scope.names.lookup ("super" : Str)).isSome = false
  sk : scope.kind = .function
  sco : scope.isCoroutine = false
  sgen : scope.isGenerator = false
  sself : scope.names.lookup ("self" : Str) = some .local
  sname : scope.names.lookup ("name" : Str) = some .local
  scls : scope.names.lookup ("__class__" : Str) = some .free
  ssup : scope.names.lookup ("super" : Str) = some .globalImplicit
  scell : ∀ x ∈ scope.names, x.2 ≠ .cell
  sfree : ∀ x ∈ scope.names, x.2 = .free → x.1 = "__class__"
def spU (C : Addr) : Sp := fun vs H Q _ => ∃ (a : Addr) (z : V), vs = [.ref a, z] ∧ H a = some (exo a C none) ∧ ∀ dx, H dx = none → dx ≠ a → Q .non (upd (upd H dx (exd dx [("name", z)])) a (exo a C (some dx)))
section
variable {P : Program} {w : World} {K : PySem.W.Frag} {mg : Str → Option Value} {base : Heap}
/-- the body's context -/
abbrev xU (P : Program) (w : World) (K : PySem.W.Frag) (mg : Str → Option Value) (base : Heap) (qual : Str) (scope : Scope) (fI cda cc : Addr) (A : Around) (outer : List Env) (s : Shared) (H : Hp) (E : XK) : Cx where
  prog := P
  w := w
  K := K
  mg := mg
  base := base
  A := A.deeper (ksEnv qual scope s.heap.objs.size fI (.ref cda) cc)
  N := ["self", "name"]
  s_0 := s
  H_0 := H
  env := ksEnv qual scope s.heap.objs.size fI (.ref cda) cc
  outer := outer
  stack := ksEnv qual scope s.heap.objs.size fI (.ref cda) cc :: outer
  ex := []
  calm := true
  fn := fun x => !decide (x = ("__class__" : Str))
  pn := []
  xe := fun e s' => wpAny (model P w) (A.deeper (ksEnv qual scope s.heap.objs.size fI (.ref cda) cc)) (leaving (ksEnv qual scope s.heap.objs.size fI (.ref cda) cc) e) (fun _ s'' => L2.CX0 outer H s E e s'') (fun e' s'' => L2.CX0 outer H s E e' s'') s'
theorem inv_U {qual : Str} {scope : Scope} {fI cda cc : Addr} {A : Around} {outer : List Env} {s : Shared} {H : Hp} {E : XK} {h0 : Heap} {tk : Nat} {u1 u2 : Value} {v1 v2 : V} {cl : Value} {cld : Option Addr} {csl : Array (Option Value)} {cv : Value} (e0 : Env0 P w K mg base A outer s H) (hd : A.handled = none)
    (sk : scope.kind = .function) (sself : scope.names.lookup ("self" : Str) = some .local) (sname : scope.names.lookup ("name" : Str) = some .local) (scell : ∀ x ∈ scope.names, x.2 ≠ .cell) (sfree : ∀ x ∈ scope.names, x.2 = .free → x.1 = "__class__")
    (hcc : K.lookup cc = some ⟨cl, cld, .cell (some cv), csl⟩)
    (r1 : RelV v1 u1) (r2 : RelV v2 u2) (hns : h0.Ns s.heap.objs.size (fun x => ((["self", "name"] : List Str).zip [u1, u2]).reverse.lookup x)) (hk : ∀ b o, s.heap.get? b = some o → h0.get? b = some o) :
    Inv (xU P w K mg base qual scope fI cda cc A outer s H E) [] [some v1, some v2] H { s with heap := h0, toks := tk } := by
  have cbase := e0.mod.kin _ _ hcc
  have cs := (e0.bs _ _ cbase)
  have one : ∀ y c, ([(("__class__" : Str), cc)] : List (Str × Addr)).lookup y = some c → y = "__class__" ∧ c = cc := fun y c h => by
    rw [List.lookup_cons] at h
    by_cases hy : (y == ("__class__" : Str)) = true
    · rw [hy] at h; cases h; exact ⟨eq_of_beq hy, rfl⟩
    · rw [Bool.eq_false_iff.mpr hy] at h; cases h
  have noA : ∀ b : Addr, b ∉ ([] : List Addr) := fun b z => absurd z (by simp)
  refine ⟨⟨e0.mod, sk, rfl, rfl, Nat.le_refl _, fun y z c h1 h2 => ?_, fun y hy => ?_, fun y c hf h => ?_, fun _ => hd, Around.frames_deeper e0.frames, .inr ⟨rfl, rfl⟩, fun b z => absurd z (noA b), e0.bs, e0.bsz, fun b _ _ => noA b, fun b z => absurd z (noA b), e0.funs, e0.frf⟩,
    rfl, e0.bare, Un.kept hk, ⟨_, hns, fun i y v h1 h2 h3 => ?_⟩, fun y c h => ?_, e0.hok.fresh (Nat.le_refl _), fun y c h => ?_, fun p hp => absurd (show p ∈ ([] : List (Addr × Obj)) from hp) (by simp), e0.hok.kept hk, rfl⟩
  · rw [(one _ _ h1).1, (one _ _ h2).1]
  · rcases hy with hy | hy
    · exact absurd rfl (scell _ (PySem.mem_of_lookup hy))
    · have := sfree _ (PySem.mem_of_lookup hy) rfl
      exact ⟨cc, by rw [show y = "__class__" from this]; rfl⟩
  · rw [(one _ _ h).1] at hf
    have hf : (!decide (("__class__" : Str) = "__class__")) = true := hf
    rw [decide_eq_true rfl] at hf; cases hf
  · match i, h1, h2 with
    | 0, h1, h2 =>
      cases h1; cases h2
      exact ⟨u1, r1, .inl ⟨sself, by rfl⟩⟩
    | 1, h1, h2 =>
      cases h1; cases h2
      exact ⟨u2, r2, .inl ⟨sname, by rfl⟩⟩
  · rw [(one _ _ h).2]
    exact ⟨_, ⟨_, hk _ _ cs.1, rfl⟩⟩
  · rw [(one _ _ h).2]; exact cs.2
/-- the wrapper called: the exception's args are laid anew -/
theorem call_mwU {X : Cx} {pins : List (Addr × Obj)} {σ : L2.St} {H : Hp} {s : Shared} {C a u : Addr} {us : List Value} {Q : Value → Shared → Prop} {E : Value → Shared → Prop} (T : OexC X.K C) (I : Inv X pins σ H s) (e : H a = some (exo a C none)) (hu : s.heap.get? u = some (kxs_mw "ValueError.__init__" a)) (hl : us.length ≤ sizeLine) (h : ∀ s', Inv X pins σ H s' → Q .none s') :
    wpAny (model X.prog X.w) X.A (call (.ref u) us) Q E s := by
  obtain ⟨nm, q, N, bs, bm, sn, sub, ab, col, dd, k0, k1, k2, k3, k5, hC, hbm⟩ := T.cls
  obtain ⟨t1, ho⟩ := exo_at I.hok e
  have hC' := I.kIn _ _ hC
  obtain ⟨hp, g, d, t, os⟩ := s
  have key : ∀ h' t2, (∀ b o, b ≠ a → hp.get? b = some o → h'.get? b = some o) → h'.get? a = some (PySem.HandSPX.excO C t2) → Q .none ⟨h', g, d, t, os⟩ := fun h' t2 k hx => by
    have J := I.write (t' := t) (x := a) (e := a) (o := exo a C none) (by rw [e]; exact True.intro) (.inl rfl) k ⟨_, hx⟩ (exo_ok hx)
    have eu : upd H a (exo a C none) = H := by
      funext b
      by_cases hb : b = a
      · rw [hb, upd_same, e]
      · rw [upd_ne hb]
    rw [eu] at J
    exact h _ J
  refine wpAny_call (codeAny_of_tree ?_)
  show wpAny _ X.A.in1 (callAny (.ref u) ⟨us, []⟩) _ _ _
  simp only [callAny]
  refine wpAny_bind (wpAny_load hu ?_)
  simp only [kxs_mw, show (Value.type "method-wrapper" == Value.type "method" || Value.type "method-wrapper" == Value.type "builtin_function_or_method" || Value.type "method-wrapper" == Value.type "method-wrapper") = true by decide, if_true]
  refine KFB.if_so (by decide) ?_
  refine wpAny_bind (PySem.ESX.check_bound F.excBase_ValueError hC' ho rfl ?_)
  refine wpAny_bind (wpAny_pure (wpAny_pure ?_))
  refine ⟨Code.quiet_builtin _ (by decide +kernel), codeAny_builtin F.excBase_ValueError.initEntry ?_⟩
  rw [Around.under_plainId F.excBase_ValueError.init.plain _]
  wp_walk
  refine key _ hp.objs.size (fun b o hb ho' => ?_) ?_
  · rw [Heap.get?_update_other _ _ (Ne.symm hb)]
    exact Heap.get?_push_of_some _ ho'
  · rw [Heap.get?_update_self _ (Heap.get?_push_of_some _ ho) rfl]
    rfl
theorem un_fn {C fI : Addr} {fd : FuncData} {body : List Stmt} {scope : Scope} {p0 p1 p2 p3 p4 p5 p6 p7 p8 p9 : Pos} {txt : Str} {j : Nat} (U : UnF P K mg C fI fd body scope)
    (hev : ∃ pl : Env → Sem Bool, ∀ env : Env, eval (.Call (.Attribute (.Call (.Name "super" p0) [] [] p1) "__init__" p2) [.Constant (.str txt) j p3] [] p4) env = (do
      let ov ← attributeBase (.Call (.Name "super" p0) [] [] p1) "__init__" env (eval (.Call (.Name "super" p0) [] [] p1) env)
      standAt p2.atName
      let (f, first) ← holding [ov] (getMethod ov "__init__" (pl env))
      callWith p4 f first (backTo p4 (starEach [.Constant (.str txt) j p3] env)) []))
    (hb : body = [.Expr (.Call (.Attribute (.Call (.Name "super" p0) [] [] p1) "__init__" p2) [.Constant (.str txt) j p3] [] p4) p5, .Assign [.Attribute (.Name "self" p6) "name" p7] (.Name "name" p8) p9]) :
    FnOk P w K mg base L2.CX0 1 fI fd ["self", "name"] (spU C) := by
  obtain ⟨qual, params, kV, doc, pm, ct, oc, cl, ccl, an, od, cld, cdd, osl, csl, ccs, cc, cda, vs, file, tf, cdC, efd, lk, hcd, hcc, hcode, hvs, hfile, hcls, hinit, ⟨ar, rest, har, harg⟩, hbind⟩ := U.ex
  subst efd
  obtain ⟨pl, hev⟩ := hev
  refine ⟨fun vs H Q E ⟨a, z, e, _⟩ => by rw [e]; rfl, fun A outer s H args us vs0 Q E hr e0 hb0 r hsp => ?_⟩
  obtain ⟨a, z, rfl, ea, hq⟩ := hsp
  cases r with
  | @cons _ ua _ ur ra rr =>
  cases rr with
  | @cons _ uz _ ur2 rz rr =>
  cases rr
  have KX : K.In s.heap := e0.mod.kin.keeps fun b o e => (e0.bs b o e).1
  have lim : s.heap.NoLimit := e0.mod.nolimit.keeps fun b o e => (e0.bs b o e).1
  refine ks_codeAny_call_defAt (fd := ksFn "__init__" qual params body scope .none kV doc pm an (.ref cda) ct cc) (body := body) hr.depth (KX _ _ lk) rfl lim (codeRec_of KX hcd) rfl hb0 U.scell (fun x hx => ?_) (fun h0 hns hk => ?_) U.sco U.sgen U.sk
  · have hx : x ∈ [(("self" : Str), ua), ("name", uz)] := hx
    rcases List.mem_cons.mp hx with e | hx
    · rw [e]; exact U.sself
    · rcases List.mem_cons.mp hx with e | hx
      · rw [e]; exact U.sname
      · cases hx
  have X0 := xU P w K mg base qual scope fI cda cc A outer s H E
  have I : Inv (xU P w K mg base qual scope fI cda cc A outer s H E) [] [some (.ref a), some z] H { s with heap := h0, toks := s.toks + (([("self", ua), ("name", uz)] : List (Str × Value))).length } :=
    inv_U e0 hr.hd U.sk U.sself U.sname U.scell U.sfree hcc ra rz hns hk
  subst hb
  obtain rfl : ua = .ref a := ra
  obtain ⟨t1, hoe⟩ := exo_at I.hok ea
  have Ist : InstAt h0 a ({ cls := .ref C, dict := none, data := .fields #[.ref t1, .none, .none, .none, .bool false, .none] } : Obj) C none := ⟨hoe, rfl, rfl, trivial⟩
  have K1 : K.In h0 := KX.keeps hk
  obtain ⟨oD, hD1, hD2⟩ : ∃ oD, h0.get? C = some oD ∧ oD.data = .cls cdC := by
    have q := hcls
    unfold clsIn at q
    split at q
    · rename_i c d cd' sl ho
      cases q
      exact ⟨_, K1 _ _ ho, rfl⟩
    · cases q
  show _root_.PySem.wpAt (model P w) (A.deeper (ksEnv qual scope s.heap.objs.size fI (.ref cda) cc)) (.func _ (ksEnv qual scope s.heap.objs.size fI (.ref cda) cc)) (execs _ (ksEnv qual scope s.heap.objs.size fI (.ref cda) cc)) _ _ _
  refine ks_wpAt_execs_cons (ks_wpAt_Expr_any (ks_wpAt_MethodCall (pl := pl _) (ks_wpAt_super_base (f := fI) (fd := ksFn "__init__" qual params _ scope .none kV doc pm an (.ref cda) ct cc) U.ssup U.scls rfl rfl (K1 _ _ lk) rfl (by rw [har]; rfl) rfl (K1 _ _ hcode) rfl hvs hfile U.topS ?_) (hev _)) (by unfold interactive; simp [U.sk]) rfl)
  obtain ⟨mb, hm1, hm2⟩ := I.mod.blt
  refine ks_loadName_global U.sk U.ssup (loadGlobal_builtin (I.mod.glob.keeps I.bk) U.mgS (hm1.keeps I.bk) ((hm2 "super" (by decide)).trans (by decide +kernel)) ⟨rfl, ?_⟩)
  refine wpAny_loadName_free U.sk U.scls rfl ⟨_, K1 _ _ hcc, rfl⟩ ?_
  rw [harg]
  refine wpAny_loadName_local U.sk U.sself hns (v := .ref a) (by rfl) ?_
  refine ks_wpAny_isType_cls hD1 hD2 ⟨rfl, ?_⟩
  refine ks_wpAny_call_super hD1 hD2 hoe rfl (fun c e => by cases e) (looks_mroIn K1 U.mro) (fun h1 e1 k1 => ?_)
  have K2 : K.In h1 := K1.keeps k1
  have I1 : Inv (xU P w K mg base qual scope fI cda cc A outer s H E) [] [some (.ref a), some z] H { s with heap := h1, toks := s.toks + (([("self", .ref a), ("name", uz)] : List (Str × Value))).length } := I.kept (t' := _) k1
  have Ist1 : InstAt h1 a ({ cls := .ref C, dict := none, data := .fields #[.ref t1, .none, .none, .none, .bool false, .none] } : Obj) C none := ⟨k1 _ _ hoe, rfl, rfl, trivial⟩
  refine kxs_getMethod kxs_ValueError e1 (looks_opaque K2 U.third) (l₀ := cdC.mro) (fun A Q E s k q => wpAny_bind ((looks_clsIn K2 hcls) A _ E s k (wpAny_pure q))) rfl K2 hinit (Ist1.type.andThen (looks_subIn K2 U.sub)) (ks_ne K2 Ist1 hcls) (by decide) ?_
  have I2 : Inv (xU P w K mg base qual scope fI cda cc A outer s H E) [] [some (.ref a), some z] H { s with heap := h1.push (kxs_mw "ValueError.__init__" a), toks := s.toks + (([("self", .ref a), ("name", uz)] : List (Str × Value))).length + 1 } := I1.kept (t' := _) fun b o e => Heap.get?_push_of_some _ e
  refine kxs_callWith (i := "ValueError.__init__") (x := a) (by rfl) (evalArgs_plain ?_)
  have I2p : Inv (xU P w K mg base qual scope fI cda cc A outer s H E) [(h1.objs.size, kxs_mw "ValueError.__init__" a)] [some (.ref a), some z] H _ := I2.pins_of (fun p hp => by
    rcases List.mem_cons.mp hp with rfl | hp
    · exact ⟨Heap.get?_push_size _ rfl, I1.hok.fresh (Nat.le_refl _), Nat.ne_of_gt I1.lt, I1.nofs (Nat.le_refl _), fun v => by intro q; cases q⟩
    · cases hp)
  refine thn ((pa_cons pe_str pa_nil : PA (xU P w K mg base qual scope fI cda cc A outer s H E) [.Constant (.str txt) j p3] (tCons (tC (.str txt)) tNil)).run p4 _ _ _ H (fun vs H1 => vs.length = 1 ∧ H = H1) I2p ⟨rfl, rfl⟩) fun us s3 ⟨vs, H1, I3, r3, hl3, eH⟩ => ?_
  subst eH
  refine ⟨(I3.pin _ (List.mem_append_right _ (List.mem_singleton.mpr rfl))).1, call_mwU (X := xU P w K mg base qual scope fI cda cc A outer s H E) U.oex I3 ea (I3.pin _ (List.mem_append_right _ (List.mem_singleton.mpr rfl))).1 (by rw [List.nil_append, ← r3.length, hl3]; decide) fun s4 I4 => ?_⟩
  refine wpAt_of_wpAny ?_
  have st : PSs (xU P w K mg base qual scope fI cda cc A outer s H E) [.Assign [.Attribute (.Name "self" p6) "name" p7] (.Name "name" p8) p9] _ := pss_one (ps_ost (pe_var (i := 0) rfl (.inl U.sself) (by kernel_rfl) (by kernel_rfl)) (pe_var (i := 1) rfl (.inl U.sname) (by kernel_rfl) (by kernel_rfl)))
  refine wpAny_mono (st.run _ s4 _ H { nx := fun _ H' => Q .non H', rt := Q } I4 ⟨_, rfl, _, rfl, a, C, rfl, U.oex, U.no, .inl ⟨ea, fun dx n1 n2 => hq dx n1 n2⟩⟩) (fun fl s' hs => ?_) (fun e s' hs => hs)
  have fin : ∀ {pins' : List (Addr × Obj)} {σ' : L2.St} {H' : Hp} {v : V} {u : Value}, Inv (xU P w K mg base qual scope fI cda cc A outer s H E) pins' σ' H' s' → RelV v u → Q v H' → CE outer P w H s Q u s' :=
    fun {pins' σ' H' v u} J rv q => ⟨v, H', J.os, J.bare, J.base, J.hok, rv, q⟩
  cases fl with
  | ret u =>
    obtain ⟨v, σ', H', J, rv, q⟩ := hs
    exact fin J rv q
  | next =>
    obtain ⟨σ', H', J, q⟩ := hs
    exact fin (v := V.non) (u := Value.none) J rfl q
  | brk =>
    obtain ⟨_, _, _, q⟩ := hs
    exact False.elim q
  | cont =>
    obtain ⟨_, _, _, q⟩ := hs
    exact False.elim q
end
end Ef
set_option maxRecDepth 100000
set_option maxHeartbeats 4000000
/-! EfY: try with several clauses that name the exception; defs that raise. -/
namespace Ef
open PySem L2 C8 RZ PyProof.Rows PySem.Spec PySem.W

def endsA (i : Nat) (D : Ends) : Ends := { nx := fun σ' H' => D.nx (σ'.set i none) H', rt := D.rt, bk := fun σ' H' => D.bk (σ'.set i none) H', ct := fun σ' H' => D.ct (σ'.set i none) H' }
def wManyA (K : PySem.W.Frag) (i : Nat) (Wout : WX) (D : Ends) : List (Value × (Addr → Value → Option Addr → TS)) → WX
  | [] => Wout
  | (c, ts) :: r => fun cls d σ H => ∃ b, PySem.W.exmOne K cls c = some b ∧ (b = true → ∀ a, H a = none → ts a cls d (endsA i D) (σ.set i (some (.ref a))) H) ∧ (b = false → wManyA K i Wout D r cls d σ H)
inductive HdsA (X : Cx) (n : Str) : List ExceptHandler → List (Value × (Addr → Value → Option Addr → TS)) → Prop
  | nil : HdsA X n [] []
  | cons {x : Str} {c : Value} {ts : Addr → Value → Option Addr → TS} {b₀ : Stmt} {suite : List Stmt} {np pos' : Pos} {hds : List ExceptHandler} {l : List (Value × (Addr → Value → Option Addr → TS))} (hc : Names X x c)
      (hsu : ∀ (a : Addr) (oe : Obj) (cls : Value) (d : Option Addr) (pn : List (Addr × Obj)), Zc cls d oe → (∃ vs, oe.data = .fields vs) → PSs (X.suite a ((a, oe) :: pn)) (b₀ :: suite) (ts a cls d)) (r : HdsA X n hds l) :
      HdsA X n (.ExceptHandler (some (.Name x np)) (some n) (b₀ :: suite) pos' :: hds) ((c, ts) :: l)
section
variable {X : Cx} {n : Str} {i : Nat} {body : List Stmt} {h₀ : ExceptHandler} {hds : List ExceptHandler} {l : List (Value × (Addr → Value → Option Addr → TS))} {pos : Pos} {tb : WX → TS} {Wout : WX}
theorem ps_tryA (hs : X.stack = X.env :: X.outer) (hf : X.env.frame = some X.env.locals) (hN : X.N.Nodup) (hi : X.N[i]? = some n) (hln : X.env.kindOf n = some .local) (tk : Takes X Wout)
    (hb : ∀ (W : WX) (pn : List (Addr × Obj)) (xe : Value → Shared → Prop), Takes (X.tr pn xe) W → PassesOwn (model X.prog X.w) X.A X.env xe → PSs (X.tr pn xe) body (tb W))
    (hh : HdsA X n (h₀ :: hds) l) : PS X (.Try body (h₀ :: hds) [] [] pos) (fun D σ H => tb (wManyA X.K i Wout D l) D σ H) := by
  refine ⟨fun pins s σ H D I h => ?_⟩
  have ok := I.ok
  have hfr : X.A.frames = some (X.env :: X.outer) := by rw [ok.frames, hs]
  have hloc : Loc X.env.scope n := .inl hln
  refine wpAny_Try_except ?_
  refine wpAny_mono ((hb (wManyA X.K i Wout D l) (X.pn ++ pins) (fun e s₁ => wpAny (model X.prog X.w) X.A (noteFrame e X.env) (fun _ s₂ => wpAny (model X.prog X.w) X.A (setFlight e none) (fun _ s₃ =>
    wpAny (model X.prog X.w) X.A (handleBy e X.env (h₀ :: hds)) (SP X pins D) X.xe s₃) X.xe s₂) X.xe s₁) (fun u s' xx => ?_) PassesOwn.looking).run [] s σ H D (I.toTry _) h) (fun f s1 hsp => ?_) (fun e s1 he => he)
  · obtain ⟨a, B, sI, pins', σ', H', cls, d, rfl, J', nb, up, sky, na, os, ag, w⟩ := xx
    have J : Inv X pins σ' H' sI := J'.ofTry ok
    have sky' : Sky B (X.env :: X.outer) a (Zc cls d) X.env.locals s'.heap := by rw [← hs]; exact sky
    show wpAny (model X.prog X.w) X.A (noteFrame (.ref a) X.env) _ _ _
    refine Sky.land Zc.steady hfr hf sky' fun h3 fl3 up3 => ?_
    have J3 : Inv X pins σ' H' { s' with heap := h3 } := J.landed nb fl3.1 (up.trans up3) os ag
    obtain ⟨oe3, vs3, he3, hz3, hd3⟩ := fl3.there
    have notFr : ∀ {h : Heap} {o : Obj} {vs : Array Value}, h.FunFrames B (X.env :: X.outer) → h.get? a = some o → o.data = .fields vs → a ∉ frs (X.env :: X.outer) := fun {h o vs} ff e dd hm => by
      obtain ⟨_, o', e', hnf⟩ := ff.mem hm
      rw [e] at e'; cases e'
      exact hnf _ dd
    have nfr := notFr fl3.2.2.1 he3 hd3
    have nL : a ≠ X.env.locals := fun z => nfr (List.mem_filterMap.mpr ⟨X.env, List.mem_cons_self, by rw [hf, z]⟩)
    have nF : a ∉ X.fs := fun hm => by
      obtain ⟨e, he, q⟩ := List.mem_filterMap.mp hm
      exact nfr (List.mem_filterMap.mpr ⟨e, List.mem_cons_of_mem _ he, q⟩)
    have S3 := J3.suite he3 hd3 na nL nF
    have go : ∀ {hds' : List ExceptHandler} {l' : List (Value × (Addr → Value → Option Addr → TS))}, HdsA X n hds' l' → wManyA X.K i Wout D l' cls d σ' H' →
        wpAny (model X.prog X.w) X.A (handleBy (.ref a) X.env hds') (SP X pins D) X.xe { s' with heap := h3 } := by
      intro hds' l' hk
      induction hk with
      | nil =>
        intro w
        refine wpAny_handleBy_nil ?_
        obtain ⟨k1, k2, k3, oe, vs, T, oT, ts', he, hz, hd, h1, hr⟩ := id fl3
        unfold PySem.passOn
        refine wpAny_bind (wpAny_field he hd h1 ?_)
        rw [if_neg (show ¬ ((Value.ref T == Value.none) = true) from by simp)]
        have fin : wpAny (model X.prog X.w) X.A (setFlight (.ref a) X.env.frame) (fun _ s4 => wpAny (model X.prog X.w) X.A (throw (.ref a) : Sem Flow) (SP X pins D) X.xe s4) X.xe { s' with heap := h3 } := by
          rw [hf]
          refine HandSPX.setFlight_upZ fl3 fun h4 hh4 up4 => wpAny_throw (tk _ _ ?_)
          exact ⟨a, B, sI, pins, σ', H', cls, d, rfl, J, nb, (up.trans up3).trans up4, .inr (.inr (by rw [hs]; exact hh4)), na, os, ag, w⟩
        first
          | exact wpAny_bind (wpAny_pure (wpAny_bind fin))
          | exact wpAny_bind fin
      | @cons x c ts b₀ suite np pos' hds2 l2 hc hsu r ih =>
        intro w
        obtain ⟨b, hb1, hyes, hno⟩ := w
        refine wpAny_handleBy_cons (codeAny_handlers_test ?_) (by intro q; cases q)
        have LT : PySem.W.Looks (model X.prog X.w) h3 (typeOf (.ref a)) cls := fun A Q E s k q => wpAny_typeOf_ref (k _ _ he3) (by rw [hz3.1]; exact q)
        have LM := PySem.W.exm_one (M := model X.prog X.w) (J3.kIn) LT hb1
        have test : ∀ {Q : Value → Shared → Prop} {E : Value → Shared → Prop}, Q c { s' with heap := h3 } → wpAny (model X.prog X.w) (X.A.mark (some (.ref a))) (eval (.Name x np) X.env) Q E { s' with heap := h3 } := fun {Q E} q => by
          obtain ⟨hg, hdbg, hm | ⟨hm, hv, hnn⟩⟩ := hc
          · exact ld_glob (X := X.suite a ((a, oe3) :: (X.pn ++ pins))) S3 hg hm q hdbg
          · exact ld_blt (X := X.suite a ((a, oe3) :: (X.pn ++ pins))) S3 hg hm hv q hnn hdbg
        refine test (LM.here ?_)
        cases b with
        | true =>
          refine codeAny_handlers_suite_as ?_
          refine HandSPX.lands_againZ fl3 fun h4 fl4 up4 => ?_
          have J4 : Inv X pins σ' H' { s' with heap := h4 } := J.landed nb fl4.1 ((up.trans up3).trans up4) os ag
          obtain ⟨oe4, vs4, he4, hz4, hd4⟩ := fl4.there
          have S4 := J4.suite he4 hd4 na nL nF
          refine store_ok (X := X.suite a ((a, oe4) :: (X.pn ++ pins))) (v := .ref a) S4 hN hi hloc rfl (fun s5 S5 => ?_) (.inr hln)
          refine wpAny_mono ((hsu a oe4 cls d (X.pn ++ pins) hz4 ⟨_, hd4⟩).run [] s5 _ H' _ S5 (hyes rfl a na)) (fun f s6 hsp => ?_) (fun _ _ z => False.elim z)
          have end_ : ∀ {σ6 : L2.St} {H6 : Hp} {Q : Shared → Prop}, Inv (X.suite a ((a, oe4) :: (X.pn ++ pins))) [] σ6 H6 s6 → (∀ s7, Inv X pins (σ6.set i none) H6 s7 → Q s7) →
              wpAny (model X.prog X.w) X.A (do bindName X.env n .none; unbindBehindTheSuite X.env n pos') (fun _ s7 => Q s7) X.xe s6 := fun {σ6 H6 Q} S6 hq => gone_ok (S6.unsuite ok) hN hi hln hq
          cases f with
          | next =>
            obtain ⟨σ6, H6, S6, q6⟩ := hsp
            exact end_ S6 fun s7 J7 => ⟨_, _, J7, q6⟩
          | brk =>
            obtain ⟨σ6, H6, S6, q6⟩ := hsp
            exact end_ S6 fun s7 J7 => ⟨_, _, J7, q6⟩
          | cont =>
            obtain ⟨σ6, H6, S6, q6⟩ := hsp
            exact end_ S6 fun s7 J7 => ⟨_, _, J7, q6⟩
          | ret u =>
            obtain ⟨v6, σ6, H6, S6, r6, q6⟩ := hsp
            exact end_ S6 fun s7 J7 => ⟨_, _, _, J7, r6, q6⟩
        | false =>
          show wpAny _ X.A (handleBy (.ref a) X.env hds2) _ _ _
          exact ih (hno rfl)
    exact go hh w
  · cases f with
    | next =>
      obtain ⟨σ', H', J', q⟩ := hsp
      exact wpAny_execs_nil ⟨σ', H', J'.ofTry ok, q⟩
    | brk =>
      obtain ⟨σ', H', J', q⟩ := hsp
      exact ⟨σ', H', J'.ofTry ok, q⟩
    | cont =>
      obtain ⟨σ', H', J', q⟩ := hsp
      exact ⟨σ', H', J'.ofTry ok, q⟩
    | ret u =>
      obtain ⟨v, σ', H', J', r, q⟩ := hsp
      exact ⟨v, σ', H', J'.ofTry ok, r, q⟩
end
end Ef
set_option maxRecDepth 100000
set_option maxHeartbeats 4000000
/-! EfZ: defs that raise; objects made; a property read; isinstance. -/
namespace Ef
open PySem L2 C8 RZ PyProof.Rows PySem.Spec PySem.W

/-! ### what is raised -/
inductive Ex where
  | un (z : Str)
  | iw
def ExAt (K : PySem.W.Frag) : Ex → Value → Option Addr → Hp → Prop
  | .un z, cls, d, H => cls = .ref (He.ga K "UnknownName") ∧ ∃ dd, d = some dd ∧ H dd = some (.xd [("name", .str z)])
  | .iw, cls, d, _ => cls = .ref (He.ga K "InvalidWeather") ∧ d = none
/-- it always raises -/
def spX (K : PySem.W.Frag) (R : List D → Ex → Prop) : Sp := fun vs H _ E => ∃ F ds ex, Sub F H ∧ RepA K F vs ds ∧ R ds ex ∧ ∀ H' cls d, Sub H H' → ExAt K ex cls d H' → E cls d H'
def WU (X : Cx) (ex : Ex) : WX := fun cls d _ H' => Sub X.H_0 H' ∧ ExAt X.K ex cls d H'
structure CalX (P : Program) (w : World) (K : PySem.W.Frag) (mg : Str → Option Value) (base : Heap) (k : Nat) (x : Str) (sp : Sp) : Prop where
  ex : ∃ (f : Addr) (fd : FuncData) (ps : List Str), FnOk P w K mg base (L2.CX P w) k f fd ps sp ∧ mg x = some (.ref f) ∧ PySem.W.keepIn K (.ref f) = true ∧ Binds K fd ps []
structure MetX (P : Program) (w : World) (K : PySem.W.Frag) (mg : Str → Option Value) (base : Heap) (k : Nat) (C : Addr) (m : Str) (sp : Sp) : Prop where
  ex : ∃ (f : Addr) (fd : FuncData) (ps : List Str), Cls K C ∧ Meth K C m f ∧ FnOk P w K mg base (L2.CX P w) k f fd ps sp ∧ Binds K fd ps []
section
variable {X : Cx} {e e1 e2 a b c o tg : Expr} {es : List Expr} {ρ : List SD} {cs : List CD} {ro : List (Option D)} {d da db' dc : D} {ds' : List D} {pos apos cpos p : Pos} {ba bb : Bool} {x m : Str} {ex : Ex}
/-- the expression raises -/
def RE (X : Cx) (e : Expr) (ρ : List SD) (cs : List CD) (ex : Ex) : Prop := ∀ (F0 H0 F H : Hp) (σ : L2.St) (as : List Addr), StA X.K F0 H0 F H σ ρ cs as → Sub X.H_0 H0 → Takes X (WU X ex) → ∀ Q : VK, WE X e σ H Q
def RS (X : Cx) (st : Stmt) (ρ : List SD) (cs : List CD) (ex : Ex) : Prop := ∀ (F0 H0 F H : Hp) (σ : L2.St) (E : Ends), St X.K F0 H0 F H σ ρ cs → Sub X.H_0 H0 → Takes X (WU X ex) → WS X st E σ H
def RSs (X : Cx) (st : List Stmt) (ρ : List SD) (cs : List CD) (ex : Ex) : Prop := ∀ (F0 H0 F H : Hp) (σ : L2.St) (E : Ends), St X.K F0 H0 F H σ ρ cs → Sub X.H_0 H0 → Takes X (WU X ex) → WSs X st E σ H
theorem passX (tk : Takes X (WU X ex)) : Passes (L2.CX X.prog X.w) X (fun cls d H' => Sub X.H_0 H' ∧ ExAt X.K ex cls d H') := passes_call tk (fun _ _ _ _ h => h)
theorem re_call {k j : Nat} {R : List D → Ex → Prop} (c : CalX X.prog X.w X.K X.mg X.base k x (spX X.K R)) (hr : Room j X.A) (hg : X.env.kindOf x = some .globalImplicit) (ha : DA X (e :: es) (coldV ρ) ds') (hR : R ds' ex) (hk : k ≤ j := by decide)
    (hdb : (x == ("__debug__" : Str)) = false := by kernel_rfl) (he : starEach (e :: es) X.env = (false, eval e X.env) :: starEach es X.env := by kernel_rfl) (hpl : (backTo pos (starEach es X.env)).any (·.1) = false := by kernel_rfl) :
    RE X (.Call (.Name x p) (e :: es) [] pos) ρ cs ex := fun F0 H0 F H σ as S h0 tk Q => by
  obtain ⟨f, fd, ps, fo, hm, kp, hb⟩ := c.ex
  exact PE.we (pe_call (dvs := []) fo (hr.mono hk) hg hm kp hb .nil (passX tk) pa_self hdb he hpl) (ha σ F H S.cold S.grow.fh _ fun vs F1 H1 g r => ⟨F1, ds', ex, g.fh, r.app0, hR, fun H' cls d s h => ⟨((h0.trans S.grow.hh).trans g.hh).trans s, h⟩⟩)
theorem re_meth {pl : Sem Bool} {k j : Nat} {cn : Str} {fs : List (Str × D)} {R : List D → Ex → Prop} (c : MetX X.prog X.w X.K X.mg X.base k (He.ga X.K cn) m (spX X.K R)) (hr : Room j X.A) (ho : DE X o (coldV ρ) (.obj cn fs)) (hm : fs.lookup m = none) (ha : DA X (e :: es) (coldV ρ) ds') (hR : R (.obj cn fs :: ds') ex) (hk : k ≤ j := by decide)
    (hst : starEach (e :: es) X.env = (false, eval e X.env) :: starEach es X.env := by kernel_rfl) (hpl : (backTo pos (starEach es X.env)).any (·.1) = false := by kernel_rfl)
    (ht : eval (.Call (.Attribute o m apos) (e :: es) [] pos) X.env = (do
      let ov ← eval o X.env
      standAt apos.atName
      let (f, first) ← holding [ov] (getMethod ov m pl)
      callWith pos f first (backTo pos (starEach (e :: es) X.env)) (backToKw pos (keywordEach [] X.env))) := by rfl) :
    RE X (.Call (.Attribute o m apos) (e :: es) [] pos) ρ cs ex := fun F0 H0 F H σ as S h0 tk Q => by
  obtain ⟨f, fd, ps, cl, me, fo, hb⟩ := c.ex
  refine PE.we (pe_meth (dvs := []) pe_self cl me fo (hr.mono hk) hb .nil (passX tk) pa_self hst hpl ht) (ho σ F H S.cold S.grow.fh _ fun v F1 H1 g1 r1 => ?_)
  have S1 := S.step g1
  cases r1 with
  | obj hx rf =>
    refine ⟨_, _, _, rfl, g1.fh _ _ hx, rf.lookup_none hm, ha σ F1 H1 S1.cold g1.fh _ fun vs F2 H2 g2 r2 => ?_⟩
    exact ⟨F2, _, ex, g2.fh, .cons (.obj (g2.ff _ _ hx) (rf.mono g2.ff)) r2.app0, hR, fun H' cls d s h => ⟨((h0.trans S1.grow.hh).trans g2.hh).trans s, h⟩⟩
theorem rs_expr (h : RE X e ρ cs ex) (hs : swapsWith e none pos.line X.env = pure false := by rfl) : RS X (.Expr e pos) ρ cs ex := fun F0 H0 F H σ E ⟨as, S⟩ h0 tk => PS.ws (ps_expr pe_self hs) (h F0 H0 F H σ as S h0 tk _)
theorem rs_ret (h : RE X e ρ cs ex) : RS X (.Return (some e) pos) ρ cs ex := fun F0 H0 F H σ E ⟨as, S⟩ h0 tk => PS.ws (ps_ret pe_self) (h F0 H0 F H σ as S h0 tk _)
theorem rss_head {st : Stmt} {rest : List Stmt} (h : RS X st ρ cs ex) : RSs X (st :: rest) ρ cs ex := fun F0 H0 F H σ E S h0 tk => PSs.wss (pss_cons ps_self pss_self) (h F0 H0 F H σ _ S h0 tk)
theorem rss_cons {st : Stmt} {rest : List Stmt} (h : DS X st ρ cs { nx := fun ρ' cs' => RSs X rest ρ' cs' ex, rt := fun _ => False }) : RSs X (st :: rest) ρ cs ex := fun F0 H0 F H σ E S h0 tk =>
  PSs.wss (pss_cons ps_self pss_self) (h F0 H0 F H σ _ S ⟨fun σ F H ρ cs q S' => q F0 H0 F H σ E S' h0 tk, fun _ _ _ z => z.elim, fun _ _ _ _ _ z => z.elim, fun _ _ _ _ _ z => z.elim⟩)
theorem rs_if {th el : List Stmt} (h : ET X c ρ cs ba) (h1 : ba = true → RSs X th ρ cs ex) (h2 : ba = false → RSs X el ρ cs ex) : RS X (.If c th el pos) ρ cs ex := fun F0 H0 F H σ E ⟨as, S⟩ h0 tk => by
  refine PS.ws (ps_if pt_self pss_self pss_self) (h F0 H0 F H σ as S _ fun F' H' g => ?_)
  cases ba with
  | true => rw [if_pos rfl]; exact h1 rfl F0 H0 F' H' σ E ⟨as, S.step g⟩ h0 tk
  | false => rw [if_neg Bool.false_ne_true]; exact h2 rfl F0 H0 F' H' σ E ⟨as, S.step g⟩ h0 tk
/-- raise UnknownName(e) -/
theorem rs_raiseU {fI : Addr} {fd : FuncData} {j : Nat} {z : Str} (T : OexC X.K (He.ga X.K "UnknownName")) (iC : PySem.W.findIn X.K (.ref (He.ga X.K "UnknownName")) "__init__" = some (some (.ref fI))) (tI : PySem.W.typeIn X.K (.ref fI) = some (.type "function"))
    (F1 : FnOk X.prog X.w X.K X.mg X.base L2.CX0 1 fI fd ["self", "name"] (spU (He.ga X.K "UnknownName"))) (hr : Room j X.A) (hk : 2 ≤ j) (hb : Binds X.K fd ["self", "name"] []) (hc : X.calm = true) (hg : X.env.kindOf "UnknownName" = some .globalImplicit) (hm : X.mg "UnknownName" = some (.ref (He.ga X.K "UnknownName"))) (ha : DE X e (coldV ρ) (ds z)) (hx : ex = .un z)
    (he : starEach [e] X.env = (false, eval e X.env) :: starEach [] X.env := by kernel_rfl) (hpl : (backTo pos (starEach [] X.env)).any (·.1) = false := by kernel_rfl) :
    RS X (.Raise (some (.Call (.Name "UnknownName" p) [e] [] pos)) none apos) ρ cs ex := fun F0 H0 F H σ E ⟨as, S⟩ h0 tk => by
  subst hx
  refine PS.ws (ps_raise hc tk (pmk_oex (dvs := []) T iC tI F1 (hr.mono hk) hb .nil (fun _ _ _ _ _ _ _ z => z.elim) hg hm (pa_cons pe_self pa_nil he) (by kernel_rfl) he hpl)) ?_
  refine ha σ F H S.cold S.grow.fh _ fun v F1 H1 g r => ?_
  cases r
  refine ⟨(by decide : (1 : Nat) ≤ 1000), fun a hn => ⟨a, .str z, rfl, upd_same, fun dx hd hne => ⟨rfl, dx, [("name", .str z)], upd_same, by rw [upd_ne hne, upd_same], by rw [upd_ne hne] at hd; exact hd, ?_, rfl, dx, rfl, upd_same⟩⟩⟩
  have hd' : H1 dx = none := by rw [upd_ne hne] at hd; exact hd
  have s1 : Sub X.H_0 H1 := (h0.trans S.grow.hh).trans g.hh
  intro b o hb
  have h1 := s1 b o hb
  have nb : b ≠ dx := ne_of_none h1 hd'
  have na : b ≠ a := ne_of_none h1 hn
  rw [upd_ne nb, del_ne na, upd_ne na, upd_ne nb, upd_ne na]
  exact h1
/-- raise InvalidWeather('..') -/
theorem rs_raiseW {bmB : List Value} {B newId initId : String} {txt : Str} {j : Nat} {p2 : Pos} (FB : ExcBaseFacts B newId initId bmB) (q : PySem.W.excIn X.K (He.ga X.K "InvalidWeather") bmB newId = true) (gC : X.mg "InvalidWeather" = some (.ref (He.ga X.K "InvalidWeather"))) (kC : PySem.W.keepIn X.K (.ref (He.ga X.K "InvalidWeather")) = true) (r : Raises X (.ref (He.ga X.K "InvalidWeather"))) (hc : X.calm = true) (hg : X.env.kindOf "InvalidWeather" = some .globalImplicit) :
    RS X (.Raise (some (.Call (.Name "InvalidWeather" p) [.Constant (.str txt) j p2] [] pos)) none apos) ρ cs .iw := fun F0 H0 F H σ E ⟨as, S⟩ h0 tk =>
  PS.ws (ps_raise hc tk (pmk_own FB q gC kC r hg (by kernel_rfl))) ⟨h0.trans S.grow.hh, rfl, rfl⟩
/-- a loop whose n-th round raises -/
theorem rs_for {its : List D} {iter : Expr} {body : List Stmt} {asg : D → List (Nat × D)} (n : Nat) (I : Nat → List SD → List CD → Prop) (hp : PassesOwn (model X.prog X.w) X.A X.env X.xe) (hc : X.calm = true) (hi : EI X tg iter ρ cs its) (h0 : I 0 ρ cs) (hn : n < its.length)
    (step : ∀ i d ρ' cs', i < n → its[i]? = some d → I i ρ' cs' → DG X tg d (asg d) ∧ DSs X body (setsS ρ' (asg d)) cs' { nx := I (i + 1), rt := fun _ => False, ct := I (i + 1) })
    (last : ∀ d ρ' cs', its[n]? = some d → I n ρ' cs' → DG X tg d (asg d) ∧ RSs X body (setsS ρ' (asg d)) cs' ex) (hs : ∀ x, foldedSetIterable iter X.env x = pure x := by intro _; rfl) : RS X (.For tg iter body [] pos) ρ cs ex := fun F0 H0 F H σ E ⟨as, S⟩ hh0 tk => by
  obtain ⟨wi, p, k⟩ := hi
  refine PS.ws (ps_for hp hc p pg_self pss_self (hs := hs)) (k F0 H0 F H σ as S _ fun J F1 H1 g1 W => ?_)
  have gB : Grow F0 H0 F1 H1 := S.grow.trans g1
  refine ⟨fun i m σ' H' => m = its.length - i ∧ i ≤ n ∧ ∃ F' ρ' cs', I i ρ' cs' ∧ St X.K F1 H0 F' H' σ' ρ' cs', ⟨its.length, by rw [Nat.sub_zero], Nat.zero_le _, F1, ρ, cs, h0, as, (S.step g1).rebase gB.ff .rfl⟩, ?_⟩
  rintro i m σ' H' ⟨rfl, hi, F', ρ', cs', iv, as', S'⟩
  have sF : Sub F1 H' := S'.grow.ff.trans S'.grow.fh
  have hlt : i < its.length := Nat.lt_of_le_of_lt hi hn
  have ei : its[i]? = some its[i] := List.getElem?_eq_getElem hlt
  by_cases hin : i < n
  · obtain ⟨hg, hb⟩ := step i its[i] ρ' cs' hin ei iv
    refine .inr ⟨W.go i H' sF hlt, fun σ2 H2 => i + 1 ≤ n ∧ ∃ F2 ρ2 cs2, I (i + 1) ρ2 cs2 ∧ St X.K F1 H0 F2 H2 σ2 ρ2 cs2, fun σ2 H2 ⟨h1, h2⟩ => ⟨its.length - (i + 1), by omega, rfl, h1, h2⟩, fun x H2 hy => ?_⟩
    obtain ⟨F2, g2, rx⟩ := W.yld i its[i] H' x H2 F' S'.grow.ff S'.grow.fh ei hy
    have S2 := S'.step g2
    refine hg x σ' F2 H2 g2.fh rx _ fun vs rvs => ?_
    exact hb F1 H0 F2 H2 _ _ ⟨as', S2.sets rvs⟩ ⟨fun σ3 F3 H3 ρ3 cs3 iv3 S3 => ⟨hin, F3, ρ3, cs3, iv3, S3⟩, fun _ _ _ z => z.elim, fun _ _ _ _ _ z => z.elim, fun σ3 F3 H3 ρ3 cs3 iv3 S3 => ⟨hin, F3, ρ3, cs3, iv3, S3⟩⟩
  · have e : i = n := by omega
    subst e
    obtain ⟨hg, hb⟩ := last its[i] ρ' cs' ei iv
    refine .inr ⟨W.go i H' sF hlt, fun σ2 H2 => False, fun σ2 H2 z => z.elim, fun x H2 hy => ?_⟩
    obtain ⟨F2, g2, rx⟩ := W.yld i its[i] H' x H2 F' S'.grow.ff S'.grow.fh ei hy
    have S2 := S'.step g2
    refine hg x σ' F2 H2 g2.fh rx _ fun vs rvs => ?_
    exact hb F1 H0 F2 H2 _ _ ⟨as', S2.sets rvs⟩ hh0 tk
end
/-! ### their promises -/
section
variable {P : Program} {w : World} {K : PySem.W.Frag} {mg : Str → Option Value} {base : Heap} {x qual : Str} {params : Arguments} {body : List Stmt} {scope : Scope} {dvs : List V} {kws : List (Str × V)} {f : Addr} {fd : FuncData} {N ps : List Str} {k : Nat} {R : List D → Ex → Prop}
theorem def_X (F : FunD K x qual params body scope dvs kws f fd) (S : FnScope N ps scope) (len : ∀ ds d, R ds d → ds.length = ps.length)
    (h : ∀ (cdv : Value) (A : Around) (outer : List Env) (s : Shared) (H : Hp) (E : XK) (ds : List D) (ex : Ex), R ds ex → Room k (A.deeper (envOfC qual scope s.heap.objs.size f cdv)) →
      RSs (cxOf (L2.CX P w) P w K mg base N qual scope f cdv A outer s H E) body (argS ds N.length) [] ex) : FnOk P w K mg base (L2.CX P w) (k + 1) f fd ps (spX K R) := by
  refine F.ok S (fun vs H Q E hq => ?_) (fun cdv A outer s H vs Q E hr hq => ?_)
  · obtain ⟨F', ds, d, _, r, hR, _⟩ := hq
    rw [r.length]; exact len ds d hR
  · obtain ⟨F', ds, ex, hs, r, hR, q⟩ := hq
    have hpl : ds.length ≤ N.length := by
      rw [len ds ex hR]
      have := congrArg List.length S.pre; rw [List.length_take] at this; omega
    refine ⟨WSs _ body, pss_self, ?_⟩
    exact h cdv A outer s H E ds ex hR hr F' H F' H (L2.start N vs) _ ⟨[], start_st hs r rfl hpl⟩ .rfl ((takes_of rfl rfl rfl rfl).imp fun cls d σ H' ⟨s1, e1⟩ => q H' cls d s1 e1)
theorem calX {st : Stmt} (G : FnG K mg x st) (S : FnScope N ps (defScope st)) (len : ∀ ds d, R ds d → ds.length = ps.length)
    (hb : ∀ (kV doc pm : Value) (an : Option Addr) (cdv ct : Value) (us : List Value), us.length = ps.length → bindArgs (PySem.W.fnOf x x (defArgs st) (defBody st) (defScope st) .none kV doc pm an cdv ct) ⟨us, []⟩ = pure (ps.zip us))
    (h : ∀ (cdv : Value) (f : Addr) (A : Around) (outer : List Env) (s : Shared) (H : Hp) (E : XK) (ds : List D) (ex : Ex), R ds ex → Room k (A.deeper (envOfC x (defScope st) s.heap.objs.size f cdv)) →
      RSs (cxOf (L2.CX P w) P w K mg base N x (defScope st) f cdv A outer s H E) (defBody st) (argS ds N.length) [] ex) : CalX P w K mg base (k + 1) x (spX K R) := by
  obtain ⟨g, fd, F⟩ := G
  exact ⟨_, fd, ps, def_X F S len fun cdv A outer s H E ds d hR hr => h cdv _ A outer s H E ds d hR hr, g, F.kp, F.bindsN hb⟩
theorem metX {st : Stmt} {c m q : Str} (cl : Cls K (He.ga K c)) (G : FnM K c m q st [] []) (S : FnScope N ps (defScope st)) (len : ∀ ds d, R ds d → ds.length = ps.length)
    (hb : ∀ (kV doc pm : Value) (an : Option Addr) (cdv ct : Value) (us : List Value), us.length = ps.length → bindArgs (PySem.W.fnOf m q (defArgs st) (defBody st) (defScope st) .none kV doc pm an cdv ct) ⟨us, []⟩ = pure (ps.zip us))
    (h : ∀ (cdv : Value) (f : Addr) (A : Around) (outer : List Env) (s : Shared) (H : Hp) (E : XK) (ds : List D) (ex : Ex), R ds ex → Room k (A.deeper (envOfC q (defScope st) s.heap.objs.size f cdv)) →
      RSs (cxOf (L2.CX P w) P w K mg base N q (defScope st) f cdv A outer s H E) (defBody st) (argS ds N.length) [] ex) : MetX P w K mg base (k + 1) (He.ga K c) m (spX K R) := by
  obtain ⟨me, fd, F⟩ := G
  exact ⟨_, fd, ps, cl, me, def_X F S len fun cdv A outer s H E ds d hR hr => h cdv _ A outer s H E ds d hR hr, F.bindsN hb⟩
end
end Ef
set_option maxRecDepth 100000
set_option maxHeartbeats 4000000
/-! EfW: objects made; a property read; isinstance; the try. -/
namespace Ef
open PySem L2 C8 RZ PyProof.Rows PySem.Spec PySem.W

/-! ### __init__ -/
def spI (K : PySem.W.Frag) (cn : Str) (R : List D → List (Str × D) → Prop) : Sp := fun vs H1 Q _ => ∃ F H x dx vs' ds fs, vs = .ref x :: vs' ∧ Sub F H ∧ H x = none ∧ H dx = none ∧ dx ≠ x ∧ H1 = upd (upd H dx (.own x)) x (.ins (He.ga K cn) dx []) ∧ RepA K F vs' ds ∧ R ds fs ∧
  ∀ F' H', Grow F H F' H' → F' x = none → CellIs K F' H' x (.obj cn fs) → Q .non H'
def argI (ds : List D) (n : Nat) : List SD := .c 0 :: (ds.map SD.d ++ List.replicate (n - (ds.length + 1)) SD.un)
section
variable {P : Program} {w : World} {K : PySem.W.Frag} {mg : Str → Option Value} {base : Heap} {x qual : Str} {params : Arguments} {body : List Stmt} {scope : Scope} {dvs : List V} {kws : List (Str × V)} {f : Addr} {fd : FuncData} {N ps : List Str} {k : Nat} {cn : Str} {R : List D → List (Str × D) → Prop}
theorem def_I (Fd : FunD K x qual params body scope dvs kws f fd) (S : FnScope N ps scope) (len : ∀ ds d, R ds d → ds.length + 1 = ps.length)
    (h : ∀ (cdv : Value) (A : Around) (outer : List Env) (s : Shared) (H : Hp) (E : XK) (ds : List D) (fs : List (Str × D)) (y : Addr), R ds fs → Room k (A.deeper (envOfC qual scope s.heap.objs.size f cdv)) →
      DSs (cxOf L2.CX0 P w K mg base N qual scope f cdv A outer s H E).nox body (argI ds N.length) [.at y (.obj cn [])] { nx := fun _ cs => cs[0]? = some (.at y (.obj cn fs)), rt := fun _ => False }) : FnOk P w K mg base L2.CX0 (k + 1) f fd ps (spI K cn R) := by
  refine Fd.ok S (fun vs H Q E hq => ?_) (fun cdv A outer s H1 vs Q E hr hq => ?_)
  · obtain ⟨F', H, x, dx, vs', ds, d, rfl, _, _, _, _, _, r, hR, _⟩ := hq
    rw [List.length_cons, r.length]; exact len ds d hR
  · obtain ⟨F, H, y, dx, vs', ds, fs, rfl, hs, hx, hdx, hne, rfl, r, hR, q⟩ := hq
    have hpl : ds.length + 1 ≤ N.length := by
      rw [len ds fs hR]
      have := congrArg List.length S.pre; rw [List.length_take] at this; omega
    have s1 : Sub H (upd (upd H dx (.own y)) y (.ins (He.ga K cn) dx [])) := fun b o e => by
      rw [upd_ne (ne_of_none e hx), upd_ne (ne_of_none e hdx)]; exact e
    have start : StA K F H F (upd (upd H dx (.own y)) y (.ins (He.ga K cn) dx [])) (L2.start N (.ref y :: vs')) (argI ds N.length) [.at y (.obj cn [])] [y] := by
      have hl2 : (L2.start N (.ref y :: vs')).length = (argI ds N.length).length := by
        unfold L2.start argI
        simp only [List.length_append, List.length_map, List.length_replicate, List.length_cons, r.length]
        omega
      refine ⟨⟨.rfl, hs.trans s1, s1, fun a o h n => by rw [n] at h; cases h⟩, hl2, fun i t h => ?_, fun n c h => ?_, rfl, by simp⟩
      · cases i with
        | zero =>
          cases h
          exact ⟨y, rfl, rfl⟩
        | succ i =>
          have h : (ds.map SD.d ++ List.replicate (N.length - (ds.length + 1)) SD.un)[i]? = some t := h
          by_cases hi : i < ds.length
          · rw [List.getElem?_append_left (by rw [List.length_map]; exact hi), List.getElem?_map] at h
            cases e : ds[i]? with
            | none => rw [e] at h; cases h
            | some d =>
              rw [e] at h; cases h
              obtain ⟨v, ev, rv⟩ := r.get e
              refine ⟨v, ?_, rv⟩
              show ((V.ref y :: vs').map some ++ List.replicate (N.length - (V.ref y :: vs').length) none)[i + 1]? = some (some v)
              rw [List.getElem?_append_left (by rw [List.length_map, List.length_cons]; have := some_lt ev; omega), List.getElem?_map, List.getElem?_cons_succ, ev]; rfl
          · rw [List.getElem?_append_right (by rw [List.length_map]; omega), List.getElem?_replicate] at h
            by_cases hj : i - (ds.map SD.d).length < N.length - (ds.length + 1)
            · rw [if_pos hj] at h; cases h; trivial
            · rw [if_neg hj] at h; cases h
      · match n, h with
        | 0, h =>
          cases h
          exact ⟨y, rfl, hs.none hx, hx, rfl, dx, [], upd_same, .nil⟩
    refine ⟨WSs _ body, PSs.nox pss_self, ?_⟩
    refine h cdv A outer s _ E ds fs y hR hr F H F _ (L2.start N (.ref y :: vs')) _ ⟨[y], start⟩ ⟨fun σ F2 H2 ρ cs e ⟨as, S2⟩ => ?_, fun _ _ _ z => z.elim, fun _ _ _ _ _ z => z.elim, fun _ _ _ _ _ z => z.elim⟩
    obtain ⟨a, ea, fa, h0, rfl, ci⟩ := S2.cell 0 _ e
    exact q F2 H2 S2.grow fa ci
end
section
variable {X : Cx} {e e1 e2 a b c o tg : Expr} {es : List Expr} {kws : List Keyword} {ρ : List SD} {cs : List CD} {ro : List (Option D)} {d da db' dc : D} {ds' : List D} {pos apos cpos p : Pos} {ba bb : Bool} {x m : Str}
/-- C(e, ..) -/
theorem dn_make {f : Addr} {fd : FuncData} {ps : List Str} {cn : Str} {fs : List (Str × D)} {j k : Nat} {R : List D → List (Str × D) → Prop} (M : Mk X.K (He.ga X.K cn) f) (F1 : FnOk X.prog X.w X.K X.mg X.base L2.CX0 k f fd ps (spI X.K cn R)) (hr : Room j X.A) (hk : k + 1 ≤ j) (hg : X.env.kindOf cn = some .globalImplicit) (hm : X.mg cn = some (.ref (He.ga X.K cn))) (hb : Binds X.K fd ps [])
    (ha : DA X (e :: es) ro ds') (hR : R ds' fs) (hdb : (cn == ("__debug__" : Str)) = false := by kernel_rfl) (he : starEach (e :: es) X.env = (false, eval e X.env) :: starEach es X.env := by kernel_rfl) (hpl : (backTo pos (starEach es X.env)).any (·.1) = false := by kernel_rfl) :
    DN X (.Call (.Name cn p) (e :: es) [] pos) ro (.obj cn fs) := fun σ F H S hs Q q =>
  PE.we (pe_make (dvs := []) M F1 (hr.mono hk) hg hm hb .nil L2.pass0 pa_self hdb he hpl) (ha σ F H S hs _ fun vs F1 H1 g r y dx hy hd hne =>
    ⟨F1, H1, y, dx, vs ++ [], ds', fs, rfl, g.fh, hy, hd, hne, rfl, r.app0, hR, fun F' H' g' fy ci => ⟨rfl, q y F' H' (g.trans g') (g.hh.none hy) fy ci⟩⟩)
/-- keywords -/
inductive DK (X : Cx) (ro : List (Option D)) : List Keyword → List D → Prop
  | nil : DK X ro [] []
  | cons {nm : Option Str} {e : Expr} {kp : Pos} {d : D} {kws : List Keyword} {ds : List D} : DE X e ro d → DK X ro kws ds → DK X ro (⟨nm, e, kp⟩ :: kws) (d :: ds)
theorem dk_run (h : DK X ro kws ds') : ∃ t, PK X kws t ∧ ∀ (σ : L2.St) (F H : Hp), Sl X.K F σ ro → Sub F H → ∀ Q : List V → Hp → Prop, (∀ vs F' H', Grow F H F' H' → RepA X.K F' vs ds' → Q vs H') → t σ H Q := by
  induction h with
  | nil => exact ⟨_, pk_nil, fun σ F H S hs Q q => q [] F H (.refl hs) .nil⟩
  | cons h1 h2 ih =>
    obtain ⟨t, p, k⟩ := ih
    refine ⟨_, pk_cons pe_self p, fun σ F H S hs Q q => ?_⟩
    exact h1 σ F H S hs _ fun v F1 H1 g r => k σ F1 H1 (S.mono g.ff) g.fh _ fun vs F2 H2 g2 r2 => q _ F2 H2 (g.trans g2) (.cons (r.mono g2.ff) r2)
/-- C(k = e, ..), every parameter by its name -/
theorem dn_makeK {f : Addr} {fd : FuncData} {ps ks : List Str} {cn : Str} {fs : List (Str × D)} {j k : Nat} {R : List D → List (Str × D) → Prop} {g : List Value → List Value → List Value} (M : Mk X.K (He.ga X.K cn) f) (F1 : FnOk X.prog X.w X.K X.mg X.base L2.CX0 k f fd ps (spI X.K cn R)) (hr : Room j X.A) (hk : k + 1 ≤ j) (hg : X.env.kindOf cn = some .globalImplicit) (hm : X.mg cn = some (.ref (He.ga X.K cn)))
    (hb : KBn X.K fd ps 1 ks g (fun vs zs => vs ++ zs)) (ha : DK X ro kws ds') (hl : ds'.length = ks.length) (hR : R ds' fs) (hall : (backToKw pos (keywordEach kws X.env)).all (·.1.isSome) = true := by kernel_rfl) (hks : (backToKw pos (keywordEach kws X.env)).filterMap (·.1) = ks := by kernel_rfl) (hdb : (cn == ("__debug__" : Str)) = false := by kernel_rfl)
    (hpl : ((backTo pos (starEach [] X.env)).any (·.1) || (backToKw pos (keywordEach kws X.env)).any (·.1.isNone)) = false := by kernel_rfl) : DN X (.Call (.Name cn p) [] kws pos) ro (.obj cn fs) := by
  obtain ⟨t, pk, kk⟩ := dk_run ha
  exact fun σ F H S hs Q q => PE.we (pe_makeK0 M F1 (hr.mono hk) hg hm hb L2.pass0 pk hall hks hdb hpl) (kk σ F H S hs _ fun vs F1 H1 gr r => ⟨rfl, by rw [r.length]; exact hl, fun y dx hy hd hne =>
    ⟨F1, H1, y, dx, vs, ds', fs, rfl, gr.fh, hy, hd, hne, rfl, r, hR, fun F' H' g' fy ci => ⟨rfl, q y F' H' (gr.trans g') (gr.hh.none hy) fy ci⟩⟩⟩)
/-- a property -/
theorem de_prop {cn f : Str} {pa ga : Addr} {fd : FuncData} {ps : List Str} {k j : Nat} {fs : List (Str × D)} {R : List D → D → Prop} (cl : Cls X.K (He.ga X.K cn)) (hp : PropOf X.K (He.ga X.K cn) f pa ga) (F1 : FnOk X.prog X.w X.K X.mg X.base L2.CX0 k ga fd ps (spD X.K R)) (hr : Room j X.A) (hk : k + 1 ≤ j) (hb : Binds X.K fd ps [])
    (ho : DE X o ro (.obj cn fs)) (hR : R [.obj cn fs] d) (hab : attributeBase o f X.env (eval o X.env) = eval o X.env := by kernel_rfl) : DE X (.Attribute o f pos) ro d := fun σ F H S hs Q q =>
  PE.we (pe_prop (dvs := []) pe_self cl hp F1 (hr.mono hk) hb .nil L2.pass0 hab) (ho σ F H S hs _ fun v F1 H1 g r => by
    cases r with
    | obj hx rf => exact ⟨_, _, _, rfl, g.fh _ _ hx, F1, [.obj cn fs], d, g.fh, .cons (.obj hx rf) .nil, hR, q.go g⟩)
/-- isinstance(e, bool) of a bool -/
theorem de_isB (hg : X.env.kindOf "isinstance" = some .globalImplicit) (hm : X.mg "isinstance" = none) (hg2 : X.env.kindOf "bool" = some .globalImplicit) (hm2 : X.mg "bool" = none) (ha : DE X e ro (db ba))
    (he : starEach [e, .Name "bool" apos] X.env = (false, eval e X.env) :: starEach [.Name "bool" apos] X.env := by kernel_rfl) (he2 : starEach [.Name "bool" apos] X.env = (false, eval (.Name "bool" apos) X.env) :: starEach [] X.env := by kernel_rfl) (hpl : (backTo pos (starEach [.Name "bool" apos] X.env)).any (·.1) = false := by kernel_rfl) :
    DE X (.Call (.Name "isinstance" p) [e, .Name "bool" apos] [] pos) ro (db true) := fun σ F H S hs Q q =>
  PE.we (pe_callB call_isi hg hm (by decide +kernel) (pa_cons pe_self (pa_cons (pe_bltn (v := .ty "bool") hg2 hm2 (by decide +kernel) rfl (by decide +kernel) (by decide +kernel)) pa_nil he2) he) (by decide +kernel) (by decide +kernel) he hpl) (ha σ F H S hs _ fun v F' H' g r => by
    cases r
    exact ⟨.bl ba, .ty "bool", .type "bool", .type "bool", true, rfl, .ty _, .base (.bl ba), by unfold kitOne; rw [if_pos (by decide)], q _ F' H' g (.v _)⟩)
end
end Ef
set_option maxRecDepth 100000
set_option maxHeartbeats 4000000
/-! EfV: the facts of the exceptions; the def with the try. -/
namespace Ef
open PySem L2 C8 RZ PyProof.Rows PySem.Spec PySem.W

/-- what the walk asks of the exceptions' classes -/
structure Xx (P : Program) (K : PySem.W.Frag) (mg : Str → Option Value) : Prop where
  gU : mg "UnknownName" = some (.ref (He.ga K "UnknownName"))
  gW : mg "InvalidWeather" = some (.ref (He.ga K "InvalidWeather"))
  uU : ∃ fd, UnF P K mg (He.ga K "UnknownName") (He.ma K (He.ga K "UnknownName") "__init__") fd (defBody s_UnknownName___init__) (defScope s_UnknownName___init__) ∧ Binds K fd ["self", "name"] []
  iU : findIn K (.ref (He.ga K "UnknownName")) "__init__" = some (some (.ref (He.ma K (He.ga K "UnknownName") "__init__")))
  tU : typeIn K (.ref (He.ma K (He.ga K "UnknownName") "__init__")) = some (.type "function")
  xU : XfC K (He.ga K "UnknownName")
  eW : excIn K (He.ga K "InvalidWeather") [.type "ValueError", .type "Exception", .type "BaseException", .type "object"] "ValueError.__new__" = true
  kW : keepIn K (.ref (He.ga K "InvalidWeather")) = true
  sW : subIn K (.ref (He.ga K "InvalidWeather")) (.type "BaseException") = some true
  tW : typeIn K (.ref (He.ga K "InvalidWeather")) = some (.type "type")
  cW : ExcC K (He.ga K "InvalidWeather")
  kt : kitOne K (.ref (He.ga K "InvalidWeather")) (.type "ValueError") = some true
  m1 : exmOne K (.ref (He.ga K "UnknownName")) (.ref (He.ga K "UnknownName")) = some true
  m2 : exmOne K (.ref (He.ga K "InvalidWeather")) (.ref (He.ga K "UnknownName")) = some false
  m3 : exmOne K (.ref (He.ga K "InvalidWeather")) (.ref (He.ga K "InvalidWeather")) = some true
def valE : Ex → D
  | .un z => ds z
  | .iw => db true
section
variable {P : Program} {w : World} {K : PySem.W.Frag} {mg : Str → Option Value} {base : Heap} {x qual : Str} {params : Arguments} {scope : Scope} {dvs : List V} {kws : List (Str × V)} {f : Addr} {fd : FuncData} {N ps : List Str} {k : Nat} {R : List D → D → Prop}
theorem def_T {tb rest : List Stmt} {q0 q1 q2 q3 q4 q5 q6 q7 q8 q9 q10 q11 q12 : Pos} (Z : Xx P K mg) (Fd : FunD K x qual params (.Try tb [.ExceptHandler (some (.Name "UnknownName" q1)) (some "e") [.Return (some (.Attribute (.Name "e" q2) "name" q3)) q4] q5,
      .ExceptHandler (some (.Name "InvalidWeather" q6)) (some "e") [.Return (some (.Call (.Name "isinstance" q7) [.Name "e" q8, .Name "ValueError" q9] [] q10)) q11] q12] [] [] q0 :: rest) scope dvs kws f fd) (S : FnScope N ps scope) (i : Nat) (hi : N[i]? = some ("e" : Str))
    (hln : scope.names.lookup ("e" : Str) = some .local) (hgU : scope.names.lookup ("UnknownName" : Str) = some .globalImplicit) (hgW : scope.names.lookup ("InvalidWeather" : Str) = some .globalImplicit) (hgI : scope.names.lookup ("isinstance" : Str) = some .globalImplicit) (hgV : scope.names.lookup ("ValueError" : Str) = some .globalImplicit)
    (hmI : mg "isinstance" = none) (hmV : mg "ValueError" = none)
    (hab : ∀ env : Env, env.scope = scope → attributeBase (.Name "e" q2) "name" env (eval (.Name "e" q2) env) = eval (.Name "e" q2) env)
    (len : ∀ ds d, R ds d → ds.length = ps.length)
    (h : ∀ (cdv : Value) (A : Around) (outer : List Env) (s : Shared) (H : Hp) (E : XK) (ds : List D) (d : D), R ds d → Room k (A.deeper (envOfC qual scope s.heap.objs.size f cdv)) →
      ∃ ex, d = valE ex ∧ ∀ (pn : List (Addr × Obj)) (xe : Value → Shared → Prop), PassesOwn (model P w) (A.deeper (envOfC qual scope s.heap.objs.size f cdv)) (envOfC qual scope s.heap.objs.size f cdv) xe → RSs ((cxOf L2.CX0 P w K mg base N qual scope f cdv A outer s H E).nox.tr pn xe) tb (argS ds N.length) [] ex) : FnOk P w K mg base L2.CX0 (k + 1) f fd ps (spD K R) := by
  refine Fd.ok S (fun vs H Q E hq => ?_) (fun cdv A outer s H vs Q E hr hq => ?_)
  · obtain ⟨F', ds, d, _, r, hR, _⟩ := hq
    rw [r.length]; exact len ds d hR
  · obtain ⟨F', ds, d, hs, r, hR, q⟩ := hq
    have hpl : ds.length ≤ N.length := by
      rw [len ds d hR]
      have := congrArg List.length S.pre; rw [List.length_take] at this; omega
    obtain ⟨ex, rfl, hx⟩ := h cdv A outer s H E ds d hR hr
    let X := (cxOf L2.CX0 P w K mg base N qual scope f cdv A outer s H E).nox
    let tbW : WX → TS := fun W D σ H => ∀ (pn : List (Addr × Obj)) (xe : Value → Shared → Prop), Takes (X.tr pn xe) W → PassesOwn (model X.prog X.w) X.A X.env xe → WSs (X.tr pn xe) tb D σ H
    let suite1 : List Stmt := [.Return (some (.Attribute (.Name "e" q2) "name" q3)) q4]
    let suite2 : List Stmt := [.Return (some (.Call (.Name "isinstance" q7) [.Name "e" q8, .Name "ValueError" q9] [] q10)) q11]
    let tsW (su : List Stmt) : Addr → Value → Option Addr → TS := fun a cls d D σ H => ∀ (oe : Obj) (pn : List (Addr × Obj)), Zc cls d oe → (∃ vs, oe.data = .fields vs) → WSs (X.suite a ((a, oe) :: pn)) su D σ H
    have hh : HdsA X "e" _ [(.ref (He.ga K "UnknownName"), tsW suite1), (.ref (He.ga K "InvalidWeather"), tsW suite2)] :=
      .cons (np := q1) (pos' := q5) ⟨hgU, by decide +kernel, .inl Z.gU⟩ (fun a oe cls d pn hz hv => ⟨fun pins s' σ H E I hw => hw oe pn hz hv pins s' I⟩)
        (.cons (np := q6) (pos' := q12) ⟨hgW, by decide +kernel, .inl Z.gW⟩ (fun a oe cls d pn hz hv => ⟨fun pins s' σ H E I hw => hw oe pn hz hv pins s' I⟩) .nil)
    have st := ps_tryA (X := X) (i := i) (tb := tbW) (pos := q0) (body := tb) (Wout := fun _ _ _ _ => False) rfl rfl S.nd hi hln takes_none5 (fun W pn xe tk hp => ⟨fun pins s' σ H E I hw => hw pn xe tk hp pins s' I⟩) hh
    refine ⟨_, PSs.nox (pss_cons st (pss_self (X := X) (st := rest))), ?_⟩
    intro pn xe tk hp
    refine hx pn xe hp F' H F' H (L2.start N vs) _ ⟨[], start_st hs r rfl hpl⟩ .rfl (tk.imp fun cls dd σ H1 ⟨s1, e1⟩ => ?_)
    have s1 : Sub H H1 := s1
    have gr : Grow F' H F' H1 := ⟨.rfl, hs.trans s1, s1, fun a o h n => by rw [n] at h; cases h⟩
    cases ex with
    | un z =>
      obtain ⟨rfl, da, rfl, hda⟩ := e1
      refine ⟨true, Z.m1, fun _ a ha oe pn hz hv => fun pins s' I => ?_, (by intro z; cases z)⟩
      obtain ⟨fdU, hU, _⟩ := Z.uU
      have hlen : i < σ.length := by have := I.len; rw [List.length_set] at this; rw [this]; exact some_lt hi
      exact (pss_one (ps_ret (pe_xf (X := X) Z.xU hU.no hz hv (pe_var hi (.inl hln) (by kernel_rfl) (by kernel_rfl)) (hab _ rfl)))).run pins s' _ _ _ I ⟨_, List.getElem?_set_self hlen, rfl, rfl, da, _, .str z, rfl, hda, by rfl, q (.str z) F' H1 gr (.v _)⟩
    | iw =>
      obtain ⟨rfl, rfl⟩ := e1
      refine ⟨false, Z.m2, (by intro z; cases z), fun _ => ⟨true, Z.m3, fun _ a ha oe pn hz hv => fun pins s' I => ?_, (by intro z; cases z)⟩⟩
      have hlen : i < σ.length := by have := I.len; rw [List.length_set] at this; rw [this]; exact some_lt hi
      refine (pss_one (ps_ret (pe_callB (X := X.suite a ((a, oe) :: pn)) (call_isE (X := X) Z.cW hz hv) hgI hmI (by decide +kernel) (pa_cons (pe_var hi (.inl hln) (by kernel_rfl) (by kernel_rfl)) (pa_cons (pe_bltn (v := .ty "ValueError") hgV hmV (by decide +kernel) rfl (by decide +kernel) (by decide +kernel)) pa_nil)) (by decide +kernel) (by decide +kernel)))).run pins s' _ _ _ I ?_
      exact ⟨_, List.getElem?_set_self hlen, .ty "ValueError", .type "ValueError", true, rfl, fun u hu => hu, Z.kt, q (.bl true) F' H1 gr (.v _)⟩
end
end Ef
set_option maxRecDepth 100000
set_option maxHeartbeats 4000000
/-! Gm: the things of the program as plain data: encodings, and what the defs compute. -/
namespace Ef
open PySem L2 C8 RZ PyProof.Rows PySem.Spec PySem.W

/-! ### data -/
abbrev Rows := List (Str × Int)
abbrev Wea := List (Int × Str)
abbrev RowC := Str × Option Str × Int
structure LinkM where
  name : Str
  one : Str
  other : Str
  times : List (Option (Int × Int))
structure LandM where
  winds : List Str
  places : List Str
  links : List LinkM
  paths : List (Str × Str × Int)
structure Told where
  word : Str
  labels : Rows
  chain : List RowC
def optI : Option Int → D
  | none => dn
  | some i => di i
def optS : Option Str → D
  | none => dn
  | some x => ds x
def rowD (r : Str × Int) : D := .tup [ds r.1, di r.2]
def rowsD (rs : Rows) : D := .lst (rs.map rowD)
def weaD1 (r : Int × Str) : D := .tup [di r.1, ds r.2]
def weaD (w : Wea) : D := .lst (w.map weaD1)
def timeD : Option (Int × Int) → D
  | none => dn
  | some p => .tup [di p.1, di p.2]
def linkD (l : LinkM) : D := .tup [ds l.name, ds l.one, ds l.other, .tup (l.times.map timeD)]
def pathD (p : Str × Str × Int) : D := .tup [ds p.1, ds p.2.1, di p.2.2]
def landF (L : LandM) : List (Str × D) := [("winds", .tix (L.winds.map ds)), ("places", .tup (L.places.map ds)), ("links", .tup (L.links.map linkD)), ("paths", .tup (L.paths.map pathD))]
def landD (L : LandM) : D := .obj "Land" (landF L)
def partsD (L : LandM) : D := .lst [.tix (L.winds.map ds), .tup (L.places.map ds), .tup (L.links.map linkD), .tup (L.paths.map pathD)]
def numD (row : List (Option Int)) : D := .tup (row.map optI)
def numsD (ns : List (List (Option Int))) : D := .tup (ns.map numD)
def chD (r : RowC) : D := .tup [ds r.1, optS r.2.1, di r.2.2]
def chainD (c : List RowC) : D := .lst (c.map chD)
def paperF (t : Told) : List (Str × D) := [("word", ds t.word), ("labels", rowsD t.labels), ("chain", chainD t.chain)]
def paperD (t : Told) : D := .obj "Paper" (paperF t)
def toldD (t : Told) : D := .tup [ds t.word, rowsD t.labels, chainD t.chain]

/-! ### dicts -/
theorem length_setK (kvs : List (Str × Int)) (k : Str) (v : Int) : (setK kvs k v).length ≤ kvs.length + 1 := by
  unfold setK
  split
  · rw [List.length_map]; omega
  · rw [List.length_append]; exact Nat.le_refl _
def leastStep (t : List (Str × Int)) (r : Str × Int) : List (Str × Int) := setK t r.1 (if (getK t r.1).getD r.2 < r.2 then (getK t r.1).getD r.2 else r.2)
/-- the least minute of each place, in the order of their first rows -/
def leastK (rs : Rows) : List (Str × Int) := rs.foldl leastStep []
theorem foldl_len {β : Type} (f : List (Str × Int) → β → List (Str × Int)) (hf : ∀ t b, (f t b).length ≤ t.length + 1) : ∀ (l : List β) (t : List (Str × Int)), (l.foldl f t).length ≤ t.length + l.length := by
  intro l
  induction l with
  | nil => intro t; exact Nat.le_refl _
  | cons r rs ih =>
    intro t
    have h1 := ih (f t r)
    have h2 := hf t r
    rw [List.foldl_cons, List.length_cons]
    omega
theorem leastK_len (rs : Rows) : (leastK rs).length ≤ rs.length := by
  have h := foldl_len leastStep (fun t r => length_setK _ _ _) rs []
  rw [List.length_nil, Nat.zero_add] at h
  exact h

/-! ### weathers -/
/-- the winds from their starts that are not behind the minute -/
def winds (w : Wea) (m : Int) : List Str := (w.filter fun r => decide (r.1 ≤ m)).map (·.2)
def blow (w : Wea) (m : Int) : Str := (winds w m).getLastD ""
def changes (w : Wea) (m : Int) : List Int := (w.filter fun r => decide (m < r.1)).map (·.1)
def chancesM (w : Wea) (m : Int) : List Int := m :: changes w m

/-! ### fires -/
def least1 (t : Option (Int × Int)) : Option Int := t.map (·.1)
def most1 (t : Option (Int × Int)) : Option Int := t.map (·.2)
def leastN (L : LandM) : List (List (Option Int)) := L.links.map fun l => l.times.map least1
def mostN (L : LandM) : List (List (Option Int)) := L.links.map fun l => l.times.map most1
def windAt (L : LandM) (w : Wea) (m : Int) : Nat := L.winds.idxOf (blow w m)
def end1 (L : LandM) (w : Wea) (row : List (Option Int)) (s : Int) : Option Int := (row.getD (windAt L w s) none).map (s + ·)
def endsM (L : LandM) (w : Wea) (row : List (Option Int)) (m : Int) : List Int := (chancesM w m).filterMap (end1 L w row)
def minL : List Int → Option Int
  | [] => none
  | b :: bs => some (minOf b bs)
def caughtM (L : LandM) (w : Wea) (row : List (Option Int)) (m : Int) : Option Int := minL (endsM L w row m)
/-- place not in broken or minute < broken[place] -/
def ahead (broken : List (Str × Int)) (p : Str) (m : Int) : Bool := !(getK broken p).isSome || decide (m < (getK broken p).getD 0)
/-- the weather is one: from 0 on, rising; its winds are the land's -/
structure WeaOk (L : LandM) (w : Wea) : Prop where
  first : ∃ x r, w = (0, x) :: r
  up : (w.map (·.1)).Pairwise (· < ·)
  few : w.length ≤ 40
  below : ∀ r ∈ w, 0 ≤ r.1 ∧ r.1 ≤ 100000
  of : ∀ r ∈ w, r.2 ∈ L.winds
theorem small {n m : Nat} (h : n ≤ m) (hm : m ≤ 100000 := by decide) : n < sizeLine := Nat.lt_of_le_of_lt (Nat.le_trans h hm) (by decide)
theorem take_foldl {α β : Type} (f : β → α → β) (b : β) {l : List α} {i : Nat} {y : α} (h : l[i]? = some y) : (l.take (i + 1)).foldl f b = f ((l.take i).foldl f b) y := by
  rw [take_filter_succ h, List.foldl_append]; rfl
theorem map_get {α β : Type} {f : α → β} {l : List α} {i : Nat} {d : β} (h : (l.map f)[i]? = some d) : ∃ a, l[i]? = some a ∧ d = f a := by
  rw [List.getElem?_map] at h
  cases e : l[i]? with
  | none => rw [e] at h; cases h
  | some a => rw [e] at h; exact ⟨a, rfl, (Option.some.inj h).symm⟩
def asg1 (a b : Nat) : D → List (Nat × D)
  | .tup [x, y] => [(a, x), (b, y)]
  | _ => []
def asg3 (a b c : Nat) : D → List (Nat × D)
  | .tup [x, y, z] => [(a, x), (b, y), (c, z)]
  | _ => []
end Ef
set_option maxRecDepth 100000
set_option maxHeartbeats 4000000
/-! EfH: small rules over the program's data. -/
namespace Ef
open PySem L2 C8 RZ PyProof.Rows PySem.Spec PySem.W
section
variable {X : Cx} {e e1 e2 a b c o tg : Expr} {es : List Expr} {ro : List (Option D)} {d da db' dc : D} {pos apos cpos p : Pos} {x m : Str}
theorem inV_str (x : Str) : ∀ ys : List Str, inV (.str x) (ys.map V.str) = decide (x ∈ ys)
  | [] => rfl
  | y :: ys => by
    have ih := inV_str x ys
    unfold inV at ih ⊢
    rw [List.map_cons, List.any_cons, ih]
    by_cases h : y = x
    · subst h
      have : eqV (.str y) (.str y) = true := beq_self_eq_true y
      rw [this, Bool.true_or, decide_eq_true List.mem_cons_self]
    · have : eqV (.str y) (.str x) = false := beq_eq_false_iff_ne.mpr h
      rw [this, Bool.false_or]
      by_cases h2 : x ∈ ys
      · rw [decide_eq_true h2, decide_eq_true (List.mem_cons_of_mem _ h2)]
      · rw [decide_eq_false h2, decide_eq_false (fun z => (List.mem_cons.mp z).elim (fun w => h w.symm) h2)]
theorem inV_non : ∀ ys : List Str, inV .non (ys.map V.str) = false
  | [] => rfl
  | y :: ys => by
    have ih := inV_non ys
    unfold inV at ih ⊢
    rw [List.map_cons, List.any_cons, ih]; rfl
theorem flat_map_str (ys : List Str) : (ys.map V.str).all flatV = true := by
  induction ys with
  | nil => rfl
  | cons y ys ih => rw [List.map_cons, List.all_cons, ih]; rfl
theorem ds_map (ys : List Str) : ys.map ds = (ys.map V.str).map D.v := by rw [List.map_map]; rfl
theorem o_inS {x : Str} {ys : List Str} : OpD X (compareOp .In) (ds x) (.tup (ys.map ds)) (db (decide (x ∈ ys))) := by
  rw [ds_map, ← inV_str]
  exact o_inT rfl (flat_map_str ys)
theorem o_notInS {x : Str} {ys : List Str} : OpD X (compareOp .NotIn) (ds x) (.tup (ys.map ds)) (db (!decide (x ∈ ys))) := by
  rw [ds_map, ← inV_str]
  exact o_notInT rfl (flat_map_str ys)
def inOpt (x : Option Str) (ys : List Str) : Bool := match x with
  | none => false
  | some x => decide (x ∈ ys)
theorem o_notInO {x : Option Str} {ys : List Str} : OpD X (compareOp .NotIn) (optS x) (.tup (ys.map ds)) (db (!inOpt x ys)) := by
  cases x with
  | none =>
    have h : OpD X (compareOp .NotIn) (.v .non) (.tup (ys.map ds)) (db (!inV .non (ys.map V.str))) := by
      rw [ds_map]; exact o_notInT rfl (flat_map_str ys)
    rw [inV_non] at h
    exact h
  | some x => exact o_notInS
theorem isN_optI (x : Option Int) : isN (optI x) = !x.isSome := by cases x <;> rfl
theorem isN_optS (x : Option Str) : isN (optS x) = !x.isSome := by cases x <;> rfl
theorem optI_eq {x : Option Int} {i : Int} (h : x = some i) : optI x = di i := by rw [h]; rfl
theorem getE {α β : Type} (f : α → β) {l : List α} {i : Nat} {a : α} (h : l[i]? = some a) : (l.map f)[i]? = some (f a) := by rw [List.getElem?_map, h]; rfl
theorem atI_nat {α : Type} {xs : List α} {i : Nat} {y : α} (h : xs[i]? = some y) : L2.atI xs (i : Int) = some y := by
  have hi : i < xs.length := (List.getElem?_eq_some_iff.mp h).1
  unfold L2.atI ixN
  rw [if_pos (Int.natCast_nonneg i), if_pos (Int.ofNat_lt.mpr hi), Int.toNat_natCast]
  exact h
theorem atI_last {α : Type} {xs : List α} {y : α} (h : xs.getLast? = some y) : L2.atI xs (-1) = some y := by
  have hi : xs ≠ [] := by intro e; rw [e] at h; cases h
  have hl : 0 < xs.length := List.length_pos_iff.mpr hi
  unfold L2.atI ixN
  rw [if_neg (by omega), if_pos (by omega)]
  rw [List.getLast?_eq_getElem?] at h
  have e : (-1 + (xs.length : Int)).toNat = xs.length - 1 := by omega
  rw [e]
  exact h
theorem de_dnotin {kvs : List (Str × Int)} {k : Str} (hu : X.A.units + 1 < cLine) (hi : DE X e ro (ds k)) (ho : DE X o ro (.dic kvs)) (hb : behindInMarks .NotIn o = false := by kernel_rfl) : DE X (.Compare e [.NotIn] [o] pos) ro (db (!(getK kvs k).isSome)) := fun σ F H S s Q q =>
  PE.we (pe_cmp (pc_dnotin hu pe_self pe_self) hb) (two hi ho S s fun v w F' H' g r1 r2 => by
    cases r1
    cases r2 with
    | dic h1 =>
      refine ⟨_, _, rfl, DGet.enc (k := k) (g.fh _ _ h1), ?_⟩
      rw [Option.isSome_map]
      exact q _ F' H' g (.v _))
theorem sIx_pos (n d : Nat) {i : Int} (h : 0 ≤ i) : HT.sIx n d (some i) = min i.toNat n := by
  unfold HT.sIx
  show (if i < 0 then _ else _) = _
  rw [if_neg (by omega)]
theorem cutG_from {α : Type} (xs : List α) {i : Int} (h : 0 ≤ i) : cutG xs (some i) none = xs.drop i.toNat := by
  unfold cutG
  rw [sIx_pos _ _ h, show HT.sIx xs.length xs.length none = xs.length from rfl]
  by_cases hl : i.toNat ≤ xs.length
  · rw [Nat.min_eq_left hl, List.take_of_length_le (by rw [List.length_drop]; exact Nat.le_refl _)]
  · rw [Nat.min_eq_right (by omega), List.drop_of_length_le (Nat.le_refl _), List.drop_of_length_le (by omega), List.take_nil]
theorem cutG_to {α : Type} (xs : List α) {i : Int} (h : 0 ≤ i) : cutG xs none (some i) = xs.take i.toNat := by
  unfold cutG
  rw [sIx_pos _ _ h, show HT.sIx xs.length 0 none = 0 from rfl, List.drop_zero, Nat.sub_zero]
  by_cases hl : i.toNat ≤ xs.length
  · rw [Nat.min_eq_left hl]
  · rw [Nat.min_eq_right (by omega), List.take_length, List.take_of_length_le (by omega)]
theorem getLastD_of {α : Type} {xs : List α} {d y : α} (h : xs.getLast? = some y) : xs.getLastD d = y := by
  rw [List.getLastD_eq_getLast?, h]; rfl
end
end Ef
set_option maxRecDepth 100000
set_option maxHeartbeats 4000000
/-! EfL: an expression that walks a dict which is being filled (the dict stands still for that while). -/
namespace Ef
open PySem L2 C8 RZ PyProof.Rows PySem.Spec PySem.W
section
variable {X : Cx} {e e1 e2 a b c o tg : Expr} {es : List Expr} {ro : List (Option D)} {ρ : List SD} {cs : List CD} {d da db' dc : D} {pos apos cpos p tpos : Pos} {elts : List Expr} {kk : Nat} {x m : Str} {kvs : List (Str × Int)}
theorem di_itemsL (h : DE X e ro (.ldic kvs)) (hbase : attributeBase e "items" X.env (eval e X.env) = eval e X.env := by kernel_rfl) (hline : (apos.endLine == cpos.line) = true := by kernel_rfl) :
    DI X (.Tuple elts kk tpos) (.Call (.Attribute e "items" apos) [] [] cpos) ro (itemsD kvs) := ⟨_, pi_items pe_self hbase hline, fun σ F H S hs R q => h σ F H S hs _ fun v F' H' g r => by
  cases r with
  | ldic h1 => exact ⟨_, _, _, rfl, g.fh _ _ h1, q _ F' H' g (walks_items h1)⟩⟩
theorem walks_keys {K : PySem.W.Frag} {F : Hp} {a : Addr} {od : Obj} {kvs : List (Str × Int)} (h : F a = some (.frz od (.dK (encK kvs)))) : Walks K (Itk a od (encK kvs)) (kvs.map fun q => ds q.1) F where
  go := fun i H s hi => ⟨s _ _ h, by rw [encK_length]; rwa [List.length_map] at hi⟩
  stop := fun H s => ⟨s _ _ h, by rw [encK_length, List.length_map]; exact Nat.le_refl _⟩
  yld := fun i d H x H' F1 s t e q => by
    obtain ⟨rfl, k, v, e2, rfl⟩ := q
    rw [List.getElem?_map] at e
    cases e3 : kvs[i]? with
    | none => rw [e3] at e; cases e
    | some q =>
      rw [e3] at e; cases e
      obtain ⟨k', v'⟩ := q
      rw [encK_get e3] at e2
      cases e2
      exact ⟨F1, .refl t, .v _⟩
theorem di_keysL (h : DE X e ro (.ldic kvs)) : DI X tg e ro (kvs.map fun q => ds q.1) := ⟨_, pi_keys pe_self, fun σ F H S hs R q => h σ F H S hs _ fun v F' H' g r => by
  cases r with
  | ldic h1 => exact ⟨_, _, rfl, .inl ⟨_, g.fh _ _ h1, q _ F' H' g (walks_keys h1)⟩⟩⟩
/-! ### pure data, a locked dict taken away -/
def unF (F : Hp) (a : Addr) : Hp := fun b => if b = a then none else F b
theorem unF_ne {F : Hp} {a b : Addr} (h : b ≠ a) : unF F a b = F b := if_neg h
theorem unF_sub {F : Hp} {a : Addr} : Sub (unF F a) F := fun b o h => by
  by_cases z : b = a
  · subst z; rw [show unF F b b = none from if_pos rfl] at h; cases h
  · rwa [unF_ne z] at h
mutual
theorem Rep.un {K : PySem.W.Frag} {F : Hp} {a : Addr} (h : ∀ o, F a = some o → isT o = false) : ∀ {d : D} {v : V}, Rep K F v d → d.pure = true → Rep K (unF F a) v d
  | .v _, _, .v _, _ => .v _
  | .tup ds, _, .tup q r, p => by
    refine .tup ?_ (RepA.un h r p)
    have ne : ∀ {b : Addr} {o : HO}, F b = some o → isT o = true → b ≠ a := fun {b o} e t z => by subst z; rw [h _ e] at t; cases t
    rcases q with (q | ⟨o, q⟩) | q
    · exact .inl (.inl (by rw [unF_ne (ne q rfl)]; exact q))
    · exact .inl (.inr ⟨o, by rw [unF_ne (ne q rfl)]; exact q⟩)
    · exact .inr q
  | .tix ds, _, .tix q n r, p => by
    have ne : ∀ {b : Addr} {o : HO}, F b = some o → isT o = true → b ≠ a := fun {b o} e t z => by subst z; rw [h _ e] at t; cases t
    exact .tix (by rw [unF_ne (ne q rfl)]; exact q) n (RepA.un h r p)
theorem RepA.un {K : PySem.W.Frag} {F : Hp} {a : Addr} (h : ∀ o, F a = some o → isT o = false) : ∀ {ds : List D} {vs : List V}, RepA K F vs ds → D.pures ds = true → RepA K (unF F a) vs ds
  | [], _, .nil, _ => .nil
  | d :: ds, _, .cons q r, p => by
    have p' : (D.pure d && D.pures ds) = true := p
    rw [Bool.and_eq_true_iff] at p'
    exact .cons (Rep.un h q p'.1) (RepA.un h r p'.2)
end
/-- an expression with one container locked, its value pure -/
theorem ev_lock (i : Nat) {n : Nat} (hr : ρ[i]? = some (.c n)) (hc : cs[n]? = some (.dat (.dic kvs))) (h : DE X e ((coldV ρ).set i (some (.ldic kvs))) d) (p : d.pure = true := by rfl) : EV X e ρ cs d := fun F0 H0 F H σ as S Q q => by
  obtain ⟨a, ea, es⟩ := S.slot i _ hr
  obtain ⟨a', ea', fa, h0, ci⟩ := S.cell n _ hc
  rw [ea] at ea'; cases ea'
  have ci : H a = some (.dK (encK kvs)) := ci
  refine PE.we (pe_lock pe_self) ⟨a, _, ci, True.intro, fun od => ?_⟩
  have s1 : Sub (upd F a (.frz od (.dK (encK kvs)))) (upd H a (.frz od (.dK (encK kvs)))) := fun b o e => by
    by_cases z : b = a
    · subst z; rw [upd_same] at e ⊢; exact e
    · rw [upd_ne z] at e ⊢; exact S.grow.fh b o e
  have sl : Sl X.K (upd F a (.frz od (.dK (encK kvs)))) σ ((coldV ρ).set i (some (.ldic kvs))) := by
    have hi : i < (coldV ρ).length := by unfold coldV; rw [List.length_map]; exact some_lt hr
    have S1 := S.cold.mono (Sub.upd (o := .frz od (.dK (encK kvs))) fa)
    refine ⟨by rw [List.length_set]; exact S1.len, fun j d' e => ?_⟩
    by_cases z : j = i
    · subst z
      rw [List.getElem?_set_self hi] at e
      cases e
      exact ⟨_, es, .ldic upd_same⟩
    · rw [List.getElem?_set_ne (Ne.symm z)] at e
      exact S1.at_ j d' e
  refine h σ _ _ sl s1 _ fun v F' H' g r => ?_
  have hF' : F' a = some (.frz od (.dK (encK kvs))) := g.ff _ _ upd_same
  refine ⟨g.fh _ _ hF', ?_⟩
  have r2 := r.un (a := a) (fun o e => by rw [hF'] at e; cases e; rfl) p
  refine q v (unF F' a) (upd H' a (.dK (encK kvs))) ⟨fun b o e => ?_, fun b o e => ?_, fun b o e => ?_, fun b o e n1 => ?_⟩ r2
  · have : b ≠ a := ne_of_none e fa
    rw [unF_ne this]; exact g.ff b o (by rw [upd_ne this]; exact e)
  · by_cases z : b = a
    · subst z; rw [show unF F' b b = none from if_pos rfl] at e; cases e
    · rw [unF_ne z] at e
      rw [upd_ne z]; exact g.fh b o e
  · by_cases z : b = a
    · subst z; rw [ci] at e; cases e; rw [upd_same]
    · rw [upd_ne z]; exact g.hh b o (by rw [upd_ne z]; exact e)
  · by_cases z : b = a
    · subst z; rw [show unF F' b b = none from if_pos rfl] at e; cases e
    · rw [unF_ne z] at e
      rcases g.new b o e (by rw [upd_ne z]; exact n1) with y | y
      · rw [upd_ne z] at y; exact .inl y
      · exact .inr y
end
theorem hu1_of {A : Around} {k : Nat} (r : Room k A) {n : Nat} (h : n ≤ 100 := by decide) : A.units + 1 + n < cLine := by have := r.un; omega
theorem hu64_of {A : Around} {k : Nat} (r : Room k A) : A.units + 64 < cLine := by have := r.un; omega
theorem hu65_of {A : Around} {k : Nat} (r : Room k A) : A.units + 65 < cLine := by have := r.un; omega
end Ef
set_option maxRecDepth 100000
set_option maxHeartbeats 4000000
/-! EfM: ==, !=, in, not in of plain data (any texts). -/
namespace Ef
open PySem L2 C8 RZ PyProof.Rows PySem.Spec PySem.W PySem.SeqAt
mutual
theorem plain_py : ∀ {d : D}, d.plain = true → d.py.plain = true
  | .v x, h => by cases x <;> first | rfl | cases h
  | .lst ds, h => by show PyData.plain (.list (D.pys ds)) = true; rw [PyData.plain]; exact plains_pys h
  | .tup ds, h => by show PyData.plain (.tuple (D.pys ds)) = true; rw [PyData.plain]; exact plains_pys h
  | .tix ds, h => by show PyData.plain (.tuple (D.pys ds)) = true; rw [PyData.plain]; exact plains_pys h
theorem plains_pys : ∀ {ds : List D}, D.plains ds = true → PyData.plainAll (D.pys ds) = true
  | [], _ => by show PyData.plainAll [] = true; rw [PyData.plainAll]
  | d :: ds, h => by
    have h' : (d.plain && D.plains ds) = true := h
    rw [Bool.and_eq_true_iff] at h'
    show PyData.plainAll (D.py d :: D.pys ds) = true
    rw [PyData.plainAll, plain_py h'.1, plains_pys h'.2]; rfl
end
section
variable {X : Cx} {da db' : D} {ys : List D}
theorem opr_eqP (hu : X.A.units + 64 < cLine) : OpR X (compareOp .Eq) (fun x y H Q => ∃ d e, Dp X.K H x d ∧ Dp X.K H y e ∧ d.plain = true ∧ e.plain = true ∧ min d.depth e.depth ≤ 64 ∧ Q (.bl (PyData.eqv d e)) H) := by
  intro pins s σ H x y v u Q I rx ry h
  obtain ⟨d, e, hd, he, pd, pe, hm, q⟩ := h
  obtain ⟨as, r1⟩ := Dp.reads I d x v hd rx
  obtain ⟨bs, r2⟩ := Dp.reads I e y u he ry
  exact eq_plain r1 r2 pd pe (by omega) ⟨.bl _, H, I, rfl, q⟩
theorem opr_neP (hu : X.A.units + 64 < cLine) : OpR X (compareOp .NotEq) (fun x y H Q => ∃ d e, Dp X.K H x d ∧ Dp X.K H y e ∧ d.plain = true ∧ e.plain = true ∧ min d.depth e.depth ≤ 64 ∧ Q (.bl (!PyData.eqv d e)) H) := by
  intro pins s σ H x y v u Q I rx ry h
  obtain ⟨d, e, hd, he, pd, pe, hm, q⟩ := h
  obtain ⟨as, r1⟩ := Dp.reads I d x v hd rx
  obtain ⟨bs, r2⟩ := Dp.reads I e y u he ry
  exact ne_plain r1 r2 pd pe (by omega) ⟨.bl _, H, I, rfl, q⟩
theorem opr_inP (hu : X.A.units + 65 < cLine) : OpR X (compareOp .In) (fun x y H Q => ∃ d e, Dp X.K H x d ∧ Dp X.K H y (.list e) ∧ d.plain = true ∧ PyData.plainAll e = true ∧ d.depth ≤ 64 ∧ Q (.bl (e.any fun z => PyData.eqv z d)) H) := by
  intro pins s σ H x y v u Q I rx ry h
  obtain ⟨d, e, hd, he, pd, pe, hm, q⟩ := h
  obtain ⟨as, r1⟩ := Dp.reads I d x v hd rx
  obtain ⟨bs, r2⟩ := Dp.reads I (.list e) y u he ry
  exact in_list_data r2 r1 pe pd (by have := Nat.min_le_right (PyData.depthAll e) d.depth; omega) ⟨.bl _, H, I, rfl, q⟩
theorem opr_notInP (hu : X.A.units + 65 < cLine) : OpR X (compareOp .NotIn) (fun x y H Q => ∃ d e, Dp X.K H x d ∧ Dp X.K H y (.list e) ∧ d.plain = true ∧ PyData.plainAll e = true ∧ d.depth ≤ 64 ∧ Q (.bl (!(e.any fun z => PyData.eqv z d))) H) := by
  intro pins s σ H x y v u Q I rx ry h
  obtain ⟨d, e, hd, he, pd, pe, hm, q⟩ := h
  obtain ⟨as, r1⟩ := Dp.reads I d x v hd rx
  obtain ⟨bs, r2⟩ := Dp.reads I (.list e) y u he ry
  exact notIn_list_data r2 r1 pe pd (by have := Nat.min_le_right (PyData.depthAll e) d.depth; omega) ⟨.bl _, H, I, rfl, q⟩
theorem o_eqP (hu : X.A.units + 64 < cLine) (h1 : da.plain = true) (h2 : db'.plain = true) (h3 : db'.py.depth ≤ 64) : OpD X (compareOp .Eq) da db' (db (PyData.eqv da.py db'.py)) := ⟨_, opr_eqP hu, fun v w F H Q hs r1 r2 q => ⟨_, _, (r1.mono hs).dp h1, (r2.mono hs).dp h2, plain_py h1, plain_py h2, Nat.le_trans (Nat.min_le_right _ _) h3, q.done hs (.v _)⟩⟩
theorem o_neP (hu : X.A.units + 64 < cLine) (h1 : da.plain = true) (h2 : db'.plain = true) (h3 : db'.py.depth ≤ 64) : OpD X (compareOp .NotEq) da db' (db (!PyData.eqv da.py db'.py)) := ⟨_, opr_neP hu, fun v w F H Q hs r1 r2 q => ⟨_, _, (r1.mono hs).dp h1, (r2.mono hs).dp h2, plain_py h1, plain_py h2, Nat.le_trans (Nat.min_le_right _ _) h3, q.done hs (.v _)⟩⟩
theorem o_inP (hu : X.A.units + 65 < cLine) (h1 : da.plain = true) (h2 : D.plains ys = true) (h3 : da.py.depth ≤ 64) : OpD X (compareOp .In) da (.lst ys) (db ((D.pys ys).any fun z => PyData.eqv z da.py)) := ⟨_, opr_inP hu, fun v w F H Q hs r1 r2 q => ⟨_, _, (r1.mono hs).dp h1, (r2.mono hs).dp (d := .lst ys) h2, plain_py h1, plains_pys h2, h3, q.done hs (.v _)⟩⟩
theorem o_notInP (hu : X.A.units + 65 < cLine) (h1 : da.plain = true) (h2 : D.plains ys = true) (h3 : da.py.depth ≤ 64) : OpD X (compareOp .NotIn) da (.lst ys) (db (!((D.pys ys).any fun z => PyData.eqv z da.py))) := ⟨_, opr_notInP hu, fun v w F H Q hs r1 r2 q => ⟨_, _, (r1.mono hs).dp h1, (r2.mono hs).dp (d := .lst ys) h2, plain_py h1, plains_pys h2, h3, q.done hs (.v _)⟩⟩
/-- by a Lean type -/
theorem o_inA {α : Type} [DecidableEq α] [Datum α] {enc : α → D} {x : α} {xs : List α} (hu : X.A.units + 65 < cLine) (h1 : ∀ a, (enc a).plain = true) (h2 : ∀ a, (enc a).py = Datum.toD a) (h3 : Datum.depth α ≤ 64) {t : Bool} (ht : t = true ↔ x ∈ xs) : OpD X (compareOp .In) (enc x) (.lst (xs.map enc)) (db t) := by
  have et : t = decide (x ∈ xs) := by rw [Bool.eq_iff_iff, ht, decide_eq_true_iff]
  rw [et]
  have h := o_inP (X := X) (da := enc x) (ys := xs.map enc) hu (h1 x) (plains_map h1 xs) (by rw [h2]; exact Nat.le_trans (Datum.depth_le x) h3)
  rw [pys_map h2, h2, any_datum] at h
  exact h
theorem o_notInA {α : Type} [DecidableEq α] [Datum α] {enc : α → D} {x : α} {xs : List α} (hu : X.A.units + 65 < cLine) (h1 : ∀ a, (enc a).plain = true) (h2 : ∀ a, (enc a).py = Datum.toD a) (h3 : Datum.depth α ≤ 64) {t : Bool} (ht : t = true ↔ x ∈ xs) : OpD X (compareOp .NotIn) (enc x) (.lst (xs.map enc)) (db (!t)) := by
  have et : t = decide (x ∈ xs) := by rw [Bool.eq_iff_iff, ht, decide_eq_true_iff]
  rw [et]
  have h := o_notInP (X := X) (da := enc x) (ys := xs.map enc) hu (h1 x) (plains_map h1 xs) (by rw [h2]; exact Nat.le_trans (Datum.depth_le x) h3)
  rw [pys_map h2, h2, any_datum] at h
  exact h
/-- xs == [] -/
theorem o_eqNil (hu : X.A.units + 64 < cLine) (h1 : D.plains ys = true) : OpD X (compareOp .Eq) (.lst ys) (.lst []) (db ys.isEmpty) := by
  have h := o_eqP (X := X) (da := .lst ys) (db' := .lst []) hu h1 rfl (by show PyData.depth (.list []) ≤ 64; rw [PyData.depth, PyData.depthAll]; decide)
  have e : PyData.eqv (D.py (.lst ys)) (D.py (.lst [])) = ys.isEmpty := by
    show PyData.eqv (.list (D.pys ys)) (.list []) = _
    rw [PyData.eqv]
    cases ys with
    | nil => show PyData.eqvAll [] [] = _; rw [PyData.eqvAll]; rfl
    | cons y ys => show PyData.eqvAll (D.py y :: D.pys ys) [] = _; rw [PyData.eqvAll] <;> simp
  rwa [e] at h
end
end Ef
set_option maxRecDepth 100000
set_option maxHeartbeats 4000000
/-! EfN: a container that is filled no more becomes a datum. -/
namespace Ef
open PySem L2 C8 RZ PyProof.Rows PySem.Spec PySem.W
def fz (n : Nat) (d : D) : SD → SD
  | .c m => if m = n then .d d else .c m
  | s => s
section
variable {X : Cx} {ρ : List SD} {cs : List CD} {d : D} {P : Po} {sts : List Stmt}
theorem dss_freeze (h : DSs X sts (ρ.map (fz cs.length d)) cs P) : DSs X sts ρ (cs ++ [.dat d]) P := fun F0 H0 F H σ E ⟨as, S⟩ ok => by
  have hal : as.length = cs.length + 1 := by rw [S.alen, List.length_append]; rfl
  obtain ⟨a, ea, fa, h0, ci⟩ := S.cell cs.length (.dat d) (by rw [List.getElem?_append_right (Nat.le_refl _), Nat.sub_self]; rfl)
  have ci : CellIs X.K F H a d := ci
  obtain ⟨o, eo, to⟩ := ci.there
  have hlt : cs.length < as.length := by omega
  have htk : as = as.take cs.length ++ [a] := by
    have h1 := List.take_append_drop cs.length as
    have h2 : as.drop cs.length = [a] := by
      rw [List.drop_eq_getElem_cons hlt, (List.getElem?_eq_some_iff.mp ea).2, List.drop_of_length_le (by omega)]
    rw [h2] at h1; exact h1.symm
  have s1 : Sub F (upd F a o) := Sub.upd fa
  have get : ∀ (n : Nat) (b : Addr), n < cs.length → as[n]? = some b → (as.take cs.length)[n]? = some b := fun n b hn e => by rw [List.getElem?_take_of_lt hn]; exact e
  refine h F0 H0 (upd F a o) H σ E ⟨as.take cs.length, S.grow.freeze h0 fa eo, by rw [List.length_map]; exact S.len, fun i s hs => ?_, fun n c hc => ?_, by rw [List.length_take]; omega, S.nd.sublist (List.take_sublist _ _)⟩ ok
  · rw [List.getElem?_map] at hs
    cases e : ρ[i]? with
    | none => rw [e] at hs; cases hs
    | some t =>
      rw [e] at hs
      have hs : fz cs.length d t = s := Option.some.inj hs
      have q := S.slot i t e
      cases t with
      | un => subst hs; trivial
      | d d' => subst hs; exact SlotIs.mono s1 q
      | c m =>
        obtain ⟨b, eb, es⟩ := q
        by_cases hm : m = cs.length
        · subst hm
          have hs : (if cs.length = cs.length then SD.d d else SD.c cs.length) = s := hs
          rw [if_pos rfl] at hs
          subst hs
          rw [ea] at eb; cases eb
          exact ⟨_, es, ci.rep eo fa⟩
        · have hs : (if m = cs.length then SD.d d else SD.c m) = s := hs
          rw [if_neg hm] at hs
          subst hs
          have hm2 : m < as.length := some_lt eb
          exact ⟨b, get m b (by omega) eb, es⟩
  · have hn : n < cs.length := some_lt hc
    obtain ⟨b, eb, fb, hb0, cb⟩ := S.cell n c (by rw [List.getElem?_append_left hn]; exact hc)
    have nb : b ≠ a := fun z => by
      subst z
      have := (List.getElem_inj S.nd).mp ((List.getElem?_eq_some_iff.mp eb).2.trans (List.getElem?_eq_some_iff.mp ea).2.symm)
      omega
    exact ⟨b, get n b hn eb, by rw [upd_ne nb]; exact fb, hb0, cb.mono s1 .rfl⟩
end
end Ef
set_option maxRecDepth 100000
set_option maxHeartbeats 4000000
/-! EfP: a <= b <= c <= d that holds. -/
namespace Ef
open PySem L2 C8 RZ PyProof.Rows PySem.Spec PySem.W
section
variable {X : Cx} {a b c e : Expr} {ro : List (Option D)} {da db' dc de' : D} {pos : Pos}
theorem pe_chain3 {op op' op'' : CmpOp} {r r' r'' : R2} {ta tb tc te : TE} (ho : OpR X (compareOp op) r) (ho' : OpR X (compareOp op') r') (ho'' : OpR X (compareOp op'') r'') (ha : PE X a ta) (hb : PE X b tb) (hc : PE X c tc) (he : PE X e te)
    (hm : lastMarks [op, op', op''] [b, c, e] = false) : PE X (.Compare a [op, op', op''] [b, c, e] pos) (fun σ H Q => ta σ H fun x H1 => tb σ H1 fun y H2 => r x y H2 fun z H3 => z = .bl true ∧
      tc σ H3 fun y2 H4 => r' y y2 H4 fun z2 H5 => z2 = .bl true ∧ te σ H5 fun y3 H6 => r'' y2 y3 H6 Q) := by
  refine ⟨fun pins s σ H Q I h => ?_⟩
  refine Compare_chain (thn (ha.run pins s σ H _ I h) fun v s1 ⟨x, H1, I1, r1, q1⟩ => chain_link (thn (hb.run pins s1 σ H1 _ I1 q1) fun u s2 ⟨y, H2, I2, r2, q2⟩ =>
    thn (ho pins s2 σ H2 x y v u _ I2 r1 r2 q2) fun d s3 ⟨z, H3, I3, r3, e3, q3⟩ => ?_)) hm
  subst e3
  cases r3
  refine wpAny_truthy_bool ?_
  show wpAny (model X.prog X.w) X.A (compareChain pos u [op', op''] [eval c X.env, eval e X.env]) _ _ _
  refine chain_link (thn (hc.run pins s3 σ H3 _ I3 q3) fun u2 s4 ⟨y2, H4, I4, r4, q4⟩ => thn (ho' pins s4 σ H4 y y2 u u2 _ I4 r2 r4 q4) fun d2 s5 ⟨z2, H5, I5, r5, e5, q5⟩ => ?_)
  subst e5
  cases r5
  refine wpAny_truthy_bool ?_
  show wpAny (model X.prog X.w) X.A (compareChain pos u2 [op''] [eval e X.env]) _ _ _
  exact chain_last (thn (he.run pins s5 σ H5 _ I5 q5) fun w' s6 ⟨y3, H6, I6, r6, q6⟩ => ho'' pins s6 σ H6 y2 y3 u2 w' Q I6 r4 r6 q6)
theorem de_chain3 {op op' op'' : CmpOp} {t : Bool} (ha : DE X a ro da) (hb : DE X b ro db') (hc : DE X c ro dc) (he : DE X e ro de') (h : OpD X (compareOp op) da db' (db true)) (h' : OpD X (compareOp op') db' dc (db true)) (h'' : OpD X (compareOp op'') dc de' (db t))
    (hm : lastMarks [op, op', op''] [b, c, e] = false := by kernel_rfl) : DE X (.Compare a [op, op', op''] [b, c, e] pos) ro (db t) := fun σ F H S hs Q q => by
  obtain ⟨r, hr, k⟩ := h
  obtain ⟨r', hr', k'⟩ := h'
  obtain ⟨r'', hr'', k''⟩ := h''
  refine PE.we (pe_chain3 hr hr' hr'' pe_self pe_self pe_self pe_self hm) (two ha hb S hs fun v w F1 H1 g r1 r2 => k v w F1 H1 _ g.fh r1 r2 fun z F2 H2 g2 r3 => ?_)
  cases r3
  refine ⟨rfl, hc σ F2 H2 ((S.mono g.ff).mono g2.ff) g2.fh _ fun u F3 H3 g3 r4 => k' w u F3 H3 _ g3.fh ((r2.mono g2.ff).mono g3.ff) r4 fun z2 F4 H4 g4 r5 => ?_⟩
  cases r5
  exact ⟨rfl, he σ F4 H4 ((((S.mono g.ff).mono g2.ff).mono g3.ff).mono g4.ff) g4.fh _ fun u3 F5 H5 g5 r6 => k'' u u3 F5 H5 _ g5.fh ((r4.mono g4.ff).mono g5.ff) r6 (((((q.go g).go g2).go g3).go g4).go g5)⟩
end
end Ef
set_option maxRecDepth 100000
set_option maxHeartbeats 4000000
namespace Ef
open PySem L2 C8 RZ PyProof.Rows PySem.Spec PySem.W
variable {P : Program} {w : World} {K : PySem.W.Frag} {mg : Str → Option Value} {base : Heap}

def R_least (ds' : List D) (d : D) : Prop := ∃ rs : Rows, ds' = [rowsD rs] ∧ rs.length ≤ 1000 ∧ d = .dic (leastK rs)
theorem ok_least_minutes (T : Tx K mg) : Cal P w K mg base 1 "least_minutes" (spN K R_least) [] := by
  refine calN T.f_least_minutes sc_least_minutes (fun ds d ⟨rs, e, _⟩ => by rw [e]; rfl) (fun _ _ _ _ _ _ us hl => match us, hl with | [_], _ => rfl) ?_
  rintro cdv f A outer s H E _ _ ⟨rs, rfl, hl, rfl⟩ hr
  have hu := hu_of hr
  have nd := (sc_least_minutes).nd
  show DSs _ (defBody s_least_minutes) [.d (rowsD rs), .un, .un, .un] [] _
  refine dss_cons (ds_setN 1 (en dn_dic) ?_ nd rfl (.inl (by kernel_rfl)) (.inr (by kernel_rfl)))
  show DSs _ _ [.d (rowsD rs), .c 0, .un, .un] [.dat (.dic [])] _
  refine dss_cons (ds_for (asg := fun d => asg1 2 3 d) (fun i ρ cs => ∃ a b, ρ = [.d (rowsD rs), .c 0, a, b] ∧ cs = [.dat (.dic (leastK (rs.take i)))]) PassesOwn.never rfl (ei (di_list (de_name 0 rfl rfl (.inl (by kernel_rfl))))) ⟨_, _, rfl, rfl⟩ (fun i d ρ cs hd iv => ?_) (fun ρ cs iv => ?_))
  · obtain ⟨a, b, rfl, rfl⟩ := iv
    obtain ⟨r, hr2, rfl⟩ := map_get hd
    refine ⟨dg_tup rfl (dgs_cons (dg_name 2 nd rfl (.inl (by kernel_rfl)) (.inr (by kernel_rfl))) (dgs_cons (dg_name 3 nd rfl (.inl (by kernel_rfl)) (.inr (by kernel_rfl))) dgs_nil)), ?_⟩
    show DSs _ _ [.d (rowsD rs), .c 0, .d (ds r.1), .d (di r.2)] _ _
    refine dss_one (ds_dput hu 1 rfl rfl (ev (de_name 2 rfl rfl (.inl (by kernel_rfl)))) (evh (de_min2 rfl (by kernel_rfl) T.b_min (da_cons (de_name 3 rfl rfl (.inl (by kernel_rfl))) (da_cons (de_dget2 hu (de_name 1 rfl rfl (.inl (by kernel_rfl))) (de_name 2 rfl rfl (.inl (by kernel_rfl))) (de_name 3 rfl rfl (.inl (by kernel_rfl)))) da_nil)))) ?_ ?_ rfl (.inl (by kernel_rfl)))
    · exact small (Nat.le_trans (leastK_len _) (Nat.le_trans (by rw [List.length_take]; exact Nat.min_le_right _ _) hl))
    · refine ⟨_, _, rfl, ?_⟩
      have e : leastK (rs.take (i + 1)) = leastStep (leastK (rs.take i)) r := take_foldl _ _ hr2
      rw [e]; rfl
  · obtain ⟨a, b, rfl, rfl⟩ := iv
    rw [List.length_map, List.take_length]
    exact dss_one (ds_retC 1 rfl rfl rfl rfl (.inl (by kernel_rfl)))
end Ef
set_option maxRecDepth 100000
set_option maxHeartbeats 4000000
/-! Gb: weathers, the checks. -/
namespace Ef
open PySem L2 C8 RZ PyProof.Rows PySem.Spec PySem.W
variable {P : Program} {w : World} {K : PySem.W.Frag} {mg : Str → Option Value} {base : Heap}

/-! ### blowing -/
theorem weaD1_get {w : Wea} {i : Nat} {d : D} (h : (w.map weaD1)[i]? = some d) : ∃ m x, w[i]? = some (m, x) ∧ d = .tup [di m, ds x] := by
  obtain ⟨⟨m, x⟩, h1, rfl⟩ := map_get h
  exact ⟨m, x, h1, rfl⟩
def keepB (m : Int) : D → Bool
  | .tup [.v (.int s), _] => decide (s ≤ m)
  | _ => false
def sndD : D → D
  | .tup [_, y] => y
  | _ => dn
def fstD : D → D
  | .tup (x :: _) => x
  | _ => dn
theorem filt_map {α β : Type} (f : α → β) (p : β → Bool) (q : α → Bool) (h : ∀ a, p (f a) = q a) : ∀ l : List α, (l.map f).filter p = (l.filter q).map f
  | [] => rfl
  | a :: l => by
    rw [List.map_cons, List.filter_cons, List.filter_cons, h, filt_map f p q h l]
    cases q a <;> rfl
def R_blowing (ds' : List D) (d : D) : Prop := ∃ (w : Wea) (m : Int) (x : Str), ds' = [weaD w, di m] ∧ w.length ≤ 1000 ∧ (winds w m).getLast? = some x ∧ d = ds x
theorem ok_blowing (T : Tx K mg) : Cal P w K mg base 1 "blowing" (spD K R_blowing) [] := by
  refine calD T.f_blowing sc_blowing (fun ds d ⟨w, m, x, e, _⟩ => by rw [e]; rfl) (fun _ _ _ _ _ _ us hl => match us, hl with | [_, _], _ => rfl) ?_
  rintro cdv f A outer s H E _ _ ⟨w, m, x, rfl, hl, hx, rfl⟩ hr
  have nd := (sc_blowing).nd
  show DSs _ (defBody s_blowing) [.d (weaD w), .d (di m), .un, .un] [] _
  refine dss_one (ds_ret (ev (de_ix (d := ds x) (DN.de (dn_lc (its := w.map weaD1) (own := [("start", 2), ("wind", 3)]) (asg := asg1 2 3) (keep := keepB m) (g := sndD) rfl nd (di_list (de_name 0 rfl rfl (.inl (by kernel_rfl)))) (blkOk_by (by kernel_rfl)) ?_ (fun s H C cl fp i d hd => ?_))) (de_neg de_int) (ix_l ?_))) (.inl rfl))
  · rw [List.length_map]; exact small hl
  · obtain ⟨t, y, hw, rfl⟩ := weaD1_get hd
    exact ⟨(dg_tup rfl (dgs_cons (dg_name 2 nd rfl (.inl (by kernel_rfl)) (.inr (by kernel_rfl))) (dgs_cons (dg_name 3 nd rfl (.inl (by kernel_rfl)) (.inr (by kernel_rfl))) dgs_nil))), by simp [asg1], (dts_one (dt_cmp (de_name 2 rfl rfl (.inl (by kernel_rfl))) (de_name 1 rfl rfl (.inr (.inl (by kernel_rfl)))) o_le)), fun _ => (de_name 3 rfl rfl (.inl (by kernel_rfl)))⟩
  · refine atI_last ?_
    rw [filt_map weaD1 (keepB m) (fun r => decide (r.1 ≤ m)) (fun _ => rfl), List.map_map]
    have e : ((w.filter fun r => decide (r.1 ≤ m)).map (sndD ∘ weaD1)) = (winds w m).map ds := by unfold winds; rw [List.map_map]; rfl
    rw [e, List.getLast?_map, hx]; rfl

/-! ### chances -/
def keepC (m : Int) : D → Bool
  | .tup [.v (.int s), _] => decide (m < s)
  | _ => false
def R_chances (ds' : List D) (d : D) : Prop := ∃ (w : Wea) (m : Int), ds' = [weaD w, di m] ∧ w.length ≤ 1000 ∧ d = .lst ((chancesM w m).map di)
theorem ok_chances (T : Tx K mg) : Cal P w K mg base 1 "chances" (spN K R_chances) [] := by
  refine calN T.f_chances sc_chances (fun ds d ⟨w, m, e, _⟩ => by rw [e]; rfl) (fun _ _ _ _ _ _ us hl => match us, hl with | [_, _], _ => rfl) ?_
  rintro cdv f A outer s H E _ _ ⟨w, m, rfl, hl, rfl⟩ hr
  have nd := (sc_chances).nd
  show DSs _ (defBody s_chances) [.d (weaD w), .d (di m), .un, .un] [] _
  have e : [di m] ++ (((w.map weaD1).filter (keepC m)).map fstD) = (chancesM w m).map di := by
    rw [filt_map weaD1 (keepC m) (fun r => decide (m < r.1)) (fun _ => rfl), List.map_map]
    unfold chancesM changes
    rw [List.map_cons, List.map_map]; rfl
  refine dss_one (ds_retN (d := .lst ([di m] ++ (((w.map weaD1).filter (keepC m)).map fstD))) (en (dn_bin (DN.de (dn_lst (da_cons (de_name 1 rfl rfl (.inr (.inl (by kernel_rfl)))) da_nil))) (DN.de (dn_lc (its := w.map weaD1) (own := [("start", 2), ("_", 3)]) (asg := asg1 2 3) (keep := keepC m) (g := fstD) rfl nd (di_list (de_name 0 rfl rfl (.inl (by kernel_rfl)))) (blkOk_by (by kernel_rfl)) ?_ (fun s H C cl fp i d hd => ?_))) (o_cat ?_))) (by rw [e]))
  · rw [List.length_map]; exact small hl
  · obtain ⟨t, y, hw, rfl⟩ := weaD1_get hd
    exact ⟨(dg_tup rfl (dgs_cons (dg_name 2 nd rfl (.inl (by kernel_rfl)) (.inr (by kernel_rfl))) (dgs_cons (dg_name 3 nd rfl (.inl (by kernel_rfl)) (.inr (by kernel_rfl))) dgs_nil))), by simp [asg1], (dts_one (dt_cmp (de_name 2 rfl rfl (.inl (by kernel_rfl))) (de_name 1 rfl rfl (.inr (.inl (by kernel_rfl)))) o_gt)), fun _ => (de_name 2 rfl rfl (.inl (by kernel_rfl)))⟩
  · rw [List.length_map]
    have h1 := List.length_filter_le (keepC m) (w.map weaD1)
    rw [List.length_map] at h1
    exact Nat.le_of_lt (small (m := 1001) (by show 1 + _ ≤ _; omega))

/-! ### the checks, where nothing is wrong -/
def R_check_place (ds' : List D) (d : D) : Prop := ∃ (L : LandM) (p : Str), ds' = [landD L, ds p] ∧ p ∈ L.places ∧ d = dn
theorem ok_check_place (T : Tx K mg) : Met P w K mg base 1 (He.ga K "Land") "check_place" (spD K R_check_place) [] := by
  refine metD T.cl_Land T.m_check_place sc_Land_check_place (fun ds d ⟨L, p, e, _⟩ => by rw [e]; rfl) (fun _ _ _ _ _ _ us hl => match us, hl with | [_, _], _ => rfl) ?_
  rintro cdv f A outer s H E _ _ ⟨L, p, rfl, hp, rfl⟩ hr
  show DSs _ (defBody s_Land_check_place) [.d (landD L), .d (ds p)] [] _
  refine dss_one (ds_if (et (dt_cmp (de_name 1 rfl rfl (.inl (by kernel_rfl))) (de_fld (de_name 0 rfl rfl (.inl (by kernel_rfl))) rfl T.cl_Land T.na_places) o_notInS)) (fun h => ?_) (fun h => dss_nil rfl))
  rw [decide_eq_true hp] at h; cases h
def R_check_wind (ds' : List D) (d : D) : Prop := ∃ (L : LandM) (p : Str), ds' = [landD L, ds p] ∧ p ∈ L.winds ∧ d = dn
theorem ok_check_wind (T : Tx K mg) : Met P w K mg base 1 (He.ga K "Land") "check_wind" (spD K R_check_wind) [] := by
  refine metD T.cl_Land T.m_check_wind sc_Land_check_wind (fun ds d ⟨L, p, e, _⟩ => by rw [e]; rfl) (fun _ _ _ _ _ _ us hl => match us, hl with | [_, _], _ => rfl) ?_
  rintro cdv f A outer s H E _ _ ⟨L, p, rfl, hp, rfl⟩ hr
  show DSs _ (defBody s_Land_check_wind) [.d (landD L), .d (ds p)] [] _
  refine dss_one (ds_if (et (dt_cmp (de_name 1 rfl rfl (.inl (by kernel_rfl))) (DE.tup (de_fld (de_name 0 rfl rfl (.inl (by kernel_rfl))) rfl T.cl_Land T.na_winds)) o_notInS)) (fun h => ?_) (fun h => dss_nil rfl))
  rw [decide_eq_true hp] at h; cases h
def R_check_winds (ds' : List D) (d : D) : Prop := ∃ (L : LandM) (w : Wea), ds' = [landD L, weaD w] ∧ (∀ r ∈ w, r.2 ∈ L.winds) ∧ d = dn
theorem ok_check_winds (T : Tx K mg) : Cal P w K mg base 2 "check_winds" (spD K R_check_winds) [] := by
  refine calD T.f_check_winds sc_check_winds (fun ds d ⟨L, p, e, _⟩ => by rw [e]; rfl) (fun _ _ _ _ _ _ us hl => match us, hl with | [_, _], _ => rfl) ?_
  rintro cdv f A outer s H E _ _ ⟨L, w, rfl, hw, rfl⟩ hr
  have nd := (sc_check_winds).nd
  show DSs _ (defBody s_check_winds) [.d (landD L), .d (weaD w), .un, .un] [] _
  refine dss_one (ds_for (asg := asg1 2 3) (fun i ρ cs => ∃ a b, ρ = [.d (landD L), .d (weaD w), a, b] ∧ cs = []) PassesOwn.never rfl (ei (di_list (de_name 1 rfl rfl (.inl (by kernel_rfl))))) ⟨_, _, rfl, rfl⟩ (fun i d ρ cs hd iv => ?_) (fun ρ cs iv => rfl))
  obtain ⟨a, b, rfl, rfl⟩ := iv
  obtain ⟨t, y, hy, rfl⟩ := weaD1_get hd
  refine ⟨(dg_tup rfl (dgs_cons (dg_name 2 nd rfl (.inl (by kernel_rfl)) (.inr (by kernel_rfl))) (dgs_cons (dg_name 3 nd rfl (.inl (by kernel_rfl)) (.inr (by kernel_rfl))) dgs_nil))), ?_⟩
  show DSs _ _ [.d (landD L), .d (weaD w), .d (di t), .d (ds y)] [] _
  exact dss_one (ds_expr (d := dn) (ev (de_meth (ok_check_wind T) hr (de_name 0 rfl rfl (.inl (by kernel_rfl))) (by kernel_rfl) (da_cons (de_name 3 rfl rfl (.inl (by kernel_rfl))) da_nil) ⟨L, y, rfl, hw _ (List.mem_of_getElem? hy), rfl⟩)) ⟨_, _, rfl, rfl⟩)
theorem rowD_get {w : Rows} {i : Nat} {d : D} (h : (w.map rowD)[i]? = some d) : ∃ m x, w[i]? = some (m, x) ∧ d = .tup [ds m, di x] := by
  obtain ⟨⟨m, x⟩, h1, rfl⟩ := map_get h
  exact ⟨m, x, h1, rfl⟩
def R_check_rows (ds' : List D) (d : D) : Prop := ∃ (L : LandM) (rs : Rows), ds' = [landD L, rowsD rs] ∧ (∀ r ∈ rs, r.1 ∈ L.places) ∧ d = dn
theorem ok_check_rows (T : Tx K mg) : Cal P w K mg base 2 "check_rows" (spD K R_check_rows) [] := by
  refine calD T.f_check_rows sc_check_rows (fun ds d ⟨L, p, e, _⟩ => by rw [e]; rfl) (fun _ _ _ _ _ _ us hl => match us, hl with | [_, _], _ => rfl) ?_
  rintro cdv f A outer s H E _ _ ⟨L, rs, rfl, hw, rfl⟩ hr
  have nd := (sc_check_rows).nd
  show DSs _ (defBody s_check_rows) [.d (landD L), .d (rowsD rs), .un, .un] [] _
  refine dss_one (ds_for (asg := asg1 2 3) (fun i ρ cs => ∃ a b, ρ = [.d (landD L), .d (rowsD rs), a, b] ∧ cs = []) PassesOwn.never rfl (ei (di_list (de_name 1 rfl rfl (.inl (by kernel_rfl))))) ⟨_, _, rfl, rfl⟩ (fun i d ρ cs hd iv => ?_) (fun ρ cs iv => rfl))
  obtain ⟨a, b, rfl, rfl⟩ := iv
  obtain ⟨t, y, hy, rfl⟩ := rowD_get hd
  refine ⟨(dg_tup rfl (dgs_cons (dg_name 2 nd rfl (.inl (by kernel_rfl)) (.inr (by kernel_rfl))) (dgs_cons (dg_name 3 nd rfl (.inl (by kernel_rfl)) (.inr (by kernel_rfl))) dgs_nil))), ?_⟩
  show DSs _ _ [.d (landD L), .d (rowsD rs), .d (ds t), .d (di y)] [] _
  exact dss_one (ds_expr (d := dn) (ev (de_meth (ok_check_place T) hr (de_name 0 rfl rfl (.inl (by kernel_rfl))) (by kernel_rfl) (da_cons (de_name 2 rfl rfl (.inl (by kernel_rfl))) da_nil) ⟨L, t, rfl, hw _ (List.mem_of_getElem? hy), rfl⟩)) ⟨_, _, rfl, rfl⟩)
end Ef
set_option maxRecDepth 100000
set_option maxHeartbeats 4000000
/-! Gc: check_changes, check_fire_at, least_numbers, most_numbers, caught. -/
namespace Ef
open PySem L2 C8 RZ PyProof.Rows PySem.Spec PySem.W
variable {P : Program} {w : World} {K : PySem.W.Frag} {mg : Str → Option Value} {base : Heap}
theorem filtT {α : Type} (l : List α) : (l.filter fun _ => true) = l := by
  induction l with
  | nil => rfl
  | cons a l ih => rw [List.filter_cons, if_pos rfl, ih]
theorem any_false {l : List Bool} (h : ∀ b ∈ l, b = false) : l.any id = false := by
  induction l with
  | nil => rfl
  | cons a l ih => rw [List.any_cons, ih (fun b m => h b (List.mem_cons_of_mem _ m)), h a List.mem_cons_self]; rfl
theorem all_true {l : List Bool} (h : ∀ b ∈ l, b = true) : l.all id = true := by
  induction l with
  | nil => rfl
  | cons a l ih => rw [List.all_cons, ih (fun b m => h b (List.mem_cons_of_mem _ m)), h a List.mem_cons_self]; rfl
/-! ### check_changes -/
def leB : D → Bool
  | .tup [.v (.int a), .v (.int b)] => decide (b ≤ a)
  | _ => false
theorem cutG_from1 {α : Type} (xs : List α) : cutG xs (some 1) none = xs.drop 1 := cutG_from xs (by decide)
def R_check_changes (ds' : List D) (d : D) : Prop := ∃ (L : LandM) (w : Wea), ds' = [weaD w] ∧ WeaOk L w ∧ d = dn
theorem ok_check_changes (T : Tx K mg) : Cal P w K mg base 1 "check_changes" (spD K R_check_changes) [] := by
  refine calD T.f_check_changes sc_check_changes (fun ds d ⟨L, w, e, _⟩ => by rw [e]; rfl) (fun _ _ _ _ _ _ us hl => match us, hl with | [_], _ => rfl) ?_
  rintro cdv f A outer s H E _ _ ⟨L, w, rfl, hw, rfl⟩ hr
  have nd := (sc_check_changes).nd
  obtain ⟨x0, r0, hw0⟩ := hw.first
  show DSs _ (defBody s_check_changes) [.d (weaD w), .un, .un, .un, .un] [] _
  refine dss_cons (ds_setLc (its := w.map weaD1) (own := [("minute", 2), ("_", 3)]) (asg := asg1 2 3) (keep := fun _ => true) (g := fstD) 1 rfl nd (di_list (de_name 0 rfl rfl (.inl (by kernel_rfl)))) (blkOk_by (by kernel_rfl)) (by rw [List.length_map]; exact small hw.few) (fun s H C cl fp i d hd => ?_) ?_ rfl (by kernel_rfl))
  · obtain ⟨t, y, hy, rfl⟩ := weaD1_get hd
    exact ⟨(dg_tup rfl (dgs_cons (dg_name 2 nd rfl (.inl (by kernel_rfl)) (.inr (by kernel_rfl))) (dgs_cons (dg_name 3 nd rfl (.inl (by kernel_rfl)) (.inr (by kernel_rfl))) dgs_nil))), by simp [asg1], dts_nil, fun _ => (de_name 2 rfl rfl (.inl (by kernel_rfl)))⟩
  have e : (((w.map weaD1).filter fun _ => true).map fstD) = (w.map (·.1)).map di := by rw [filtT, List.map_map, List.map_map]; rfl
  rw [e]
  have hlen : ((w.map (·.1)).map di).length = w.length := by rw [List.length_map, List.length_map]
  have hpos : 1 ≤ w.length := by rw [hw0]; simp
  show DSs _ _ [.d (weaD w), .c 0, .un, .un, .un] [.dat (.lst ((w.map (·.1)).map di))] _
  obtain ⟨zl, hzl⟩ : ∃ z, w.getLast? = some z := by
    cases h : w.getLast? with
    | none => rw [List.getLast?_eq_none_iff] at h; rw [h] at hpos; simp at hpos
    | some z => exact ⟨z, rfl⟩
  refine dss_cons (ds_if (et (dt_or (dt_not (dt_chain de_int (de_len (by kernel_rfl) T.b_len (da_cons (de_name 1 rfl rfl (.inl (by kernel_rfl))) da_nil) (.l _)) (de_gI (by kernel_rfl) T.c_MOST_CHANGES) o_le o_le)) (fun _ => (dw_or (dt_cmp (de_ix (d := di 0) (de_name 1 rfl rfl (.inl (by kernel_rfl))) de_int (ix_l ?_)) de_int o_neI) (fun _ => (dw_or1 (dt_cmp (de_ix (d := di zl.1) (de_name 1 rfl rfl (.inl (by kernel_rfl))) (de_neg de_int) (ix_l ?_)) (de_gI (by kernel_rfl) T.c_MOST_MINUTE) o_gt))))))) (fun h => ?_) (fun h => dss_nil ?_))
  · exact atI_nat (i := 0) (by rw [hw0]; rfl)
  · exact atI_last (by rw [List.getLast?_map, List.getLast?_map, hzl]; rfl)
  · exfalso
    rw [hlen] at h
    have h1 : decide ((1 : Int) ≤ (w.length : Int)) = true := decide_eq_true (by omega)
    have h2 : decide ((w.length : Int) ≤ 40) = true := decide_eq_true (by have := hw.few; omega)
    have h3 : decide ((100000 : Int) < zl.1) = false := decide_eq_false (by have := (hw.below zl (List.mem_of_getLast? hzl)).2; omega)
    rw [h1, h2, h3] at h
    revert h; decide
  have eg : ∀ l : List D, (l.map fun d => db (leB d)) = (l.map leB).map db := fun l => by rw [List.map_map]; rfl
  refine dss_one (ds_if (et (dt_val (de_any (bs := ((pairs ((w.map (·.1)).map di) (cutG ((w.map (·.1)).map di) (some 1) none)).filter fun _ => true).map leB) rfl (by kernel_rfl) T.b_any (da_cons ?_ da_nil)))) (fun h => ?_) (fun h => dss_nil rfl))
  · rw [← eg]
    refine DN.de (dn_lc (its := pairs ((w.map (·.1)).map di) (cutG ((w.map (·.1)).map di) (some 1) none)) (own := [("minute", 2), ("later", 4)]) (asg := asg1 2 4) (keep := fun _ => true) (g := fun d => db (leB d)) rfl nd (di_zipL (by kernel_rfl) T.b_zip (da_cons (de_name 1 rfl rfl (.inl (by kernel_rfl))) (da_cons (DN.de (dn_slice (de_name 1 rfl rfl (.inl (by kernel_rfl))) (do_some de_int) do_none)) da_nil))) (blkOk_by (by kernel_rfl)) ?_ (fun s H C cl fp i d hd => ?_))
    · rw [pairs_length]; exact small (m := 40) (Nat.le_trans (Nat.min_le_left _ _) (by rw [hlen]; exact hw.few))
    · obtain ⟨x, y, hx, hy, rfl⟩ := pairs_get hd
      rw [cutG_from1, List.getElem?_drop] at hy
      obtain ⟨a, ha, rfl⟩ := map_get hx
      obtain ⟨b, hb, rfl⟩ := map_get hy
      exact ⟨(dg_tup rfl (dgs_cons (dg_name 2 nd rfl (.inl (by kernel_rfl)) (.inr (by kernel_rfl))) (dgs_cons (dg_name 4 nd rfl (.inl (by kernel_rfl)) (.inr (by kernel_rfl))) dgs_nil))), by simp [asg1], dts_nil, fun _ => (de_cmp (de_name 4 rfl rfl (.inl (by kernel_rfl))) (de_name 2 rfl rfl (.inl (by kernel_rfl))) o_le)⟩
  · exfalso
    rw [any_false] at h
    · cases h
    · intro b hb
      obtain ⟨d, hd, rfl⟩ := List.mem_map.mp hb
      rw [filtT] at hd
      obtain ⟨i, hi⟩ := List.mem_iff_getElem?.mp hd
      obtain ⟨x, y, hx, hy, rfl⟩ := pairs_get hi
      rw [cutG_from1, List.getElem?_drop] at hy
      obtain ⟨a, ha, rfl⟩ := map_get hx
      obtain ⟨b, hb', rfl⟩ := map_get hy
      have hi1 := (List.getElem?_eq_some_iff.mp ha)
      have hi2 := (List.getElem?_eq_some_iff.mp hb')
      have := List.pairwise_iff_getElem.mp hw.up i (1 + i) hi1.1 hi2.1 (by omega)
      rw [hi1.2, hi2.2] at this
      show decide (b ≤ a) = false
      exact decide_eq_false (by omega)

/-! ### check_fire_at -/
structure Q5 (L : LandM) (w : Wea) (st br : Rows) (p : Str) : Prop where
  wea : WeaOk L w
  st : ∀ r ∈ st, r.1 ∈ L.places
  br : ∀ r ∈ br, r.1 ∈ L.places
  at_ : p ∈ L.places
def R_check_fire_at (ds' : List D) (d : D) : Prop := ∃ (L : LandM) (w : Wea) (st br : Rows) (p : Str), ds' = [landD L, weaD w, rowsD st, rowsD br, ds p] ∧ Q5 L w st br p ∧ d = dn
theorem ok_check_fire_at (T : Tx K mg) : Cal P w K mg base 3 "check_fire_at" (spD K R_check_fire_at) [] := by
  refine calD T.f_check_fire_at sc_check_fire_at (fun ds d ⟨L, w, a, b, p, e, _⟩ => by rw [e]; rfl) (fun _ _ _ _ _ _ us hl => match us, hl with | [_, _, _, _, _], _ => rfl) ?_
  rintro cdv f A outer s H E _ _ ⟨L, w, st, br, p, rfl, q, rfl⟩ hr
  show DSs _ (defBody s_check_fire_at) [.d (landD L), .d (weaD w), .d (rowsD st), .d (rowsD br), .d (ds p)] [] _
  refine dss_cons (ds_expr (d := dn) (ev (de_call (ok_check_winds T) hr (by kernel_rfl) (da_cons (de_name 0 rfl rfl (.inl (by kernel_rfl))) (da_cons (de_name 1 rfl rfl (.inl (by kernel_rfl))) da_nil)) ⟨L, w, rfl, q.wea.of, rfl⟩)) ?_)
  refine dss_cons (ds_expr (d := dn) (ev (de_call (ok_check_rows T) hr (by kernel_rfl) (da_cons (de_name 0 rfl rfl (.inl (by kernel_rfl))) (da_cons (de_name 2 rfl rfl (.inl (by kernel_rfl))) da_nil)) ⟨L, st, rfl, q.st, rfl⟩)) ?_)
  refine dss_cons (ds_expr (d := dn) (ev (de_call (ok_check_rows T) hr (by kernel_rfl) (da_cons (de_name 0 rfl rfl (.inl (by kernel_rfl))) (da_cons (de_name 3 rfl rfl (.inl (by kernel_rfl))) da_nil)) ⟨L, br, rfl, q.br, rfl⟩)) ?_)
  refine dss_cons (ds_expr (d := dn) (ev (de_meth (ok_check_place T) hr (de_name 0 rfl rfl (.inl (by kernel_rfl))) (by kernel_rfl) (da_cons (de_name 4 rfl rfl (.inl (by kernel_rfl))) da_nil) ⟨L, p, rfl, q.at_, rfl⟩)) ?_)
  exact dss_one (ds_expr (d := dn) (ev (de_call (ok_check_changes T) hr (by kernel_rfl) (da_cons (de_name 1 rfl rfl (.inl (by kernel_rfl))) da_nil) ⟨L, w, rfl, q.wea, rfl⟩)) rfl)

/-! ### the numbers of one side -/
structure Fits (L : LandM) : Prop where
  links : L.links.length ≤ 60
  times : ∀ l ∈ L.links, l.times.length = L.winds.length
  winds : L.winds.length ≤ 4
  places : L.places.length ≤ 24
def isoN (f : Int × Int → Int) : D → D
  | .tup [.v (.int a), .v (.int b)] => di (f (a, b))
  | d => d
def colD (f : Int × Int → Int) : D → D
  | .tup [_, _, _, .tup ts] => .tup (ts.map (isoN f))
  | d => d
theorem iso_time (f : Int × Int → Int) (t : Option (Int × Int)) : isoN f (timeD t) = optI (t.map f) := by cases t <;> rfl
theorem linkD_get {ls : List LinkM} {i : Nat} {d : D} (h : (ls.map linkD)[i]? = some d) : ∃ l, ls[i]? = some l ∧ d = .tup [ds l.name, ds l.one, ds l.other, .tup (l.times.map timeD)] := by
  obtain ⟨l, h1, rfl⟩ := map_get h
  exact ⟨l, h1, rfl⟩
def R_least_numbers (ds' : List D) (d : D) : Prop := ∃ L : LandM, ds' = [landD L] ∧ Fits L ∧ d = numsD (leastN L)
def R_most_numbers (ds' : List D) (d : D) : Prop := ∃ L : LandM, ds' = [landD L] ∧ Fits L ∧ d = numsD (mostN L)
theorem cols (L : LandM) (f : Int × Int → Int) : ((L.links.map linkD).filter fun _ => true).map (colD f) = (L.links.map fun l => l.times.map fun t => t.map f).map numD := by
  rw [filtT, List.map_map, List.map_map]
  refine List.map_congr_left fun l _ => ?_
  show D.tup ((l.times.map timeD).map (isoN f)) = numD (l.times.map fun t => t.map f)
  unfold numD
  rw [List.map_map, List.map_map]
  exact congrArg D.tup (List.map_congr_left fun t _ => iso_time f t)
def asgA (a : Nat) (d : D) : List (Nat × D) := [(a, d)]
theorem ok_least_numbers (T : Tx K mg) : Cal P w K mg base 1 "least_numbers" (spD K R_least_numbers) [] := by
  refine calD T.f_least_numbers sc_least_numbers (fun ds d ⟨L, e, _⟩ => by rw [e]; rfl) (fun _ _ _ _ _ _ us hl => match us, hl with | [_], _ => rfl) ?_
  rintro cdv f A outer s H E _ _ ⟨L, rfl, fi, rfl⟩ hr
  have nd := (sc_least_numbers).nd
  show DSs _ (defBody s_least_numbers) [.d (landD L), .un, .un] [] _
  refine dss_one (ds_ret (d := numsD (leastN L)) (ev (DE.is (de_tupL (by kernel_rfl) T.b_tuple (da_cons (DN.de (dn_lc (own := [("link", 1)]) (asg := asgA 1) (keep := fun _ => true) (g := colD (·.1)) rfl nd (di_tup (de_fld (de_name 0 rfl rfl (.inl (by kernel_rfl))) rfl T.cl_Land T.na_links)) (blkOk_by (by kernel_rfl)) ?_ (fun s H C cl fp i d hd => ?_))) da_nil)) ?_)) (.inl rfl))
  · rw [List.length_map]; exact small fi.links
  · obtain ⟨l, hl, rfl⟩ := linkD_get hd
    refine ⟨(dg_name 1 nd rfl (.inl (by kernel_rfl)) (.inr (by kernel_rfl))), by simp [asgA], dts_nil, fun _ => ?_⟩
    refine DE.is (de_tupL (by kernel_rfl) T.b_tuple (da_cons (DN.de (dn_lc (its := l.times.map timeD) (own := [("pair", 2)]) (asg := asgA 2) (keep := fun _ => true) (g := isoN (·.1)) rfl nd (di_tup (de_ix (de_name 1 rfl rfl (.inl (by kernel_rfl))) de_int (ix_t (by rfl)))) (blkOk_by (by kernel_rfl)) ?_ (fun s H C cl fp i d hd => ?_))) da_nil)) (by rw [filtT]; rfl)
    · rw [List.length_map, fi.times l (List.mem_of_getElem? hl)]; exact small (m := 4) fi.winds
    · obtain ⟨t, ht, rfl⟩ := map_get hd
      refine ⟨(dg_name 2 nd rfl (.inl (by kernel_rfl)) (.inr (by kernel_rfl))), by simp [asgA], dts_nil, fun _ => ?_⟩
      cases t with
      | none => exact de_if (ba := true) (dt_cmp (de_name 2 rfl rfl (.inl (by kernel_rfl))) de_non o_isN) (fun h => de_non) (fun h => by cases h)
      | some q => exact de_if (ba := false) (dt_cmp (de_name 2 rfl rfl (.inl (by kernel_rfl))) de_non o_isN) (fun h => by cases h) (fun h => de_ix (de_name 2 rfl rfl (.inl (by kernel_rfl))) de_int (ix_t (by rfl)))
  · exact congrArg D.tup (cols L (·.1))
theorem ok_most_numbers (T : Tx K mg) : Cal P w K mg base 1 "most_numbers" (spD K R_most_numbers) [] := by
  refine calD T.f_most_numbers sc_most_numbers (fun ds d ⟨L, e, _⟩ => by rw [e]; rfl) (fun _ _ _ _ _ _ us hl => match us, hl with | [_], _ => rfl) ?_
  rintro cdv f A outer s H E _ _ ⟨L, rfl, fi, rfl⟩ hr
  have nd := (sc_most_numbers).nd
  show DSs _ (defBody s_most_numbers) [.d (landD L), .un, .un] [] _
  refine dss_one (ds_ret (d := numsD (mostN L)) (ev (DE.is (de_tupL (by kernel_rfl) T.b_tuple (da_cons (DN.de (dn_lc (own := [("link", 1)]) (asg := asgA 1) (keep := fun _ => true) (g := colD (·.2)) rfl nd (di_tup (de_fld (de_name 0 rfl rfl (.inl (by kernel_rfl))) rfl T.cl_Land T.na_links)) (blkOk_by (by kernel_rfl)) ?_ (fun s H C cl fp i d hd => ?_))) da_nil)) ?_)) (.inl rfl))
  · rw [List.length_map]; exact small fi.links
  · obtain ⟨l, hl, rfl⟩ := linkD_get hd
    refine ⟨(dg_name 1 nd rfl (.inl (by kernel_rfl)) (.inr (by kernel_rfl))), by simp [asgA], dts_nil, fun _ => ?_⟩
    refine DE.is (de_tupL (by kernel_rfl) T.b_tuple (da_cons (DN.de (dn_lc (its := l.times.map timeD) (own := [("pair", 2)]) (asg := asgA 2) (keep := fun _ => true) (g := isoN (·.2)) rfl nd (di_tup (de_ix (de_name 1 rfl rfl (.inl (by kernel_rfl))) de_int (ix_t (by rfl)))) (blkOk_by (by kernel_rfl)) ?_ (fun s H C cl fp i d hd => ?_))) da_nil)) (by rw [filtT]; rfl)
    · rw [List.length_map, fi.times l (List.mem_of_getElem? hl)]; exact small (m := 4) fi.winds
    · obtain ⟨t, ht, rfl⟩ := map_get hd
      refine ⟨(dg_name 2 nd rfl (.inl (by kernel_rfl)) (.inr (by kernel_rfl))), by simp [asgA], dts_nil, fun _ => ?_⟩
      cases t with
      | none => exact de_if (ba := true) (dt_cmp (de_name 2 rfl rfl (.inl (by kernel_rfl))) de_non o_isN) (fun h => de_non) (fun h => by cases h)
      | some q => exact de_if (ba := false) (dt_cmp (de_name 2 rfl rfl (.inl (by kernel_rfl))) de_non o_isN) (fun h => by cases h) (fun h => de_ix (de_name 2 rfl rfl (.inl (by kernel_rfl))) de_int (ix_t (by rfl)))
  · exact congrArg D.tup (cols L (·.2))

/-! ### word_of, is_ahead -/
def wordM (a b : Option Int) : Str := match a with
  | none => "never"
  | some _ => match b with
    | none => "maybe"
    | some _ => "surely"
def R_word_of (ds' : List D) (d : D) : Prop := ∃ a b : Option Int, ds' = [optI a, optI b] ∧ d = ds (wordM a b)
theorem ok_word_of (T : Tx K mg) : Cal P w K mg base 1 "word_of" (spD K R_word_of) [] := by
  refine calD T.f_word_of sc_word_of (fun ds d ⟨a, b, e, _⟩ => by rw [e]; rfl) (fun _ _ _ _ _ _ us hl => match us, hl with | [_, _], _ => rfl) ?_
  rintro cdv f A outer s H E _ _ ⟨a, b, rfl, rfl⟩ hr
  show DSs _ (defBody s_word_of) [.d (optI a), .d (optI b)] [] _
  refine dss_cons (ds_if (ba := !a.isSome) (et (DT.is (dt_cmp (de_name 0 rfl rfl (.inl (by kernel_rfl))) de_non o_isN) (isN_optI a))) (fun h => ?_) (fun h => dss_nil ?_))
  · cases a with
    | none => exact dss_one (ds_ret (d := ds "never") (ev de_str) (.inl rfl))
    | some a => cases h
  · cases a with
    | none => cases h
    | some a =>
      refine dss_one (ds_ret (ev (de_if (ba := !b.isSome) (DT.is (dt_cmp (de_name 1 rfl rfl (.inl (by kernel_rfl))) de_non o_isN) (isN_optI b)) (fun h => ?_) (fun h => ?_))) (.inl rfl))
      · cases b with
        | none => exact de_str
        | some b => cases h
      · cases b with
        | none => cases h
        | some b => exact de_str
def R_is_ahead (ds' : List D) (d : D) : Prop := ∃ (b : List (Str × Int)) (p : Str) (m : Int), ds' = [.dic b, ds p, di m] ∧ d = db (ahead b p m)
theorem ok_is_ahead (T : Tx K mg) : Cal P w K mg base 1 "is_ahead" (spD K R_is_ahead) [] := by
  refine calD T.f_is_ahead sc_is_ahead (fun ds d ⟨a, b, c, e, _⟩ => by rw [e]; rfl) (fun _ _ _ _ _ _ us hl => match us, hl with | [_, _, _], _ => rfl) ?_
  rintro cdv f A outer s H E _ _ ⟨b, p, m, rfl, rfl⟩ hr
  have hu := hu_of hr
  show DSs _ (defBody s_is_ahead) [.d (.dic b), .d (ds p), .d (di m)] [] _
  refine dss_one (ds_ret (d := db (ahead b p m)) (ev (de_or (de_dnotin hu (de_name 1 rfl rfl (.inl (by kernel_rfl))) (de_name 0 rfl rfl (.inl (by kernel_rfl)))) (fun h => de_one (de_cmp (de_name 2 rfl rfl (.inl (by kernel_rfl))) (de_dget (i := (getK b p).getD 0) hu (de_name 0 rfl rfl (.inl (by kernel_rfl))) (de_name 1 rfl rfl (.inl (by kernel_rfl))) ?_) o_lt)))) (.inl rfl))
  cases q : getK b p with
  | none => rw [q] at h; cases h
  | some v => rfl

/-! ### caught -/
theorem idx_get {ws : List Str} {x : Str} (h : x ∈ ws) : ws[ws.idxOf x]? = some x := by
  have hl := List.idxOf_lt_length_iff.mpr h
  rw [List.getElem?_eq_getElem hl]
  exact congrArg some (List.getElem_idxOf hl)
theorem idx_no {ws : List Str} {x : Str} {m : Nat} (h : m < ws.idxOf x) : ws[m]? ≠ some x := by
  intro e
  have h1 := List.getElem?_eq_some_iff.mp e
  obtain ⟨hl, e1⟩ := h1
  have h2 := List.not_of_lt_findIdx (xs := ws) (p := (· == x)) h
  rw [e1] at h2
  simp at h2
theorem last_mem {w : Wea} (hw : ∃ x r, w = (0, x) :: r) {m : Int} (hm : 0 ≤ m) : ∃ x, (winds w m).getLast? = some x ∧ blow w m = x ∧ ∃ r ∈ w, r.2 = x := by
  obtain ⟨x0, r0, rfl⟩ := hw
  have hne : winds ((0, x0) :: r0) m ≠ [] := by
    unfold winds
    rw [List.filter_cons, if_pos (decide_eq_true hm)]
    exact List.cons_ne_nil _ _
  cases h : (winds ((0, x0) :: r0) m).getLast? with
  | none => exact absurd (List.getLast?_eq_none_iff.mp h) hne
  | some x =>
    refine ⟨x, rfl, getLastD_of h, ?_⟩
    have := List.mem_of_getLast? h
    obtain ⟨r, hr, e⟩ := List.mem_map.mp this
    exact ⟨r, (List.mem_filter.mp hr).1, e⟩
theorem wind_ok {L : LandM} {w : Wea} (hw : WeaOk L w) {m : Int} (hm : 0 ≤ m) : ∃ x, (winds w m).getLast? = some x ∧ L.winds[windAt L w m]? = some x ∧ (∀ k, k < windAt L w m → L.winds[k]? ≠ some x) ∧ windAt L w m < L.winds.length := by
  obtain ⟨x, h1, h2, r, hr, h3⟩ := last_mem hw.first hm
  have hx : x ∈ L.winds := h3 ▸ hw.of r hr
  refine ⟨x, h1, ?_, ?_, ?_⟩
  · unfold windAt; rw [h2]; exact idx_get hx
  · unfold windAt; rw [h2]; exact fun k hk => idx_no hk
  · unfold windAt; rw [h2]; exact List.idxOf_lt_length_iff.mpr hx
def R_caught (ds' : List D) (d : D) : Prop := ∃ (L : LandM) (w : Wea) (row : List (Option Int)) (m : Int), ds' = [landD L, weaD w, numD row, di m] ∧ WeaOk L w ∧ row.length = L.winds.length ∧ 0 ≤ m ∧ d = optI (caughtM L w row m)
theorem ch_pos {L : LandM} {w : Wea} (hw : WeaOk L w) {m : Int} (hm : 0 ≤ m) : ∀ s ∈ chancesM w m, 0 ≤ s := by
  intro s hs
  rcases List.mem_cons.mp hs with rfl | h
  · exact hm
  · obtain ⟨r, hr, rfl⟩ := List.mem_map.mp h
    exact (hw.below r (List.mem_filter.mp hr).1).1
theorem ok_caught (T : Tx K mg) : Cal P w K mg base 2 "caught" (spD K R_caught) [] := by
  refine calD T.f_caught sc_caught (fun ds d ⟨L, w, a, b, e, _⟩ => by rw [e]; rfl) (fun _ _ _ _ _ _ us hl => match us, hl with | [_, _, _, _], _ => rfl) ?_
  rintro cdv f A outer s H E _ _ ⟨L, w, row, m, rfl, hw, hrow, hm, rfl⟩ hr
  have nd := (sc_caught).nd
  have hu := hu_of hr
  have hwl : w.length ≤ 1000 := Nat.le_trans hw.few (by decide)
  have hcl : (chancesM w m).length ≤ 41 := by
    show (changes w m).length + 1 ≤ 41
    unfold changes
    rw [List.length_map]
    have := List.length_filter_le (fun r : Int × Str => decide (m < r.1)) w
    have := hw.few
    omega
  show DSs _ (defBody s_caught) [.d (landD L), .d (weaD w), .d (numD row), .d (di m), .un, .un, .un] [] _
  refine dss_cons (ds_setN 4 (en (dn_lst da_nil)) ?_ nd rfl (.inl (by kernel_rfl)) (.inr (by kernel_rfl)))
  show DSs _ _ [.d (landD L), .d (weaD w), .d (numD row), .d (di m), .c 0, .un, .un] [.dat (.lst [])] _
  refine dss_cons (ds_for (asg := asgA 5) (its := (chancesM w m).map di) (fun i ρ cs => ∃ a b, ρ = [.d (landD L), .d (weaD w), .d (numD row), .d (di m), .c 0, a, b] ∧ cs = [.dat (.lst ((((chancesM w m).take i).filterMap (end1 L w row)).map di))]) PassesOwn.never rfl (ei (di_list (DN.de (dn_call (ok_chances T) hr (by kernel_rfl) (da_cons (de_name 1 rfl rfl (.inl (by kernel_rfl))) (da_cons (de_name 3 rfl rfl (.inl (by kernel_rfl))) da_nil)) ⟨w, m, rfl, hwl, rfl⟩)))) ⟨_, _, rfl, rfl⟩ (fun i d ρ cs hd iv => ?_) (fun ρ cs iv => ?_))
  · obtain ⟨a, b, rfl, rfl⟩ := iv
    obtain ⟨c, hc, rfl⟩ := map_get hd
    refine ⟨(dg_name 5 nd rfl (.inl (by kernel_rfl)) (.inr (by kernel_rfl))), ?_⟩
    have hc0 : 0 ≤ c := ch_pos hw hm c (List.mem_of_getElem? hc)
    obtain ⟨x, h1, h2, h3, h4⟩ := wind_ok hw hc0
    obtain ⟨o, ho⟩ : ∃ o, row[windAt L w c]? = some o := ⟨_, List.getElem?_eq_getElem (by rw [hrow]; exact h4)⟩
    have he : end1 L w row c = o.map (c + ·) := by unfold end1; rw [List.getD_eq_getElem?_getD, ho]; rfl
    show DSs _ _ [.d (landD L), .d (weaD w), .d (numD row), .d (di m), .c 0, .d (di c), b] _ _
    refine dss_cons (ds_set 6 (d := optI o) (ev (de_ix (de_name 2 rfl rfl (.inl (by kernel_rfl))) (de_tix (j := windAt L w c) (z := x) (ys := L.winds) (de_fld (de_name 0 rfl rfl (.inl (by kernel_rfl))) rfl T.cl_Land T.na_winds) (de_call (ok_blowing T) hr (by kernel_rfl) (da_cons (de_name 1 rfl rfl (.inl (by kernel_rfl))) (da_cons (de_name 5 rfl rfl (.inl (by kernel_rfl))) da_nil)) ⟨w, c, x, rfl, hwl, h1, rfl⟩) h2 h3) (ix_t (atI_nat (getE optI ho))))) ?_ nd rfl (.inl (by kernel_rfl)) (.inr (by kernel_rfl)))
    show DSs _ _ [.d (landD L), .d (weaD w), .d (numD row), .d (di m), .c 0, .d (di c), .d (optI o)] _ _
    have htake : ((chancesM w m).take (i + 1)).filterMap (end1 L w row) = ((chancesM w m).take i).filterMap (end1 L w row) ++ (o.map (c + ·)).toList := by
      rw [take_filter_succ hc, List.filterMap_append, List.filterMap_cons, he]
      cases o <;> rfl
    refine dss_one (ds_if (ba := o.isSome) (et (DT.is (dt_cmp (de_name 6 rfl rfl (.inl (by kernel_rfl))) de_non o_notN) (by rw [isN_optI, Bool.not_not]))) (fun h => ?_) (fun h => dss_nil ?_))
    · cases o with
      | none => cases h
      | some v =>
        refine dss_one (ds_append 4 rfl rfl (d := di (c + v)) (ev (de_bin (de_name 5 rfl rfl (.inl (by kernel_rfl))) (de_name 6 rfl rfl (.inl (by kernel_rfl))) o_add)) ?_ ⟨_, _, rfl, ?_⟩ rfl (.inl (by kernel_rfl)))
        · rw [List.length_map]
          exact small (m := 41) (Nat.le_trans (List.length_filterMap_le _ _) (by rw [List.length_take]; omega))
        · rw [htake, List.map_append]; rfl
    · cases o with
      | none => exact ⟨_, _, rfl, by rw [htake]; simp⟩
      | some v => cases h
  · obtain ⟨a, b, rfl, rfl⟩ := iv
    rw [List.length_map, List.take_length]
    refine dss_one (ds_ret (d := optI (caughtM L w row m)) (evh (de_minDef (α := Int) (enc := di) (bs := endsM L w row m) rfl (hu1_of hr) (fun _ => rfl) (fun _ => rfl) (by kernel_rfl) T.b_min (da_cons (de_name 4 rfl rfl (.inl (by kernel_rfl))) da_nil) de_non (fun e => ?_) (fun b bs e => ?_)) ?_) (.inl rfl))
    · unfold caughtM; rw [e]; rfl
    · unfold caughtM; rw [e]; rfl
    · cases caughtM L w row m <;> rfl
end Ef
set_option maxRecDepth 100000
set_option maxHeartbeats 4000000
/-! Gd: spread. -/
namespace Ef
open PySem L2 C8 RZ PyProof.Rows PySem.Spec PySem.W
variable {P : Program} {w : World} {K : PySem.W.Frag} {mg : Str → Option Value} {base : Heap}
/-! ### what it computes -/
abbrev Dic := List (Str × Int)
abbrev LinkR := LinkM × List (Option Int)
def wait1 (broken : Dic) (wt : Dic) (q : Str × Int) : Dic := if ahead broken q.1 q.2 then setK wt q.1 q.2 else wt
def wait0 (broken : Dic) (begun : Dic) : Dic := begun.foldl (wait1 broken) []
def endOf (L : LandM) (w : Wea) (found : Dic) (place : Str) (minute : Int) (lr : LinkR) : Option Int :=
  if lr.1.one = place ∧ getK found lr.1.other = none then caughtM L w lr.2 minute else none
def putMin (wt : Dic) (k : Str) (e : Int) : Dic := setK wt k (if (getK wt k).getD e < e then (getK wt k).getD e else e)
def relax1 (L : LandM) (w : Wea) (broken found : Dic) (place : Str) (minute : Int) (wt : Dic) (lr : LinkR) : Dic := match endOf L w found place minute lr with
  | none => wt
  | some e => if ahead broken lr.1.other e then putMin wt lr.1.other e else wt
def swapQ (q : Str × Int) : Int × Str := (q.2, q.1)
def popMin (wt : Dic) : Option (Int × Str) := match wt.map swapQ with
  | [] => none
  | b :: bs => some (minOf b bs)
def spreadGo (L : LandM) (w : Wea) (broken : Dic) (lrs : List LinkR) : Nat → Dic → Dic → Dic
  | 0, _, fd => fd
  | n + 1, wt, fd => match popMin wt with
    | none => fd
    | some (m, p) => spreadGo L w broken lrs n (lrs.foldl (relax1 L w broken (setK fd p m) p m) (delK wt p)) (setK fd p m)
def spreadM (L : LandM) (w : Wea) (st br : Rows) (ns : List (List (Option Int))) : Dic :=
  spreadGo L w (leastK br) (L.links.zip ns) (L.places.length + 1) (wait0 (leastK br) (leastK st)) []
/-! ### keys -/
def keysIn (d : Dic) (ps : List Str) : Prop := ∀ q ∈ d, q.1 ∈ ps
theorem getK_mem {d : Dic} {k : Str} {v : Int} (h : getK d k = some v) : (k, v) ∈ d := by
  unfold getK at h
  cases e : d.find? (fun kv => decide (kv.1 = k)) with
  | none => rw [e] at h; cases h
  | some q =>
    rw [e] at h; cases h
    have h1 := List.find?_some e
    have h2 := List.mem_of_find?_eq_some e
    have h3 : q.1 = k := of_decide_eq_true h1
    rw [← h3]; exact h2
theorem getK_none {d : Dic} {k : Str} : getK d k = none ↔ ∀ q ∈ d, q.1 ≠ k := by
  unfold getK
  rw [Option.map_eq_none_iff, List.find?_eq_none]
  constructor
  · intro h q hq e; exact h q hq (decide_eq_true e)
  · intro h q hq e; exact h q hq (of_decide_eq_true e)
theorem getK_map_ne {f : Str × Int → Str × Int} (hf : ∀ q, (f q).1 = q.1) {k : Str} : ∀ d : Dic, (getK (d.map f) k) = ((d.find? fun kv => decide (kv.1 = k)).map fun q => (f q).2)
  | [] => rfl
  | q :: d => by
    have ih := getK_map_ne hf (k := k) d
    unfold getK at ih ⊢
    rw [List.map_cons, List.find?_cons, List.find?_cons, hf]
    cases h : decide (q.1 = k) with
    | true => rfl
    | false => exact ih
theorem getK_set (d : Dic) (k : Str) (v : Int) (k' : Str) : getK (setK d k v) k' = if k' = k then some v else getK d k' := by
  unfold setK
  by_cases h : (getK d k).isSome = true
  · rw [if_pos h, getK_map_ne (fun q => by by_cases z : q.1 = k <;> simp [z])]
    unfold getK
    cases e : d.find? (fun kv => decide (kv.1 = k')) with
    | none =>
      by_cases z : k' = k
      · subst z; unfold getK at h; rw [e] at h; cases h
      · rw [if_neg z]; rfl
    | some q =>
      have h1 : q.1 = k' := of_decide_eq_true (List.find?_some (p := fun kv : Str × Int => decide (kv.1 = k')) e)
      by_cases z : k' = k
      · rw [if_pos z]
        show some (if q.1 = k then (q.1, v) else q).2 = some v
        rw [if_pos (h1.trans z)]
      · rw [if_neg z]
        show some (if q.1 = k then (q.1, v) else q).2 = some q.2
        rw [if_neg (fun y => z (h1.symm.trans y))]
  · rw [if_neg h]
    have hn : getK d k = none := by cases q : getK d k with
      | none => rfl
      | some x => rw [q] at h; exact absurd rfl h
    unfold getK
    rw [List.find?_append]
    by_cases z : k' = k
    · subst z
      rw [if_pos rfl]
      unfold getK at hn
      rw [Option.map_eq_none_iff] at hn
      rw [hn]
      simp
    · rw [if_neg z]
      have : ([(k, v)] : Dic).find? (fun kv => decide (kv.1 = k')) = none := by
        rw [List.find?_cons]
        have : decide ((k, v).1 = k') = false := decide_eq_false (fun y => z y.symm)
        rw [this]; rfl
      rw [this, Option.or_none]
theorem getK_del (d : Dic) (k k' : Str) : getK (delK d k) k' = if k' = k then none else getK d k' := by
  unfold delK
  by_cases z : k' = k
  · subst z
    rw [if_pos rfl, getK_none]
    intro q hq
    exact of_decide_eq_true (List.mem_filter.mp hq).2
  · rw [if_neg z]
    unfold getK
    rw [List.find?_filter]
    congr 2
    funext q
    by_cases y : q.1 = k' <;> simp [y, z]
theorem keys_set {d : Dic} {ps : List Str} {k : Str} {v : Int} (h : keysIn d ps) (hk : k ∈ ps) : keysIn (setK d k v) ps := by
  intro q hq
  unfold setK at hq
  split at hq
  · obtain ⟨r, hr, rfl⟩ := List.mem_map.mp hq
    by_cases z : r.1 = k
    · rw [if_pos z]; exact h r hr
    · rw [if_neg z]; exact h r hr
  · rcases List.mem_append.mp hq with hq | hq
    · exact h q hq
    · rcases List.mem_singleton.mp hq with rfl; exact hk
theorem keys_del {d : Dic} {ps : List Str} {k : Str} (h : keysIn d ps) : keysIn (delK d k) ps := fun q hq => h q (List.mem_filter.mp hq).1
theorem keys_least {rs : Rows} {ps : List Str} (h : ∀ r ∈ rs, r.1 ∈ ps) : keysIn (leastK rs) ps := by
  have : ∀ (rs : Rows) (t : Dic), (∀ r ∈ rs, r.1 ∈ ps) → keysIn t ps → keysIn (rs.foldl leastStep t) ps := by
    intro rs
    induction rs with
    | nil => intro t _ ht; exact ht
    | cons r rs ih => intro t h ht; exact ih _ (fun r' m => h r' (List.mem_cons_of_mem _ m)) (keys_set ht (h r List.mem_cons_self))
  exact this rs [] h (fun q hq => by cases hq)
/-! ### the walk -/
theorem wait0_len (broken : Dic) (begun : Dic) : (wait0 broken begun).length ≤ begun.length := by
  have h := foldl_len (wait1 broken) (fun t q => by unfold wait1; split; exact length_setK _ _ _; omega) begun []
  rw [List.length_nil, Nat.zero_add] at h
  exact h
theorem keys_wait0 {broken begun : Dic} {ps : List Str} (h : keysIn begun ps) : keysIn (wait0 broken begun) ps := by
  have : ∀ (l t : Dic), keysIn l ps → keysIn t ps → keysIn (l.foldl (wait1 broken) t) ps := by
    intro l
    induction l with
    | nil => intro t _ ht; exact ht
    | cons q l ih =>
      intro t h ht
      refine ih _ (fun r' m => h r' (List.mem_cons_of_mem _ m)) ?_
      unfold wait1
      split
      · exact keys_set ht (h q List.mem_cons_self)
      · exact ht
  exact this begun [] h (fun q hq => by cases hq)
theorem popMin_mem {wt : Dic} {m : Int} {p : Str} (h : popMin wt = some (m, p)) : (p, m) ∈ wt := by
  unfold popMin at h
  have key : ∀ (bs : List (Int × Str)) (b : Int × Str), minOf b bs ∈ b :: bs := by
    intro bs
    induction bs with
    | nil => intro b; exact List.mem_cons_self
    | cons c bs ih =>
      intro b
      show minOf (if DatumOrd.lt c b = true then c else b) bs ∈ _
      have := ih (if DatumOrd.lt c b = true then c else b)
      rcases List.mem_cons.mp this with e | e
      · rw [e]
        by_cases z : DatumOrd.lt c b = true
        · rw [if_pos z]; exact List.mem_cons_of_mem _ List.mem_cons_self
        · rw [if_neg z]; exact List.mem_cons_self
      · exact List.mem_cons_of_mem _ (List.mem_cons_of_mem _ e)
  cases e : wt.map swapQ with
  | nil => rw [e] at h; cases h
  | cons b bs =>
    rw [e] at h
    have h1 := key bs b
    rw [Option.some.inj h, ← e] at h1
    obtain ⟨q, hq, e2⟩ := List.mem_map.mp h1
    have : q = (p, m) := by
      obtain ⟨a, b⟩ := q
      have e3 : (b, a) = (m, p) := e2
      cases e3; rfl
    rw [this] at hq; exact hq
theorem popMin_none {wt : Dic} : popMin wt = none ↔ wt = [] := by
  unfold popMin
  cases wt with
  | nil => simp
  | cons q wt => simp
def muF (L : LandM) (fd : Dic) : Nat := (L.places.filter fun p => (getK fd p).isNone).length
theorem muF_lt {L : LandM} {fd : Dic} {p : Str} {m : Int} (hp : p ∈ L.places) (hn : getK fd p = none) : muF L (setK fd p m) < muF L fd := by
  unfold muF
  have h : (L.places.filter fun q => (getK (setK fd p m) q).isNone) = (L.places.filter fun q => (getK fd q).isNone).filter fun q => decide (q ≠ p) := by
    rw [List.filter_filter]
    refine List.filter_congr fun q _ => ?_
    rw [getK_set]
    by_cases z : q = p <;> simp [z]
  rw [h]
  have hm : p ∈ L.places.filter fun q => (getK fd q).isNone := List.mem_filter.mpr ⟨hp, by rw [hn]; rfl⟩
  refine Nat.lt_of_le_of_ne (List.length_filter_le _ _) fun e => ?_
  have := (List.length_filter_eq_length_iff.mp e) p hm
  simp at this
theorem nodup_le {α : Type} [DecidableEq α] : ∀ {l m : List α}, l.Nodup → (∀ x ∈ l, x ∈ m) → l.length ≤ m.length
  | [], m, _, _ => Nat.zero_le _
  | x :: l, m, h, s => by
    have hx := s x List.mem_cons_self
    have h2 := List.nodup_cons.mp h
    have ih := nodup_le (l := l) (m := m.erase x) h2.2 (fun y hy => by
      have ne : y ≠ x := fun e => h2.1 (e ▸ hy)
      exact (List.mem_erase_of_ne ne).mpr (s y (List.mem_cons_of_mem _ hy)))
    rw [List.length_erase_of_mem hx] at ih
    have : 0 < m.length := List.length_pos_of_mem hx
    rw [List.length_cons]; omega
theorem keys_setK_eq (d : Dic) (k : Str) (v : Int) : (setK d k v).map (·.1) = if (getK d k).isSome then d.map (·.1) else d.map (·.1) ++ [k] := by
  unfold setK
  split
  · rw [List.map_map]
    exact List.map_congr_left fun q _ => by
      show (if q.1 = k then (q.1, v) else q).1 = q.1
      by_cases z : q.1 = k
      · rw [if_pos z]
      · rw [if_neg z]
  · rw [List.map_append]; rfl
theorem nodup_set {d : Dic} {k : Str} {v : Int} (h : (d.map (·.1)).Nodup) : ((setK d k v).map (·.1)).Nodup := by
  rw [keys_setK_eq]
  split
  · exact h
  · rename_i hn
    have hn' : getK d k = none := by cases q : getK d k with
      | none => rfl
      | some x => rw [q] at hn; exact absurd rfl hn
    rw [getK_none] at hn'
    refine List.nodup_append.mpr ⟨h, by simp, fun a ha b hb => ?_⟩
    rcases List.mem_singleton.mp hb with rfl
    obtain ⟨q, hq, rfl⟩ := List.mem_map.mp ha
    exact hn' q hq
theorem nodup_del {d : Dic} {k : Str} (h : (d.map (·.1)).Nodup) : ((delK d k).map (·.1)).Nodup := h.sublist (List.Sublist.map _ List.filter_sublist)
theorem get_of_mem {d : Dic} (h : (d.map (·.1)).Nodup) {k : Str} {v : Int} (hm : (k, v) ∈ d) : getK d k = some v := by
  induction d with
  | nil => cases hm
  | cons q d ih =>
    rw [List.map_cons, List.nodup_cons] at h
    unfold getK
    rw [List.find?_cons]
    by_cases z : q.1 = k
    · rw [decide_eq_true z]
      rcases List.mem_cons.mp hm with rfl | hm
      · rfl
      · exact absurd (List.mem_map.mpr ⟨(k, v), hm, z.symm⟩) h.1
    · rw [decide_eq_false z]
      rcases List.mem_cons.mp hm with e | hm
      · rw [← e] at z; exact absurd rfl z
      · exact ih h.2 hm
structure NumsOk (L : LandM) (ns : List (List (Option Int))) : Prop where
  len : ns.length = L.links.length
  row : ∀ r ∈ ns, r.length = L.winds.length
  pos : ∀ r ∈ ns, ∀ v, some v ∈ r → 1 ≤ v
theorem minOf_mem {α : Type} [DecidableEq α] [DatumOrd α] : ∀ (bs : List α) (b : α), minOf b bs ∈ b :: bs
  | [], b => List.mem_cons_self
  | c :: bs, b => by
    have := minOf_mem bs (if DatumOrd.lt c b = true then c else b)
    show minOf (if DatumOrd.lt c b = true then c else b) bs ∈ _
    rcases List.mem_cons.mp this with e | e
    · rw [e]
      by_cases z : DatumOrd.lt c b = true
      · rw [if_pos z]; exact List.mem_cons_of_mem _ List.mem_cons_self
      · rw [if_neg z]; exact List.mem_cons_self
    · exact List.mem_cons_of_mem _ (List.mem_cons_of_mem _ e)
theorem minL_mem {l : List Int} {e : Int} (h : minL l = some e) : e ∈ l := by
  cases l with
  | nil => cases h
  | cons b bs => rw [← Option.some.inj h]; exact minOf_mem bs b
theorem caught_gt {L : LandM} {w : Wea} {row : List (Option Int)} {m e : Int} (hp : ∀ v, some v ∈ row → 1 ≤ v) (h : caughtM L w row m = some e) : m < e := by
  have h1 := minL_mem h
  obtain ⟨s, hs, he⟩ := List.mem_filterMap.mp h1
  have hs' : m ≤ s := by
    rcases List.mem_cons.mp hs with rfl | hs
    · exact Int.le_refl _
    · obtain ⟨r, hr, rfl⟩ := List.mem_map.mp hs
      have := of_decide_eq_true (List.mem_filter.mp hr).2
      omega
  unfold end1 at he
  rw [List.getD_eq_getElem?_getD] at he
  cases q : row[windAt L w s]? with
  | none => rw [q] at he; cases he
  | some o =>
    rw [q] at he
    cases o with
    | none => cases he
    | some v =>
      have := hp v (List.mem_of_getElem? q)
      cases he
      show m < s + v
      omega
/-- what the loop keeps -/
structure SpI (L : LandM) (wt fd : Dic) : Prop where
  wk : keysIn wt L.places
  wn : ∀ q ∈ wt, getK fd q.1 = none
  wd : (wt.map (·.1)).Nodup
  fk : keysIn fd L.places
  fd : (fd.map (·.1)).Nodup
  w0 : ∀ q ∈ wt, 0 ≤ q.2
theorem mem_set {d : Dic} {k : Str} {v : Int} {q : Str × Int} (h : q ∈ setK d k v) : q = (k, v) ∨ q ∈ d := by
  unfold setK at h
  split at h
  · obtain ⟨r, hr, rfl⟩ := List.mem_map.mp h
    by_cases z : r.1 = k
    · rw [if_pos z, z]; exact .inl rfl
    · rw [if_neg z]; exact .inr hr
  · rcases List.mem_append.mp h with h | h
    · exact .inr h
    · exact .inl (List.mem_singleton.mp h)
theorem mem_putMin {d : Dic} {k : Str} {e : Int} {q : Str × Int} (h : q ∈ putMin d k e) : (q.1 = k ∧ (q.2 = e ∨ (k, q.2) ∈ d)) ∨ q ∈ d := by
  rcases mem_set h with rfl | h
  · refine .inl ⟨rfl, ?_⟩
    show (if (getK d k).getD e < e then (getK d k).getD e else e) = e ∨ _
    cases z : getK d k with
    | none => simp
    | some y =>
      by_cases l : y < e
      · refine .inr ?_
        show (k, if y < e then y else e) ∈ d
        rw [if_pos l]; exact getK_mem z
      · refine .inl ?_
        show (if y < e then y else e) = e
        rw [if_neg l]
  · exact .inr h
theorem SpI.relax {L : LandM} {w : Wea} {broken wt fd : Dic} {p : Str} {m : Int} {lr : LinkR} (I : SpI L wt fd) (ho : lr.1.other ∈ L.places) (hp : ∀ v, some v ∈ lr.2 → 1 ≤ v) (hm : 0 ≤ m) : SpI L (relax1 L w broken fd p m wt lr) fd := by
  unfold relax1
  cases h : endOf L w fd p m lr with
  | none => exact I
  | some e =>
    show SpI L (if ahead broken lr.1.other e then putMin wt lr.1.other e else wt) fd
    by_cases a : ahead broken lr.1.other e = true
    · rw [if_pos a]
      unfold endOf at h
      by_cases c : lr.1.one = p ∧ getK fd lr.1.other = none
      · rw [if_pos c] at h
        have he := caught_gt hp h
        refine ⟨keys_set I.wk ho, fun q hq => ?_, nodup_set I.wd, I.fk, I.fd, fun q hq => ?_⟩
        · rcases mem_putMin hq with ⟨e1, _⟩ | h1
          · rw [e1]; exact c.2
          · exact I.wn q h1
        · rcases mem_putMin hq with ⟨e1, e2 | e2⟩ | h1
          · rw [e2]; omega
          · have := I.w0 _ e2; exact this
          · exact I.w0 q h1
      · rw [if_neg c] at h; cases h
    · rw [if_neg a]; exact I
theorem SpI.pop {L : LandM} {wt fd : Dic} {p : Str} {m : Int} (I : SpI L wt fd) (h : popMin wt = some (m, p)) : SpI L (delK wt p) (setK fd p m) ∧ getK wt p = some m ∧ getK fd p = none ∧ p ∈ L.places ∧ 0 ≤ m := by
  have hm := popMin_mem h
  refine ⟨⟨keys_del I.wk, fun q hq => ?_, nodup_del I.wd, keys_set I.fk (I.wk _ hm), nodup_set I.fd, fun q hq => I.w0 q (List.mem_filter.mp hq).1⟩, get_of_mem I.wd hm, I.wn _ hm, I.wk _ hm, I.w0 _ hm⟩
  have h1 := List.mem_filter.mp hq
  rw [getK_set, if_neg (of_decide_eq_true h1.2)]
  exact I.wn q h1.1
theorem SpI.relaxs {L : LandM} {w : Wea} {broken : Dic} {fd : Dic} {p : Str} {m : Int} (hm : 0 ≤ m) : ∀ (lrs : List LinkR) (wt : Dic), (∀ lr ∈ lrs, lr.1.other ∈ L.places ∧ ∀ v, some v ∈ lr.2 → 1 ≤ v) → SpI L wt fd → SpI L (lrs.foldl (relax1 L w broken fd p m) wt) fd
  | [], wt, _, I => I
  | lr :: lrs, wt, h, I => SpI.relaxs hm lrs _ (fun r hr => h r (List.mem_cons_of_mem _ hr)) (I.relax (h lr List.mem_cons_self).1 (h lr List.mem_cons_self).2 hm)
theorem SpI.wl {L : LandM} {wt fd : Dic} (I : SpI L wt fd) : wt.length ≤ L.places.length := by
  have := nodup_le I.wd (fun x hx => by obtain ⟨q, hq, rfl⟩ := List.mem_map.mp hx; exact I.wk q hq)
  rwa [List.length_map] at this
theorem SpI.fl {L : LandM} {wt fd : Dic} (I : SpI L wt fd) : fd.length ≤ L.places.length := by
  have := nodup_le I.fd (fun x hx => by obtain ⟨q, hq, rfl⟩ := List.mem_map.mp hx; exact I.fk q hq)
  rwa [List.length_map] at this
theorem SpI.start {L : LandM} {broken begun : Dic} (h : keysIn begun L.places) (h0 : ∀ q ∈ begun, 0 ≤ q.2) : SpI L (wait0 broken begun) [] := by
  have : ∀ (l t : Dic), keysIn l L.places → (∀ q ∈ l, 0 ≤ q.2) → SpI L t [] → SpI L (l.foldl (wait1 broken) t) [] := by
    intro l
    induction l with
    | nil => intro t _ _ ht; exact ht
    | cons q l ih =>
      intro t h h0 ht
      refine ih _ (fun r' m => h r' (List.mem_cons_of_mem _ m)) (fun r' m => h0 r' (List.mem_cons_of_mem _ m)) ?_
      unfold wait1
      split
      · refine ⟨keys_set ht.wk (h q List.mem_cons_self), fun r hr => rfl, nodup_set ht.wd, ht.fk, ht.fd, fun r hr => ?_⟩
        rcases mem_set hr with rfl | hr
        · exact h0 q List.mem_cons_self
        · exact ht.w0 r hr
      · exact ht
  exact this begun [] h h0 ⟨fun q hq => (by cases hq), fun q hq => (by cases hq), List.nodup_nil, fun q hq => (by cases hq), List.nodup_nil, fun q hq => (by cases hq)⟩
theorem least_nonneg {rs : Rows} (h : ∀ r ∈ rs, 0 ≤ r.2) : ∀ q ∈ leastK rs, 0 ≤ q.2 := by
  have : ∀ (rs : Rows) (t : Dic), (∀ r ∈ rs, 0 ≤ r.2) → (∀ q ∈ t, 0 ≤ q.2) → ∀ q ∈ rs.foldl leastStep t, 0 ≤ q.2 := by
    intro rs
    induction rs with
    | nil => intro t _ ht; exact ht
    | cons r rs ih =>
      intro t h ht
      refine ih _ (fun r' m => h r' (List.mem_cons_of_mem _ m)) (fun q hq => ?_)
      have hr := h r List.mem_cons_self
      rcases mem_putMin (d := t) (k := r.1) (e := r.2) hq with ⟨e1, e2 | e2⟩ | h1
      · rw [e2]; exact hr
      · have := ht _ e2; exact this
      · exact ht q h1
  exact this rs [] h (fun q hq => by cases hq)
theorem spreadGo_nil (L : LandM) (w : Wea) (broken : Dic) (lrs : List LinkR) (n : Nat) (fd : Dic) : spreadGo L w broken lrs n [] fd = fd := by cases n <;> rfl

def R_spread (ds' : List D) (d : D) : Prop := ∃ (L : LandM) (w : Wea) (st br : Rows) (ns : List (List (Option Int))), ds' = [landD L, weaD w, rowsD st, rowsD br, numsD ns] ∧ WeaOk L w ∧ Fits L ∧ (∀ l ∈ L.links, l.other ∈ L.places) ∧ NumsOk L ns ∧
  (∀ r ∈ st, r.1 ∈ L.places) ∧ (∀ r ∈ st, 0 ≤ r.2) ∧ st.length ≤ 1000 ∧ br.length ≤ 1000 ∧ d = .dic (spreadM L w st br ns)
theorem pairs_zip (ls : List LinkM) (ns : List (List (Option Int))) : pairs (ls.map linkD) (ns.map numD) = (ls.zip ns).map fun lr => .tup [linkD lr.1, numD lr.2] := by
  induction ls generalizing ns with
  | nil => rfl
  | cons l ls ih =>
    cases ns with
    | nil => rfl
    | cons n ns =>
      show D.tup [linkD l, numD n] :: pairs (ls.map linkD) (ns.map numD) = _
      rw [ih ns]; rfl
theorem dt_ahead {X : Cx} {ro : List (Option D)} {p1 p2 p3 p4 : Pos} {ek em eb eb2 ek2 : Expr} {broken : Dic} {k : Str} {m : Int} (hu : X.A.units + 1 < cLine) (hk : DE X ek ro (ds k)) (hb : DE X eb ro (.dic broken)) (hm : DE X em ro (di m)) (hb2 : DE X eb2 ro (.dic broken)) (hk2 : DE X ek2 ro (ds k))
    (h1 : behindInMarks .NotIn eb = false) (h2 : behindInMarks .Lt (.Subscript eb2 ek2 p3) = false) (hs : NoSl ek2) : DT X (.BoolOp .Or [.Compare ek [.NotIn] [eb] p1, .Compare em [.Lt] [.Subscript eb2 ek2 p3] p2] p4) ro (ahead broken k m) := by
  unfold ahead
  refine dt_or (dt_dnotin hu hk hb h1) (fun h => dw_or1 (dt_cmp hm (de_dget (i := (getK broken k).getD 0) hu hb2 hk2 ?_ hs) o_lt h2))
  cases q : getK broken k with
  | none => rw [q] at h; cases h
  | some v => rfl
theorem take_foldl' {α β : Type} (f : β → α → β) (b : β) (l : List α) : (l.take l.length).foldl f b = l.foldl f b := by rw [List.take_length]
theorem ok_spread (T : Tx K mg) : Cal P w K mg base 3 "spread" (spN K R_spread) [] := by
  refine calN T.f_spread sc_spread (fun ds d ⟨L, w, a, b, c, e, _⟩ => by rw [e]; rfl) (fun _ _ _ _ _ _ us hl => match us, hl with | [_, _, _, _, _], _ => rfl) ?_
  rintro cdv f A outer s H E _ _ ⟨L, w, st, br, ns, rfl, hw, fi, hlo, hn, hst, hst0, hsl, hbl, rfl⟩ hr
  have nd := (sc_spread).nd
  have hu := hu_of hr
  have pl : L.places.length ≤ 24 := fi.places
  have hk0 := keys_least hst
  have hz0 := least_nonneg hst0
  have I0 := SpI.start (broken := leastK br) hk0 hz0
  have hlr : ∀ lr ∈ L.links.zip ns, lr.1.other ∈ L.places ∧ ∀ v, some v ∈ lr.2 → 1 ≤ v := fun lr h => by
    obtain ⟨l, n⟩ := lr
    have := List.of_mem_zip h
    exact ⟨hlo l this.1, hn.pos n this.2⟩
  show DSs _ (defBody s_spread) [.d (landD L), .d (weaD w), .d (rowsD st), .d (rowsD br), .d (numsD ns), .un, .un, .un, .un, .un, .un, .un, .un] [] _
  refine dss_cons (ds_set 5 (d := .dic (leastK br)) (ev (DN.de (dn_call (ok_least_minutes T) hr (by kernel_rfl) (da_cons (de_name 3 rfl rfl (.inl (by kernel_rfl))) da_nil) ⟨br, rfl, hbl, rfl⟩))) ?_ nd rfl (.inl (by kernel_rfl)) (.inr (by kernel_rfl)))
  refine dss_cons (ds_setN 6 (en dn_dic) ?_ nd rfl (.inl (by kernel_rfl)) (.inr (by kernel_rfl)))
  show DSs _ _ [.d (landD L), .d (weaD w), .d (rowsD st), .d (rowsD br), .d (numsD ns), .d (.dic (leastK br)), .c 0, .un, .un, .un, .un, .un, .un] [.dat (.dic [])] _
  refine dss_cons (ds_for (asg := asg1 8 9) (its := itemsD (leastK st)) (fun i ρ cs => ∃ a b, ρ = [.d (landD L), .d (weaD w), .d (rowsD st), .d (rowsD br), .d (numsD ns), .d (.dic (leastK br)), .c 0, .un, a, b, .un, .un, .un] ∧ cs = [.dat (.dic (((leastK st).take i).foldl (wait1 (leastK br)) []))]) PassesOwn.never rfl (ei (di_itemsN (dn_call (ok_least_minutes T) hr (by kernel_rfl) (da_cons (de_name 2 rfl rfl (.inl (by kernel_rfl))) da_nil) ⟨st, rfl, hsl, rfl⟩))) ⟨_, _, rfl, rfl⟩ (fun i d ρ cs hd iv => ?_) (fun ρ cs iv => ?_))
  · obtain ⟨a, b, rfl, rfl⟩ := iv
    obtain ⟨k, v, hkv, rfl⟩ := itemsD_get hd
    refine ⟨(dg_tup rfl (dgs_cons (dg_name 8 nd rfl (.inl (by kernel_rfl)) (.inr (by kernel_rfl))) (dgs_cons (dg_name 9 nd rfl (.inl (by kernel_rfl)) (.inr (by kernel_rfl))) dgs_nil))), ?_⟩
    show DSs _ _ [.d (landD L), .d (weaD w), .d (rowsD st), .d (rowsD br), .d (numsD ns), .d (.dic (leastK br)), .c 0, .un, .d (ds k), .d (di v), .un, .un, .un] _ _
    refine dss_one (ds_if (ba := ahead (leastK br) k v) (et (dt_ahead hu (de_name 8 rfl rfl (.inl (by kernel_rfl))) (de_name 5 rfl rfl (.inl (by kernel_rfl))) (de_name 9 rfl rfl (.inl (by kernel_rfl))) (de_name 5 rfl rfl (.inl (by kernel_rfl))) (de_name 8 rfl rfl (.inl (by kernel_rfl))) (by kernel_rfl) (by kernel_rfl) (fun _ _ => rfl))) (fun h => ?_) (fun h => dss_nil ⟨_, _, rfl, ?_⟩))
    · refine dss_one (ds_dput hu 6 rfl rfl (ev (de_name 8 rfl rfl (.inl (by kernel_rfl)))) (ev (de_name 9 rfl rfl (.inl (by kernel_rfl)))) ?_ ⟨_, _, rfl, ?_⟩ rfl (.inl (by kernel_rfl)))
      · have h1 := wait0_len (leastK br) ((leastK st).take i)
        have h2 := leastK_len st
        rw [List.length_take] at h1
        unfold wait0 at h1
        exact small (m := 1000) (by omega)
      · rw [take_foldl _ _ hkv, wait1, if_pos h]; rfl
    · rw [take_foldl _ _ hkv, wait1, if_neg (by rw [h]; exact Bool.false_ne_true)]
  obtain ⟨a, b, rfl, rfl⟩ := iv
  have hil : (itemsD (leastK st)).length = (leastK st).length := List.length_map _
  rw [hil, List.take_length]
  refine dss_cons (ds_setN 7 (en dn_dic) ?_ nd rfl (.inl (by kernel_rfl)) (.inr (by kernel_rfl)))
  show DSs _ _ [.d (landD L), .d (weaD w), .d (rowsD st), .d (rowsD br), .d (numsD ns), .d (.dic (leastK br)), .c 0, .c 1, a, b, .un, .un, .un] [.dat (.dic (wait0 (leastK br) (leastK st))), .dat (.dic [])] _
  refine dss_cons (ds_while (α := (Dic × Dic) × SD × SD × SD × SD × SD) (fun x => [.d (landD L), .d (weaD w), .d (rowsD st), .d (rowsD br), .d (numsD ns), .d (.dic (leastK br)), .c 0, .c 1, x.2.1, x.2.2.1, x.2.2.2.1, x.2.2.2.2.1, x.2.2.2.2.2]) (fun x => [.dat (.dic x.1.1), .dat (.dic x.1.2)])
    (fun x => SpI L x.1.1 x.1.2 ∧ ∃ k, spreadGo L w (leastK br) (L.links.zip ns) k x.1.1 x.1.2 = spreadM L w st br ns ∧ muF L x.1.2 < k) (fun x => muF L x.1.2) (fun x => !x.1.1.isEmpty) ((wait0 (leastK br) (leastK st), []), a, b, .un, .un, .un) PassesOwn.never ?_ (fun x ia => et (dt_dic (de_name 6 rfl rfl (.inl (by kernel_rfl))))) (fun x ia hb => ?_) (fun x ia hb => ?_))
  · refine ⟨I0, L.places.length + 1, rfl, ?_⟩
    exact Nat.lt_succ_of_le (List.length_filter_le _ _)
  · obtain ⟨⟨wt, fd⟩, j8, j9, j10, j11, j12⟩ := x
    obtain ⟨I, k, hk, hμ⟩ := ia
    have hne : wt ≠ [] := by rintro rfl; cases hb
    obtain ⟨m, p, hpop⟩ : ∃ m p, popMin wt = some (m, p) := by
      cases h : popMin wt with
      | none => exact absurd (popMin_none.mp h) hne
      | some q => exact ⟨q.1, q.2, rfl⟩
    obtain ⟨I2, hget, hfn, hpp, hm0⟩ := I.pop hpop
    obtain ⟨b0, bs0, hb0, hmin⟩ : ∃ b0 bs0, wt.map swapQ = b0 :: bs0 ∧ minOf b0 bs0 = (m, p) := by
      unfold popMin at hpop
      cases h : wt.map swapQ with
      | nil => rw [h] at hpop; cases hpop
      | cons b bs => rw [h] at hpop; exact ⟨b, bs, rfl, Option.some.inj hpop⟩
    cases k with
    | zero => exact absurd hμ (Nat.not_lt_zero _)
    | succ k =>
    have hstep : spreadGo L w (leastK br) (L.links.zip ns) (k + 1) wt fd = spreadGo L w (leastK br) (L.links.zip ns) k ((L.links.zip ns).foldl (relax1 L w (leastK br) (setK fd p m) p m) (delK wt p)) (setK fd p m) := by
      show (match popMin wt with | none => fd | some (m, p) => _) = _
      rw [hpop]
    rw [hstep] at hk
    have hμ2 : muF L (setK fd p m) < muF L fd := muF_lt hpp hfn
    show DSs _ _ [.d (landD L), .d (weaD w), .d (rowsD st), .d (rowsD br), .d (numsD ns), .d (.dic (leastK br)), .c 0, .c 1, j8, j9, j10, j11, j12] [.dat (.dic wt), .dat (.dic fd)] _
    refine dss_cons (ds_asg (d := .tup [di m, ds p]) (asg := asg1 9 8 (.tup [di m, ds p])) (ev_lock 6 rfl rfl (DE.is (de_minL (α := Int × Str) (enc := weaD1) (b := b0) (bs := bs0) rfl (hu1_of hr) (fun _ => rfl) (fun _ => rfl) (by kernel_rfl) T.b_min (da_cons ?_ da_nil)) (by rw [hmin]; rfl))) (dg_tup rfl (dgs_cons (dg_name 9 nd rfl (.inl (by kernel_rfl)) (.inr (by kernel_rfl))) (dgs_cons (dg_name 8 nd rfl (.inl (by kernel_rfl)) (.inr (by kernel_rfl))) dgs_nil))) ?_)
    · have e : (b0 :: bs0).map weaD1 = ((itemsD wt).filter fun _ => true).map (fun d => .tup [(sndD d), (fstD d)]) := by
        rw [← hb0, filtT]
        unfold itemsD
        rw [List.map_map, List.map_map]; rfl
      rw [e]
      refine DN.de (dn_lc (its := itemsD wt) (own := [("place", 8), ("minute", 9)]) (asg := asg1 8 9) (keep := fun _ => true) (g := fun d => .tup [(sndD d), (fstD d)]) rfl nd (di_itemsL (de_name 6 rfl rfl (.inl (by kernel_rfl)))) (blkOk_by (by kernel_rfl)) ?_ (fun s H C cl fp i d hd => ?_))
      · show (wt.map _).length < _
        rw [List.length_map]; exact small (m := 24) (Nat.le_trans I.wl pl)
      · obtain ⟨k, v, hkv, rfl⟩ := itemsD_get hd
        exact ⟨(dg_tup rfl (dgs_cons (dg_name 8 nd rfl (.inl (by kernel_rfl)) (.inr (by kernel_rfl))) (dgs_cons (dg_name 9 nd rfl (.inl (by kernel_rfl)) (.inr (by kernel_rfl))) dgs_nil))), by simp [asg1], dts_nil, fun _ => (de_tup (da_cons (de_name 9 rfl rfl (.inl (by kernel_rfl))) (da_cons (de_name 8 rfl rfl (.inl (by kernel_rfl))) da_nil)))⟩
    show DSs _ _ [.d (landD L), .d (weaD w), .d (rowsD st), .d (rowsD br), .d (numsD ns), .d (.dic (leastK br)), .c 0, .c 1, .d (ds p), .d (di m), j10, j11, j12] [.dat (.dic wt), .dat (.dic fd)] _
    refine dss_cons (ds_dpop 6 rfl rfl (ev (de_name 8 rfl rfl (.inl (by kernel_rfl)))) hget ?_ rfl (.inl (by kernel_rfl)))
    refine dss_cons (ds_dput hu 7 rfl rfl (ev (de_name 8 rfl rfl (.inl (by kernel_rfl)))) (ev (de_name 9 rfl rfl (.inl (by kernel_rfl)))) (small (m := 24) (Nat.le_trans I.fl pl)) ?_ rfl (.inl (by kernel_rfl)))
    show DSs _ _ [.d (landD L), .d (weaD w), .d (rowsD st), .d (rowsD br), .d (numsD ns), .d (.dic (leastK br)), .c 0, .c 1, .d (ds p), .d (di m), j10, j11, j12] [.dat (.dic (delK wt p)), .dat (.dic (setK fd p m))] _
    refine dss_one (ds_for (asg := asg1 10 11) (its := pairs (L.links.map linkD) (ns.map numD)) (fun i ρ cs => ∃ x y z, ρ = [.d (landD L), .d (weaD w), .d (rowsD st), .d (rowsD br), .d (numsD ns), .d (.dic (leastK br)), .c 0, .c 1, .d (ds p), .d (di m), x, y, z] ∧ cs = [.dat (.dic (((L.links.zip ns).take i).foldl (relax1 L w (leastK br) (setK fd p m) p m) (delK wt p))), .dat (.dic (setK fd p m))]) PassesOwn.never rfl (ei (di_zipT (by kernel_rfl) T.b_zip (da_cons (de_fld (de_name 0 rfl rfl (.inl (by kernel_rfl))) rfl T.cl_Land T.na_links) (da_cons (de_name 4 rfl rfl (.inl (by kernel_rfl))) da_nil)))) ⟨_, _, _, rfl, rfl⟩ (fun i d ρ cs hd iv => ?_) (fun ρ cs iv => ?_))
    · obtain ⟨x, y, z, rfl, rfl⟩ := iv
      rw [pairs_zip] at hd
      obtain ⟨⟨l, n⟩, hln, rfl⟩ := map_get hd
      have hmem := List.of_mem_zip (List.mem_of_getElem? hln)
      refine ⟨(dg_tup rfl (dgs_cons (dg_name 10 nd rfl (.inl (by kernel_rfl)) (.inr (by kernel_rfl))) (dgs_cons (dg_name 11 nd rfl (.inl (by kernel_rfl)) (.inr (by kernel_rfl))) dgs_nil))), ?_⟩
      have I3 := I2.relaxs (p := p) (w := w) (broken := leastK br) hm0 ((L.links.zip ns).take i) _ (fun lr h => hlr lr (List.mem_of_mem_take h))
      show DSs _ _ [.d (landD L), .d (weaD w), .d (rowsD st), .d (rowsD br), .d (numsD ns), .d (.dic (leastK br)), .c 0, .c 1, .d (ds p), .d (di m), .d (linkD l), .d (numD n), z] _ _
      refine dss_cons (ds_set 12 (d := optI (endOf L w (setK fd p m) p m (l, n))) (evh (de_if (ba := decide (l.one = p) && !(getK (setK fd p m) l.other).isSome) (dt_and (dt_cmp (de_ix (d := ds l.one) (de_name 10 rfl rfl (.inl (by kernel_rfl))) de_int (ix_t rfl)) (de_name 8 rfl rfl (.inl (by kernel_rfl))) o_eqS) (fun _ => (dw_and1 (dt_dnotin hu (de_ix (d := ds l.other) (de_name 10 rfl rfl (.inl (by kernel_rfl))) de_int (ix_t rfl)) (de_name 7 rfl rfl (.inl (by kernel_rfl))))))) (fun h => (de_call (ok_caught T) hr (by kernel_rfl) (da_cons (de_name 0 rfl rfl (.inl (by kernel_rfl))) (da_cons (de_name 1 rfl rfl (.inl (by kernel_rfl))) (da_cons (de_name 11 rfl rfl (.inl (by kernel_rfl))) (da_cons (de_name 9 rfl rfl (.inl (by kernel_rfl))) da_nil)))) ⟨L, w, n, m, rfl, hw, hn.row n hmem.2, hm0, ?_⟩)) (fun h => DE.is de_non ?_)) (by cases endOf L w (setK fd p m) p m (l, n) <;> rfl)) ?_ nd rfl (.inl (by kernel_rfl)) (.inr (by kernel_rfl)))
      · rw [Bool.and_eq_true_iff] at h
        unfold endOf
        rw [if_pos ⟨of_decide_eq_true h.1, by cases q : getK (setK fd p m) l.other with | none => rfl | some v => rw [q] at h; cases h.2⟩]
      · unfold endOf
        rw [if_neg (fun c => by rw [decide_eq_true c.1, c.2] at h; cases h)]; rfl
      show DSs _ _ [.d (landD L), .d (weaD w), .d (rowsD st), .d (rowsD br), .d (numsD ns), .d (.dic (leastK br)), .c 0, .c 1, .d (ds p), .d (di m), .d (linkD l), .d (numD n), .d (optI (endOf L w (setK fd p m) p m (l, n)))] _ _
      have htk : ((L.links.zip ns).take (i + 1)).foldl (relax1 L w (leastK br) (setK fd p m) p m) (delK wt p) = relax1 L w (leastK br) (setK fd p m) p m (((L.links.zip ns).take i).foldl (relax1 L w (leastK br) (setK fd p m) p m) (delK wt p)) (l, n) := take_foldl _ _ hln
      cases he : endOf L w (setK fd p m) p m (l, n) with
      | none =>
        refine dss_one (ds_if (ba := false) (et (dt_and (ba := false) (bb := false) (dt_cmp (de_name 12 rfl rfl (.inl (by kernel_rfl))) de_non o_notN) (fun h => by cases h))) (fun h => by cases h) (fun h => dss_nil ⟨_, _, _, rfl, ?_⟩))
        rw [htk]; unfold relax1; rw [he]
      | some e =>
        refine dss_one (ds_if (ba := ahead (leastK br) l.other e) (et (DT.is (dt_and (ba := true) (dt_cmp (de_name 12 rfl rfl (.inl (by kernel_rfl))) de_non o_notN) (fun _ => (dw_and1 (dt_ahead hu (de_ix (d := ds l.other) (de_name 10 rfl rfl (.inl (by kernel_rfl))) de_int (ix_t rfl)) (de_name 5 rfl rfl (.inl (by kernel_rfl))) (de_name 12 rfl rfl (.inl (by kernel_rfl))) (de_name 5 rfl rfl (.inl (by kernel_rfl))) (de_ix (d := ds l.other) (de_name 10 rfl rfl (.inl (by kernel_rfl))) de_int (ix_t rfl)) (by kernel_rfl) (by kernel_rfl) (fun _ _ => rfl))))) (Bool.true_and _))) (fun h => ?_) (fun h => dss_nil ⟨_, _, _, rfl, ?_⟩))
        · refine dss_one (ds_dput hu 6 rfl rfl (evh (de_ix (d := ds l.other) (de_name 10 rfl rfl (.inl (by kernel_rfl))) de_int (ix_t rfl))) (evh (de_min2 rfl (by kernel_rfl) T.b_min (da_cons (de_name 12 rfl rfl (.inl (by kernel_rfl))) (da_cons (de_dget2 hu (de_name 6 rfl rfl (.inl (by kernel_rfl))) (de_ix (d := ds l.other) (de_name 10 rfl rfl (.inl (by kernel_rfl))) de_int (ix_t rfl)) (de_name 12 rfl rfl (.inl (by kernel_rfl)))) da_nil)))) (small (m := 24) (Nat.le_trans I3.wl pl)) ⟨_, _, _, rfl, ?_⟩ rfl (.inl (by kernel_rfl)))
          rw [htk]; unfold relax1; rw [he]; simp only [h, if_true]; rfl
        · rw [htk]; unfold relax1; rw [he]; simp only [h, Bool.false_eq_true, if_false]
    · obtain ⟨x, y, z, rfl, rfl⟩ := iv
      rw [pairs_zip, List.length_map, List.take_length]
      exact ⟨((_, _), _, _, _, _, _), ⟨I2.relaxs hm0 _ _ hlr, k, hk, by show muF L (setK fd p m) < k; have hμ' : muF L fd < k + 1 := hμ; omega⟩, hμ2, rfl, rfl⟩
  · obtain ⟨⟨wt, fd⟩, j8, j9, j10, j11, j12⟩ := x
    obtain ⟨I, k, hk, hμ⟩ := ia
    have hb : (!wt.isEmpty) = false := hb
    have : wt = [] := by cases wt with
      | nil => rfl
      | cons q wt => cases hb
    subst this
    have hk : spreadGo L w (leastK br) (L.links.zip ns) k [] fd = spreadM L w st br ns := hk
    rw [spreadGo_nil] at hk
    show DSs _ _ [.d (landD L), .d (weaD w), .d (rowsD st), .d (rowsD br), .d (numsD ns), .d (.dic (leastK br)), .c 0, .c 1, j8, j9, j10, j11, j12] [.dat (.dic []), .dat (.dic fd)] _
    refine dss_one (ds_retC 7 rfl rfl ?_ rfl (.inl (by kernel_rfl)))
    show RV.new (.dic fd) = RV.new (.dic (spreadM L w st br ns))
    rw [hk]
end Ef
set_option maxRecDepth 100000
set_option maxHeartbeats 4000000
/-! Ge: papers: labels_of, step_back, chain_to, Paper. -/
namespace Ef
open PySem L2 C8 RZ PyProof.Rows PySem.Spec PySem.W
variable {P : Program} {w : World} {K : PySem.W.Frag} {mg : Str → Option Value} {base : Heap}
/-- a question about a land, in order -/
structure Ok4 (L : LandM) (w : Wea) (st br : Rows) : Prop where
  wea : WeaOk L w
  fit : Fits L
  one : ∀ l ∈ L.links, l.one ∈ L.places
  other : ∀ l ∈ L.links, l.other ∈ L.places
  names : (L.links.map (·.name)).Nodup
  stIn : ∀ r ∈ st, r.1 ∈ L.places
  brIn : ∀ r ∈ br, r.1 ∈ L.places
  st0 : ∀ r ∈ st, 0 ≤ r.2
  sl : st.length ≤ 1000
  bl : br.length ≤ 1000
def nonneg (d : Dic) : Prop := ∀ k v, getK d k = some v → 0 ≤ v
/-! ### Paper -/
def R_Paper (ds' : List D) (fs : List (Str × D)) : Prop := ∃ t : Told, ds' = [ds t.word, rowsD t.labels, chainD t.chain] ∧ t.labels.length ≤ 20000 ∧ t.chain.length ≤ 20000 ∧ fs = paperF t
theorem idMap {α : Type} (f : α → D) (xs : List α) : ((xs.map f).filter fun _ => true).map (fun d => d) = xs.map f := by rw [filtT, List.map_id']
theorem ok_Paper (T : Tx K mg) : ∃ fd, FnOk P w K mg base L2.CX0 1 (He.ma K (He.ga K "Paper") "__init__") fd P_Paper___init__ (spI K "Paper" R_Paper) ∧ Binds K fd P_Paper___init__ [] := by
  obtain ⟨fd, Fd⟩ := T.i_Paper
  refine ⟨fd, def_I Fd sc_Paper___init__ (fun ds d ⟨t, e, _⟩ => by rw [e]; rfl) ?_, Fd.bindsN (fun _ _ _ _ _ _ us hl => match us, hl with | [_, _, _, _], _ => rfl)⟩
  rintro cdv A outer s H E _ _ y ⟨t, rfl, hl, hc, rfl⟩ hr
  have nd := (sc_Paper___init__).nd
  show DSs _ (defBody s_Paper___init__) [.c 0, .d (ds t.word), .d (rowsD t.labels), .d (chainD t.chain), .un] [.at y (.obj "Paper" [])] _
  refine dss_cons (ds_fld 0 rfl rfl (d := ds t.word) (ev (de_name 1 rfl rfl (.inl (by kernel_rfl)))) (by kernel_rfl) (by simp) T.cl_Paper T.na_word ?_ rfl (.inl (by kernel_rfl)))
  refine dss_cons (ds_fld 0 rfl rfl (d := rowsD t.labels) (ev (DE.is (DN.de (dn_lc (its := t.labels.map rowD) (own := [("row", 4)]) (asg := asgA 4) (keep := fun _ => true) (g := fun d => d) rfl nd (di_list (de_name 2 rfl rfl (.inl (by kernel_rfl)))) (blkOk_by (by kernel_rfl)) (by rw [List.length_map]; exact small hl) (fun s H C cl fp i d hd => ?_))) (by rw [idMap]; rfl))) (by kernel_rfl) (by simp) T.cl_Paper T.na_labels ?_ rfl (.inl (by kernel_rfl)))
  · obtain ⟨r, hr, rfl⟩ := map_get hd
    exact ⟨(dg_name 4 nd rfl (.inl (by kernel_rfl)) (.inr (by kernel_rfl))), by simp [asgA], dts_nil, fun _ => (de_tupT (by kernel_rfl) T.b_tuple (da_cons (de_name 4 rfl rfl (.inl (by kernel_rfl))) da_nil))⟩
  refine dss_one (ds_fld 0 rfl rfl (d := chainD t.chain) (ev (DE.is (DN.de (dn_lc (its := t.chain.map chD) (own := [("row", 4)]) (asg := asgA 4) (keep := fun _ => true) (g := fun d => d) rfl nd (di_list (de_name 3 rfl rfl (.inl (by kernel_rfl)))) (blkOk_by (by kernel_rfl)) (by rw [List.length_map]; exact small hc) (fun s H C cl fp i d hd => ?_))) (by rw [idMap]; rfl))) (by kernel_rfl) (by simp) T.cl_Paper T.na_chain rfl rfl (.inl (by kernel_rfl)))
  obtain ⟨r, hr, rfl⟩ := map_get hd
  exact ⟨(dg_name 4 nd rfl (.inl (by kernel_rfl)) (.inr (by kernel_rfl))), by simp [asgA], dts_nil, fun _ => (de_tupT (by kernel_rfl) T.b_tuple (da_cons (de_name 4 rfl rfl (.inl (by kernel_rfl))) da_nil))⟩
/-! ### labels_of -/
def labelsM (L : LandM) (fd : Dic) : Rows := (L.places.filter fun p => (getK fd p).isSome).map fun p => (p, (getK fd p).getD 0)
def R_labels_of (ds' : List D) (d : D) : Prop := ∃ (L : LandM) (fd : Dic), ds' = [landD L, .dic fd] ∧ L.places.length ≤ 1000 ∧ d = rowsD (labelsM L fd)
def keepL (fd : Dic) : D → Bool
  | .v (.str p) => (getK fd p).isSome
  | _ => false
def gL (fd : Dic) : D → D
  | .v (.str p) => .tup [ds p, di ((getK fd p).getD 0)]
  | d => d
theorem ok_labels_of (T : Tx K mg) : Cal P w K mg base 1 "labels_of" (spN K R_labels_of) [] := by
  refine calN T.f_labels_of sc_labels_of (fun ds d ⟨L, w, e, _⟩ => by rw [e]; rfl) (fun _ _ _ _ _ _ us hl => match us, hl with | [_, _], _ => rfl) ?_
  rintro cdv f A outer s H E _ _ ⟨L, fd, rfl, hl, rfl⟩ hr
  have nd := (sc_labels_of).nd
  have hu := hu_of hr
  show DSs _ (defBody s_labels_of) [.d (landD L), .d (.dic fd), .un] [] _
  have e : (((L.places.map ds).filter (keepL fd)).map (gL fd)) = (labelsM L fd).map rowD := by
    rw [filt_map ds (keepL fd) (fun p => (getK fd p).isSome) (fun _ => rfl), List.map_map]
    unfold labelsM
    rw [List.map_map]; rfl
  refine dss_one (ds_retN (en (dn_lc (its := L.places.map ds) (own := [("place", 2)]) (asg := asgA 2) (keep := keepL fd) (g := gL fd) rfl nd (di_tup (de_fld (de_name 0 rfl rfl (.inl (by kernel_rfl))) rfl T.cl_Land T.na_places)) (blkOk_by (by kernel_rfl)) (by rw [List.length_map]; exact small hl) (fun s H C cl fp i d hd => ?_))) (by rw [e]; rfl))
  obtain ⟨p, hp, rfl⟩ := map_get hd
  refine ⟨(dg_name 2 nd rfl (.inl (by kernel_rfl)) (.inr (by kernel_rfl))), by simp [asgA], (dts_one (dt_din hu (de_name 2 rfl rfl (.inl (by kernel_rfl))) (de_name 1 rfl rfl (.inr (.inl (by kernel_rfl)))))), fun h => (de_tup (da_cons (de_name 2 rfl rfl (.inl (by kernel_rfl))) (da_cons (de_dget hu (de_name 1 rfl rfl (.inr (.inl (by kernel_rfl)))) (de_name 2 rfl rfl (.inl (by kernel_rfl))) ?_) da_nil)))⟩
  have h : (getK fd p).isSome = true := h
  cases q : getK fd p with
  | none => rw [q] at h; cases h
  | some v => rfl
/-! ### step_back -/
def backP (L : LandM) (w : Wea) (fd : Dic) (p : Str) (lr : LinkR) : Bool := decide (lr.1.other = p) && ((getK fd lr.1.one).isSome && decide (caughtM L w lr.2 ((getK fd lr.1.one).getD 0) = getK fd p))
def backM (L : LandM) (w : Wea) (ns : List (List (Option Int))) (fd : Dic) (p : Str) : Option LinkR := (L.links.zip ns).find? (backP L w fd p)
def optL : Option LinkR → D
  | none => dn
  | some lr => linkD lr.1
def R_step_back (ds' : List D) (d : D) : Prop := ∃ (L : LandM) (w : Wea) (ns : List (List (Option Int))) (fd : Dic) (p : Str), ds' = [landD L, weaD w, numsD ns, .dic fd, ds p] ∧ WeaOk L w ∧ NumsOk L ns ∧ nonneg fd ∧ (getK fd p).isSome = true ∧ d = optL (backM L w ns fd p)
theorem dec_optI (x : Option Int) (i : Int) : ∀ y, optI x = .v y → decide (y = V.int i) = decide (x = some i) := by
  intro y h
  cases x with
  | none => cases h; rfl
  | some j =>
    cases h
    by_cases z : j = i
    · subst z; rw [decide_eq_true rfl, decide_eq_true rfl]
    · rw [decide_eq_false (fun e => z (V.int.inj e)), decide_eq_false (fun e => z (Option.some.inj e))]
theorem o_eqO {X : Cx} {x : Option Int} {i : Int} : OpD X (compareOp .Eq) (optI x) (di i) (db (decide (x = some i))) := by
  cases x with
  | none =>
    have h : OpD X (compareOp .Eq) (.v .non) (.v (.int i)) (db (decide (V.non = V.int i))) := o_eq
    rwa [dec_optI none i .non rfl] at h
  | some j =>
    have h : OpD X (compareOp .Eq) (.v (.int j)) (.v (.int i)) (db (decide (V.int j = V.int i))) := o_eq
    rwa [dec_optI (some j) i (.int j) rfl] at h
theorem o_neO {X : Cx} {x : Option Int} {i : Int} : OpD X (compareOp .NotEq) (optI x) (di i) (db (!decide (x = some i))) := by
  cases x with
  | none =>
    have h : OpD X (compareOp .NotEq) (.v .non) (.v (.int i)) (db (!decide (V.non = V.int i))) := o_ne
    rwa [dec_optI none i .non rfl] at h
  | some j =>
    have h : OpD X (compareOp .NotEq) (.v (.int j)) (.v (.int i)) (db (!decide (V.int j = V.int i))) := o_ne
    rwa [dec_optI (some j) i (.int j) rfl] at h
theorem find_take {α : Type} {p : α → Bool} : ∀ {l : List α} {i : Nat} {y : α}, l[i]? = some y → (∀ x ∈ l.take i, p x = false) → p y = true → l.find? p = some y
  | [], i, y, h, _, _ => by simp at h
  | a :: l, 0, y, h, _, hy => by
    simp at h; subst h
    rw [List.find?_cons, hy]
  | a :: l, i + 1, y, h, hn, hy => by
    rw [List.find?_cons, hn a (by simp)]
    exact find_take (i := i) (by simpa using h) (fun x hx => hn x (by simp [hx])) hy
theorem ok_step_back (T : Tx K mg) : Cal P w K mg base 3 "step_back" (spD K R_step_back) [] := by
  refine calD T.f_step_back sc_step_back (fun ds d ⟨L, w, a, b, c, e, _⟩ => by rw [e]; rfl) (fun _ _ _ _ _ _ us hl => match us, hl with | [_, _, _, _, _], _ => rfl) ?_
  rintro cdv f A outer s H E _ _ ⟨L, w, ns, fd, p, rfl, hw, hn, h0, hp, rfl⟩ hr
  have nd := (sc_step_back).nd
  have hu := hu_of hr
  obtain ⟨t, ht⟩ := Option.isSome_iff_exists.mp hp
  show DSs _ (defBody s_step_back) [.d (landD L), .d (weaD w), .d (numsD ns), .d (.dic fd), .d (ds p), .un, .un] [] _
  refine dss_cons (ds_for (asg := asg1 5 6) (its := pairs (L.links.map linkD) (ns.map numD)) (fun i ρ cs => (∀ x ∈ (L.links.zip ns).take i, backP L w fd p x = false) ∧ ∃ x y, ρ = [.d (landD L), .d (weaD w), .d (numsD ns), .d (.dic fd), .d (ds p), x, y] ∧ cs = []) PassesOwn.never rfl (ei (di_zipT (by kernel_rfl) T.b_zip (da_cons (de_fld (de_name 0 rfl rfl (.inl (by kernel_rfl))) rfl T.cl_Land T.na_links) (da_cons (de_name 2 rfl rfl (.inl (by kernel_rfl))) da_nil)))) ⟨fun x hx => (by cases hx), _, _, rfl, rfl⟩ (fun i d ρ cs hd iv => ?_) (fun ρ cs iv => ?_))
  · obtain ⟨hno, x, y, rfl, rfl⟩ := iv
    rw [pairs_zip] at hd
    obtain ⟨⟨l, n⟩, hln, rfl⟩ := map_get hd
    have hmem := List.of_mem_zip (List.mem_of_getElem? hln)
    refine ⟨(dg_tup rfl (dgs_cons (dg_name 5 nd rfl (.inl (by kernel_rfl)) (.inr (by kernel_rfl))) (dgs_cons (dg_name 6 nd rfl (.inl (by kernel_rfl)) (.inr (by kernel_rfl))) dgs_nil))), ?_⟩
    show DSs _ _ [.d (landD L), .d (weaD w), .d (numsD ns), .d (.dic fd), .d (ds p), .d (linkD l), .d (numD n)] [] _
    refine dss_one (ds_if (ba := backP L w fd p (l, n)) (et (dt_and (dt_cmp (de_ix (d := ds l.other) (de_name 5 rfl rfl (.inl (by kernel_rfl))) de_int (ix_t rfl)) (de_name 4 rfl rfl (.inl (by kernel_rfl))) o_eqS) (fun _ => (dw_and (dt_din hu (de_ix (d := ds l.one) (de_name 5 rfl rfl (.inl (by kernel_rfl))) de_int (ix_t rfl)) (de_name 3 rfl rfl (.inl (by kernel_rfl)))) (fun h => (dw_and1 (DT.is (dt_cmp (de_call (ok_caught T) hr (by kernel_rfl) (da_cons (de_name 0 rfl rfl (.inl (by kernel_rfl))) (da_cons (de_name 1 rfl rfl (.inl (by kernel_rfl))) (da_cons (de_name 6 rfl rfl (.inl (by kernel_rfl))) (da_cons (de_dget (i := (getK fd l.one).getD 0) hu (de_name 3 rfl rfl (.inl (by kernel_rfl))) (de_ix (d := ds l.one) (de_name 5 rfl rfl (.inl (by kernel_rfl))) de_int (ix_t rfl)) ?_) da_nil)))) ⟨L, w, n, _, rfl, hw, hn.row n hmem.2, ?_, rfl⟩) (de_dget (i := t) hu (de_name 3 rfl rfl (.inl (by kernel_rfl))) (de_name 4 rfl rfl (.inl (by kernel_rfl))) ht) o_eqO) (by rw [ht])))))))) (fun h => ?_) (fun h => dss_nil ⟨?_, _, _, rfl, rfl⟩))
    · cases q : getK fd l.one with
      | none => rw [q] at h; cases h
      | some v => rfl
    · cases q : getK fd l.one with
      | none => rw [q] at h; cases h
      | some v => exact h0 _ _ q
    · refine dss_one (ds_ret (d := linkD l) (ev (de_name 5 rfl rfl (.inl (by kernel_rfl)))) (.inl ?_))
      unfold backM
      rw [find_take hln hno h]; rfl
    · intro x hx
      rw [take_filter_succ hln] at hx
      rcases List.mem_append.mp hx with hx | hx
      · exact hno x hx
      · rcases List.mem_singleton.mp hx with rfl; exact h
  · obtain ⟨hno, x, y, rfl, rfl⟩ := iv
    rw [pairs_zip, List.length_map, List.take_length] at hno
    refine dss_one (ds_ret (d := dn) (ev de_non) (.inl ?_))
    have : backM L w ns fd p = none := List.find?_eq_none.mpr fun x hx => by rw [hno x hx]; exact Bool.false_ne_true
    rw [this]; rfl
/-! ### chain_to -/
def rowOf (fd : Dic) (p : Str) (n : Option Str) : RowC := (p, n, (getK fd p).getD 0)
def chainGo (L : LandM) (w : Wea) (ns : List (List (Option Int))) (begun fd : Dic) : Nat → Str → List RowC → List RowC
  | 0, p, acc => (acc ++ [rowOf fd p none]).reverse
  | n + 1, p, acc => if getK begun p = getK fd p then (acc ++ [rowOf fd p none]).reverse else match backM L w ns fd p with
    | none => (acc ++ [rowOf fd p none]).reverse
    | some lr => chainGo L w ns begun fd n lr.1.one (acc ++ [rowOf fd p (some lr.1.name)])
def chainM (L : LandM) (w : Wea) (st : Rows) (ns : List (List (Option Int))) (fd : Dic) (p : Str) : List RowC := chainGo L w ns (leastK st) fd (((getK fd p).getD 0).toNat + 1) p []
def below (d : Dic) : Prop := ∀ k v, getK d k = some v → v < 900
def Just (L : LandM) (w : Wea) (ns : List (List (Option Int))) (begun fd : Dic) : Prop := ∀ p t, getK fd p = some t → getK begun p = some t ∨ (backM L w ns fd p).isSome = true
def R_chain_to (ds' : List D) (d : D) : Prop := ∃ (L : LandM) (w : Wea) (st : Rows) (ns : List (List (Option Int))) (fd : Dic) (p : Str), ds' = [landD L, weaD w, rowsD st, numsD ns, .dic fd, ds p] ∧ WeaOk L w ∧ NumsOk L ns ∧ st.length ≤ 1000 ∧ nonneg fd ∧ below fd ∧ Just L w ns (leastK st) fd ∧ (getK fd p).isSome = true ∧ d = chainD (chainM L w st ns fd p)
theorem back_spec {L : LandM} {w : Wea} {ns : List (List (Option Int))} {fd : Dic} {p : Str} {lr : LinkR} (hn : NumsOk L ns) {t : Int} (ht : getK fd p = some t) (h : backM L w ns fd p = some lr) : lr ∈ L.links.zip ns ∧ lr.1.other = p ∧ ∃ t1, getK fd lr.1.one = some t1 ∧ caughtM L w lr.2 t1 = some t ∧ t1 < t := by
  have h1 := List.find?_some h
  have h2 := List.mem_of_find?_eq_some h
  unfold backP at h1
  rw [Bool.and_eq_true_iff, Bool.and_eq_true_iff] at h1
  obtain ⟨a, b, c⟩ := h1
  refine ⟨h2, of_decide_eq_true a, ?_⟩
  obtain ⟨t1, e⟩ := Option.isSome_iff_exists.mp b
  have c := of_decide_eq_true c
  rw [e, ht] at c
  exact ⟨t1, e, c, caught_gt (fun v hv => hn.pos lr.2 (List.of_mem_zip (show (lr.1, lr.2) ∈ _ from h2)).2 v hv) c⟩
theorem ok_chain_to (T : Tx K mg) : Cal P w K mg base 4 "chain_to" (spN K R_chain_to) [] := by
  refine calN T.f_chain_to sc_chain_to (fun ds d ⟨L, w, a, b, c, e, f, _⟩ => by rw [f]; rfl) (fun _ _ _ _ _ _ us hl => match us, hl with | [_, _, _, _, _, _], _ => rfl) ?_
  rintro cdv f A outer s H E _ _ ⟨L, w, st, ns, fd, p, rfl, hw, hn, hsl, h0, hb, hj, hp, rfl⟩ hr
  have nd := (sc_chain_to).nd
  have hu := hu_of hr
  show DSs _ (defBody s_chain_to) [.d (landD L), .d (weaD w), .d (rowsD st), .d (numsD ns), .d (.dic fd), .d (ds p), .un, .un, .un] [] _
  refine dss_cons (ds_set 6 (d := .dic (leastK st)) (ev (DN.de (dn_call (ok_least_minutes T) hr (by kernel_rfl) (da_cons (de_name 2 rfl rfl (.inl (by kernel_rfl))) da_nil) ⟨st, rfl, hsl, rfl⟩))) ?_ nd rfl (.inl (by kernel_rfl)) (.inr (by kernel_rfl)))
  refine dss_cons (ds_setN 7 (en (dn_lst da_nil)) ?_ nd rfl (.inl (by kernel_rfl)) (.inr (by kernel_rfl)))
  show DSs _ _ [.d (landD L), .d (weaD w), .d (rowsD st), .d (numsD ns), .d (.dic fd), .d (ds p), .d (.dic (leastK st)), .c 0, .un] [.dat (.lst [])] _
  refine dss_cons (ds_while (α := (Str × List RowC) × SD) (fun x => [.d (landD L), .d (weaD w), .d (rowsD st), .d (numsD ns), .d (.dic fd), .d (ds x.1.1), .d (.dic (leastK st)), .c 0, x.2]) (fun x => [.dat (.lst (x.1.2.map chD))])
    (fun x => (getK fd x.1.1).isSome = true ∧ x.1.2.length + ((getK fd x.1.1).getD 0).toNat ≤ 10000 ∧ ∃ k, chainGo L w ns (leastK st) fd k x.1.1 x.1.2 = chainM L w st ns fd p ∧ ((getK fd x.1.1).getD 0).toNat < k) (fun x => ((getK fd x.1.1).getD 0).toNat) (fun x => !decide (getK (leastK st) x.1.1 = some ((getK fd x.1.1).getD 0))) ((p, []), .un) PassesOwn.never ?_ (fun x ia => ?_) (fun x ia hb => ?_) (fun x ia hb => ?_))
  · obtain ⟨t, ht⟩ := Option.isSome_iff_exists.mp hp
    refine ⟨hp, ?_, _, rfl, Nat.lt_succ_self _⟩
    show 0 + ((getK fd p).getD 0).toNat ≤ 10000
    rw [ht]
    have := hb p t ht
    show 0 + t.toNat ≤ 10000
    omega
  · obtain ⟨⟨q, acc⟩, j⟩ := x
    obtain ⟨t, ht⟩ := Option.isSome_iff_exists.mp ia.1
    have ht : getK fd q = some t := ht
    show ET _ _ [.d (landD L), .d (weaD w), .d (rowsD st), .d (numsD ns), .d (.dic fd), .d (ds q), .d (.dic (leastK st)), .c 0, j] _ (!decide (getK (leastK st) q = some ((getK fd q).getD 0)))
    refine et (dt_cmp (da := optI (getK (leastK st) q)) (DE.is (de_dget1 hu (de_name 6 rfl rfl (.inl (by kernel_rfl))) (de_name 5 rfl rfl (.inl (by kernel_rfl)))) ?_) (de_dget (i := (getK fd q).getD 0) hu (de_name 4 rfl rfl (.inl (by kernel_rfl))) (de_name 5 rfl rfl (.inl (by kernel_rfl))) (by rw [ht]; rfl)) o_neO)
    cases getK (leastK st) q <;> rfl
  · obtain ⟨⟨q, acc⟩, j⟩ := x
    obtain ⟨ia1, ia2, k, hk, hlt⟩ := ia
    obtain ⟨t, ht⟩ := Option.isSome_iff_exists.mp ia1
    have ht : getK fd q = some t := ht
    have hb : (!decide (getK (leastK st) q = some ((getK fd q).getD 0))) = true := hb
    rw [ht] at hb
    have hne : ¬ getK (leastK st) q = some t := fun e => by rw [show (some t).getD 0 = t from rfl, decide_eq_true e] at hb; cases hb
    have hbk : (backM L w ns fd q).isSome = true := (hj q t ht).resolve_left hne
    obtain ⟨⟨l, n⟩, hlr⟩ := Option.isSome_iff_exists.mp hbk
    obtain ⟨hmem, ho, t1, ht1, hc, hlt1⟩ := back_spec hn ht hlr
    have ht1 : getK fd l.one = some t1 := ht1
    have h01 := h0 _ _ ht1
    have ia2 : acc.length + ((getK fd q).getD 0).toNat ≤ 10000 := ia2
    have hlt : ((getK fd q).getD 0).toNat < k := hlt
    rw [ht] at ia2 hlt
    have ia2 : acc.length + t.toNat ≤ 10000 := ia2
    have hlt : t.toNat < k := hlt
    have hk : chainGo L w ns (leastK st) fd k q acc = chainM L w st ns fd p := hk
    cases k with
    | zero => exact absurd hlt (Nat.not_lt_zero _)
    | succ k =>
    unfold chainGo at hk
    rw [if_neg (by rw [ht]; exact hne), hlr] at hk
    have hk : chainGo L w ns (leastK st) fd k l.one (acc ++ [rowOf fd q (some l.name)]) = chainM L w st ns fd p := hk
    show DSs _ _ [.d (landD L), .d (weaD w), .d (rowsD st), .d (numsD ns), .d (.dic fd), .d (ds q), .d (.dic (leastK st)), .c 0, j] [.dat (.lst (acc.map chD))] _
    refine dss_cons (ds_set 8 (d := linkD l) (ev (de_call (ok_step_back T) hr (by kernel_rfl) (da_cons (de_name 0 rfl rfl (.inl (by kernel_rfl))) (da_cons (de_name 1 rfl rfl (.inl (by kernel_rfl))) (da_cons (de_name 3 rfl rfl (.inl (by kernel_rfl))) (da_cons (de_name 4 rfl rfl (.inl (by kernel_rfl))) (da_cons (de_name 5 rfl rfl (.inl (by kernel_rfl))) da_nil))))) ⟨L, w, ns, fd, q, rfl, hw, hn, h0, by rw [ht]; rfl, by rw [hlr]; rfl⟩)) ?_ nd rfl (.inl (by kernel_rfl)) (.inr (by kernel_rfl)))
    show DSs _ _ [.d (landD L), .d (weaD w), .d (rowsD st), .d (numsD ns), .d (.dic fd), .d (ds q), .d (.dic (leastK st)), .c 0, .d (linkD l)] [.dat (.lst (acc.map chD))] _
    refine dss_cons (ds_append 7 rfl rfl (d := chD (rowOf fd q (some l.name))) (ev (de_tup (da_cons (de_name 5 rfl rfl (.inl (by kernel_rfl))) (da_cons (de_ix (d := ds l.name) (de_name 8 rfl rfl (.inl (by kernel_rfl))) de_int (ix_t rfl)) (da_cons (de_dget (i := (getK fd q).getD 0) hu (de_name 4 rfl rfl (.inl (by kernel_rfl))) (de_name 5 rfl rfl (.inl (by kernel_rfl))) (by rw [ht]; rfl)) da_nil))))) (by rw [List.length_map]; exact small (m := 10000) (by omega)) ?_ rfl (.inl (by kernel_rfl)))
    refine dss_one (ds_set 5 (d := ds l.one) (ev (de_ix (de_name 8 rfl rfl (.inl (by kernel_rfl))) de_int (ix_t rfl))) ?_ nd rfl (.inl (by kernel_rfl)) (.inr (by kernel_rfl)))
    refine ⟨((l.one, acc ++ [rowOf fd q (some l.name)]), _), ⟨by rw [ht1]; rfl, ?_, k, hk, ?_⟩, ?_, rfl, ?_⟩
    · show (acc ++ [rowOf fd q (some l.name)]).length + ((getK fd l.one).getD 0).toNat ≤ 10000
      rw [ht1, List.length_append]
      show acc.length + 1 + t1.toNat ≤ 10000
      omega
    · show ((getK fd l.one).getD 0).toNat < k
      rw [ht1]; show t1.toNat < k; omega
    · show ((getK fd l.one).getD 0).toNat < ((getK fd q).getD 0).toNat
      rw [ht1, ht]; show t1.toNat < t.toNat; omega
    · show [CD.dat (.lst (acc.map chD ++ [_]))] = [CD.dat (.lst ((acc ++ [rowOf fd q (some l.name)]).map chD))]
      rw [List.map_append]; rfl
  · obtain ⟨⟨q, acc⟩, j⟩ := x
    obtain ⟨ia1, ia2, k, hk, hlt⟩ := ia
    obtain ⟨t, ht⟩ := Option.isSome_iff_exists.mp ia1
    have ht : getK fd q = some t := ht
    have hb : (!decide (getK (leastK st) q = some ((getK fd q).getD 0))) = false := hb
    rw [ht] at hb
    have heq : getK (leastK st) q = some t := by
      by_cases e : getK (leastK st) q = some t
      · exact e
      · rw [show (some t).getD 0 = t from rfl, decide_eq_false e] at hb; cases hb
    have hk : chainGo L w ns (leastK st) fd k q acc = chainM L w st ns fd p := hk
    have hk2 : chainM L w st ns fd p = (acc ++ [rowOf fd q none]).reverse := by
      rw [← hk]
      cases k with
      | zero => rfl
      | succ k => unfold chainGo; rw [if_pos (by rw [ht]; exact heq)]
    have ia2 : acc.length + ((getK fd q).getD 0).toNat ≤ 10000 := ia2
    show DSs _ _ [.d (landD L), .d (weaD w), .d (rowsD st), .d (numsD ns), .d (.dic fd), .d (ds q), .d (.dic (leastK st)), .c 0, j] [.dat (.lst (acc.map chD))] _
    refine dss_cons (ds_append 7 rfl rfl (d := chD (rowOf fd q none)) (ev (de_tup (da_cons (de_name 5 rfl rfl (.inl (by kernel_rfl))) (da_cons de_non (da_cons (de_dget (i := (getK fd q).getD 0) hu (de_name 4 rfl rfl (.inl (by kernel_rfl))) (de_name 5 rfl rfl (.inl (by kernel_rfl))) (by rw [ht]; rfl)) da_nil))))) (by rw [List.length_map]; exact small (m := 10000) (by omega)) ?_ rfl (.inl (by kernel_rfl)))
    refine dss_one (ds_retN (enh (dn_rev (xs := acc.map chD ++ [chD (rowOf fd q none)]) (de_name 7 rfl rfl (.inl (by kernel_rfl)))) ?_) ?_)
    · refine pures_all fun d hd => ?_
      rw [List.mem_reverse] at hd
      rcases List.mem_append.mp hd with hd | hd
      · obtain ⟨r, _, rfl⟩ := List.mem_map.mp hd
        obtain ⟨a, b, c⟩ := r
        cases b <;> rfl
      · rcases List.mem_singleton.mp hd with rfl; rfl
    · show RV.new (.lst _) = RV.new (chainD _)
      rw [hk2]
      unfold chainD
      rw [← List.map_reverse.symm, List.map_append]; rfl
end Ef
set_option maxRecDepth 100000
set_option maxHeartbeats 4000000
/-! Gf: paper; least_labels, are_closed. -/
namespace Ef
open PySem L2 C8 RZ PyProof.Rows PySem.Spec PySem.W
variable {P : Program} {w : World} {K : PySem.W.Frag} {mg : Str → Option Value} {base : Heap}
structure Good (L : LandM) (w : Wea) (st br : Rows) (ns : List (List (Option Int))) : Prop where
  nums : NumsOk L ns
  nn : nonneg (spreadM L w st br ns)
  bl : below (spreadM L w st br ns)
  ju : Just L w ns (leastK st) (spreadM L w st br ns)
def paperM (L : LandM) (w : Wea) (st br : Rows) (p : Str) : Told :=
  match getK (spreadM L w st br (leastN L)) p with
  | none => ⟨"never", labelsM L (spreadM L w st br (leastN L)), []⟩
  | some _ => match getK (spreadM L w st br (mostN L)) p with
    | none => ⟨"maybe", labelsM L (spreadM L w st br (mostN L)), chainM L w st (leastN L) (spreadM L w st br (leastN L)) p⟩
    | some _ => ⟨"surely", [], chainM L w st (mostN L) (spreadM L w st br (mostN L)) p⟩
def R_paper (ds' : List D) (d : D) : Prop := ∃ (L : LandM) (w : Wea) (st br : Rows) (p : Str), ds' = [landD L, weaD w, rowsD st, rowsD br, ds p] ∧ Ok4 L w st br ∧ p ∈ L.places ∧ Good L w st br (leastN L) ∧ Good L w st br (mostN L) ∧ d = paperD (paperM L w st br p)
theorem chainGo_len (L : LandM) (w : Wea) (ns : List (List (Option Int))) (begun fd : Dic) : ∀ (k : Nat) (p : Str) (acc : List RowC), (chainGo L w ns begun fd k p acc).length ≤ acc.length + k + 1
  | 0, p, acc => by unfold chainGo; rw [List.length_reverse, List.length_append]; exact Nat.le_refl _
  | k + 1, p, acc => by
    unfold chainGo
    split
    · rw [List.length_reverse, List.length_append]; show acc.length + 1 ≤ _; omega
    · split
      · rw [List.length_reverse, List.length_append]; show acc.length + 1 ≤ _; omega
      · rename_i lr _
        have := chainGo_len L w ns begun fd k lr.1.one (acc ++ [rowOf fd p (some lr.1.name)])
        rw [List.length_append] at this
        have h1 : [rowOf fd p (some lr.1.name)].length = 1 := rfl
        omega
theorem chainM_len {L : LandM} {w : Wea} {st : Rows} {ns : List (List (Option Int))} {fd : Dic} {p : Str} (hb : below fd) : (chainM L w st ns fd p).length ≤ 1000 := by
  have h := chainGo_len L w ns (leastK st) fd (((getK fd p).getD 0).toNat + 1) p []
  unfold chainM
  cases e : getK fd p with
  | none => rw [e] at h; exact Nat.le_trans h (by decide)
  | some t =>
    have := hb p t e
    rw [e] at h
    have h : (chainGo L w ns (leastK st) fd (t.toNat + 1) p []).length ≤ 0 + (t.toNat + 1) + 1 := h
    show (chainGo L w ns (leastK st) fd (t.toNat + 1) p []).length ≤ _
    omega
theorem labelsM_len (L : LandM) (fd : Dic) : (labelsM L fd).length ≤ L.places.length := by unfold labelsM; rw [List.length_map]; exact List.length_filter_le _ _
theorem opt_get (fd : Dic) (p : Str) : D.v (((getK fd p).map V.int).getD .non) = optI (getK fd p) := by cases getK fd p <;> rfl
theorem ok_paper (T : Tx K mg) : Cal P w K mg base 5 "paper" (spN K R_paper) [] := by
  refine calN T.f_paper sc_paper (fun ds d ⟨L, w, a, b, c, e, _⟩ => by rw [e]; rfl) (fun _ _ _ _ _ _ us hl => match us, hl with | [_, _, _, _, _], _ => rfl) ?_
  rintro cdv f A outer s H E _ _ ⟨L, w, st, br, p, rfl, o, hp, g1, g2, rfl⟩ hr
  have nd := (sc_paper).nd
  have hu := hu_of hr
  obtain ⟨fdP, okP, bP⟩ := ok_Paper (P := P) (base := base) T
  show DSs _ (defBody s_paper) [.d (landD L), .d (weaD w), .d (rowsD st), .d (rowsD br), .d (ds p), .un, .un, .un] [] _
  refine dss_cons (ds_expr (d := dn) (ev (de_call (ok_check_fire_at T) hr (by kernel_rfl) (da_cons (de_name 0 rfl rfl (.inl (by kernel_rfl))) (da_cons (de_name 1 rfl rfl (.inl (by kernel_rfl))) (da_cons (de_name 2 rfl rfl (.inl (by kernel_rfl))) (da_cons (de_name 3 rfl rfl (.inl (by kernel_rfl))) (da_cons (de_name 4 rfl rfl (.inl (by kernel_rfl))) da_nil))))) ⟨L, w, st, br, p, rfl, ⟨o.wea, o.stIn, o.brIn, hp⟩, rfl⟩)) ?_)
  refine dss_cons (ds_set 5 (d := .dic (spreadM L w st br (leastN L))) (ev (DN.de (dn_call (ok_spread T) hr (by kernel_rfl) (da_cons (de_name 0 rfl rfl (.inl (by kernel_rfl))) (da_cons (de_name 1 rfl rfl (.inl (by kernel_rfl))) (da_cons (de_name 2 rfl rfl (.inl (by kernel_rfl))) (da_cons (de_name 3 rfl rfl (.inl (by kernel_rfl))) (da_cons (de_call (ok_least_numbers T) hr (by kernel_rfl) (da_cons (de_name 0 rfl rfl (.inl (by kernel_rfl))) da_nil) ⟨L, rfl, o.fit, rfl⟩) da_nil))))) ⟨L, w, st, br, leastN L, rfl, o.wea, o.fit, o.other, g1.nums, o.stIn, o.st0, o.sl, o.bl, rfl⟩))) ?_ nd rfl (.inl (by kernel_rfl)) (.inr (by kernel_rfl)))
  refine dss_cons (ds_set 6 (d := .dic (spreadM L w st br (mostN L))) (ev (DN.de (dn_call (ok_spread T) hr (by kernel_rfl) (da_cons (de_name 0 rfl rfl (.inl (by kernel_rfl))) (da_cons (de_name 1 rfl rfl (.inl (by kernel_rfl))) (da_cons (de_name 2 rfl rfl (.inl (by kernel_rfl))) (da_cons (de_name 3 rfl rfl (.inl (by kernel_rfl))) (da_cons (de_call (ok_most_numbers T) hr (by kernel_rfl) (da_cons (de_name 0 rfl rfl (.inl (by kernel_rfl))) da_nil) ⟨L, rfl, o.fit, rfl⟩) da_nil))))) ⟨L, w, st, br, mostN L, rfl, o.wea, o.fit, o.other, g2.nums, o.stIn, o.st0, o.sl, o.bl, rfl⟩))) ?_ nd rfl (.inl (by kernel_rfl)) (.inr (by kernel_rfl)))
  show DSs _ _ [.d (landD L), .d (weaD w), .d (rowsD st), .d (rowsD br), .d (ds p), .d (.dic (spreadM L w st br (leastN L))), .d (.dic (spreadM L w st br (mostN L))), .un] [] _
  refine dss_cons (ds_set 7 (d := ds (wordM (getK (spreadM L w st br (leastN L)) p) (getK (spreadM L w st br (mostN L)) p))) (ev (de_call (ok_word_of T) hr (by kernel_rfl) (da_cons (de_dget1 hu (de_name 5 rfl rfl (.inl (by kernel_rfl))) (de_name 4 rfl rfl (.inl (by kernel_rfl)))) (da_cons (de_dget1 hu (de_name 6 rfl rfl (.inl (by kernel_rfl))) (de_name 4 rfl rfl (.inl (by kernel_rfl)))) da_nil)) ⟨_, _, by rw [opt_get, opt_get], rfl⟩)) ?_ nd rfl (.inl (by kernel_rfl)) (.inr (by kernel_rfl)))
  show DSs _ _ [.d (landD L), .d (weaD w), .d (rowsD st), .d (rowsD br), .d (ds p), .d (.dic (spreadM L w st br (leastN L))), .d (.dic (spreadM L w st br (mostN L))), .d (ds _)] [] _
  have pl := o.fit.places
  cases hf : getK (spreadM L w st br (leastN L)) p with
  | none =>
    refine dss_cons (ds_if (ba := true) (et (dt_cmp (de_name 7 rfl rfl (.inl (by kernel_rfl))) de_str o_eqS)) (fun h => ?_) (fun h => by cases h))
    refine dss_one (ds_retN (d := paperD ⟨"never", labelsM L (spreadM L w st br (leastN L)), []⟩) (en (dn_make T.mk_Paper okP hr (by decide) (by kernel_rfl) T.g_Paper bP (da_cons (de_name 7 rfl rfl (.inl (by kernel_rfl))) (da_cons (DN.de (dn_call (ok_labels_of T) hr (by kernel_rfl) (da_cons (de_name 0 rfl rfl (.inl (by kernel_rfl))) (da_cons (de_name 5 rfl rfl (.inl (by kernel_rfl))) da_nil)) ⟨L, _, rfl, by omega, rfl⟩)) (da_cons (DN.de (dn_lst da_nil)) da_nil))) ⟨⟨"never", labelsM L (spreadM L w st br (leastN L)), []⟩, rfl, Nat.le_trans (labelsM_len _ _) (by omega), Nat.zero_le _, rfl⟩)) ?_)
    unfold paperM; rw [hf]
  | some t =>
    refine dss_cons (ds_if (ba := false) (et (DT.is (dt_cmp (de_name 7 rfl rfl (.inl (by kernel_rfl))) de_str o_eqS) ?_)) (fun h => by cases h) (fun h => dss_nil ?_))
    · cases getK (spreadM L w st br (mostN L)) p <;> rfl
    cases hs : getK (spreadM L w st br (mostN L)) p with
    | none =>
      refine dss_cons (ds_if (ba := false) (et (DT.is (dt_cmp (de_name 7 rfl rfl (.inl (by kernel_rfl))) de_str o_eqS) (by rfl))) (fun h => by cases h) (fun h => dss_nil ?_))
      refine dss_one (ds_retN (d := paperD ⟨"maybe", labelsM L (spreadM L w st br (mostN L)), chainM L w st (leastN L) (spreadM L w st br (leastN L)) p⟩) (en (dn_make T.mk_Paper okP hr (by decide) (by kernel_rfl) T.g_Paper bP (da_cons (de_name 7 rfl rfl (.inl (by kernel_rfl))) (da_cons (DN.de (dn_call (ok_labels_of T) hr (by kernel_rfl) (da_cons (de_name 0 rfl rfl (.inl (by kernel_rfl))) (da_cons (de_name 6 rfl rfl (.inl (by kernel_rfl))) da_nil)) ⟨L, _, rfl, by omega, rfl⟩)) (da_cons (DN.de (dn_call (ok_chain_to T) hr (by kernel_rfl) (da_cons (de_name 0 rfl rfl (.inl (by kernel_rfl))) (da_cons (de_name 1 rfl rfl (.inl (by kernel_rfl))) (da_cons (de_name 2 rfl rfl (.inl (by kernel_rfl))) (da_cons (de_call (ok_least_numbers T) hr (by kernel_rfl) (da_cons (de_name 0 rfl rfl (.inl (by kernel_rfl))) da_nil) ⟨L, rfl, o.fit, rfl⟩) (da_cons (de_name 5 rfl rfl (.inl (by kernel_rfl))) (da_cons (de_name 4 rfl rfl (.inl (by kernel_rfl))) da_nil)))))) ⟨L, w, st, leastN L, _, p, rfl, o.wea, g1.nums, o.sl, g1.nn, g1.bl, g1.ju, by rw [hf]; rfl, rfl⟩)) da_nil))) ⟨⟨"maybe", labelsM L (spreadM L w st br (mostN L)), chainM L w st (leastN L) (spreadM L w st br (leastN L)) p⟩, rfl, Nat.le_trans (labelsM_len _ _) (by omega), Nat.le_trans (chainM_len g1.bl) (by decide), rfl⟩)) ?_)
      unfold paperM; rw [hf, hs]
    | some t2 =>
      refine dss_cons (ds_if (ba := true) (et (DT.is (dt_cmp (de_name 7 rfl rfl (.inl (by kernel_rfl))) de_str o_eqS) (by rfl))) (fun h => ?_) (fun h => by cases h))
      refine dss_one (ds_retN (d := paperD ⟨"surely", [], chainM L w st (mostN L) (spreadM L w st br (mostN L)) p⟩) (en (dn_make T.mk_Paper okP hr (by decide) (by kernel_rfl) T.g_Paper bP (da_cons (de_name 7 rfl rfl (.inl (by kernel_rfl))) (da_cons (DN.de (dn_lst da_nil)) (da_cons (DN.de (dn_call (ok_chain_to T) hr (by kernel_rfl) (da_cons (de_name 0 rfl rfl (.inl (by kernel_rfl))) (da_cons (de_name 1 rfl rfl (.inl (by kernel_rfl))) (da_cons (de_name 2 rfl rfl (.inl (by kernel_rfl))) (da_cons (de_call (ok_most_numbers T) hr (by kernel_rfl) (da_cons (de_name 0 rfl rfl (.inl (by kernel_rfl))) da_nil) ⟨L, rfl, o.fit, rfl⟩) (da_cons (de_name 6 rfl rfl (.inl (by kernel_rfl))) (da_cons (de_name 4 rfl rfl (.inl (by kernel_rfl))) da_nil)))))) ⟨L, w, st, mostN L, _, p, rfl, o.wea, g2.nums, o.sl, g2.nn, g2.bl, g2.ju, by rw [hs]; rfl, rfl⟩)) da_nil))) ⟨⟨"surely", [], chainM L w st (mostN L) (spreadM L w st br (mostN L)) p⟩, rfl, by show 0 ≤ _; omega, Nat.le_trans (chainM_len g2.bl) (by decide), rfl⟩)) ?_)
      unfold paperM; rw [hf, hs]
end Ef
set_option maxRecDepth 100000
set_option maxHeartbeats 4000000
/-! Gg: least_labels, are_closed, is_link, is_chain, check_paper. -/
namespace Ef
open PySem L2 C8 RZ PyProof.Rows PySem.Spec PySem.W
variable {P : Program} {w : World} {K : PySem.W.Frag} {mg : Str → Option Value} {base : Heap}
/-! ### least_labels -/
def okLab (L : LandM) (r : Str × Int) : Bool := decide (r.1 ∈ L.places) && !decide (r.2 < 0)
def leastLab (L : LandM) (rs : Rows) : Option Dic := if rs.all (okLab L) then some (leastK rs) else none
def optK : Option Dic → D
  | none => dn
  | some k => .dic k
def R_least_labels (ds' : List D) (d : D) : Prop := ∃ (L : LandM) (rs : Rows), ds' = [landD L, rowsD rs] ∧ rs.length ≤ 1000 ∧ d = optK (leastLab L rs)
theorem ok_least_labels (T : Tx K mg) : Cal P w K mg base 2 "least_labels" (spD K R_least_labels) [] := by
  refine calD T.f_least_labels sc_least_labels (fun ds d ⟨L, w, e, _⟩ => by rw [e]; rfl) (fun _ _ _ _ _ _ us hl => match us, hl with | [_, _], _ => rfl) ?_
  rintro cdv f A outer s H E _ _ ⟨L, rs, rfl, hl, rfl⟩ hr
  have nd := (sc_least_labels).nd
  show DSs _ (defBody s_least_labels) [.d (landD L), .d (rowsD rs), .un, .un] [] _
  refine dss_cons (ds_for (asg := asg1 2 3) (its := rs.map rowD) (fun i ρ cs => (rs.take i).all (okLab L) = true ∧ ∃ x y, ρ = [.d (landD L), .d (rowsD rs), x, y] ∧ cs = []) PassesOwn.never rfl (ei (di_list (de_name 1 rfl rfl (.inl (by kernel_rfl))))) ⟨rfl, _, _, rfl, rfl⟩ (fun i d ρ cs hd iv => ?_) (fun ρ cs iv => ?_))
  · obtain ⟨hall, x, y, rfl, rfl⟩ := iv
    obtain ⟨p, m, hpm, rfl⟩ := rowD_get hd
    refine ⟨(dg_tup rfl (dgs_cons (dg_name 2 nd rfl (.inl (by kernel_rfl)) (.inr (by kernel_rfl))) (dgs_cons (dg_name 3 nd rfl (.inl (by kernel_rfl)) (.inr (by kernel_rfl))) dgs_nil))), ?_⟩
    show DSs _ _ [.d (landD L), .d (rowsD rs), .d (ds p), .d (di m)] [] _
    refine dss_one (ds_if (ba := !okLab L (p, m)) (et (DT.is (dt_or (dt_cmp (de_name 2 rfl rfl (.inl (by kernel_rfl))) (de_fld (de_name 0 rfl rfl (.inl (by kernel_rfl))) rfl T.cl_Land T.na_places) o_notInS) (fun _ => (dw_or1 (dt_cmp (de_name 3 rfl rfl (.inl (by kernel_rfl))) de_int o_lt)))) ?_)) (fun h => ?_) (fun h => dss_nil ⟨?_, _, _, rfl, rfl⟩))
    · unfold okLab
      rw [Bool.not_and, Bool.not_not]
    · refine dss_one (ds_ret (d := dn) (ev de_non) (.inl ?_))
      have : leastLab L rs = none := by
        unfold leastLab
        rw [if_neg]
        intro z
        rw [List.all_eq_true] at z
        rw [z (p, m) (List.mem_of_getElem? hpm)] at h
        cases h
      rw [this]; rfl
    · rw [take_filter_succ hpm, List.all_append, hall, List.all_cons]
      have h : (!okLab L (p, m)) = false := h
      rw [Bool.not_eq_false'] at h
      rw [h]; rfl
  · obtain ⟨hall, x, y, rfl, rfl⟩ := iv
    rw [List.length_map, List.take_length] at hall
    refine dss_one (ds_ret (d := .dic (leastK rs)) (ev (DN.de (dn_call (ok_least_minutes T) hr (by kernel_rfl) (da_cons (de_name 1 rfl rfl (.inl (by kernel_rfl))) da_nil) ⟨rs, rfl, hl, rfl⟩))) (.inl ?_))
    have : leastLab L rs = some (leastK rs) := by unfold leastLab; rw [if_pos hall]
    rw [this]; rfl
/-! ### are_closed -/
def hasBy (least : Dic) (p : Str) (m : Int) : Bool := decide ((getK least p).getD (m + 1) ≤ m)
def okSt (broken least : Dic) (r : Str × Int) : Bool := !(ahead broken r.1 r.2 && !hasBy least r.1 r.2)
def okLk (L : LandM) (w : Wea) (broken least : Dic) (lr : LinkR) : Bool := match getK least lr.1.one with
  | none => true
  | some t => match caughtM L w lr.2 t with
    | none => true
    | some e => !(ahead broken lr.1.other e && !hasBy least lr.1.other e)
def closedM (L : LandM) (w : Wea) (st br : Rows) (ns : List (List (Option Int))) (least : Dic) : Bool := st.all (okSt (leastK br) least) && (L.links.zip ns).all (okLk L w (leastK br) least)
def R_are_closed (ds' : List D) (d : D) : Prop := ∃ (L : LandM) (w : Wea) (st br : Rows) (ns : List (List (Option Int))) (least : Dic), ds' = [landD L, weaD w, rowsD st, rowsD br, numsD ns, .dic least] ∧ WeaOk L w ∧ NumsOk L ns ∧ br.length ≤ 1000 ∧ nonneg least ∧ d = db (closedM L w st br ns least)
theorem ok_are_closed (T : Tx K mg) : Cal P w K mg base 3 "are_closed" (spD K R_are_closed) [] := by
  refine calD T.f_are_closed sc_are_closed (fun ds d ⟨L, w, a, b, c, e, f, _⟩ => by rw [f]; rfl) (fun _ _ _ _ _ _ us hl => match us, hl with | [_, _, _, _, _, _], _ => rfl) ?_
  rintro cdv f A outer s H E _ _ ⟨L, w, st, br, ns, least, rfl, hw, hn, hbl, h0, rfl⟩ hr
  have nd := (sc_are_closed).nd
  have hu := hu_of hr
  show DSs _ (defBody s_are_closed) [.d (landD L), .d (weaD w), .d (rowsD st), .d (rowsD br), .d (numsD ns), .d (.dic least), .un, .un, .un, .un, .un, .un] [] _
  refine dss_cons (ds_set 6 (d := .dic (leastK br)) (ev (DN.de (dn_call (ok_least_minutes T) hr (by kernel_rfl) (da_cons (de_name 3 rfl rfl (.inl (by kernel_rfl))) da_nil) ⟨br, rfl, hbl, rfl⟩))) ?_ nd rfl (.inl (by kernel_rfl)) (.inr (by kernel_rfl)))
  show DSs _ _ [.d (landD L), .d (weaD w), .d (rowsD st), .d (rowsD br), .d (numsD ns), .d (.dic least), .d (.dic (leastK br)), .un, .un, .un, .un, .un] [] _
  refine dss_cons (ds_for (asg := asg1 7 8) (its := st.map rowD) (fun i ρ cs => (st.take i).all (okSt (leastK br) least) = true ∧ ∃ x y, ρ = [.d (landD L), .d (weaD w), .d (rowsD st), .d (rowsD br), .d (numsD ns), .d (.dic least), .d (.dic (leastK br)), x, y, .un, .un, .un] ∧ cs = []) PassesOwn.never rfl (ei (di_list (de_name 2 rfl rfl (.inl (by kernel_rfl))))) ⟨rfl, _, _, rfl, rfl⟩ (fun i d ρ cs hd iv => ?_) (fun ρ cs iv => ?_))
  · obtain ⟨hall, x, y, rfl, rfl⟩ := iv
    obtain ⟨p, m, hpm, rfl⟩ := rowD_get hd
    refine ⟨(dg_tup rfl (dgs_cons (dg_name 7 nd rfl (.inl (by kernel_rfl)) (.inr (by kernel_rfl))) (dgs_cons (dg_name 8 nd rfl (.inl (by kernel_rfl)) (.inr (by kernel_rfl))) dgs_nil))), ?_⟩
    show DSs _ _ [.d (landD L), .d (weaD w), .d (rowsD st), .d (rowsD br), .d (numsD ns), .d (.dic least), .d (.dic (leastK br)), .d (ds p), .d (di m), .un, .un, .un] [] _
    refine dss_one (ds_if (ba := ahead (leastK br) p m && !hasBy least p m) (et (dt_and (dt_val (de_call (ok_is_ahead T) hr (by kernel_rfl) (da_cons (de_name 6 rfl rfl (.inl (by kernel_rfl))) (da_cons (de_name 7 rfl rfl (.inl (by kernel_rfl))) (da_cons (de_name 8 rfl rfl (.inl (by kernel_rfl))) da_nil))) ⟨leastK br, p, m, rfl, rfl⟩)) (fun _ => (dw_and1 (dt_not (dt_cmp (de_dget2 hu (de_name 5 rfl rfl (.inl (by kernel_rfl))) (de_name 7 rfl rfl (.inl (by kernel_rfl))) (de_bin (de_name 8 rfl rfl (.inl (by kernel_rfl))) de_int (o_add))) (de_name 8 rfl rfl (.inl (by kernel_rfl))) o_le)))))) (fun h => ?_) (fun h => dss_nil ⟨?_, _, _, rfl, rfl⟩))
    · refine dss_one (ds_ret (d := db false) (ev de_bl) (.inl ?_))
      have : closedM L w st br ns least = false := by
        unfold closedM
        rw [Bool.and_eq_false_iff]
        refine .inl ?_
        rw [List.all_eq_false]
        refine ⟨(p, m), List.mem_of_getElem? hpm, ?_⟩
        unfold okSt
        rw [h]; exact Bool.false_ne_true
      rw [this]
    · rw [take_filter_succ hpm, List.all_append, hall, List.all_cons]
      unfold okSt
      rw [h]; rfl
  obtain ⟨hall, x, y, rfl, rfl⟩ := iv
  rw [List.length_map, List.take_length] at hall
  refine dss_cons (ds_for (asg := asg1 9 10) (its := pairs (L.links.map linkD) (ns.map numD)) (fun i ρ cs => ((L.links.zip ns).take i).all (okLk L w (leastK br) least) = true ∧ ∃ u v z, ρ = [.d (landD L), .d (weaD w), .d (rowsD st), .d (rowsD br), .d (numsD ns), .d (.dic least), .d (.dic (leastK br)), x, y, u, v, z] ∧ cs = []) PassesOwn.never rfl (ei (di_zipT (by kernel_rfl) T.b_zip (da_cons (de_fld (de_name 0 rfl rfl (.inl (by kernel_rfl))) rfl T.cl_Land T.na_links) (da_cons (de_name 4 rfl rfl (.inl (by kernel_rfl))) da_nil)))) ⟨rfl, _, _, _, rfl, rfl⟩ (fun i d ρ cs hd iv => ?_) (fun ρ cs iv => ?_))
  · obtain ⟨hall2, u, v, z, rfl, rfl⟩ := iv
    rw [pairs_zip] at hd
    obtain ⟨⟨l, n⟩, hln, rfl⟩ := map_get hd
    have hmem := List.of_mem_zip (List.mem_of_getElem? hln)
    have next : okLk L w (leastK br) least (l, n) = true → ((L.links.zip ns).take (i + 1)).all (okLk L w (leastK br) least) = true := fun h => by
      rw [take_filter_succ hln, List.all_append, hall2, List.all_cons, h]; rfl
    have stop : okLk L w (leastK br) least (l, n) = false → closedM L w st br ns least = false := fun h => by
      unfold closedM
      rw [Bool.and_eq_false_iff]
      refine .inr ?_
      rw [List.all_eq_false]
      exact ⟨(l, n), List.mem_of_getElem? hln, by rw [h]; exact Bool.false_ne_true⟩
    refine ⟨(dg_tup rfl (dgs_cons (dg_name 9 nd rfl (.inl (by kernel_rfl)) (.inr (by kernel_rfl))) (dgs_cons (dg_name 10 nd rfl (.inl (by kernel_rfl)) (.inr (by kernel_rfl))) dgs_nil))), ?_⟩
    show DSs _ _ [.d (landD L), .d (weaD w), .d (rowsD st), .d (rowsD br), .d (numsD ns), .d (.dic least), .d (.dic (leastK br)), x, y, .d (linkD l), .d (numD n), z] [] _
    refine dss_one (ds_if (ba := (getK least l.one).isSome) (et (dt_din hu (de_ix (d := ds l.one) (de_name 9 rfl rfl (.inl (by kernel_rfl))) de_int (ix_t rfl)) (de_name 5 rfl rfl (.inl (by kernel_rfl))))) (fun h => ?_) (fun h => dss_nil ⟨next ?_, _, _, _, rfl, rfl⟩))
    · obtain ⟨t, ht⟩ := Option.isSome_iff_exists.mp h
      refine dss_cons (ds_set 11 (d := optI (caughtM L w n t)) (ev (de_call (ok_caught T) hr (by kernel_rfl) (da_cons (de_name 0 rfl rfl (.inl (by kernel_rfl))) (da_cons (de_name 1 rfl rfl (.inl (by kernel_rfl))) (da_cons (de_name 10 rfl rfl (.inl (by kernel_rfl))) (da_cons (de_dget (i := t) hu (de_name 5 rfl rfl (.inl (by kernel_rfl))) (de_ix (d := ds l.one) (de_name 9 rfl rfl (.inl (by kernel_rfl))) de_int (ix_t rfl)) ht) da_nil)))) ⟨L, w, n, t, rfl, hw, hn.row n hmem.2, h0 _ _ ht, rfl⟩)) ?_ nd rfl (.inl (by kernel_rfl)) (.inr (by kernel_rfl)))
      show DSs _ _ [.d (landD L), .d (weaD w), .d (rowsD st), .d (rowsD br), .d (numsD ns), .d (.dic least), .d (.dic (leastK br)), x, y, .d (linkD l), .d (numD n), .d (optI (caughtM L w n t))] [] _
      have hk : okLk L w (leastK br) least (l, n) = match caughtM L w n t with | none => true | some e => !(ahead (leastK br) l.other e && !hasBy least l.other e) := by unfold okLk; rw [ht]
      cases he : caughtM L w n t with
      | none =>
        refine dss_one (ds_if (ba := false) (et (dt_and (ba := false) (bb := false) (dt_cmp (de_name 11 rfl rfl (.inl (by kernel_rfl))) de_non o_notN) (fun h => by cases h))) (fun h => by cases h) (fun h => dss_nil ⟨next ?_, _, _, _, rfl, rfl⟩))
        rw [hk, he]
      | some e =>
        refine dss_one (ds_if (ba := ahead (leastK br) l.other e && !hasBy least l.other e) (et (DT.is (dt_and (ba := true) (dt_cmp (de_name 11 rfl rfl (.inl (by kernel_rfl))) de_non o_notN) (fun _ => (dw_and (dt_val (de_call (ok_is_ahead T) hr (by kernel_rfl) (da_cons (de_name 6 rfl rfl (.inl (by kernel_rfl))) (da_cons (de_ix (d := ds l.other) (de_name 9 rfl rfl (.inl (by kernel_rfl))) de_int (ix_t rfl)) (da_cons (de_name 11 rfl rfl (.inl (by kernel_rfl))) da_nil))) ⟨leastK br, l.other, e, rfl, rfl⟩)) (fun _ => (dw_and1 (dt_not (dt_cmp (de_dget2 hu (de_name 5 rfl rfl (.inl (by kernel_rfl))) (de_ix (d := ds l.other) (de_name 9 rfl rfl (.inl (by kernel_rfl))) de_int (ix_t rfl)) (de_bin (de_name 11 rfl rfl (.inl (by kernel_rfl))) de_int (o_add))) (de_name 11 rfl rfl (.inl (by kernel_rfl))) o_le))))))) (Bool.true_and _))) (fun h => ?_) (fun h => dss_nil ⟨next ?_, _, _, _, rfl, rfl⟩))
        · refine dss_one (ds_ret (d := db false) (ev de_bl) (.inl ?_))
          rw [stop (by rw [hk, he]; show (!(ahead (leastK br) l.other e && !hasBy least l.other e)) = false; rw [h]; rfl)]
        · rw [hk, he]; show (!(ahead (leastK br) l.other e && !hasBy least l.other e)) = true; rw [h]; rfl
    · unfold okLk
      cases q : getK least l.one with
      | none => rfl
      | some t => rw [q] at h; cases h
  · obtain ⟨hall2, u, v, z, rfl, rfl⟩ := iv
    rw [pairs_zip, List.length_map, List.take_length] at hall2
    refine dss_one (ds_ret (d := db true) (ev de_bl) (.inl ?_))
    have : closedM L w st br ns least = true := by unfold closedM; rw [hall, hall2]; rfl
    rw [this]
end Ef
set_option maxRecDepth 100000
set_option maxHeartbeats 4000000
/-! Gh: is_link, is_chain, check_paper. -/
namespace Ef
open PySem L2 C8 RZ PyProof.Rows PySem.Spec PySem.W
variable {P : Program} {w : World} {K : PySem.W.Frag} {mg : Str → Option Value} {base : Heap}
/-! ### the property link_names -/
def R_link_names (ds' : List D) (d : D) : Prop := ∃ (ls : List LinkM) (fs : List (Str × D)), ds' = [.obj "Land" fs] ∧ fs.lookup ("links" : Str) = some (D.tup (ls.map linkD)) ∧ ls.length ≤ 1000 ∧ d = .tix ((ls.map (·.name)).map ds)
def fst4 : D → D
  | .tup (x :: _) => x
  | d => d
theorem ok_link_names (T : Tx K mg) : ∃ (pa ga : Addr) (fd : FuncData), PropOf K (He.ga K "Land") "link_names" pa ga ∧ FnOk P w K mg base L2.CX0 1 ga fd P_Land_link_names (spD K R_link_names) ∧ Binds K fd P_Land_link_names [] := by
  obtain ⟨pa, ga, fd, hp, Fd⟩ := T.p_link_names
  refine ⟨pa, ga, fd, hp, def_D Fd sc_Land_link_names (fun ds d ⟨L, w, e, _⟩ => by rw [e]; rfl) ?_, Fd.bindsN (fun _ _ _ _ _ _ us hl => match us, hl with | [_], _ => rfl)⟩
  rintro cdv A outer s H E _ _ ⟨ls, fs, rfl, hf, hl, rfl⟩ hr
  have nd := (sc_Land_link_names).nd
  show DSs _ (defBody s_Land_link_names) [.d (.obj "Land" fs), .un] [] _
  refine dss_one (ds_ret (d := .tix ((ls.map (·.name)).map ds)) (ev (DE.is (de_tixL (xs := ((ls.map linkD).filter fun _ => true).map fst4) (by kernel_rfl) T.b_tuple (da_cons (DN.de (dn_lc (its := ls.map linkD) (own := [("link", 1)]) (asg := asgA 1) (keep := fun _ => true) (g := fst4) rfl nd (di_tup (de_fld (de_name 0 rfl rfl (.inl (by kernel_rfl))) hf T.cl_Land T.na_links)) (blkOk_by (by kernel_rfl)) (by rw [List.length_map]; exact small hl) (fun s H C cl fp i d hd => ?_))) da_nil)) ?_)) (.inl rfl))
  · obtain ⟨l, hl, rfl⟩ := linkD_get hd
    exact ⟨(dg_name 1 nd rfl (.inl (by kernel_rfl)) (.inr (by kernel_rfl))), by simp [asgA], dts_nil, fun _ => de_ix (de_name 1 rfl rfl (.inl (by kernel_rfl))) de_int (ix_t rfl)⟩
  · rw [filtT, List.map_map, List.map_map]; rfl
def namesL (L : LandM) : List Str := L.links.map (·.name)
/-! ### is_link -/
def stepOk (L : LandM) (w : Wea) (ns : List (List (Option Int))) (last row : RowC) (nm : Str) : Bool := match (L.links.zip ns)[(namesL L).idxOf nm]? with
  | none => false
  | some lr => decide (lr.1.one = last.1) && (decide (lr.1.other = row.1) && decide (caughtM L w lr.2 last.2.2 = some row.2.2))
def linkOk (L : LandM) (w : Wea) (ns : List (List (Option Int))) (broken : Dic) (last row : RowC) : Bool :=
  decide (row.1 ∈ L.places) && (inOpt row.2.1 (namesL L) && (ahead broken row.1 row.2.2 && stepOk L w ns last row (row.2.1.getD "")))
def R_is_link (ds' : List D) (d : D) : Prop := ∃ (L : LandM) (w : Wea) (ns : List (List (Option Int))) (broken : Dic) (last row : RowC), ds' = [landD L, weaD w, numsD ns, .dic broken, chD last, chD row] ∧ WeaOk L w ∧ Fits L ∧ NumsOk L ns ∧ 0 ≤ last.2.2 ∧ d = db (linkOk L w ns broken last row)
theorem ok_is_link (T : Tx K mg) : Cal P w K mg base 3 "is_link" (spD K R_is_link) [] := by
  refine calD T.f_is_link sc_is_link (fun ds d ⟨L, w, a, b, c, e, f, _⟩ => by rw [f]; rfl) (fun _ _ _ _ _ _ us hl => match us, hl with | [_, _, _, _, _, _], _ => rfl) ?_
  rintro cdv f A outer s H E _ _ ⟨L, w, ns, broken, ⟨la, ln, lm⟩, ⟨ra, rn, rm⟩, rfl, hw, fi, hn, h0, rfl⟩ hr
  have nd := (sc_is_link).nd
  have hu := hu_of hr
  obtain ⟨pa, ga, fdL, hpr, okL, bL⟩ := ok_link_names (P := P) (base := base) T
  have hll : L.links.length ≤ 1000 := Nat.le_trans fi.links (by decide)
  show DSs _ (defBody s_is_link) [.d (landD L), .d (weaD w), .d (numsD ns), .d (.dic broken), .d (.tup [ds la, optS ln, di lm]), .d (.tup [ds ra, optS rn, di rm]), .un, .un, .un, .un, .un] [] _
  refine dss_cons (ds_asg (d := .tup [ds ra, optS rn, di rm]) (asg := asg3 8 9 10 (.tup [ds ra, optS rn, di rm])) (ev (de_name 5 rfl rfl (.inl (by kernel_rfl)))) (dg_tup rfl (dgs_cons (dg_name 8 nd rfl (.inl (by kernel_rfl)) (.inr (by kernel_rfl))) (dgs_cons (dg_name 9 nd rfl (.inl (by kernel_rfl)) (.inr (by kernel_rfl))) (dgs_cons (dg_name 10 nd rfl (.inl (by kernel_rfl)) (.inr (by kernel_rfl))) dgs_nil)))) ?_)
  show DSs _ _ [.d (landD L), .d (weaD w), .d (numsD ns), .d (.dic broken), .d (.tup [ds la, optS ln, di lm]), .d (.tup [ds ra, optS rn, di rm]), .un, .un, .d (ds ra), .d (optS rn), .d (di rm)] [] _
  refine dss_cons (ds_if (ba := !(decide (ra ∈ L.places) && (inOpt rn (namesL L) && ahead broken ra rm))) (et (DT.is (dt_or (dt_cmp (de_name 8 rfl rfl (.inl (by kernel_rfl))) (de_fld (de_name 0 rfl rfl (.inl (by kernel_rfl))) rfl T.cl_Land T.na_places) o_notInS) (fun _ => (dw_or (dt_cmp (de_name 9 rfl rfl (.inl (by kernel_rfl))) (DE.tup (de_prop T.cl_Land hpr okL hr (by decide) bL (de_name 0 rfl rfl (.inl (by kernel_rfl))) ⟨L.links, landF L, rfl, rfl, hll, rfl⟩)) o_notInO) (fun _ => (dw_or1 (dt_not (dt_val (de_call (ok_is_ahead T) hr (by kernel_rfl) (da_cons (de_name 3 rfl rfl (.inl (by kernel_rfl))) (da_cons (de_name 8 rfl rfl (.inl (by kernel_rfl))) (da_cons (de_name 10 rfl rfl (.inl (by kernel_rfl))) da_nil))) ⟨broken, ra, rm, rfl, rfl⟩)))))))) ?_)) (fun h => ?_) (fun h => dss_nil ?_))
  · rw [Bool.not_and, Bool.not_and]; rfl
  · refine dss_one (ds_ret (d := db false) (ev de_bl) (.inl ?_))
    have : linkOk L w ns broken (la, ln, lm) (ra, rn, rm) = false := by
      unfold linkOk
      rw [Bool.not_eq_true', Bool.and_eq_false_iff, Bool.and_eq_false_iff] at h
      rcases h with h | h | h
      · show (decide (ra ∈ L.places) && _) = false; rw [h]; rfl
      · show (decide (ra ∈ L.places) && (inOpt rn (namesL L) && _)) = false; rw [h, Bool.false_and, Bool.and_false]
      · show (decide (ra ∈ L.places) && (inOpt rn (namesL L) && (ahead broken ra rm && _))) = false; rw [h, Bool.false_and, Bool.and_false, Bool.and_false]
    rw [this]
  rw [Bool.not_eq_false', Bool.and_eq_true_iff, Bool.and_eq_true_iff] at h
  obtain ⟨h1, h2, h3⟩ := h
  have hlk : linkOk L w ns broken (la, ln, lm) (ra, rn, rm) = stepOk L w ns (la, ln, lm) (ra, rn, rm) (rn.getD "") := by
    unfold linkOk
    show (decide (ra ∈ L.places) && (inOpt rn (namesL L) && (ahead broken ra rm && _))) = _
    rw [h1, h2, h3, Bool.true_and, Bool.true_and, Bool.true_and]
  cases rn with
  | none => cases h2
  | some nm =>
  have hnm : nm ∈ namesL L := of_decide_eq_true h2
  have hidx := idx_get hnm
  have hlt : (namesL L).idxOf nm < L.links.length := by have := List.idxOf_lt_length_iff.mpr hnm; unfold namesL at this ⊢; rwa [List.length_map] at this
  obtain ⟨l, hl⟩ : ∃ l, L.links[(namesL L).idxOf nm]? = some l := ⟨_, List.getElem?_eq_getElem hlt⟩
  obtain ⟨n, hnn⟩ : ∃ n, ns[(namesL L).idxOf nm]? = some n := ⟨_, List.getElem?_eq_getElem (by rw [hn.len]; exact hlt)⟩
  have hz : (L.links.zip ns)[(namesL L).idxOf nm]? = some (l, n) := by rw [List.getElem?_zip_eq_some]; exact ⟨hl, hnn⟩
  have hst : stepOk L w ns (la, ln, lm) (ra, some nm, rm) nm = (decide (l.one = la) && (decide (l.other = ra) && decide (caughtM L w n lm = some rm))) := by unfold stepOk; rw [hz]
  refine dss_cons (ds_set 6 (d := di ((namesL L).idxOf nm : Nat)) (ev (de_tix (ys := namesL L) (z := nm) (de_prop T.cl_Land hpr okL hr (by decide) bL (de_name 0 rfl rfl (.inl (by kernel_rfl))) ⟨L.links, landF L, rfl, rfl, hll, rfl⟩) (de_name 9 rfl rfl (.inl (by kernel_rfl))) hidx (fun m hm => idx_no hm))) ?_ nd rfl (.inl (by kernel_rfl)) (.inr (by kernel_rfl)))
  refine dss_cons (ds_set 7 (d := linkD l) (ev (de_ix (de_fld (de_name 0 rfl rfl (.inl (by kernel_rfl))) rfl T.cl_Land T.na_links) (de_name 6 rfl rfl (.inl (by kernel_rfl))) (ix_t (atI_nat (getE linkD hl))))) ?_ nd rfl (.inl (by kernel_rfl)) (.inr (by kernel_rfl)))
  show DSs _ _ [.d (landD L), .d (weaD w), .d (numsD ns), .d (.dic broken), .d (.tup [ds la, optS ln, di lm]), .d (.tup [ds ra, ds nm, di rm]), .d (di ((namesL L).idxOf nm : Nat)), .d (linkD l), .d (ds ra), .d (ds nm), .d (di rm)] [] _
  refine dss_cons (ds_if (ba := !(decide (l.one = la) && decide (l.other = ra))) (et (DT.is (dt_or (dt_cmp (de_ix (d := ds l.one) (de_name 7 rfl rfl (.inl (by kernel_rfl))) de_int (ix_t rfl)) (de_ix (d := ds la) (de_name 4 rfl rfl (.inl (by kernel_rfl))) de_int (ix_t rfl)) o_neS) (fun _ => (dw_or1 (dt_cmp (de_ix (d := ds l.other) (de_name 7 rfl rfl (.inl (by kernel_rfl))) de_int (ix_t rfl)) (de_name 8 rfl rfl (.inl (by kernel_rfl))) o_neS)))) (by rw [Bool.not_and]))) (fun h => ?_) (fun h => dss_nil ?_))
  · refine dss_one (ds_ret (d := db false) (ev de_bl) (.inl ?_))
    rw [hlk]
    show RV.dat (db false) = RV.dat (db (stepOk L w ns (la, ln, lm) (ra, some nm, rm) nm))
    rw [hst, ← Bool.and_assoc]
    rw [Bool.not_eq_true'] at h
    rw [h]; rfl
  rw [Bool.not_eq_false'] at h
  refine dss_one (ds_ret (d := db (decide (caughtM L w n lm = some rm))) (ev (de_cmp (de_call (ok_caught T) hr (by kernel_rfl) (da_cons (de_name 0 rfl rfl (.inl (by kernel_rfl))) (da_cons (de_name 1 rfl rfl (.inl (by kernel_rfl))) (da_cons (de_ix (d := numD n) (de_name 2 rfl rfl (.inl (by kernel_rfl))) (de_name 6 rfl rfl (.inl (by kernel_rfl))) (ix_t (atI_nat (getE numD hnn)))) (da_cons (de_ix (d := di lm) (de_name 4 rfl rfl (.inl (by kernel_rfl))) de_int (ix_t rfl)) da_nil)))) ⟨L, w, n, lm, rfl, hw, hn.row n (List.mem_of_getElem? hnn), h0, rfl⟩) (de_name 10 rfl rfl (.inl (by kernel_rfl))) o_eqO)) (.inl ?_))
  rw [hlk]
  show RV.dat _ = RV.dat (db (stepOk L w ns (la, ln, lm) (ra, some nm, rm) nm))
  rw [hst, ← Bool.and_assoc, h, Bool.true_and]
end Ef
set_option maxRecDepth 100000
set_option maxHeartbeats 4000000
/-! Gi: is_chain, check_paper. -/
namespace Ef
open PySem L2 C8 RZ PyProof.Rows PySem.Spec PySem.W
variable {P : Program} {w : World} {K : PySem.W.Frag} {mg : Str → Option Value} {base : Heap}
def lastOf (c : List RowC) (p : Str) : Bool := match c.getLast? with
  | none => false
  | some r => decide (r.1 = p)
def headOk (st : Rows) (broken : Dic) (r : RowC) : Bool := decide ((r.1, r.2.2) ∈ st) && ahead broken r.1 r.2.2
def stepsOk (L : LandM) (w : Wea) (ns : List (List (Option Int))) (broken : Dic) (c : List RowC) : Bool := (c.zip (c.drop 1)).all fun q => linkOk L w ns broken q.1 q.2
def chainOk (L : LandM) (w : Wea) (st br : Rows) (ns : List (List (Option Int))) (c : List RowC) (p : Str) : Bool := match c with
  | [] => false
  | r :: _ => r.2.1.isNone && (lastOf c p && (headOk st (leastK br) r && stepsOk L w ns (leastK br) c))
def R_is_chain (ds' : List D) (d : D) : Prop := ∃ (L : LandM) (w : Wea) (st br : Rows) (ns : List (List (Option Int))) (c : List RowC) (p : Str), ds' = [landD L, weaD w, rowsD st, rowsD br, numsD ns, chainD c, ds p] ∧ WeaOk L w ∧ Fits L ∧ NumsOk L ns ∧ st.length ≤ 1000 ∧ br.length ≤ 1000 ∧ (∀ r ∈ c, 0 ≤ r.2.2) ∧ d = db (chainOk L w st br ns c p)
theorem pairs_map {α : Type} (f : α → D) : ∀ (xs ys : List α), pairs (xs.map f) (ys.map f) = (xs.zip ys).map fun q => .tup [f q.1, f q.2]
  | [], _ => rfl
  | x :: xs, [] => rfl
  | x :: xs, y :: ys => by
    show D.tup [f x, f y] :: pairs (xs.map f) (ys.map f) = _
    rw [pairs_map f xs ys]; rfl
theorem ok_is_chain (T : Tx K mg) : Cal P w K mg base 4 "is_chain" (spD K R_is_chain) [] := by
  refine calD T.f_is_chain sc_is_chain (fun ds d ⟨L, w, a, b, c, e, f, h, _⟩ => by rw [h]; rfl) (fun _ _ _ _ _ _ us hl => match us, hl with | [_, _, _, _, _, _, _], _ => rfl) ?_
  rintro cdv f A outer s H E _ _ ⟨L, w, st, br, ns, c, p, rfl, hw, fi, hn, hsl, hbl, h0, rfl⟩ hr
  have nd := (sc_is_chain).nd
  have hu := hu_of hr
  show DSs _ (defBody s_is_chain) [.d (landD L), .d (weaD w), .d (rowsD st), .d (rowsD br), .d (numsD ns), .d (chainD c), .d (ds p), .un, .un, .un, .un, .un, .un] [] _
  refine dss_cons (ds_set 7 (d := .dic (leastK br)) (ev (DN.de (dn_call (ok_least_minutes T) hr (by kernel_rfl) (da_cons (de_name 3 rfl rfl (.inl (by kernel_rfl))) da_nil) ⟨br, rfl, hbl, rfl⟩))) ?_ nd rfl (.inl (by kernel_rfl)) (.inr (by kernel_rfl)))
  show DSs _ _ [.d (landD L), .d (weaD w), .d (rowsD st), .d (rowsD br), .d (numsD ns), .d (chainD c), .d (ds p), .d (.dic (leastK br)), .un, .un, .un, .un, .un] [] _
  cases hc : c with
  | nil =>
    subst hc
    refine dss_cons (ds_if (ba := true) (et (dt_or (ba := true) (bb := true) (DT.is (dt_not (dt_lst (de_name 5 rfl rfl (.inl (by kernel_rfl))))) rfl) (fun h => by cases h))) (fun h => ?_) (fun h => by cases h))
    exact dss_one (ds_ret (d := db false) (ev de_bl) (.inl rfl))
  | cons r c' =>
  rw [← hc]
  obtain ⟨z, hz⟩ : ∃ z, c.getLast? = some z := by
    cases h : c.getLast? with
    | none => rw [List.getLast?_eq_none_iff] at h; rw [h] at hc; cases hc
    | some z => exact ⟨z, rfl⟩
  have hr0 : (c.map chD)[0]? = some (chD r) := by rw [hc]; rfl
  have hzl : (c.map chD).getLast? = some (chD z) := by rw [List.getLast?_map, hz]; rfl
  have hck : chainOk L w st br ns c p = (r.2.1.isNone && (decide (z.1 = p) && (headOk st (leastK br) r && stepsOk L w ns (leastK br) c))) := by
    have : lastOf c p = decide (z.1 = p) := by unfold lastOf; rw [hz]
    rw [← this, hc]; rfl
  have hrm : r ∈ c := by rw [hc]; exact List.mem_cons_self
  obtain ⟨ra, rn, rm⟩ := r
  obtain ⟨za, zn, zm⟩ := z
  refine dss_cons (ds_if (ba := !(rn.isNone && decide (za = p))) (et (DT.is (dt_or (ba := false) (DT.is (dt_not (dt_lst (de_name 5 rfl rfl (.inl (by kernel_rfl))))) (by rw [hc]; rfl)) (fun _ => (dw_or (ba := !rn.isNone) (DT.is (dt_cmp (de_ix (d := optS rn) (de_ix (d := chD (ra, rn, rm)) (de_name 5 rfl rfl (.inl (by kernel_rfl))) de_int (ix_l (atI_nat (i := 0) hr0))) de_int (ix_t rfl)) de_non o_notN) (by rw [isN_optS]; cases rn <;> rfl)) (fun _ => (dw_or1 (dt_cmp (de_ix (d := ds za) (de_ix (d := chD (za, zn, zm)) (de_name 5 rfl rfl (.inl (by kernel_rfl))) (de_neg de_int) (ix_l (atI_last hzl))) de_int (ix_t rfl)) (de_name 6 rfl rfl (.inl (by kernel_rfl))) o_neS)))))) (by rw [Bool.not_and]; rfl))) (fun h => ?_) (fun h => dss_nil ?_))
  · refine dss_one (ds_ret (d := db false) (ev de_bl) (.inl ?_))
    rw [hck, ← Bool.and_assoc]
    show _ = RV.dat (db ((rn.isNone && decide (za = p)) && _))
    rw [Bool.not_eq_true'] at h
    rw [h]; rfl
  rw [Bool.not_eq_false'] at h
  have hck2 : chainOk L w st br ns c p = (headOk st (leastK br) (ra, rn, rm) && stepsOk L w ns (leastK br) c) := by
    rw [hck, ← Bool.and_assoc]
    show ((rn.isNone && decide (za = p)) && _) = _
    rw [h, Bool.true_and]
  refine dss_cons (ds_asg (d := chD (ra, rn, rm)) (asg := asg3 8 9 10 (chD (ra, rn, rm))) (ev (de_ix (de_name 5 rfl rfl (.inl (by kernel_rfl))) de_int (ix_l (atI_nat (i := 0) hr0)))) (dg_tup rfl (dgs_cons (dg_name 8 nd rfl (.inl (by kernel_rfl)) (.inr (by kernel_rfl))) (dgs_cons (dg_name 9 nd rfl (.inl (by kernel_rfl)) (.inr (by kernel_rfl))) (dgs_cons (dg_name 10 nd rfl (.inl (by kernel_rfl)) (.inr (by kernel_rfl))) dgs_nil)))) ?_)
  show DSs _ _ [.d (landD L), .d (weaD w), .d (rowsD st), .d (rowsD br), .d (numsD ns), .d (chainD c), .d (ds p), .d (.dic (leastK br)), .d (ds ra), .d (optS rn), .d (di rm), .un, .un] [] _
  refine dss_cons (ds_if (ba := !headOk st (leastK br) (ra, rn, rm)) (et (DT.is (dt_or (ba := !decide ((ra, rm) ∈ st)) (dt_cmp (da := rowD (ra, rm)) (db' := .lst (st.map rowD)) (de_tup (da_cons (de_name 8 rfl rfl (.inl (by kernel_rfl))) (da_cons (de_name 10 rfl rfl (.inl (by kernel_rfl))) da_nil))) (DE.is (DN.de (dn_lc (its := st.map rowD) (own := [("row", 12)]) (asg := asgA 12) (keep := fun _ => true) (g := fun d => d) rfl nd (di_list (de_name 2 rfl rfl (.inl (by kernel_rfl)))) (blkOk_by (by kernel_rfl)) (by rw [List.length_map]; exact small hsl) (fun s H C cl fp i d hd => ?_))) (by rw [idMap])) (o_notInA (α := Str × Int) (enc := rowD) (x := (ra, rm)) (xs := st) (hu65_of hr) (fun _ => rfl) (fun _ => rfl) (by decide) decide_eq_true_iff)) (fun _ => (dw_or1 (dt_not (dt_val (de_call (ok_is_ahead T) hr (by kernel_rfl) (da_cons (de_name 7 rfl rfl (.inl (by kernel_rfl))) (da_cons (de_name 8 rfl rfl (.inl (by kernel_rfl))) (da_cons (de_name 10 rfl rfl (.inl (by kernel_rfl))) da_nil))) ⟨leastK br, ra, rm, rfl, rfl⟩)))))) ?_)) (fun h => ?_) (fun h => dss_nil ?_))
  · obtain ⟨q, hq, rfl⟩ := map_get hd
    exact ⟨(dg_name 12 nd rfl (.inl (by kernel_rfl)) (.inr (by kernel_rfl))), by simp [asgA], dts_nil, fun _ => (de_tupT (by kernel_rfl) T.b_tuple (da_cons (de_name 12 rfl rfl (.inl (by kernel_rfl))) da_nil))⟩
  · unfold headOk; rw [Bool.not_and]
  · refine dss_one (ds_ret (d := db false) (ev de_bl) (.inl ?_))
    rw [Bool.not_eq_true'] at h
    rw [hck2, h]; rfl
  rw [Bool.not_eq_false'] at h
  rw [h, Bool.true_and] at hck2
  refine dss_cons (ds_for (asg := asg1 11 12) (its := pairs (c.map chD) (cutG (c.map chD) (some 1) none)) (fun i ρ cs => ((c.zip (c.drop 1)).take i).all (fun q => linkOk L w ns (leastK br) q.1 q.2) = true ∧ ∃ x y, ρ = [.d (landD L), .d (weaD w), .d (rowsD st), .d (rowsD br), .d (numsD ns), .d (chainD c), .d (ds p), .d (.dic (leastK br)), .d (ds ra), .d (optS rn), .d (di rm), x, y] ∧ cs = []) PassesOwn.never rfl (ei (di_zipL (by kernel_rfl) T.b_zip (da_cons (de_name 5 rfl rfl (.inl (by kernel_rfl))) (da_cons (DN.de (dn_slice (de_name 5 rfl rfl (.inl (by kernel_rfl))) (do_some de_int) do_none)) da_nil)))) ⟨rfl, _, _, rfl, rfl⟩ (fun i d ρ cs hd iv => ?_) (fun ρ cs iv => ?_))
  · obtain ⟨hall, x, y, rfl, rfl⟩ := iv
    rw [cutG_from1, ← List.map_drop, pairs_map] at hd
    obtain ⟨⟨q1, q2⟩, hq, rfl⟩ := map_get hd
    refine ⟨(dg_tup rfl (dgs_cons (dg_name 11 nd rfl (.inl (by kernel_rfl)) (.inr (by kernel_rfl))) (dgs_cons (dg_name 12 nd rfl (.inl (by kernel_rfl)) (.inr (by kernel_rfl))) dgs_nil))), ?_⟩
    show DSs _ _ [.d (landD L), .d (weaD w), .d (rowsD st), .d (rowsD br), .d (numsD ns), .d (chainD c), .d (ds p), .d (.dic (leastK br)), .d (ds ra), .d (optS rn), .d (di rm), .d (chD q1), .d (chD q2)] [] _
    refine dss_one (ds_if (ba := !linkOk L w ns (leastK br) q1 q2) (et (dt_not (dt_val (de_call (ok_is_link T) hr (by kernel_rfl) (da_cons (de_name 0 rfl rfl (.inl (by kernel_rfl))) (da_cons (de_name 1 rfl rfl (.inl (by kernel_rfl))) (da_cons (de_name 4 rfl rfl (.inl (by kernel_rfl))) (da_cons (de_name 7 rfl rfl (.inl (by kernel_rfl))) (da_cons (de_name 11 rfl rfl (.inl (by kernel_rfl))) (da_cons (de_name 12 rfl rfl (.inl (by kernel_rfl))) da_nil)))))) ⟨L, w, ns, leastK br, q1, q2, rfl, hw, fi, hn, h0 q1 (List.of_mem_zip (List.mem_of_getElem? hq)).1, rfl⟩)))) (fun h => ?_) (fun h => dss_nil ⟨?_, _, _, rfl, rfl⟩))
    · refine dss_one (ds_ret (d := db false) (ev de_bl) (.inl ?_))
      have : stepsOk L w ns (leastK br) c = false := by
        unfold stepsOk
        rw [List.all_eq_false]
        refine ⟨(q1, q2), List.mem_of_getElem? hq, ?_⟩
        rw [Bool.not_eq_true'] at h
        rw [h]; exact Bool.false_ne_true
      rw [hck2, this]
    · rw [take_filter_succ hq, List.all_append, hall, List.all_cons]
      rw [Bool.not_eq_false'] at h
      rw [h]; rfl
  · obtain ⟨hall, x, y, rfl, rfl⟩ := iv
    rw [cutG_from1, ← List.map_drop, pairs_map, List.length_map, List.take_length] at hall
    refine dss_one (ds_ret (d := db true) (ev de_bl) (.inl ?_))
    rw [hck2]
    unfold stepsOk
    rw [hall]
end Ef
set_option maxRecDepth 100000
set_option maxHeartbeats 4000000
/-! Gj: check_paper. -/
namespace Ef
open PySem L2 C8 RZ PyProof.Rows PySem.Spec PySem.W
variable {P : Program} {w : World} {K : PySem.W.Frag} {mg : Str → Option Value} {base : Heap}
def checkM (L : LandM) (w : Wea) (st br : Rows) (p : Str) (t : Told) : Bool :=
  if t.word = "surely" then t.labels.isEmpty && chainOk L w st br (mostN L) t.chain p
  else match leastLab L t.labels with
    | none => false
    | some k => if (getK k p).isSome then false
      else if t.word = "never" then t.chain.isEmpty && closedM L w st br (leastN L) k
      else decide (t.word = "maybe") && (closedM L w st br (mostN L) k && chainOk L w st br (leastN L) t.chain p)
def R_check_paper (ds' : List D) (d : D) : Prop := ∃ (L : LandM) (w : Wea) (st br : Rows) (p : Str) (t : Told), ds' = [landD L, weaD w, rowsD st, rowsD br, ds p, paperD t] ∧ Ok4 L w st br ∧ p ∈ L.places ∧ NumsOk L (leastN L) ∧ NumsOk L (mostN L) ∧ t.labels.length ≤ 1000 ∧ (∀ r ∈ t.chain, 0 ≤ r.2.2) ∧ d = db (checkM L w st br p t)
theorem leastLab_nn {L : LandM} {rs : Rows} {k : Dic} (h : leastLab L rs = some k) : nonneg k := by
  unfold leastLab at h
  by_cases z : rs.all (okLab L) = true
  · rw [if_pos z] at h
    cases h
    intro q v hv
    refine least_nonneg (rs := rs) (fun r hr => ?_) _ (getK_mem hv)
    rw [List.all_eq_true] at z
    have := z r hr
    unfold okLab at this
    rw [Bool.and_eq_true_iff, Bool.not_eq_true'] at this
    have := of_decide_eq_false this.2
    omega
  · rw [if_neg z] at h; cases h
theorem plains_of {α : Type} {f : α → D} (h : ∀ a, (f a).plain = true) (xs : List α) : D.plains (xs.map f) = true := plains_map h xs
theorem chD_plain (r : RowC) : (chD r).plain = true := by obtain ⟨a, b, c⟩ := r; cases b <;> rfl
theorem isEmpty_map {α β : Type} (f : α → β) (xs : List α) : (xs.map f).isEmpty = xs.isEmpty := by cases xs <;> rfl
theorem ok_check_paper (T : Tx K mg) : Cal P w K mg base 5 "check_paper" (spD K R_check_paper) [] := by
  refine calD T.f_check_paper sc_check_paper (fun ds d ⟨L, w, a, b, c, e, f, _⟩ => by rw [f]; rfl) (fun _ _ _ _ _ _ us hl => match us, hl with | [_, _, _, _, _, _], _ => rfl) ?_
  rintro cdv f A outer s H E _ _ ⟨L, w, st, br, p, t, rfl, o, hp, n1, n2, hll, h0, rfl⟩ hr
  have nd := (sc_check_paper).nd
  have hu := hu_of hr
  show DSs _ (defBody s_check_paper) [.d (landD L), .d (weaD w), .d (rowsD st), .d (rowsD br), .d (ds p), .d (paperD t), .un, .un, .un] [] _
  refine dss_cons (ds_expr (d := dn) (ev (de_call (ok_check_fire_at T) hr (by kernel_rfl) (da_cons (de_name 0 rfl rfl (.inl (by kernel_rfl))) (da_cons (de_name 1 rfl rfl (.inl (by kernel_rfl))) (da_cons (de_name 2 rfl rfl (.inl (by kernel_rfl))) (da_cons (de_name 3 rfl rfl (.inl (by kernel_rfl))) (da_cons (de_name 4 rfl rfl (.inl (by kernel_rfl))) da_nil))))) ⟨L, w, st, br, p, rfl, ⟨o.wea, o.stIn, o.brIn, hp⟩, rfl⟩)) ?_)
  refine dss_cons (ds_set 6 (d := optK (leastLab L t.labels)) (ev (de_call (ok_least_labels T) hr (by kernel_rfl) (da_cons (de_name 0 rfl rfl (.inl (by kernel_rfl))) (da_cons (de_fld (de_name 5 rfl rfl (.inl (by kernel_rfl))) rfl T.cl_Paper T.na_labels) da_nil)) ⟨L, t.labels, rfl, hll, rfl⟩)) ?_ nd rfl (.inl (by kernel_rfl)) (.inr (by kernel_rfl)))
  refine dss_cons (ds_set 7 (d := numsD (leastN L)) (ev (de_call (ok_least_numbers T) hr (by kernel_rfl) (da_cons (de_name 0 rfl rfl (.inl (by kernel_rfl))) da_nil) ⟨L, rfl, o.fit, rfl⟩)) ?_ nd rfl (.inl (by kernel_rfl)) (.inr (by kernel_rfl)))
  refine dss_cons (ds_set 8 (d := numsD (mostN L)) (ev (de_call (ok_most_numbers T) hr (by kernel_rfl) (da_cons (de_name 0 rfl rfl (.inl (by kernel_rfl))) da_nil) ⟨L, rfl, o.fit, rfl⟩)) ?_ nd rfl (.inl (by kernel_rfl)) (.inr (by kernel_rfl)))
  show DSs _ _ [.d (landD L), .d (weaD w), .d (rowsD st), .d (rowsD br), .d (ds p), .d (paperD t), .d (optK (leastLab L t.labels)), .d (numsD (leastN L)), .d (numsD (mostN L))] [] _
  refine dss_cons (ds_if (ba := decide (t.word = "surely")) (et (dt_cmp (de_fld (d := ds t.word) (de_name 5 rfl rfl (.inl (by kernel_rfl))) rfl T.cl_Paper T.na_word) de_str o_eqS)) (fun h => ?_) (fun h => dss_nil ?_))
  · refine dss_one (ds_ret (d := db (t.labels.isEmpty && chainOk L w st br (mostN L) t.chain p)) (ev (de_and (de_cmp (de_fld (d := rowsD t.labels) (de_name 5 rfl rfl (.inl (by kernel_rfl))) rfl T.cl_Paper T.na_labels) (DN.de (dn_lst da_nil)) (by rw [← isEmpty_map rowD]; exact o_eqNil (hu64_of hr) (plains_of (fun _ => rfl) _))) (fun _ => (de_one (de_call (ok_is_chain T) hr (by kernel_rfl) (da_cons (de_name 0 rfl rfl (.inl (by kernel_rfl))) (da_cons (de_name 1 rfl rfl (.inl (by kernel_rfl))) (da_cons (de_name 2 rfl rfl (.inl (by kernel_rfl))) (da_cons (de_name 3 rfl rfl (.inl (by kernel_rfl))) (da_cons (de_name 8 rfl rfl (.inl (by kernel_rfl))) (da_cons (de_fld (d := chainD t.chain) (de_name 5 rfl rfl (.inl (by kernel_rfl))) rfl T.cl_Paper T.na_chain) (da_cons (de_name 4 rfl rfl (.inl (by kernel_rfl))) da_nil))))))) ⟨L, w, st, br, mostN L, t.chain, p, rfl, o.wea, o.fit, n2, o.sl, o.bl, h0, rfl⟩))))) (.inl ?_))
    unfold checkM
    rw [if_pos (of_decide_eq_true h)]
  have hns := of_decide_eq_false h
  cases hk : leastLab L t.labels with
  | none =>
    refine dss_cons (ds_if (ba := true) (et (dt_or (ba := true) (bb := true) (dt_cmp (de_name 6 rfl rfl (.inl (by kernel_rfl))) de_non o_isN) (fun h => by cases h))) (fun h => ?_) (fun h => by cases h))
    refine dss_one (ds_ret (d := db false) (ev de_bl) (.inl ?_))
    unfold checkM
    rw [if_neg hns, hk]
  | some k =>
  have hcm : checkM L w st br p t = if (getK k p).isSome then false else if t.word = "never" then t.chain.isEmpty && closedM L w st br (leastN L) k else decide (t.word = "maybe") && (closedM L w st br (mostN L) k && chainOk L w st br (leastN L) t.chain p) := by
    unfold checkM
    rw [if_neg hns, hk]
  show DSs _ _ [.d (landD L), .d (weaD w), .d (rowsD st), .d (rowsD br), .d (ds p), .d (paperD t), .d (.dic k), .d (numsD (leastN L)), .d (numsD (mostN L))] [] _
  refine dss_cons (ds_if (ba := (getK k p).isSome) (et (DT.is (dt_or (ba := false) (dt_cmp (de_name 6 rfl rfl (.inl (by kernel_rfl))) de_non o_isN) (fun _ => (dw_or1 (dt_din hu (de_name 4 rfl rfl (.inl (by kernel_rfl))) (de_name 6 rfl rfl (.inl (by kernel_rfl))))))) (Bool.false_or _))) (fun h => ?_) (fun h => dss_nil ?_))
  · refine dss_one (ds_ret (d := db false) (ev de_bl) (.inl ?_))
    rw [hcm, if_pos h]
  rw [if_neg (by rw [h]; exact Bool.false_ne_true)] at hcm
  have hnn := leastLab_nn hk
  refine dss_cons (ds_if (ba := decide (t.word = "never")) (et (dt_cmp (de_fld (d := ds t.word) (de_name 5 rfl rfl (.inl (by kernel_rfl))) rfl T.cl_Paper T.na_word) de_str o_eqS)) (fun h => ?_) (fun h => dss_nil ?_))
  · rw [if_pos (of_decide_eq_true h)] at hcm
    refine dss_one (ds_ret (d := db (t.chain.isEmpty && closedM L w st br (leastN L) k)) (ev (de_and (de_cmp (de_fld (d := chainD t.chain) (de_name 5 rfl rfl (.inl (by kernel_rfl))) rfl T.cl_Paper T.na_chain) (DN.de (dn_lst da_nil)) (by rw [← isEmpty_map chD]; exact o_eqNil (hu64_of hr) (plains_of chD_plain _))) (fun _ => (de_one (de_call (ok_are_closed T) hr (by kernel_rfl) (da_cons (de_name 0 rfl rfl (.inl (by kernel_rfl))) (da_cons (de_name 1 rfl rfl (.inl (by kernel_rfl))) (da_cons (de_name 2 rfl rfl (.inl (by kernel_rfl))) (da_cons (de_name 3 rfl rfl (.inl (by kernel_rfl))) (da_cons (de_name 7 rfl rfl (.inl (by kernel_rfl))) (da_cons (de_name 6 rfl rfl (.inl (by kernel_rfl))) da_nil)))))) ⟨L, w, st, br, leastN L, k, rfl, o.wea, n1, o.bl, hnn, rfl⟩))))) (.inl ?_))
    rw [hcm]
  rw [if_neg (of_decide_eq_false h)] at hcm
  refine dss_cons (ds_if (ba := !(decide (t.word = "maybe") && closedM L w st br (mostN L) k)) (et (DT.is (dt_or (dt_cmp (de_fld (d := ds t.word) (de_name 5 rfl rfl (.inl (by kernel_rfl))) rfl T.cl_Paper T.na_word) de_str o_neS) (fun _ => (dw_or1 (dt_not (dt_val (de_call (ok_are_closed T) hr (by kernel_rfl) (da_cons (de_name 0 rfl rfl (.inl (by kernel_rfl))) (da_cons (de_name 1 rfl rfl (.inl (by kernel_rfl))) (da_cons (de_name 2 rfl rfl (.inl (by kernel_rfl))) (da_cons (de_name 3 rfl rfl (.inl (by kernel_rfl))) (da_cons (de_name 8 rfl rfl (.inl (by kernel_rfl))) (da_cons (de_name 6 rfl rfl (.inl (by kernel_rfl))) da_nil)))))) ⟨L, w, st, br, mostN L, k, rfl, o.wea, n2, o.bl, hnn, rfl⟩)))))) (by rw [Bool.not_and]))) (fun h => ?_) (fun h => dss_nil ?_))
  · refine dss_one (ds_ret (d := db false) (ev de_bl) (.inl ?_))
    rw [Bool.not_eq_true'] at h
    rw [hcm, ← Bool.and_assoc, h]; rfl
  rw [Bool.not_eq_false'] at h
  rw [← Bool.and_assoc, h, Bool.true_and] at hcm
  refine dss_one (ds_ret (d := db (chainOk L w st br (leastN L) t.chain p)) (ev (de_call (ok_is_chain T) hr (by kernel_rfl) (da_cons (de_name 0 rfl rfl (.inl (by kernel_rfl))) (da_cons (de_name 1 rfl rfl (.inl (by kernel_rfl))) (da_cons (de_name 2 rfl rfl (.inl (by kernel_rfl))) (da_cons (de_name 3 rfl rfl (.inl (by kernel_rfl))) (da_cons (de_name 7 rfl rfl (.inl (by kernel_rfl))) (da_cons (de_fld (d := chainD t.chain) (de_name 5 rfl rfl (.inl (by kernel_rfl))) rfl T.cl_Paper T.na_chain) (da_cons (de_name 4 rfl rfl (.inl (by kernel_rfl))) da_nil))))))) ⟨L, w, st, br, leastN L, t.chain, p, rfl, o.wea, o.fit, n1, o.sl, o.bl, h0, rfl⟩)) (.inl ?_))
  rw [hcm]
end Ef
set_option maxRecDepth 100000
set_option maxHeartbeats 4000000
/-! Gk: is_name, is_number, is_label, is_catch. -/
namespace Ef
open PySem L2 C8 RZ PyProof.Rows PySem.Spec PySem.W
variable {P : Program} {w : World} {K : PySem.W.Frag} {mg : Str → Option Value} {base : Heap}
def inStr (z : Str) (c : Nat) : Bool := decide (c ∈ z.cps.toList)
def headIn (z : Str) : List Nat → Bool
  | [] => false
  | c :: _ => inStr z c
def lenIn (x : Str) (n : Nat) : Bool := decide (1 ≤ x.length) && decide (x.length ≤ n)
def nameM (x : Str) : Bool := (lenIn x 12 && !headIn digits x.cps.toList) && x.cps.toList.all (inStr chars)
def headIs (k : Nat) : List Nat → Bool
  | [] => false
  | c :: _ => decide (c = k)
def numM (x : Str) : Bool := (lenIn x 6 && x.cps.toList.all (inStr digits)) && (decide (x = "0") || !headIs 48 x.cps.toList)
theorem len_cps (x : Str) : x.length = x.cps.toList.length := by show x.cps.size = _; rw [Array.length_toList]
theorem sign_inj {a b : Nat} : ((⟨#[a]⟩ : Str) = ⟨#[b]⟩) ↔ a = b := by
  constructor
  · intro h; cases h; rfl
  · rintro rfl; rfl
def R_is_name (ds' : List D) (d : D) : Prop := ∃ x : Str, ds' = [ds x] ∧ x.length ≤ 100000 ∧ d = db (nameM x)
def inD1 (z : Str) : D → Bool
  | .v (.str ⟨a⟩) => match a.toList with
    | [c] => inStr z c
    | _ => false
  | _ => false
theorem signs_all (z x : Str) : ((((signs x).filter fun _ => true).map (inD1 z)).all id) = x.cps.toList.all (inStr z) := by
  rw [filtT]
  unfold signs
  rw [List.map_map, List.all_map]
  rfl
theorem ok_is_name (T : Tx K mg) : Cal P w K mg base 1 "is_name" (spD K R_is_name) [] := by
  refine calD T.f_is_name sc_is_name (fun ds d ⟨L, e, _⟩ => by rw [e]; rfl) (fun _ _ _ _ _ _ us hl => match us, hl with | [_], _ => rfl) ?_
  rintro cdv f A outer s H E _ _ ⟨x, rfl, hl, rfl⟩ hr
  have nd := (sc_is_name).nd
  have hs : x.length ≤ sizeLine := Nat.le_of_lt (small hl)
  show DSs _ (defBody s_is_name) [.d (ds x), .un] [] _
  have hlen : (decide ((1 : Int) ≤ (x.length : Int)) && decide ((x.length : Int) ≤ 12)) = lenIn x 12 := by
    unfold lenIn
    rw [Bool.eq_iff_iff, Bool.and_eq_true_iff, Bool.and_eq_true_iff, decide_eq_true_iff, decide_eq_true_iff, decide_eq_true_iff, decide_eq_true_iff]
    omega
  refine dss_cons (ds_if (ba := !(lenIn x 12 && !headIn digits x.cps.toList)) (et (DT.is (dt_or (ba := !lenIn x 12) (bb := headIn digits x.cps.toList) (DT.is (dt_not (dt_chain de_int (de_len (by kernel_rfl) T.b_len (da_cons (de_name 0 rfl rfl (.inl (by kernel_rfl))) da_nil) (.s hs)) (de_gI (by kernel_rfl) T.c_MOST_NAME_CHARS) o_le o_le)) (congrArg not hlen)) (fun h => (dw_or1 ?_))) (by rw [Bool.not_and, Bool.not_not]))) (fun h => ?_) (fun h => dss_nil ?_))
  · have hp : 1 ≤ x.length := by
      rw [Bool.not_eq_false'] at h
      unfold lenIn at h
      rw [Bool.and_eq_true_iff] at h
      exact of_decide_eq_true h.1
    rw [len_cps] at hp
    cases hc : x.cps.toList with
    | nil => rw [hc] at hp; exact absurd hp (by simp)
    | cons c r => exact dt_cmp (de_ix (d := ds ⟨#[c]⟩) (de_name 0 rfl rfl (.inl (by kernel_rfl))) de_int (ix_s hs (atI_nat (i := 0) (by rw [hc]; rfl)))) de_str o_inSign
  · refine dss_one (ds_ret (d := db false) (ev de_bl) (.inl ?_))
    rw [Bool.not_eq_true'] at h
    unfold nameM; rw [h]; rfl
  rw [Bool.not_eq_false'] at h
  refine dss_one (ds_ret (d := db (x.cps.toList.all (inStr chars))) (ev (DE.is (de_all (bs := ((signs x).filter fun _ => true).map (inD1 chars)) rfl (by kernel_rfl) T.b_all (da_cons (DE.is (DN.de (dn_lc (its := signs x) (own := [("char", 1)]) (asg := asgA 1) (keep := fun _ => true) (g := fun d => db (inD1 chars d)) rfl nd (di_str (de_name 0 rfl rfl (.inl (by kernel_rfl)))) (blkOk_by (by kernel_rfl)) ?_ (fun s H C cl fp i d hd => ?_))) ?_) da_nil)) ?_)) (.inl ?_))
  · unfold signs; rw [List.length_map, ← len_cps]; exact small hl
  · obtain ⟨c, hc, rfl⟩ := map_get hd
    exact ⟨(dg_name 1 nd rfl (.inl (by kernel_rfl)) (.inr (by kernel_rfl))), by simp [asgA], dts_nil, fun _ => (de_cmp (de_name 1 rfl rfl (.inl (by kernel_rfl))) (de_gS (by kernel_rfl) T.c_NAME_CHARS) o_inSign)⟩
  · rw [List.map_map]; rfl
  · rw [signs_all]
  · unfold nameM; rw [h, Bool.true_and]
def R_is_number (ds' : List D) (d : D) : Prop := ∃ x : Str, ds' = [ds x] ∧ x.length ≤ 100000 ∧ d = db (numM x)
theorem ok_is_number (T : Tx K mg) : Cal P w K mg base 1 "is_number" (spD K R_is_number) [] := by
  refine calD T.f_is_number sc_is_number (fun ds d ⟨L, e, _⟩ => by rw [e]; rfl) (fun _ _ _ _ _ _ us hl => match us, hl with | [_], _ => rfl) ?_
  rintro cdv f A outer s H E _ _ ⟨x, rfl, hl, rfl⟩ hr
  have nd := (sc_is_number).nd
  have hs : x.length ≤ sizeLine := Nat.le_of_lt (small hl)
  show DSs _ (defBody s_is_number) [.d (ds x), .un] [] _
  have hlen : (decide ((1 : Int) ≤ (x.length : Int)) && decide ((x.length : Int) ≤ 6)) = lenIn x 6 := by
    unfold lenIn
    rw [Bool.eq_iff_iff, Bool.and_eq_true_iff, Bool.and_eq_true_iff, decide_eq_true_iff, decide_eq_true_iff, decide_eq_true_iff, decide_eq_true_iff]
    omega
  refine dss_cons (ds_if (ba := !(lenIn x 6 && x.cps.toList.all (inStr digits))) (et (DT.is (dt_or (ba := !lenIn x 6) (bb := !x.cps.toList.all (inStr digits)) (DT.is (dt_not (dt_chain de_int (de_len (by kernel_rfl) T.b_len (da_cons (de_name 0 rfl rfl (.inl (by kernel_rfl))) da_nil) (.s hs)) (de_gI (by kernel_rfl) T.c_MOST_DIGITS) o_le o_le)) (congrArg not hlen)) (fun h => (dw_or1 (dt_not (dt_val (DE.is (de_all (bs := ((signs x).filter fun _ => true).map (inD1 digits)) rfl (by kernel_rfl) T.b_all (da_cons (DE.is (DN.de (dn_lc (its := signs x) (own := [("char", 1)]) (asg := asgA 1) (keep := fun _ => true) (g := fun d => db (inD1 digits d)) rfl nd (di_str (de_name 0 rfl rfl (.inl (by kernel_rfl)))) (blkOk_by (by kernel_rfl)) ?_ (fun s H C cl fp i d hd => ?_))) ?_) da_nil)) ?_)))))) (by rw [Bool.not_and]))) (fun h => ?_) (fun h => dss_nil ?_))
  · unfold signs; rw [List.length_map, ← len_cps]; exact small hl
  · obtain ⟨c, hc, rfl⟩ := map_get hd
    exact ⟨(dg_name 1 nd rfl (.inl (by kernel_rfl)) (.inr (by kernel_rfl))), by simp [asgA], dts_nil, fun _ => (de_cmp (de_name 1 rfl rfl (.inl (by kernel_rfl))) (de_gS (by kernel_rfl) T.c_DIGITS) o_inSign)⟩
  · rw [List.map_map]; rfl
  · rw [signs_all]
  · refine dss_one (ds_ret (d := db false) (ev de_bl) (.inl ?_))
    rw [Bool.not_eq_true'] at h
    unfold numM; rw [h]; rfl
  rw [Bool.not_eq_false'] at h
  have hp : 1 ≤ x.length := by
    rw [Bool.and_eq_true_iff] at h
    have := h.1
    unfold lenIn at this
    rw [Bool.and_eq_true_iff] at this
    exact of_decide_eq_true this.1
  rw [len_cps] at hp
  cases hc : x.cps.toList with
  | nil => rw [hc] at hp; exact absurd hp (by simp)
  | cons c r =>
  have hhd : (decide ((⟨#[c]⟩ : Str) = "0")) = headIs 48 x.cps.toList := by
    rw [hc]
    show _ = decide (c = 48)
    rw [Bool.eq_iff_iff, decide_eq_true_iff, decide_eq_true_iff, show ("0" : Str) = (⟨#[48]⟩ : Str) from rfl, sign_inj]
  refine dss_one (ds_ret (d := db (decide (x = "0") || !headIs 48 x.cps.toList)) (ev (de_or (de_cmp (de_name 0 rfl rfl (.inl (by kernel_rfl))) de_str o_eqS) (fun _ => (de_one (DE.is (de_cmp (de_ix (d := ds ⟨#[c]⟩) (de_name 0 rfl rfl (.inl (by kernel_rfl))) de_int (ix_s hs (atI_nat (i := 0) (by rw [hc]; rfl)))) de_str o_neS) (congrArg db (congrArg not hhd))))))) (.inl ?_))
  unfold numM; rw [h, Bool.true_and]
end Ef
set_option maxRecDepth 100000
set_option maxHeartbeats 4000000
/-! Gl: is_label, is_catch. -/
namespace Ef
open PySem L2 C8 RZ PyProof.Rows PySem.Spec PySem.W
variable {P : Program} {w : World} {K : PySem.W.Frag} {mg : Str → Option Value} {base : Heap}
def labW : List Str → Bool
  | [a, b, c] => decide (a = "label") && (nameM b && numM c)
  | _ => false
def catW : List Str → Bool
  | [a, b, c, e] => (decide (a = "catch") && nameM b) && ((decide (c = "-") || nameM c) && numM e)
  | _ => false
def shortW (ws : List Str) : Prop := ws.length ≤ 1000 ∧ ∀ x ∈ ws, x.length ≤ 100000
def R_is_label (ds' : List D) (d : D) : Prop := ∃ ws : List Str, ds' = [.lst (ws.map ds)] ∧ shortW ws ∧ d = db (labW ws)
theorem dec_len (ws : List Str) (n : Nat) : decide (((ws.map ds).length : Int) = (n : Int)) = decide (ws.length = n) := by
  rw [List.length_map, Bool.eq_iff_iff, decide_eq_true_iff, decide_eq_true_iff]; omega
theorem ok_is_label (T : Tx K mg) : Cal P w K mg base 2 "is_label" (spD K R_is_label) [] := by
  refine calD T.f_is_label sc_is_label (fun ds d ⟨L, e, _⟩ => by rw [e]; rfl) (fun _ _ _ _ _ _ us hl => match us, hl with | [_], _ => rfl) ?_
  rintro cdv f A outer s H E _ _ ⟨ws, rfl, ⟨hl1, hl2⟩, rfl⟩ hr
  show DSs _ (defBody s_is_label) [.d (.lst (ws.map ds))] [] _
  by_cases h3 : ws.length = 3
  · match ws, h3, hl2 with
    | [a, b, c], _, hl2 =>
      exact dss_one (ds_ret (d := db (labW [a, b, c])) (ev (DE.is (de_and (ba := true) (bb := decide (a = "label") && (nameM b && numM c)) (DE.is (de_cmp (de_len (by kernel_rfl) T.b_len (da_cons (de_name 0 rfl rfl (.inl (by kernel_rfl))) da_nil) (.l _)) de_int o_eqI) rfl) (fun _ => (de_and (de_cmp (de_ix (d := ds a) (de_name 0 rfl rfl (.inl (by kernel_rfl))) de_int (ix_l rfl)) de_str o_eqS) (fun _ => (de_and (de_call (ok_is_name T) hr (by kernel_rfl) (da_cons (de_ix (d := ds b) (de_name 0 rfl rfl (.inl (by kernel_rfl))) de_int (ix_l rfl)) da_nil) ⟨b, rfl, hl2 b (by simp), rfl⟩) (fun _ => (de_one (de_call (ok_is_number T) hr (by kernel_rfl) (da_cons (de_ix (d := ds c) (de_name 0 rfl rfl (.inl (by kernel_rfl))) de_int (ix_l rfl)) da_nil) ⟨c, rfl, hl2 c (by simp), rfl⟩)))))))) rfl)) (.inl rfl))
  · have e : labW ws = false := by
      match ws, h3 with
      | [], _ => rfl
      | [_], _ => rfl
      | [_, _], _ => rfl
      | [_, _, _], h => exact absurd rfl h
      | _ :: _ :: _ :: _ :: _, _ => rfl
    rw [e]
    exact dss_one (ds_ret (d := db false) (ev (de_and (ba := false) (bb := false) (DE.is (de_cmp (de_len (by kernel_rfl) T.b_len (da_cons (de_name 0 rfl rfl (.inl (by kernel_rfl))) da_nil) (.l _)) de_int o_eqI) (congrArg db ((dec_len ws 3).trans (decide_eq_false h3)))) (fun h => by cases h))) (.inl rfl))
def R_is_catch (ds' : List D) (d : D) : Prop := ∃ ws : List Str, ds' = [.lst (ws.map ds)] ∧ shortW ws ∧ d = db (catW ws)
theorem ok_is_catch (T : Tx K mg) : Cal P w K mg base 2 "is_catch" (spD K R_is_catch) [] := by
  refine calD T.f_is_catch sc_is_catch (fun ds d ⟨L, e, _⟩ => by rw [e]; rfl) (fun _ _ _ _ _ _ us hl => match us, hl with | [_], _ => rfl) ?_
  rintro cdv f A outer s H E _ _ ⟨ws, rfl, ⟨hl1, hl2⟩, rfl⟩ hr
  show DSs _ (defBody s_is_catch) [.d (.lst (ws.map ds))] [] _
  by_cases h3 : ws.length = 4
  · match ws, h3, hl2 with
    | [a, b, c, e], _, hl2 =>
      refine dss_cons (ds_if (ba := !(decide (a = "catch") && nameM b)) (et (DT.is (dt_or (ba := false) (bb := !(decide (a = "catch") && nameM b)) (DT.is (dt_cmp (de_len (by kernel_rfl) T.b_len (da_cons (de_name 0 rfl rfl (.inl (by kernel_rfl))) da_nil) (.l _)) de_int o_neI) rfl) (fun _ => ?_)) (Bool.false_or _))) (fun h => ?_) (fun h => dss_nil ?_))
      · rw [Bool.not_and]
        exact (dw_or (dt_cmp (de_ix (d := ds a) (de_name 0 rfl rfl (.inl (by kernel_rfl))) de_int (ix_l rfl)) de_str o_neS) (fun _ => (dw_or1 (dt_not (dt_val (de_call (ok_is_name T) hr (by kernel_rfl) (da_cons (de_ix (d := ds b) (de_name 0 rfl rfl (.inl (by kernel_rfl))) de_int (ix_l rfl)) da_nil) ⟨b, rfl, hl2 b (by simp), rfl⟩))))))
      · refine dss_one (ds_ret (d := db false) (ev de_bl) (.inl ?_))
        rw [Bool.not_eq_true'] at h
        show RV.dat _ = RV.dat (db ((decide (a = "catch") && nameM b) && _))
        rw [h]; rfl
      rw [Bool.not_eq_false'] at h
      refine dss_one (ds_ret (d := db ((decide (c = "-") || nameM c) && numM e)) (ev (de_and (de_or (de_cmp (de_ix (d := ds c) (de_name 0 rfl rfl (.inl (by kernel_rfl))) de_int (ix_l rfl)) (de_gS (by kernel_rfl) T.c_NO_LINK) o_eqS) (fun _ => (de_one (de_call (ok_is_name T) hr (by kernel_rfl) (da_cons (de_ix (d := ds c) (de_name 0 rfl rfl (.inl (by kernel_rfl))) de_int (ix_l rfl)) da_nil) ⟨c, rfl, hl2 c (by simp), rfl⟩)))) (fun _ => (de_one (de_call (ok_is_number T) hr (by kernel_rfl) (da_cons (de_ix (d := ds e) (de_name 0 rfl rfl (.inl (by kernel_rfl))) de_int (ix_l rfl)) da_nil) ⟨e, rfl, hl2 e (by simp), rfl⟩))))) (.inl ?_))
      show RV.dat _ = RV.dat (db ((decide (a = "catch") && nameM b) && _))
      rw [h, Bool.true_and]
  · have e : catW ws = false := by
      match ws, h3 with
      | [], _ => rfl
      | [_], _ => rfl
      | [_, _], _ => rfl
      | [_, _, _], _ => rfl
      | [_, _, _, _], h => exact absurd rfl h
      | _ :: _ :: _ :: _ :: _ :: _, _ => rfl
    rw [e]
    refine dss_cons (ds_if (ba := true) (et (dt_or (ba := true) (bb := true) (DT.is (dt_cmp (de_len (by kernel_rfl) T.b_len (da_cons (de_name 0 rfl rfl (.inl (by kernel_rfl))) da_nil) (.l _)) de_int o_neI) (congrArg not ((dec_len ws 4).trans (decide_eq_false h3)))) (fun h => by cases h))) (fun h => ?_) (fun h => by cases h))
    exact dss_one (ds_ret (d := db false) (ev de_bl) (.inl rfl))
end Ef
set_option maxRecDepth 100000
set_option maxHeartbeats 4000000
/-! Gn: papers' texts as data: what is written is read back. -/
namespace Ef
open PySem L2 C8 RZ PyProof.Rows PySem.Spec PySem.W TL
def numS (i : Int) : Str := toString i
def labLine (r : Str × Int) : List Str := ["label", r.1, numS r.2]
def catLine (r : RowC) : List Str := ["catch", r.1, r.2.1.getD "-", numS r.2.2]
def wordsM (t : Told) : List (List Str) := [t.word] :: (t.labels.map labLine ++ t.chain.map catLine)
def lineM (ws : List Str) : Str := Txt.join " " ws
def textM (t : Told) : Str := Txt.join "\n" ((wordsM t).map lineM)
def wordsOk : List Str := ["never", "maybe", "surely"]
structure TextOk (t : Told) : Prop where
  word : t.word ∈ wordsOk
  lab : ∀ r ∈ t.labels, nameM r.1 = true ∧ 0 ≤ r.2 ∧ r.2 < 1000000
  ch : ∀ r ∈ t.chain, nameM r.1 = true ∧ (∀ n, r.2.1 = some n → nameM n = true) ∧ 0 ≤ r.2.2 ∧ r.2.2 < 1000000
  ll : t.labels.length ≤ 1000
  cl : t.chain.length ≤ 1000
/-! ### names, numbers -/
theorem name_len {x : Str} (h : nameM x = true) : 1 ≤ x.length ∧ x.length ≤ 12 := by
  unfold nameM lenIn at h
  rw [Bool.and_eq_true_iff, Bool.and_eq_true_iff, Bool.and_eq_true_iff] at h
  exact ⟨of_decide_eq_true h.1.1.1, of_decide_eq_true h.1.1.2⟩
theorem name_free {x : Str} (h : nameM x = true) {c : Nat} (hc : inStr chars c = false) : c ∉ tl x := by
  unfold nameM at h
  rw [Bool.and_eq_true_iff, List.all_eq_true] at h
  intro hm
  rw [h.2 c hm] at hc; cases hc
theorem num_nat {m : Int} (h : 0 ≤ m) : numS m = Str.ofString (toString ((m.toNat : Nat) : Int)) := by
  have e : ((m.toNat : Nat) : Int) = m := Int.toNat_of_nonneg h
  rw [e]; rfl
theorem tl_numS {m : Int} (h : 0 ≤ m) : tl (numS m) = numL m.toNat := by rw [num_nat h, tl_num]
theorem num_free {m : Int} (h : 0 ≤ m) {c : Nat} (hc : c < 48 ∨ 57 < c) : c ∉ tl (numS m) := by rw [tl_numS h]; exact numL_free hc
theorem num_len {m : Int} (h : 0 ≤ m) (h6 : m < 1000000) : (numS m).length ≤ 6 := by
  rw [len_cps]
  show (tl (numS m)).length ≤ 6
  rw [tl_numS h]
  exact numL_len (by decide) (by omega)
theorem num_int {m : Int} (h : 0 ≤ m) (h6 : m < 1000000) : PySem.intText? (numS m) = some m := by
  have e : ((m.toNat : Nat) : Int) = m := Int.toNat_of_nonneg h
  have hl : (numL m.toNat).length ≤ 6 := numL_len (by decide) (by omega)
  rw [num_nat h, int_num (Nat.le_trans hl (by decide)), e]
theorem in_digits {c : Nat} (h : 48 ≤ c ∧ c ≤ 57) : inStr digits c = true := by
  obtain ⟨h1, h2⟩ := h
  have : c = 48 ∨ c = 49 ∨ c = 50 ∨ c = 51 ∨ c = 52 ∨ c = 53 ∨ c = 54 ∨ c = 55 ∨ c = 56 ∨ c = 57 := by omega
  rcases this with rfl | rfl | rfl | rfl | rfl | rfl | rfl | rfl | rfl | rfl <;> decide
theorem numL_head : ∀ (n : Nat), 0 < n → ∃ c r, numL n = c :: r ∧ c ≠ 48 := fun n => by
  induction n using Nat.strongRecOn with
  | ind n ih =>
    intro hn
    by_cases h : n < 10
    · exact ⟨48 + n, [], numL_lt h, by omega⟩
    · obtain ⟨c, r, e, hc⟩ := ih (n / 10) (by omega) (by omega)
      exact ⟨c, r ++ [48 + n % 10], by rw [numL_step (by omega), e]; rfl, hc⟩
theorem num_numM {m : Int} (h : 0 ≤ m) (h6 : m < 1000000) : numM (numS m) = true := by
  have e := tl_numS h
  have hne : 1 ≤ (numS m).length := by
    rw [len_cps]
    show 1 ≤ (tl (numS m)).length
    rw [e]
    exact List.length_pos_iff.mpr (numL_ne _)
  unfold numM lenIn
  rw [decide_eq_true hne, decide_eq_true (num_len h h6), Bool.and_eq_true_iff]
  refine ⟨?_, ?_⟩
  · rw [Bool.true_and, Bool.true_and, List.all_eq_true]
    intro c hc
    have hc : c ∈ tl (numS m) := hc
    rw [e] at hc
    exact in_digits (numL_digits m.toNat c hc)
  · rw [Bool.or_eq_true_iff]
    by_cases hz : m = 0
    · subst hz; exact .inl (by decide +kernel)
    · refine .inr ?_
      obtain ⟨c, r, e2, hc⟩ := numL_head m.toNat (by omega)
      have : (numS m).cps.toList = c :: r := e.trans e2
      rw [this]
      show (!decide (c = 48)) = true
      rw [decide_eq_false hc]; rfl
/-! ### join, split -/
theorem mem_joinL {S : List Nat} {c : Nat} : ∀ {l : List (List Nat)}, c ∈ joinL S l → c ∈ S ∨ ∃ p ∈ l, c ∈ p
  | [], h => by cases h
  | [p], h => .inr ⟨p, List.mem_cons_self, h⟩
  | p :: q :: r, h => by
    have h : c ∈ p ++ (S ++ joinL S (q :: r)) := h
    rcases List.mem_append.mp h with h | h
    · exact .inr ⟨p, List.mem_cons_self, h⟩
    · rcases List.mem_append.mp h with h | h
      · exact .inl h
      · rcases mem_joinL h with h | ⟨z, hz, hc⟩
        · exact .inl h
        · exact .inr ⟨z, List.mem_cons_of_mem _ hz, hc⟩
theorem mem_line {ws : List Str} {c : Nat} (h : c ∈ tl (lineM ws)) : c = 32 ∨ ∃ x ∈ ws, c ∈ tl x := by
  unfold lineM at h
  rw [join_eq, tl_join] at h
  rcases mem_joinL h with h | ⟨p, hp, hc⟩
  · exact .inl (by rcases List.mem_singleton.mp h with rfl; rfl)
  · obtain ⟨x, hx, rfl⟩ := List.mem_map.mp hp
    exact .inr ⟨x, hx, hc⟩
def SafeW (x : Str) : Prop := 10 ∉ tl x ∧ 32 ∉ tl x
theorem name_safe {x : Str} (h : nameM x = true) : SafeW x := ⟨name_free h (by decide), name_free h (by decide)⟩
theorem num_safe {m : Int} (h : 0 ≤ m) : SafeW (numS m) := ⟨num_free h (by decide), num_free h (by decide)⟩
theorem words_safe {t : Told} (h : TextOk t) : ∀ ws ∈ wordsM t, ws ≠ [] ∧ ∀ x ∈ ws, SafeW x := by
  intro ws hws
  rcases List.mem_cons.mp hws with rfl | hws
  · refine ⟨by simp, fun x hx => ?_⟩
    rcases List.mem_singleton.mp hx with rfl
    have := h.word
    unfold wordsOk at this
    rcases List.mem_cons.mp this with e | this
    · rw [e]; exact ⟨by decide, by decide⟩
    · rcases List.mem_cons.mp this with e | this
      · rw [e]; exact ⟨by decide, by decide⟩
      · rw [List.mem_singleton.mp this]; exact ⟨by decide, by decide⟩
  · rcases List.mem_append.mp hws with hws | hws
    · obtain ⟨r, hr, rfl⟩ := List.mem_map.mp hws
      obtain ⟨h1, h2, h3⟩ := h.lab r hr
      refine ⟨by simp [labLine], fun x hx => ?_⟩
      rcases List.mem_cons.mp hx with rfl | hx
      · exact ⟨by decide, by decide⟩
      · rcases List.mem_cons.mp hx with rfl | hx
        · exact name_safe h1
        · rw [List.mem_singleton.mp hx]; exact num_safe h2
    · obtain ⟨r, hr, rfl⟩ := List.mem_map.mp hws
      obtain ⟨h1, h2, h3, h4⟩ := h.ch r hr
      refine ⟨by simp [catLine], fun x hx => ?_⟩
      rcases List.mem_cons.mp hx with rfl | hx
      · exact ⟨by decide, by decide⟩
      · rcases List.mem_cons.mp hx with rfl | hx
        · exact name_safe h1
        · rcases List.mem_cons.mp hx with e | hx
          · rw [e]
            cases hn : r.2.1 with
            | none => exact ⟨by decide, by decide⟩
            | some n => exact name_safe (h2 n hn)
          · rw [List.mem_singleton.mp hx]; exact num_safe h3
theorem split_line {ws : List Str} (hne : ws ≠ []) (h : ∀ x ∈ ws, SafeW x) : Txt.split (lineM ws) " " = ws := split_join (s := 32) (S := []) rfl (by decide +kernel) hne (fun p hp => (h p hp).2)
theorem split_text {t : Told} (h : TextOk t) : Txt.split (textM t) "\n" = (wordsM t).map lineM := by
  unfold textM
  refine split_join (s := 10) (S := []) rfl (by decide +kernel) (by simp [wordsM]) (fun p hp => ?_)
  obtain ⟨ws, hws, rfl⟩ := List.mem_map.mp hp
  intro hm
  rcases mem_line hm with e | ⟨x, hx, hc⟩
  · cases e
  · exact ((words_safe h ws hws).2 x hx).1 hc
/-! ### lengths -/
theorem len_joinL (S : List Nat) : ∀ l : List (List Nat), (joinL S l).length ≤ (l.map fun p => p.length + S.length).sum
  | [] => Nat.zero_le _
  | [p] => by show p.length ≤ _; simp
  | p :: q :: r => by
    have ih := len_joinL S (q :: r)
    show (p ++ (S ++ joinL S (q :: r))).length ≤ _
    rw [List.length_append, List.length_append, List.map_cons, List.sum_cons]
    omega
theorem sum_le {α : Type} {f : α → Nat} {n : Nat} : ∀ {l : List α}, (∀ x ∈ l, f x ≤ n) → (l.map f).sum ≤ l.length * n
  | [], _ => Nat.zero_le _
  | x :: l, h => by
    have ih := sum_le (l := l) (fun y hy => h y (List.mem_cons_of_mem _ hy))
    have := h x List.mem_cons_self
    rw [List.map_cons, List.sum_cons, List.length_cons, Nat.succ_mul]
    omega
theorem words_len {t : Told} (h : TextOk t) : ∀ ws ∈ wordsM t, ws.length ≤ 4 ∧ ∀ x ∈ ws, x.length ≤ 12 := by
  intro ws hws
  rcases List.mem_cons.mp hws with rfl | hws
  · refine ⟨by simp, fun x hx => ?_⟩
    rcases List.mem_singleton.mp hx with rfl
    have := h.word
    unfold wordsOk at this
    rcases List.mem_cons.mp this with e | this
    · rw [e]; decide
    · rcases List.mem_cons.mp this with e | this
      · rw [e]; decide
      · rw [List.mem_singleton.mp this]; decide
  · rcases List.mem_append.mp hws with hws | hws
    · obtain ⟨r, hr, rfl⟩ := List.mem_map.mp hws
      obtain ⟨h1, h2, h3⟩ := h.lab r hr
      refine ⟨by simp [labLine], fun x hx => ?_⟩
      rcases List.mem_cons.mp hx with rfl | hx
      · decide
      · rcases List.mem_cons.mp hx with rfl | hx
        · exact (name_len h1).2
        · rw [List.mem_singleton.mp hx]; exact Nat.le_trans (num_len h2 h3) (by decide)
    · obtain ⟨r, hr, rfl⟩ := List.mem_map.mp hws
      obtain ⟨h1, h2, h3, h4⟩ := h.ch r hr
      refine ⟨by simp [catLine], fun x hx => ?_⟩
      rcases List.mem_cons.mp hx with rfl | hx
      · decide
      · rcases List.mem_cons.mp hx with rfl | hx
        · exact (name_len h1).2
        · rcases List.mem_cons.mp hx with e | hx
          · rw [e]
            cases hn : r.2.1 with
            | none => decide
            | some n => exact (name_len (h2 n hn)).2
          · rw [List.mem_singleton.mp hx]; exact Nat.le_trans (num_len h3 h4) (by decide)
theorem line_len {ws : List Str} (h : ws.length ≤ 4) (h2 : ∀ x ∈ ws, x.length ≤ 12) : (lineM ws).length ≤ 52 := by
  rw [len_cps]
  show (tl (lineM ws)).length ≤ 52
  unfold lineM
  rw [join_eq, tl_join]
  refine Nat.le_trans (len_joinL _ _) ?_
  rw [List.map_map]
  refine Nat.le_trans (sum_le (n := 13) (fun x hx => ?_)) (by omega)
  show (tl x).length + 1 ≤ 13
  have := h2 x hx
  rw [len_cps] at this
  exact Nat.succ_le_succ this
theorem words_count {t : Told} (h : TextOk t) : (wordsM t).length ≤ 2001 := by
  unfold wordsM
  rw [List.length_cons, List.length_append, List.length_map, List.length_map]
  have := h.ll; have := h.cl
  omega
theorem text_len {t : Told} (h : TextOk t) : (textM t).length ≤ 200000 := by
  rw [len_cps]
  show (tl (textM t)).length ≤ _
  unfold textM
  rw [join_eq, tl_join]
  refine Nat.le_trans (len_joinL _ _) ?_
  rw [List.map_map]
  refine Nat.le_trans (sum_le (n := 53) (fun x hx => ?_)) ?_
  · obtain ⟨ws, hws, rfl⟩ := List.mem_map.mp hx
    show (tl (lineM ws)).length + 1 ≤ 53
    have := line_len (words_len h ws hws).1 (words_len h ws hws).2
    rw [len_cps] at this
    exact Nat.succ_le_succ this
  · rw [List.length_map]
    have := words_count h
    omega
end Ef
set_option maxRecDepth 100000
set_option maxHeartbeats 4000000
/-! Go: parse_paper, paper_text, check_text. -/
namespace Ef
open PySem L2 C8 RZ PyProof.Rows PySem.Spec PySem.W TL
variable {P : Program} {w : World} {K : PySem.W.Frag} {mg : Str → Option Value} {base : Heap}
def wordD (ws : List Str) : D := .lst (ws.map ds)
def gSplit : D → D
  | .v (.str z) => wordD (Txt.split z " ")
  | d => d
theorem parse_lines {t : Told} (h : TextOk t) : (((Txt.split (textM t) "\n").map ds).filter fun _ => true).map gSplit = (wordsM t).map wordD := by
  rw [filtT, split_text h, List.map_map, List.map_map]
  refine List.map_congr_left fun ws hws => ?_
  show wordD (Txt.split (lineM ws) " ") = wordD ws
  rw [split_line (words_safe h ws hws).1 (words_safe h ws hws).2]
theorem lab_of {r : Str × Int} (h : nameM r.1 = true ∧ 0 ≤ r.2 ∧ r.2 < 1000000) : labW (labLine r) = true := by
  show (decide (("label" : Str) = "label") && (nameM r.1 && numM (numS r.2))) = true
  rw [h.1, num_numM h.2.1 h.2.2]; rfl
theorem cat_notlab (r : RowC) : labW (catLine r) = false := rfl
theorem cat_of {r : RowC} (h : nameM r.1 = true ∧ (∀ n, r.2.1 = some n → nameM n = true) ∧ 0 ≤ r.2.2 ∧ r.2.2 < 1000000) : catW (catLine r) = true := by
  show ((decide (("catch" : Str) = "catch") && nameM r.1) && ((decide (r.2.1.getD "-" = "-") || nameM (r.2.1.getD "-")) && numM (numS r.2.2))) = true
  rw [h.1, num_numM h.2.2.1 h.2.2.2]
  cases hn : r.2.1 with
  | none => rfl
  | some n => show (true && ((decide (n = "-") || nameM n) && true)) = true; rw [h.2.1 n hn, Bool.or_true]; rfl
theorem name_ne_dash {n : Str} (h : nameM n = true) : ¬ n = "-" := fun e => by rw [e] at h; revert h; decide +kernel
def R_parse_paper (ds' : List D) (d : D) : Prop := ∃ t : Told, ds' = [ds (textM t)] ∧ TextOk t ∧ d = paperD t
theorem ok_parse_paper (T : Tx K mg) : Cal P w K mg base 3 "parse_paper" (spN K R_parse_paper) [] := by
  refine calN T.f_parse_paper sc_parse_paper (fun ds d ⟨L, e, _⟩ => by rw [e]; rfl) (fun _ _ _ _ _ _ us hl => match us, hl with | [_], _ => rfl) ?_
  rintro cdv f A outer s H E _ _ ⟨t, rfl, ht, rfl⟩ hr
  have nd := (sc_parse_paper).nd
  have hu := hu_of hr
  obtain ⟨fdP, okP, bP⟩ := ok_Paper (P := P) (base := base) T
  have htl := text_len ht
  have hsz : (200002 : Nat) ≤ sizeLine := by decide
  show DSs _ (defBody s_parse_paper) [.d (ds (textM t)), .un, .un, .un, .un, .un, .un] [] _
  refine dss_cons (ds_setLcD (its := (Txt.split (textM t) "\n").map ds) (own := [("line", 6)]) (asg := asgA 6) (keep := fun _ => true) (g := gSplit) 1 rfl nd (di_list (DN.de (dn_split (by decide +kernel) (by omega) (de_name 0 rfl rfl (.inl (by kernel_rfl))) de_str))) (blkOk_by (by kernel_rfl)) ?_ (fun s H C cl fp i d hd => ?_) ?_ rfl (by kernel_rfl))
  · rw [List.length_map, split_text ht, List.length_map]; exact small (m := 2001) (words_count ht)
  · obtain ⟨z, hz, rfl⟩ := map_get hd
    rw [split_text ht] at hz
    obtain ⟨ws, hws, rfl⟩ := map_get hz
    have hll := line_len (words_len ht ws (List.mem_of_getElem? hws)).1 (words_len ht ws (List.mem_of_getElem? hws)).2
    exact ⟨(dg_name 6 nd rfl (.inl (by kernel_rfl)) (.inr (by kernel_rfl))), by simp [asgA], dts_nil, fun _ => (DN.de (dn_split (by decide +kernel) (by omega) (de_name 6 rfl rfl (.inl (by kernel_rfl))) de_str))⟩
  rw [parse_lines ht]
  show DSs _ _ [.d (ds (textM t)), .d (.lst ((wordsM t).map wordD)), .un, .un, .un, .un, .un] [] _
  have h0 : ((wordsM t).map wordD)[0]? = some (wordD [t.word]) := rfl
  obtain ⟨wa, hwm, hwt⟩ := T.c_WORDS
  refine dss_cons (ds_if (ba := false) (et (DT.is (dt_or (ba := false) (DT.is (dt_cmp (de_len (n := 1) (by kernel_rfl) T.b_len (da_cons (de_ix (d := wordD [t.word]) (de_name 1 rfl rfl (.inl (by kernel_rfl))) de_int (ix_l (atI_nat (i := 0) h0))) da_nil) (.l _)) de_int o_neI) rfl) (fun _ => (dw_or1 (dt_cmp (de_ix (d := ds t.word) (de_ix (d := wordD [t.word]) (de_name 1 rfl rfl (.inl (by kernel_rfl))) de_int (ix_l (atI_nat (i := 0) h0))) de_int (ix_l rfl)) (de_globT (by kernel_rfl) hwm hwt) (o_notInS (ys := wordsOk)))))) (by rw [decide_eq_true ht.word]; rfl))) (fun h => by cases h) (fun h => dss_nil ?_))
  refine dss_cons (ds_setN 2 (en (dn_lst da_nil)) ?_ nd rfl (.inl (by kernel_rfl)) (.inr (by kernel_rfl)))
  refine dss_cons (ds_setN 3 (en (dn_lst da_nil)) ?_ nd rfl (.inl (by kernel_rfl)) (.inr (by kernel_rfl)))
  show DSs _ _ [.d (ds (textM t)), .d (.lst ((wordsM t).map wordD)), .c 0, .c 1, .un, .un, .un] [.dat (.lst []), .dat (.lst [])] _
  have hdrop : cutG ((wordsM t).map wordD) (some 1) none = (t.labels.map labLine ++ t.chain.map catLine).map wordD := by rw [cutG_from1]; rfl
  refine dss_cons (ds_for (asg := asg1 4 5) (its := enumD 2 (cutG ((wordsM t).map wordD) (some 1) none)) (fun i ρ cs => ∃ x y, ρ = [.d (ds (textM t)), .d (.lst ((wordsM t).map wordD)), .c 0, .c 1, x, y, .un] ∧ cs = [.dat (.lst ((t.labels.take i).map rowD)), .dat (.lst ((t.chain.take (i - t.labels.length)).map chD))]) PassesOwn.never rfl (ei (di_eL2 (k := 2) (by decide) (by decide) (by kernel_rfl) T.b_enumerate (DN.de (dn_slice (de_name 1 rfl rfl (.inl (by kernel_rfl))) (do_some de_int) do_none)) de_int)) ⟨_, _, rfl, by rw [Nat.zero_sub]; rfl⟩ (fun i d ρ cs hd iv => ?_) (fun ρ cs iv => ?_))
  · obtain ⟨x, y, rfl, rfl⟩ := iv
    obtain ⟨dw', hdw, rfl⟩ := enumD_get hd
    rw [hdrop] at hdw
    obtain ⟨ws, hws, rfl⟩ := map_get hdw
    refine ⟨(dg_tup rfl (dgs_cons (dg_name 4 nd rfl (.inl (by kernel_rfl)) (.inr (by kernel_rfl))) (dgs_cons (dg_name 5 nd rfl (.inl (by kernel_rfl)) (.inr (by kernel_rfl))) dgs_nil))), ?_⟩
    have hsw : shortW ws := by
      have hm : ws ∈ wordsM t := List.mem_cons_of_mem _ (List.mem_of_getElem? hws)
      have := words_len ht ws hm
      exact ⟨by omega, fun x hx => by have := this.2 x hx; omega⟩
    show DSs _ _ [.d (ds (textM t)), .d (.lst ((wordsM t).map wordD)), .c 0, .c 1, .d _, .d (.lst (ws.map ds)), .un] _ _
    by_cases hi : i < t.labels.length
    · rw [List.getElem?_append_left (by rw [List.length_map]; exact hi)] at hws
      obtain ⟨r, hr', rfl⟩ := map_get hws
      have hro := ht.lab r (List.mem_of_getElem? hr')
      have hz : i - t.labels.length = 0 := by omega
      have hz1 : i + 1 - t.labels.length = 0 := by omega
      rw [hz]
      refine dss_one (ds_if (ba := true) (et (DT.is (dt_and (ba := true) (bb := true) (DT.is (dt_val (de_call (ok_is_label T) hr (by kernel_rfl) (da_cons (de_name 5 rfl rfl (.inl (by kernel_rfl))) da_nil) ⟨labLine r, rfl, hsw, rfl⟩)) (lab_of hro)) (fun _ => (dw_and1 (DT.is (dt_not (dt_lst (de_name 3 rfl rfl (.inl (by kernel_rfl))))) rfl)))) rfl)) (fun h => ?_) (fun h => by cases h))
      refine dss_one (ds_append 2 rfl rfl (d := rowD r) (ev (de_tup (da_cons (de_ix (d := ds r.1) (de_name 5 rfl rfl (.inl (by kernel_rfl))) de_int (ix_l rfl)) (da_cons (de_intS (num_int hro.2.1 hro.2.2) (Nat.le_trans (num_len hro.2.1 hro.2.2) (by decide)) (by kernel_rfl) T.b_int (da_cons (de_ix (d := ds (numS r.2)) (de_name 5 rfl rfl (.inl (by kernel_rfl))) de_int (ix_l rfl)) da_nil)) da_nil)))) ?_ ⟨_, _, rfl, ?_⟩ rfl (.inl (by kernel_rfl)))
      · rw [List.length_map]; exact small (m := 1000) (Nat.le_trans (by rw [List.length_take]; exact Nat.min_le_right _ _) ht.ll)
      · rw [hz1, take_filter_succ hr', List.map_append]; rfl
    · have hi : t.labels.length ≤ i := by omega
      rw [List.getElem?_append_right (by rw [List.length_map]; exact hi), List.length_map] at hws
      obtain ⟨r, hr', rfl⟩ := map_get hws
      have hro := ht.ch r (List.mem_of_getElem? hr')
      have hz1 : i + 1 - t.labels.length = (i - t.labels.length) + 1 := by omega
      refine dss_one (ds_if (ba := false) (et (dt_and (ba := false) (bb := false) (DT.is (dt_val (de_call (ok_is_label T) hr (by kernel_rfl) (da_cons (de_name 5 rfl rfl (.inl (by kernel_rfl))) da_nil) ⟨catLine r, rfl, hsw, rfl⟩)) (cat_notlab r)) (fun h => by cases h))) (fun h => by cases h) (fun h => ?_))
      refine dss_one (ds_if (ba := true) (et (DT.is (dt_val (de_call (ok_is_catch T) hr (by kernel_rfl) (da_cons (de_name 5 rfl rfl (.inl (by kernel_rfl))) da_nil) ⟨catLine r, rfl, hsw, rfl⟩)) (cat_of hro))) (fun h => ?_) (fun h => by cases h))
      refine dss_one (ds_append 3 rfl rfl (d := chD r) (ev (de_tup (da_cons (de_ix (d := ds r.1) (de_name 5 rfl rfl (.inl (by kernel_rfl))) de_int (ix_l rfl)) (da_cons (de_if (ba := decide (r.2.1.getD "-" = "-")) (d := optS r.2.1) (dt_cmp (de_ix (d := ds (r.2.1.getD "-")) (de_name 5 rfl rfl (.inl (by kernel_rfl))) de_int (ix_l rfl)) (de_gS (by kernel_rfl) T.c_NO_LINK) o_eqS) (fun h => ?_) (fun h => ?_)) (da_cons (de_intS (num_int hro.2.2.1 hro.2.2.2) (Nat.le_trans (num_len hro.2.2.1 hro.2.2.2) (by decide)) (by kernel_rfl) T.b_int (da_cons (de_ix (d := ds (numS r.2.2)) (de_name 5 rfl rfl (.inl (by kernel_rfl))) de_int (ix_l rfl)) da_nil)) da_nil))))) ?_ ⟨_, _, rfl, ?_⟩ rfl (.inl (by kernel_rfl)))
      · cases hn : r.2.1 with
        | none => exact de_non
        | some n => rw [hn] at h; exact absurd (of_decide_eq_true h) (name_ne_dash (hro.2.1 n hn))
      · cases hn : r.2.1 with
        | none => rw [hn] at h; cases h
        | some n => exact de_ix (d := ds n) (de_name 5 rfl rfl (.inl (by kernel_rfl))) de_int (ix_l (by show some (ds (r.2.1.getD "-")) = _; rw [hn]; rfl))
      · rw [List.length_map]; exact small (m := 1000) (Nat.le_trans (by rw [List.length_take]; exact Nat.min_le_right _ _) ht.cl)
      · rw [hz1, take_filter_succ hr', List.map_append]
        have : (t.labels.take (i + 1)) = t.labels.take i := by rw [List.take_of_length_le hi, List.take_of_length_le (by omega)]
        rw [this]; rfl
  · obtain ⟨x, y, rfl, rfl⟩ := iv
    have hn : (enumD 2 (cutG ((wordsM t).map wordD) (some 1) none)).length = t.labels.length + t.chain.length := by
      rw [enumD_length, hdrop, List.length_map, List.length_append, List.length_map, List.length_map]
    rw [hn, List.take_of_length_le (Nat.le_add_right _ _), Nat.add_sub_cancel_left, List.take_length]
    refine dss_freeze (cs := [.dat (.lst (t.labels.map rowD))]) (d := .lst (t.chain.map chD)) ?_
    refine dss_freeze (cs := []) (d := .lst (t.labels.map rowD)) ?_
    show DSs _ _ [.d (ds (textM t)), .d (.lst ((wordsM t).map wordD)), .d (rowsD t.labels), .d (chainD t.chain), _, _, .un] [] _
    exact dss_one (ds_retN (d := paperD t) (en (dn_make T.mk_Paper okP hr (by decide) (by kernel_rfl) T.g_Paper bP (da_cons (de_ix (d := ds t.word) (de_ix (d := wordD [t.word]) (de_name 1 rfl rfl (.inl (by kernel_rfl))) de_int (ix_l (atI_nat (i := 0) h0))) de_int (ix_l rfl)) (da_cons (de_name 2 rfl rfl (.inl (by kernel_rfl))) (da_cons (de_name 3 rfl rfl (.inl (by kernel_rfl))) da_nil))) ⟨t, rfl, Nat.le_trans ht.ll (by decide), Nat.le_trans ht.cl (by decide), rfl⟩)) rfl)
/-! ### paper_text -/
theorem line_lab (r : Str × Int) : catAll Str.empty ["label ", r.1, " ", numS r.2] = lineM (labLine r) := by
  refine str_of_cps ?_
  show tl (((Str.empty ++ "label ") ++ r.1) ++ " " ++ numS r.2) = tl (lineM (labLine r))
  unfold lineM
  rw [join_eq, tl_join, tl_append, tl_append, tl_append, tl_append]
  show (((tl Str.empty ++ tl "label ") ++ tl r.1) ++ tl " ") ++ tl (numS r.2) = tl "label" ++ (tl " " ++ (tl r.1 ++ (tl " " ++ tl (numS r.2))))
  rw [show tl "label " = tl "label" ++ tl " " from by decide +kernel, show tl Str.empty = [] from rfl, List.nil_append, List.append_assoc, List.append_assoc, List.append_assoc]
theorem line_cat (r : RowC) : catAll Str.empty ["catch ", r.1, " ", r.2.1.getD "-", " ", numS r.2.2] = lineM (catLine r) := by
  refine str_of_cps ?_
  show tl (((((Str.empty ++ "catch ") ++ r.1) ++ " ") ++ r.2.1.getD "-") ++ " " ++ numS r.2.2) = tl (lineM (catLine r))
  unfold lineM
  rw [join_eq, tl_join, tl_append, tl_append, tl_append, tl_append, tl_append, tl_append]
  show (((((tl Str.empty ++ tl "catch ") ++ tl r.1) ++ tl " ") ++ tl (r.2.1.getD "-")) ++ tl " ") ++ tl (numS r.2.2) = tl "catch" ++ (tl " " ++ (tl r.1 ++ (tl " " ++ (tl (r.2.1.getD "-") ++ (tl " " ++ tl (numS r.2.2))))))
  rw [show tl "catch " = tl "catch" ++ tl " " from by decide +kernel, show tl Str.empty = [] from rfl, List.nil_append]
  simp only [List.append_assoc]
def gLab : D → D
  | .tup [.v (.str p), .v (.int m)] => ds (lineM (labLine (p, m)))
  | d => d
theorem log_small {i : Int} (h : 0 ≤ i) (h6 : i < 1000000) : i.natAbs.log2 < 1920 := by
  have h1 : i.natAbs < 2 ^ 20 := by
    have : (2 : Nat) ^ 20 = 1048576 := by decide
    omega
  by_cases z : i.natAbs = 0
  · rw [z]; decide
  · have := (Nat.log2_lt z).mpr h1
    omega
def R_paper_text (ds' : List D) (d : D) : Prop := ∃ t : Told, ds' = [paperD t] ∧ TextOk t ∧ d = ds (textM t)
theorem text_join (t : Told) : Txt.join "\n" (t.word :: (t.labels.map (fun r => lineM (labLine r)) ++ t.chain.map (fun r => lineM (catLine r)))) = textM t := by
  unfold textM wordsM
  rw [List.map_cons, List.map_append, List.map_map, List.map_map]
  have : lineM [t.word] = t.word := by
    refine str_of_cps ?_
    show tl (lineM [t.word]) = tl t.word
    unfold lineM
    rw [join_eq, tl_join]; rfl
  rw [this]; rfl
theorem ok_paper_text (T : Tx K mg) : Cal P w K mg base 1 "paper_text" (spD K R_paper_text) [] := by
  refine calD T.f_paper_text sc_paper_text (fun ds d ⟨L, e, _⟩ => by rw [e]; rfl) (fun _ _ _ _ _ _ us hl => match us, hl with | [_], _ => rfl) ?_
  rintro cdv f A outer s H E _ _ ⟨t, rfl, ht, rfl⟩ hr
  have nd := (sc_paper_text).nd
  have hsz : (200002 : Nat) ≤ sizeLine := by decide
  show DSs _ (defBody s_paper_text) [.d (paperD t), .un, .un, .un, .un] [] _
  have eL : [ds t.word] ++ (((t.labels.map rowD).filter fun _ => true).map gLab) = (t.word :: t.labels.map (fun r => lineM (labLine r))).map ds := by
    rw [filtT, List.map_map, List.map_cons, List.map_map]; rfl
  refine dss_cons (ds_setN 1 (d := .lst ([ds t.word] ++ (((t.labels.map rowD).filter fun _ => true).map gLab))) (en (dn_bin (DN.de (dn_lst (da_cons (de_fld (d := ds t.word) (de_name 0 rfl rfl (.inl (by kernel_rfl))) rfl T.cl_Paper T.na_word) da_nil))) (DN.de (dn_lc (its := t.labels.map rowD) (own := [("place", 2), ("minute", 4)]) (asg := asg1 2 4) (keep := fun _ => true) (g := gLab) rfl nd (di_list (de_fld (d := rowsD t.labels) (de_name 0 rfl rfl (.inl (by kernel_rfl))) rfl T.cl_Paper T.na_labels)) (blkOk_by (by kernel_rfl)) ?_ (fun s H C cl fp i d hd => ?_))) (o_cat ?_))) ?_ nd rfl (.inl (by kernel_rfl)) (.inr (by kernel_rfl)))
  · rw [List.length_map]; exact small ht.ll
  · obtain ⟨p, m, hpm, rfl⟩ := rowD_get hd
    obtain ⟨h1, h2, h3⟩ := ht.lab (p, m) (List.mem_of_getElem? hpm)
    have hn : p.length ≤ 12 := (name_len h1).2
    refine ⟨(dg_tup rfl (dgs_cons (dg_name 2 nd rfl (.inl (by kernel_rfl)) (.inr (by kernel_rfl))) (dgs_cons (dg_name 4 nd rfl (.inl (by kernel_rfl)) (.inr (by kernel_rfl))) dgs_nil))), by simp [asg1], dts_nil, fun _ => ?_⟩
    refine de_joined (ys := ["label ", p, " ", numS m]) (.cons de_str (.cons (de_fmtS (de_name 2 rfl rfl (.inl (by kernel_rfl))) (by omega)) (.cons de_str (.cons (de_fmtI (de_name 4 rfl rfl (.inl (by kernel_rfl))) (log_small h2 h3)) .nil)))) ?_ (line_lab (p, m))
    have : (numS m).length ≤ 6 := num_len h2 h3
    show 6 + (p.length + (1 + ((numS m).length + 0))) ≤ _
    omega
  · rw [List.length_map, filtT, List.length_map]; show 1 + _ ≤ _; have := ht.ll; omega
  rw [eL]
  show DSs _ _ [.d (paperD t), .c 0, .un, .un, .un] [.dat (.lst ((t.word :: t.labels.map (fun r => lineM (labLine r))).map ds))] _
  refine dss_cons (ds_for (asg := asg3 2 3 4) (its := t.chain.map chD) (fun i ρ cs => ∃ x y z, ρ = [.d (paperD t), .c 0, x, y, z] ∧ cs = [.dat (.lst ((t.word :: (t.labels.map (fun r => lineM (labLine r)) ++ (t.chain.take i).map (fun r => lineM (catLine r)))).map ds))]) PassesOwn.never rfl (ei (di_list (de_fld (d := chainD t.chain) (de_name 0 rfl rfl (.inl (by kernel_rfl))) rfl T.cl_Paper T.na_chain))) ⟨_, _, _, rfl, by rw [List.take_zero, List.map_nil, List.append_nil]⟩ (fun i d ρ cs hd iv => ?_) (fun ρ cs iv => ?_))
  · obtain ⟨x, y, z, rfl, rfl⟩ := iv
    obtain ⟨⟨p, n, m⟩, hr', rfl⟩ := map_get hd
    obtain ⟨h1, h2, h3, h4⟩ := ht.ch (p, n, m) (List.mem_of_getElem? hr')
    have hp : p.length ≤ 12 := (name_len h1).2
    have hnn : (n.getD "-").length ≤ 12 := by
      cases n with
      | none => decide
      | some n => exact (name_len (h2 n rfl)).2
    refine ⟨(dg_tup rfl (dgs_cons (dg_name 2 nd rfl (.inl (by kernel_rfl)) (.inr (by kernel_rfl))) (dgs_cons (dg_name 3 nd rfl (.inl (by kernel_rfl)) (.inr (by kernel_rfl))) (dgs_cons (dg_name 4 nd rfl (.inl (by kernel_rfl)) (.inr (by kernel_rfl))) dgs_nil)))), ?_⟩
    show DSs _ _ [.d (paperD t), .c 0, .d (ds p), .d (optS n), .d (di m)] _ _
    refine dss_one (ds_append 1 rfl rfl (d := ds (lineM (catLine (p, n, m)))) (ev (de_joined (ys := ["catch ", p, " ", n.getD "-", " ", numS m]) (.cons de_str (.cons (de_fmtS (de_name 2 rfl rfl (.inl (by kernel_rfl))) (by omega)) (.cons de_str (.cons (de_fmtS (de_if (ba := !n.isSome) (DT.is (dt_cmp (de_name 3 rfl rfl (.inl (by kernel_rfl))) de_non o_isN) (isN_optS n)) (fun h => ?_) (fun h => ?_)) (by omega)) (.cons de_str (.cons (de_fmtI (de_name 4 rfl rfl (.inl (by kernel_rfl))) (log_small h3 h4)) .nil)))))) ?_ (line_cat (p, n, m)))) ?_ ⟨_, _, _, rfl, ?_⟩ rfl (.inl (by kernel_rfl)))
    · cases n with
      | none => exact de_gS (by kernel_rfl) T.c_NO_LINK
      | some n => cases h
    · cases n with
      | none => cases h
      | some n => exact de_name 3 rfl rfl (.inl (by kernel_rfl))
    · have : (numS m).length ≤ 6 := num_len h3 h4
      show 6 + (p.length + (1 + ((n.getD "-").length + (1 + ((numS m).length + 0))))) ≤ _
      omega
    · rw [List.length_map, List.length_cons, List.length_append, List.length_map, List.length_map, List.length_take]
      have := ht.ll; have := ht.cl
      exact small (m := 2001) (by omega)
    · have e : t.word :: (t.labels.map (fun r => lineM (labLine r)) ++ (t.chain.take i ++ [(p, n, m)]).map (fun r => lineM (catLine r))) = (t.word :: (t.labels.map (fun r => lineM (labLine r)) ++ (t.chain.take i).map (fun r => lineM (catLine r)))) ++ [lineM (catLine (p, n, m))] := by
        rw [List.map_append, ← List.append_assoc]; rfl
      rw [take_filter_succ hr', e, List.map_append]; rfl
  · obtain ⟨x, y, z, rfl, rfl⟩ := iv
    rw [List.length_map, List.take_length]
    refine dss_one (ds_ret (d := ds (textM t)) (evh (DE.is (de_join (ys := t.word :: (t.labels.map (fun r => lineM (labLine r)) ++ t.chain.map (fun r => lineM (catLine r)))) ?_ de_str (de_name 1 rfl rfl (.inl (by kernel_rfl)))) (by rw [text_join]))) (.inl rfl))
    have h1 : ∀ z ∈ t.word :: (t.labels.map (fun r => lineM (labLine r)) ++ t.chain.map (fun r => lineM (catLine r))), z.length ≤ 52 := by
      intro z hz
      have hwl := words_len ht
      rcases List.mem_cons.mp hz with rfl | hz
      · have := (hwl [t.word] List.mem_cons_self).2 t.word (by simp); omega
      · rcases List.mem_append.mp hz with hz | hz
        · obtain ⟨r, hr, rfl⟩ := List.mem_map.mp hz
          have := hwl (labLine r) (List.mem_cons_of_mem _ (List.mem_append_left _ (List.mem_map_of_mem hr)))
          exact line_len this.1 this.2
        · obtain ⟨r, hr, rfl⟩ := List.mem_map.mp hz
          have := hwl (catLine r) (List.mem_cons_of_mem _ (List.mem_append_right _ (List.mem_map_of_mem hr)))
          exact line_len this.1 this.2
    have h2 := sum_le (f := fun x : Str => x.length) h1
    have h3 : (t.word :: (t.labels.map (fun r => lineM (labLine r)) ++ t.chain.map (fun r => lineM (catLine r)))).length ≤ 2001 := by
      rw [List.length_cons, List.length_append, List.length_map, List.length_map]
      have := ht.ll; have := ht.cl
      omega
    have h4 : ("\n" : Str).length = 1 := rfl
    rw [h4]
    omega
/-! ### check_text -/
def R_check_text (ds' : List D) (d : D) : Prop := ∃ (L : LandM) (w : Wea) (st br : Rows) (p : Str) (t : Told), ds' = [landD L, weaD w, rowsD st, rowsD br, ds p, ds (textM t)] ∧ Ok4 L w st br ∧ p ∈ L.places ∧ NumsOk L (leastN L) ∧ NumsOk L (mostN L) ∧ TextOk t ∧ d = db (checkM L w st br p t)
theorem ok_check_text (T : Tx K mg) : Cal P w K mg base 6 "check_text" (spD K R_check_text) [] := by
  refine calD T.f_check_text sc_check_text (fun ds d ⟨L, w, a, b, c, e, f, _⟩ => by rw [f]; rfl) (fun _ _ _ _ _ _ us hl => match us, hl with | [_, _, _, _, _, _], _ => rfl) ?_
  rintro cdv f A outer s H E _ _ ⟨L, w, st, br, p, t, rfl, o, hp, n1, n2, ht, rfl⟩ hr
  show DSs _ (defBody s_check_text) [.d (landD L), .d (weaD w), .d (rowsD st), .d (rowsD br), .d (ds p), .d (ds (textM t))] [] _
  exact dss_one (ds_ret (d := db (checkM L w st br p t)) (ev (de_call (ok_check_paper T) hr (by kernel_rfl) (da_cons (de_name 0 rfl rfl (.inl (by kernel_rfl))) (da_cons (de_name 1 rfl rfl (.inl (by kernel_rfl))) (da_cons (de_name 2 rfl rfl (.inl (by kernel_rfl))) (da_cons (de_name 3 rfl rfl (.inl (by kernel_rfl))) (da_cons (de_name 4 rfl rfl (.inl (by kernel_rfl))) (da_cons (DN.de (dn_call (ok_parse_paper T) hr (by kernel_rfl) (da_cons (de_name 5 rfl rfl (.inl (by kernel_rfl))) da_nil) ⟨t, rfl, ht, rfl⟩)) da_nil)))))) ⟨L, w, st, br, p, t, rfl, o, hp, n1, n2, ht.ll, fun r hr => (ht.ch r hr).2.2.1, rfl⟩)) (.inl rfl))
end Ef
set_option maxRecDepth 100000
set_option maxHeartbeats 4000000
/-! Gp: lands. -/
namespace Ef
open PySem L2 C8 RZ PyProof.Rows PySem.Spec PySem.W
variable {P : Program} {w : World} {K : PySem.W.Frag} {mg : Str → Option Value} {base : Heap}
def R_require (ds' : List D) (d : D) : Prop := ds' = [db true] ∧ d = dn
theorem ok_require (T : Tx K mg) : Cal P w K mg base 1 "require" (spD K R_require) [] := by
  refine calD T.f_require sc_require (fun ds d ⟨e, _⟩ => by rw [e]; rfl) (fun _ _ _ _ _ _ us hl => match us, hl with | [_], _ => rfl) ?_
  rintro cdv f A outer s H E _ _ ⟨rfl, rfl⟩ hr
  show DSs _ (defBody s_require) [.d (db true)] [] _
  exact dss_one (ds_if (ba := false) (et (DT.is (dt_not (dt_val (de_name 0 rfl rfl (.inl (by kernel_rfl))))) rfl)) (fun h => by cases h) (fun h => dss_nil rfl))
def tupD (t : Tup Str) : D := .tup (t.items.map ds)
def R_diff (ds' : List D) (d : D) : Prop := ((∃ xs : List Str, ds' = [.tup (xs.map ds)] ∧ xs.Nodup ∧ xs.length ≤ 1000) ∨ (∃ ts : List (Tup Str), ds' = [.lst (ts.map tupD)] ∧ ts.Nodup ∧ ts.length ≤ 1000)) ∧ d = db true
theorem not_in_take {α : Type} {xs : List α} (h : xs.Nodup) {i : Nat} {y : α} (hy : xs[i]? = some y) : y ∉ xs.take i := by
  intro hm
  obtain ⟨j, hj⟩ := List.mem_iff_getElem?.mp hm
  have hji : j < i := by have := (List.getElem?_eq_some_iff.mp hj).1; rw [List.length_take] at this; omega
  rw [List.getElem?_take_of_lt hji] at hj
  have h1 := List.getElem?_eq_some_iff.mp hj
  have h2 := List.getElem?_eq_some_iff.mp hy
  have := (List.getElem_inj h).mp (h1.2.trans h2.2.symm)
  omega
theorem strs_plain (ys : List Str) : D.plains (ys.map ds) = true := plains_map (fun _ => rfl) ys
theorem ok_are_different (T : Tx K mg) : Cal P w K mg base 1 "are_different" (spD K R_diff) [] := by
  refine calD T.f_are_different sc_are_different (fun ds d ⟨h, _⟩ => by rcases h with ⟨_, e, _⟩ | ⟨_, e, _⟩ <;> rw [e] <;> rfl) (fun _ _ _ _ _ _ us hl => match us, hl with | [_], _ => rfl) ?_
  rintro cdv f A outer s H E _ _ ⟨h, rfl⟩ hr
  have nd := (sc_are_different).nd
  rcases h with ⟨xs, rfl, hn, hl⟩ | ⟨ts, rfl, hn, hl⟩
  · show DSs _ (defBody s_are_different) [.d (.tup (xs.map ds)), .un, .un] [] _
    refine dss_cons (ds_for (asg := asg1 1 2) (its := enumD 0 (xs.map ds)) (fun i ρ cs => ∃ x y, ρ = [.d (.tup (xs.map ds)), x, y] ∧ cs = []) PassesOwn.never rfl (ei (di_eT (by kernel_rfl) T.b_enumerate (de_name 0 rfl rfl (.inl (by kernel_rfl))))) ⟨_, _, rfl, rfl⟩ (fun i d ρ cs hd iv => ?_) (fun ρ cs iv => ?_))
    · obtain ⟨x, y, rfl, rfl⟩ := iv
      obtain ⟨dy, hy, rfl⟩ := enumD_get hd
      obtain ⟨z, hz, rfl⟩ := map_get hy
      refine ⟨(dg_tup rfl (dgs_cons (dg_name 1 nd rfl (.inl (by kernel_rfl)) (.inr (by kernel_rfl))) (dgs_cons (dg_name 2 nd rfl (.inl (by kernel_rfl)) (.inr (by kernel_rfl))) dgs_nil))), ?_⟩
      show DSs _ _ [.d (.tup (xs.map ds)), .d (di (0 + (i : Int))), .d (ds z)] [] _
      refine dss_one (ds_if (ba := decide (z ∈ xs.take i)) (et (dt_cmp (de_name 2 rfl rfl (.inl (by kernel_rfl))) (DE.is (de_sliceT (de_name 0 rfl rfl (.inl (by kernel_rfl))) do_none (do_some (de_name 1 rfl rfl (.inl (by kernel_rfl))))) ?_) o_inS)) (fun h => ?_) (fun h => dss_nil ⟨_, _, rfl, rfl⟩))
      · rw [cutG_to _ (by omega), ← List.map_take]
        have : (0 + (i : Int)).toNat = i := by omega
        rw [this]
      · exact absurd (of_decide_eq_true h) (not_in_take hn hz)
    · obtain ⟨x, y, rfl, rfl⟩ := iv
      exact dss_one (ds_ret (d := db true) (ev de_bl) (.inl rfl))
  · show DSs _ (defBody s_are_different) [.d (.lst (ts.map tupD)), .un, .un] [] _
    refine dss_cons (ds_for (asg := asg1 1 2) (its := enumD 0 (ts.map tupD)) (fun i ρ cs => ∃ x y, ρ = [.d (.lst (ts.map tupD)), x, y] ∧ cs = []) PassesOwn.never rfl (ei (di_eL (by kernel_rfl) T.b_enumerate (de_name 0 rfl rfl (.inl (by kernel_rfl))))) ⟨_, _, rfl, rfl⟩ (fun i d ρ cs hd iv => ?_) (fun ρ cs iv => ?_))
    · obtain ⟨x, y, rfl, rfl⟩ := iv
      obtain ⟨dy, hy, rfl⟩ := enumD_get hd
      obtain ⟨z, hz, rfl⟩ := map_get hy
      refine ⟨(dg_tup rfl (dgs_cons (dg_name 1 nd rfl (.inl (by kernel_rfl)) (.inr (by kernel_rfl))) (dgs_cons (dg_name 2 nd rfl (.inl (by kernel_rfl)) (.inr (by kernel_rfl))) dgs_nil))), ?_⟩
      show DSs _ _ [.d (.lst (ts.map tupD)), .d (di (0 + (i : Int))), .d (tupD z)] [] _
      refine dss_one (ds_if (ba := decide (z ∈ ts.take i)) (et (dt_cmp (de_name 2 rfl rfl (.inl (by kernel_rfl))) (DE.is (DN.de (dn_slice (de_name 0 rfl rfl (.inl (by kernel_rfl))) do_none (do_some (de_name 1 rfl rfl (.inl (by kernel_rfl)))))) ?_) (o_inA (α := Tup Str) (enc := tupD) (x := z) (xs := ts.take i) (hu65_of hr) (fun t => strs_plain t.items) (fun t => congrArg PyData.tuple (pys_map (fun _ => rfl) t.items)) (by decide) decide_eq_true_iff))) (fun h => ?_) (fun h => dss_nil ⟨_, _, rfl, rfl⟩))
      · rw [cutG_to _ (by omega), ← List.map_take]
        have : (0 + (i : Int)).toNat = i := by omega
        rw [this]
      · exact absurd (of_decide_eq_true h) (not_in_take hn hz)
    · obtain ⟨x, y, rfl, rfl⟩ := iv
      exact dss_one (ds_ret (d := db true) (ev de_bl) (.inl rfl))
/-! ### checked_times -/
def timeOk (t : Option (Int × Int)) : Prop := ∀ a b, t = some (a, b) → 1 ≤ a ∧ a ≤ b ∧ b ≤ 1000
def R_checked_times (ds' : List D) (d : D) : Prop := ∃ ts : List (Option (Int × Int)), ds' = [.tup (ts.map timeD), di (ts.length : Int)] ∧ (∀ t ∈ ts, timeOk t) ∧ ts.length ≤ 1000 ∧ d = .tup (ts.map timeD)
theorem ok_checked_times (T : Tx K mg) : Cal P w K mg base 2 "checked_times" (spD K R_checked_times) [] := by
  refine calD T.f_checked_times sc_checked_times (fun ds d ⟨ts, e, _⟩ => by rw [e]; rfl) (fun _ _ _ _ _ _ us hl => match us, hl with | [_, _], _ => rfl) ?_
  rintro cdv f A outer s H E _ _ ⟨ts, rfl, ht, hl, rfl⟩ hr
  have nd := (sc_checked_times).nd
  show DSs _ (defBody s_checked_times) [.d (.tup (ts.map timeD)), .d (di (ts.length : Int)), .un, .un] [] _
  refine dss_cons (ds_expr (d := dn) (ev (de_call (ok_require T) hr (by kernel_rfl) (da_cons (DE.is (de_cmp (de_len (by kernel_rfl) T.b_len (da_cons (de_name 0 rfl rfl (.inl (by kernel_rfl))) da_nil) (.t _)) (de_name 1 rfl rfl (.inl (by kernel_rfl))) o_eqI) (by rw [List.length_map, decide_eq_true rfl])) da_nil) ⟨rfl, rfl⟩)) ?_)
  refine dss_cons (ds_setN 2 (en (dn_lst da_nil)) ?_ nd rfl (.inl (by kernel_rfl)) (.inr (by kernel_rfl)))
  show DSs _ _ [.d (.tup (ts.map timeD)), .d (di (ts.length : Int)), .c 0, .un] [.dat (.lst [])] _
  refine dss_cons (ds_for (asg := asgA 3) (its := ts.map timeD) (fun i ρ cs => ∃ x, ρ = [.d (.tup (ts.map timeD)), .d (di (ts.length : Int)), .c 0, x] ∧ cs = [.dat (.lst ((ts.take i).map timeD))]) PassesOwn.never rfl (ei (di_tup (de_name 0 rfl rfl (.inl (by kernel_rfl))))) ⟨_, rfl, rfl⟩ (fun i d ρ cs hd iv => ?_) (fun ρ cs iv => ?_))
  · obtain ⟨x, rfl, rfl⟩ := iv
    obtain ⟨t, hti, rfl⟩ := map_get hd
    refine ⟨(dg_name 3 nd rfl (.inl (by kernel_rfl)) (.inr (by kernel_rfl))), ?_⟩
    have happ : ∀ ρ' : List SD, ρ' = [.d (.tup (ts.map timeD)), .d (di (ts.length : Int)), .c 0, .d (timeD t)] → ∃ x, ρ' = [.d (.tup (ts.map timeD)), .d (di (ts.length : Int)), .c 0, x] := fun ρ' e => ⟨_, e⟩
    have hfin : ([CD.dat (.lst ((ts.take i).map timeD ++ [timeD t]))] : List CD) = [.dat (.lst ((ts.take (i + 1)).map timeD))] := by rw [take_filter_succ hti, List.map_append]; rfl
    have hlen : ((ts.take i).map timeD).length < sizeLine := by rw [List.length_map, List.length_take]; exact small (m := 1000) (by omega)
    cases t with
    | none =>
      show DSs _ _ [.d (.tup (ts.map timeD)), .d (di (ts.length : Int)), .c 0, .d dn] _ _
      refine dss_cons (ds_if (ba := false) (et (DT.is (dt_cmp (de_name 3 rfl rfl (.inl (by kernel_rfl))) de_non o_notN) rfl)) (fun h => by cases h) (fun h => dss_nil ?_))
      exact dss_one (ds_append 2 rfl rfl (d := timeD none) (ev (de_name 3 rfl rfl (.inl (by kernel_rfl)))) hlen ⟨_, rfl, hfin⟩ rfl (.inl (by kernel_rfl)))
    | some q =>
      obtain ⟨a, b⟩ := q
      obtain ⟨h1, h2, h3⟩ := ht _ (List.mem_of_getElem? hti) a b rfl
      show DSs _ _ [.d (.tup (ts.map timeD)), .d (di (ts.length : Int)), .c 0, .d (.tup [di a, di b])] _ _
      refine dss_cons (ds_if (ba := true) (et (DT.is (dt_cmp (de_name 3 rfl rfl (.inl (by kernel_rfl))) de_non o_notN) rfl)) (fun h => ?_) (fun h => by cases h))
      refine dss_cons (ds_expr (d := dn) (ev (de_call (ok_require T) hr (by kernel_rfl) (da_cons (DE.is (de_and (ba := true) (bb := true) (DE.is (de_cmp (de_len (by kernel_rfl) T.b_len (da_cons (de_name 3 rfl rfl (.inl (by kernel_rfl))) da_nil) (.t _)) de_int o_eqI) rfl) (fun _ => (de_one (DE.is (de_chain3 (t := decide (b ≤ 1000)) de_int (de_ix (d := di a) (de_name 3 rfl rfl (.inl (by kernel_rfl))) de_int (ix_t rfl)) (de_ix (d := di b) (de_name 3 rfl rfl (.inl (by kernel_rfl))) de_int (ix_t rfl)) (de_gI (by kernel_rfl) T.c_MOST_MINUTES) (by rw [← decide_eq_true h1]; exact o_le) (by rw [← decide_eq_true h2]; exact o_le) o_le) (by rw [decide_eq_true h3]))))) rfl) da_nil) ⟨rfl, rfl⟩)) ?_)
      refine dss_one (ds_set 3 (d := timeD (some (a, b))) (ev (de_tupT (by kernel_rfl) T.b_tuple (da_cons (de_name 3 rfl rfl (.inl (by kernel_rfl))) da_nil))) ?_ nd rfl (.inl (by kernel_rfl)) (.inr (by kernel_rfl)))
      show DSs _ _ [.d (.tup (ts.map timeD)), .d (di (ts.length : Int)), .c 0, .d (timeD (some (a, b)))] _ _
      exact dss_one (ds_append 2 rfl rfl (d := timeD (some (a, b))) (ev (de_name 3 rfl rfl (.inl (by kernel_rfl)))) hlen ⟨_, rfl, hfin⟩ rfl (.inl (by kernel_rfl)))
  · obtain ⟨x, rfl, rfl⟩ := iv
    rw [List.length_map, List.take_length]
    refine dss_one (ds_ret (d := .tup (ts.map timeD)) (evh (de_tupL (by kernel_rfl) T.b_tuple (da_cons (de_name 2 rfl rfl (.inl (by kernel_rfl))) da_nil)) (pures_all fun d hd => ?_)) (.inl rfl))
    obtain ⟨t, _, rfl⟩ := List.mem_map.mp hd
    cases t <;> rfl
/-! ### the methods that check -/
def R_are_ends (ds' : List D) (d : D) : Prop := ∃ (fs : List (Str × D)) (ps : List Str) (a b : Str), ds' = [.obj "Land" fs, ds a, ds b] ∧ fs.lookup ("places" : Str) = some (D.tup (ps.map ds)) ∧ a ∈ ps ∧ b ∈ ps ∧ a ≠ b ∧ d = db true
theorem ok_are_ends (T : Tx K mg) : Met P w K mg base 1 (He.ga K "Land") "are_ends" (spD K R_are_ends) [] := by
  refine metD T.cl_Land T.m_are_ends sc_Land_are_ends (fun ds d ⟨L, p, a, b, e, _⟩ => by rw [e]; rfl) (fun _ _ _ _ _ _ us hl => match us, hl with | [_, _, _], _ => rfl) ?_
  rintro cdv f A outer s H E _ _ ⟨fs, ps, a, b, rfl, hf, h1, h2, h3, rfl⟩ hr
  show DSs _ (defBody s_Land_are_ends) [.d (.obj "Land" fs), .d (ds a), .d (ds b)] [] _
  exact dss_one (ds_ret (d := db true) (ev (DE.is (de_and (de_cmp (de_name 1 rfl rfl (.inl (by kernel_rfl))) (de_fld (de_name 0 rfl rfl (.inl (by kernel_rfl))) hf T.cl_Land T.na_places) o_inS) (fun _ => de_and (de_cmp (de_name 2 rfl rfl (.inl (by kernel_rfl))) (de_fld (de_name 0 rfl rfl (.inl (by kernel_rfl))) hf T.cl_Land T.na_places) o_inS) (fun _ => de_one (de_cmp (de_name 1 rfl rfl (.inl (by kernel_rfl))) (de_name 2 rfl rfl (.inl (by kernel_rfl))) o_neS)))) (by rw [decide_eq_true h1, decide_eq_true h2, decide_eq_false h3]; rfl))) (.inl rfl))
structure LinkOk (ws ps : List Str) (l : LinkM) : Prop where
  name : nameM l.name = true
  one : l.one ∈ ps
  other : l.other ∈ ps
  ne : l.one ≠ l.other
  times : ∀ t ∈ l.times, timeOk t
  len : l.times.length = ws.length
def asg4 (a b c e : Nat) : D → List (Nat × D)
  | .tup [x, y, z, u] => [(a, x), (b, y), (c, z), (e, u)]
  | _ => []
def R_checked_link (ds' : List D) (d : D) : Prop := ∃ (fs : List (Str × D)) (ws ps : List Str) (l : LinkM), ds' = [.obj "Land" fs, linkD l] ∧ fs.lookup ("places" : Str) = some (D.tup (ps.map ds)) ∧ fs.lookup ("winds" : Str) = some (D.tix (ws.map ds)) ∧ fs.lookup ("are_ends" : Str) = none ∧ LinkOk ws ps l ∧ ws.length ≤ 1000 ∧ d = linkD l
theorem ok_checked_link (T : Tx K mg) : Met P w K mg base 3 (He.ga K "Land") "checked_link" (spD K R_checked_link) [] := by
  refine metD T.cl_Land T.m_checked_link sc_Land_checked_link (fun ds d ⟨L, p, a, b, e, _⟩ => by rw [e]; rfl) (fun _ _ _ _ _ _ us hl => match us, hl with | [_, _], _ => rfl) ?_
  rintro cdv f A outer s H E _ _ ⟨fs, ws, ps, l, rfl, hf, hw, hae, lo, hwl, rfl⟩ hr
  have nd := (sc_Land_checked_link).nd
  have hnl := name_len lo.name
  show DSs _ (defBody s_Land_checked_link) [.d (.obj "Land" fs), .d (linkD l), .un, .un, .un, .un] [] _
  refine dss_cons (ds_expr (d := dn) (ev (de_call (ok_require T) hr (by kernel_rfl) (da_cons (DE.is (de_cmp (de_len (by kernel_rfl) T.b_len (da_cons (de_name 1 rfl rfl (.inl (by kernel_rfl))) da_nil) (.t _)) de_int o_eqI) rfl) da_nil) ⟨rfl, rfl⟩)) ?_)
  refine dss_cons (ds_asg (d := linkD l) (asg := asg4 2 3 4 5 (linkD l)) (ev (de_name 1 rfl rfl (.inl (by kernel_rfl)))) (dg_tup rfl (dgs_cons (dg_name 2 nd rfl (.inl (by kernel_rfl)) (.inr (by kernel_rfl))) (dgs_cons (dg_name 3 nd rfl (.inl (by kernel_rfl)) (.inr (by kernel_rfl))) (dgs_cons (dg_name 4 nd rfl (.inl (by kernel_rfl)) (.inr (by kernel_rfl))) (dgs_cons (dg_name 5 nd rfl (.inl (by kernel_rfl)) (.inr (by kernel_rfl))) dgs_nil))))) ?_)
  show DSs _ _ [.d (.obj "Land" fs), .d (linkD l), .d (ds l.name), .d (ds l.one), .d (ds l.other), .d (.tup (l.times.map timeD))] [] _
  refine dss_cons (ds_expr (d := dn) (ev (de_call (ok_require T) hr (by kernel_rfl) (da_cons (DE.is (de_and (ba := true) (bb := true) (de_call (ok_is_name T) hr (by kernel_rfl) (da_cons (de_name 2 rfl rfl (.inl (by kernel_rfl))) da_nil) ⟨l.name, rfl, by omega, by rw [lo.name]⟩) (fun _ => (de_one (de_meth (ok_are_ends T) hr (de_name 0 rfl rfl (.inl (by kernel_rfl))) hae (da_cons (de_name 3 rfl rfl (.inl (by kernel_rfl))) (da_cons (de_name 4 rfl rfl (.inl (by kernel_rfl))) da_nil)) ⟨fs, ps, l.one, l.other, rfl, hf, lo.one, lo.other, lo.ne, rfl⟩)))) rfl) da_nil) ⟨rfl, rfl⟩)) ?_)
  exact dss_one (ds_ret (d := linkD l) (ev (de_tup (da_cons (de_name 2 rfl rfl (.inl (by kernel_rfl))) (da_cons (de_name 3 rfl rfl (.inl (by kernel_rfl))) (da_cons (de_name 4 rfl rfl (.inl (by kernel_rfl))) (da_cons (de_call (ok_checked_times T) hr (by kernel_rfl) (da_cons (de_name 5 rfl rfl (.inl (by kernel_rfl))) (da_cons (DE.is (de_len (by kernel_rfl) T.b_len (da_cons (DE.tup (de_fld (de_name 0 rfl rfl (.inl (by kernel_rfl))) hw T.cl_Land T.na_winds)) da_nil) (.t _)) (by rw [List.length_map, ← lo.len])) da_nil)) ⟨l.times, rfl, lo.times, by rw [lo.len]; exact hwl, rfl⟩) da_nil)))))) (.inl rfl))
structure PathOk (ps : List Str) (q : Str × Str × Int) : Prop where
  one : q.1 ∈ ps
  other : q.2.1 ∈ ps
  ne : q.1 ≠ q.2.1
  m1 : 1 ≤ q.2.2
  m2 : q.2.2 ≤ 1000
def R_checked_path (ds' : List D) (d : D) : Prop := ∃ (fs : List (Str × D)) (ps : List Str) (q : Str × Str × Int), ds' = [.obj "Land" fs, pathD q] ∧ fs.lookup ("places" : Str) = some (D.tup (ps.map ds)) ∧ fs.lookup ("are_ends" : Str) = none ∧ PathOk ps q ∧ d = pathD q
theorem ok_checked_path (T : Tx K mg) : Met P w K mg base 2 (He.ga K "Land") "checked_path" (spD K R_checked_path) [] := by
  refine metD T.cl_Land T.m_checked_path sc_Land_checked_path (fun ds d ⟨L, p, a, e, _⟩ => by rw [e]; rfl) (fun _ _ _ _ _ _ us hl => match us, hl with | [_, _], _ => rfl) ?_
  rintro cdv f A outer s H E _ _ ⟨fs, ps, ⟨a, b, m⟩, rfl, hf, hae, po, rfl⟩ hr
  have nd := (sc_Land_checked_path).nd
  show DSs _ (defBody s_Land_checked_path) [.d (.obj "Land" fs), .d (.tup [ds a, ds b, di m]), .un, .un, .un] [] _
  refine dss_cons (ds_expr (d := dn) (ev (de_call (ok_require T) hr (by kernel_rfl) (da_cons (DE.is (de_cmp (de_len (by kernel_rfl) T.b_len (da_cons (de_name 1 rfl rfl (.inl (by kernel_rfl))) da_nil) (.t _)) de_int o_eqI) rfl) da_nil) ⟨rfl, rfl⟩)) ?_)
  refine dss_cons (ds_asg (d := .tup [ds a, ds b, di m]) (asg := asg3 2 3 4 (.tup [ds a, ds b, di m])) (ev (de_name 1 rfl rfl (.inl (by kernel_rfl)))) (dg_tup rfl (dgs_cons (dg_name 2 nd rfl (.inl (by kernel_rfl)) (.inr (by kernel_rfl))) (dgs_cons (dg_name 3 nd rfl (.inl (by kernel_rfl)) (.inr (by kernel_rfl))) (dgs_cons (dg_name 4 nd rfl (.inl (by kernel_rfl)) (.inr (by kernel_rfl))) dgs_nil)))) ?_)
  show DSs _ _ [.d (.obj "Land" fs), .d (.tup [ds a, ds b, di m]), .d (ds a), .d (ds b), .d (di m)] [] _
  refine dss_cons (ds_expr (d := dn) (ev (de_call (ok_require T) hr (by kernel_rfl) (da_cons (DE.is (de_and (ba := true) (bb := true) (de_meth (ok_are_ends T) hr (de_name 0 rfl rfl (.inl (by kernel_rfl))) hae (da_cons (de_name 2 rfl rfl (.inl (by kernel_rfl))) (da_cons (de_name 3 rfl rfl (.inl (by kernel_rfl))) da_nil)) ⟨fs, ps, a, b, rfl, hf, po.one, po.other, po.ne, rfl⟩) (fun _ => (de_one (DE.is (de_chain de_int (de_name 4 rfl rfl (.inl (by kernel_rfl))) (de_gI (by kernel_rfl) T.c_MOST_MINUTES) o_le o_le) (by rw [decide_eq_true (show 1 ≤ m from po.m1), decide_eq_true (show m ≤ 1000 from po.m2)]; rfl))))) rfl) da_nil) ⟨rfl, rfl⟩)) ?_)
  exact dss_one (ds_ret (d := .tup [ds a, ds b, di m]) (ev (de_tup (da_cons (de_name 2 rfl rfl (.inl (by kernel_rfl))) (da_cons (de_name 3 rfl rfl (.inl (by kernel_rfl))) (da_cons (de_name 4 rfl rfl (.inl (by kernel_rfl))) da_nil))))) (.inl rfl))
end Ef
set_option maxRecDepth 100000
set_option maxHeartbeats 4000000
/-! Gq: Land. -/
namespace Ef
open PySem L2 C8 RZ PyProof.Rows PySem.Spec PySem.W
variable {P : Program} {w : World} {K : PySem.W.Frag} {mg : Str → Option Value} {base : Heap}
def sort2 (a b : Str) : Tup Str := if sortedS [a, b] then ⟨[a, b]⟩ else ⟨[b, a]⟩
theorem ltCps_anti : ∀ a b : List Nat, ltCps a b = false → ltCps b a = false → a = b
  | [], [], _, _ => rfl
  | [], _ :: _, h, _ => by cases h
  | _ :: _, [], _, h => by cases h
  | a :: r, b :: t, h, h2 => by
    unfold ltCps at h h2
    simp only [Bool.or_eq_false_iff, decide_eq_false_iff_not, Bool.and_eq_false_imp, beq_iff_eq] at h h2
    have e : a = b := by omega
    subst e
    rw [ltCps_anti r t (h.2 rfl) (h2.2 rfl)]
theorem sort2_of {a b : Str} (hne : a ≠ b) (ys : List Str) (hp : ys.Perm [a, b]) (hs : sortedS ys = true) : ys = (sort2 a b).items := by
  have h2 : ys = [a, b] ∨ ys = [b, a] := by
    have hl := hp.length_eq
    match ys, hl with
    | [x, y], _ =>
      have hx : x ∈ [a, b] := hp.subset (by simp)
      have hy : y ∈ [a, b] := hp.subset (by simp)
      have ha : a ∈ [x, y] := hp.symm.subset (by simp)
      have hb : b ∈ [x, y] := hp.symm.subset (by simp)
      simp at hx hy ha hb
      rcases hx with rfl | rfl
      · rcases hy with rfl | rfl
        · rcases hb with e | e <;> exact absurd e.symm hne
        · exact .inl rfl
      · rcases hy with rfl | rfl
        · exact .inr rfl
        · rcases ha with e | e <;> exact absurd e hne
  unfold sort2
  rcases h2 with rfl | rfl
  · rw [if_pos hs]
  · by_cases h : sortedS [a, b] = true
    · exfalso
      have e1 : (!ltCps b.cps.toList a.cps.toList && true) = true := h
      have e2 : (!ltCps a.cps.toList b.cps.toList && true) = true := hs
      rw [Bool.and_true, Bool.not_eq_true'] at e1 e2
      exact hne (str_of_cps (ltCps_anti _ _ e2 e1))
    · rw [if_neg h]
structure LandOk (L : LandM) : Prop where
  w1 : 1 ≤ L.winds.length
  w4 : L.winds.length ≤ 4
  wn : ∀ x ∈ L.winds, nameM x = true
  wd : L.winds.Nodup
  p1 : 1 ≤ L.places.length
  p24 : L.places.length ≤ 24
  pn : ∀ x ∈ L.places, nameM x = true
  pd : L.places.Nodup
  l60 : L.links.length ≤ 60
  lk : ∀ l ∈ L.links, LinkOk L.winds L.places l
  ld : (namesL L).Nodup
  q60 : L.paths.length ≤ 60
  pt : ∀ q ∈ L.paths, PathOk L.places q
  qd : (L.paths.map fun q => sort2 q.1 q.2.1).Nodup
def nameB : D → Bool
  | .v (.str x) => nameM x
  | _ => false
theorem all_names {xs : List Str} (h : ∀ x ∈ xs, nameM x = true) : (((xs.map ds).filter fun _ => true).map nameB).all id = true := by
  rw [filtT]
  refine all_true fun b hb => ?_
  obtain ⟨d, hd, rfl⟩ := List.mem_map.mp hb
  obtain ⟨x, hx, rfl⟩ := List.mem_map.mp hd
  exact h x hx
theorem map_db (f : D → Bool) (l : List D) : l.map (fun d => db (f d)) = (l.map f).map db := by rw [List.map_map]; rfl
def gS2 : D → D
  | .tup [.v (.str a), .v (.str b), _] => tupD (sort2 a b)
  | d => d
def R_Land (ds' : List D) (fs : List (Str × D)) : Prop := ∃ L : LandM, ds' = [.tix (L.winds.map ds), .tup (L.places.map ds), .tup (L.links.map linkD), .tup (L.paths.map pathD)] ∧ LandOk L ∧ fs = landF L
theorem ok_Land (T : Tx K mg) : ∃ fd, FnOk P w K mg base L2.CX0 4 (He.ma K (He.ga K "Land") "__init__") fd P_Land___init__ (spI K "Land" R_Land) ∧ ∃ (g : List Value → List Value → List Value), KBn K fd P_Land___init__ 1 ["winds", "places", "links", "paths"] g (fun vs zs => vs ++ zs) := by
  obtain ⟨e1, e2, fd, Fd⟩ := T.i_Land
  obtain ⟨pa, ga, fdL, hpr, okL, bL⟩ := ok_link_names (P := P) (w := w) (base := base) T
  refine ⟨fd, def_I Fd sc_Land___init__ (fun ds d ⟨t, e, _⟩ => by rw [e]; rfl) ?_, ?_⟩
  · rintro cdv A outer s H E _ _ y ⟨L, rfl, o, rfl⟩ hr
    have nd := (sc_Land___init__).nd
    have s1 := o.w4; have s2 := o.p24; have s3 := o.l60; have s4 := o.q60
    show DSs _ (defBody s_Land___init__) [.c 0, .d (.tix (L.winds.map ds)), .d (.tup (L.places.map ds)), .d (.tup (L.links.map linkD)), .d (.tup (L.paths.map pathD)), .un, .un, .un, .un] [.at y (.obj "Land" [])] _
    refine dss_cons (ds_expr (d := dn) (ev (de_call (ok_require T) hr (by kernel_rfl) (da_cons (DE.is (de_and (ba := true) (bb := true) (DE.is (de_chain de_int (de_len (by kernel_rfl) T.b_len (da_cons (DE.tup (de_name 1 rfl rfl (.inl (by kernel_rfl)))) da_nil) (.t _)) (de_gI (by kernel_rfl) T.c_MOST_WINDS) o_le o_le) ?_) (fun _ => DE.is (de_and (ba := true) (bb := true) (DE.is (de_all (bs := ((L.winds.map ds).filter fun _ => true).map nameB) rfl (by kernel_rfl) T.b_all (da_cons (DE.is (DN.de (dn_lc (its := L.winds.map ds) (own := [("wind", 7)]) (asg := asgA 7) (keep := fun _ => true) (g := fun d => db (nameB d)) rfl nd (di_tup (DE.tup (de_name 1 rfl rfl (.inl (by kernel_rfl))))) (blkOk_by (by kernel_rfl)) (by rw [List.length_map]; exact small (m := 4) s1) (fun s H C cl fp i d hd => ?_))) (by rw [map_db])) da_nil)) (by rw [all_names o.wn])) (fun _ => (de_one (de_call (ok_are_different T) hr (by kernel_rfl) (da_cons (DE.tup (de_name 1 rfl rfl (.inl (by kernel_rfl)))) da_nil) ⟨.inl ⟨L.winds, rfl, o.wd, by omega⟩, rfl⟩)))) rfl)) rfl) da_nil) ⟨rfl, rfl⟩)) ?_)
    · rw [List.length_map, decide_eq_true (show (1 : Int) ≤ (L.winds.length : Int) by have := o.w1; omega), decide_eq_true (show (L.winds.length : Int) ≤ 4 by omega)]; rfl
    · obtain ⟨x, hx, rfl⟩ := map_get hd
      have hnx := o.wn x (List.mem_of_getElem? hx)
      have := name_len hnx
      exact ⟨(dg_name 7 nd rfl (.inl (by kernel_rfl)) (.inr (by kernel_rfl))), by simp [asgA], dts_nil, fun _ => (de_call (ok_is_name T) hr (by kernel_rfl) (da_cons (de_name 7 rfl rfl (.inl (by kernel_rfl))) da_nil) ⟨x, rfl, by omega, rfl⟩)⟩
    refine dss_cons (ds_expr (d := dn) (ev (de_call (ok_require T) hr (by kernel_rfl) (da_cons (DE.is (de_and (ba := true) (bb := true) (DE.is (de_chain de_int (de_len (by kernel_rfl) T.b_len (da_cons (de_name 2 rfl rfl (.inl (by kernel_rfl))) da_nil) (.t _)) (de_gI (by kernel_rfl) T.c_MOST_PLACES) o_le o_le) ?_) (fun _ => de_one (DE.is (de_all (bs := ((L.places.map ds).filter fun _ => true).map nameB) rfl (by kernel_rfl) T.b_all (da_cons (DE.is (DN.de (dn_lc (its := L.places.map ds) (own := [("place", 8)]) (asg := asgA 8) (keep := fun _ => true) (g := fun d => db (nameB d)) rfl nd (di_tup (de_name 2 rfl rfl (.inl (by kernel_rfl)))) (blkOk_by (by kernel_rfl)) (by rw [List.length_map]; exact small (m := 24) s2) (fun s H C cl fp i d hd => ?_))) (by rw [map_db])) da_nil)) (by rw [all_names o.pn])))) rfl) da_nil) ⟨rfl, rfl⟩)) ?_)
    · rw [List.length_map, decide_eq_true (show (1 : Int) ≤ (L.places.length : Int) by have := o.p1; omega), decide_eq_true (show (L.places.length : Int) ≤ 24 by omega)]; rfl
    · obtain ⟨x, hx, rfl⟩ := map_get hd
      have hnx := o.pn x (List.mem_of_getElem? hx)
      have := name_len hnx
      exact ⟨(dg_name 8 nd rfl (.inl (by kernel_rfl)) (.inr (by kernel_rfl))), by simp [asgA], dts_nil, fun _ => (de_call (ok_is_name T) hr (by kernel_rfl) (da_cons (de_name 8 rfl rfl (.inl (by kernel_rfl))) da_nil) ⟨x, rfl, by omega, rfl⟩)⟩
    refine dss_cons (ds_expr (d := dn) (ev (de_call (ok_require T) hr (by kernel_rfl) (da_cons (de_call (ok_are_different T) hr (by kernel_rfl) (da_cons (de_name 2 rfl rfl (.inl (by kernel_rfl))) da_nil) ⟨.inl ⟨L.places, rfl, o.pd, by omega⟩, rfl⟩) da_nil) ⟨rfl, rfl⟩)) ?_)
    refine dss_cons (ds_fld 0 rfl rfl (d := .tix (L.winds.map ds)) (ev (de_tixT (by kernel_rfl) T.b_tuple (da_cons (de_name 1 rfl rfl (.inl (by kernel_rfl))) da_nil))) (by kernel_rfl) (by simp) T.cl_Land T.na_winds ?_ rfl (.inr (.inl (by kernel_rfl))))
    refine dss_cons (ds_fld 0 rfl rfl (d := .tup (L.places.map ds)) (ev (de_tupT (by kernel_rfl) T.b_tuple (da_cons (de_name 2 rfl rfl (.inl (by kernel_rfl))) da_nil))) (by kernel_rfl) (by simp) T.cl_Land T.na_places ?_ rfl (.inr (.inl (by kernel_rfl))))
    show DSs _ _ [.c 0, .d (.tix (L.winds.map ds)), .d (.tup (L.places.map ds)), .d (.tup (L.links.map linkD)), .d (.tup (L.paths.map pathD)), .un, .un, .un, .un] [.at y (.obj "Land" [("winds", .tix (L.winds.map ds)), ("places", .tup (L.places.map ds))])] _
    refine dss_cons (ds_expr (d := dn) (ev (de_call (ok_require T) hr (by kernel_rfl) (da_cons (DE.is (de_cmp (de_len (by kernel_rfl) T.b_len (da_cons (de_name 3 rfl rfl (.inl (by kernel_rfl))) da_nil) (.t _)) (de_gI (by kernel_rfl) T.c_MOST_LINKS) o_le) (by rw [List.length_map, decide_eq_true (show (L.links.length : Int) ≤ 60 by omega)])) da_nil) ⟨rfl, rfl⟩)) ?_)
    refine dss_cons (ds_fld 0 rfl rfl (d := .tup (L.links.map linkD)) (evh (DE.is (de_tupL (by kernel_rfl) T.b_tuple (da_cons (DN.de (dn_lc (its := L.links.map linkD) (own := [("link", 5)]) (asg := asgA 5) (keep := fun _ => true) (g := fun d => d) rfl nd (di_tup (de_name 3 rfl rfl (.inl (by kernel_rfl)))) (blkOk_by (by kernel_rfl)) (by rw [List.length_map]; exact small (m := 60) s3) (fun s H C cl fp i d hd => ?_))) da_nil)) (by rw [idMap])) (pures_all fun d hd => ?_)) (by kernel_rfl) (by simp) T.cl_Land T.na_links ?_ rfl (.inr (.inl (by kernel_rfl))))
    · obtain ⟨l, hl, rfl⟩ := map_get hd
      exact ⟨(dg_name 5 nd rfl (.inl (by kernel_rfl)) (.inr (by kernel_rfl))), by simp [asgA], dts_nil, fun _ => (de_meth (ok_checked_link T) hr (de_name 0 rfl rfl (.inr (.inl (by kernel_rfl)))) (by kernel_rfl) (da_cons (de_name 5 rfl rfl (.inl (by kernel_rfl))) da_nil) ⟨_, L.winds, L.places, l, rfl, rfl, rfl, rfl, o.lk l (List.mem_of_getElem? hl), by omega, rfl⟩)⟩
    · obtain ⟨l, _, rfl⟩ := List.mem_map.mp hd
      show (true && (true && (true && (D.pures (l.times.map timeD) && true)))) = true
      rw [pures_all (fun d hd => by obtain ⟨t, _, rfl⟩ := List.mem_map.mp hd; cases t <;> rfl)]; rfl
    show DSs _ _ [.c 0, .d (.tix (L.winds.map ds)), .d (.tup (L.places.map ds)), .d (.tup (L.links.map linkD)), .d (.tup (L.paths.map pathD)), .un, .un, .un, .un] [.at y (.obj "Land" [("winds", .tix (L.winds.map ds)), ("places", .tup (L.places.map ds)), ("links", .tup (L.links.map linkD))])] _
    refine dss_cons (ds_expr (d := dn) (evh (de_call (ok_require T) hr (by kernel_rfl) (da_cons (de_call (ok_are_different T) hr (by kernel_rfl) (da_cons (DE.tup (de_prop T.cl_Land hpr okL hr (by decide) bL (de_name 0 rfl rfl (.inr (.inl (by kernel_rfl)))) ⟨L.links, _, rfl, rfl, by omega, rfl⟩)) da_nil) ⟨.inl ⟨namesL L, rfl, o.ld, by unfold namesL; rw [List.length_map]; omega⟩, rfl⟩) da_nil) ⟨rfl, rfl⟩)) ?_)
    refine dss_cons (ds_expr (d := dn) (ev (de_call (ok_require T) hr (by kernel_rfl) (da_cons (DE.is (de_cmp (de_len (by kernel_rfl) T.b_len (da_cons (de_name 4 rfl rfl (.inl (by kernel_rfl))) da_nil) (.t _)) (de_gI (by kernel_rfl) T.c_MOST_PATHS) o_le) (by rw [List.length_map, decide_eq_true (show (L.paths.length : Int) ≤ 60 by omega)])) da_nil) ⟨rfl, rfl⟩)) ?_)
    refine dss_cons (ds_fld 0 rfl rfl (d := .tup (L.paths.map pathD)) (evh (DE.is (de_tupL (by kernel_rfl) T.b_tuple (da_cons (DN.de (dn_lc (its := L.paths.map pathD) (own := [("path", 6)]) (asg := asgA 6) (keep := fun _ => true) (g := fun d => d) rfl nd (di_tup (de_name 4 rfl rfl (.inl (by kernel_rfl)))) (blkOk_by (by kernel_rfl)) (by rw [List.length_map]; exact small (m := 60) s4) (fun s H C cl fp i d hd => ?_))) da_nil)) (by rw [idMap])) (pures_all fun d hd => ?_)) (by kernel_rfl) (by simp) T.cl_Land T.na_paths ?_ rfl (.inr (.inl (by kernel_rfl))))
    · obtain ⟨q, hq, rfl⟩ := map_get hd
      exact ⟨(dg_name 6 nd rfl (.inl (by kernel_rfl)) (.inr (by kernel_rfl))), by simp [asgA], dts_nil, fun _ => (de_meth (ok_checked_path T) hr (de_name 0 rfl rfl (.inr (.inl (by kernel_rfl)))) (by kernel_rfl) (da_cons (de_name 6 rfl rfl (.inl (by kernel_rfl))) da_nil) ⟨_, L.places, q, rfl, rfl, rfl, o.pt q (List.mem_of_getElem? hq), rfl⟩)⟩
    · obtain ⟨q, _, rfl⟩ := List.mem_map.mp hd; rfl
    show DSs _ _ [.c 0, .d (.tix (L.winds.map ds)), .d (.tup (L.places.map ds)), .d (.tup (L.links.map linkD)), .d (.tup (L.paths.map pathD)), .un, .un, .un, .un] [.at y (.obj "Land" (landF L))] _
    have eS : (((L.paths.map pathD).filter fun _ => true).map gS2) = (L.paths.map fun q => sort2 q.1 q.2.1).map tupD := by
      rw [filtT, List.map_map, List.map_map]; rfl
    refine dss_one (ds_expr (d := dn) (evh (de_call (ok_require T) hr (by kernel_rfl) (da_cons (de_call (ok_are_different T) hr (by kernel_rfl) (da_cons (DE.is (DN.de (dn_lc (its := L.paths.map pathD) (own := [("path", 6)]) (asg := asgA 6) (keep := fun _ => true) (g := gS2) rfl nd (di_tup (de_fld (de_name 0 rfl rfl (.inr (.inl (by kernel_rfl)))) rfl T.cl_Land T.na_paths)) (blkOk_by (by kernel_rfl)) (by rw [List.length_map]; exact small (m := 60) s4) (fun s H C cl fp i d hd => ?_))) (congrArg D.lst eS)) da_nil) ⟨.inr ⟨_, rfl, o.qd, by rw [List.length_map]; omega⟩, rfl⟩) da_nil) ⟨rfl, rfl⟩)) rfl)
    obtain ⟨⟨a, b, m⟩, hq, rfl⟩ := map_get hd
    refine ⟨(dg_name 6 nd rfl (.inl (by kernel_rfl)) (.inr (by kernel_rfl))), by simp [asgA], dts_nil, fun _ => ?_⟩
    exact de_tupL (by kernel_rfl) T.b_tuple (da_cons (DN.de (dn_sortedT (xs := [a, b]) (zs := (sort2 a b).items) (by show (2:Nat) < 64; decide) (sort2_of (o.pt _ (List.mem_of_getElem? hq)).ne) (by kernel_rfl) T.b_sorted (da_cons (DE.is (de_sliceT (de_name 6 rfl rfl (.inl (by kernel_rfl))) do_none (do_some de_int)) (by rw [cutG_to _ (by decide)]; rfl)) da_nil))) da_nil)
  · obtain ⟨mv, kb⟩ := Fd.kbinds0 (ps := P_Land___init__) 1 ["winds", "places", "links", "paths"] [] (fun us _ ws => us ++ ws) (by simp) (fun q h => by cases h) (fun r1 _ r3 => r1.append r3) (fun D doc pm an cdv ct us mv ws h1 h2 h3 => by
      match us, mv, ws, h1, h2, h3 with
      | [_], [], [_, _, _, _], _, _, _ => rfl)
    exact ⟨_, kb⟩
/-! ### _law_land -/
def R_law_land (ds' : List D) (d : D) : Prop := ∃ L : LandM, ds' = [partsD L] ∧ LandOk L ∧ d = landD L
theorem ok_law_land (T : Tx K mg) : Cal P w K mg base 6 "_law_land" (spN K R_law_land) [] := by
  refine calN T.f__law_land sc__law_land (fun ds d ⟨L, e, _⟩ => by rw [e]; rfl) (fun _ _ _ _ _ _ us hl => match us, hl with | [_], _ => rfl) ?_
  rintro cdv f A outer s H E _ _ ⟨L, rfl, o, rfl⟩ hr
  obtain ⟨fd, okL, g, kb⟩ := ok_Land (P := P) (w := w) (base := base) T
  show DSs _ (defBody s__law_land) [.d (partsD L)] [] _
  exact dss_one (ds_retN (d := landD L) (en (dn_makeK T.mk_Land okL hr (by decide) (by kernel_rfl) T.g_Land kb (.cons (de_ix (d := .tix (L.winds.map ds)) (de_name 0 rfl rfl (.inl (by kernel_rfl))) de_int (ix_l rfl)) (.cons (de_ix (d := .tup (L.places.map ds)) (de_name 0 rfl rfl (.inl (by kernel_rfl))) de_int (ix_l rfl)) (.cons (de_ix (d := .tup (L.links.map linkD)) (de_name 0 rfl rfl (.inl (by kernel_rfl))) de_int (ix_l rfl)) (.cons (de_ix (d := .tup (L.paths.map pathD)) (de_name 0 rfl rfl (.inl (by kernel_rfl))) de_int (ix_l rfl)) .nil)))) rfl ⟨L, rfl, o, rfl⟩)) rfl)
end Ef
set_option maxRecDepth 100000
set_option maxHeartbeats 4000000
/-! Gr: the checks where they raise. -/
namespace Ef
open PySem L2 C8 RZ PyProof.Rows PySem.Spec PySem.W
variable {P : Program} {w : World} {K : PySem.W.Frag} {mg : Str → Option Value} {base : Heap}
theorem un_ok (Z : Xx P K mg) : ∃ fd, FnOk P w K mg base L2.CX0 1 (He.ma K (He.ga K "UnknownName") "__init__") fd ["self", "name"] (spU (He.ga K "UnknownName")) ∧ Binds K fd ["self", "name"] [] ∧ OexC K (He.ga K "UnknownName") := by
  obtain ⟨fd, hU, hB⟩ := Z.uU
  exact ⟨fd, un_fn hU ⟨_, fun env => rfl⟩ rfl, hB, hU.oex⟩
def X_check_place (ds' : List D) (ex : Ex) : Prop := ∃ (L : LandM) (p : Str), ds' = [landD L, ds p] ∧ p ∉ L.places ∧ ex = .un p
theorem x_check_place (T : Tx K mg) (Z : Xx P K mg) : MetX P w K mg base 3 (He.ga K "Land") "check_place" (spX K X_check_place) := by
  refine metX T.cl_Land T.m_check_place sc_Land_check_place (fun ds d ⟨L, p, e, _⟩ => by rw [e]; rfl) (fun _ _ _ _ _ _ us hl => match us, hl with | [_, _], _ => rfl) ?_
  rintro cdv f A outer s H E _ _ ⟨L, p, rfl, hp, rfl⟩ hr
  obtain ⟨fd, fo, hB, hO⟩ := un_ok (P := P) (w := w) (base := base) Z
  show RSs _ (defBody s_Land_check_place) [.d (landD L), .d (ds p)] [] _
  refine rss_head (rs_if (ba := true) (et (DT.is (dt_cmp (de_name 1 rfl rfl (.inl (by kernel_rfl))) (de_fld (de_name 0 rfl rfl (.inl (by kernel_rfl))) rfl T.cl_Land T.na_places) o_notInS) ?_)) (fun _ => ?_) (fun h => by cases h))
  · rw [decide_eq_false hp]; rfl
  exact rss_head (rs_raiseU hO Z.iU Z.tU fo hr (by decide) hB rfl rfl Z.gU (de_name 1 rfl rfl (.inl (by kernel_rfl))) rfl)

def X_check_rows (ds' : List D) (ex : Ex) : Prop := ∃ (L : LandM) (rs : Rows) (y : Str) (m : Int), ds' = [landD L, rowsD (rs ++ [(y, m)])] ∧ (∀ r ∈ rs, r.1 ∈ L.places) ∧ y ∉ L.places ∧ ex = .un y
theorem x_check_rows (T : Tx K mg) (Z : Xx P K mg) : CalX P w K mg base 4 "check_rows" (spX K X_check_rows) := by
  refine calX T.f_check_rows sc_check_rows (fun ds d ⟨L, p, y, m, e, _⟩ => by rw [e]; rfl) (fun _ _ _ _ _ _ us hl => match us, hl with | [_, _], _ => rfl) ?_
  rintro cdv f A outer s H E _ _ ⟨L, rs, y0, m0, rfl, hw, hy0, rfl⟩ hr
  have nd := (sc_check_rows).nd
  show RSs _ (defBody s_check_rows) [.d (landD L), .d (rowsD (rs ++ [(y0, m0)])), .un, .un] [] _
  refine rss_head (rs_for (asg := asg1 2 3) (its := (rs ++ [(y0, m0)]).map rowD) rs.length (fun i ρ cs => ∃ a b, ρ = [.d (landD L), .d (rowsD (rs ++ [(y0, m0)])), a, b] ∧ cs = []) (passes_of rfl) rfl (ei (di_list (de_name 1 rfl rfl (.inl (by kernel_rfl))))) ⟨_, _, rfl, rfl⟩ (by rw [List.length_map, List.length_append]; simp) (fun i d ρ cs hi hd iv => ?_) (fun d ρ cs hd iv => ?_))
  · obtain ⟨a, b, rfl, rfl⟩ := iv
    obtain ⟨t, y, hy, rfl⟩ := rowD_get hd
    rw [List.getElem?_append_left hi] at hy
    refine ⟨(dg_tup rfl (dgs_cons (dg_name 2 nd rfl (.inl (by kernel_rfl)) (.inr (by kernel_rfl))) (dgs_cons (dg_name 3 nd rfl (.inl (by kernel_rfl)) (.inr (by kernel_rfl))) dgs_nil))), ?_⟩
    show DSs _ _ [.d (landD L), .d (rowsD (rs ++ [(y0, m0)])), .d (ds t), .d (di y)] [] _
    exact dss_one (ds_expr (d := dn) (ev (de_meth (ok_check_place T) hr (de_name 0 rfl rfl (.inl (by kernel_rfl))) (by kernel_rfl) (da_cons (de_name 2 rfl rfl (.inl (by kernel_rfl))) da_nil) ⟨L, t, rfl, hw _ (List.mem_of_getElem? hy), rfl⟩)) ⟨_, _, rfl, rfl⟩)
  · obtain ⟨a, b, rfl, rfl⟩ := iv
    obtain ⟨t, y, hy, rfl⟩ := rowD_get hd
    rw [List.getElem?_append_right (Nat.le_refl _), Nat.sub_self] at hy
    cases hy
    refine ⟨(dg_tup rfl (dgs_cons (dg_name 2 nd rfl (.inl (by kernel_rfl)) (.inr (by kernel_rfl))) (dgs_cons (dg_name 3 nd rfl (.inl (by kernel_rfl)) (.inr (by kernel_rfl))) dgs_nil))), ?_⟩
    show RSs _ _ [.d (landD L), .d (rowsD (rs ++ [(y0, m0)])), .d (ds y0), .d (di m0)] [] _
    exact rss_head (rs_expr (re_meth (x_check_place T Z) hr (de_name 0 rfl rfl (.inl (by kernel_rfl))) (by kernel_rfl) (da_cons (de_name 2 rfl rfl (.inl (by kernel_rfl))) da_nil) ⟨L, y0, rfl, hy0, rfl⟩))
def X_check_changes (ds' : List D) (ex : Ex) : Prop := ds' = [weaD []] ∧ ex = .iw
theorem x_check_changes (T : Tx K mg) (Z : Xx P K mg) : CalX P w K mg base 3 "check_changes" (spX K X_check_changes) := by
  refine calX T.f_check_changes sc_check_changes (fun ds d ⟨e, _⟩ => by rw [e]; rfl) (fun _ _ _ _ _ _ us hl => match us, hl with | [_], _ => rfl) ?_
  rintro cdv f A outer s H E _ _ ⟨rfl, rfl⟩ hr
  have nd := (sc_check_changes).nd
  show RSs _ (defBody s_check_changes) [.d (weaD []), .un, .un, .un, .un] [] _
  refine rss_cons (ds_setLc (its := []) (own := [("minute", 2), ("_", 3)]) (asg := asg1 2 3) (keep := fun _ => true) (g := fstD) 1 rfl nd (di_list (de_name 0 rfl rfl (.inl (by kernel_rfl)))) (blkOk_by (by kernel_rfl)) (by decide) (fun s H C cl fp i d hd => by cases hd) ?_ rfl (by kernel_rfl))
  show RSs _ _ [.d (weaD []), .c 0, .un, .un, .un] [.dat (.lst [])] _
  refine rss_head (rs_if (ba := true) (et (dt_or (ba := true) (bb := true) (DT.is (dt_not (dt_chain de_int (de_len (by kernel_rfl) T.b_len (da_cons (de_name 1 rfl rfl (.inl (by kernel_rfl))) da_nil) (.l _)) (de_gI (by kernel_rfl) T.c_MOST_CHANGES) o_le o_le)) rfl) (fun h => by cases h))) (fun _ => ?_) (fun h => by cases h))
  exact rss_head (rs_raiseW F.excBase_ValueError Z.eW Z.gW Z.kW (raises_own Z.sW Z.tW) rfl rfl)
/-- the three ways -/
inductive Sc (L : LandM) (w : Wea) (st br : Rows) (p : Str) : Ex → Prop where
  | place : (∀ r ∈ w, r.2 ∈ L.winds) → (∀ r ∈ st, r.1 ∈ L.places) → (∀ r ∈ br, r.1 ∈ L.places) → p ∉ L.places → Sc L w st br p (.un p)
  | wea : w = [] → (∀ r ∈ st, r.1 ∈ L.places) → (∀ r ∈ br, r.1 ∈ L.places) → p ∈ L.places → Sc L w st br p .iw
  | row (st0 : Rows) (y : Str) (m : Int) : (∀ r ∈ w, r.2 ∈ L.winds) → st = st0 ++ [(y, m)] → (∀ r ∈ st0, r.1 ∈ L.places) → y ∉ L.places → Sc L w st br p (.un y)
def X_check_fire_at (ds' : List D) (ex : Ex) : Prop := ∃ (L : LandM) (w : Wea) (st br : Rows) (p : Str), ds' = [landD L, weaD w, rowsD st, rowsD br, ds p] ∧ Sc L w st br p ex
theorem x_check_fire_at (T : Tx K mg) (Z : Xx P K mg) : CalX P w K mg base 5 "check_fire_at" (spX K X_check_fire_at) := by
  refine calX T.f_check_fire_at sc_check_fire_at (fun ds d ⟨L, w, a, b, p, e, _⟩ => by rw [e]; rfl) (fun _ _ _ _ _ _ us hl => match us, hl with | [_, _, _, _, _], _ => rfl) ?_
  rintro cdv f A outer s H E _ ex ⟨L, w, st, br, p, rfl, sc⟩ hr
  show RSs _ (defBody s_check_fire_at) [.d (landD L), .d (weaD w), .d (rowsD st), .d (rowsD br), .d (ds p)] [] _
  have hw : ∀ r ∈ w, r.2 ∈ L.winds := by
    cases sc with
    | place h _ _ _ => exact h
    | wea e _ _ _ => subst e; intro r h; cases h
    | row _ _ _ h _ _ _ => exact h
  refine rss_cons (ds_expr (d := dn) (ev (de_call (ok_check_winds T) hr (by kernel_rfl) (da_cons (de_name 0 rfl rfl (.inl (by kernel_rfl))) (da_cons (de_name 1 rfl rfl (.inl (by kernel_rfl))) da_nil)) ⟨L, w, rfl, hw, rfl⟩)) ?_)
  cases sc with
  | row st0 y m _ e h1 h2 =>
    subst e
    exact rss_head (rs_expr (re_call (x_check_rows T Z) hr rfl (da_cons (de_name 0 rfl rfl (.inl (by kernel_rfl))) (da_cons (de_name 2 rfl rfl (.inl (by kernel_rfl))) da_nil)) ⟨L, st0, y, m, rfl, h1, h2, rfl⟩))
  | place _ h1 h2 h3 =>
    refine rss_cons (ds_expr (d := dn) (ev (de_call (ok_check_rows T) hr (by kernel_rfl) (da_cons (de_name 0 rfl rfl (.inl (by kernel_rfl))) (da_cons (de_name 2 rfl rfl (.inl (by kernel_rfl))) da_nil)) ⟨L, st, rfl, h1, rfl⟩)) ?_)
    refine rss_cons (ds_expr (d := dn) (ev (de_call (ok_check_rows T) hr (by kernel_rfl) (da_cons (de_name 0 rfl rfl (.inl (by kernel_rfl))) (da_cons (de_name 3 rfl rfl (.inl (by kernel_rfl))) da_nil)) ⟨L, br, rfl, h2, rfl⟩)) ?_)
    exact rss_head (rs_expr (re_meth (x_check_place T Z) hr (de_name 0 rfl rfl (.inl (by kernel_rfl))) (by kernel_rfl) (da_cons (de_name 4 rfl rfl (.inl (by kernel_rfl))) da_nil) ⟨L, p, rfl, h3, rfl⟩))
  | wea e h1 h2 h3 =>
    subst e
    refine rss_cons (ds_expr (d := dn) (ev (de_call (ok_check_rows T) hr (by kernel_rfl) (da_cons (de_name 0 rfl rfl (.inl (by kernel_rfl))) (da_cons (de_name 2 rfl rfl (.inl (by kernel_rfl))) da_nil)) ⟨L, st, rfl, h1, rfl⟩)) ?_)
    refine rss_cons (ds_expr (d := dn) (ev (de_call (ok_check_rows T) hr (by kernel_rfl) (da_cons (de_name 0 rfl rfl (.inl (by kernel_rfl))) (da_cons (de_name 3 rfl rfl (.inl (by kernel_rfl))) da_nil)) ⟨L, br, rfl, h2, rfl⟩)) ?_)
    refine rss_cons (ds_expr (d := dn) (ev (de_meth (ok_check_place T) hr (de_name 0 rfl rfl (.inl (by kernel_rfl))) (by kernel_rfl) (da_cons (de_name 4 rfl rfl (.inl (by kernel_rfl))) da_nil) ⟨L, p, rfl, h3, rfl⟩)) ?_)
    exact rss_head (rs_expr (re_call (x_check_changes T Z) hr rfl (da_cons (de_name 1 rfl rfl (.inl (by kernel_rfl))) da_nil) ⟨rfl, rfl⟩))
def X_check_paper (ds' : List D) (ex : Ex) : Prop := ∃ (L : LandM) (w : Wea) (st br : Rows) (p : Str) (t : Told), ds' = [landD L, weaD w, rowsD st, rowsD br, ds p, paperD t] ∧ Sc L w st br p ex
theorem x_check_paper (T : Tx K mg) (Z : Xx P K mg) : CalX P w K mg base 6 "check_paper" (spX K X_check_paper) := by
  refine calX T.f_check_paper sc_check_paper (fun ds d ⟨L, w, a, b, c, e, f, _⟩ => by rw [f]; rfl) (fun _ _ _ _ _ _ us hl => match us, hl with | [_, _, _, _, _, _], _ => rfl) ?_
  rintro cdv f A outer s H E _ ex ⟨L, w, st, br, p, t, rfl, sc⟩ hr
  show RSs _ (defBody s_check_paper) [.d (landD L), .d (weaD w), .d (rowsD st), .d (rowsD br), .d (ds p), .d (paperD t), .un, .un, .un] [] _
  exact rss_head (rs_expr (re_call (x_check_fire_at T Z) hr rfl (da_cons (de_name 0 rfl rfl (.inl (by kernel_rfl))) (da_cons (de_name 1 rfl rfl (.inl (by kernel_rfl))) (da_cons (de_name 2 rfl rfl (.inl (by kernel_rfl))) (da_cons (de_name 3 rfl rfl (.inl (by kernel_rfl))) (da_cons (de_name 4 rfl rfl (.inl (by kernel_rfl))) da_nil))))) ⟨L, w, st, br, p, rfl, sc⟩))
def X_check_text (ds' : List D) (ex : Ex) : Prop := ∃ (L : LandM) (w : Wea) (st br : Rows) (p : Str) (t : Told), ds' = [landD L, weaD w, rowsD st, rowsD br, ds p, ds (textM t)] ∧ TextOk t ∧ Sc L w st br p ex
theorem x_check_text (T : Tx K mg) (Z : Xx P K mg) : CalX P w K mg base 7 "check_text" (spX K X_check_text) := by
  refine calX T.f_check_text sc_check_text (fun ds d ⟨L, w, a, b, c, e, f, _⟩ => by rw [f]; rfl) (fun _ _ _ _ _ _ us hl => match us, hl with | [_, _, _, _, _, _], _ => rfl) ?_
  rintro cdv f A outer s H E _ ex ⟨L, w, st, br, p, t, rfl, ht, sc⟩ hr
  show RSs _ (defBody s_check_text) [.d (landD L), .d (weaD w), .d (rowsD st), .d (rowsD br), .d (ds p), .d (ds (textM t))] [] _
  exact rss_head (rs_ret (re_call (x_check_paper T Z) hr rfl (da_cons (de_name 0 rfl rfl (.inl (by kernel_rfl))) (da_cons (de_name 1 rfl rfl (.inl (by kernel_rfl))) (da_cons (de_name 2 rfl rfl (.inl (by kernel_rfl))) (da_cons (de_name 3 rfl rfl (.inl (by kernel_rfl))) (da_cons (de_name 4 rfl rfl (.inl (by kernel_rfl))) (da_cons (DN.de (dn_call (ok_parse_paper T) hr (by kernel_rfl) (da_cons (de_name 5 rfl rfl (.inl (by kernel_rfl))) da_nil) ⟨t, rfl, ht, rfl⟩)) da_nil)))))) ⟨L, w, st, br, p, t, rfl, sc⟩))
end Ef
set_option maxRecDepth 100000
set_option maxHeartbeats 4000000
/-! Gs: _law_refused. -/
namespace Ef
open PySem L2 C8 RZ PyProof.Rows PySem.Spec PySem.W
variable {P : Program} {w : World} {K : PySem.W.Frag} {mg : Str → Option Value} {base : Heap}
def N_rf : List Str := N__law_refused ++ [("e" : Str)]
theorem sc_rf : FnScope N_rf P__law_refused (defScope s__law_refused) := ⟨by kernel_rfl, by kernel_rfl, by kernel_rfl, by decide +kernel, by kernel_rfl, by decide +kernel, by decide +kernel⟩
def R_law_refused (ds' : List D) (d : D) : Prop := ∃ (L : LandM) (w : Wea) (st br : Rows) (p : Str) (t : Told) (ex : Ex), ds' = [landD L, .tup [weaD w, rowsD st, rowsD br], ds p, ds (textM t)] ∧ TextOk t ∧ Sc L w st br p ex ∧ d = valE ex
theorem ok_law_refused (T : Tx K mg) (Z : Xx P K mg) : Cal P w K mg base 8 "_law_refused" (spD K R_law_refused) [] := by
  obtain ⟨g, fd, Fd⟩ := T.f__law_refused
  refine ⟨_, fd, P__law_refused, [], def_T Z Fd sc_rf 4 rfl (by decide +kernel) (by decide +kernel) (by decide +kernel) (by decide +kernel) (by decide +kernel) T.b_isinstance T.b_ValueError (fun env h => ?_) (fun ds d ⟨L, w, a, b, c, e, f, g, _⟩ => by rw [g]; rfl) ?_, g, Fd.kp, Fd.bindsN fun _ _ _ _ _ _ us hl => match us, hl with | [_, _, _, _], _ => rfl, .nil⟩
  · rfl
  rintro cdv A outer s H E _ _ ⟨L, w, st, br, p, t, ex, rfl, ht, sc, rfl⟩ hr
  refine ⟨ex, rfl, fun pn xe hp => ?_⟩
  show RSs _ _ [.d (landD L), .d (.tup [weaD w, rowsD st, rowsD br]), .d (ds p), .d (ds (textM t)), .un] [] _
  exact rss_head (rs_expr (re_call (x_check_text T Z) hr rfl (da_cons (de_name 0 rfl rfl (.inl (by kernel_rfl))) (da_cons (de_ix (d := weaD w) (de_name 1 rfl rfl (.inl (by kernel_rfl))) de_int (ix_t rfl)) (da_cons (de_ix (d := rowsD st) (de_name 1 rfl rfl (.inl (by kernel_rfl))) de_int (ix_t rfl)) (da_cons (de_ix (d := rowsD br) (de_name 1 rfl rfl (.inl (by kernel_rfl))) de_int (ix_t rfl)) (da_cons (de_name 2 rfl rfl (.inl (by kernel_rfl))) (da_cons (de_name 3 rfl rfl (.inl (by kernel_rfl))) da_nil)))))) ⟨L, w, st, br, p, t, rfl, ht, sc⟩))
end Ef
set_option maxRecDepth 100000
set_option maxHeartbeats 4000000
/-! Gt: the numbers of a script. -/
namespace Ef
open PySem L2 C8 RZ PyProof.Rows PySem.Spec PySem.W
variable {P : Program} {w : World} {K : PySem.W.Frag} {mg : Str → Option Value} {base : Heap}
theorem DN.is {X : Cx} {e : Expr} {ro : List (Option D)} {d d' : D} (h : DN X e ro d) (q : d = d') : DN X e ro d' := q ▸ h
/-- a statement with a known state behind it -/
theorem dss_mid {X : Cx} {st : Stmt} {rest : List Stmt} {ρ : List SD} {cs : List CD} {P : Po} (I : List SD → List CD → Prop) (h1 : DS X st ρ cs { P with nx := I }) (h2 : ∀ ρ' cs', I ρ' cs' → DSs X rest ρ' cs' P) : DSs X (st :: rest) ρ cs P :=
  dss_cons fun F0 H0 F H σ E S ok => h1 F0 H0 F H σ E S ⟨fun σ F H ρ cs q S' => ok.nx σ F H ρ cs (h2 ρ cs q) S', ok.rt, ok.bk, ok.ct⟩
abbrev absI (i : Int) : Int := if i < 0 then -i else i
def rowStep (c : Int) (st : Int × Int × List Int) (k : Nat) : Int × Int × List Int :=
  if 10 ^ (18 : Nat) ≤ absI c then ((st.1 * 16807 + 271 * ((k : Int) + 3)) % 2147483629, st.2.1 / 1009, st.2.2 ++ [st.2.1 % 1009])
  else ((st.1 * 16807 + 271 * ((k : Int) + 3)) % 2147483629, st.2.1, st.2.2 ++ [((st.1 * 16807 + 271 * ((k : Int) + 3)) % 2147483629 / 7) % 1009])
def rowGo (c : Int) (i : Nat) : Int × Int × List Int := (List.range i).foldl (rowStep c) ((absI c * 48271 + 69621) % 2147483647, absI c, [])
def rowM (c : Int) (n : Nat) : List Int := (rowGo c n).2.2
theorem rowGo_succ (c : Int) (i : Nat) : rowGo c (i + 1) = rowStep c (rowGo c i) i := by
  unfold rowGo
  rw [List.range_succ, List.foldl_append]; rfl
theorem rowStep_len (c : Int) (st : Int × Int × List Int) (k : Nat) : (rowStep c st k).2.2.length = st.2.2.length + 1 := by
  unfold rowStep
  split <;> rw [List.length_append] <;> rfl
theorem rowGo_len (c : Int) : ∀ i, (rowGo c i).2.2.length = i
  | 0 => rfl
  | i + 1 => by rw [rowGo_succ, rowStep_len, rowGo_len c i]
theorem rowM_len (c : Int) (n : Nat) : (rowM c n).length = n := rowGo_len c n
theorem rowStep_ok {c : Int} {st : Int × Int × List Int} {k : Nat} (h : ∀ x ∈ st.2.2, 0 ≤ x ∧ x < 1009) : ∀ x ∈ (rowStep c st k).2.2, 0 ≤ x ∧ x < 1009 := by
  unfold rowStep
  split <;> (intro x hx; rcases List.mem_append.mp hx with hx | hx; exact h x hx; rcases List.mem_singleton.mp hx with rfl; omega)
theorem rowM_ok (c : Int) (n : Nat) : ∀ x ∈ rowM c n, 0 ≤ x ∧ x < 1009 := by
  unfold rowM
  induction n with
  | zero => intro x h; cases h
  | succ n ih => rw [rowGo_succ]; exact rowStep_ok ih
def R_law_row (ds' : List D) (d : D) : Prop := ∃ (c : Int) (n : Nat), ds' = [di c, di n] ∧ n ≤ 1000 ∧ d = .lst ((rowM c n).map di)
theorem ok_law_row (T : Tx K mg) : Cal P w K mg base 1 "_law_row" (spN K R_law_row) [] := by
  refine calN T.f__law_row sc__law_row (fun ds d ⟨L, n, e, _⟩ => by rw [e]; rfl) (fun _ _ _ _ _ _ us hl => match us, hl with | [_, _], _ => rfl) ?_
  rintro cdv f A outer s H E _ _ ⟨c, n, rfl, hn, rfl⟩ hr
  have nd := (sc__law_row).nd
  show DSs _ (defBody s__law_row) [.d (di c), .d (di n), .un, .un, .un, .un] [] _
  refine dss_cons (ds_setN 2 (en (dn_lst da_nil)) ?_ nd rfl (.inl (by kernel_rfl)) (.inr (by kernel_rfl)))
  refine dss_cons (ds_set 3 (d := di (absI c)) (ev (de_abs (by kernel_rfl) T.b_abs (da_cons (de_name 0 rfl rfl (.inl (by kernel_rfl))) da_nil))) ?_ nd rfl (.inl (by kernel_rfl)) (.inr (by kernel_rfl)))
  refine dss_cons (ds_set 4 (evh (de_bin (de_int1 (by kernel_rfl) T.b_int (da_cons (de_bin (de_bin (de_name 3 rfl rfl (.inl (by kernel_rfl))) de_int (o_mul (.inr (by decide)))) de_int (o_add)) da_nil)) de_int (o_mod (by decide)))) ?_ nd rfl (.inl (by kernel_rfl)) (.inr (by kernel_rfl)))
  show DSs _ _ [.d (di c), .d (di n), .c 0, .d (di (absI c)), .d (di ((absI c * 48271 + 69621) % 2147483647)), .un] [.dat (.lst [])] _
  refine dss_cons (ds_for (asg := asgA 5) (fun i ρ cs => ∃ k, ρ = [.d (di c), .d (di n), .c 0, .d (di (rowGo c i).2.1), .d (di (rowGo c i).1), k] ∧ cs = [.dat (.lst ((rowGo c i).2.2.map di))]) PassesOwn.never rfl (ei (di_range (by have : n ≤ 1000 := hn; omega) (by kernel_rfl) T.b_range (da_cons (de_name 1 rfl rfl (.inl (by kernel_rfl))) da_nil))) ⟨_, rfl, rfl⟩ (fun i d ρ cs hd iv => ⟨(dg_name 5 nd rfl (.inl (by kernel_rfl)) (.inr (by kernel_rfl))), ?_⟩) (fun ρ cs iv => ?_))
  · obtain ⟨hi, rfl⟩ := rng_get hd
    obtain ⟨k, rfl, rfl⟩ := iv
    have hl : ((rowGo c i).2.2.map di).length < sizeLine := by rw [List.length_map, rowGo_len]; exact small (m := 1000) (by omega)
    show DSs _ _ [.d (di c), .d (di n), .c 0, .d (di (rowGo c i).2.1), .d (di (rowGo c i).1), .d (di (i : Int))] _ _
    refine dss_cons (ds_set 4 (evh (de_bin (de_int1 (by kernel_rfl) T.b_int (da_cons (de_bin (de_bin (de_name 4 rfl rfl (.inl (by kernel_rfl))) de_int (o_mul (.inr (by decide)))) (de_bin de_int (de_bin (de_name 5 rfl rfl (.inl (by kernel_rfl))) de_int (o_add)) (o_mul (.inl (by decide)))) (o_add)) da_nil)) de_int (o_mod (by decide)))) ?_ nd rfl (.inl (by kernel_rfl)) (.inr (by kernel_rfl)))
    show DSs _ _ [.d (di c), .d (di n), .c 0, .d (di (rowGo c i).2.1), .d (di (((rowGo c i).1 * 16807 + 271 * ((i : Int) + 3)) % 2147483629)), .d (di (i : Int))] [.dat (.lst ((rowGo c i).2.2.map di))] _
    refine dss_one (ds_if (ba := decide ((10 : Int) ^ (18 : Nat) ≤ absI c)) (et (dt_cmp (de_abs (by kernel_rfl) T.b_abs (da_cons (de_name 0 rfl rfl (.inl (by kernel_rfl))) da_nil)) (de_bin de_int de_int (o_pow ⟨by decide, by decide, by decide⟩)) o_ge)) (fun h => ?_) (fun h => ?_))
    · have e : rowGo c (i + 1) = (((rowGo c i).1 * 16807 + 271 * ((i : Int) + 3)) % 2147483629, (rowGo c i).2.1 / 1009, (rowGo c i).2.2 ++ [(rowGo c i).2.1 % 1009]) := by
        rw [rowGo_succ]; exact if_pos (of_decide_eq_true h)
      refine dss_cons (ds_append 2 rfl rfl (evh (de_bin (de_int1 (by kernel_rfl) T.b_int (da_cons (de_name 3 rfl rfl (.inl (by kernel_rfl))) da_nil)) de_int (o_mod (by decide)))) hl ?_ rfl (.inl (by kernel_rfl)))
      refine dss_one (ds_set 3 (evh (de_bin (de_name 3 rfl rfl (.inl (by kernel_rfl))) de_int (o_fdiv ⟨by decide, by decide⟩))) ?_ nd rfl (.inl (by kernel_rfl)) (.inr (by kernel_rfl)))
      refine ⟨.d (di (i : Int)), ?_, ?_⟩
      · rw [e]; rfl
      · rw [e]; show _ = [CD.dat (.lst (((rowGo c i).2.2 ++ [(rowGo c i).2.1 % 1009]).map di))]; rw [List.map_append]; rfl
    · have e : rowGo c (i + 1) = (((rowGo c i).1 * 16807 + 271 * ((i : Int) + 3)) % 2147483629, (rowGo c i).2.1, (rowGo c i).2.2 ++ [((rowGo c i).1 * 16807 + 271 * ((i : Int) + 3)) % 2147483629 / 7 % 1009]) := by
        rw [rowGo_succ]; exact if_neg (of_decide_eq_false h)
      refine dss_one (ds_append 2 rfl rfl (evh (de_bin (de_int1 (by kernel_rfl) T.b_int (da_cons (de_bin (de_name 4 rfl rfl (.inl (by kernel_rfl))) de_int (o_fdiv ⟨by decide, by decide⟩)) da_nil)) de_int (o_mod (by decide)))) hl ?_ rfl (.inl (by kernel_rfl)))
      refine ⟨.d (di (i : Int)), ?_, ?_⟩
      · rw [e]
      · rw [e]; show _ = [CD.dat (.lst (((rowGo c i).2.2 ++ [((rowGo c i).1 * 16807 + 271 * ((i : Int) + 3)) % 2147483629 / 7 % 1009]).map di))]; rw [List.map_append]; rfl
  · obtain ⟨k, rfl, rfl⟩ := iv
    rw [rng_length]
    exact dss_one (ds_retC 2 rfl rfl rfl rfl (.inl (by kernel_rfl)))
end Ef
set_option maxRecDepth 100000
set_option maxHeartbeats 4000000
/-! Gu: the numbers. -/
namespace Ef
open PySem L2 C8 RZ PyProof.Rows PySem.Spec PySem.W
variable {P : Program} {w : World} {K : PySem.W.Frag} {mg : Str → Option Value} {base : Heap}
def eachM (l m : Nat) : Nat := 1 + m / max 1 l
def flatM (cells : List Int) (e : Nat) : List Int := cells.flatMap fun c => rowM c e
def numbersM (sc : List Int) (m : Nat) : List Int :=
  (flatM (sc.take 63) (eachM (sc.take 63).length m) ++ List.replicate (m - (flatM (sc.take 63) (eachM (sc.take 63).length m)).length) 0).take m
theorem flatM_len (cells : List Int) (e : Nat) : (flatM cells e).length = cells.length * e := by
  unfold flatM
  induction cells with
  | nil => simp
  | cons c cs ih => rw [List.flatMap_cons, List.length_append, ih, rowM_len, List.length_cons, Nat.succ_mul, Nat.add_comm]
theorem flatM_succ {cells : List Int} {e i : Nat} {c : Int} (h : cells[i]? = some c) : flatM (cells.take (i + 1)) e = flatM (cells.take i) e ++ rowM c e := by
  unfold flatM
  rw [take_filter_succ h, List.flatMap_append, List.flatMap_cons, List.flatMap_nil, List.append_nil]
theorem numbersM_len (sc : List Int) (m : Nat) : (numbersM sc m).length = m := by
  unfold numbersM
  rw [List.length_take, List.length_append, List.length_replicate]
  omega
theorem numbersM_ok (sc : List Int) (m : Nat) : ∀ x ∈ numbersM sc m, 0 ≤ x ∧ x < 1009 := by
  intro x hx
  unfold numbersM at hx
  rcases List.mem_append.mp (List.mem_of_mem_take hx) with h | h
  · obtain ⟨c, _, hc⟩ := List.mem_flatMap.mp h
    exact rowM_ok c _ x hc
  · rw [List.eq_of_mem_replicate h]; omega
theorem pures_di (xs : List Int) : D.pures (xs.map di) = true := pures_all fun d hd => by obtain ⟨x, _, rfl⟩ := List.mem_map.mp hd; rfl
def R_law_numbers (ds' : List D) (d : D) : Prop := ∃ (sc : List Int) (m : Nat), ds' = [.zst (sc.map di), di m] ∧ m ≤ 170 ∧ d = .lst ((numbersM sc m).map di)
theorem ok_law_numbers (T : Tx K mg) : Cal P w K mg base 2 "_law_numbers" (spN K R_law_numbers) [] := by
  refine calN T.f__law_numbers sc__law_numbers (fun ds d ⟨L, n, e, _⟩ => by rw [e]; rfl) (fun _ _ _ _ _ _ us hl => match us, hl with | [_, _], _ => rfl) ?_
  rintro cdv f A outer s H E _ _ ⟨sc, m, rfl, hm, rfl⟩ hr
  have nd := (sc__law_numbers).nd
  show DSs _ (defBody s__law_numbers) [.d (.zst (sc.map di)), .d (di m), .un, .un, .un, .un, .un] [] _
  have h63 : (sc.take 63).length ≤ 63 := by rw [List.length_take]; omega
  have he : eachM (sc.take 63).length m ≤ 171 := by
    unfold eachM
    have := Nat.div_le_self m (max 1 (sc.take 63).length)
    omega
  have hfl : (flatM (sc.take 63) (eachM (sc.take 63).length m)).length ≤ 63 * 171 := by
    rw [flatM_len]; exact Nat.mul_le_mul h63 he
  have eN : numbersM sc m = (flatM (sc.take 63) (eachM (sc.take 63).length m) ++ List.replicate (m - (flatM (sc.take 63) (eachM (sc.take 63).length m)).length) 0).take m := rfl
  generalize hc : sc.take 63 = cells at *
  refine dss_cons (ds_set 2 (d := .lst (cells.map di)) (ev (DN.de (DN.is (dn_sliceZ (de_name 0 rfl rfl (.inl (by kernel_rfl))) do_none (do_some de_int)) ?_))) ?_ nd rfl (.inl (by kernel_rfl)) (.inr (by kernel_rfl)))
  · rw [cutG_to _ (by decide), ← List.map_take, ← hc]; rfl
  show DSs _ _ [.d (.zst (sc.map di)), .d (di m), .d (.lst (cells.map di)), .un, .un, .un, .un] [] _
  refine dss_cons (ds_set 3 (d := di (eachM cells.length m : Nat)) (ev (DE.is (de_bin de_int (de_bin (de_name 1 rfl rfl (.inl (by kernel_rfl))) (de_max2 rfl (by kernel_rfl) T.b_max (da_cons de_int (da_cons (de_len (by kernel_rfl) T.b_len (da_cons (de_name 2 rfl rfl (.inl (by kernel_rfl))) da_nil) (.l _)) da_nil))) (o_fdiv ⟨?_, ?_⟩)) (o_add)) ?_)) ?_ nd rfl (.inl (by kernel_rfl)) (.inr (by kernel_rfl)))
  · split <;> omega
  · rw [List.length_map]; split <;> omega
  · rw [List.length_map]
    unfold eachM
    have e1 : (if (cells.length : Int) > 1 then (cells.length : Int) else 1) = ((max 1 cells.length : Nat) : Int) := by split <;> omega
    rw [e1]
    show di _ = di _
    rw [Int.natCast_add, Int.natCast_ediv]; rfl
  generalize eachM cells.length m = e at *
  refine dss_cons (ds_setN 4 (en (dn_lst da_nil)) ?_ nd rfl (.inl (by kernel_rfl)) (.inr (by kernel_rfl)))
  show DSs _ _ [.d (.zst (sc.map di)), .d (di m), .d (.lst (cells.map di)), .d (di e), .c 0, .un, .un] [.dat (.lst [])] _
  refine dss_cons (ds_for (asg := asgA 5) (fun i ρ cs => ∃ a b, ρ = [.d (.zst (sc.map di)), .d (di m), .d (.lst (cells.map di)), .d (di e), .c 0, a, b] ∧ cs = [.dat (.lst ((flatM (cells.take i) e).map di))]) PassesOwn.never rfl (ei (di_list (de_name 2 rfl rfl (.inl (by kernel_rfl))))) ⟨_, _, rfl, rfl⟩ (fun i d ρ cs hd iv => ⟨(dg_name 5 nd rfl (.inl (by kernel_rfl)) (.inr (by kernel_rfl))), ?_⟩) (fun ρ cs iv => ?_))
  · obtain ⟨a, b, rfl, rfl⟩ := iv
    obtain ⟨c, hcc, rfl⟩ := map_get hd
    have hi : i < cells.length := some_lt hcc
    show DSs _ _ [.d (.zst (sc.map di)), .d (di m), .d (.lst (cells.map di)), .d (di e), .c 0, .d (di c), b] _ _
    refine dss_one (ds_for (asg := asgA 6) (its := (rowM c e).map di) (fun j ρ cs => ∃ b, ρ = [.d (.zst (sc.map di)), .d (di m), .d (.lst (cells.map di)), .d (di e), .c 0, .d (di c), b] ∧ cs = [.dat (.lst ((flatM (cells.take i) e ++ (rowM c e).take j).map di))]) PassesOwn.never rfl (ei (di_list (DN.de (dn_call (ok_law_row T) hr (by kernel_rfl) (da_cons (de_name 5 rfl rfl (.inl (by kernel_rfl))) (da_cons (de_name 3 rfl rfl (.inl (by kernel_rfl))) da_nil)) ⟨c, e, rfl, by omega, rfl⟩)))) ⟨_, rfl, by rw [List.take_zero, List.append_nil]⟩ (fun j d ρ cs hd2 iv => ⟨(dg_name 6 nd rfl (.inl (by kernel_rfl)) (.inr (by kernel_rfl))), ?_⟩) (fun ρ cs iv => ?_))
    · obtain ⟨b, rfl, rfl⟩ := iv
      obtain ⟨x, hx, rfl⟩ := map_get hd2
      show DSs _ _ [.d (.zst (sc.map di)), .d (di m), .d (.lst (cells.map di)), .d (di e), .c 0, .d (di c), .d (di x)] _ _
      refine dss_one (ds_append 4 rfl rfl (ev (de_name 6 rfl rfl (.inl (by kernel_rfl)))) ?_ ⟨_, rfl, ?_⟩ rfl (.inl (by kernel_rfl)))
      · rw [List.length_map, List.length_append, flatM_len, List.length_take, List.length_take, rowM_len]
        have : min i cells.length * e ≤ 63 * 171 := Nat.mul_le_mul (by omega) (by omega)
        exact small (m := 20000) (by omega)
      · show [CD.dat (.lst _)] = _
        rw [take_filter_succ hx, ← List.append_assoc, List.map_append, List.map_append, List.map_append]; rfl
    · obtain ⟨b, rfl, rfl⟩ := iv
      refine ⟨_, _, rfl, ?_⟩
      rw [List.length_map, List.take_length, flatM_succ hcc]
  obtain ⟨a, b, rfl, rfl⟩ := iv
  rw [List.length_map, List.take_length]
  generalize flatM cells e = fl at *
  refine dss_cons (ds_while (α := Nat) (fun _ => [.d (.zst (sc.map di)), .d (di m), .d (.lst (cells.map di)), .d (di e), .c 0, a, b]) (fun k => [.dat (.lst ((fl ++ List.replicate k 0).map di))]) (fun k => k ≤ m - fl.length) (fun k => m - (fl.length + k)) (fun k => decide (((fl.length + k : Nat) : Int) < m)) 0 PassesOwn.never (Nat.zero_le _) (fun k ia => et (DT.is (dt_cmp (de_len (by kernel_rfl) T.b_len (da_cons (de_name 4 rfl rfl (.inl (by kernel_rfl))) da_nil) (.l _)) (de_name 1 rfl rfl (.inl (by kernel_rfl))) o_lt) ?_)) (fun k ia hb => ?_) (fun k ia hb => ?_) rfl (by rw [List.replicate_zero, List.append_nil]))
  · rw [List.length_map, List.length_append, List.length_replicate]
  · have hb := of_decide_eq_true hb
    have q : fl.length + k < m := by omega
    have q2 : k + 1 ≤ m - fl.length := by omega
    have q3 : m - (fl.length + (k + 1)) < m - (fl.length + k) := by omega
    refine dss_one (ds_append 4 rfl rfl (ev de_int) ?_ ⟨k + 1, q2, q3, rfl, ?_⟩ rfl (.inl (by kernel_rfl)))
    · rw [List.length_map, List.length_append, List.length_replicate]; exact small (m := 170) (by omega)
    · show [CD.dat (.lst _)] = [CD.dat (.lst _)]
      rw [List.replicate_succ', ← List.append_assoc, List.map_append (l₂ := [0])]; rfl
  · have hb := of_decide_eq_false hb
    have e1 : k = m - fl.length := by
      have ia : k ≤ m - fl.length := ia
      omega
    refine dss_one (ds_retN (d := .lst ((numbersM sc m).map di)) (enh (DN.is (dn_slice (de_name 4 rfl rfl (.inl (by kernel_rfl))) do_none (do_some (de_name 1 rfl rfl (.inl (by kernel_rfl))))) ?_) ?_) rfl)
    · rw [cutG_to _ (by omega), ← List.map_take, eN, ← e1]; rfl
    · exact pures_di _
end Ef
set_option maxRecDepth 100000
set_option maxHeartbeats 4000000
/-! Gv: the names. -/
namespace Ef
open PySem L2 C8 RZ PyProof.Rows PySem.Spec PySem.W TL
variable {P : Program} {w : World} {K : PySem.W.Frag} {mg : Str → Option Value} {base : Heap}
def letters : Str := "abcdefghijklmnopqrstuvwxyz0123456789"
def sgnC (i : Int) : Nat := (letters.cps.toList[i.toNat]?).getD 0
def sgn (i : Int) : Str := ⟨#[sgnC i]⟩
theorem letters_len : letters.cps.toList.length = 36 := by decide +kernel
theorem sgn_at {i : Int} (h : 0 ≤ i) (h2 : i < 36) : L2.atI letters.cps.toList i = some (sgnC i) := by
  have e : i = ((i.toNat : Nat) : Int) := by omega
  have hl : i.toNat < letters.cps.toList.length := by rw [letters_len]; omega
  rw [e]
  refine atI_nat ?_
  unfold sgnC
  rw [Int.toNat_natCast, List.getElem?_eq_getElem hl]; rfl
def restM (x : Int) : Str := Txt.join "" ((List.range (x % 11).toNat).map fun (k : Nat) => sgn ((x + 7 * (k : Int) * (k : Int)) % 36))
def ownM (x k : Int) : Str := if (x / 121 + k) % 3 = 0 then cutS (restM x) (some 1) none else restM x
def spotM (x k : Int) : Int := if ((ownM x k).length : Int) < x / 11 % (x % 11 + 1) then ((ownM x k).length : Int) else x / 11 % (x % 11 + 1)
def stepM (x : Int) : Int := if x / 363 % 2 = 1 then 31 else 5
def nameK (x k : Int) : Str := sgn ((x + 3 * k) % 26) ++ cutS (ownM x k) none (some (spotM x k)) ++ sgn ((x + stepM x * k) % 36) ++ cutS (ownM x k) (some (spotM x k)) none
def namesM (x : Int) (n : Nat) : List Str := (List.range n).map fun (k : Nat) => nameK x k
theorem tl_join0 (ys : List Str) : (Txt.join "" ys).cps.toList = (ys.map tl).flatten := by
  have h := tl_join "" ys
  have : ∀ ps : List (List Nat), joinL (tl "") ps = ps.flatten := fun ps => by
    induction ps with
    | nil => rfl
    | cons p ps ih =>
      cases ps with
      | nil => show p = (p :: [] : List (List Nat)).flatten; simp
      | cons q r =>
        show p ++ (tl "" ++ joinL (tl "") (q :: r)) = _
        rw [ih]; rfl
  rw [this] at h
  exact (congrArg tl (join_eq "" ys)).trans h
theorem rest_signs (x : Int) : (restM x).cps.toList = (List.range (x % 11).toNat).map fun (k : Nat) => sgnC ((x + 7 * (k : Int) * (k : Int)) % 36) := by
  unfold restM
  rw [tl_join0, List.map_map]
  generalize List.range (x % 11).toNat = l
  induction l with
  | nil => rfl
  | cons k l ih =>
    rw [List.map_cons, List.flatten_cons, ih, List.map_cons]; rfl
theorem rest_len (x : Int) : (restM x).length = (x % 11).toNat := by rw [len_cps, rest_signs, List.length_map, List.length_range]
theorem cutS_signs_from (z : Str) {i : Int} (h : 0 ≤ i) : (cutS z (some i) none).cps.toList = z.cps.toList.drop i.toNat := by
  have := cutG_from z.cps.toList h
  unfold cutG at this
  unfold cutS
  rw [List.toList_toArray, len_cps]
  exact this
theorem cutS_signs_to (z : Str) {i : Int} (h : 0 ≤ i) : (cutS z none (some i)).cps.toList = z.cps.toList.take i.toNat := by
  have := cutG_to z.cps.toList h
  unfold cutG at this
  unfold cutS
  rw [List.toList_toArray, len_cps]
  exact this
theorem own_signs (x k : Int) : (ownM x k).cps.toList = (restM x).cps.toList ∨ (ownM x k).cps.toList = (restM x).cps.toList.drop 1 := by
  unfold ownM
  split
  · exact .inr (cutS_signs_from _ (by decide))
  · exact .inl rfl
theorem own_len (x k : Int) : (ownM x k).length ≤ 10 := by
  have h : (restM x).cps.toList.length ≤ 10 := by rw [← len_cps, rest_len]; omega
  rw [len_cps]
  rcases own_signs x k with e | e <;> rw [e]
  · exact h
  · rw [List.length_drop]; omega
theorem spot_nn (x k : Int) : 0 ≤ spotM x k := by
  unfold spotM
  have : 0 ≤ x / 11 % (x % 11 + 1) := Int.emod_nonneg _ (by omega)
  split <;> omega
theorem name_signs (x k : Int) : (nameK x k).cps.toList = sgnC ((x + 3 * k) % 26) :: ((ownM x k).cps.toList.take (spotM x k).toNat ++ sgnC ((x + stepM x * k) % 36) :: (ownM x k).cps.toList.drop (spotM x k).toNat) := by
  unfold nameK
  rw [Str.cps_append, Array.toList_append, Str.cps_append, Array.toList_append, Str.cps_append, Array.toList_append, cutS_signs_from _ (spot_nn x k), cutS_signs_to _ (spot_nn x k)]
  show ([_] ++ _) ++ [_] ++ _ = _
  simp
theorem name_K_len (x k : Int) : 2 ≤ (nameK x k).length ∧ (nameK x k).length ≤ 12 := by
  have h := own_len x k
  rw [len_cps] at h ⊢
  rw [name_signs, List.length_cons, List.length_append, List.length_cons, List.length_take, List.length_drop]
  omega
def R_law_names (ds' : List D) (d : D) : Prop := ∃ (x : Int) (n : Nat), ds' = [di x, di n] ∧ n ≤ 20 ∧ d = .lst ((namesM x n).map ds)
theorem ok_law_names (T : Tx K mg) : Cal P w K mg base 1 "_law_names" (spN K R_law_names) [] := by
  refine calN T.f__law_names sc__law_names (fun ds d ⟨L, n, e, _⟩ => by rw [e]; rfl) (fun _ _ _ _ _ _ us hl => match us, hl with | [_, _], _ => rfl) ?_
  rintro cdv f A outer s H E _ _ ⟨x, n, rfl, hn, rfl⟩ hr
  have nd := (sc__law_names).nd
  show DSs _ (defBody s__law_names) [.d (di x), .d (di n), .un, .un, .un, .un, .un, .un, .un, .un, .un] [] _
  refine dss_cons (ds_set 2 (ev de_str) ?_ nd rfl (.inr (by kernel_rfl)) (.inl (by kernel_rfl)))
  refine dss_cons (ds_set 3 (ev (de_bin (de_int1 (by kernel_rfl) T.b_int (da_cons (de_name 0 rfl rfl (.inr (.inl (by kernel_rfl)))) da_nil)) de_int (o_mod (by decide)))) ?_ nd rfl (.inl (by kernel_rfl)) (.inr (by kernel_rfl)))
  have h11 : x % 11 = (((x % 11).toNat : Nat) : Int) := by omega
  show DSs _ _ [.d (di x), .d (di n), .d (ds letters), .d (di (x % 11)), .un, .un, .un, .un, .un, .un, .un] [] _
  refine dss_cons (ds_set 4 (d := ds (restM x)) (ev (de_join ?_ de_str (DN.de (DN.is (dn_lc (its := rng (x % 11).toNat) (own := [("_law_k", 7)]) (asg := asgA 7) (keep := fun _ => true) (g := fun d => match d with | .v (.int k) => ds (sgn ((x + 7 * k * k) % 36)) | d => d) rfl nd (di_range (by omega) (by kernel_rfl) T.b_range (da_cons (DE.is (de_name 3 rfl rfl (.inl (by kernel_rfl))) (congrArg di h11)) da_nil)) (blkOk_by (by kernel_rfl)) (by rw [rng_length]; exact small (m := 11) (by omega)) (fun s H C cl fp i d hd => ?_)) ?_)))) ?_ nd rfl (.inl (by kernel_rfl)) (.inr (by kernel_rfl)))
  rotate_left
  · obtain ⟨hi, rfl⟩ := rng_get hd
    have hb : -(2 ^ 64) < (i : Int) ∧ (i : Int) < 2 ^ 64 := by omega
    exact ⟨(dg_name 7 nd rfl (.inl (by kernel_rfl)) (.inr (by kernel_rfl))), by simp [asgA], dts_nil, fun _ => (de_ix (de_name 2 rfl rfl (.inr (.inl (by kernel_rfl)))) (de_bin (de_int1 (by kernel_rfl) T.b_int (da_cons (de_bin (de_name 0 rfl rfl (.inr (.inl (by kernel_rfl)))) (de_bin (de_bin de_int (de_name 7 rfl rfl (.inl (by kernel_rfl))) (o_mul (.inr hb))) (de_name 7 rfl rfl (.inl (by kernel_rfl))) (o_mul (.inr hb))) (o_add)) da_nil)) de_int (o_mod (by decide))) (ix_s (by decide +kernel) (sgn_at (by omega) (by omega))))⟩
  · rw [filtT]
    unfold rng
    rw [List.map_map]
    show D.lst _ = D.lst _
    rw [List.map_map]
    rfl
  · show DSs _ _ [.d (di x), .d (di n), .d (ds letters), .d (di (x % 11)), .d (ds (restM x)), .un, .un, .un, .un, .un, .un] [] _
    refine dss_cons (ds_set 5 (d := di (x / 11 % (x % 11 + 1))) (ev (de_bin (de_bin (de_name 0 rfl rfl (.inr (.inl (by kernel_rfl)))) de_int (o_fdiv ⟨by decide, by decide⟩)) (de_bin (de_name 3 rfl rfl (.inl (by kernel_rfl))) de_int (o_add)) (o_mod (by omega)))) ?_ nd rfl (.inl (by kernel_rfl)) (.inr (by kernel_rfl)))
    refine dss_cons (ds_setN 6 (en (dn_lst da_nil)) ?_ nd rfl (.inl (by kernel_rfl)) (.inr (by kernel_rfl)))
    show DSs _ _ [.d (di x), .d (di n), .d (ds letters), .d (di (x % 11)), .d (ds (restM x)), .d (di (x / 11 % (x % 11 + 1))), .c 0, .un, .un, .un, .un] [.dat (.lst [])] _
    refine dss_cons (ds_for (asg := asgA 7) (fun i ρ cs => ∃ a b c e, ρ = [.d (di x), .d (di n), .d (ds letters), .d (di (x % 11)), .d (ds (restM x)), .d (di (x / 11 % (x % 11 + 1))), .c 0, a, b, c, e] ∧ cs = [.dat (.lst ((namesM x i).map ds))]) PassesOwn.never rfl (ei (di_range (by omega) (by kernel_rfl) T.b_range (da_cons (de_name 1 rfl rfl (.inl (by kernel_rfl))) da_nil))) ⟨_, _, _, _, rfl, rfl⟩ (fun i d ρ cs hd iv => ⟨(dg_name 7 nd rfl (.inl (by kernel_rfl)) (.inr (by kernel_rfl))), ?_⟩) (fun ρ cs iv => ?_))
    · obtain ⟨hi, rfl⟩ := rng_get hd
      obtain ⟨a, b, c, e, rfl, rfl⟩ := iv
      show DSs _ _ [.d (di x), .d (di n), .d (ds letters), .d (di (x % 11)), .d (ds (restM x)), .d (di (x / 11 % (x % 11 + 1))), .c 0, .d (di (i : Int)), b, c, e] _ _
      refine dss_cons (ds_set 8 (ev (de_name 4 rfl rfl (.inl (by kernel_rfl)))) ?_ nd rfl (.inl (by kernel_rfl)) (.inr (by kernel_rfl)))
      show DSs _ _ [.d (di x), .d (di n), .d (ds letters), .d (di (x % 11)), .d (ds (restM x)), .d (di (x / 11 % (x % 11 + 1))), .c 0, .d (di (i : Int)), .d (ds (restM x)), c, e] _ _
      have hrl : (restM x).length ≤ sizeLine := by rw [rest_len]; have := small (n := (x % 11).toNat) (m := 11) (by omega); omega
      have hol : (ownM x i).length ≤ sizeLine := by have := own_len x i; have := small (n := (ownM x i).length) (m := 11) (by omega); omega
      have hb : -(2 ^ 64) < (i : Int) ∧ (i : Int) < 2 ^ 64 := by omega
      have cl : ∀ lo hi, (cutS (ownM x i) lo hi).length ≤ 10 := fun lo hi => by
        have := own_len x i
        rw [len_cps] at this ⊢
        unfold cutS
        rw [List.toList_toArray, List.length_take, List.length_drop]; omega
      have s1 : ∀ y, (sgn y).length = 1 := fun y => rfl
      have sz : 100 ≤ sizeLine := by decide
      refine dss_mid (fun ρ cs => ρ = [.d (di x), .d (di n), .d (ds letters), .d (di (x % 11)), .d (ds (restM x)), .d (di (x / 11 % (x % 11 + 1))), .c 0, .d (di (i : Int)), .d (ds (ownM x i)), c, e] ∧ cs = [.dat (.lst ((namesM x i).map ds))]) (ds_if (ba := decide ((x / 121 + i) % 3 = 0)) (et (dt_cmp (de_bin (de_int1 (by kernel_rfl) T.b_int (da_cons (de_bin (de_bin (de_name 0 rfl rfl (.inr (.inl (by kernel_rfl)))) de_int (o_fdiv ⟨by decide, by decide⟩)) (de_name 7 rfl rfl (.inl (by kernel_rfl))) (o_add)) da_nil)) de_int (o_mod (by decide))) de_int o_eqI)) (fun h => ?_) (fun h => ?_)) (fun ρ cs q => ?_)
      · have e1 : ownM x i = cutS (restM x) (some 1) none := if_pos (of_decide_eq_true h)
        refine dss_one (ds_set 8 (ev (de_sliceS hrl (de_name 4 rfl rfl (.inl (by kernel_rfl))) (do_some de_int) do_none)) ⟨?_, rfl⟩ nd rfl (.inl (by kernel_rfl)) (.inr (by kernel_rfl)))
        rw [e1]; rfl
      · have e1 : ownM x i = restM x := if_neg (of_decide_eq_false h)
        refine dss_nil ⟨?_, rfl⟩
        rw [e1]
      obtain ⟨rfl, rfl⟩ := q
      refine dss_cons (ds_set 9 (d := di (spotM x i)) (ev (de_min2 rfl (by kernel_rfl) T.b_min (da_cons (de_name 5 rfl rfl (.inl (by kernel_rfl))) (da_cons (de_len (by kernel_rfl) T.b_len (da_cons (de_name 8 rfl rfl (.inl (by kernel_rfl))) da_nil) (.s hol)) da_nil)))) ?_ nd rfl (.inl (by kernel_rfl)) (.inr (by kernel_rfl)))
      refine dss_cons (ds_set 10 (ev de_int) ?_ nd rfl (.inl (by kernel_rfl)) (.inr (by kernel_rfl)))
      show DSs _ _ [.d (di x), .d (di n), .d (ds letters), .d (di (x % 11)), .d (ds (restM x)), .d (di (x / 11 % (x % 11 + 1))), .c 0, .d (di (i : Int)), .d (ds (ownM x i)), .d (di (spotM x i)), .d (di 5)] _ _
      refine dss_mid (fun ρ cs => ρ = [.d (di x), .d (di n), .d (ds letters), .d (di (x % 11)), .d (ds (restM x)), .d (di (x / 11 % (x % 11 + 1))), .c 0, .d (di (i : Int)), .d (ds (ownM x i)), .d (di (spotM x i)), .d (di (stepM x))] ∧ cs = [.dat (.lst ((namesM x i).map ds))]) (ds_if (ba := decide (x / 363 % 2 = 1)) (et (dt_cmp (de_bin (de_bin (de_name 0 rfl rfl (.inr (.inl (by kernel_rfl)))) de_int (o_fdiv ⟨by decide, by decide⟩)) de_int (o_mod (by decide))) de_int o_eqI)) (fun h => ?_) (fun h => ?_)) (fun ρ cs q => ?_)
      · have e1 : stepM x = 31 := if_pos (of_decide_eq_true h)
        refine dss_one (ds_set 10 (ev de_int) ⟨?_, rfl⟩ nd rfl (.inl (by kernel_rfl)) (.inr (by kernel_rfl)))
        rw [e1]; rfl
      · have e1 : stepM x = 5 := if_neg (of_decide_eq_false h)
        refine dss_nil ⟨?_, rfl⟩
        rw [e1]
      obtain ⟨rfl, rfl⟩ := q
      refine dss_one (ds_append 6 rfl rfl (ev (d := ds (nameK x i)) (de_bin (de_bin (de_bin (de_ix (d := ds (sgn ((x + 3 * i) % 26))) (de_name 2 rfl rfl (.inr (.inl (by kernel_rfl)))) (de_bin (de_int1 (by kernel_rfl) T.b_int (da_cons (de_bin (de_name 0 rfl rfl (.inr (.inl (by kernel_rfl)))) (de_bin de_int (de_name 7 rfl rfl (.inl (by kernel_rfl))) (o_mul (.inr hb))) (o_add)) da_nil)) de_int (o_mod (by decide))) (ix_s (by decide +kernel) (sgn_at (by omega) (by omega)))) (de_sliceS hol (de_name 8 rfl rfl (.inl (by kernel_rfl))) do_none (do_some (de_name 9 rfl rfl (.inl (by kernel_rfl))))) (o_addS ?_)) (de_ix (d := ds (sgn ((x + stepM x * i) % 36))) (de_name 2 rfl rfl (.inr (.inl (by kernel_rfl)))) (de_bin (de_int1 (by kernel_rfl) T.b_int (da_cons (de_bin (de_name 0 rfl rfl (.inr (.inl (by kernel_rfl)))) (de_bin (de_name 10 rfl rfl (.inl (by kernel_rfl))) (de_name 7 rfl rfl (.inl (by kernel_rfl))) (o_mul (.inr hb))) (o_add)) da_nil)) de_int (o_mod (by decide))) (ix_s (by decide +kernel) (sgn_at (by omega) (by omega)))) (o_addS ?_)) (de_sliceS hol (de_name 8 rfl rfl (.inl (by kernel_rfl))) (do_some (de_name 9 rfl rfl (.inl (by kernel_rfl)))) do_none) (o_addS ?_))) ?_ ⟨_, _, _, _, rfl, ?_⟩ rfl (.inl (by kernel_rfl)))
      · have := cl none (some (spotM x i)); rw [s1]; omega
      · have := cl none (some (spotM x i)); rw [Str.length_append, s1, s1]; omega
      · have := cl none (some (spotM x i)); have := cl (some (spotM x i)) none; rw [Str.length_append, Str.length_append, s1, s1]; omega
      · rw [List.length_map]; unfold namesM; rw [List.length_map, List.length_range]; exact small (m := 20) (by omega)
      · show [CD.dat (.lst _)] = [CD.dat (.lst _)]
        unfold namesM
        rw [List.range_succ, List.map_append, List.map_append]; rfl
    · obtain ⟨a, b, c, e, rfl, rfl⟩ := iv
      rw [rng_length]
      exact dss_one (ds_retC 6 rfl rfl rfl rfl (.inl (by kernel_rfl)))
  · rw [List.length_map, List.length_range, List.map_map]
    show _ + _ * 0 ≤ _
    have e0 : (List.map ((fun (z : Str) => z.length) ∘ fun (k : Nat) => sgn ((x + 7 * (k : Int) * (k : Int)) % 36)) (List.range (x % 11).toNat)) = List.replicate (x % 11).toNat 1 := by
      rw [List.eq_replicate_iff]
      refine ⟨by rw [List.length_map, List.length_range], fun b hb => ?_⟩
      obtain ⟨k, _, rfl⟩ := List.mem_map.mp hb
      rfl
    have e3 : ∀ n : Nat, (List.replicate n 1).sum = n := fun n => by
      induction n with
      | zero => rfl
      | succ n ih => rw [List.replicate_succ, List.sum_cons, ih]; omega
    rw [e0, e3]
    omega
end Ef
set_option maxRecDepth 100000
set_option maxHeartbeats 4000000
/-! Gw: the parts of a land. -/
namespace Ef
open PySem L2 C8 RZ PyProof.Rows PySem.Spec PySem.W TL
variable {P : Program} {w : World} {K : PySem.W.Frag} {mg : Str → Option Value} {base : Heap}
abbrev Fz (s : SD) : Prop := ∀ n d, fz n d s = s
theorem fzd {x : D} : Fz (.d x) := fun _ _ => rfl
theorem fzu : Fz .un := fun _ _ => rfl
theorem dss_freezeE {X : Cx} {sts : List Stmt} {ρ ρ2 : List SD} {cs : List CD} {d : D} {P : Po} (e : ρ.map (fz cs.length d) = ρ2) (h : DSs X sts ρ2 cs P) : DSs X sts ρ (cs ++ [.dat d]) P := dss_freeze (by rw [e]; exact h)
structure NumOk (N : List Int) : Prop where
  len : N.length = 170
  ok : ∀ x ∈ N, 0 ≤ x ∧ x < 1009
def nth (N : List Int) (i : Nat) : Int := (N[i]?).getD 0
def nthS (xs : List Str) (i : Int) : Str := (xs[i.toNat]?).getD ""
def windsP (N : List Int) (a : Nat) : List Str := namesM (nth N a) (1 + (nth N (a + 1) % 3).toNat)
def placesP (N : List Int) : List Str := namesM (nth N 2) (2 + (nth N 3 % 6).toNat)
def windsL (N : List Int) : List Str := namesM (nth N 0) (1 + (nth N 1 % 3).toNat)
def lnames (N : List Int) : List Str := namesM (nth N 4) 10
def oneM (N : List Int) (a : Nat) : Int := nth N a % ((placesP N).length : Int)
def otherM (N : List Int) (a b : Nat) : Int := (oneM N a + 1 + nth N b % (((placesP N).length : Int) - 1)) % ((placesP N).length : Int)
def timeP (N : List Int) (s j : Nat) : Option (Int × Int) := if nth N (s + 2 + j) % 4 = 0 then none else some (1 + nth N (s + 2 + j) % 9, 1 + nth N (s + 2 + j) % 9 + nth N (s + 5 + j) % 7)
def linkP (N : List Int) (k : Nat) : LinkM := ⟨nthS (lnames N) k, nthS (placesP N) (oneM N (6 + 8 * k)), nthS (placesP N) (otherM N (6 + 8 * k) (6 + 8 * k + 1)), (List.range (windsL N).length).map (timeP N (6 + 8 * k))⟩
def linksP (N : List Int) : List LinkM := (List.range (nth N 5 % 11).toNat).map (linkP N)
def endsP (N : List Int) (k : Nat) : Str × Str := (nthS (placesP N) (oneM N (89 + 3 * k)), nthS (placesP N) (otherM N (89 + 3 * k) (90 + 3 * k)))
def known (ps : List (Str × Str × Int)) : List (Str × Str) := (ps.map fun q => (q.1, q.2.1)) ++ ps.map fun q => (q.2.1, q.1)
def pathStep (N : List Int) (ps : List (Str × Str × Int)) (k : Nat) : List (Str × Str × Int) := if endsP N k ∈ known ps then ps else ps ++ [((endsP N k).1, (endsP N k).2, 1 + nth N (91 + 3 * k) % 9)]
def pathsGo (N : List Int) (i : Nat) : List (Str × Str × Int) := (List.range i).foldl (pathStep N) []
def pathsP (N : List Int) : List (Str × Str × Int) := pathsGo N (nth N 88 % 7).toNat
def landP (N : List Int) : LandM := ⟨windsL N, placesP N, linksP N, pathsP N⟩
theorem nth_ok {N : List Int} (h : NumOk N) (i : Nat) : 0 ≤ nth N i ∧ nth N i < 1009 := by
  unfold nth
  cases e : N[i]? with
  | none => exact ⟨by decide, by decide⟩
  | some x => exact h.ok x (List.mem_of_getElem? e)
theorem num_at {N : List Int} (h : NumOk N) {i : Int} (j : Nat) (e : i = (j : Int)) (hj : j < 170) : L2.atI (N.map di) i = some (di (nth N j)) := by
  subst e
  have hl : j < N.length := by rw [h.len]; exact hj
  refine atI_nat ?_
  unfold nth
  rw [List.getElem?_map, List.getElem?_eq_getElem hl]; rfl
theorem str_at {xs : List Str} {i : Int} (h0 : 0 ≤ i) (h : i < (xs.length : Int)) : L2.atI (xs.map ds) i = some (ds (nthS xs i)) := by
  have e : i = ((i.toNat : Nat) : Int) := by omega
  have hl : i.toNat < xs.length := by omega
  rw [e]
  refine atI_nat ?_
  unfold nthS
  rw [Int.toNat_natCast, List.getElem?_map, List.getElem?_eq_getElem hl]; rfl
theorem nthS_mem {xs : List Str} {i : Int} (h0 : 0 ≤ i) (h : i < (xs.length : Int)) : nthS xs i ∈ xs := by
  have hl : i.toNat < xs.length := by omega
  unfold nthS
  rw [List.getElem?_eq_getElem hl]; exact List.getElem_mem hl
theorem names_len (x : Int) (n : Nat) : (namesM x n).length = n := by unfold namesM; rw [List.length_map, List.length_range]
theorem places_len {N : List Int} (h : NumOk N) : 2 ≤ (placesP N).length ∧ (placesP N).length ≤ 7 := by
  unfold placesP
  rw [names_len]
  omega
theorem winds_len {N : List Int} (h : NumOk N) : 1 ≤ (windsL N).length ∧ (windsL N).length ≤ 3 := by
  unfold windsL
  rw [names_len]
  omega
theorem one_ok {N : List Int} (h : NumOk N) (a : Nat) : 0 ≤ oneM N a ∧ oneM N a < ((placesP N).length : Int) := by
  have := places_len h
  exact ⟨Int.emod_nonneg _ (by omega), Int.emod_lt_of_pos _ (by omega)⟩
theorem other_ok {N : List Int} (h : NumOk N) (a b : Nat) : 0 ≤ otherM N a b ∧ otherM N a b < ((placesP N).length : Int) := by
  have := places_len h
  exact ⟨Int.emod_nonneg _ (by omega), Int.emod_lt_of_pos _ (by omega)⟩
theorem pathsGo_succ (N : List Int) (i : Nat) : pathsGo N (i + 1) = pathStep N (pathsGo N i) i := by
  unfold pathsGo
  rw [List.range_succ, List.foldl_append]; rfl
theorem pathsGo_len (N : List Int) : ∀ i, (pathsGo N i).length ≤ i
  | 0 => Nat.le_refl _
  | i + 1 => by
    rw [pathsGo_succ]
    have := pathsGo_len N i
    unfold pathStep
    split
    · omega
    · rw [List.length_append]; exact Nat.succ_le_succ this
def pairD (p : Str × Str) : D := .tup [ds p.1, ds p.2]
def fst2 : D → D
  | .tup [a, b, _] => .tup [a, b]
  | d => d
def snd2 : D → D
  | .tup [a, b, _] => .tup [b, a]
  | d => d
def R_law_parts (ds' : List D) (d : D) : Prop := ∃ N : List Int, ds' = [.lst (N.map di), di 0] ∧ NumOk N ∧ d = partsD (landP N)
theorem ok_law_parts (T : Tx K mg) : Cal P w K mg base 2 "_law_parts" (spN K R_law_parts) [] := by
  refine calN T.f__law_parts sc__law_parts (fun ds d ⟨L, e, _⟩ => by rw [e]; rfl) (fun _ _ _ _ _ _ us hl => match us, hl with | [_, _], _ => rfl) ?_
  rintro cdv f A outer s H E _ _ ⟨N, rfl, hN, rfl⟩ hr
  have nd := (sc__law_parts).nd
  have pl := places_len hN
  have wl := winds_len hN
  have n1 := nth_ok hN 1
  have n3 := nth_ok hN 3
  show DSs _ (defBody s__law_parts) [.d (.lst (N.map di)), .d (di 0), .un, .un, .un, .un, .un, .un, .un, .un, .un, .un, .un, .un, .un, .un] [] _
  refine dss_cons (ds_set 2 (d := .lst ((windsL N).map ds)) (ev (DN.de (dn_call (ok_law_names T) hr (by kernel_rfl) (da_cons (de_ix (de_name 0 rfl rfl (.inl (by kernel_rfl))) (de_name 1 rfl rfl (.inl (by kernel_rfl))) (ix_l (num_at hN 0 rfl (by decide)))) (da_cons (de_bin de_int (de_bin (de_int1 (by kernel_rfl) T.b_int (da_cons (de_ix (de_name 0 rfl rfl (.inl (by kernel_rfl))) (de_bin (de_name 1 rfl rfl (.inl (by kernel_rfl))) de_int (o_add)) (ix_l (num_at hN 1 rfl (by decide)))) da_nil)) de_int (o_mod (by decide))) (o_add)) da_nil)) ⟨nth N 0, 1 + (nth N 1 % 3).toNat, ?_, by omega, rfl⟩))) ?_ nd rfl (.inl (by kernel_rfl)) (.inr (by kernel_rfl)))
  · rw [show (1 + nth N 1 % 3 : Int) = ((1 + (nth N 1 % 3).toNat : Nat) : Int) from by omega]
  refine dss_cons (ds_set 3 (d := .lst ((placesP N).map ds)) (ev (DN.de (dn_call (ok_law_names T) hr (by kernel_rfl) (da_cons (de_ix (de_name 0 rfl rfl (.inl (by kernel_rfl))) (de_bin (de_name 1 rfl rfl (.inl (by kernel_rfl))) de_int (o_add)) (ix_l (num_at hN 2 rfl (by decide)))) (da_cons (de_bin de_int (de_bin (de_int1 (by kernel_rfl) T.b_int (da_cons (de_ix (de_name 0 rfl rfl (.inl (by kernel_rfl))) (de_bin (de_name 1 rfl rfl (.inl (by kernel_rfl))) de_int (o_add)) (ix_l (num_at hN 3 rfl (by decide)))) da_nil)) de_int (o_mod (by decide))) (o_add)) da_nil)) ⟨nth N 2, 2 + (nth N 3 % 6).toNat, ?_, by omega, rfl⟩))) ?_ nd rfl (.inl (by kernel_rfl)) (.inr (by kernel_rfl)))
  · rw [show (2 + nth N 3 % 6 : Int) = ((2 + (nth N 3 % 6).toNat : Nat) : Int) from by omega]
  refine dss_cons (ds_set 4 (d := .lst ((lnames N).map ds)) (ev (DN.de (dn_call (ok_law_names T) hr (by kernel_rfl) (da_cons (de_ix (de_name 0 rfl rfl (.inl (by kernel_rfl))) (de_bin (de_name 1 rfl rfl (.inl (by kernel_rfl))) de_int (o_add)) (ix_l (num_at hN 4 rfl (by decide)))) (da_cons de_int da_nil)) ⟨nth N 4, 10, rfl, by decide, rfl⟩))) ?_ nd rfl (.inl (by kernel_rfl)) (.inr (by kernel_rfl)))
  refine dss_cons (ds_setN 5 (en (dn_lst da_nil)) ?_ nd rfl (.inl (by kernel_rfl)) (.inr (by kernel_rfl)))
  show DSs _ _ [.d (.lst (N.map di)), .d (di 0), .d (.lst ((windsL N).map ds)), .d (.lst ((placesP N).map ds)), .d (.lst ((lnames N).map ds)), .c 0, .un, .un, .un, .un, .un, .un, .un, .un, .un, .un] [.dat (.lst [])] _
  have k11 : nth N 5 % 11 = (((nth N 5 % 11).toNat : Nat) : Int) := by omega
  have k7 : nth N 88 % 7 = (((nth N 88 % 7).toNat : Nat) : Int) := by omega
  have hLp : LenD (.lst ((placesP N).map ds)) (placesP N).length := by have h := LenD.l ((placesP N).map ds); rwa [List.length_map] at h
  have hLw : LenD (.lst ((windsL N).map ds)) (windsL N).length := by have h := LenD.l ((windsL N).map ds); rwa [List.length_map] at h
  refine dss_cons (ds_for (asg := asgA 6) (fun i ρ cs => ∃ a b c e f g h, (Fz a ∧ Fz b ∧ Fz c ∧ Fz e ∧ Fz f ∧ Fz g ∧ Fz h) ∧ ρ = [.d (.lst (N.map di)), .d (di 0), .d (.lst ((windsL N).map ds)), .d (.lst ((placesP N).map ds)), .d (.lst ((lnames N).map ds)), .c 0, a, .un, b, c, e, f, g, .un, h, .un] ∧ cs = [.dat (.lst (((List.range i).map (linkP N)).map linkD))]) PassesOwn.never rfl (ei (di_range (n := (nth N 5 % 11).toNat) (by omega) (by kernel_rfl) T.b_range (da_cons (DE.is (de_bin (de_int1 (by kernel_rfl) T.b_int (da_cons (de_ix (de_name 0 rfl rfl (.inl (by kernel_rfl))) (de_bin (de_name 1 rfl rfl (.inl (by kernel_rfl))) de_int (o_add)) (ix_l (num_at hN 5 rfl (by decide)))) da_nil)) de_int (o_mod (by decide))) (congrArg di k11)) da_nil))) ⟨_, _, _, _, _, _, _, ⟨fzu, fzu, fzu, fzu, fzu, fzu, fzu⟩, rfl, rfl⟩ (fun i d ρ cs hd iv => ⟨(dg_name 6 nd rfl (.inl (by kernel_rfl)) (.inr (by kernel_rfl))), ?_⟩) (fun ρ cs iv => ?_))
  · obtain ⟨hi, rfl⟩ := rng_get hd
    have hi10 : i < 10 := by omega
    obtain ⟨a, b, c, e, f0, g, h, ⟨ha, hb0, hc, he, hf, hg, hh⟩, rfl, rfl⟩ := iv
    have hb : -(2 ^ 64) < (i : Int) ∧ (i : Int) < 2 ^ 64 := by omega
    have o1 := one_ok hN (6 + 8 * i)
    have o2 := other_ok hN (6 + 8 * i) (6 + 8 * i + 1)
    refine dss_cons (ds_set 8 (d := di (6 + 8 * (i : Int))) (ev (de_bin (de_bin (de_name 1 rfl rfl (.inl (by kernel_rfl))) de_int (o_add)) (de_bin de_int (de_name 6 rfl rfl (.inl (by kernel_rfl))) (o_mul (.inr hb))) (o_add))) ?_ nd rfl (.inl (by kernel_rfl)) (.inr (by kernel_rfl)))
    refine dss_cons (ds_set 9 (d := di (oneM N (6 + 8 * i))) (ev (de_bin (de_int1 (by kernel_rfl) T.b_int (da_cons (de_ix (de_name 0 rfl rfl (.inl (by kernel_rfl))) (de_name 8 rfl rfl (.inl (by kernel_rfl))) (ix_l (num_at hN (6 + 8 * i) (by omega) (by omega)))) da_nil)) (de_len (by kernel_rfl) T.b_len (da_cons (de_name 3 rfl rfl (.inl (by kernel_rfl))) da_nil) hLp) (o_mod (by omega)))) ?_ nd rfl (.inl (by kernel_rfl)) (.inr (by kernel_rfl)))
    refine dss_cons (ds_set 10 (d := di (otherM N (6 + 8 * i) (6 + 8 * i + 1))) (ev (de_bin (de_int1 (by kernel_rfl) T.b_int (da_cons (de_bin (de_bin (de_name 9 rfl rfl (.inl (by kernel_rfl))) de_int (o_add)) (de_bin (de_int1 (by kernel_rfl) T.b_int (da_cons (de_ix (de_name 0 rfl rfl (.inl (by kernel_rfl))) (de_bin (de_name 8 rfl rfl (.inl (by kernel_rfl))) de_int (o_add)) (ix_l (num_at hN (6 + 8 * i + 1) (by omega) (by omega)))) da_nil)) (de_bin (de_len (by kernel_rfl) T.b_len (da_cons (de_name 3 rfl rfl (.inl (by kernel_rfl))) da_nil) hLp) de_int (o_sub)) (o_mod (by omega))) (o_add)) da_nil)) (de_len (by kernel_rfl) T.b_len (da_cons (de_name 3 rfl rfl (.inl (by kernel_rfl))) da_nil) hLp) (o_mod (by omega)))) ?_ nd rfl (.inl (by kernel_rfl)) (.inr (by kernel_rfl)))
    refine dss_cons (ds_setN 11 (en (dn_lst da_nil)) ?_ nd rfl (.inl (by kernel_rfl)) (.inr (by kernel_rfl)))
    show DSs _ _ [.d (.lst (N.map di)), .d (di 0), .d (.lst ((windsL N).map ds)), .d (.lst ((placesP N).map ds)), .d (.lst ((lnames N).map ds)), .c 0, .d (di (i : Int)), .un, .d (di (6 + 8 * (i : Int))), .d (di (oneM N (6 + 8 * i))), .d (di (otherM N (6 + 8 * i) (6 + 8 * i + 1))), .c 1, g, .un, h, .un] [.dat (.lst (((List.range i).map (linkP N)).map linkD)), .dat (.lst [])] _
    refine dss_cons (ds_for (asg := asgA 12) (fun j ρ cs => ∃ g h, (Fz g ∧ Fz h) ∧ ρ = [.d (.lst (N.map di)), .d (di 0), .d (.lst ((windsL N).map ds)), .d (.lst ((placesP N).map ds)), .d (.lst ((lnames N).map ds)), .c 0, .d (di (i : Int)), .un, .d (di (6 + 8 * (i : Int))), .d (di (oneM N (6 + 8 * i))), .d (di (otherM N (6 + 8 * i) (6 + 8 * i + 1))), .c 1, g, .un, h, .un] ∧ cs = [.dat (.lst (((List.range i).map (linkP N)).map linkD)), .dat (.lst (((List.range j).map (timeP N (6 + 8 * i))).map timeD))]) PassesOwn.never rfl (ei (di_range (n := (windsL N).length) (by omega) (by kernel_rfl) T.b_range (da_cons (de_len (by kernel_rfl) T.b_len (da_cons (de_name 2 rfl rfl (.inl (by kernel_rfl))) da_nil) hLw) da_nil))) ⟨_, _, ⟨hg, hh⟩, rfl, rfl⟩ (fun j d ρ cs hd iv => ⟨(dg_name 12 nd rfl (.inl (by kernel_rfl)) (.inr (by kernel_rfl))), ?_⟩) (fun ρ cs iv => ?_))
    · obtain ⟨hj, rfl⟩ := rng_get hd
      obtain ⟨g, h, ⟨hg, hh⟩, rfl, rfl⟩ := iv
      have hl : (((List.range j).map (timeP N (6 + 8 * i))).map timeD).length < sizeLine := by rw [List.length_map, List.length_map, List.length_range]; exact small (m := 3) (by omega)
      have eT : ((List.range (j + 1)).map (timeP N (6 + 8 * i))).map timeD = ((List.range j).map (timeP N (6 + 8 * i))).map timeD ++ [timeD (timeP N (6 + 8 * i) j)] := by rw [List.range_succ, List.map_append, List.map_append]; rfl
      show DSs _ _ [.d (.lst (N.map di)), .d (di 0), .d (.lst ((windsL N).map ds)), .d (.lst ((placesP N).map ds)), .d (.lst ((lnames N).map ds)), .c 0, .d (di (i : Int)), .un, .d (di (6 + 8 * (i : Int))), .d (di (oneM N (6 + 8 * i))), .d (di (otherM N (6 + 8 * i) (6 + 8 * i + 1))), .c 1, .d (di (j : Int)), .un, h, .un] [.dat (.lst (((List.range i).map (linkP N)).map linkD)), .dat (.lst (((List.range j).map (timeP N (6 + 8 * i))).map timeD))] _
      refine dss_one (ds_if (ba := decide (nth N (6 + 8 * i + 2 + j) % 4 = 0)) (et (dt_cmp (de_bin (de_int1 (by kernel_rfl) T.b_int (da_cons (de_ix (de_name 0 rfl rfl (.inl (by kernel_rfl))) (de_bin (de_bin (de_name 8 rfl rfl (.inl (by kernel_rfl))) de_int (o_add)) (de_name 12 rfl rfl (.inl (by kernel_rfl))) (o_add)) (ix_l (num_at hN (6 + 8 * i + 2 + j) (by omega) (by omega)))) da_nil)) de_int (o_mod (by decide))) de_int o_eqI)) (fun hc => ?_) (fun hc => ?_))
      · refine dss_one (ds_append 11 rfl rfl (ev (d := timeD (timeP N (6 + 8 * i) j)) (DE.is de_non ?_)) hl ⟨_, _, ⟨fzd, hh⟩, rfl, ?_⟩ rfl (.inl (by kernel_rfl)))
        · rw [show timeP N (6 + 8 * i) j = none from if_pos (of_decide_eq_true hc)]; rfl
        · rw [eT]; rfl
      · refine dss_cons (ds_set 14 (ev (de_bin de_int (de_bin (de_int1 (by kernel_rfl) T.b_int (da_cons (de_ix (de_name 0 rfl rfl (.inl (by kernel_rfl))) (de_bin (de_bin (de_name 8 rfl rfl (.inl (by kernel_rfl))) de_int (o_add)) (de_name 12 rfl rfl (.inl (by kernel_rfl))) (o_add)) (ix_l (num_at hN (6 + 8 * i + 2 + j) (by omega) (by omega)))) da_nil)) de_int (o_mod (by decide))) (o_add))) ?_ nd rfl (.inl (by kernel_rfl)) (.inr (by kernel_rfl)))
        refine dss_one (ds_append 11 rfl rfl (ev (d := timeD (timeP N (6 + 8 * i) j)) (DE.is (de_tup (da_cons (de_name 14 rfl rfl (.inl (by kernel_rfl))) (da_cons (de_bin (de_name 14 rfl rfl (.inl (by kernel_rfl))) (de_bin (de_int1 (by kernel_rfl) T.b_int (da_cons (de_ix (de_name 0 rfl rfl (.inl (by kernel_rfl))) (de_bin (de_bin (de_name 8 rfl rfl (.inl (by kernel_rfl))) de_int (o_add)) (de_name 12 rfl rfl (.inl (by kernel_rfl))) (o_add)) (ix_l (num_at hN (6 + 8 * i + 5 + j) (by omega) (by omega)))) da_nil)) de_int (o_mod (by decide))) (o_add)) da_nil))) ?_)) hl ⟨_, _, ⟨fzd, fzd⟩, rfl, ?_⟩ rfl (.inl (by kernel_rfl)))
        · rw [show timeP N (6 + 8 * i) j = _ from if_neg (of_decide_eq_false hc)]; rfl
        · rw [eT]; rfl
    · obtain ⟨g, h, ⟨hg, hh⟩, rfl, rfl⟩ := iv
      rw [rng_length]
      refine dss_freezeE (ρ2 := [.d (.lst (N.map di)), .d (di 0), .d (.lst ((windsL N).map ds)), .d (.lst ((placesP N).map ds)), .d (.lst ((lnames N).map ds)), .c 0, .d (di (i : Int)), .un, .d (di (6 + 8 * (i : Int))), .d (di (oneM N (6 + 8 * i))), .d (di (otherM N (6 + 8 * i) (6 + 8 * i + 1))), .d (.lst (((List.range (windsL N).length).map (timeP N (6 + 8 * i))).map timeD)), g, .un, h, .un]) (cs := [.dat (.lst (((List.range i).map (linkP N)).map linkD))]) (d := .lst (((List.range (windsL N).length).map (timeP N (6 + 8 * i))).map timeD)) (by simp only [List.map_cons, List.map_nil, hg, hh]; rfl) ?_
      refine dss_one (ds_append 5 rfl rfl (ev (d := linkD (linkP N i)) (de_tup (da_cons (de_ix (d := ds (nthS (lnames N) i)) (de_name 4 rfl rfl (.inl (by kernel_rfl))) (de_name 6 rfl rfl (.inl (by kernel_rfl))) (ix_l (str_at (by omega) ?_))) (da_cons (de_ix (d := ds (nthS (placesP N) (oneM N (6 + 8 * i)))) (de_name 3 rfl rfl (.inl (by kernel_rfl))) (de_name 9 rfl rfl (.inl (by kernel_rfl))) (ix_l (str_at o1.1 o1.2))) (da_cons (de_ix (d := ds (nthS (placesP N) (otherM N (6 + 8 * i) (6 + 8 * i + 1)))) (de_name 3 rfl rfl (.inl (by kernel_rfl))) (de_name 10 rfl rfl (.inl (by kernel_rfl))) (ix_l (str_at o2.1 o2.2))) (da_cons (de_tupL (by kernel_rfl) T.b_tuple (da_cons (de_name 11 rfl rfl (.inl (by kernel_rfl))) da_nil)) da_nil)))))) ?_ ⟨_, _, _, _, _, _, _, ⟨fzd, fzd, fzd, fzd, fzd, hg, hh⟩, rfl, ?_⟩ rfl (.inl (by kernel_rfl)))
      · unfold lnames; rw [names_len]; omega
      · rw [List.length_map, List.length_map, List.length_range]; exact small (m := 11) (by omega)
      · show [CD.dat (.lst _)] = [CD.dat (.lst _)]
        rw [List.range_succ, List.map_append, List.map_append]; rfl
  obtain ⟨a, b, c, e, f0, g, h, ⟨ha, hb, hc, he, hf, hg, hh⟩, rfl, rfl⟩ := iv
  rw [rng_length]
  refine dss_freezeE (ρ2 := [.d (.lst (N.map di)), .d (di 0), .d (.lst ((windsL N).map ds)), .d (.lst ((placesP N).map ds)), .d (.lst ((lnames N).map ds)), .d (.lst ((linksP N).map linkD)), a, .un, b, c, e, f0, g, .un, h, .un]) (cs := []) (d := .lst ((linksP N).map linkD)) (by simp only [List.map_cons, List.map_nil, ha, hb, hc, he, hf, hg, hh]; rfl) ?_
  refine dss_cons (ds_setN 7 (en (dn_lst da_nil)) ?_ nd rfl (.inl (by kernel_rfl)) (.inr (by kernel_rfl)))
  show DSs _ _ [.d (.lst (N.map di)), .d (di 0), .d (.lst ((windsL N).map ds)), .d (.lst ((placesP N).map ds)), .d (.lst ((lnames N).map ds)), .d (.lst ((linksP N).map linkD)), a, .c 0, b, c, e, f0, g, .un, h, .un] [.dat (.lst [])] _
  refine dss_cons (ds_for (asg := asgA 6) (fun i ρ cs => ∃ a c e k, (Fz a ∧ Fz c ∧ Fz e ∧ Fz k) ∧ ρ = [.d (.lst (N.map di)), .d (di 0), .d (.lst ((windsL N).map ds)), .d (.lst ((placesP N).map ds)), .d (.lst ((lnames N).map ds)), .d (.lst ((linksP N).map linkD)), a, .c 0, b, c, e, f0, g, k, h, .un] ∧ cs = [.dat (.lst ((pathsGo N i).map pathD))]) PassesOwn.never rfl (ei (di_range (n := (nth N 88 % 7).toNat) (by omega) (by kernel_rfl) T.b_range (da_cons (DE.is (de_bin (de_int1 (by kernel_rfl) T.b_int (da_cons (de_ix (de_name 0 rfl rfl (.inl (by kernel_rfl))) (de_bin (de_name 1 rfl rfl (.inl (by kernel_rfl))) de_int (o_add)) (ix_l (num_at hN 88 rfl (by decide)))) da_nil)) de_int (o_mod (by decide))) (congrArg di k7)) da_nil))) ⟨_, _, _, _, ⟨ha, hc, he, fzu⟩, rfl, rfl⟩ (fun i d ρ cs hd iv => ⟨(dg_name 6 nd rfl (.inl (by kernel_rfl)) (.inr (by kernel_rfl))), ?_⟩) (fun ρ cs iv => ?_))
  · obtain ⟨hi, rfl⟩ := rng_get hd
    have hi7 : i < 7 := by omega
    obtain ⟨a, c, e, k, ⟨ha, hc, he, hk⟩, rfl, rfl⟩ := iv
    have hbi : -(2 ^ 64) < (i : Int) ∧ (i : Int) < 2 ^ 64 := by omega
    have o1 := one_ok hN (89 + 3 * i)
    have o2 := other_ok hN (89 + 3 * i) (90 + 3 * i)
    have hgl := pathsGo_len N i
    refine dss_cons (ds_set 9 (d := di (oneM N (89 + 3 * i))) (ev (de_bin (de_int1 (by kernel_rfl) T.b_int (da_cons (de_ix (de_name 0 rfl rfl (.inl (by kernel_rfl))) (de_bin (de_bin (de_name 1 rfl rfl (.inl (by kernel_rfl))) de_int (o_add)) (de_bin de_int (de_name 6 rfl rfl (.inl (by kernel_rfl))) (o_mul (.inr hbi))) (o_add)) (ix_l (num_at hN (89 + 3 * i) (by omega) (by omega)))) da_nil)) (de_len (by kernel_rfl) T.b_len (da_cons (de_name 3 rfl rfl (.inl (by kernel_rfl))) da_nil) hLp) (o_mod (by omega)))) ?_ nd rfl (.inl (by kernel_rfl)) (.inr (by kernel_rfl)))
    refine dss_cons (ds_set 10 (d := di (otherM N (89 + 3 * i) (90 + 3 * i))) (ev (de_bin (de_int1 (by kernel_rfl) T.b_int (da_cons (de_bin (de_bin (de_name 9 rfl rfl (.inl (by kernel_rfl))) de_int (o_add)) (de_bin (de_int1 (by kernel_rfl) T.b_int (da_cons (de_ix (de_name 0 rfl rfl (.inl (by kernel_rfl))) (de_bin (de_bin (de_name 1 rfl rfl (.inl (by kernel_rfl))) de_int (o_add)) (de_bin de_int (de_name 6 rfl rfl (.inl (by kernel_rfl))) (o_mul (.inr hbi))) (o_add)) (ix_l (num_at hN (90 + 3 * i) (by omega) (by omega)))) da_nil)) (de_bin (de_len (by kernel_rfl) T.b_len (da_cons (de_name 3 rfl rfl (.inl (by kernel_rfl))) da_nil) hLp) de_int (o_sub)) (o_mod (by omega))) (o_add)) da_nil)) (de_len (by kernel_rfl) T.b_len (da_cons (de_name 3 rfl rfl (.inl (by kernel_rfl))) da_nil) hLp) (o_mod (by omega)))) ?_ nd rfl (.inl (by kernel_rfl)) (.inr (by kernel_rfl)))
    show DSs _ _ [.d (.lst (N.map di)), .d (di 0), .d (.lst ((windsL N).map ds)), .d (.lst ((placesP N).map ds)), .d (.lst ((lnames N).map ds)), .d (.lst ((linksP N).map linkD)), .d (di (i : Int)), .c 0, b, .d (di (oneM N (89 + 3 * i))), .d (di (otherM N (89 + 3 * i) (90 + 3 * i))), f0, g, k, h, .un] [.dat (.lst ((pathsGo N i).map pathD))] _
    refine dss_cons (ds_setN 13 (d := .lst ((known (pathsGo N i)).map pairD)) (enh (DN.is (dn_bin (DN.de (dn_lc (its := (pathsGo N i).map pathD) (own := [("_law_path", 15)]) (asg := asgA 15) (keep := fun _ => true) (g := fst2) rfl nd (di_list (de_name 7 rfl rfl (.inl (by kernel_rfl)))) (blkOk_by (by kernel_rfl)) (by rw [List.length_map]; exact small (m := 7) (by omega)) (fun s H C cl fp i d hd => ?_))) (DN.de (dn_lc (its := (pathsGo N i).map pathD) (own := [("_law_path", 15)]) (asg := asgA 15) (keep := fun _ => true) (g := snd2) rfl nd (di_list (de_name 7 rfl rfl (.inl (by kernel_rfl)))) (blkOk_by (by kernel_rfl)) (by rw [List.length_map]; exact small (m := 7) (by omega)) (fun s H C cl fp i d hd => ?_))) (o_cat ?_)) ?_) ?_) ?_ nd rfl (.inl (by kernel_rfl)) (.inr (by kernel_rfl)))
    · obtain ⟨q, hq, rfl⟩ := map_get hd
      exact ⟨(dg_name 15 nd rfl (.inl (by kernel_rfl)) (.inr (by kernel_rfl))), by simp [asgA], dts_nil, fun _ => (de_tup (da_cons (de_ix (d := ds q.1) (de_name 15 rfl rfl (.inl (by kernel_rfl))) de_int (ix_t rfl)) (da_cons (de_ix (d := ds q.2.1) (de_name 15 rfl rfl (.inl (by kernel_rfl))) de_int (ix_t rfl)) da_nil)))⟩
    · obtain ⟨q, hq, rfl⟩ := map_get hd
      exact ⟨(dg_name 15 nd rfl (.inl (by kernel_rfl)) (.inr (by kernel_rfl))), by simp [asgA], dts_nil, fun _ => (de_tup (da_cons (de_ix (d := ds q.2.1) (de_name 15 rfl rfl (.inl (by kernel_rfl))) de_int (ix_t rfl)) (da_cons (de_ix (d := ds q.1) (de_name 15 rfl rfl (.inl (by kernel_rfl))) de_int (ix_t rfl)) da_nil)))⟩
    · rw [filtT, List.length_map, List.length_map, List.length_map, List.length_map]
      have := small (n := 14) (m := 14) (by omega)
      omega
    · rw [filtT, List.map_map, List.map_map]
      unfold known
      rw [List.map_append, List.map_map, List.map_map]; rfl
    · exact pures_all fun d hd => by obtain ⟨q, _, rfl⟩ := List.mem_map.mp hd; rfl
    refine dss_freezeE (ρ2 := [.d (.lst (N.map di)), .d (di 0), .d (.lst ((windsL N).map ds)), .d (.lst ((placesP N).map ds)), .d (.lst ((lnames N).map ds)), .d (.lst ((linksP N).map linkD)), .d (di (i : Int)), .c 0, b, .d (di (oneM N (89 + 3 * i))), .d (di (otherM N (89 + 3 * i) (90 + 3 * i))), f0, g, .d (.lst ((known (pathsGo N i)).map pairD)), h, .un]) (cs := [.dat (.lst ((pathsGo N i).map pathD))]) (d := .lst ((known (pathsGo N i)).map pairD)) (by show List.map _ [.d (.lst (N.map di)), .d (di 0), .d (.lst ((windsL N).map ds)), .d (.lst ((placesP N).map ds)), .d (.lst ((lnames N).map ds)), .d (.lst ((linksP N).map linkD)), .d (di (i : Int)), .c 0, b, .d (di (oneM N (89 + 3 * i))), .d (di (otherM N (89 + 3 * i) (90 + 3 * i))), f0, g, .c 1, h, .un] = _; simp only [List.map_cons, List.map_nil, ha, hb, hc, he, hf, hg, hh]; rfl) ?_
    refine dss_one (ds_if (ba := !decide (endsP N i ∈ known (pathsGo N i))) (et (dt_cmp (da := pairD (endsP N i)) (de_tup (da_cons (de_ix (d := ds (endsP N i).1) (de_name 3 rfl rfl (.inl (by kernel_rfl))) (de_name 9 rfl rfl (.inl (by kernel_rfl))) (ix_l (str_at o1.1 o1.2))) (da_cons (de_ix (d := ds (endsP N i).2) (de_name 3 rfl rfl (.inl (by kernel_rfl))) (de_name 10 rfl rfl (.inl (by kernel_rfl))) (ix_l (str_at o2.1 o2.2))) da_nil))) (de_name 13 rfl rfl (.inl (by kernel_rfl))) (o_notInA (α := Str × Str) (enc := pairD) (x := endsP N i) (xs := known (pathsGo N i)) (hu65_of hr) (fun _ => rfl) (fun _ => rfl) (by decide) decide_eq_true_iff))) (fun h => ?_) (fun h => ?_))
    · have e1 : pathsGo N (i + 1) = pathsGo N i ++ [((endsP N i).1, (endsP N i).2, 1 + nth N (91 + 3 * i) % 9)] := by
        rw [pathsGo_succ]
        refine if_neg fun z => ?_
        rw [decide_eq_true z] at h; cases h
      refine dss_one (ds_append 7 rfl rfl (ev (d := pathD ((endsP N i).1, (endsP N i).2, 1 + nth N (91 + 3 * i) % 9)) (de_tup (da_cons (de_ix (d := ds (endsP N i).1) (de_name 3 rfl rfl (.inl (by kernel_rfl))) (de_name 9 rfl rfl (.inl (by kernel_rfl))) (ix_l (str_at o1.1 o1.2))) (da_cons (de_ix (d := ds (endsP N i).2) (de_name 3 rfl rfl (.inl (by kernel_rfl))) (de_name 10 rfl rfl (.inl (by kernel_rfl))) (ix_l (str_at o2.1 o2.2))) (da_cons (de_bin de_int (de_bin (de_int1 (by kernel_rfl) T.b_int (da_cons (de_ix (de_name 0 rfl rfl (.inl (by kernel_rfl))) (de_bin (de_bin (de_name 1 rfl rfl (.inl (by kernel_rfl))) de_int (o_add)) (de_bin de_int (de_name 6 rfl rfl (.inl (by kernel_rfl))) (o_mul (.inr hbi))) (o_add)) (ix_l (num_at hN (91 + 3 * i) (by omega) (by omega)))) da_nil)) de_int (o_mod (by decide))) (o_add)) da_nil))))) ?_ ⟨_, _, _, _, ⟨fzd, fzd, fzd, fzd⟩, rfl, ?_⟩ rfl (.inl (by kernel_rfl)))
      · rw [List.length_map]; exact small (m := 7) (by omega)
      · show [CD.dat (.lst _)] = [CD.dat (.lst _)]
        rw [e1, List.map_append]; rfl
    · have e1 : pathsGo N (i + 1) = pathsGo N i := by
        rw [pathsGo_succ]
        refine if_pos ?_
        have : (!decide (endsP N i ∈ known (pathsGo N i))) = false := h
        rw [Bool.not_eq_false', decide_eq_true_iff] at this
        exact this
      refine dss_nil ⟨_, _, _, _, ⟨fzd, fzd, fzd, fzd⟩, rfl, ?_⟩
      rw [e1]
  · obtain ⟨a, c, e, k, ⟨ha, hc, he, hk⟩, rfl, rfl⟩ := iv
    rw [rng_length]
    refine dss_freezeE (ρ2 := [.d (.lst (N.map di)), .d (di 0), .d (.lst ((windsL N).map ds)), .d (.lst ((placesP N).map ds)), .d (.lst ((lnames N).map ds)), .d (.lst ((linksP N).map linkD)), a, .d (.lst ((pathsP N).map pathD)), b, c, e, f0, g, k, h, .un]) (cs := []) (d := .lst ((pathsP N).map pathD)) (by simp only [List.map_cons, List.map_nil, ha, hb, hc, he, hf, hg, hh, hk]; rfl) ?_
    exact dss_one (ds_retN (d := partsD (landP N)) (en (dn_lst (da_cons (de_tixL (by kernel_rfl) T.b_tuple (da_cons (de_name 2 rfl rfl (.inl (by kernel_rfl))) da_nil)) (da_cons (de_tupL (by kernel_rfl) T.b_tuple (da_cons (de_name 3 rfl rfl (.inl (by kernel_rfl))) da_nil)) (da_cons (de_tupL (by kernel_rfl) T.b_tuple (da_cons (de_name 5 rfl rfl (.inl (by kernel_rfl))) da_nil)) (da_cons (de_tupL (by kernel_rfl) T.b_tuple (da_cons (de_name 7 rfl rfl (.inl (by kernel_rfl))) da_nil)) da_nil)))))) rfl)
end Ef
set_option maxRecDepth 100000
set_option maxHeartbeats 4000000
/-! Gx: weather, winds, rows of the law. -/
namespace Ef
open PySem L2 C8 RZ PyProof.Rows PySem.Spec PySem.W TL
variable {P : Program} {w : World} {K : PySem.W.Frag} {mg : Str → Option Value} {base : Heap}
/-! ### _law_weather -/
def weaNext (N : List Int) (w : Wea) (k : Nat) : Int × Str := ((((w[k]?).getD (0, "")).1 + 1 + nth N (112 + k) % 12), nthS (windsL N) (nth N (115 + k) % ((windsL N).length : Int)))
def weaGo (N : List Int) (i : Nat) : Wea := (List.range i).foldl (fun w k => w ++ [weaNext N w k]) [(0, nthS (windsL N) (nth N 110 % ((windsL N).length : Int)))]
def weaP (N : List Int) : Wea := weaGo N (nth N 111 % 4).toNat
theorem weaGo_succ (N : List Int) (i : Nat) : weaGo N (i + 1) = weaGo N i ++ [weaNext N (weaGo N i) i] := by
  unfold weaGo
  rw [List.range_succ, List.foldl_append]; rfl
theorem weaGo_len (N : List Int) : ∀ i, (weaGo N i).length = i + 1
  | 0 => rfl
  | i + 1 => by rw [weaGo_succ, List.length_append, weaGo_len N i]; rfl
theorem wmod {N : List Int} (h : NumOk N) (i : Nat) : 0 ≤ nth N i % ((windsL N).length : Int) ∧ nth N i % ((windsL N).length : Int) < ((windsL N).length : Int) := by
  have := winds_len h
  exact ⟨Int.emod_nonneg _ (by omega), Int.emod_lt_of_pos _ (by omega)⟩
theorem pmod {N : List Int} (h : NumOk N) (i : Nat) : 0 ≤ nth N i % ((placesP N).length : Int) ∧ nth N i % ((placesP N).length : Int) < ((placesP N).length : Int) := by
  have := places_len h
  exact ⟨Int.emod_nonneg _ (by omega), Int.emod_lt_of_pos _ (by omega)⟩
theorem lenW (N : List Int) : LenD (.tup ((windsL N).map ds)) (windsL N).length := by have h := LenD.t ((windsL N).map ds); rwa [List.length_map] at h
theorem lenP (N : List Int) : LenD (.tup ((placesP N).map ds)) (placesP N).length := by have h := LenD.t ((placesP N).map ds); rwa [List.length_map] at h
def R_law_weather (ds' : List D) (d : D) : Prop := ∃ N : List Int, ds' = [.lst (N.map di), di 110, partsD (landP N)] ∧ NumOk N ∧ d = weaD (weaP N)
theorem ok_law_weather (T : Tx K mg) : Cal P w K mg base 1 "_law_weather" (spN K R_law_weather) [] := by
  refine calN T.f__law_weather sc__law_weather (fun ds d ⟨L, e, _⟩ => by rw [e]; rfl) (fun _ _ _ _ _ _ us hl => match us, hl with | [_, _, _], _ => rfl) ?_
  rintro cdv f A outer s H E _ _ ⟨N, rfl, hN, rfl⟩ hr
  have nd := (sc__law_weather).nd
  have wl := winds_len hN
  have k4 : nth N 111 % 4 = (((nth N 111 % 4).toNat : Nat) : Int) := by omega
  show DSs _ (defBody s__law_weather) [.d (.lst (N.map di)), .d (di 110), .d (partsD (landP N)), .un, .un] [] _
  refine dss_cons (ds_setN 3 (d := weaD (weaGo N 0)) (en (DN.is (dn_lst (da_cons (de_tup (da_cons de_int (da_cons (de_ix (d := ds (nthS (windsL N) (nth N 110 % ((windsL N).length : Int)))) (DE.tup (de_ix (d := .tix ((windsL N).map ds)) (de_name 2 rfl rfl (.inl (by kernel_rfl))) de_int (ix_l rfl))) (de_bin (de_int1 (by kernel_rfl) T.b_int (da_cons (de_ix (de_name 0 rfl rfl (.inl (by kernel_rfl))) (de_name 1 rfl rfl (.inl (by kernel_rfl))) (ix_l (num_at hN 110 rfl (by decide)))) da_nil)) (de_len (by kernel_rfl) T.b_len (da_cons (DE.tup (de_ix (d := .tix ((windsL N).map ds)) (de_name 2 rfl rfl (.inl (by kernel_rfl))) de_int (ix_l rfl))) da_nil) (lenW N)) (o_mod (by omega))) (ix_t (str_at (wmod hN 110).1 (wmod hN 110).2))) da_nil))) da_nil)) rfl)) ?_ nd rfl (.inl (by kernel_rfl)) (.inr (by kernel_rfl)))
  show DSs _ _ [.d (.lst (N.map di)), .d (di 110), .d (partsD (landP N)), .c 0, .un] [.dat (weaD (weaGo N 0))] _
  refine dss_cons (ds_for (asg := asgA 4) (fun i ρ cs => ∃ a, ρ = [.d (.lst (N.map di)), .d (di 110), .d (partsD (landP N)), .c 0, a] ∧ cs = [.dat (weaD (weaGo N i))]) PassesOwn.never rfl (ei (di_range (n := (nth N 111 % 4).toNat) (by omega) (by kernel_rfl) T.b_range (da_cons (DE.is (de_bin (de_int1 (by kernel_rfl) T.b_int (da_cons (de_ix (de_name 0 rfl rfl (.inl (by kernel_rfl))) (de_bin (de_name 1 rfl rfl (.inl (by kernel_rfl))) de_int (o_add)) (ix_l (num_at hN 111 rfl (by decide)))) da_nil)) de_int (o_mod (by decide))) (congrArg di k4)) da_nil))) ⟨_, rfl, rfl⟩ (fun i d ρ cs hd iv => ⟨(dg_name 4 nd rfl (.inl (by kernel_rfl)) (.inr (by kernel_rfl))), ?_⟩) (fun ρ cs iv => ?_))
  · obtain ⟨hi, rfl⟩ := rng_get hd
    have hi4 : i < 4 := by omega
    obtain ⟨a, rfl, rfl⟩ := iv
    obtain ⟨r, hrw⟩ : ∃ r, (weaGo N i)[i]? = some r := ⟨_, List.getElem?_eq_getElem (by rw [weaGo_len]; exact Nat.lt_succ_self _)⟩
    have eN : weaNext N (weaGo N i) i = (r.1 + 1 + nth N (112 + i) % 12, nthS (windsL N) (nth N (115 + i) % ((windsL N).length : Int))) := by unfold weaNext; rw [hrw]; rfl
    show DSs _ _ [.d (.lst (N.map di)), .d (di 110), .d (partsD (landP N)), .c 0, .d (di (i : Int))] [.dat (weaD (weaGo N i))] _
    refine dss_one (ds_append 3 rfl rfl (evh (d := weaD1 (weaNext N (weaGo N i) i)) (DE.is (de_tup (da_cons (de_bin (de_bin (de_ix (d := di r.1) (de_ix (d := weaD1 r) (de_name 3 rfl rfl (.inl (by kernel_rfl))) (de_name 4 rfl rfl (.inl (by kernel_rfl))) (ix_l (atI_nat (getE weaD1 hrw)))) de_int (ix_t rfl)) de_int (o_add)) (de_bin (de_int1 (by kernel_rfl) T.b_int (da_cons (de_ix (de_name 0 rfl rfl (.inl (by kernel_rfl))) (de_bin (de_bin (de_name 1 rfl rfl (.inl (by kernel_rfl))) de_int (o_add)) (de_name 4 rfl rfl (.inl (by kernel_rfl))) (o_add)) (ix_l (num_at hN (112 + i) (by omega) (by omega)))) da_nil)) de_int (o_mod (by decide))) (o_add)) (da_cons (de_ix (d := ds (nthS (windsL N) (nth N (115 + i) % ((windsL N).length : Int)))) (DE.tup (de_ix (d := .tix ((windsL N).map ds)) (de_name 2 rfl rfl (.inl (by kernel_rfl))) de_int (ix_l rfl))) (de_bin (de_int1 (by kernel_rfl) T.b_int (da_cons (de_ix (de_name 0 rfl rfl (.inl (by kernel_rfl))) (de_bin (de_bin (de_name 1 rfl rfl (.inl (by kernel_rfl))) de_int (o_add)) (de_name 4 rfl rfl (.inl (by kernel_rfl))) (o_add)) (ix_l (num_at hN (115 + i) (by omega) (by omega)))) da_nil)) (de_len (by kernel_rfl) T.b_len (da_cons (DE.tup (de_ix (d := .tix ((windsL N).map ds)) (de_name 2 rfl rfl (.inl (by kernel_rfl))) de_int (ix_l rfl))) da_nil) (lenW N)) (o_mod (by omega))) (ix_t (str_at (wmod hN (115 + i)).1 (wmod hN (115 + i)).2))) da_nil))) (by rw [eN]; rfl)) (by rw [eN]; rfl)) ?_ ⟨_, rfl, ?_⟩ rfl (.inl (by kernel_rfl)))
    · rw [List.length_map, weaGo_len]; exact small (m := 4) (by omega)
    · show [CD.dat (.lst _)] = [CD.dat (.lst _)]
      rw [weaGo_succ, List.map_append]; rfl
  · obtain ⟨a, rfl, rfl⟩ := iv
    rw [rng_length]
    exact dss_one (ds_retC 3 rfl rfl rfl rfl (.inl (by kernel_rfl)))
/-! ### _law_wind -/
def R_law_wind (ds' : List D) (d : D) : Prop := ∃ (L : LandM) (w : Wea) (m : Int), ds' = [partsD L, weaD w, di m] ∧ WeaOk L w ∧ 0 ≤ m ∧ d = di (windAt L w m : Nat)
theorem ok_law_wind (T : Tx K mg) : Cal P w K mg base 1 "_law_wind" (spD K R_law_wind) [] := by
  refine calD T.f__law_wind sc__law_wind (fun ds d ⟨L, w, m, e, _⟩ => by rw [e]; rfl) (fun _ _ _ _ _ _ us hl => match us, hl with | [_, _, _], _ => rfl) ?_
  rintro cdv f A outer s H E _ _ ⟨L, w, m, rfl, hw, hm, rfl⟩ hr
  have nd := (sc__law_wind).nd
  obtain ⟨x0, r0, e0⟩ := hw.first
  obtain ⟨x, h1, h2, h3, h4⟩ := wind_ok hw hm
  show DSs _ (defBody s__law_wind) [.d (partsD L), .d (weaD w), .d (di m), .un, .un] [] _
  refine dss_cons (ds_set 3 (d := ds x0) (ev (de_ix (de_ix (d := weaD1 (0, x0)) (de_name 1 rfl rfl (.inl (by kernel_rfl))) de_int (ix_l (atI_nat (i := 0) (by rw [e0]; rfl)))) de_int (ix_t rfl))) ?_ nd rfl (.inl (by kernel_rfl)) (.inr (by kernel_rfl)))
  show DSs _ _ [.d (partsD L), .d (weaD w), .d (di m), .d (ds x0), .un] [] _
  refine dss_cons (ds_for (asg := asgA 4) (fun i ρ cs => ∃ a, ρ = [.d (partsD L), .d (weaD w), .d (di m), .d (ds ((winds (w.take i) m).getLastD x0)), a] ∧ cs = []) PassesOwn.never rfl (ei (di_list (de_name 1 rfl rfl (.inl (by kernel_rfl))))) ⟨_, rfl, rfl⟩ (fun i d ρ cs hd iv => ⟨(dg_name 4 nd rfl (.inl (by kernel_rfl)) (.inr (by kernel_rfl))), ?_⟩) (fun ρ cs iv => ?_))
  · obtain ⟨a, rfl, rfl⟩ := iv
    obtain ⟨r, hrw, rfl⟩ := map_get hd
    show DSs _ _ [.d (partsD L), .d (weaD w), .d (di m), .d (ds ((winds (w.take i) m).getLastD x0)), .d (weaD1 r)] [] _
    refine dss_one (ds_if (ba := decide (r.1 ≤ m)) (et (dt_cmp (de_ix (d := di r.1) (de_name 4 rfl rfl (.inl (by kernel_rfl))) de_int (ix_t rfl)) (de_name 2 rfl rfl (.inl (by kernel_rfl))) o_le)) (fun h => ?_) (fun h => ?_))
    · have e1 : (winds (w.take (i + 1)) m).getLastD x0 = r.2 := by
        unfold winds
        rw [take_filter_succ hrw, List.filter_append, List.filter_cons, if_pos h, List.map_append]
        show (_ ++ [r.2]).getLastD x0 = r.2
        rw [List.getLastD_eq_getLast?, List.getLast?_append]; rfl
      refine dss_one (ds_set 3 (d := ds r.2) (ev (de_ix (de_name 4 rfl rfl (.inl (by kernel_rfl))) de_int (ix_t rfl))) ⟨.d (weaD1 r), ?_, rfl⟩ nd rfl (.inl (by kernel_rfl)) (.inr (by kernel_rfl)))
      rw [e1]; rfl
    · have e1 : winds (w.take (i + 1)) m = winds (w.take i) m := by
        unfold winds
        rw [take_filter_succ hrw, List.filter_append, List.filter_cons, if_neg (by rw [h]; exact Bool.false_ne_true)]
        simp
      refine dss_nil ⟨.d (weaD1 r), ?_, rfl⟩
      rw [e1]
  · obtain ⟨a, rfl, rfl⟩ := iv
    rw [List.length_map, List.take_length]
    have e2 : (winds w m).getLastD x0 = x := by rw [List.getLastD_eq_getLast?, h1]; rfl
    rw [e2]
    exact dss_one (ds_ret (ev (de_tix (j := windAt L w m) (z := x) (ys := L.winds) (de_ix (d := .tix (L.winds.map ds)) (de_name 0 rfl rfl (.inl (by kernel_rfl))) de_int (ix_l rfl)) (de_name 3 rfl rfl (.inl (by kernel_rfl))) h2 h3)) (.inl rfl))
/-! ### _law_caught -/
def selS (s : Bool) (p : Int × Int) : Int := if s = true then p.2 else p.1
def sideI (s : Bool) : Int := if s = true then 1 else 0
def sideRow (s : Bool) (l : LinkM) : List (Option Int) := l.times.map fun t => t.map (selS s)
def fireStep (L : LandM) (w : Wea) (row : List (Option Int)) (acc : Option Int) (c : Int) : Option Int := match end1 L w row c with
  | none => acc
  | some v => match acc with
    | none => some v
    | some a => some (if v < a then v else a)
theorem minL_snoc : ∀ (xs : List Int) (y : Int), minL (xs ++ [y]) = some (match minL xs with | none => y | some a => if y < a then y else a)
  | [], y => rfl
  | b :: bs, y => by
    show some (minOf b (bs ++ [y])) = some (if y < minOf b bs then y else minOf b bs)
    unfold minOf
    rw [List.foldl_append]
    show some (if DatumOrd.lt y _ = true then y else _) = _
    generalize List.foldl _ b bs = z
    have : (DatumOrd.lt y z = true) ↔ (y < z) := by show (decide (y < z) = true) ↔ _; exact decide_eq_true_iff
    by_cases h : y < z
    · rw [if_pos h, if_pos (this.mpr h)]
    · rw [if_neg h, if_neg (fun q => h (this.mp q))]
theorem fold_minL (L : LandM) (w : Wea) (row : List (Option Int)) (cs : List Int) (i : Nat) (c : Int) (h : cs[i]? = some c) : minL ((cs.take (i + 1)).filterMap (end1 L w row)) = fireStep L w row (minL ((cs.take i).filterMap (end1 L w row))) c := by
  rw [take_filter_succ h, List.filterMap_append, List.filterMap_cons]
  unfold fireStep
  cases e : end1 L w row c with
  | none => simp
  | some v =>
    show minL (_ ++ [v]) = _
    rw [minL_snoc]
    cases minL ((cs.take i).filterMap (end1 L w row)) <;> rfl
def R_law_caught (ds' : List D) (d : D) : Prop := ∃ (L : LandM) (w : Wea) (l : LinkM) (m : Int) (s : Bool), ds' = [partsD L, weaD w, linkD l, di m, di (sideI s)] ∧ WeaOk L w ∧ l.times.length = L.winds.length ∧ 0 ≤ m ∧ d = optI (caughtM L w (sideRow s l) m)
theorem ok_law_caught (T : Tx K mg) : Cal P w K mg base 2 "_law_caught" (spD K R_law_caught) [] := by
  refine calD T.f__law_caught sc__law_caught (fun ds d ⟨L, w, l, m, s, e, _⟩ => by rw [e]; rfl) (fun _ _ _ _ _ _ us hl => match us, hl with | [_, _, _, _, _], _ => rfl) ?_
  rintro cdv f A outer s H E _ _ ⟨L, w, l, m, sd, rfl, hw, hrow, hm, rfl⟩ hr
  have nd := (sc__law_caught).nd
  have hcl : (changes w m).length ≤ 40 := by
    unfold changes
    rw [List.length_map]
    have := List.length_filter_le (fun r : Int × Str => decide (m < r.1)) w
    have := hw.few
    omega
  show DSs _ (defBody s__law_caught) [.d (partsD L), .d (weaD w), .d (linkD l), .d (di m), .d (di (sideI sd)), .un, .un, .un, .un] [] _
  refine dss_cons (ds_set 5 (ev de_non) ?_ nd rfl (.inl (by kernel_rfl)) (.inr (by kernel_rfl)))
  show DSs _ _ [.d (partsD L), .d (weaD w), .d (linkD l), .d (di m), .d (di (sideI sd)), .d dn, .un, .un, .un] [] _
  refine dss_cons (ds_for (asg := asgA 6) (its := (chancesM w m).map di) (fun i ρ cs => ∃ a b, ρ = [.d (partsD L), .d (weaD w), .d (linkD l), .d (di m), .d (di (sideI sd)), .d (optI (minL (((chancesM w m).take i).filterMap (end1 L w (sideRow sd l))))), a, b, .un] ∧ cs = []) PassesOwn.never rfl (ei (di_list (DN.de (DN.is (dn_bin (DN.de (dn_lst (da_cons (de_name 3 rfl rfl (.inr (.inl (by kernel_rfl)))) da_nil))) (DN.de (dn_lc (its := w.map weaD1) (own := [("_law_row_here", 8)]) (asg := asgA 8) (keep := keepC m) (g := fstD) rfl nd (di_list (de_name 1 rfl rfl (.inl (by kernel_rfl)))) (blkOk_by (by kernel_rfl)) (by rw [List.length_map]; exact small hw.few) (fun s H C cl fp i d hd => ?_))) (o_cat ?_)) ?_)))) ⟨_, _, rfl, rfl⟩ (fun i d ρ cs hd iv => ⟨(dg_name 6 nd rfl (.inl (by kernel_rfl)) (.inr (by kernel_rfl))), ?_⟩) (fun ρ cs iv => ?_))
  · obtain ⟨r, hr', rfl⟩ := map_get hd
    exact ⟨(dg_name 8 nd rfl (.inl (by kernel_rfl)) (.inr (by kernel_rfl))), by simp [asgA], (dts_one (dt_cmp (de_ix (d := di r.1) (de_name 8 rfl rfl (.inl (by kernel_rfl))) de_int (ix_t rfl)) (de_name 3 rfl rfl (.inr (.inl (by kernel_rfl)))) o_gt)), fun _ => (de_ix (de_name 8 rfl rfl (.inl (by kernel_rfl))) de_int (ix_t rfl))⟩
  · rw [List.length_map]
    have h1 := List.length_filter_le (keepC m) (w.map weaD1)
    rw [List.length_map] at h1
    have := hw.few
    exact Nat.le_of_lt (small (m := 1001) (by show 1 + _ ≤ _; omega))
  · rw [filt_map weaD1 (keepC m) (fun r => decide (m < r.1)) (fun _ => rfl), List.map_map]
    unfold chancesM changes
    rw [List.map_cons, List.map_map]; rfl
  · obtain ⟨a, b, rfl, rfl⟩ := iv
    obtain ⟨c, hc, rfl⟩ := map_get hd
    have hc0 : 0 ≤ c := ch_pos hw hm c (List.mem_of_getElem? hc)
    obtain ⟨x, h1, h2, h3, h4⟩ := wind_ok hw hc0
    obtain ⟨t, ht⟩ : ∃ t, l.times[windAt L w c]? = some t := ⟨_, List.getElem?_eq_getElem (by rw [hrow]; exact h4)⟩
    have he : end1 L w (sideRow sd l) c = (t.map (selS sd)).map (c + ·) := by
      unfold end1 sideRow
      rw [List.getD_eq_getElem?_getD, List.getElem?_map, ht]; rfl
    have hf := fold_minL L w (sideRow sd l) (chancesM w m) i c hc
    rw [hf]
    generalize minL (((chancesM w m).take i).filterMap (end1 L w (sideRow sd l))) = acc
    unfold fireStep
    rw [he]
    show DSs _ _ [.d (partsD L), .d (weaD w), .d (linkD l), .d (di m), .d (di (sideI sd)), .d (optI acc), .d (di c), b, .un] [] _
    refine dss_cons (ds_set 7 (d := timeD t) (ev (de_ix (de_ix (d := .tup (l.times.map timeD)) (de_name 2 rfl rfl (.inl (by kernel_rfl))) de_int (ix_t rfl)) (de_call (ok_law_wind T) hr (by kernel_rfl) (da_cons (de_name 0 rfl rfl (.inl (by kernel_rfl))) (da_cons (de_name 1 rfl rfl (.inl (by kernel_rfl))) (da_cons (de_name 6 rfl rfl (.inl (by kernel_rfl))) da_nil))) ⟨L, w, c, rfl, hw, hc0, rfl⟩) (ix_t (atI_nat (getE timeD ht))))) ?_ nd rfl (.inl (by kernel_rfl)) (.inr (by kernel_rfl)))
    cases t with
    | none =>
      show DSs _ _ [.d (partsD L), .d (weaD w), .d (linkD l), .d (di m), .d (di (sideI sd)), .d (optI acc), .d (di c), .d dn, .un] [] _
      refine dss_one (ds_if (ba := false) (et (dt_and (ba := false) (bb := false) (dt_cmp (de_name 7 rfl rfl (.inl (by kernel_rfl))) de_non o_notN) (fun h => by cases h))) (fun h => by cases h) (fun h => dss_nil ⟨_, _, rfl, rfl⟩))
    | some p =>
      have hix : L2.atI [di p.1, di p.2] (sideI sd) = some (di (selS sd p)) := by cases sd <;> rfl
      cases acc with
      | none =>
        show DSs _ _ [.d (partsD L), .d (weaD w), .d (linkD l), .d (di m), .d (di (sideI sd)), .d dn, .d (di c), .d (.tup [di p.1, di p.2]), .un] [] _
        refine dss_one (ds_if (ba := true) (et (dt_and (ba := true) (bb := true) (dt_cmp (de_name 7 rfl rfl (.inl (by kernel_rfl))) de_non o_notN) (fun _ => (dw_and1 (dt_or (ba := true) (bb := true) (dt_cmp (de_name 5 rfl rfl (.inl (by kernel_rfl))) de_non o_isN) (fun h => by cases h)))))) (fun _ => ?_) (fun h => by cases h))
        exact dss_one (ds_set 5 (d := di (c + selS sd p)) (ev (de_bin (de_name 6 rfl rfl (.inl (by kernel_rfl))) (de_ix (de_name 7 rfl rfl (.inl (by kernel_rfl))) (de_name 4 rfl rfl (.inl (by kernel_rfl))) (ix_t hix)) (o_add))) ⟨_, _, rfl, rfl⟩ nd rfl (.inl (by kernel_rfl)) (.inr (by kernel_rfl)))
      | some v =>
        show DSs _ _ [.d (partsD L), .d (weaD w), .d (linkD l), .d (di m), .d (di (sideI sd)), .d (di v), .d (di c), .d (.tup [di p.1, di p.2]), .un] [] _
        refine dss_one (ds_if (ba := decide (c + selS sd p < v)) (et (dt_and (ba := true) (dt_cmp (de_name 7 rfl rfl (.inl (by kernel_rfl))) de_non o_notN) (fun _ => (dw_and1 (dt_or (ba := false) (dt_cmp (de_name 5 rfl rfl (.inl (by kernel_rfl))) de_non o_isN) (fun _ => (dw_or1 (dt_cmp (de_bin (de_name 6 rfl rfl (.inl (by kernel_rfl))) (de_ix (de_name 7 rfl rfl (.inl (by kernel_rfl))) (de_name 4 rfl rfl (.inl (by kernel_rfl))) (ix_t hix)) (o_add)) (de_name 5 rfl rfl (.inl (by kernel_rfl))) o_lt)))))))) (fun h => ?_) (fun h => ?_))
        · refine dss_one (ds_set 5 (d := di (c + selS sd p)) (ev (de_bin (de_name 6 rfl rfl (.inl (by kernel_rfl))) (de_ix (de_name 7 rfl rfl (.inl (by kernel_rfl))) (de_name 4 rfl rfl (.inl (by kernel_rfl))) (ix_t hix)) (o_add))) ⟨.d (di c), .d (.tup [di p.1, di p.2]), ?_, rfl⟩ nd rfl (.inl (by kernel_rfl)) (.inr (by kernel_rfl)))
          show _ = [SD.d (partsD L), .d (weaD w), .d (linkD l), .d (di m), .d (di (sideI sd)), .d (di (if c + selS sd p < v then c + selS sd p else v)), _, _, _]
          rw [if_pos (of_decide_eq_true h)]; rfl
        · refine dss_nil ⟨.d (di c), .d (.tup [di p.1, di p.2]), ?_, rfl⟩
          show _ = [SD.d (partsD L), .d (weaD w), .d (linkD l), .d (di m), .d (di (sideI sd)), .d (di (if c + selS sd p < v then c + selS sd p else v)), _, _, _]
          rw [if_neg (of_decide_eq_false h)]
  · obtain ⟨a, b, rfl, rfl⟩ := iv
    rw [List.length_map, List.take_length]
    exact dss_one (ds_ret (d := optI (caughtM L w (sideRow sd l) m)) (ev (de_name 5 rfl rfl (.inl (by kernel_rfl)))) (.inl rfl))
/-! ### _law_rows, _law_least -/
def rowsP (N : List Int) (a n : Nat) (most : Int) : Rows := (List.range n).map fun k => (nthS (placesP N) (nth N (a + 2 * k) % ((placesP N).length : Int)), nth N (a + 2 * k + 1) % most)
def R_law_rows (ds' : List D) (d : D) : Prop := ∃ (N : List Int) (a n : Nat) (most : Int), ds' = [.lst (N.map di), di a, di n, partsD (landP N), di most] ∧ NumOk N ∧ n ≤ 5 ∧ a ≤ 150 ∧ 0 < most ∧ d = rowsD (rowsP N a n most)
theorem ok_law_rows (T : Tx K mg) : Cal P w K mg base 1 "_law_rows" (spN K R_law_rows) [] := by
  refine calN T.f__law_rows sc__law_rows (fun ds d ⟨N, a, n, most, e, _⟩ => by rw [e]; rfl) (fun _ _ _ _ _ _ us hl => match us, hl with | [_, _, _, _, _], _ => rfl) ?_
  rintro cdv f A outer s H E _ _ ⟨N, a, n, most, rfl, hN, hn, ha, hm, rfl⟩ hr
  have nd := (sc__law_rows).nd
  have pl := places_len hN
  show DSs _ (defBody s__law_rows) [.d (.lst (N.map di)), .d (di a), .d (di n), .d (partsD (landP N)), .d (di most), .un] [] _
  refine dss_one (ds_retN (d := rowsD (rowsP N a n most)) (en (DN.is (dn_lc (its := rng n) (own := [("_law_k", 5)]) (asg := asgA 5) (keep := fun _ => true) (g := fun d => match d with | .v (.int k) => rowD (nthS (placesP N) (nth N (a + 2 * k.toNat) % ((placesP N).length : Int)), nth N (a + 2 * k.toNat + 1) % most) | d => d) rfl nd (di_range (n := n) (by omega) (by kernel_rfl) T.b_range (da_cons (de_name 2 rfl rfl (.inl (by kernel_rfl))) da_nil)) (blkOk_by (by kernel_rfl)) (by rw [rng_length]; exact small (m := 5) (by omega)) (fun s H C cl fp i d hd => ?_)) ?_)) rfl)
  · obtain ⟨hi, rfl⟩ := rng_get hd
    have hb : -(2 ^ 64) < (i : Int) ∧ (i : Int) < 2 ^ 64 := by omega
    exact ⟨(dg_name 5 nd rfl (.inl (by kernel_rfl)) (.inr (by kernel_rfl))), by simp [asgA], dts_nil, fun _ => (de_tup (da_cons (de_ix (d := ds (nthS (placesP N) (nth N (a + 2 * i) % ((placesP N).length : Int)))) (de_ix (d := .tup ((placesP N).map ds)) (de_name 3 rfl rfl (.inr (.inl (by kernel_rfl)))) de_int (ix_l rfl)) (de_bin (de_int1 (by kernel_rfl) T.b_int (da_cons (de_ix (de_name 0 rfl rfl (.inr (.inl (by kernel_rfl)))) (de_bin (de_name 1 rfl rfl (.inr (.inl (by kernel_rfl)))) (de_bin de_int (de_name 5 rfl rfl (.inl (by kernel_rfl))) (o_mul (.inr hb))) (o_add)) (ix_l (num_at hN (a + 2 * i) (by omega) (by omega)))) da_nil)) (de_len (by kernel_rfl) T.b_len (da_cons (de_ix (d := .tup ((placesP N).map ds)) (de_name 3 rfl rfl (.inr (.inl (by kernel_rfl)))) de_int (ix_l rfl)) da_nil) (lenP N)) (o_mod (by omega))) (ix_t (str_at (pmod hN (a + 2 * i)).1 (pmod hN (a + 2 * i)).2))) (da_cons (de_bin (de_int1 (by kernel_rfl) T.b_int (da_cons (de_ix (de_name 0 rfl rfl (.inr (.inl (by kernel_rfl)))) (de_bin (de_bin (de_name 1 rfl rfl (.inr (.inl (by kernel_rfl)))) (de_bin de_int (de_name 5 rfl rfl (.inl (by kernel_rfl))) (o_mul (.inr hb))) (o_add)) de_int (o_add)) (ix_l (num_at hN (a + 2 * i + 1) (by omega) (by omega)))) da_nil)) (de_name 4 rfl rfl (.inr (.inl (by kernel_rfl)))) (o_mod hm)) da_nil)))⟩
  · rw [filtT]
    unfold rng rowsP
    rw [List.map_map]
    show D.lst _ = D.lst _
    rw [List.map_map]
    refine congrArg D.lst (List.map_congr_left fun k _ => ?_)
    rfl
theorem ok_law_least (T : Tx K mg) : Cal P w K mg base 1 "_law_least" (spN K R_least) [] := by
  refine calN T.f__law_least sc__law_least (fun ds d ⟨rs, e, _⟩ => by rw [e]; rfl) (fun _ _ _ _ _ _ us hl => match us, hl with | [_], _ => rfl) ?_
  rintro cdv f A outer s H E _ _ ⟨rs, rfl, hl, rfl⟩ hr
  have hu := hu_of hr
  have nd := (sc__law_least).nd
  show DSs _ (defBody s__law_least) [.d (rowsD rs), .un, .un, .un] [] _
  refine dss_cons (ds_setN 1 (en dn_dic) ?_ nd rfl (.inl (by kernel_rfl)) (.inr (by kernel_rfl)))
  show DSs _ _ [.d (rowsD rs), .c 0, .un, .un] [.dat (.dic [])] _
  refine dss_cons (ds_for (asg := fun d => asg1 2 3 d) (fun i ρ cs => ∃ a b, ρ = [.d (rowsD rs), .c 0, a, b] ∧ cs = [.dat (.dic (leastK (rs.take i)))]) PassesOwn.never rfl (ei (di_list (de_name 0 rfl rfl (.inl (by kernel_rfl))))) ⟨_, _, rfl, rfl⟩ (fun i d ρ cs hd iv => ?_) (fun ρ cs iv => ?_))
  · obtain ⟨a, b, rfl, rfl⟩ := iv
    obtain ⟨r, hr2, rfl⟩ := map_get hd
    refine ⟨dg_tup rfl (dgs_cons (dg_name 2 nd rfl (.inl (by kernel_rfl)) (.inr (by kernel_rfl))) (dgs_cons (dg_name 3 nd rfl (.inl (by kernel_rfl)) (.inr (by kernel_rfl))) dgs_nil)), ?_⟩
    show DSs _ _ [.d (rowsD rs), .c 0, .d (ds r.1), .d (di r.2)] _ _
    refine dss_one (ds_dput hu 1 rfl rfl (ev (de_name 2 rfl rfl (.inl (by kernel_rfl)))) (evh (de_min2 rfl (by kernel_rfl) T.b_min (da_cons (de_name 3 rfl rfl (.inl (by kernel_rfl))) (da_cons (de_dget2 hu (de_name 1 rfl rfl (.inl (by kernel_rfl))) (de_name 2 rfl rfl (.inl (by kernel_rfl))) (de_name 3 rfl rfl (.inl (by kernel_rfl)))) da_nil)))) ?_ ?_ rfl (.inl (by kernel_rfl)))
    · exact small (Nat.le_trans (leastK_len _) (Nat.le_trans (by rw [List.length_take]; exact Nat.min_le_right _ _) hl))
    · refine ⟨_, _, rfl, ?_⟩
      have e : leastK (rs.take (i + 1)) = leastStep (leastK (rs.take i)) r := take_foldl _ _ hr2
      rw [e]; rfl
  · obtain ⟨a, b, rfl, rfl⟩ := iv
    rw [List.length_map, List.take_length]
    exact dss_one (ds_retC 1 rfl rfl rfl rfl (.inl (by kernel_rfl)))
end Ef
set_option maxRecDepth 100000
set_option maxHeartbeats 4000000
/-! Gy: _law_fire. -/
namespace Ef
open PySem L2 C8 RZ PyProof.Rows PySem.Spec PySem.W TL
section
variable {X : Cx} {e1 e2 em o o2 : Expr} {ro : List (Option D)} {kvs : List (Str × Int)} {k : Str} {m : Int} {p1 p2 p3 p4 : Pos}
theorem dt_aheadP (hu : X.A.units + 1 < cLine) (h1 : DE X e1 ro (ds k)) (ho : DE X o ro (.dic kvs)) (hm : DE X em ro (di m)) (ho2 : DE X o2 ro (.dic kvs)) (h2 : DE X e2 ro (ds k))
    (hb : behindInMarks .NotIn o = false := by kernel_rfl) (hb2 : behindInMarks .Lt (.Subscript o2 e2 p2) = false := by kernel_rfl) (hs : NoSl e2 := by exact fun _ _ => rfl) :
    DT X (.BoolOp .Or [.Compare e1 [.NotIn] [o] p1, .Compare em [.Lt] [.Subscript o2 e2 p2] p3] p4) ro (ahead kvs k m) := dt_ahead hu h1 ho hm ho2 h2 hb hb2 hs
end
variable {P : Program} {w : World} {K : PySem.W.Frag} {mg : Str → Option Value} {base : Heap}
abbrev DicF := List (Str × Int)
def startStep (ends b : DicF) (r : Str × Int) : DicF := if (ahead ends r.1 r.2 && ahead b r.1 r.2) = true then setK b r.1 r.2 else b
def linkStep (L : LandM) (w : Wea) (s : Bool) (ends b : DicF) (l : LinkM) : DicF := match getK b l.one with
  | none => b
  | some t => match caughtM L w (sideRow s l) t with
    | none => b
    | some e => if (ahead ends l.other e && ahead b l.other e) = true then setK b l.other e else b
def roundM (L : LandM) (w : Wea) (s : Bool) (ends b : DicF) : DicF := L.links.foldl (linkStep L w s ends) b
def turnsM (L : LandM) (w : Wea) (s : Bool) (ends b : DicF) (i : Nat) : DicF := (List.range i).foldl (fun b _ => roundM L w s ends b) b
def fireM (L : LandM) (w : Wea) (st br : Rows) (s : Bool) : DicF := turnsM L w s (leastK br) (st.foldl (startStep (leastK br)) []) (L.places.length + 1)
theorem turns_succ (L : LandM) (w : Wea) (s : Bool) (ends b : DicF) (i : Nat) : turnsM L w s ends b (i + 1) = roundM L w s ends (turnsM L w s ends b i) := by
  unfold turnsM
  rw [List.range_succ, List.foldl_append]; rfl
theorem startStep_len (ends b : DicF) (r : Str × Int) : (startStep ends b r).length ≤ b.length + 1 := by
  unfold startStep
  split
  · exact length_setK _ _ _
  · omega
theorem linkStep_len (L : LandM) (w : Wea) (s : Bool) (ends b : DicF) (l : LinkM) : (linkStep L w s ends b l).length ≤ b.length + 1 := by
  unfold linkStep
  split
  · omega
  · split
    · omega
    · split
      · exact length_setK _ _ _
      · omega
theorem turns_len (L : LandM) (w : Wea) (s : Bool) (ends b : DicF) : ∀ i, (turnsM L w s ends b i).length ≤ b.length + i * L.links.length
  | 0 => by show b.length ≤ _; omega
  | i + 1 => by
    rw [turns_succ]
    have h1 := foldl_len (linkStep L w s ends) (linkStep_len L w s ends) L.links (turnsM L w s ends b i)
    have h2 := turns_len L w s ends b i
    unfold roundM
    rw [Nat.succ_mul]; omega
theorem set_nonneg {b : DicF} {k : Str} {v : Int} (h : nonneg b) (hv : 0 ≤ v) : nonneg (setK b k v) := fun k' v' e => by
  rw [getK_set] at e
  split at e
  · cases e; exact hv
  · exact h k' v' e
theorem start_nonneg {ends b : DicF} {r : Str × Int} (h : nonneg b) (hr : 0 ≤ r.2) : nonneg (startStep ends b r) := by
  unfold startStep
  split
  · exact set_nonneg h hr
  · exact h
/-- a land's links that a fire can walk -/
structure FireOk (L : LandM) (w : Wea) (s : Bool) : Prop where
  wea : WeaOk L w
  row : ∀ l ∈ L.links, l.times.length = L.winds.length
  pos : ∀ l ∈ L.links, ∀ v, some v ∈ sideRow s l → 1 ≤ v
theorem link_nonneg {L : LandM} {w : Wea} {s : Bool} {ends b : DicF} {l : LinkM} (o : FireOk L w s) (hl : l ∈ L.links) (h : nonneg b) : nonneg (linkStep L w s ends b l) := by
  unfold linkStep
  split
  · exact h
  · rename_i t ht
    split
    · exact h
    · rename_i e he
      split
      · have := caught_gt (o.pos l hl) he
        have := h _ _ ht
        exact set_nonneg h (by omega)
      · exact h
theorem take_nonneg {L : LandM} {w : Wea} {s : Bool} {ends : DicF} (o : FireOk L w s) : ∀ (ls : List LinkM) (b : DicF), (∀ l ∈ ls, l ∈ L.links) → nonneg b → nonneg (ls.foldl (linkStep L w s ends) b)
  | [], _, _, h => h
  | l :: ls, b, hl, h => take_nonneg o ls _ (fun x hx => hl x (List.mem_cons_of_mem _ hx)) (link_nonneg o (hl l List.mem_cons_self) h)
theorem turns_nonneg {L : LandM} {w : Wea} {s : Bool} {ends b : DicF} (o : FireOk L w s) (h : nonneg b) : ∀ i, nonneg (turnsM L w s ends b i)
  | 0 => h
  | i + 1 => by rw [turns_succ]; exact take_nonneg o _ _ (fun _ h => h) (turns_nonneg o h i)
def R_law_fire (ds' : List D) (d : D) : Prop := ∃ (L : LandM) (w : Wea) (st br : Rows) (s : Bool), ds' = [partsD L, weaD w, rowsD st, rowsD br, di (sideI s)] ∧ FireOk L w s ∧ (∀ r ∈ st, 0 ≤ r.2) ∧ st.length ≤ 100 ∧ br.length ≤ 100 ∧ L.links.length ≤ 60 ∧ L.places.length ≤ 24 ∧ d = .dic (fireM L w st br s)
theorem lenT (xs : List Str) : LenD (.tup (xs.map ds)) xs.length := by have h := LenD.t (xs.map ds); rwa [List.length_map] at h
theorem ok_law_fire (T : Tx K mg) : Cal P w K mg base 3 "_law_fire" (spN K R_law_fire) [] := by
  refine calN T.f__law_fire sc__law_fire (fun ds d ⟨L, w, st, br, s, e, _⟩ => by rw [e]; rfl) (fun _ _ _ _ _ _ us hl => match us, hl with | [_, _, _, _, _], _ => rfl) ?_
  rintro cdv f A outer s H E _ _ ⟨L, w, st, br, sd, rfl, o, hst, hs1, hb1, hl6, hp2, rfl⟩ hr
  have nd := (sc__law_fire).nd
  have hu := hu_of hr
  show DSs _ (defBody s__law_fire) [.d (partsD L), .d (weaD w), .d (rowsD st), .d (rowsD br), .d (di (sideI sd)), .un, .un, .un, .un, .un, .un, .un] [] _
  refine dss_cons (ds_setN 5 (en dn_dic) ?_ nd rfl (.inl (by kernel_rfl)) (.inr (by kernel_rfl)))
  show DSs _ _ [.d (partsD L), .d (weaD w), .d (rowsD st), .d (rowsD br), .d (di (sideI sd)), .c 0, .un, .un, .un, .un, .un, .un] [.dat (.dic [])] _
  refine dss_cons (ds_for (asg := asg1 8 9) (its := br.map rowD) (fun i ρ cs => ∃ a b, (Fz a ∧ Fz b) ∧ ρ = [.d (partsD L), .d (weaD w), .d (rowsD st), .d (rowsD br), .d (di (sideI sd)), .c 0, .un, .un, a, b, .un, .un] ∧ cs = [.dat (.dic (leastK (br.take i)))]) PassesOwn.never rfl (ei (di_list (de_name 3 rfl rfl (.inl (by kernel_rfl))))) ⟨_, _, ⟨fzu, fzu⟩, rfl, rfl⟩ (fun i d ρ cs hd iv => ?_) (fun ρ cs iv => ?_))
  · obtain ⟨a, b, _, rfl, rfl⟩ := iv
    obtain ⟨r, hr2, rfl⟩ := map_get hd
    refine ⟨dg_tup rfl (dgs_cons (dg_name 8 nd rfl (.inl (by kernel_rfl)) (.inr (by kernel_rfl))) (dgs_cons (dg_name 9 nd rfl (.inl (by kernel_rfl)) (.inr (by kernel_rfl))) dgs_nil)), ?_⟩
    show DSs _ _ [.d (partsD L), .d (weaD w), .d (rowsD st), .d (rowsD br), .d (di (sideI sd)), .c 0, .un, .un, .d (ds r.1), .d (di r.2), .un, .un] _ _
    refine dss_one (ds_dput hu 5 rfl rfl (ev (de_name 8 rfl rfl (.inl (by kernel_rfl)))) (evh (de_min2 rfl (by kernel_rfl) T.b_min (da_cons (de_name 9 rfl rfl (.inl (by kernel_rfl))) (da_cons (de_dget2 hu (de_name 5 rfl rfl (.inl (by kernel_rfl))) (de_name 8 rfl rfl (.inl (by kernel_rfl))) (de_name 9 rfl rfl (.inl (by kernel_rfl)))) da_nil)))) ?_ ?_ rfl (.inl (by kernel_rfl)))
    · exact small (Nat.le_trans (leastK_len _) (Nat.le_trans (by rw [List.length_take]; exact Nat.min_le_right _ _) hb1))
    · refine ⟨_, _, ⟨fzd, fzd⟩, rfl, ?_⟩
      have e : leastK (br.take (i + 1)) = leastStep (leastK (br.take i)) r := take_foldl _ _ hr2
      rw [e]; rfl
  obtain ⟨a, b, ⟨ha, hb⟩, rfl, rfl⟩ := iv
  rw [List.length_map, List.take_length]
  refine dss_freezeE (ρ2 := [.d (partsD L), .d (weaD w), .d (rowsD st), .d (rowsD br), .d (di (sideI sd)), .d (.dic (leastK br)), .un, .un, a, b, .un, .un]) (cs := []) (d := .dic (leastK br)) (by simp only [List.map_cons, List.map_nil, ha, hb]; rfl) ?_
  refine dss_cons (ds_setN 6 (en dn_dic) ?_ nd rfl (.inl (by kernel_rfl)) (.inr (by kernel_rfl)))
  show DSs _ _ [.d (partsD L), .d (weaD w), .d (rowsD st), .d (rowsD br), .d (di (sideI sd)), .d (.dic (leastK br)), .c 0, .un, a, b, .un, .un] [.dat (.dic [])] _
  refine dss_cons (ds_for (asg := asg1 8 9) (its := st.map rowD) (fun i ρ cs => ∃ a b, ρ = [.d (partsD L), .d (weaD w), .d (rowsD st), .d (rowsD br), .d (di (sideI sd)), .d (.dic (leastK br)), .c 0, .un, a, b, .un, .un] ∧ cs = [.dat (.dic ((st.take i).foldl (startStep (leastK br)) []))]) PassesOwn.never rfl (ei (di_list (de_name 2 rfl rfl (.inl (by kernel_rfl))))) ⟨_, _, rfl, rfl⟩ (fun i d ρ cs hd iv => ?_) (fun ρ cs iv => ?_))
  · obtain ⟨a, b, rfl, rfl⟩ := iv
    obtain ⟨r, hr2, rfl⟩ := map_get hd
    refine ⟨dg_tup rfl (dgs_cons (dg_name 8 nd rfl (.inl (by kernel_rfl)) (.inr (by kernel_rfl))) (dgs_cons (dg_name 9 nd rfl (.inl (by kernel_rfl)) (.inr (by kernel_rfl))) dgs_nil)), ?_⟩
    have e : (st.take (i + 1)).foldl (startStep (leastK br)) [] = startStep (leastK br) ((st.take i).foldl (startStep (leastK br)) []) r := take_foldl _ _ hr2
    have hl := foldl_len (startStep (leastK br)) (startStep_len _) (st.take i) []
    rw [e]
    generalize (st.take i).foldl (startStep (leastK br)) [] = bu at *
    have hl : bu.length ≤ 100 := by
      rw [List.length_take] at hl
      have : ([] : DicF).length = 0 := rfl
      omega
    show DSs _ _ [.d (partsD L), .d (weaD w), .d (rowsD st), .d (rowsD br), .d (di (sideI sd)), .d (.dic (leastK br)), .c 0, .un, .d (ds r.1), .d (di r.2), .un, .un] [.dat (.dic bu)] _
    refine dss_one (ds_if (ba := ahead (leastK br) r.1 r.2 && ahead bu r.1 r.2) (et (dt_and (dt_aheadP hu (de_name 8 rfl rfl (.inl (by kernel_rfl))) (de_name 5 rfl rfl (.inl (by kernel_rfl))) (de_name 9 rfl rfl (.inl (by kernel_rfl))) (de_name 5 rfl rfl (.inl (by kernel_rfl))) (de_name 8 rfl rfl (.inl (by kernel_rfl)))) (fun _ => (dw_and1 (dt_aheadP hu (de_name 8 rfl rfl (.inl (by kernel_rfl))) (de_name 6 rfl rfl (.inl (by kernel_rfl))) (de_name 9 rfl rfl (.inl (by kernel_rfl))) (de_name 6 rfl rfl (.inl (by kernel_rfl))) (de_name 8 rfl rfl (.inl (by kernel_rfl)))))))) (fun h => ?_) (fun h => ?_))
    · refine dss_one (ds_dput hu 6 rfl rfl (ev (de_name 8 rfl rfl (.inl (by kernel_rfl)))) (ev (de_name 9 rfl rfl (.inl (by kernel_rfl)))) (small hl) ⟨_, _, rfl, ?_⟩ rfl (.inl (by kernel_rfl)))
      unfold startStep
      rw [if_pos h]; rfl
    · refine dss_nil ⟨_, _, rfl, ?_⟩
      unfold startStep
      rw [if_neg (by rw [h]; exact Bool.false_ne_true)]
  obtain ⟨a, b, rfl, rfl⟩ := iv
  rw [List.length_map, List.take_length]
  have hb0 := foldl_len (startStep (leastK br)) (startStep_len _) st []
  have hn0 : nonneg (st.foldl (startStep (leastK br)) []) := by
    have : ∀ (rs : Rows) (b : DicF), (∀ r ∈ rs, 0 ≤ r.2) → nonneg b → nonneg (rs.foldl (startStep (leastK br)) b) := fun rs => by
      induction rs with
      | nil => intro b _ h; exact h
      | cons r rs ih => intro b hr h; exact ih _ (fun x hx => hr x (List.mem_cons_of_mem _ hx)) (start_nonneg h (hr r List.mem_cons_self))
    exact this st [] hst (fun k v e => by cases e)
  have efire : fireM L w st br sd = turnsM L w sd (leastK br) (st.foldl (startStep (leastK br)) []) (L.places.length + 1) := rfl
  generalize st.foldl (startStep (leastK br)) [] = b0 at *
  have hb0 : b0.length ≤ 100 := by
    have : ([] : DicF).length = 0 := rfl
    omega
  refine dss_cons (ds_for (asg := asgA 7) (fun i ρ cs => ∃ t l c, ρ = [.d (partsD L), .d (weaD w), .d (rowsD st), .d (rowsD br), .d (di (sideI sd)), .d (.dic (leastK br)), .c 0, t, a, b, l, c] ∧ cs = [.dat (.dic (turnsM L w sd (leastK br) b0 i))]) PassesOwn.never rfl (ei (di_range (n := L.places.length + 1) (by omega) (by kernel_rfl) T.b_range (da_cons (de_bin (de_len (by kernel_rfl) T.b_len (da_cons (de_ix (d := .tup (L.places.map ds)) (de_name 0 rfl rfl (.inl (by kernel_rfl))) de_int (ix_l rfl)) da_nil) (lenT L.places)) de_int (o_add)) da_nil))) ⟨_, _, _, rfl, rfl⟩ (fun i d ρ cs hd iv => ⟨(dg_name 7 nd rfl (.inl (by kernel_rfl)) (.inr (by kernel_rfl))), ?_⟩) (fun ρ cs iv => ?_))
  · obtain ⟨hi, rfl⟩ := rng_get hd
    obtain ⟨t, l, c, rfl, rfl⟩ := iv
    have ht1 := turns_len L w sd (leastK br) b0 i
    have ht2 := turns_nonneg (ends := leastK br) o hn0 i
    rw [turns_succ]
    have hmul : i * L.links.length ≤ 25 * 60 := Nat.mul_le_mul (by omega) hl6
    generalize turnsM L w sd (leastK br) b0 i = bi at *
    show DSs _ _ [.d (partsD L), .d (weaD w), .d (rowsD st), .d (rowsD br), .d (di (sideI sd)), .d (.dic (leastK br)), .c 0, .d (di (i : Int)), a, b, l, c] _ _
    refine dss_one (ds_for (asg := asgA 10) (its := L.links.map linkD) (fun j ρ cs => ∃ l c, ρ = [.d (partsD L), .d (weaD w), .d (rowsD st), .d (rowsD br), .d (di (sideI sd)), .d (.dic (leastK br)), .c 0, .d (di (i : Int)), a, b, l, c] ∧ cs = [.dat (.dic ((L.links.take j).foldl (linkStep L w sd (leastK br)) bi))]) PassesOwn.never rfl (ei (di_tup (de_ix (de_name 0 rfl rfl (.inl (by kernel_rfl))) de_int (ix_l rfl)))) ⟨_, _, rfl, rfl⟩ (fun j d ρ cs hd iv => ⟨(dg_name 10 nd rfl (.inl (by kernel_rfl)) (.inr (by kernel_rfl))), ?_⟩) (fun ρ cs iv => ?_))
    · obtain ⟨l, c, rfl, rfl⟩ := iv
      obtain ⟨k, hk, rfl⟩ := map_get hd
      have hkm : k ∈ L.links := List.mem_of_getElem? hk
      have e : (L.links.take (j + 1)).foldl (linkStep L w sd (leastK br)) bi = linkStep L w sd (leastK br) ((L.links.take j).foldl (linkStep L w sd (leastK br)) bi) k := take_foldl _ _ hk
      have hl := foldl_len (linkStep L w sd (leastK br)) (linkStep_len L w sd _) (L.links.take j) bi
      have hnn := take_nonneg (ends := leastK br) o (L.links.take j) bi (fun x hx => List.mem_of_mem_take hx) ht2
      rw [List.length_take] at hl
      rw [e]
      generalize (L.links.take j).foldl (linkStep L w sd (leastK br)) bi = bj at *
      have hlj : bj.length < sizeLine := small (m := 2000) (by omega)
      show DSs _ _ [.d (partsD L), .d (weaD w), .d (rowsD st), .d (rowsD br), .d (di (sideI sd)), .d (.dic (leastK br)), .c 0, .d (di (i : Int)), a, b, .d (linkD k), c] [.dat (.dic bj)] _
      refine dss_one (ds_if (ba := (getK bj k.one).isSome) (et (dt_din hu (de_ix (d := ds k.one) (de_name 10 rfl rfl (.inl (by kernel_rfl))) de_int (ix_t rfl)) (de_name 6 rfl rfl (.inl (by kernel_rfl))))) (fun h => ?_) (fun h => dss_nil ⟨_, _, rfl, ?_⟩))
      · obtain ⟨t, ht⟩ := Option.isSome_iff_exists.mp h
        refine dss_cons (ds_set 11 (d := optI (caughtM L w (sideRow sd k) t)) (evh (de_call (ok_law_caught T) hr (by kernel_rfl) (da_cons (de_name 0 rfl rfl (.inl (by kernel_rfl))) (da_cons (de_name 1 rfl rfl (.inl (by kernel_rfl))) (da_cons (de_name 10 rfl rfl (.inl (by kernel_rfl))) (da_cons (de_dget hu (de_name 6 rfl rfl (.inl (by kernel_rfl))) (de_ix (d := ds k.one) (de_name 10 rfl rfl (.inl (by kernel_rfl))) de_int (ix_t rfl)) ht) (da_cons (de_name 4 rfl rfl (.inl (by kernel_rfl))) da_nil))))) ⟨L, w, k, t, sd, rfl, o.wea, o.row k hkm, hnn _ _ ht, rfl⟩) (by cases caughtM L w (sideRow sd k) t <;> rfl)) ?_ nd rfl (.inl (by kernel_rfl)) (.inr (by kernel_rfl)))
        cases hc : caughtM L w (sideRow sd k) t with
        | none =>
          have e2 : linkStep L w sd (leastK br) bj k = bj := by unfold linkStep; rw [ht]; simp only [hc]
          rw [e2]
          show DSs _ _ [.d (partsD L), .d (weaD w), .d (rowsD st), .d (rowsD br), .d (di (sideI sd)), .d (.dic (leastK br)), .c 0, .d (di (i : Int)), a, b, .d (linkD k), .d dn] [.dat (.dic bj)] _
          exact dss_one (ds_if (ba := false) (et (dt_and (ba := false) (bb := false) (dt_cmp (de_name 11 rfl rfl (.inl (by kernel_rfl))) de_non o_notN) (fun h => by cases h))) (fun h => by cases h) (fun h => dss_nil ⟨_, _, rfl, rfl⟩))
        | some v =>
          have e2 : linkStep L w sd (leastK br) bj k = if (ahead (leastK br) k.other v && ahead bj k.other v) = true then setK bj k.other v else bj := by unfold linkStep; rw [ht]; simp only [hc]
          rw [e2]
          show DSs _ _ [.d (partsD L), .d (weaD w), .d (rowsD st), .d (rowsD br), .d (di (sideI sd)), .d (.dic (leastK br)), .c 0, .d (di (i : Int)), a, b, .d (linkD k), .d (di v)] [.dat (.dic bj)] _
          refine dss_one (ds_if (ba := ahead (leastK br) k.other v) (et (DT.is (dt_and (ba := true) (dt_cmp (de_name 11 rfl rfl (.inl (by kernel_rfl))) de_non o_notN) (fun _ => (dw_and1 (dt_aheadP hu (de_ix (d := ds k.other) (de_name 10 rfl rfl (.inl (by kernel_rfl))) de_int (ix_t rfl)) (de_name 5 rfl rfl (.inl (by kernel_rfl))) (de_name 11 rfl rfl (.inl (by kernel_rfl))) (de_name 5 rfl rfl (.inl (by kernel_rfl))) (de_ix (d := ds k.other) (de_name 10 rfl rfl (.inl (by kernel_rfl))) de_int (ix_t rfl)))))) rfl)) (fun h => ?_) (fun h => dss_nil ⟨_, _, rfl, ?_⟩))
          · refine dss_one (ds_if (ba := ahead bj k.other v) (et (dt_aheadP hu (de_ix (d := ds k.other) (de_name 10 rfl rfl (.inl (by kernel_rfl))) de_int (ix_t rfl)) (de_name 6 rfl rfl (.inl (by kernel_rfl))) (de_name 11 rfl rfl (.inl (by kernel_rfl))) (de_name 6 rfl rfl (.inl (by kernel_rfl))) (de_ix (d := ds k.other) (de_name 10 rfl rfl (.inl (by kernel_rfl))) de_int (ix_t rfl)))) (fun h2 => ?_) (fun h2 => dss_nil ⟨_, _, rfl, ?_⟩))
            · refine dss_one (ds_dput hu 6 rfl rfl (ev (de_ix (d := ds k.other) (de_name 10 rfl rfl (.inl (by kernel_rfl))) de_int (ix_t rfl))) (ev (de_name 11 rfl rfl (.inl (by kernel_rfl)))) hlj ⟨_, _, rfl, ?_⟩ rfl (.inl (by kernel_rfl)))
              rw [if_pos (by rw [h, h2]; rfl)]; rfl
            · rw [if_neg (by rw [h2, Bool.and_false]; exact Bool.false_ne_true)]
          · rw [if_neg (by rw [h, Bool.false_and]; exact Bool.false_ne_true)]
      · have e2 : linkStep L w sd (leastK br) bj k = bj := by
          unfold linkStep
          cases hg : getK bj k.one with
          | none => rfl
          | some z => rw [hg] at h; cases h
        rw [e2]
    · obtain ⟨l, c, rfl, rfl⟩ := iv
      rw [List.length_map, List.take_length]
      exact ⟨_, _, _, rfl, rfl⟩
  · obtain ⟨t, l, c, rfl, rfl⟩ := iv
    rw [rng_length, efire]
    exact dss_one (ds_retC 6 rfl rfl rfl rfl (.inl (by kernel_rfl)))
end Ef
set_option maxRecDepth 100000
set_option maxHeartbeats 4000000
/-! Gz: _law_closed. -/
namespace Ef
open PySem L2 C8 RZ PyProof.Rows PySem.Spec PySem.W TL
section
variable {X : Cx} {a b : Expr} {ρ : List SD} {cs : List CD} {da db' : D} {ba bb : Bool} {pos : Pos}
theorem et_or2 (h : ET X a ρ cs ba) (h2 : ba = false → ET X b ρ cs bb) : ET X (.BoolOp .Or [a, b] pos) ρ cs (ba || bb) := fun F0 H0 F H σ as S Q q => by
  have hw : WW X (.BoolOp .Or [a, b] pos) σ H Q := PW.ww (pw_or pt_self pw_self) (h F0 H0 F H σ as S _ fun F1 H1 g => by
    cases ba with
    | true => rw [if_pos rfl]; exact q F1 H1 g
    | false => rw [if_neg Bool.false_ne_true]; exact PW.ww (pw_or1 pt_self) (h2 rfl F0 H0 F1 H1 σ as (S.step g) Q fun F2 H2 g2 => q F2 H2 (g.trans g2)))
  exact fun pins s I => hw _ pins s I
theorem et_cmpV {op : CmpOp} (ha : EV X a ρ cs da) (hb : DE X b (coldV ρ) db') (h : OpD X (compareOp op) da db' (db ba)) (hm : behindInMarks op b = false := by kernel_rfl) : ET X (.Compare a [op] [b] pos) ρ cs ba := fun F0 H0 F H σ as S Q q => by
  obtain ⟨r, hr, k⟩ := h
  exact PT.wt (pt_cmpR hr pe_self pe_self hm) (ha F0 H0 F H σ as S _ fun v F1 H1 g1 r1 => hb σ F1 H1 (S.step g1).cold g1.fh _ fun w F2 H2 g2 r2 => k v w F2 H2 _ g2.fh (r1.mono g2.ff) r2 fun z F3 H3 g3 r3 => by cases r3; exact ⟨_, rfl, q F3 H3 ((g1.trans g2).trans g3)⟩)
end
variable {P : Program} {w : World} {K : PySem.W.Frag} {mg : Str → Option Value} {base : Heap}
def keysOk (least : DicF) (places : List Str) : Bool := least.all fun q => decide (q.1 ∈ places)
def okStL (ends least : DicF) (r : Str × Int) : Bool := !(ahead ends r.1 r.2 && ahead least r.1 r.2)
def okLkL (L : LandM) (w : Wea) (s : Bool) (ends least : DicF) (l : LinkM) : Bool := match getK least l.one with
  | none => true
  | some t => match caughtM L w (sideRow s l) t with
    | none => true
    | some e => !(ahead ends l.other e && ahead least l.other e)
def lawClosedM (L : LandM) (w : Wea) (st br : Rows) (s : Bool) (rs : Rows) (p : Str) : Bool :=
  !((getK (leastK rs) p).isSome || !keysOk (leastK rs) L.places) && (st.all (okStL (leastK br) (leastK rs)) && L.links.all (okLkL L w s (leastK br) (leastK rs)))
def keepNP (places : List Str) : D → Bool
  | .v (.str x) => !decide (x ∈ places)
  | _ => false
theorem keys_len (least : DicF) (places : List Str) : decide ((0 : Int) < ((((least.map fun q => ds q.1).filter (keepNP places)).map fun d => d).length : Int)) = !keysOk least places := by
  rw [List.length_map]
  by_cases h : keysOk least places = true
  · have e : (least.map fun q => ds q.1).filter (keepNP places) = [] := by
      rw [List.filter_eq_nil_iff]
      intro d hd
      obtain ⟨q, hq, rfl⟩ := List.mem_map.mp hd
      have := List.all_eq_true.mp h q hq
      show ¬ (!decide (q.1 ∈ places)) = true
      rw [this]; exact Bool.false_ne_true
    rw [e, h]; rfl
  · rw [Bool.not_eq_true] at h
    rw [h]
    refine decide_eq_true ?_
    obtain ⟨q, hq, hn⟩ := List.all_eq_false.mp h
    have hm : ds q.1 ∈ (least.map fun q => ds q.1).filter (keepNP places) := by
      refine List.mem_filter.mpr ⟨List.mem_map.mpr ⟨q, hq, rfl⟩, ?_⟩
      show (!decide (q.1 ∈ places)) = true
      rw [Bool.not_eq_true] at hn
      rw [hn]; rfl
    have := List.length_pos_of_mem hm
    omega
theorem dt_aheadG {X : Cx} {e1 e2 em o o2 : Expr} {ro : List (Option D)} {kvs : List (Str × Int)} {k : Str} {m : Int} {p1 p2 p3 p4 : Pos} (hu : X.A.units + 1 < cLine) (h1 : DE X e1 ro (ds k)) (ho : DE X o ro (.dic kvs)) (hm : DE X em ro (di m)) (ho2 : DE X o2 ro (.dic kvs)) (h2 : DE X e2 ro (ds k))
    (hb : behindInMarks .NotIn o = false := by kernel_rfl) (hb2 : behindInMarks .Gt em = false := by kernel_rfl) (hs : NoSl e2 := by exact fun _ _ => rfl) :
    DT X (.BoolOp .Or [.Compare e1 [.NotIn] [o] p1, .Compare (.Subscript o2 e2 p2) [.Gt] [em] p3] p4) ro (ahead kvs k m) := by
  unfold ahead
  refine dt_or (dt_dnotin hu h1 ho hb) (fun h => dw_or1 (dt_cmp (de_dget (i := (getK kvs k).getD 0) hu ho2 h2 ?_ hs) hm o_gt hb2))
  cases q : getK kvs k with
  | none => rw [q] at h; cases h
  | some v => rfl
def R_law_closed (ds' : List D) (d : D) : Prop := ∃ (L : LandM) (w : Wea) (st br : Rows) (s : Bool) (rs : Rows) (p : Str), ds' = [partsD L, .tup [weaD w, rowsD st, rowsD br], di (sideI s), rowsD rs, ds p] ∧ FireOk L w s ∧ rs.length ≤ 1000 ∧ br.length ≤ 1000 ∧ (∀ r ∈ rs, 0 ≤ r.2) ∧ d = db (lawClosedM L w st br s rs p)
theorem ok_law_closed (T : Tx K mg) : Cal P w K mg base 3 "_law_closed" (spD K R_law_closed) [] := by
  refine calD T.f__law_closed sc__law_closed (fun ds d ⟨L, w, st, br, s, rs, p, e, _⟩ => by rw [e]; rfl) (fun _ _ _ _ _ _ us hl => match us, hl with | [_, _, _, _, _], _ => rfl) ?_
  rintro cdv f A outer s H E _ _ ⟨L, w, st, br, sd, rs, p, rfl, o, hrl, hbl, h0, rfl⟩ hr
  have nd := (sc__law_closed).nd
  have hu := hu_of hr
  have hnn : nonneg (leastK rs) := fun k v hv => least_nonneg h0 _ (getK_mem hv)
  have hll := leastK_len rs
  show DSs _ (defBody s__law_closed) [.d (partsD L), .d (.tup [weaD w, rowsD st, rowsD br]), .d (di (sideI sd)), .d (rowsD rs), .d (ds p), .un, .un, .un, .un, .un, .un, .un, .un, .un] [] _
  refine dss_cons (ds_asg (d := .tup [weaD w, rowsD st, rowsD br]) (asg := asg3 8 9 10 (.tup [weaD w, rowsD st, rowsD br])) (ev (de_name 1 rfl rfl (.inl (by kernel_rfl)))) (dg_tup rfl (dgs_cons (dg_name 8 nd rfl (.inl (by kernel_rfl)) (.inr (by kernel_rfl))) (dgs_cons (dg_name 9 nd rfl (.inl (by kernel_rfl)) (.inr (by kernel_rfl))) (dgs_cons (dg_name 10 nd rfl (.inl (by kernel_rfl)) (.inr (by kernel_rfl))) dgs_nil)))) ?_)
  show DSs _ _ [.d (partsD L), .d (.tup [weaD w, rowsD st, rowsD br]), .d (di (sideI sd)), .d (rowsD rs), .d (ds p), .un, .un, .un, .d (weaD w), .d (rowsD st), .d (rowsD br), .un, .un, .un] [] _
  refine dss_cons (ds_setN 5 (d := .dic (leastK rs)) (en (dn_call (ok_law_least T) hr (by kernel_rfl) (da_cons (de_name 3 rfl rfl (.inl (by kernel_rfl))) da_nil) ⟨rs, rfl, hrl, rfl⟩)) ?_ nd rfl (.inl (by kernel_rfl)) (.inr (by kernel_rfl)))
  refine dss_cons (ds_set 6 (d := .dic (leastK br)) (ev (DN.de (dn_call (ok_law_least T) hr (by kernel_rfl) (da_cons (de_name 10 rfl rfl (.inl (by kernel_rfl))) da_nil) ⟨br, rfl, hbl, rfl⟩))) ?_ nd rfl (.inl (by kernel_rfl)) (.inr (by kernel_rfl)))
  show DSs _ _ [.d (partsD L), .d (.tup [weaD w, rowsD st, rowsD br]), .d (di (sideI sd)), .d (rowsD rs), .d (ds p), .c 0, .d (.dic (leastK br)), .un, .d (weaD w), .d (rowsD st), .d (rowsD br), .un, .un, .un] [.dat (.dic (leastK rs))] _
  refine dss_cons (ds_if (ba := (getK (leastK rs) p).isSome || !keysOk (leastK rs) L.places) (et_or2 (et (dt_din hu (de_name 4 rfl rfl (.inl (by kernel_rfl))) (de_name 5 rfl rfl (.inl (by kernel_rfl))))) (fun _ => et_cmpV (ev_lock 5 rfl rfl (de_len (by kernel_rfl) T.b_len (da_cons (DN.de (dn_lc (its := (leastK rs).map fun q => ds q.1) (own := [("_law_one", 11)]) (asg := asgA 11) (keep := keepNP L.places) (g := fun d => d) rfl nd (di_keysL (de_name 5 rfl rfl (.inl (by kernel_rfl)))) (blkOk_by (by kernel_rfl)) (by rw [List.length_map]; exact small (m := 1000) (by omega)) (fun s H C cl fp i d hd => ?_))) da_nil) (.l _))) de_int ?_)) (fun h => ?_) (fun h => dss_nil ?_))
  · obtain ⟨q, hq, rfl⟩ := map_get hd
    exact ⟨(dg_name 11 nd rfl (.inl (by kernel_rfl)) (.inr (by kernel_rfl))), by simp [asgA], (dts_one (dt_cmp (de_name 11 rfl rfl (.inl (by kernel_rfl))) (de_ix (d := .tup (L.places.map ds)) (de_name 0 rfl rfl (.inr (.inl (by kernel_rfl)))) de_int (ix_l rfl)) o_notInS)), fun _ => (de_name 11 rfl rfl (.inl (by kernel_rfl)))⟩
  · rw [← keys_len]; exact o_gt
  · refine dss_one (ds_ret (d := db false) (ev de_bl) (.inl ?_))
    unfold lawClosedM
    rw [h]; rfl
  refine dss_freezeE (ρ2 := [.d (partsD L), .d (.tup [weaD w, rowsD st, rowsD br]), .d (di (sideI sd)), .d (rowsD rs), .d (ds p), .d (.dic (leastK rs)), .d (.dic (leastK br)), .un, .d (weaD w), .d (rowsD st), .d (rowsD br), .un, .un, .un]) (cs := []) (d := .dic (leastK rs)) rfl ?_
  have e0 : lawClosedM L w st br sd rs p = (st.all (okStL (leastK br) (leastK rs)) && L.links.all (okLkL L w sd (leastK br) (leastK rs))) := by
    unfold lawClosedM
    rw [h]; rfl
  rw [e0]
  refine dss_cons (ds_for (asg := asg1 11 12) (its := st.map rowD) (fun i ρ cs => (st.take i).all (okStL (leastK br) (leastK rs)) = true ∧ ∃ x y, ρ = [.d (partsD L), .d (.tup [weaD w, rowsD st, rowsD br]), .d (di (sideI sd)), .d (rowsD rs), .d (ds p), .d (.dic (leastK rs)), .d (.dic (leastK br)), .un, .d (weaD w), .d (rowsD st), .d (rowsD br), x, y, .un] ∧ cs = []) PassesOwn.never rfl (ei (di_list (de_name 9 rfl rfl (.inl (by kernel_rfl))))) ⟨rfl, _, _, rfl, rfl⟩ (fun i d ρ cs hd iv => ?_) (fun ρ cs iv => ?_))
  · obtain ⟨hall, x, y, rfl, rfl⟩ := iv
    obtain ⟨r, hpm, rfl⟩ := map_get hd
    refine ⟨(dg_tup rfl (dgs_cons (dg_name 11 nd rfl (.inl (by kernel_rfl)) (.inr (by kernel_rfl))) (dgs_cons (dg_name 12 nd rfl (.inl (by kernel_rfl)) (.inr (by kernel_rfl))) dgs_nil))), ?_⟩
    show DSs _ _ [.d (partsD L), .d (.tup [weaD w, rowsD st, rowsD br]), .d (di (sideI sd)), .d (rowsD rs), .d (ds p), .d (.dic (leastK rs)), .d (.dic (leastK br)), .un, .d (weaD w), .d (rowsD st), .d (rowsD br), .d (ds r.1), .d (di r.2), .un] [] _
    refine dss_one (ds_if (ba := ahead (leastK br) r.1 r.2 && ahead (leastK rs) r.1 r.2) (et (dt_and (dt_aheadP hu (de_name 11 rfl rfl (.inl (by kernel_rfl))) (de_name 6 rfl rfl (.inl (by kernel_rfl))) (de_name 12 rfl rfl (.inl (by kernel_rfl))) (de_name 6 rfl rfl (.inl (by kernel_rfl))) (de_name 11 rfl rfl (.inl (by kernel_rfl)))) (fun _ => (dw_and1 (dt_aheadG hu (de_name 11 rfl rfl (.inl (by kernel_rfl))) (de_name 5 rfl rfl (.inl (by kernel_rfl))) (de_name 12 rfl rfl (.inl (by kernel_rfl))) (de_name 5 rfl rfl (.inl (by kernel_rfl))) (de_name 11 rfl rfl (.inl (by kernel_rfl)))))))) (fun h => ?_) (fun h => dss_nil ⟨?_, _, _, rfl, rfl⟩))
    · refine dss_one (ds_ret (d := db false) (ev de_bl) (.inl ?_))
      have : st.all (okStL (leastK br) (leastK rs)) = false := by
        rw [List.all_eq_false]
        refine ⟨r, List.mem_of_getElem? hpm, ?_⟩
        unfold okStL
        rw [h]; exact Bool.false_ne_true
      rw [this]; rfl
    · rw [take_filter_succ hpm, List.all_append, hall, List.all_cons]
      unfold okStL
      rw [h]; rfl
  obtain ⟨hall, x, y, rfl, rfl⟩ := iv
  rw [List.length_map, List.take_length] at hall
  rw [hall, Bool.true_and]
  refine dss_cons (ds_for (asg := asgA 7) (its := L.links.map linkD) (fun i ρ cs => (L.links.take i).all (okLkL L w sd (leastK br) (leastK rs)) = true ∧ ∃ u z, ρ = [.d (partsD L), .d (.tup [weaD w, rowsD st, rowsD br]), .d (di (sideI sd)), .d (rowsD rs), .d (ds p), .d (.dic (leastK rs)), .d (.dic (leastK br)), u, .d (weaD w), .d (rowsD st), .d (rowsD br), x, y, z] ∧ cs = []) PassesOwn.never rfl (ei (di_tup (de_ix (de_name 0 rfl rfl (.inr (.inl (by kernel_rfl)))) de_int (ix_l rfl)))) ⟨rfl, _, _, rfl, rfl⟩ (fun i d ρ cs hd iv => ⟨(dg_name 7 nd rfl (.inl (by kernel_rfl)) (.inr (by kernel_rfl))), ?_⟩) (fun ρ cs iv => ?_))
  · obtain ⟨hall2, u, z, rfl, rfl⟩ := iv
    obtain ⟨l, hln, rfl⟩ := map_get hd
    have hlm : l ∈ L.links := List.mem_of_getElem? hln
    have next : okLkL L w sd (leastK br) (leastK rs) l = true → (L.links.take (i + 1)).all (okLkL L w sd (leastK br) (leastK rs)) = true := fun h => by
      rw [take_filter_succ hln, List.all_append, hall2, List.all_cons, h]; rfl
    have stop : okLkL L w sd (leastK br) (leastK rs) l = false → L.links.all (okLkL L w sd (leastK br) (leastK rs)) = false := fun h => by
      rw [List.all_eq_false]
      exact ⟨l, hlm, by rw [h]; exact Bool.false_ne_true⟩
    show DSs _ _ [.d (partsD L), .d (.tup [weaD w, rowsD st, rowsD br]), .d (di (sideI sd)), .d (rowsD rs), .d (ds p), .d (.dic (leastK rs)), .d (.dic (leastK br)), .d (linkD l), .d (weaD w), .d (rowsD st), .d (rowsD br), x, y, z] [] _
    refine dss_one (ds_if (ba := (getK (leastK rs) l.one).isSome) (et (dt_din hu (de_ix (d := ds l.one) (de_name 7 rfl rfl (.inl (by kernel_rfl))) de_int (ix_t rfl)) (de_name 5 rfl rfl (.inl (by kernel_rfl))))) (fun h => ?_) (fun h => dss_nil ⟨next ?_, _, _, rfl, rfl⟩))
    · obtain ⟨t, ht⟩ := Option.isSome_iff_exists.mp h
      refine dss_cons (ds_set 13 (d := optI (caughtM L w (sideRow sd l) t)) (ev (de_call (ok_law_caught T) hr (by kernel_rfl) (da_cons (de_name 0 rfl rfl (.inr (.inl (by kernel_rfl)))) (da_cons (de_name 8 rfl rfl (.inl (by kernel_rfl))) (da_cons (de_name 7 rfl rfl (.inl (by kernel_rfl))) (da_cons (de_dget hu (de_name 5 rfl rfl (.inl (by kernel_rfl))) (de_ix (d := ds l.one) (de_name 7 rfl rfl (.inl (by kernel_rfl))) de_int (ix_t rfl)) ht) (da_cons (de_name 2 rfl rfl (.inl (by kernel_rfl))) da_nil))))) ⟨L, w, l, t, sd, rfl, o.wea, o.row l hlm, hnn _ _ ht, rfl⟩)) ?_ nd rfl (.inl (by kernel_rfl)) (.inr (by kernel_rfl)))
      cases hc : caughtM L w (sideRow sd l) t with
      | none =>
        show DSs _ _ [.d (partsD L), .d (.tup [weaD w, rowsD st, rowsD br]), .d (di (sideI sd)), .d (rowsD rs), .d (ds p), .d (.dic (leastK rs)), .d (.dic (leastK br)), .d (linkD l), .d (weaD w), .d (rowsD st), .d (rowsD br), x, y, .d dn] [] _
        refine dss_one (ds_if (ba := false) (et (dt_and (ba := false) (bb := false) (dt_cmp (de_name 13 rfl rfl (.inl (by kernel_rfl))) de_non o_notN) (fun h => by cases h))) (fun h => by cases h) (fun h => dss_nil ⟨next ?_, _, _, rfl, rfl⟩))
        unfold okLkL; rw [ht]; simp only [hc]
      | some v =>
        have e2 : okLkL L w sd (leastK br) (leastK rs) l = !(ahead (leastK br) l.other v && ahead (leastK rs) l.other v) := by unfold okLkL; rw [ht]; simp only [hc]
        show DSs _ _ [.d (partsD L), .d (.tup [weaD w, rowsD st, rowsD br]), .d (di (sideI sd)), .d (rowsD rs), .d (ds p), .d (.dic (leastK rs)), .d (.dic (leastK br)), .d (linkD l), .d (weaD w), .d (rowsD st), .d (rowsD br), x, y, .d (di v)] [] _
        refine dss_one (ds_if (ba := ahead (leastK br) l.other v) (et (DT.is (dt_and (ba := true) (dt_cmp (de_name 13 rfl rfl (.inl (by kernel_rfl))) de_non o_notN) (fun _ => (dw_and1 (dt_aheadP hu (de_ix (d := ds l.other) (de_name 7 rfl rfl (.inl (by kernel_rfl))) de_int (ix_t rfl)) (de_name 6 rfl rfl (.inl (by kernel_rfl))) (de_name 13 rfl rfl (.inl (by kernel_rfl))) (de_name 6 rfl rfl (.inl (by kernel_rfl))) (de_ix (d := ds l.other) (de_name 7 rfl rfl (.inl (by kernel_rfl))) de_int (ix_t rfl)))))) rfl)) (fun h => ?_) (fun h => dss_nil ⟨next ?_, _, _, rfl, rfl⟩))
        · refine dss_one (ds_if (ba := ahead (leastK rs) l.other v) (et (dt_aheadG hu (de_ix (d := ds l.other) (de_name 7 rfl rfl (.inl (by kernel_rfl))) de_int (ix_t rfl)) (de_name 5 rfl rfl (.inl (by kernel_rfl))) (de_name 13 rfl rfl (.inl (by kernel_rfl))) (de_name 5 rfl rfl (.inl (by kernel_rfl))) (de_ix (d := ds l.other) (de_name 7 rfl rfl (.inl (by kernel_rfl))) de_int (ix_t rfl)))) (fun h2 => ?_) (fun h2 => dss_nil ⟨next ?_, _, _, rfl, rfl⟩))
          · refine dss_one (ds_ret (d := db false) (ev de_bl) (.inl ?_))
            rw [stop (by rw [e2, h, h2]; rfl)]
          · rw [e2, h2, Bool.and_false]; rfl
        · rw [e2, h, Bool.false_and]; rfl
    · unfold okLkL
      cases hg : getK (leastK rs) l.one with
      | none => rfl
      | some z => rw [hg] at h; cases h
  · obtain ⟨hall2, u, z, rfl, rfl⟩ := iv
    rw [List.length_map, List.take_length] at hall2
    rw [hall2]
    exact dss_one (ds_ret (d := db true) (ev de_bl) (.inl rfl))
end Ef
set_option maxRecDepth 100000
set_option maxHeartbeats 4000000
/-! Ha: _law_chain. -/
namespace Ef
open PySem L2 C8 RZ PyProof.Rows PySem.Spec PySem.W TL
section
variable {X : Cx}
theorem o_eqSO {x : Str} {o : Option Str} : OpD X (compareOp .Eq) (ds x) (optS o) (db (decide (o = some x))) := by
  cases o with
  | none =>
    have h := o_eq (X := X) (x := .str x) (y := .non) rfl
    rwa [decide_eq_false (fun z => by cases z)] at h
  | some y =>
    have h := o_eqS (X := X) (x := x) (y := y)
    have e : decide (x = y) = decide ((some y : Option Str) = some x) := decide_eq_decide.mpr ⟨fun e => by rw [e], fun e => (Option.some.inj e).symm⟩
    rwa [e] at h
theorem o_neIO {o : Option Int} {y : Int} : OpD X (compareOp .NotEq) (optI o) (di y) (db (!decide (o = some y))) := by
  cases o with
  | none =>
    have h := o_ne (X := X) (x := .non) (y := .int y) rfl
    rwa [decide_eq_false (fun z => by cases z)] at h
  | some v =>
    have h := o_neI (X := X) (x := v) (y := y)
    have e : decide (v = y) = decide ((some v : Option Int) = some y) := decide_eq_decide.mpr ⟨fun e => by rw [e], fun e => Option.some.inj e⟩
    rwa [e] at h
end
variable {P : Program} {w : World} {K : PySem.W.Frag} {mg : Str → Option Value} {base : Heap}
def hopL (q r : RowC) (l : LinkM) : Bool := decide (r.2.1 = some l.name) && (decide (l.one = q.1) && decide (l.other = r.1))
def hopOk (L : LandM) (w : Wea) (s : Bool) (q r : RowC) : Bool := match L.links.filter (hopL q r) with
  | [] => false
  | l :: _ => decide (caughtM L w (sideRow s l) q.2.2 = some r.2.2)
def okAt (L : LandM) (w : Wea) (s : Bool) (ends : DicF) (ch : List RowC) (k : Nat) : Bool := match ch[k]? with
  | none => true
  | some r => ahead ends r.1 r.2.2 && (decide (k = 0) || match ch[k - 1]? with
    | none => true
    | some q => hopOk L w s q r)
def lawChainM (L : LandM) (w : Wea) (st br : Rows) (s : Bool) (ch : List RowC) (p : Str) : Bool := match ch, ch.getLast? with
  | c0 :: _, some z => (decide (c0.2.1 = none) && (decide (z.1 = p) && decide ((c0.1, c0.2.2) ∈ st))) && (List.range ch.length).all (okAt L w s (leastK br) ch)
  | _, _ => false
def keepHop (q r : RowC) : D → Bool
  | .tup [.v (.str a), .v (.str b), .v (.str c), _] => decide (r.2.1 = some a) && (decide (b = q.1) && decide (c = r.1))
  | _ => false
theorem ahead_not (ends : DicF) (k : Str) (m : Int) : (!ahead ends k m) = ((getK ends k).isSome && decide ((getK ends k).getD 0 ≤ m)) := by
  unfold ahead
  cases (getK ends k).isSome with
  | false => rfl
  | true =>
    show (!(false || decide _)) = (true && decide _)
    rw [Bool.false_or, Bool.true_and, ← decide_not]
    exact decide_eq_decide.mpr Int.not_lt
def R_law_chain (ds' : List D) (d : D) : Prop := ∃ (L : LandM) (w : Wea) (st br : Rows) (s : Bool) (ch : List RowC) (p : Str), ds' = [partsD L, .tup [weaD w, rowsD st, rowsD br], di (sideI s), chainD ch, ds p] ∧ FireOk L w s ∧ ch.length ≤ 1000 ∧ br.length ≤ 1000 ∧ L.links.length ≤ 60 ∧ (∀ r ∈ ch, 0 ≤ r.2.2) ∧ d = db (lawChainM L w st br s ch p)
theorem ok_law_chain (T : Tx K mg) : Cal P w K mg base 3 "_law_chain" (spD K R_law_chain) [] := by
  refine calD T.f__law_chain sc__law_chain (fun ds d ⟨L, w, st, br, s, rs, p, e, _⟩ => by rw [e]; rfl) (fun _ _ _ _ _ _ us hl => match us, hl with | [_, _, _, _, _], _ => rfl) ?_
  rintro cdv f A outer s H E _ _ ⟨L, w, st, br, sd, ch, p, rfl, o, hcl, hbl, hll, h0, rfl⟩ hr
  have nd := (sc__law_chain).nd
  have hu := hu_of hr
  have hLc : LenD (chainD ch) ch.length := by have h := LenD.l (ch.map chD); rwa [List.length_map] at h
  show DSs _ (defBody s__law_chain) [.d (partsD L), .d (.tup [weaD w, rowsD st, rowsD br]), .d (di (sideI sd)), .d (chainD ch), .d (ds p), .un, .un, .un, .un, .un, .un, .un, .un, .un, .un] [] _
  refine dss_cons (ds_asg (d := .tup [weaD w, rowsD st, rowsD br]) (asg := asg3 7 8 9 (.tup [weaD w, rowsD st, rowsD br])) (ev (de_name 1 rfl rfl (.inl (by kernel_rfl)))) (dg_tup rfl (dgs_cons (dg_name 7 nd rfl (.inl (by kernel_rfl)) (.inr (by kernel_rfl))) (dgs_cons (dg_name 8 nd rfl (.inl (by kernel_rfl)) (.inr (by kernel_rfl))) (dgs_cons (dg_name 9 nd rfl (.inl (by kernel_rfl)) (.inr (by kernel_rfl))) dgs_nil)))) ?_)
  show DSs _ _ [.d (partsD L), .d (.tup [weaD w, rowsD st, rowsD br]), .d (di (sideI sd)), .d (chainD ch), .d (ds p), .un, .un, .d (weaD w), .d (rowsD st), .d (rowsD br), .un, .un, .un, .un, .un] [] _
  refine dss_cons (ds_set 5 (d := .dic (leastK br)) (ev (DN.de (dn_call (ok_law_least T) hr (by kernel_rfl) (da_cons (de_name 9 rfl rfl (.inl (by kernel_rfl))) da_nil) ⟨br, rfl, hbl, rfl⟩))) ?_ nd rfl (.inl (by kernel_rfl)) (.inr (by kernel_rfl)))
  show DSs _ _ [.d (partsD L), .d (.tup [weaD w, rowsD st, rowsD br]), .d (di (sideI sd)), .d (chainD ch), .d (ds p), .d (.dic (leastK br)), .un, .d (weaD w), .d (rowsD st), .d (rowsD br), .un, .un, .un, .un, .un] [] _
  cases hch : ch with
  | nil =>
    subst hch
    refine dss_cons (ds_if (ba := true) (et (dt_or (ba := true) (bb := true) (dt_cmp (de_len (by kernel_rfl) T.b_len (da_cons (de_name 3 rfl rfl (.inr (.inl (by kernel_rfl)))) da_nil) hLc) de_int o_eqI) (fun h => by cases h))) (fun _ => ?_) (fun h => by cases h))
    exact dss_one (ds_ret (d := db false) (ev de_bl) (.inl rfl))
  | cons c0 ct =>
    rw [← hch]
    obtain ⟨z, hz⟩ : ∃ z, ch.getLast? = some z := by
      cases h : ch.getLast? with
      | none => rw [List.getLast?_eq_none_iff] at h; rw [h] at hch; cases hch
      | some z => exact ⟨z, rfl⟩
    have hc0 : ch[0]? = some c0 := by rw [hch]; rfl
    have hlen : 1 ≤ ch.length := by rw [hch]; simp
    have hzl : ch[ch.length - 1]? = some z := by rw [← List.getLast?_eq_getElem?]; exact hz
    have eM : lawChainM L w st br sd ch p = ((decide (c0.2.1 = none) && (decide (z.1 = p) && decide ((c0.1, c0.2.2) ∈ st))) && (List.range ch.length).all (okAt L w sd (leastK br) ch)) := by
      unfold lawChainM
      rw [hz, hch]
    rw [eM]
    have c0D : L2.atI (ch.map chD) (0 : Int) = some (chD c0) := atI_nat (i := 0) (getE chD hc0)
    refine dss_cons (ds_if (ba := !(decide (c0.2.1 = none) && decide (z.1 = p))) (et (DT.is (dt_or (ba := false) (DT.is (dt_cmp (de_len (by kernel_rfl) T.b_len (da_cons (de_name 3 rfl rfl (.inr (.inl (by kernel_rfl)))) da_nil) hLc) de_int o_eqI) (decide_eq_false (by omega))) (fun _ => (dw_or (dt_cmp (de_ix (d := optS c0.2.1) (de_ix (d := chD c0) (de_name 3 rfl rfl (.inr (.inl (by kernel_rfl)))) de_int (ix_l c0D)) de_int (ix_t rfl)) de_non o_notN) (fun _ => (dw_or1 (dt_cmp (de_ix (d := ds z.1) (de_ix (d := chD z) (de_name 3 rfl rfl (.inr (.inl (by kernel_rfl)))) (de_bin (de_len (by kernel_rfl) T.b_len (da_cons (de_name 3 rfl rfl (.inr (.inl (by kernel_rfl)))) da_nil) hLc) de_int (o_sub)) (ix_l ?_)) de_int (ix_t rfl)) (de_name 4 rfl rfl (.inl (by kernel_rfl))) o_neS)))))) ?_)) (fun h => ?_) (fun h => dss_nil ?_))
    · rw [show ((ch.length : Int) - 1) = ((ch.length - 1 : Nat) : Int) from by omega]
      exact atI_nat (getE chD hzl)
    · rw [Bool.not_and, Bool.false_or]
      cases c0.2.1 <;> rfl
    · refine dss_one (ds_ret (d := db false) (ev de_bl) (.inl ?_))
      rw [Bool.not_eq_true'] at h
      cases h1 : decide (c0.2.1 = none) with
      | false => rfl
      | true =>
        rw [h1, Bool.true_and] at h
        rw [h]; rfl
    rw [Bool.not_eq_false', Bool.and_eq_true_iff] at h
    rw [h.1, h.2, Bool.true_and, Bool.true_and]
    refine dss_cons (ds_if (ba := !decide ((c0.1, c0.2.2) ∈ st)) (et (dt_cmp (da := rowD (c0.1, c0.2.2)) (de_tup (da_cons (de_ix (d := ds c0.1) (de_ix (d := chD c0) (de_name 3 rfl rfl (.inr (.inl (by kernel_rfl)))) de_int (ix_l c0D)) de_int (ix_t rfl)) (da_cons (de_ix (d := di c0.2.2) (de_ix (d := chD c0) (de_name 3 rfl rfl (.inr (.inl (by kernel_rfl)))) de_int (ix_l c0D)) de_int (ix_t rfl)) da_nil))) (de_name 8 rfl rfl (.inl (by kernel_rfl))) (o_notInA (α := Str × Int) (enc := rowD) (x := (c0.1, c0.2.2)) (xs := st) (hu65_of hr) (fun _ => rfl) (fun _ => rfl) (by decide) decide_eq_true_iff))) (fun h => ?_) (fun h => dss_nil ?_))
    · refine dss_one (ds_ret (d := db false) (ev de_bl) (.inl ?_))
      rw [Bool.not_eq_true'] at h
      rw [h]; rfl
    rw [Bool.not_eq_false'] at h
    rw [h, Bool.true_and]
    refine dss_cons (ds_for (asg := asgA 6) (fun i ρ cs => (List.range i).all (okAt L w sd (leastK br) ch) = true ∧ ∃ k a b c e, ρ = [.d (partsD L), .d (.tup [weaD w, rowsD st, rowsD br]), .d (di (sideI sd)), .d (chainD ch), .d (ds p), .d (.dic (leastK br)), k, .d (weaD w), .d (rowsD st), .d (rowsD br), a, b, c, e, .un] ∧ cs = []) PassesOwn.never rfl (ei (di_range (n := ch.length) (by omega) (by kernel_rfl) T.b_range (da_cons (de_len (by kernel_rfl) T.b_len (da_cons (de_name 3 rfl rfl (.inr (.inl (by kernel_rfl)))) da_nil) hLc) da_nil))) ⟨rfl, _, _, _, _, _, rfl, rfl⟩ (fun i d ρ cs hd iv => ⟨(dg_name 6 nd rfl (.inr (by kernel_rfl)) (.inl (by kernel_rfl))), ?_⟩) (fun ρ cs iv => ?_))
    · obtain ⟨hi, rfl⟩ := rng_get hd
      obtain ⟨hall, k, a, b, c, e, rfl, rfl⟩ := iv
      obtain ⟨r, hri⟩ : ∃ r, ch[i]? = some r := ⟨_, List.getElem?_eq_getElem hi⟩
      have next : okAt L w sd (leastK br) ch i = true → (List.range (i + 1)).all (okAt L w sd (leastK br) ch) = true := fun h => by
        rw [List.range_succ, List.all_append, hall, List.all_cons, h]; rfl
      have stop : okAt L w sd (leastK br) ch i = false → (List.range ch.length).all (okAt L w sd (leastK br) ch) = false := fun h => by
        rw [List.all_eq_false]
        exact ⟨i, List.mem_range.mpr hi, by rw [h]; exact Bool.false_ne_true⟩
      show DSs _ _ [.d (partsD L), .d (.tup [weaD w, rowsD st, rowsD br]), .d (di (sideI sd)), .d (chainD ch), .d (ds p), .d (.dic (leastK br)), .d (di (i : Int)), .d (weaD w), .d (rowsD st), .d (rowsD br), a, b, c, e, .un] [] _
      refine dss_cons (ds_asg (d := chD r) (asg := asg3 10 11 12 (chD r)) (ev (de_ix (de_name 3 rfl rfl (.inr (.inl (by kernel_rfl)))) (de_name 6 rfl rfl (.inr (.inl (by kernel_rfl)))) (ix_l (atI_nat (getE chD hri))))) (dg_tup rfl (dgs_cons (dg_name 10 nd rfl (.inr (by kernel_rfl)) (.inl (by kernel_rfl))) (dgs_cons (dg_name 11 nd rfl (.inr (by kernel_rfl)) (.inl (by kernel_rfl))) (dgs_cons (dg_name 12 nd rfl (.inl (by kernel_rfl)) (.inr (by kernel_rfl))) dgs_nil)))) ?_)
      show DSs _ _ [.d (partsD L), .d (.tup [weaD w, rowsD st, rowsD br]), .d (di (sideI sd)), .d (chainD ch), .d (ds p), .d (.dic (leastK br)), .d (di (i : Int)), .d (weaD w), .d (rowsD st), .d (rowsD br), .d (ds r.1), .d (optS r.2.1), .d (di r.2.2), e, .un] [] _
      refine dss_cons (ds_if (ba := !ahead (leastK br) r.1 r.2.2) (et (DT.is (dt_and (dt_din hu (de_name 10 rfl rfl (.inr (.inl (by kernel_rfl)))) (de_name 5 rfl rfl (.inl (by kernel_rfl)))) (fun hs => (dw_and1 (dt_cmp (de_name 12 rfl rfl (.inl (by kernel_rfl))) (de_dget (i := (getK (leastK br) r.1).getD 0) hu (de_name 5 rfl rfl (.inl (by kernel_rfl))) (de_name 10 rfl rfl (.inr (.inl (by kernel_rfl)))) ?_) o_ge)))) (ahead_not _ _ _).symm)) (fun h => ?_) (fun h => dss_nil ?_))
      · cases q : getK (leastK br) r.1 with
        | none => rw [q] at hs; cases hs
        | some v => rfl
      · refine dss_one (ds_ret (d := db false) (ev de_bl) (.inl ?_))
        rw [Bool.not_eq_true'] at h
        rw [stop (by unfold okAt; rw [hri]; show (ahead _ _ _ && _) = false; rw [h]; rfl)]
      rw [Bool.not_eq_false'] at h
      refine dss_one (ds_if (ba := decide ((0 : Int) < (i : Int))) (et (dt_cmp (de_name 6 rfl rfl (.inr (.inl (by kernel_rfl)))) de_int o_gt)) (fun hk => ?_) (fun hk => dss_nil ⟨next ?_, _, _, _, _, _, rfl, rfl⟩))
      · have hk := of_decide_eq_true hk
        obtain ⟨q, hq⟩ : ∃ q, ch[i - 1]? = some q := ⟨_, List.getElem?_eq_getElem (by omega)⟩
        have hq1 : L2.atI (ch.map chD) ((i : Int) - 1) = some (chD q) := by
          rw [show ((i : Int) - 1) = ((i - 1 : Nat) : Int) from by omega]
          exact atI_nat (getE chD hq)
        have hq0 : 0 ≤ q.2.2 := h0 q (List.mem_of_getElem? hq)
        have eAt : okAt L w sd (leastK br) ch i = hopOk L w sd q r := by
          unfold okAt
          rw [hri, hq]
          show (ahead _ _ _ && (decide (i = 0) || hopOk L w sd q r)) = _
          rw [h, Bool.true_and, decide_eq_false (by omega), Bool.false_or]
        have eF : (((L.links.map linkD).filter (keepHop q r)).map fun d => d) = (L.links.filter (hopL q r)).map linkD := by
          rw [filt_map linkD (keepHop q r) (hopL q r) (fun _ => rfl), List.map_id']
        refine dss_cons (ds_setLcD (its := L.links.map linkD) (own := [("_law_link", 14)]) (asg := asgA 14) (keep := keepHop q r) (g := fun d => d) 13 rfl nd (di_tup (de_ix (de_name 0 rfl rfl (.inl (by kernel_rfl))) de_int (ix_l rfl))) (blkOk_by (by kernel_rfl)) (by rw [List.length_map]; exact small (m := 60) hll) (fun s H C cl fp i d hd => ?_) ?_ rfl (by kernel_rfl))
        · obtain ⟨l, hl, rfl⟩ := map_get hd
          exact ⟨(dg_name 14 nd rfl (.inl (by kernel_rfl)) (.inr (by kernel_rfl))), by simp [asgA], (dts_one (dt_and (dt_cmp (de_ix (d := ds l.name) (de_name 14 rfl rfl (.inl (by kernel_rfl))) de_int (ix_t rfl)) (de_name 11 rfl rfl (.inr (.inl (by kernel_rfl)))) o_eqSO) (fun _ => (dw_and (dt_cmp (de_ix (d := ds l.one) (de_name 14 rfl rfl (.inl (by kernel_rfl))) de_int (ix_t rfl)) (de_ix (d := ds q.1) (de_ix (d := chD q) (de_name 3 rfl rfl (.inr (.inl (by kernel_rfl)))) (de_bin (de_name 6 rfl rfl (.inr (.inl (by kernel_rfl)))) de_int (o_sub)) (ix_l hq1)) de_int (ix_t rfl)) o_eqS) (fun _ => (dw_and1 (dt_cmp (de_ix (d := ds l.other) (de_name 14 rfl rfl (.inl (by kernel_rfl))) de_int (ix_t rfl)) (de_name 10 rfl rfl (.inr (.inl (by kernel_rfl)))) o_eqS))))))), fun _ => (de_name 14 rfl rfl (.inl (by kernel_rfl)))⟩
        rw [eF]
        show DSs _ _ [.d (partsD L), .d (.tup [weaD w, rowsD st, rowsD br]), .d (di (sideI sd)), .d (chainD ch), .d (ds p), .d (.dic (leastK br)), .d (di (i : Int)), .d (weaD w), .d (rowsD st), .d (rowsD br), .d (ds r.1), .d (optS r.2.1), .d (di r.2.2), .d (.lst ((L.links.filter (hopL q r)).map linkD)), .un] [] _
        cases hf : L.links.filter (hopL q r) with
        | nil =>
          refine dss_one (ds_if (ba := true) (et (dt_or (ba := true) (bb := true) (dt_cmp (de_len (by kernel_rfl) T.b_len (da_cons (de_name 13 rfl rfl (.inl (by kernel_rfl))) da_nil) (.l _)) de_int o_eqI) (fun h => by cases h))) (fun _ => ?_) (fun h => by cases h))
          refine dss_one (ds_ret (d := db false) (ev de_bl) (.inl ?_))
          rw [stop (by rw [eAt]; unfold hopOk; rw [hf])]
        | cons l ls =>
          have hlm : l ∈ L.links := (List.mem_filter.mp (by rw [hf]; exact List.mem_cons_self : l ∈ L.links.filter (hopL q r))).1
          have eH : okAt L w sd (leastK br) ch i = decide (caughtM L w (sideRow sd l) q.2.2 = some r.2.2) := by rw [eAt]; unfold hopOk; rw [hf]
          refine dss_one (ds_if (ba := !decide (caughtM L w (sideRow sd l) q.2.2 = some r.2.2)) (et (DT.is (dt_or (ba := false) (DT.is (dt_cmp (de_len (by kernel_rfl) T.b_len (da_cons (de_name 13 rfl rfl (.inl (by kernel_rfl))) da_nil) (.l _)) de_int o_eqI) (decide_eq_false (by rw [List.length_map, List.length_cons]; omega))) (fun _ => (dw_or1 (dt_cmp (de_call (ok_law_caught T) hr (by kernel_rfl) (da_cons (de_name 0 rfl rfl (.inl (by kernel_rfl))) (da_cons (de_name 7 rfl rfl (.inl (by kernel_rfl))) (da_cons (de_ix (d := linkD l) (de_name 13 rfl rfl (.inl (by kernel_rfl))) de_int (ix_l (atI_nat (i := 0) rfl))) (da_cons (de_ix (d := di q.2.2) (de_ix (d := chD q) (de_name 3 rfl rfl (.inr (.inl (by kernel_rfl)))) (de_bin (de_name 6 rfl rfl (.inr (.inl (by kernel_rfl)))) de_int (o_sub)) (ix_l hq1)) de_int (ix_t rfl)) (da_cons (de_name 2 rfl rfl (.inl (by kernel_rfl))) da_nil))))) ⟨L, w, l, q.2.2, sd, rfl, o.wea, o.row l hlm, hq0, rfl⟩) (de_name 12 rfl rfl (.inl (by kernel_rfl))) o_neIO)))) (Bool.false_or _))) (fun h3 => ?_) (fun h3 => dss_nil ⟨next ?_, _, _, _, _, _, rfl, rfl⟩))
          · refine dss_one (ds_ret (d := db false) (ev de_bl) (.inl ?_))
            rw [Bool.not_eq_true'] at h3
            rw [stop (by rw [eH]; exact h3)]
          · rw [Bool.not_eq_false'] at h3
            rw [eH]; exact h3
      · have hk := of_decide_eq_false hk
        unfold okAt
        rw [hri]
        show (ahead _ _ _ && (decide (i = 0) || _)) = true
        rw [h, decide_eq_true (show i = 0 by omega)]; rfl
    · obtain ⟨hall, k, a, b, c, e, rfl, rfl⟩ := iv
      rw [rng_length] at hall
      rw [hall]
      exact dss_one (ds_ret (d := db true) (ev de_bl) (.inl rfl))
end Ef
set_option maxRecDepth 100000
set_option maxHeartbeats 4000000
/-! Hb: _law_right, _law_text. -/
namespace Ef
open PySem L2 C8 RZ PyProof.Rows PySem.Spec PySem.W TL
variable {P : Program} {w : World} {K : PySem.W.Frag} {mg : Str → Option Value} {base : Heap}
def lawRightM (L : LandM) (w : Wea) (st br : Rows) (p : Str) (t : Told) : Bool :=
  if t.word = "surely" then t.labels.isEmpty && lawChainM L w st br true t.chain p
  else if t.word = "never" then t.chain.isEmpty && lawClosedM L w st br false t.labels p
  else lawClosedM L w st br true t.labels p && lawChainM L w st br false t.chain p
theorem len0 {α : Type} (xs : List α) : decide ((xs.length : Int) = 0) = xs.isEmpty := by
  cases xs with
  | nil => rfl
  | cons x xs => exact decide_eq_false (by rw [List.length_cons]; omega)
def R_law_right (ds' : List D) (d : D) : Prop := ∃ (L : LandM) (w : Wea) (st br : Rows) (p : Str) (t : Told), ds' = [partsD L, .tup [weaD w, rowsD st, rowsD br], ds p, toldD t] ∧ (∀ s, FireOk L w s) ∧ t.labels.length ≤ 1000 ∧ t.chain.length ≤ 1000 ∧ br.length ≤ 1000 ∧ L.links.length ≤ 60 ∧ (∀ r ∈ t.labels, 0 ≤ r.2) ∧ (∀ r ∈ t.chain, 0 ≤ r.2.2) ∧ d = db (lawRightM L w st br p t)
theorem ok_law_right (T : Tx K mg) : Cal P w K mg base 4 "_law_right" (spD K R_law_right) [] := by
  refine calD T.f__law_right sc__law_right (fun ds d ⟨L, w, st, br, p, t, e, _⟩ => by rw [e]; rfl) (fun _ _ _ _ _ _ us hl => match us, hl with | [_, _, _, _], _ => rfl) ?_
  rintro cdv f A outer s H E _ _ ⟨L, w, st, br, p, t, rfl, o, hl, hc, hb, hll, h1, h2, rfl⟩ hr
  have nd := (sc__law_right).nd
  have hLl : LenD (rowsD t.labels) t.labels.length := by have h := LenD.l (t.labels.map rowD); rwa [List.length_map] at h
  have hLc : LenD (chainD t.chain) t.chain.length := by have h := LenD.l (t.chain.map chD); rwa [List.length_map] at h
  show DSs _ (defBody s__law_right) [.d (partsD L), .d (.tup [weaD w, rowsD st, rowsD br]), .d (ds p), .d (toldD t), .un, .un, .un] [] _
  refine dss_cons (ds_asg (d := toldD t) (asg := asg3 4 5 6 (toldD t)) (ev (de_name 3 rfl rfl (.inl (by kernel_rfl)))) (dg_tup rfl (dgs_cons (dg_name 4 nd rfl (.inl (by kernel_rfl)) (.inr (by kernel_rfl))) (dgs_cons (dg_name 5 nd rfl (.inl (by kernel_rfl)) (.inr (by kernel_rfl))) (dgs_cons (dg_name 6 nd rfl (.inl (by kernel_rfl)) (.inr (by kernel_rfl))) dgs_nil)))) ?_)
  show DSs _ _ [.d (partsD L), .d (.tup [weaD w, rowsD st, rowsD br]), .d (ds p), .d (toldD t), .d (ds t.word), .d (rowsD t.labels), .d (chainD t.chain)] [] _
  refine dss_cons (ds_if (ba := decide (t.word = "surely")) (et (dt_cmp (de_name 4 rfl rfl (.inl (by kernel_rfl))) de_str o_eqS)) (fun h => ?_) (fun h => dss_nil ?_))
  · have e : lawRightM L w st br p t = (t.labels.isEmpty && lawChainM L w st br true t.chain p) := if_pos (of_decide_eq_true h)
    rw [e]
    exact dss_one (ds_ret (ev (de_and (DE.is (de_cmp (de_len (by kernel_rfl) T.b_len (da_cons (de_name 5 rfl rfl (.inl (by kernel_rfl))) da_nil) hLl) de_int o_eqI) (congrArg db (len0 t.labels))) (fun _ => (de_one (de_call (ok_law_chain T) hr (by kernel_rfl) (da_cons (de_name 0 rfl rfl (.inl (by kernel_rfl))) (da_cons (de_name 1 rfl rfl (.inl (by kernel_rfl))) (da_cons de_int (da_cons (de_name 6 rfl rfl (.inl (by kernel_rfl))) (da_cons (de_name 2 rfl rfl (.inl (by kernel_rfl))) da_nil))))) ⟨L, w, st, br, true, t.chain, p, rfl, o true, hc, hb, hll, h2, rfl⟩))))) (.inl rfl))
  have n1 := of_decide_eq_false h
  refine dss_cons (ds_if (ba := decide (t.word = "never")) (et (dt_cmp (de_name 4 rfl rfl (.inl (by kernel_rfl))) de_str o_eqS)) (fun h => ?_) (fun h => dss_nil ?_))
  · have e : lawRightM L w st br p t = (t.chain.isEmpty && lawClosedM L w st br false t.labels p) := by unfold lawRightM; rw [if_neg n1, if_pos (of_decide_eq_true h)]
    rw [e]
    exact dss_one (ds_ret (ev (de_and (DE.is (de_cmp (de_len (by kernel_rfl) T.b_len (da_cons (de_name 6 rfl rfl (.inl (by kernel_rfl))) da_nil) hLc) de_int o_eqI) (congrArg db (len0 t.chain))) (fun _ => (de_one (de_call (ok_law_closed T) hr (by kernel_rfl) (da_cons (de_name 0 rfl rfl (.inl (by kernel_rfl))) (da_cons (de_name 1 rfl rfl (.inl (by kernel_rfl))) (da_cons de_int (da_cons (de_name 5 rfl rfl (.inl (by kernel_rfl))) (da_cons (de_name 2 rfl rfl (.inl (by kernel_rfl))) da_nil))))) ⟨L, w, st, br, false, t.labels, p, rfl, o false, hl, hb, h1, rfl⟩))))) (.inl rfl))
  have n2 := of_decide_eq_false h
  have e : lawRightM L w st br p t = (lawClosedM L w st br true t.labels p && lawChainM L w st br false t.chain p) := by unfold lawRightM; rw [if_neg n1, if_neg n2]
  rw [e]
  exact dss_one (ds_ret (ev (de_and (de_call (ok_law_closed T) hr (by kernel_rfl) (da_cons (de_name 0 rfl rfl (.inl (by kernel_rfl))) (da_cons (de_name 1 rfl rfl (.inl (by kernel_rfl))) (da_cons de_int (da_cons (de_name 5 rfl rfl (.inl (by kernel_rfl))) (da_cons (de_name 2 rfl rfl (.inl (by kernel_rfl))) da_nil))))) ⟨L, w, st, br, true, t.labels, p, rfl, o true, hl, hb, h1, rfl⟩) (fun _ => (de_one (de_call (ok_law_chain T) hr (by kernel_rfl) (da_cons (de_name 0 rfl rfl (.inl (by kernel_rfl))) (da_cons (de_name 1 rfl rfl (.inl (by kernel_rfl))) (da_cons de_int (da_cons (de_name 6 rfl rfl (.inl (by kernel_rfl))) (da_cons (de_name 2 rfl rfl (.inl (by kernel_rfl))) da_nil))))) ⟨L, w, st, br, false, t.chain, p, rfl, o false, hc, hb, hll, h2, rfl⟩))))) (.inl rfl))
/-! ### _law_text -/
def gLab2 : D → D := gLab
def R_law_text (ds' : List D) (d : D) : Prop := ∃ t : Told, ds' = [toldD t] ∧ TextOk t ∧ d = ds (textM t)
theorem lab_add (r : Str × Int) : ((("label " : Str) ++ r.1) ++ " ") ++ numS r.2 = lineM (labLine r) := by
  rw [← line_lab r]
  show _ = ((Str.empty ++ "label ") ++ r.1) ++ " " ++ numS r.2
  rw [Str.empty_append]
theorem cat_add (r : RowC) : ((((("catch " : Str) ++ r.1) ++ " ") ++ r.2.1.getD "-") ++ " ") ++ numS r.2.2 = lineM (catLine r) := by
  rw [← line_cat r]
  show _ = ((((Str.empty ++ "catch ") ++ r.1) ++ " ") ++ r.2.1.getD "-") ++ " " ++ numS r.2.2
  rw [Str.empty_append]
theorem ok_law_text (T : Tx K mg) : Cal P w K mg base 1 "_law_text" (spD K R_law_text) [] := by
  refine calD T.f__law_text sc__law_text (fun ds d ⟨L, e, _⟩ => by rw [e]; rfl) (fun _ _ _ _ _ _ us hl => match us, hl with | [_], _ => rfl) ?_
  rintro cdv f A outer s H E _ _ ⟨t, rfl, ht, rfl⟩ hr
  have nd := (sc__law_text).nd
  have hsz : (200002 : Nat) ≤ sizeLine := by decide
  show DSs _ (defBody s__law_text) [.d (toldD t), .un, .un, .un, .un, .un, .un] [] _
  have eL : [ds t.word] ++ (((t.labels.map rowD).filter fun _ => true).map gLab) = (t.word :: t.labels.map (fun r => lineM (labLine r))).map ds := by
    rw [filtT, List.map_map, List.map_cons, List.map_map]; rfl
  refine dss_cons (ds_setN 1 (d := .lst ([ds t.word] ++ (((t.labels.map rowD).filter fun _ => true).map gLab))) (en (dn_bin (DN.de (dn_lst (da_cons (de_ix (d := ds t.word) (de_name 0 rfl rfl (.inl (by kernel_rfl))) de_int (ix_t rfl)) da_nil))) (DN.de (dn_lc (its := t.labels.map rowD) (own := [("_law_row_here", 6)]) (asg := asgA 6) (keep := fun _ => true) (g := gLab) rfl nd (di_list (de_ix (d := rowsD t.labels) (de_name 0 rfl rfl (.inl (by kernel_rfl))) de_int (ix_t rfl))) (blkOk_by (by kernel_rfl)) ?_ (fun s H C cl fp i d hd => ?_))) (o_cat ?_))) ?_ nd rfl (.inl (by kernel_rfl)) (.inr (by kernel_rfl)))
  · rw [List.length_map]; exact small ht.ll
  · obtain ⟨p, m, hpm, rfl⟩ := rowD_get hd
    obtain ⟨h1, h2, h3⟩ := ht.lab (p, m) (List.mem_of_getElem? hpm)
    have hn : p.length ≤ 12 := (name_len h1).2
    have h6 : (numS m).length ≤ 6 := num_len h2 h3
    have l1 : ("label " : Str).length = 6 := by decide +kernel
    have l2 : (" " : Str).length = 1 := by decide +kernel
    refine ⟨(dg_name 6 nd rfl (.inl (by kernel_rfl)) (.inr (by kernel_rfl))), by simp [asgA], dts_nil, fun _ => ?_⟩
    refine DE.is (de_bin (d := ds (((("label " : Str) ++ p) ++ " ") ++ numS m)) (de_bin (de_bin de_str (de_ix (d := ds p) (de_name 6 rfl rfl (.inl (by kernel_rfl))) de_int (ix_t rfl)) (o_addS ?_)) de_str (o_addS ?_)) (de_strI (log_small h2 h3) (by kernel_rfl) T.b_str (da_cons (de_ix (d := di m) (de_name 6 rfl rfl (.inl (by kernel_rfl))) de_int (ix_t rfl)) da_nil)) (o_addS ?_)) (congrArg ds (lab_add (p, m)))
    · rw [l1]; omega
    · rw [Str.length_append, l1, l2]; omega
    · rw [Str.length_append, Str.length_append, l1, l2]
      show _ + (numS m).length ≤ _
      omega
  · rw [List.length_map, filtT, List.length_map]; show 1 + _ ≤ _; have := ht.ll; omega
  rw [eL]
  show DSs _ _ [.d (toldD t), .c 0, .un, .un, .un, .un, .un] [.dat (.lst ((t.word :: t.labels.map (fun r => lineM (labLine r))).map ds))] _
  refine dss_cons (ds_for (asg := asg3 2 3 4) (its := t.chain.map chD) (fun i ρ cs => ∃ x y z u, ρ = [.d (toldD t), .c 0, x, y, z, u, .un] ∧ cs = [.dat (.lst ((t.word :: (t.labels.map (fun r => lineM (labLine r)) ++ (t.chain.take i).map (fun r => lineM (catLine r)))).map ds))]) PassesOwn.never rfl (ei (di_list (de_ix (d := chainD t.chain) (de_name 0 rfl rfl (.inl (by kernel_rfl))) de_int (ix_t rfl)))) ⟨_, _, _, _, rfl, by rw [List.take_zero, List.map_nil, List.append_nil]⟩ (fun i d ρ cs hd iv => ?_) (fun ρ cs iv => ?_))
  · obtain ⟨x, y, z, u, rfl, rfl⟩ := iv
    obtain ⟨⟨p, n, m⟩, hr', rfl⟩ := map_get hd
    obtain ⟨h1, h2, h3, h4⟩ := ht.ch (p, n, m) (List.mem_of_getElem? hr')
    have hp : p.length ≤ 12 := (name_len h1).2
    have h6 : (numS m).length ≤ 6 := num_len h3 h4
    have hnn : (n.getD "-").length ≤ 12 := by
      cases n with
      | none => decide
      | some n => exact (name_len (h2 n rfl)).2
    have l1 : ("catch " : Str).length = 6 := by decide +kernel
    have l2 : (" " : Str).length = 1 := by decide +kernel
    refine ⟨(dg_tup rfl (dgs_cons (dg_name 2 nd rfl (.inl (by kernel_rfl)) (.inr (by kernel_rfl))) (dgs_cons (dg_name 3 nd rfl (.inl (by kernel_rfl)) (.inr (by kernel_rfl))) (dgs_cons (dg_name 4 nd rfl (.inl (by kernel_rfl)) (.inr (by kernel_rfl))) dgs_nil)))), ?_⟩
    show DSs _ _ [.d (toldD t), .c 0, .d (ds p), .d (optS n), .d (di m), u, .un] _ _
    refine dss_cons (ds_set 5 (d := optS n) (ev (de_name 3 rfl rfl (.inl (by kernel_rfl)))) ?_ nd rfl (.inl (by kernel_rfl)) (.inr (by kernel_rfl)))
    show DSs _ _ [.d (toldD t), .c 0, .d (ds p), .d (optS n), .d (di m), .d (optS n), .un] [.dat (.lst ((t.word :: (t.labels.map (fun r => lineM (labLine r)) ++ (t.chain.take i).map (fun r => lineM (catLine r)))).map ds))] _
    refine dss_mid (fun ρ cs => ρ = [.d (toldD t), .c 0, .d (ds p), .d (optS n), .d (di m), .d (ds (n.getD "-")), .un] ∧ cs = [.dat (.lst ((t.word :: (t.labels.map (fun r => lineM (labLine r)) ++ (t.chain.take i).map (fun r => lineM (catLine r)))).map ds))]) (ds_if (ba := !n.isSome) (et (DT.is (dt_cmp (de_name 3 rfl rfl (.inl (by kernel_rfl))) de_non o_isN) (isN_optS n))) (fun h => ?_) (fun h => ?_)) (fun ρ cs q => ?_)
    · cases n with
      | none => exact dss_one (ds_set 5 (ev de_str) ⟨rfl, rfl⟩ nd rfl (.inl (by kernel_rfl)) (.inr (by kernel_rfl)))
      | some n => cases h
    · cases n with
      | none => cases h
      | some n => exact dss_nil ⟨rfl, rfl⟩
    obtain ⟨rfl, rfl⟩ := q
    refine dss_one (ds_append 1 rfl rfl (d := ds (lineM (catLine (p, n, m)))) (ev (DE.is (de_bin (d := ds ((((((("catch " : Str) ++ p) ++ " ") ++ n.getD "-") ++ " ")) ++ numS m)) (de_bin (de_bin (de_bin (de_bin de_str (de_name 2 rfl rfl (.inl (by kernel_rfl))) (o_addS ?_)) de_str (o_addS ?_)) (de_name 5 rfl rfl (.inl (by kernel_rfl))) (o_addS ?_)) de_str (o_addS ?_)) (de_strI (log_small h3 h4) (by kernel_rfl) T.b_str (da_cons (de_name 4 rfl rfl (.inl (by kernel_rfl))) da_nil)) (o_addS ?_)) (congrArg ds (cat_add (p, n, m))))) ?_ ⟨_, _, _, _, rfl, ?_⟩ rfl (.inl (by kernel_rfl)))
    · rw [l1]; omega
    · rw [Str.length_append, l1, l2]; omega
    · rw [Str.length_append, Str.length_append, l1, l2]; omega
    · rw [Str.length_append, Str.length_append, Str.length_append, l1, l2]; omega
    · rw [Str.length_append, Str.length_append, Str.length_append, Str.length_append, l1, l2]
      show _ + (numS m).length ≤ _
      omega
    · rw [List.length_map, List.length_cons, List.length_append, List.length_map, List.length_map, List.length_take]
      have := ht.ll; have := ht.cl
      exact small (m := 2001) (by omega)
    · have e : t.word :: (t.labels.map (fun r => lineM (labLine r)) ++ (t.chain.take i ++ [(p, n, m)]).map (fun r => lineM (catLine r))) = (t.word :: (t.labels.map (fun r => lineM (labLine r)) ++ (t.chain.take i).map (fun r => lineM (catLine r)))) ++ [lineM (catLine (p, n, m))] := by
        rw [List.map_append, ← List.append_assoc]; rfl
      rw [take_filter_succ hr', e, List.map_append]; rfl
  · obtain ⟨x, y, z, u, rfl, rfl⟩ := iv
    rw [List.length_map, List.take_length]
    refine dss_one (ds_ret (d := ds (textM t)) (evh (DE.is (de_join (ys := t.word :: (t.labels.map (fun r => lineM (labLine r)) ++ t.chain.map (fun r => lineM (catLine r)))) ?_ de_str (de_name 1 rfl rfl (.inl (by kernel_rfl)))) (by rw [text_join]))) (.inl rfl))
    have h1 : ∀ z ∈ t.word :: (t.labels.map (fun r => lineM (labLine r)) ++ t.chain.map (fun r => lineM (catLine r))), z.length ≤ 52 := by
      intro z hz
      have hwl := words_len ht
      rcases List.mem_cons.mp hz with rfl | hz
      · have := (hwl [t.word] List.mem_cons_self).2 t.word (by simp); omega
      · rcases List.mem_append.mp hz with hz | hz
        · obtain ⟨r, hr, rfl⟩ := List.mem_map.mp hz
          have := hwl (labLine r) (List.mem_cons_of_mem _ (List.mem_append_left _ (List.mem_map_of_mem hr)))
          exact line_len this.1 this.2
        · obtain ⟨r, hr, rfl⟩ := List.mem_map.mp hz
          have := hwl (catLine r) (List.mem_cons_of_mem _ (List.mem_append_right _ (List.mem_map_of_mem hr)))
          exact line_len this.1 this.2
    have h2 := sum_le (f := fun x : Str => x.length) h1
    have h3 : (t.word :: (t.labels.map (fun r => lineM (labLine r)) ++ t.chain.map (fun r => lineM (catLine r)))).length ≤ 2001 := by
      rw [List.length_cons, List.length_append, List.length_map, List.length_map]
      have := ht.ll; have := ht.cl
      omega
    have h4 : ("\n" : Str).length = 1 := rfl
    rw [h4]
    omega
end Ef
set_option maxRecDepth 100000
set_option maxHeartbeats 4000000
/-! Hc: _law_spoilt. -/
namespace Ef
open PySem L2 C8 RZ PyProof.Rows PySem.Spec PySem.W TL
variable {P : Program} {w : World} {K : PySem.W.Frag} {mg : Str → Option Value} {base : Heap}
def words3 : List Str := ["never", "maybe", "surely"]
def otherS (L : LandM) (n : Int) : Str := nthS (L.places ++ [("zz" : Str)]) (n % ((L.places.length : Int) + 1))
def moreL (c : Int) (lab : Str × Int) (o : Str) (n : Int) : Rows :=
  if c = 1 then [] else if c = 2 then [(lab.1, if lab.2 - 1 > 0 then lab.2 - 1 else 0)] else if c = 3 then [(lab.1, lab.2 + 1)] else [lab, (o, n % 20)]
def nameAt (L : LandM) (n : Int) : Option Str := ((L.links.map fun l => some l.name) ++ [none, some ("zz" : Str)])[(n % ((L.links.length : Int) + 2)).toNat]?.join
def changedC (L : LandM) (c n : Int) (r : RowC) : RowC :=
  if c % 2 = 0 then (r.1, r.2.1, if r.2.2 + (if n % 2 = 0 then 1 else -1) > 0 then r.2.2 + (if n % 2 = 0 then 1 else -1) else 0) else (r.1, nameAt L n, r.2.2)
/-- the paper spoilt by the choice c, the number n, the place a -/
def spoiltM (L : LandM) (t : Told) (c n a : Int) : Told :=
  if c = 0 then ⟨nthS words3 (n % 3), t.labels, t.chain⟩
  else if c < 5 ∧ t.labels ≠ [] then
    ⟨t.word, t.labels.take (a % t.labels.length).toNat ++ moreL c ((t.labels[(a % t.labels.length).toNat]?).getD ("", 0)) (otherS L n) n ++ t.labels.drop ((a % t.labels.length).toNat + 1), t.chain⟩
  else if c = 5 then ⟨t.word, t.labels ++ [(otherS L n, n % 9)], t.chain⟩
  else if t.chain = [] ∨ 9 < c then ⟨t.word, t.labels.reverse, t.chain⟩
  else if c = 6 then ⟨t.word, t.labels, t.chain.take (a % t.chain.length).toNat ++ t.chain.drop ((a % t.chain.length).toNat + 1)⟩
  else if c = 7 then ⟨t.word, t.labels, t.chain.take ((a % t.chain.length).toNat + 1) ++ t.chain.drop (a % t.chain.length).toNat⟩
  else ⟨t.word, t.labels, t.chain.take (a % t.chain.length).toNat ++ [changedC L c n ((t.chain[(a % t.chain.length).toNat]?).getD ("", none, 0))] ++ t.chain.drop ((a % t.chain.length).toNat + 1)⟩
def spoiltP (N : List Int) (t : Told) : Told := spoiltM (landP N) t (nth N 160 % 11) (nth N 161) (nth N 162)
def R_law_spoilt (ds' : List D) (d : D) : Prop := ∃ (N : List Int) (t : Told), ds' = [partsD (landP N), toldD t, .lst (N.map di)] ∧ NumOk N ∧ t.labels.length ≤ 100 ∧ t.chain.length ≤ 900 ∧ d = toldD (spoiltP N t)
theorem list_at {α : Type} {f : α → D} {xs : List α} {i : Int} (z : α) (h0 : 0 ≤ i) (h : i < (xs.length : Int)) : L2.atI (xs.map f) i = some (f ((xs[i.toNat]?).getD z)) := by
  have e : i = ((i.toNat : Nat) : Int) := by omega
  have hl : i.toNat < xs.length := by omega
  rw [e]
  refine atI_nat ?_
  rw [Int.toNat_natCast, List.getElem?_map, List.getElem?_eq_getElem hl]; rfl
theorem ok_law_spoilt (T : Tx K mg) : Cal P w K mg base 1 "_law_spoilt" (spD K R_law_spoilt) [] := by
  refine calD T.f__law_spoilt sc__law_spoilt (fun ds d ⟨N, t, e, _⟩ => by rw [e]; rfl) (fun _ _ _ _ _ _ us hl => match us, hl with | [_, _, _], _ => rfl) ?_
  rintro cdv f A outer s H E _ _ ⟨N, t, rfl, hN, hl, hc, rfl⟩ hr
  have nd := (sc__law_spoilt).nd
  have pl := places_len hN
  have hLl : LenD (rowsD t.labels) t.labels.length := by have h := LenD.l (t.labels.map rowD); rwa [List.length_map] at h
  have hLc : LenD (chainD t.chain) t.chain.length := by have h := LenD.l (t.chain.map chD); rwa [List.length_map] at h
  have n0 := nth_ok hN 160
  have n1 := nth_ok hN 161
  have n2 := nth_ok hN 162
  unfold spoiltP
  show DSs _ (defBody s__law_spoilt) [.d (partsD (landP N)), .d (toldD t), .d (.lst (N.map di)), .un, .un, .un, .un, .un, .un, .un, .un, .un, .un, .un, .un, .un, .un] [] _
  refine dss_cons (ds_asg (d := toldD t) (asg := asg3 9 10 11 (toldD t)) (ev (de_name 1 rfl rfl (.inl (by kernel_rfl)))) (dg_tup rfl (dgs_cons (dg_name 9 nd rfl (.inl (by kernel_rfl)) (.inr (by kernel_rfl))) (dgs_cons (dg_name 10 nd rfl (.inl (by kernel_rfl)) (.inr (by kernel_rfl))) (dgs_cons (dg_name 11 nd rfl (.inl (by kernel_rfl)) (.inr (by kernel_rfl))) dgs_nil)))) ?_)
  refine dss_cons (ds_set 3 (d := di (nth N 160 % 11)) (ev (de_bin (de_int1 (by kernel_rfl) T.b_int (da_cons (de_ix (de_name 2 rfl rfl (.inl (by kernel_rfl))) de_int (ix_l (num_at hN 160 rfl (by decide)))) da_nil)) de_int (o_mod (by decide)))) ?_ nd rfl (.inl (by kernel_rfl)) (.inr (by kernel_rfl)))
  refine dss_cons (ds_set 4 (d := di (nth N 161)) (ev (de_int1 (by kernel_rfl) T.b_int (da_cons (de_ix (de_name 2 rfl rfl (.inl (by kernel_rfl))) de_int (ix_l (num_at hN 161 rfl (by decide)))) da_nil))) ?_ nd rfl (.inl (by kernel_rfl)) (.inr (by kernel_rfl)))
  have h161 : 0 ≤ nth N 161 % ((placesP N).length + 1 : Int) ∧ nth N 161 % ((placesP N).length + 1 : Int) < ((placesP N ++ [("zz" : Str)]).length : Int) := by
    rw [List.length_append]
    exact ⟨Int.emod_nonneg _ (by omega), Int.emod_lt_of_pos _ (by omega)⟩
  refine dss_cons (ds_set 5 (d := ds (otherS (landP N) (nth N 161))) (ev (de_ix (da := .lst ((placesP N ++ [("zz" : Str)]).map ds)) (DE.is (DN.de (dn_bin (DN.de (dn_list (by kernel_rfl) T.b_list (da_cons (de_ix (d := .tup ((placesP N).map ds)) (de_name 0 rfl rfl (.inl (by kernel_rfl))) de_int (ix_l rfl)) da_nil) (.t _))) (DN.de (dn_lst (da_cons de_str da_nil))) (o_cat ?_))) (by rw [List.map_append]; rfl)) (de_bin (de_name 4 rfl rfl (.inl (by kernel_rfl))) (de_bin (de_len (by kernel_rfl) T.b_len (da_cons (de_ix (d := .tup ((placesP N).map ds)) (de_name 0 rfl rfl (.inl (by kernel_rfl))) de_int (ix_l rfl)) da_nil) (lenP N)) de_int (o_add)) (o_mod (by omega))) (ix_l (str_at h161.1 h161.2)))) ?_ nd rfl (.inl (by kernel_rfl)) (.inr (by kernel_rfl)))
  · rw [List.length_map]; show _ + 1 ≤ _; have := small (n := 8) (m := 8) (by omega); omega
  have c0 : 0 ≤ nth N 160 % 11 ∧ nth N 160 % 11 < 11 := by omega
  generalize nth N 160 % 11 = c at *
  show DSs _ _ [.d (partsD (landP N)), .d (toldD t), .d (.lst (N.map di)), .d (di c), .d (di (nth N 161)), .d (ds (otherS (landP N) (nth N 161))), .un, .un, .un, .d (ds t.word), .d (rowsD t.labels), .d (chainD t.chain), .un, .un, .un, .un, .un] [] _
  refine dss_cons (ds_if (ba := decide (c = 0)) (et (dt_cmp (de_name 3 rfl rfl (.inl (by kernel_rfl))) de_int o_eqI)) (fun h => ?_) (fun h => dss_nil ?_))
  · have e : spoiltM (landP N) t c (nth N 161) (nth N 162) = ⟨nthS words3 (nth N 161 % 3), t.labels, t.chain⟩ := if_pos (of_decide_eq_true h)
    rw [e]
    exact dss_one (ds_ret (d := toldD ⟨nthS words3 (nth N 161 % 3), t.labels, t.chain⟩) (ev (de_tup (da_cons (de_ix (d := ds (nthS words3 (nth N 161 % 3))) (da := .lst (words3.map ds)) (DN.de (dn_lst (da_cons de_str (da_cons de_str (da_cons de_str da_nil))))) (de_bin (de_name 4 rfl rfl (.inl (by kernel_rfl))) de_int (o_mod (by decide))) (ix_l (str_at (by omega) (by show _ < (3 : Int); omega)))) (da_cons (de_name 10 rfl rfl (.inl (by kernel_rfl))) (da_cons (de_name 11 rfl rfl (.inl (by kernel_rfl))) da_nil))))) (.inl rfl))
  have d0 := of_decide_eq_false h
  have szl : (2000 : Nat) ≤ sizeLine := by decide
  refine dss_cons (ds_if (ba := decide (c < 5) && decide ((0 : Int) < (t.labels.length : Int))) (et (dt_and (dt_cmp (de_name 3 rfl rfl (.inl (by kernel_rfl))) de_int o_lt) (fun _ => (dw_and1 (dt_cmp (de_len (by kernel_rfl) T.b_len (da_cons (de_name 10 rfl rfl (.inl (by kernel_rfl))) da_nil) hLl) de_int o_gt))))) (fun h => ?_) (fun h => dss_nil ?_))
  · rw [Bool.and_eq_true_iff] at h
    have h5 := of_decide_eq_true h.1
    have hpos := of_decide_eq_true h.2
    have hne : t.labels ≠ [] := fun z => by rw [z] at hpos; exact absurd hpos (by decide)
    have e : spoiltM (landP N) t c (nth N 161) (nth N 162) = ⟨t.word, t.labels.take (nth N 162 % t.labels.length).toNat ++ moreL c ((t.labels[(nth N 162 % t.labels.length).toNat]?).getD ("", 0)) (otherS (landP N) (nth N 161)) (nth N 161) ++ t.labels.drop ((nth N 162 % t.labels.length).toNat + 1), t.chain⟩ := by
      unfold spoiltM
      rw [if_neg d0, if_pos ⟨h5, hne⟩]
    rw [e]
    have ha : 0 ≤ nth N 162 % (t.labels.length : Int) ∧ nth N 162 % (t.labels.length : Int) < (t.labels.length : Int) := ⟨Int.emod_nonneg _ (by omega), Int.emod_lt_of_pos _ hpos⟩
    refine dss_cons (ds_set 6 (d := di (nth N 162 % (t.labels.length : Int))) (ev (de_bin (de_int1 (by kernel_rfl) T.b_int (da_cons (de_ix (de_name 2 rfl rfl (.inl (by kernel_rfl))) de_int (ix_l (num_at hN 162 rfl (by decide)))) da_nil)) (de_len (by kernel_rfl) T.b_len (da_cons (de_name 10 rfl rfl (.inl (by kernel_rfl))) da_nil) hLl) (o_mod hpos))) ?_ nd rfl (.inl (by kernel_rfl)) (.inr (by kernel_rfl)))
    generalize nth N 162 % (t.labels.length : Int) = a at *
    have hlab := list_at (f := rowD) (xs := t.labels) ("", 0) ha.1 ha.2
    generalize (t.labels[a.toNat]?).getD ("", 0) = lab at *
    refine dss_cons (ds_asg (d := rowD lab) (asg := asg1 13 15 (rowD lab)) (ev (de_ix (de_name 10 rfl rfl (.inl (by kernel_rfl))) (de_name 6 rfl rfl (.inl (by kernel_rfl))) (ix_l hlab))) (dg_tup rfl (dgs_cons (dg_name 13 nd rfl (.inl (by kernel_rfl)) (.inr (by kernel_rfl))) (dgs_cons (dg_name 15 nd rfl (.inl (by kernel_rfl)) (.inr (by kernel_rfl))) dgs_nil))) ?_)
    refine dss_cons (ds_set 12 (d := rowsD (moreL c lab (otherS (landP N) (nth N 161)) (nth N 161))) (ev (de_ix (DN.de (dn_lst (da_cons (DN.de (dn_lst da_nil)) (da_cons (DN.de (dn_lst (da_cons (de_tup (da_cons (de_name 13 rfl rfl (.inl (by kernel_rfl))) (da_cons (de_max2 rfl (by kernel_rfl) T.b_max (da_cons de_int (da_cons (de_bin (de_name 15 rfl rfl (.inl (by kernel_rfl))) de_int (o_sub)) da_nil))) da_nil))) da_nil))) (da_cons (DN.de (dn_lst (da_cons (de_tup (da_cons (de_name 13 rfl rfl (.inl (by kernel_rfl))) (da_cons (de_bin (de_name 15 rfl rfl (.inl (by kernel_rfl))) de_int (o_add)) da_nil))) da_nil))) (da_cons (DN.de (dn_lst (da_cons (de_ix (de_name 10 rfl rfl (.inl (by kernel_rfl))) (de_name 6 rfl rfl (.inl (by kernel_rfl))) (ix_l hlab)) (da_cons (de_tup (da_cons (de_name 5 rfl rfl (.inl (by kernel_rfl))) (da_cons (de_bin (de_name 4 rfl rfl (.inl (by kernel_rfl))) de_int (o_mod (by decide))) da_nil))) da_nil)))) da_nil)))))) (de_bin (de_name 3 rfl rfl (.inl (by kernel_rfl))) de_int (o_sub)) (ix_l ?_))) ?_ nd rfl (.inl (by kernel_rfl)) (.inr (by kernel_rfl)))
    · rcases (by omega : c = 1 ∨ c = 2 ∨ c = 3 ∨ c = 4) with rfl | rfl | rfl | rfl <;> rfl
    have hm : (moreL c lab (otherS (landP N) (nth N 161)) (nth N 161)).length ≤ 2 := by
      unfold moreL
      repeat' split
      all_goals first | exact Nat.zero_le _ | exact Nat.le_refl _ | exact Nat.le_succ _
    generalize moreL c lab (otherS (landP N) (nth N 161)) (nth N 161) = more at *
    refine dss_one (ds_ret (d := toldD ⟨t.word, t.labels.take a.toNat ++ more ++ t.labels.drop (a.toNat + 1), t.chain⟩) (ev (de_tup (da_cons (de_name 9 rfl rfl (.inl (by kernel_rfl))) (da_cons (d := rowsD (t.labels.take a.toNat ++ more ++ t.labels.drop (a.toNat + 1))) (DE.is (DN.de (dn_bin (DN.de (dn_bin (DN.de (dn_slice (de_name 10 rfl rfl (.inl (by kernel_rfl))) do_none (do_some (de_name 6 rfl rfl (.inl (by kernel_rfl)))))) (de_name 12 rfl rfl (.inl (by kernel_rfl))) (o_cat ?_))) (DN.de (dn_slice (de_name 10 rfl rfl (.inl (by kernel_rfl))) (do_some (de_bin (de_name 6 rfl rfl (.inl (by kernel_rfl))) de_int (o_add))) do_none)) (o_cat ?_))) ?_) (da_cons (de_name 11 rfl rfl (.inl (by kernel_rfl))) da_nil))))) (.inl rfl))
    · rw [cutG_to _ ha.1, List.length_take, List.length_map, List.length_map]; omega
    · rw [cutG_to _ ha.1, cutG_from _ (by omega), List.length_append, List.length_take, List.length_map, List.length_map, List.length_drop, List.length_map]; omega
    · rw [cutG_to _ ha.1, cutG_from _ (by omega), show (a + 1).toNat = a.toNat + 1 from by omega]
      unfold rowsD
      rw [List.map_append, List.map_append, List.map_take, List.map_drop]
  have hno : ¬ (c < 5 ∧ t.labels ≠ []) := fun z => by
    have h5 : decide (c < 5) = true := decide_eq_true z.1
    have hp : 0 < t.labels.length := List.length_pos_iff.mpr z.2
    rw [h5, Bool.true_and, decide_eq_true (by omega : (0 : Int) < (t.labels.length : Int))] at h
    cases h
  refine dss_cons (ds_if (ba := decide (c = 5)) (et (dt_cmp (de_name 3 rfl rfl (.inl (by kernel_rfl))) de_int o_eqI)) (fun h5 => ?_) (fun h5 => dss_nil ?_))
  · have e : spoiltM (landP N) t c (nth N 161) (nth N 162) = ⟨t.word, t.labels ++ [(otherS (landP N) (nth N 161), nth N 161 % 9)], t.chain⟩ := by
      unfold spoiltM
      rw [if_neg d0, if_neg hno, if_pos (of_decide_eq_true h5)]
    rw [e]
    refine dss_one (ds_ret (d := toldD ⟨t.word, t.labels ++ [(otherS (landP N) (nth N 161), nth N 161 % 9)], t.chain⟩) (ev (de_tup (da_cons (de_name 9 rfl rfl (.inl (by kernel_rfl))) (da_cons (d := rowsD (t.labels ++ [(otherS (landP N) (nth N 161), nth N 161 % 9)])) (DE.is (DN.de (dn_bin (de_name 10 rfl rfl (.inl (by kernel_rfl))) (DN.de (dn_lst (da_cons (de_tup (da_cons (de_name 5 rfl rfl (.inl (by kernel_rfl))) (da_cons (de_bin (de_name 4 rfl rfl (.inl (by kernel_rfl))) de_int (o_mod (by decide))) da_nil))) da_nil))) (o_cat ?_))) ?_) (da_cons (de_name 11 rfl rfl (.inl (by kernel_rfl))) da_nil))))) (.inl rfl))
    · rw [List.length_map]; show _ + 1 ≤ _; omega
    · unfold rowsD; rw [List.map_append]; rfl
  have d5 := of_decide_eq_false h5
  refine dss_cons (ds_if (ba := t.chain.isEmpty || decide (9 < c)) (et (dt_or (DT.is (dt_cmp (de_len (by kernel_rfl) T.b_len (da_cons (de_name 11 rfl rfl (.inl (by kernel_rfl))) da_nil) hLc) de_int o_eqI) (len0 t.chain)) (fun _ => (dw_or1 (dt_cmp (de_name 3 rfl rfl (.inl (by kernel_rfl))) de_int o_gt))))) (fun h9 => ?_) (fun h9 => dss_nil ?_))
  · have hor : t.chain = [] ∨ 9 < c := by
      rw [Bool.or_eq_true_iff] at h9
      exact h9.imp List.isEmpty_iff.mp of_decide_eq_true
    have e : spoiltM (landP N) t c (nth N 161) (nth N 162) = ⟨t.word, t.labels.reverse, t.chain⟩ := by
      unfold spoiltM
      rw [if_neg d0, if_neg hno, if_neg d5, if_pos hor]
    rw [e]
    exact dss_one (ds_ret (d := toldD ⟨t.word, t.labels.reverse, t.chain⟩) (ev (de_tup (da_cons (de_name 9 rfl rfl (.inl (by kernel_rfl))) (da_cons (d := rowsD t.labels.reverse) (DE.is (DN.de (dn_rev (de_name 10 rfl rfl (.inl (by kernel_rfl))))) (by unfold rowsD; rw [List.map_reverse])) (da_cons (de_name 11 rfl rfl (.inl (by kernel_rfl))) da_nil))))) (.inl rfl))
  rw [Bool.or_eq_false_iff] at h9
  have hne : t.chain ≠ [] := fun z => by rw [z] at h9; cases h9.1
  have h9c := of_decide_eq_false h9.2
  have hor : ¬ (t.chain = [] ∨ 9 < c) := fun z => z.elim hne h9c
  have hpos : (0 : Int) < (t.chain.length : Int) := by have := List.length_pos_iff.mpr hne; omega
  have c68 : c = 6 ∨ c = 7 ∨ c = 8 ∨ c = 9 ∨ (c < 5 ∧ t.labels = []) := by
    by_cases z : c < 5
    · by_cases y : t.labels = []
      · exact .inr (.inr (.inr (.inr ⟨z, y⟩)))
      · exact absurd ⟨z, y⟩ hno
    · omega
  have ha : 0 ≤ nth N 162 % (t.chain.length : Int) ∧ nth N 162 % (t.chain.length : Int) < (t.chain.length : Int) := ⟨Int.emod_nonneg _ (by omega), Int.emod_lt_of_pos _ hpos⟩
  have eS : spoiltM (landP N) t c (nth N 161) (nth N 162) = if c = 6 then ⟨t.word, t.labels, t.chain.take (nth N 162 % t.chain.length).toNat ++ t.chain.drop ((nth N 162 % t.chain.length).toNat + 1)⟩
      else if c = 7 then ⟨t.word, t.labels, t.chain.take ((nth N 162 % t.chain.length).toNat + 1) ++ t.chain.drop (nth N 162 % t.chain.length).toNat⟩
      else ⟨t.word, t.labels, t.chain.take (nth N 162 % t.chain.length).toNat ++ [changedC (landP N) c (nth N 161) ((t.chain[(nth N 162 % t.chain.length).toNat]?).getD ("", none, 0))] ++ t.chain.drop ((nth N 162 % t.chain.length).toNat + 1)⟩ := by
    unfold spoiltM
    rw [if_neg d0, if_neg hno, if_neg d5, if_neg hor]
  rw [eS]
  refine dss_cons (ds_set 6 (d := di (nth N 162 % (t.chain.length : Int))) (ev (de_bin (de_int1 (by kernel_rfl) T.b_int (da_cons (de_ix (de_name 2 rfl rfl (.inl (by kernel_rfl))) de_int (ix_l (num_at hN 162 rfl (by decide)))) da_nil)) (de_len (by kernel_rfl) T.b_len (da_cons (de_name 11 rfl rfl (.inl (by kernel_rfl))) da_nil) hLc) (o_mod hpos))) ?_ nd rfl (.inl (by kernel_rfl)) (.inr (by kernel_rfl)))
  generalize nth N 162 % (t.chain.length : Int) = a at *
  have hlab := list_at (f := chD) (xs := t.chain) ("", none, 0) ha.1 ha.2
  generalize (t.chain[a.toNat]?).getD ("", none, 0) = r at *
  refine dss_cons (ds_asg (d := chD r) (asg := asg3 13 14 15 (chD r)) (ev (de_ix (de_name 11 rfl rfl (.inl (by kernel_rfl))) (de_name 6 rfl rfl (.inl (by kernel_rfl))) (ix_l hlab))) (dg_tup rfl (dgs_cons (dg_name 13 nd rfl (.inl (by kernel_rfl)) (.inr (by kernel_rfl))) (dgs_cons (dg_name 14 nd rfl (.inl (by kernel_rfl)) (.inr (by kernel_rfl))) (dgs_cons (dg_name 15 nd rfl (.inl (by kernel_rfl)) (.inr (by kernel_rfl))) dgs_nil)))) ?_)
  refine dss_cons (ds_if (ba := decide (c = 6)) (et (dt_cmp (de_name 3 rfl rfl (.inl (by kernel_rfl))) de_int o_eqI)) (fun h6 => ?_) (fun h6 => dss_nil ?_))
  · rw [if_pos (of_decide_eq_true h6)]
    refine dss_one (ds_ret (d := toldD ⟨t.word, t.labels, t.chain.take a.toNat ++ t.chain.drop (a.toNat + 1)⟩) (ev (de_tup (da_cons (de_name 9 rfl rfl (.inl (by kernel_rfl))) (da_cons (de_name 10 rfl rfl (.inl (by kernel_rfl))) (da_cons (d := chainD (t.chain.take a.toNat ++ t.chain.drop (a.toNat + 1))) (DE.is (DN.de (dn_bin (DN.de (dn_slice (de_name 11 rfl rfl (.inl (by kernel_rfl))) do_none (do_some (de_name 6 rfl rfl (.inl (by kernel_rfl)))))) (DN.de (dn_slice (de_name 11 rfl rfl (.inl (by kernel_rfl))) (do_some (de_bin (de_name 6 rfl rfl (.inl (by kernel_rfl))) de_int (o_add))) do_none)) (o_cat ?_))) ?_) da_nil))))) (.inl rfl))
    · rw [cutG_to _ ha.1, cutG_from _ (by omega), List.length_take, List.length_map, List.length_drop, List.length_map]; omega
    · rw [cutG_to _ ha.1, cutG_from _ (by omega), show (a + 1).toNat = a.toNat + 1 from by omega]
      unfold chainD
      rw [List.map_append, List.map_take, List.map_drop]
  have d6 := of_decide_eq_false h6
  rw [if_neg d6]
  refine dss_cons (ds_if (ba := decide (c = 7)) (et (dt_cmp (de_name 3 rfl rfl (.inl (by kernel_rfl))) de_int o_eqI)) (fun h7 => ?_) (fun h7 => dss_nil ?_))
  · rw [if_pos (of_decide_eq_true h7)]
    refine dss_one (ds_ret (d := toldD ⟨t.word, t.labels, t.chain.take (a.toNat + 1) ++ t.chain.drop a.toNat⟩) (ev (de_tup (da_cons (de_name 9 rfl rfl (.inl (by kernel_rfl))) (da_cons (de_name 10 rfl rfl (.inl (by kernel_rfl))) (da_cons (d := chainD (t.chain.take (a.toNat + 1) ++ t.chain.drop a.toNat)) (DE.is (DN.de (dn_bin (DN.de (dn_slice (de_name 11 rfl rfl (.inl (by kernel_rfl))) do_none (do_some (de_bin (de_name 6 rfl rfl (.inl (by kernel_rfl))) de_int (o_add))))) (DN.de (dn_slice (de_name 11 rfl rfl (.inl (by kernel_rfl))) (do_some (de_name 6 rfl rfl (.inl (by kernel_rfl)))) do_none)) (o_cat ?_))) ?_) da_nil))))) (.inl rfl))
    · rw [cutG_to _ (by omega), cutG_from _ ha.1, List.length_take, List.length_map, List.length_drop, List.length_map]; omega
    · rw [cutG_to _ (by omega), cutG_from _ ha.1, show (a + 1).toNat = a.toNat + 1 from by omega]
      unfold chainD
      rw [List.map_append, List.map_take, List.map_drop]
  have d7 := of_decide_eq_false h7
  rw [if_neg d7]
  have hl60 : (linksP N).length ≤ 10 := by unfold linksP; rw [List.length_map, List.length_range]; omega
  let ns : List (Option Str) := ((linksP N).map fun l => some l.name) ++ [none, some ("zz" : Str)]
  have hns : ns.length = (linksP N).length + 2 := by show (((linksP N).map fun l => some l.name) ++ [none, some ("zz" : Str)]).length = _; rw [List.length_append, List.length_map]; rfl
  have hLn : LenD (.lst (ns.map optS)) ns.length := by have h := LenD.l (ns.map optS); rwa [List.length_map] at h
  refine dss_cons (ds_set 7 (d := .lst (ns.map optS)) (ev (DE.is (DN.de (dn_bin (DN.de (dn_lc (its := (linksP N).map linkD) (own := [("_law_link", 16)]) (asg := asgA 16) (keep := fun _ => true) (g := fun d => match d with | .tup (x :: _) => x | d => d) rfl nd (di_tup (de_ix (de_name 0 rfl rfl (.inl (by kernel_rfl))) de_int (ix_l rfl))) (blkOk_by (by kernel_rfl)) (by rw [List.length_map]; exact small (m := 10) hl60) (fun s H C cl fp i d hd => ?_))) (DN.de (dn_lst (da_cons de_non (da_cons de_str da_nil)))) (o_cat ?_))) ?_)) ?_ nd rfl (.inl (by kernel_rfl)) (.inr (by kernel_rfl)))
  · obtain ⟨l, hl, rfl⟩ := map_get hd
    exact ⟨(dg_name 16 nd rfl (.inl (by kernel_rfl)) (.inr (by kernel_rfl))), by simp [asgA], dts_nil, fun _ => (de_ix (d := ds l.name) (de_name 16 rfl rfl (.inl (by kernel_rfl))) de_int (ix_t rfl))⟩
  · rw [filtT, List.length_map, List.length_map]; show _ + 2 ≤ _; omega
  · rw [filtT, List.map_map]
    show D.lst _ = D.lst (List.map optS (_ ++ _))
    rw [List.map_append, List.map_map]; rfl
  have hnp : (0 : Int) < (ns.length : Int) := by omega
  have hnm : 0 ≤ nth N 161 % (ns.length : Int) ∧ nth N 161 % (ns.length : Int) < (ns.length : Int) := ⟨Int.emod_nonneg _ (by omega), Int.emod_lt_of_pos _ hnp⟩
  have hna := list_at (f := optS) (xs := ns) none hnm.1 hnm.2
  have enm : (ns[(nth N 161 % (ns.length : Int)).toNat]?).getD none = nameAt (landP N) (nth N 161) := by
    unfold nameAt
    show _ = (ns[(nth N 161 % (((linksP N).length : Int) + 2)).toNat]?).join
    rw [hns]
    show _ = (ns[(nth N 161 % (((linksP N).length + 2 : Nat) : Int)).toNat]?).join
    cases ns[(nth N 161 % (((linksP N).length + 2 : Nat) : Int)).toNat]? <;> rfl
  rw [enm] at hna
  have hsg : L2.atI [di 1, di (-1)] (nth N 161 % 2) = some (di (if nth N 161 % 2 = 0 then 1 else -1)) := by
    rcases (by omega : nth N 161 % 2 = 0 ∨ nth N 161 % 2 = 1) with e | e <;> rw [e] <;> rfl
  have hch : ∀ x y : D, L2.atI [x, y] (c % 2) = some (if c % 2 = 0 then x else y) := fun x y => by
    rcases (by omega : c % 2 = 0 ∨ c % 2 = 1) with e | e <;> rw [e] <;> rfl
  refine dss_cons (ds_set 8 (d := chD (changedC (landP N) c (nth N 161) r)) (ev (DE.is (de_ix (DN.de (dn_lst (da_cons (de_tup (da_cons (de_name 13 rfl rfl (.inl (by kernel_rfl))) (da_cons (de_name 14 rfl rfl (.inl (by kernel_rfl))) (da_cons (de_max2 rfl (by kernel_rfl) T.b_max (da_cons de_int (da_cons (de_bin (de_name 15 rfl rfl (.inl (by kernel_rfl))) (de_ix (DN.de (dn_lst (da_cons de_int (da_cons (de_neg de_int) da_nil)))) (de_bin (de_name 4 rfl rfl (.inl (by kernel_rfl))) de_int (o_mod (by decide))) (ix_l hsg)) (o_add)) da_nil))) da_nil)))) (da_cons (de_tup (da_cons (de_name 13 rfl rfl (.inl (by kernel_rfl))) (da_cons (de_ix (d := optS (nameAt (landP N) (nth N 161))) (de_name 7 rfl rfl (.inl (by kernel_rfl))) (de_bin (de_name 4 rfl rfl (.inl (by kernel_rfl))) (de_len (by kernel_rfl) T.b_len (da_cons (de_name 7 rfl rfl (.inl (by kernel_rfl))) da_nil) hLn) (o_mod hnp)) (ix_l hna)) (da_cons (de_name 15 rfl rfl (.inl (by kernel_rfl))) da_nil)))) da_nil)))) (de_bin (de_name 3 rfl rfl (.inl (by kernel_rfl))) de_int (o_mod (by decide))) (ix_l (hch _ _))) ?_)) ?_ nd rfl (.inl (by kernel_rfl)) (.inr (by kernel_rfl)))
  · unfold changedC
    split <;> rfl
  refine dss_one (ds_ret (d := toldD ⟨t.word, t.labels, t.chain.take a.toNat ++ [changedC (landP N) c (nth N 161) r] ++ t.chain.drop (a.toNat + 1)⟩) (ev (de_tup (da_cons (de_name 9 rfl rfl (.inl (by kernel_rfl))) (da_cons (de_name 10 rfl rfl (.inl (by kernel_rfl))) (da_cons (d := chainD (t.chain.take a.toNat ++ [changedC (landP N) c (nth N 161) r] ++ t.chain.drop (a.toNat + 1))) (DE.is (DN.de (dn_bin (DN.de (dn_bin (DN.de (dn_slice (de_name 11 rfl rfl (.inl (by kernel_rfl))) do_none (do_some (de_name 6 rfl rfl (.inl (by kernel_rfl)))))) (DN.de (dn_lst (da_cons (de_name 8 rfl rfl (.inl (by kernel_rfl))) da_nil))) (o_cat ?_))) (DN.de (dn_slice (de_name 11 rfl rfl (.inl (by kernel_rfl))) (do_some (de_bin (de_name 6 rfl rfl (.inl (by kernel_rfl))) de_int (o_add))) do_none)) (o_cat ?_))) ?_) da_nil))))) (.inl rfl))
  · rw [cutG_to _ ha.1, List.length_take, List.length_map]; show _ + 1 ≤ _; omega
  · rw [cutG_to _ ha.1, cutG_from _ (by omega), List.length_append, List.length_take, List.length_map, List.length_drop, List.length_map]; show _ + 1 + _ ≤ _; omega
  · rw [cutG_to _ ha.1, cutG_from _ (by omega), show (a + 1).toNat = a.toNat + 1 from by omega]
    unfold chainD
    rw [List.map_append, List.map_append, List.map_take, List.map_drop]; rfl
end Ef
set_option maxRecDepth 100000
set_option maxHeartbeats 4000000
/-! Hd: the law. -/
namespace Ef
open PySem L2 C8 RZ PyProof.Rows PySem.Spec PySem.W TL
variable {P : Program} {w : World} {K : PySem.W.Frag} {mg : Str → Option Value} {base : Heap}
def stP (N : List Int) : Rows := rowsP N 120 (nth N 150 % 3).toNat 9
def brP (N : List Int) : Rows := rowsP N 130 (nth N 151 % 4).toNat 30
def plP (N : List Int) : Str := nthS (placesP N) (nth N 152 % ((placesP N).length : Int))
def fireP (N : List Int) (s : Bool) : DicF := fireM (landP N) (weaP N) (stP N) (brP N) s
def wordP (N : List Int) : Str := if (getK (fireP N false) (plP N)).isSome = true then (if (getK (fireP N true) (plP N)).isSome = true then "surely" else "maybe") else (if (getK (fireP N true) (plP N)).isSome = true then "maybe" else "never")
def toldP (N : List Int) : Told := paperM (landP N) (weaP N) (stP N) (brP N) (plP N)
def badP (N : List Int) : Told := spoiltP N (toldP N)
/-- what the walk of the law asks of the numbers -/
structure LawF (N : List Int) : Prop where
  num : NumOk N
  land : LandOk (landP N)
  q : Ok4 (landP N) (weaP N) (stP N) (brP N)
  fire : ∀ s, FireOk (landP N) (weaP N) s
  g1 : Good (landP N) (weaP N) (stP N) (brP N) (leastN (landP N))
  g2 : Good (landP N) (weaP N) (stP N) (brP N) (mostN (landP N))
  at_ : plP N ∈ placesP N
  nz : ("z" : Str) ∉ placesP N
  nY : ("Y" : Str) ∉ placesP N
  ll : (toldP N).labels.length ≤ 100
  cl : (toldP N).chain.length ≤ 900
  tt : TextOk (toldP N)
  tb : TextOk (badP N)
  word : (toldP N).word = wordP N
  right : lawRightM (landP N) (weaP N) (stP N) (brP N) (plP N) (toldP N) = true
  chk : checkM (landP N) (weaP N) (stP N) (brP N) (plP N) (toldP N) = true
  bad : checkM (landP N) (weaP N) (stP N) (brP N) (plP N) (badP N) = lawRightM (landP N) (weaP N) (stP N) (brP N) (plP N) (badP N)
def R_law (ds' : List D) (d : D) : Prop := ∃ sc : List Int, ds' = [.zst (sc.map di)] ∧ LawF (numbersM sc 170) ∧ d = db true
theorem rows_len (N : List Int) (a n : Nat) (m : Int) : (rowsP N a n m).length = n := by unfold rowsP; rw [List.length_map, List.length_range]
theorem ok_law (T : Tx K mg) (Z : Xx P K mg) {f : Addr} {fd : FuncData} (Fd : FunD K "law" "law" (defArgs s_law) (defBody s_law) (defScope s_law) [] [] f fd) : FnOk P w K mg base L2.CX0 9 f fd P_law (spD K R_law) := by
  refine def_D Fd sc_law (fun ds d ⟨L, e, _⟩ => by rw [e]; rfl) ?_
  rintro cdv A outer s H E _ _ ⟨sc, rfl, z, rfl⟩ hr
  have nd := (sc_law).nd
  have hu := hu_of hr
  have h150 := nth_ok z.num 150
  have h151 := nth_ok z.num 151
  have h152 := nth_ok z.num 152
  have hpl := places_len z.num
  have hsl : (stP (numbersM sc 170)).length ≤ 3 := by unfold stP; rw [rows_len]; omega
  have hbl : (brP (numbersM sc 170)).length ≤ 4 := by unfold brP; rw [rows_len]; omega
  have hpp : (0 : Int) < ((placesP (numbersM sc 170)).length : Int) := by omega
  have tN : TextOk ⟨"never", [], []⟩ := ⟨by simp [wordsOk], fun r h => (by cases h), fun r h => (by cases h), Nat.zero_le _, Nat.zero_le _⟩
  have tS : TextOk ⟨"surely", [], []⟩ := ⟨by simp [wordsOk], fun r h => (by cases h), fun r h => (by cases h), Nat.zero_le _, Nat.zero_le _⟩
  have hw3 : L2.atI [ds "never", ds "maybe", ds "surely"] ((if (getK (fireP (numbersM sc 170) false) (plP (numbersM sc 170))).isSome then 1 else 0) + (if (getK (fireP (numbersM sc 170) true) (plP (numbersM sc 170))).isSome then 1 else 0)) = some (ds (wordP (numbersM sc 170))) := by
    unfold wordP
    cases (getK (fireP (numbersM sc 170) false) (plP (numbersM sc 170))).isSome <;> cases (getK (fireP (numbersM sc 170) true) (plP (numbersM sc 170))).isSome <;> rfl
  show DSs _ (defBody s_law) [.d (.zst (sc.map di)), .un, .un, .un, .un, .un, .un, .un, .un, .un, .un, .un, .un, .un, .un, .un] [] _
  refine dss_cons (ds_set 1 (d := .lst ((numbersM sc 170).map di)) (ev (DN.de (dn_call (ok_law_numbers T) hr (by kernel_rfl) (da_cons (de_name 0 rfl rfl (.inl (by kernel_rfl))) (da_cons de_int da_nil)) ⟨sc, 170, rfl, by decide, rfl⟩))) ?_ nd rfl (.inl (by kernel_rfl)) (.inr (by kernel_rfl)))
  show DSs _ _ [.d (.zst (sc.map di)), .d (.lst ((numbersM sc 170).map di)), .un, .un, .un, .un, .un, .un, .un, .un, .un, .un, .un, .un, .un, .un] [] _
  generalize hN : numbersM sc 170 = N at *

  refine dss_cons (ds_set 2 (d := partsD (landP N)) (ev (DN.de (dn_call (ok_law_parts T) hr (by kernel_rfl) (da_cons (de_name 1 rfl rfl (.inl (by kernel_rfl))) (da_cons de_int da_nil)) ⟨N, rfl, z.num, rfl⟩))) ?_ nd rfl (.inl (by kernel_rfl)) (.inr (by kernel_rfl)))
  show DSs _ _ [.d (.zst (sc.map di)), .d (.lst (N.map di)), .d (partsD (landP N)), .un, .un, .un, .un, .un, .un, .un, .un, .un, .un, .un, .un, .un] [] _
  refine dss_cons (ds_set 3 (d := weaD (weaP N)) (ev (DN.de (dn_call (ok_law_weather T) hr (by kernel_rfl) (da_cons (de_name 1 rfl rfl (.inl (by kernel_rfl))) (da_cons de_int (da_cons (de_name 2 rfl rfl (.inl (by kernel_rfl))) da_nil))) ⟨N, rfl, z.num, rfl⟩))) ?_ nd rfl (.inl (by kernel_rfl)) (.inr (by kernel_rfl)))
  show DSs _ _ [.d (.zst (sc.map di)), .d (.lst (N.map di)), .d (partsD (landP N)), .d (weaD (weaP N)), .un, .un, .un, .un, .un, .un, .un, .un, .un, .un, .un, .un] [] _
  refine dss_cons (ds_set 4 (d := rowsD (stP N)) (ev (DN.de (dn_call (ok_law_rows T) hr (by kernel_rfl) (da_cons (de_name 1 rfl rfl (.inl (by kernel_rfl))) (da_cons de_int (da_cons (de_bin (de_int1 (by kernel_rfl) T.b_int (da_cons (de_ix (d := di (nth N 150)) (de_name 1 rfl rfl (.inl (by kernel_rfl))) de_int (ix_l (num_at z.num 150 rfl (by decide)))) da_nil)) de_int (o_mod (by decide))) (da_cons (de_name 2 rfl rfl (.inl (by kernel_rfl))) (da_cons de_int da_nil))))) ⟨N, 120, (nth N 150 % 3).toNat, 9, by rw [show (((nth N 150 % 3).toNat : Nat) : Int) = nth N 150 % 3 from Int.toNat_of_nonneg (by omega)]; rfl, z.num, by omega, by decide, by decide, rfl⟩))) ?_ nd rfl (.inl (by kernel_rfl)) (.inr (by kernel_rfl)))
  show DSs _ _ [.d (.zst (sc.map di)), .d (.lst (N.map di)), .d (partsD (landP N)), .d (weaD (weaP N)), .d (rowsD (stP N)), .un, .un, .un, .un, .un, .un, .un, .un, .un, .un, .un] [] _
  refine dss_cons (ds_set 5 (d := rowsD (brP N)) (ev (DN.de (dn_call (ok_law_rows T) hr (by kernel_rfl) (da_cons (de_name 1 rfl rfl (.inl (by kernel_rfl))) (da_cons de_int (da_cons (de_bin (de_int1 (by kernel_rfl) T.b_int (da_cons (de_ix (d := di (nth N 151)) (de_name 1 rfl rfl (.inl (by kernel_rfl))) de_int (ix_l (num_at z.num 151 rfl (by decide)))) da_nil)) de_int (o_mod (by decide))) (da_cons (de_name 2 rfl rfl (.inl (by kernel_rfl))) (da_cons de_int da_nil))))) ⟨N, 130, (nth N 151 % 4).toNat, 30, by rw [show (((nth N 151 % 4).toNat : Nat) : Int) = nth N 151 % 4 from Int.toNat_of_nonneg (by omega)]; rfl, z.num, by omega, by decide, by decide, rfl⟩))) ?_ nd rfl (.inl (by kernel_rfl)) (.inr (by kernel_rfl)))
  show DSs _ _ [.d (.zst (sc.map di)), .d (.lst (N.map di)), .d (partsD (landP N)), .d (weaD (weaP N)), .d (rowsD (stP N)), .d (rowsD (brP N)), .un, .un, .un, .un, .un, .un, .un, .un, .un, .un] [] _
  refine dss_cons (ds_set 6 (d := .tup [weaD (weaP N), rowsD (stP N), rowsD (brP N)]) (ev (de_tup (da_cons (de_name 3 rfl rfl (.inl (by kernel_rfl))) (da_cons (de_name 4 rfl rfl (.inl (by kernel_rfl))) (da_cons (de_name 5 rfl rfl (.inl (by kernel_rfl))) da_nil))))) ?_ nd rfl (.inl (by kernel_rfl)) (.inr (by kernel_rfl)))
  show DSs _ _ [.d (.zst (sc.map di)), .d (.lst (N.map di)), .d (partsD (landP N)), .d (weaD (weaP N)), .d (rowsD (stP N)), .d (rowsD (brP N)), .d (.tup [weaD (weaP N), rowsD (stP N), rowsD (brP N)]), .un, .un, .un, .un, .un, .un, .un, .un, .un] [] _
  refine dss_cons (ds_set 7 (d := ds (plP N)) (ev (de_ix (d := ds (plP N)) (de_ix (d := .tup ((placesP N).map ds)) (de_name 2 rfl rfl (.inl (by kernel_rfl))) de_int (ix_l rfl)) (de_bin (de_int1 (by kernel_rfl) T.b_int (da_cons (de_ix (d := di (nth N 152)) (de_name 1 rfl rfl (.inl (by kernel_rfl))) de_int (ix_l (num_at z.num 152 rfl (by decide)))) da_nil)) (de_len (by kernel_rfl) T.b_len (da_cons (de_ix (d := .tup ((placesP N).map ds)) (de_name 2 rfl rfl (.inl (by kernel_rfl))) de_int (ix_l rfl)) da_nil) (lenP N)) (o_mod hpp)) (ix_t (str_at (pmod z.num 152).1 (pmod z.num 152).2)))) ?_ nd rfl (.inl (by kernel_rfl)) (.inr (by kernel_rfl)))
  show DSs _ _ [.d (.zst (sc.map di)), .d (.lst (N.map di)), .d (partsD (landP N)), .d (weaD (weaP N)), .d (rowsD (stP N)), .d (rowsD (brP N)), .d (.tup [weaD (weaP N), rowsD (stP N), rowsD (brP N)]), .d (ds (plP N)), .un, .un, .un, .un, .un, .un, .un, .un] [] _
  refine dss_cons (ds_set 8 (d := landD (landP N)) (ev (DN.de (dn_call (ok_law_land T) hr (by kernel_rfl) (da_cons (de_name 2 rfl rfl (.inl (by kernel_rfl))) da_nil) ⟨landP N, rfl, z.land, rfl⟩))) ?_ nd rfl (.inl (by kernel_rfl)) (.inr (by kernel_rfl)))
  show DSs _ _ [.d (.zst (sc.map di)), .d (.lst (N.map di)), .d (partsD (landP N)), .d (weaD (weaP N)), .d (rowsD (stP N)), .d (rowsD (brP N)), .d (.tup [weaD (weaP N), rowsD (stP N), rowsD (brP N)]), .d (ds (plP N)), .d (landD (landP N)), .un, .un, .un, .un, .un, .un, .un] [] _
  refine dss_cons (ds_set 9 (d := .dic (fireP N false)) (ev (DN.de (dn_call (ok_law_fire T) hr (by kernel_rfl) (da_cons (de_name 2 rfl rfl (.inl (by kernel_rfl))) (da_cons (de_name 3 rfl rfl (.inl (by kernel_rfl))) (da_cons (de_name 4 rfl rfl (.inl (by kernel_rfl))) (da_cons (de_name 5 rfl rfl (.inl (by kernel_rfl))) (da_cons de_int da_nil))))) ⟨landP N, weaP N, stP N, brP N, false, rfl, z.fire false, z.q.st0, by omega, by omega, z.q.fit.links, z.q.fit.places, rfl⟩))) ?_ nd rfl (.inl (by kernel_rfl)) (.inr (by kernel_rfl)))
  show DSs _ _ [.d (.zst (sc.map di)), .d (.lst (N.map di)), .d (partsD (landP N)), .d (weaD (weaP N)), .d (rowsD (stP N)), .d (rowsD (brP N)), .d (.tup [weaD (weaP N), rowsD (stP N), rowsD (brP N)]), .d (ds (plP N)), .d (landD (landP N)), .d (.dic (fireP N false)), .un, .un, .un, .un, .un, .un] [] _
  refine dss_cons (ds_set 10 (d := .dic (fireP N true)) (ev (DN.de (dn_call (ok_law_fire T) hr (by kernel_rfl) (da_cons (de_name 2 rfl rfl (.inl (by kernel_rfl))) (da_cons (de_name 3 rfl rfl (.inl (by kernel_rfl))) (da_cons (de_name 4 rfl rfl (.inl (by kernel_rfl))) (da_cons (de_name 5 rfl rfl (.inl (by kernel_rfl))) (da_cons de_int da_nil))))) ⟨landP N, weaP N, stP N, brP N, true, rfl, z.fire true, z.q.st0, by omega, by omega, z.q.fit.links, z.q.fit.places, rfl⟩))) ?_ nd rfl (.inl (by kernel_rfl)) (.inr (by kernel_rfl)))
  show DSs _ _ [.d (.zst (sc.map di)), .d (.lst (N.map di)), .d (partsD (landP N)), .d (weaD (weaP N)), .d (rowsD (stP N)), .d (rowsD (brP N)), .d (.tup [weaD (weaP N), rowsD (stP N), rowsD (brP N)]), .d (ds (plP N)), .d (landD (landP N)), .d (.dic (fireP N false)), .d (.dic (fireP N true)), .un, .un, .un, .un, .un] [] _
  refine dss_cons (ds_set 11 (d := ds (wordP N)) (ev (de_ix (d := ds (wordP N)) (DN.de (dn_lst (da_cons de_str (da_cons de_str (da_cons de_str da_nil))))) (de_bin (de_intB (by kernel_rfl) T.b_int (da_cons (de_din hu (de_name 7 rfl rfl (.inl (by kernel_rfl))) (de_name 9 rfl rfl (.inl (by kernel_rfl)))) da_nil)) (de_intB (by kernel_rfl) T.b_int (da_cons (de_din hu (de_name 7 rfl rfl (.inl (by kernel_rfl))) (de_name 10 rfl rfl (.inl (by kernel_rfl)))) da_nil)) (o_add)) (ix_l hw3))) ?_ nd rfl (.inl (by kernel_rfl)) (.inr (by kernel_rfl)))
  show DSs _ _ [.d (.zst (sc.map di)), .d (.lst (N.map di)), .d (partsD (landP N)), .d (weaD (weaP N)), .d (rowsD (stP N)), .d (rowsD (brP N)), .d (.tup [weaD (weaP N), rowsD (stP N), rowsD (brP N)]), .d (ds (plP N)), .d (landD (landP N)), .d (.dic (fireP N false)), .d (.dic (fireP N true)), .d (ds (wordP N)), .un, .un, .un, .un] [] _
  refine dss_cons (ds_set 12 (d := paperD (toldP N)) (ev (DN.de (dn_call (ok_paper T) hr (by kernel_rfl) (da_cons (de_name 8 rfl rfl (.inl (by kernel_rfl))) (da_cons (de_name 3 rfl rfl (.inl (by kernel_rfl))) (da_cons (de_name 4 rfl rfl (.inl (by kernel_rfl))) (da_cons (de_name 5 rfl rfl (.inl (by kernel_rfl))) (da_cons (de_name 7 rfl rfl (.inl (by kernel_rfl))) da_nil))))) ⟨landP N, weaP N, stP N, brP N, plP N, rfl, z.q, z.at_, z.g1, z.g2, rfl⟩))) ?_ nd rfl (.inl (by kernel_rfl)) (.inr (by kernel_rfl)))
  show DSs _ _ [.d (.zst (sc.map di)), .d (.lst (N.map di)), .d (partsD (landP N)), .d (weaD (weaP N)), .d (rowsD (stP N)), .d (rowsD (brP N)), .d (.tup [weaD (weaP N), rowsD (stP N), rowsD (brP N)]), .d (ds (plP N)), .d (landD (landP N)), .d (.dic (fireP N false)), .d (.dic (fireP N true)), .d (ds (wordP N)), .d (paperD (toldP N)), .un, .un, .un] [] _
  refine dss_cons (ds_set 13 (d := toldD (toldP N)) (ev (de_tup (da_cons (d := ds (toldP N).word) (de_fld (de_name 12 rfl rfl (.inl (by kernel_rfl))) rfl T.cl_Paper T.na_word) (da_cons (d := rowsD (toldP N).labels) (DN.de (dn_list (by kernel_rfl) T.b_list (da_cons (de_fld (de_name 12 rfl rfl (.inl (by kernel_rfl))) rfl T.cl_Paper T.na_labels) da_nil) (.l _))) (da_cons (d := chainD (toldP N).chain) (DN.de (dn_list (by kernel_rfl) T.b_list (da_cons (de_fld (de_name 12 rfl rfl (.inl (by kernel_rfl))) rfl T.cl_Paper T.na_chain) da_nil) (.l _))) da_nil))))) ?_ nd rfl (.inl (by kernel_rfl)) (.inr (by kernel_rfl)))
  show DSs _ _ [.d (.zst (sc.map di)), .d (.lst (N.map di)), .d (partsD (landP N)), .d (weaD (weaP N)), .d (rowsD (stP N)), .d (rowsD (brP N)), .d (.tup [weaD (weaP N), rowsD (stP N), rowsD (brP N)]), .d (ds (plP N)), .d (landD (landP N)), .d (.dic (fireP N false)), .d (.dic (fireP N true)), .d (ds (wordP N)), .d (paperD (toldP N)), .d (toldD (toldP N)), .un, .un] [] _
  refine dss_cons (ds_if (ba := false) (et (DT.is (dt_or (dt_cmp (de_call (ok_paper_text T) hr (by kernel_rfl) (da_cons (de_name 12 rfl rfl (.inl (by kernel_rfl))) da_nil) ⟨toldP N, rfl, z.tt, rfl⟩) (de_call (ok_law_text T) hr (by kernel_rfl) (da_cons (de_name 13 rfl rfl (.inl (by kernel_rfl))) da_nil) ⟨toldP N, rfl, z.tt, rfl⟩) o_neS) (fun _ => dw_or (dt_cmp (de_ix (d := ds (toldP N).word) (de_name 13 rfl rfl (.inl (by kernel_rfl))) de_int (ix_t rfl)) (de_name 11 rfl rfl (.inl (by kernel_rfl))) o_neS) (fun _ => dw_or1 (dt_not (dt_val (de_call (ok_law_right T) hr (by kernel_rfl) (da_cons (de_name 2 rfl rfl (.inl (by kernel_rfl))) (da_cons (de_name 6 rfl rfl (.inl (by kernel_rfl))) (da_cons (de_name 7 rfl rfl (.inl (by kernel_rfl))) (da_cons (de_name 13 rfl rfl (.inl (by kernel_rfl))) da_nil)))) ⟨landP N, weaP N, stP N, brP N, plP N, toldP N, rfl, z.fire, z.tt.ll, z.tt.cl, by omega, z.q.fit.links, fun r h => (z.tt.lab r h).2.1, fun r h => (z.tt.ch r h).2.2.1, rfl⟩)))))) (by rw [z.right, decide_eq_true rfl, decide_eq_true z.word]; rfl))) (fun h => by cases h) (fun _ => dss_nil ?_))
  refine dss_cons (ds_if (ba := false) (et (DT.is (dt_cmp (de_call (ok_check_text T) hr (by kernel_rfl) (da_cons (de_name 8 rfl rfl (.inl (by kernel_rfl))) (da_cons (de_name 3 rfl rfl (.inl (by kernel_rfl))) (da_cons (de_name 4 rfl rfl (.inl (by kernel_rfl))) (da_cons (de_name 5 rfl rfl (.inl (by kernel_rfl))) (da_cons (de_name 7 rfl rfl (.inl (by kernel_rfl))) (da_cons (de_call (ok_law_text T) hr (by kernel_rfl) (da_cons (de_name 13 rfl rfl (.inl (by kernel_rfl))) da_nil) ⟨toldP N, rfl, z.tt, rfl⟩) da_nil)))))) ⟨landP N, weaP N, stP N, brP N, plP N, toldP N, rfl, z.q, z.at_, z.g1.nums, z.g2.nums, z.tt, rfl⟩) de_bl o_notB) (by rw [z.chk]; rfl))) (fun h => by cases h) (fun _ => dss_nil ?_))
  refine dss_cons (ds_set 14 (d := toldD (badP N)) (ev (de_call (ok_law_spoilt T) hr (by kernel_rfl) (da_cons (de_name 2 rfl rfl (.inl (by kernel_rfl))) (da_cons (de_name 13 rfl rfl (.inl (by kernel_rfl))) (da_cons (de_name 1 rfl rfl (.inl (by kernel_rfl))) da_nil))) ⟨N, toldP N, rfl, z.num, z.ll, z.cl, rfl⟩)) ?_ nd rfl (.inl (by kernel_rfl)) (.inr (by kernel_rfl)))
  show DSs _ _ [.d (.zst (sc.map di)), .d (.lst (N.map di)), .d (partsD (landP N)), .d (weaD (weaP N)), .d (rowsD (stP N)), .d (rowsD (brP N)), .d (.tup [weaD (weaP N), rowsD (stP N), rowsD (brP N)]), .d (ds (plP N)), .d (landD (landP N)), .d (.dic (fireP N false)), .d (.dic (fireP N true)), .d (ds (wordP N)), .d (paperD (toldP N)), .d (toldD (toldP N)), .d (toldD (badP N)), .un] [] _
  refine dss_cons (ds_set 15 (d := db (checkM (landP N) (weaP N) (stP N) (brP N) (plP N) (badP N))) (ev (de_call (ok_check_text T) hr (by kernel_rfl) (da_cons (de_name 8 rfl rfl (.inl (by kernel_rfl))) (da_cons (de_name 3 rfl rfl (.inl (by kernel_rfl))) (da_cons (de_name 4 rfl rfl (.inl (by kernel_rfl))) (da_cons (de_name 5 rfl rfl (.inl (by kernel_rfl))) (da_cons (de_name 7 rfl rfl (.inl (by kernel_rfl))) (da_cons (de_call (ok_law_text T) hr (by kernel_rfl) (da_cons (de_name 14 rfl rfl (.inl (by kernel_rfl))) da_nil) ⟨badP N, rfl, z.tb, rfl⟩) da_nil)))))) ⟨landP N, weaP N, stP N, brP N, plP N, badP N, rfl, z.q, z.at_, z.g1.nums, z.g2.nums, z.tb, rfl⟩)) ?_ nd rfl (.inl (by kernel_rfl)) (.inr (by kernel_rfl)))
  show DSs _ _ [.d (.zst (sc.map di)), .d (.lst (N.map di)), .d (partsD (landP N)), .d (weaD (weaP N)), .d (rowsD (stP N)), .d (rowsD (brP N)), .d (.tup [weaD (weaP N), rowsD (stP N), rowsD (brP N)]), .d (ds (plP N)), .d (landD (landP N)), .d (.dic (fireP N false)), .d (.dic (fireP N true)), .d (ds (wordP N)), .d (paperD (toldP N)), .d (toldD (toldP N)), .d (toldD (badP N)), .d (db (checkM (landP N) (weaP N) (stP N) (brP N) (plP N) (badP N)))] [] _
  refine dss_cons (ds_if (ba := false) (et (DT.is (dt_or (dt_not (dt_val (de_isB (by kernel_rfl) T.b_isinstance (by kernel_rfl) T.b_bool (de_name 15 rfl rfl (.inl (by kernel_rfl)))))) (fun _ => dw_or1 (dt_cmp (de_name 15 rfl rfl (.inl (by kernel_rfl))) (de_call (ok_law_right T) hr (by kernel_rfl) (da_cons (de_name 2 rfl rfl (.inl (by kernel_rfl))) (da_cons (de_name 6 rfl rfl (.inl (by kernel_rfl))) (da_cons (de_name 7 rfl rfl (.inl (by kernel_rfl))) (da_cons (de_name 14 rfl rfl (.inl (by kernel_rfl))) da_nil)))) ⟨landP N, weaP N, stP N, brP N, plP N, badP N, rfl, z.fire, z.tb.ll, z.tb.cl, by omega, z.q.fit.links, fun r h => (z.tb.lab r h).2.1, fun r h => (z.tb.ch r h).2.2.1, rfl⟩) o_neB))) (by rw [z.bad, decide_eq_true rfl]; rfl))) (fun h => by cases h) (fun _ => dss_nil ?_))
  refine dss_cons (ds_if (ba := false) (et (DT.is (dt_or (dt_cmp (de_call (ok_law_refused T Z) hr (by kernel_rfl) (da_cons (de_name 8 rfl rfl (.inl (by kernel_rfl))) (da_cons (de_name 6 rfl rfl (.inl (by kernel_rfl))) (da_cons de_str (da_cons (de_call (ok_law_text T) hr (by kernel_rfl) (da_cons (de_name 13 rfl rfl (.inl (by kernel_rfl))) da_nil) ⟨toldP N, rfl, z.tt, rfl⟩) da_nil)))) ⟨landP N, weaP N, stP N, brP N, "z", toldP N, .un "z", rfl, z.tt, .place z.q.wea.of z.q.stIn z.q.brIn z.nz, rfl⟩) de_str o_neS) (fun _ => dw_or1 (dt_cmp (de_call (ok_law_refused T Z) hr (by kernel_rfl) (da_cons (de_name 8 rfl rfl (.inl (by kernel_rfl))) (da_cons (de_tup (da_cons (DN.de (dn_lst da_nil)) (da_cons (de_name 4 rfl rfl (.inl (by kernel_rfl))) (da_cons (de_name 5 rfl rfl (.inl (by kernel_rfl))) da_nil)))) (da_cons (de_name 7 rfl rfl (.inl (by kernel_rfl))) (da_cons de_str da_nil)))) ⟨landP N, [], stP N, brP N, plP N, ⟨"never", [], []⟩, .iw, rfl, tN, .wea rfl z.q.stIn z.q.brIn z.at_, rfl⟩) de_bl o_notB))) rfl)) (fun h => by cases h) (fun _ => dss_nil ?_))
  exact dss_one (ds_ret (d := db true) (ev (DE.is (de_cmp (de_call (ok_law_refused T Z) hr (by kernel_rfl) (da_cons (de_name 8 rfl rfl (.inl (by kernel_rfl))) (da_cons (de_tup (da_cons (de_name 3 rfl rfl (.inl (by kernel_rfl))) (da_cons (DN.de (dn_bin (de_name 4 rfl rfl (.inl (by kernel_rfl))) (DN.de (dn_lst (da_cons (de_tup (da_cons de_str (da_cons de_int da_nil))) da_nil))) (o_cat (by rw [List.length_map]; show (stP N).length + 1 ≤ _; exact Nat.le_of_lt (small (m := 10) (by omega)))))) (da_cons (DN.de (dn_lst (da_cons (de_tup (da_cons de_str (da_cons de_int da_nil))) da_nil))) da_nil)))) (da_cons de_str (da_cons de_str da_nil)))) ⟨landP N, weaP N, stP N ++ ([("Y", 1)] : Rows), ([("X", 1)] : Rows), "z", ⟨"surely", [], []⟩, .un "Y", by rw [rowsD, List.map_append]; rfl, tS, .row (stP N) "Y" 1 z.q.wea.of rfl z.q.stIn z.nY, rfl⟩) de_str o_eqS) rfl)) (.inl rfl))
end Ef
set_option maxRecDepth 100000
set_option maxHeartbeats 4000000
/-! Ma: the plain law: winds, caught: monotone; dicts. -/
namespace Ef
open PySem L2 C8 RZ PyProof.Rows PySem.Spec PySem.W
theorem last_max : ∀ (l : Wea), (l.map (·.1)).Pairwise (· < ·) → ∀ x ∈ l, ∀ r, l.getLast? = some r → x.1 ≤ r.1
  | [], _, x, h, _, _ => by cases h
  | [a], _, x, h, r, e => by
    rw [List.mem_singleton] at h
    subst h
    cases e
    exact Int.le_refl _
  | a :: b :: t, p, x, h, r, e => by
    rw [List.getLast?_cons_cons] at e
    have p2 : ((b :: t).map (·.1)).Pairwise (· < ·) := (List.pairwise_cons.mp p).2
    rcases List.mem_cons.mp h with rfl | h
    · have h1 : x.1 < b.1 := (List.pairwise_cons.mp p).1 b.1 (by simp)
      have h2 := last_max (b :: t) p2 b (by simp) r e
      omega
    · exact last_max (b :: t) p2 x h r e
theorem blow_eq {w : Wea} (up : (w.map (·.1)).Pairwise (· < ·)) {c m : Int} (hc : c ≤ m) (h : ∀ r, (w.filter fun r => decide (r.1 ≤ m)).getLast? = some r → r.1 ≤ c) : blow w c = blow w m := by
  have e : (w.filter fun r => decide (r.1 ≤ c)) = w.filter fun r => decide (r.1 ≤ m) := by
    refine List.filter_congr fun x hx => ?_
    by_cases z : x.1 ≤ m
    · rw [decide_eq_true z]
      have hm : x ∈ w.filter fun r => decide (r.1 ≤ m) := List.mem_filter.mpr ⟨hx, decide_eq_true z⟩
      have p2 : ((w.filter fun r => decide (r.1 ≤ m)).map (·.1)).Pairwise (· < ·) := up.sublist (List.Sublist.map _ List.filter_sublist)
      cases q : (w.filter fun r => decide (r.1 ≤ m)).getLast? with
      | none => rw [List.getLast?_eq_none_iff] at q; rw [q] at hm; cases hm
      | some r =>
        have h1 := last_max _ p2 x hm r q
        have h2 := h r q
        exact decide_eq_true (by omega)
    · rw [decide_eq_false z, decide_eq_false (by omega)]
  unfold blow winds
  rw [e]
theorem chance_mono {w : Wea} (up : (w.map (·.1)).Pairwise (· < ·)) {m' m s : Int} (h : m' ≤ m) (hs : s ∈ chancesM w m) : ∃ s' ∈ chancesM w m', s' ≤ s ∧ blow w s' = blow w s := by
  rcases List.mem_cons.mp hs with e0 | hs
  · rw [e0]
    cases e : (w.filter fun r => decide (r.1 ≤ m)).getLast? with
    | none => exact ⟨m', List.mem_cons_self, h, blow_eq up h (fun r hr => by rw [e] at hr; cases hr)⟩
    | some r0 =>
      have hr0 := List.mem_of_getLast? e
      have h1 := List.mem_filter.mp hr0
      have h2 : r0.1 ≤ m := of_decide_eq_true h1.2
      by_cases z : r0.1 ≤ m'
      · exact ⟨m', List.mem_cons_self, h, blow_eq up h (fun r hr => by rw [e] at hr; cases hr; exact z)⟩
      · exact ⟨r0.1, List.mem_cons_of_mem _ (List.mem_map.mpr ⟨r0, List.mem_filter.mpr ⟨h1.1, decide_eq_true (by omega)⟩, rfl⟩), h2, blow_eq up h2 (fun r hr => by rw [e] at hr; cases hr; exact Int.le_refl _)⟩
  · obtain ⟨r, hr, rfl⟩ := List.mem_map.mp hs
    have h1 := List.mem_filter.mp hr
    have h2 : m < r.1 := of_decide_eq_true h1.2
    exact ⟨r.1, List.mem_cons_of_mem _ (List.mem_map.mpr ⟨r, List.mem_filter.mpr ⟨h1.1, decide_eq_true (by omega)⟩, rfl⟩), Int.le_refl _, rfl⟩
theorem minOf_f {α : Type} [DecidableEq α] [DatumOrd α] (f : α → Int) (h1 : ∀ c b : α, DatumOrd.lt c b = true → f c ≤ f b) (h2 : ∀ c b : α, ¬ DatumOrd.lt c b = true → f b ≤ f c) : ∀ (bs : List α) (b x : α), x ∈ b :: bs → f (minOf b bs) ≤ f x
  | [], b, x, h => by
    rw [List.mem_singleton] at h
    subst h
    exact Int.le_refl _
  | c :: bs, b, x, h => by
    show f (minOf (if DatumOrd.lt c b = true then c else b) bs) ≤ f x
    have k := minOf_f f h1 h2 bs
    by_cases z : DatumOrd.lt c b = true
    · rw [if_pos z]
      rcases List.mem_cons.mp h with rfl | h
      · exact Int.le_trans (k c c List.mem_cons_self) (h1 _ _ z)
      · exact k c x h
    · rw [if_neg z]
      rcases List.mem_cons.mp h with rfl | h
      · exact k x x List.mem_cons_self
      · rcases List.mem_cons.mp h with rfl | h
        · exact Int.le_trans (k b b List.mem_cons_self) (h2 _ _ z)
        · exact k b x (List.mem_cons_of_mem _ h)
theorem minL_le {l : List Int} {x : Int} (h : x ∈ l) : ∃ e, minL l = some e ∧ e ≤ x := by
  cases l with
  | nil => cases h
  | cons b bs =>
    refine ⟨minOf b bs, rfl, minOf_f (fun x : Int => x) (fun c b z => ?_) (fun c b z => ?_) bs b x h⟩
    · have z : decide (c < b) = true := z
      have := of_decide_eq_true z
      show c ≤ b; omega
    · have z : ¬ decide (c < b) = true := z
      have : ¬ c < b := fun q => z (decide_eq_true q)
      show b ≤ c; omega
theorem caught_mono {L : LandM} {w : Wea} (up : (w.map (·.1)).Pairwise (· < ·)) {row row' : List (Option Int)} {m' m e : Int} (hm : m' ≤ m) (hrow : ∀ (i : Nat) v, row.getD i none = some v → ∃ v', row'.getD i none = some v' ∧ v' ≤ v) (h : caughtM L w row m = some e) : ∃ e', caughtM L w row' m' = some e' ∧ e' ≤ e := by
  have h1 := minL_mem h
  obtain ⟨s, hs, he⟩ := List.mem_filterMap.mp h1
  obtain ⟨s', hs', hle, hb⟩ := chance_mono up hm hs
  unfold end1 at he
  cases q : row.getD (windAt L w s) none with
  | none => rw [q] at he; cases he
  | some v =>
    rw [q] at he
    have he : s + v = e := Option.some.inj he
    obtain ⟨v', q', hv⟩ := hrow _ _ q
    have hw : windAt L w s' = windAt L w s := by unfold windAt; rw [hb]
    have h3 : end1 L w row' s' = some (s' + v') := by unfold end1; rw [hw, q']; rfl
    obtain ⟨e', h', hle'⟩ := minL_le (List.mem_filterMap.mpr ⟨s', hs', h3⟩)
    exact ⟨e', h', by omega⟩
theorem caught_le {L : LandM} {w : Wea} {row : List (Option Int)} {m e X C : Int} (hm : m ≤ X) (hw : ∀ r ∈ w, r.1 ≤ X) (hv : ∀ v, some v ∈ row → v ≤ C) (h : caughtM L w row m = some e) : e ≤ X + C := by
  have h1 := minL_mem h
  obtain ⟨s, hs, he⟩ := List.mem_filterMap.mp h1
  have hs' : s ≤ X := by
    rcases List.mem_cons.mp hs with e0 | hs
    · omega
    · obtain ⟨r, hr, rfl⟩ := List.mem_map.mp hs
      exact hw r (List.mem_filter.mp hr).1
  unfold end1 at he
  rw [List.getD_eq_getElem?_getD] at he
  cases q : row[windAt L w s]? with
  | none => rw [q] at he; cases he
  | some o =>
    rw [q] at he
    cases o with
    | none => cases he
    | some v =>
      have := hv v (List.mem_of_getElem? q)
      cases he
      show s + v ≤ _
      omega
/-! ### dicts -/
theorem putMin_in {t : Dic} {k q : Str} {e v : Int} (h : getK (putMin t k e) q = some v) : (q = k ∧ v = e) ∨ getK t q = some v := by
  unfold putMin at h
  rw [getK_set] at h
  by_cases z : q = k
  · subst z
    rw [if_pos rfl] at h
    have h := Option.some.inj h
    cases y : getK t q with
    | none =>
      rw [y] at h
      left
      refine ⟨rfl, ?_⟩
      simp at h
      exact h.symm
    | some u =>
      rw [y] at h
      have h : (if u < e then u else e) = v := h
      by_cases l : u < e
      · rw [if_pos l] at h; subst h; exact .inr rfl
      · rw [if_neg l] at h; exact .inl ⟨rfl, h.symm⟩
  · rw [if_neg z] at h; exact .inr h
theorem putMin_le {t : Dic} {k : Str} {e : Int} : ∃ v, getK (putMin t k e) k = some v ∧ v ≤ e := by
  unfold putMin
  rw [getK_set, if_pos rfl]
  refine ⟨_, rfl, ?_⟩
  split <;> omega
/-- what stands in b stands in b', no later -/
def Dec (b b' : Dic) : Prop := ∀ q v, getK b q = some v → ∃ v', getK b' q = some v' ∧ v' ≤ v
theorem Dec.rfl {b : Dic} : Dec b b := fun q v h => ⟨v, h, Int.le_refl _⟩
theorem Dec.trans {a b c : Dic} (h1 : Dec a b) (h2 : Dec b c) : Dec a c := fun q v h => by
  obtain ⟨v1, e1, l1⟩ := h1 q v h
  obtain ⟨v2, e2, l2⟩ := h2 q v1 e1
  exact ⟨v2, e2, Int.le_trans l2 l1⟩
theorem putMin_dec {t : Dic} {k : Str} {e : Int} : Dec t (putMin t k e) := fun q v h => by
  unfold putMin
  rw [getK_set]
  by_cases z : q = k
  · subst z
    rw [if_pos rfl, h]
    refine ⟨_, rfl, ?_⟩
    show (if v < e then v else e) ≤ v
    split <;> omega
  · rw [if_neg z]; exact ⟨v, h, Int.le_refl _⟩
theorem fold_dec {β : Type} {f : Dic → β → Dic} (h : ∀ t x, Dec t (f t x)) : ∀ (l : List β) (t : Dic), Dec t (l.foldl f t)
  | [], t => Dec.rfl
  | x :: l, t => (h t x).trans (fold_dec h l (f t x))
theorem least_in {rs : Rows} {q : Str} {v : Int} (h : getK (leastK rs) q = some v) : (q, v) ∈ rs := by
  have : ∀ (rs : Rows) (t : Dic), getK (rs.foldl leastStep t) q = some v → (q, v) ∈ rs ∨ getK t q = some v := by
    intro rs
    induction rs with
    | nil => intro t h; exact .inr h
    | cons r rs ih =>
      intro t h
      rcases ih _ h with h | h
      · exact .inl (List.mem_cons_of_mem _ h)
      · rcases putMin_in (t := t) (k := r.1) (e := r.2) h with ⟨rfl, rfl⟩ | h
        · exact .inl List.mem_cons_self
        · exact .inr h
  rcases this rs [] h with h | h
  · exact h
  · cases h
theorem least_le {rs : Rows} {q : Str} {v : Int} (h : (q, v) ∈ rs) : ∃ v', getK (leastK rs) q = some v' ∧ v' ≤ v := by
  have : ∀ (rs : Rows) (t : Dic), (q, v) ∈ rs → ∃ v', getK (rs.foldl leastStep t) q = some v' ∧ v' ≤ v := by
    intro rs
    induction rs with
    | nil => intro t h; cases h
    | cons r rs ih =>
      intro t h
      rcases List.mem_cons.mp h with rfl | h
      · obtain ⟨v1, e1, l1⟩ := putMin_le (t := t) (k := q) (e := v)
        obtain ⟨v2, e2, l2⟩ := fold_dec (f := leastStep) (fun t x => putMin_dec (t := t) (k := x.1) (e := x.2)) rs (putMin t q v) q v1 e1
        exact ⟨v2, e2, Int.le_trans l2 l1⟩
      · exact ih _ h
  exact this rs [] h
theorem least_nodup (rs : Rows) : ((leastK rs).map (·.1)).Nodup := by
  have : ∀ (rs : Rows) (t : Dic), (t.map (·.1)).Nodup → ((rs.foldl leastStep t).map (·.1)).Nodup := by
    intro rs
    induction rs with
    | nil => intro t h; exact h
    | cons r rs ih => intro t h; exact ih _ (nodup_set h)
  exact this rs [] List.nodup_nil
theorem ahead_mono {b : Dic} {p : Str} {e' e : Int} (h : e' ≤ e) (ha : ahead b p e = true) : ahead b p e' = true := by
  unfold ahead at ha ⊢
  cases q : getK b p with
  | none => rfl
  | some v =>
    rw [q] at ha
    have ha : decide (e < v) = true := ha
    have := of_decide_eq_true ha
    show decide (e' < v) = true
    exact decide_eq_true (by omega)
theorem ahead_no {b : Dic} {p : Str} {e : Int} (h : ahead b p e = false) : ∃ v, getK b p = some v ∧ v ≤ e := by
  unfold ahead at h
  cases q : getK b p with
  | none => rw [q] at h; cases h
  | some v =>
    rw [q] at h
    have h : decide (e < v) = false := h
    have := of_decide_eq_false h
    exact ⟨v, rfl, by omega⟩
theorem popMin_le {wt : Dic} {m : Int} {p : Str} (h : popMin wt = some (m, p)) {q : Str} {v : Int} (hq : (q, v) ∈ wt) : m ≤ v := by
  unfold popMin at h
  have hm : (v, q) ∈ wt.map swapQ := List.mem_map.mpr ⟨(q, v), hq, rfl⟩
  cases e : wt.map swapQ with
  | nil => rw [e] at hm; cases hm
  | cons b bs =>
    rw [e] at h hm
    have h : minOf b bs = (m, p) := Option.some.inj h
    have := minOf_f (fun x : Int × Str => x.1) (fun c b z => ?_) (fun c b z => ?_) bs b (v, q) hm
    · rw [h] at this; exact this
    · have z : (if c.1 = b.1 then DatumOrd.lt c.2 b.2 else decide (c.1 < b.1)) = true := z
      by_cases y : c.1 = b.1
      · show c.1 ≤ b.1; omega
      · rw [if_neg y] at z
        have := of_decide_eq_true z
        show c.1 ≤ b.1; omega
    · have z : ¬ (if c.1 = b.1 then DatumOrd.lt c.2 b.2 else decide (c.1 < b.1)) = true := z
      by_cases y : c.1 = b.1
      · show b.1 ≤ c.1; omega
      · rw [if_neg y] at z
        have : ¬ c.1 < b.1 := fun q => z (decide_eq_true q)
        show b.1 ≤ c.1; omega
end Ef
set_option maxRecDepth 100000
set_option maxHeartbeats 4000000
/-! Mb: the plain law: what a fire reaches; the spread. -/
namespace Ef
open PySem L2 C8 RZ PyProof.Rows PySem.Spec PySem.W
/-- what a fire reaches, by how many links -/
inductive Rch (L : LandM) (w : Wea) (st : Rows) (ends : Dic) (s : Bool) : Nat → Str → Int → Prop
  | start (q : Str) (t : Int) : (q, t) ∈ st → ahead ends q t = true → Rch L w st ends s 0 q t
  | hop (d : Nat) (l : LinkM) (t e : Int) : l ∈ L.links → Rch L w st ends s d l.one t → caughtM L w (sideRow s l) t = some e → ahead ends l.other e = true → Rch L w st ends s (d + 1) l.other e
theorem rch_ahead {L : LandM} {w : Wea} {st : Rows} {ends : Dic} {s : Bool} {d : Nat} {q : Str} {t : Int} (h : Rch L w st ends s d q t) : ahead ends q t = true := by
  cases h with
  | start _ _ _ h => exact h
  | hop _ _ _ _ _ _ _ h => exact h
/-- in one of the two -/
def Ei (fd wt : Dic) (q : Str) (t : Int) : Prop := getK fd q = some t ∨ getK wt q = some t
/-- what is asked of the land, the weather, the starts -/
structure SpH (L : LandM) (w : Wea) (st : Rows) (s : Bool) : Prop where
  up : (w.map (·.1)).Pairwise (· < ·)
  w36 : ∀ r ∈ w, r.1 ≤ 36
  other : ∀ l ∈ L.links, l.other ∈ L.places
  pos : ∀ l ∈ L.links, ∀ v, some v ∈ sideRow s l → 1 ≤ v ∧ v ≤ 15
  stIn : ∀ r ∈ st, r.1 ∈ L.places
  st0 : ∀ r ∈ st, 0 ≤ r.2
  st36 : ∀ r ∈ st, r.2 ≤ 36
structure SpJ (L : LandM) (w : Wea) (st : Rows) (ends : Dic) (s : Bool) (Q : LinkM → Prop) (wt fd : Dic) : Prop where
  base : SpI L wt fd
  le : ∀ q t p v, getK fd q = some t → getK wt p = some v → t ≤ v
  ju : ∀ q t, Ei fd wt q t → getK (leastK st) q = some t ∨ ∃ l ∈ L.links, l.other = q ∧ ∃ t1, getK fd l.one = some t1 ∧ caughtM L w (sideRow s l) t1 = some t
  rc : ∀ q t, Ei fd wt q t → ∃ d, d ≤ fd.length ∧ Rch L w st ends s d q t
  bo : ∀ q t, Ei fd wt q t → t ≤ 36 + 15 * (fd.length : Int)
  sc : ∀ q t, (q, t) ∈ st → ahead ends q t = true → ∃ v, v ≤ t ∧ Ei fd wt q v
  lk : ∀ l ∈ L.links, Q l → ∀ t e, getK fd l.one = some t → caughtM L w (sideRow s l) t = some e → ahead ends l.other e = true → ∃ v, v ≤ e ∧ Ei fd wt l.other v
section
variable {L : LandM} {w : Wea} {st : Rows} {ends : Dic} {s : Bool} {Q : LinkM → Prop} {wt fd : Dic}
theorem SpJ.weak {Q2 : LinkM → Prop} (J : SpJ L w st ends s Q wt fd) (h : ∀ l ∈ L.links, Q2 l → Q l) : SpJ L w st ends s Q2 wt fd :=
  ⟨J.base, J.le, J.ju, J.rc, J.bo, J.sc, fun l hl q => J.lk l hl (h l hl q)⟩
/-- one link from the place that was just found -/
theorem SpJ.relax (H : SpH L w st s) {p : Str} {m : Int} (J : SpJ L w st ends s Q wt fd) (hp : getK fd p = some m) (hm : ∀ q t, getK fd q = some t → t ≤ m) (hr : ∃ d, d + 1 ≤ fd.length ∧ Rch L w st ends s d p m) (hb : m + 15 ≤ 36 + 15 * (fd.length : Int)) (hf : 1 ≤ fd.length) (h0 : 0 ≤ m) (hQ : ∀ l, l.one ≠ p → Q l) {l : LinkM} (hl : l ∈ L.links) :
    SpJ L w st ends s (fun k => Q k ∨ k = l) (relax1 L w ends fd p m wt (l, sideRow s l)) fd := by
  have B := J.base.relax (w := w) (broken := ends) (p := p) (m := m) (lr := (l, sideRow s l)) (H.other l hl) (fun v hv => (H.pos l hl v hv).1) h0
  have hw : ∀ q v, Ei fd wt q v → ∃ v', v' ≤ v ∧ Ei fd (relax1 L w ends fd p m wt (l, sideRow s l)) q v' := by
    intro q v h
    rcases h with h | h
    · exact ⟨v, Int.le_refl _, .inl h⟩
    · unfold relax1
      split
      · exact ⟨v, Int.le_refl _, .inr h⟩
      · split
        · obtain ⟨v', e, le⟩ := putMin_dec q v h
          exact ⟨v', le, .inr e⟩
        · exact ⟨v, Int.le_refl _, .inr h⟩
  have key : (relax1 L w ends fd p m wt (l, sideRow s l) = wt) ∨ ∃ e, l.one = p ∧ caughtM L w (sideRow s l) m = some e ∧ ahead ends l.other e = true ∧ relax1 L w ends fd p m wt (l, sideRow s l) = putMin wt l.other e := by
    unfold relax1 endOf
    by_cases c : l.one = p ∧ getK fd l.other = none
    · rw [if_pos c]
      cases q : caughtM L w (sideRow s l) m with
      | none => exact .inl rfl
      | some e =>
        show (if ahead ends l.other e = true then putMin wt l.other e else wt) = wt ∨ _
        by_cases a : ahead ends l.other e = true
        · rw [if_pos a]
          exact .inr ⟨e, c.1, rfl, a, by show (if ahead ends l.other e = true then putMin wt l.other e else wt) = _; rw [if_pos a]⟩
        · rw [if_neg a]; exact .inl rfl
    · rw [if_neg c]; exact .inl rfl
  have gt : ∀ e, caughtM L w (sideRow s l) m = some e → m < e := fun e h => caught_gt (fun v hv => (H.pos l hl v hv).1) h
  have lk : ∀ k ∈ L.links, (Q k ∨ k = l) → ∀ t e, getK fd k.one = some t → caughtM L w (sideRow s k) t = some e → ahead ends k.other e = true → ∃ v, v ≤ e ∧ Ei fd (relax1 L w ends fd p m wt (l, sideRow s l)) k.other v := by
    intro k hk hq t e h1 h2 h3
    by_cases c : Q k
    · obtain ⟨v, lv, hv⟩ := J.lk k hk c t e h1 h2 h3
      obtain ⟨v', l', h'⟩ := hw _ _ hv
      exact ⟨v', Int.le_trans l' lv, h'⟩
    · have ek : k = l := hq.resolve_left c
      subst ek
      have ep : k.one = p := Classical.byContradiction fun z => c (hQ k z)
      rw [ep, hp] at h1
      cases h1
      cases z : getK fd k.other with
      | some v =>
        have := hm _ _ z
        have := gt e h2
        exact ⟨v, by omega, .inl z⟩
      | none =>
        have er : relax1 L w ends fd p m wt (k, sideRow s k) = putMin wt k.other e := by
          unfold relax1 endOf
          rw [if_pos ⟨ep, z⟩]
          show (match caughtM L w (sideRow s k) m with | none => wt | some e => if ahead ends k.other e = true then putMin wt k.other e else wt) = _
          rw [h2]
          show (if ahead ends k.other e = true then putMin wt k.other e else wt) = _
          rw [if_pos h3]
        rw [er]
        obtain ⟨v, e1, l1⟩ := putMin_le (t := wt) (k := k.other) (e := e)
        exact ⟨v, l1, .inr e1⟩
  have sc : ∀ q t, (q, t) ∈ st → ahead ends q t = true → ∃ v, v ≤ t ∧ Ei fd (relax1 L w ends fd p m wt (l, sideRow s l)) q v := by
    intro q t h1 h2
    obtain ⟨v, lv, hv⟩ := J.sc q t h1 h2
    obtain ⟨v', l', h'⟩ := hw _ _ hv
    exact ⟨v', Int.le_trans l' lv, h'⟩
  rcases key with e | ⟨x, ho, hc, ha, e⟩
  · rw [e] at B lk sc ⊢
    exact ⟨B, J.le, J.ju, J.rc, J.bo, sc, lk⟩
  · rw [e] at B lk sc ⊢
    have back : ∀ q t, Ei fd (putMin wt l.other x) q t → (q = l.other ∧ t = x) ∨ Ei fd wt q t := by
      intro q t h
      rcases h with h | h
      · exact .inr (.inl h)
      · rcases putMin_in h with h | h
        · exact .inl h
        · exact .inr (.inr h)
    refine ⟨B, fun q t p' v h1 h2 => ?_, fun q t h => ?_, fun q t h => ?_, fun q t h => ?_, sc, lk⟩
    · rcases putMin_in h2 with ⟨_, e2⟩ | h2
      · have := hm _ _ h1
        have := gt x hc
        omega
      · exact J.le q t p' v h1 h2
    · rcases back q t h with ⟨e1, e2⟩ | h
      · exact .inr ⟨l, hl, e1.symm, m, by rw [ho]; exact hp, by rw [e2]; exact hc⟩
      · exact J.ju q t h
    · rcases back q t h with ⟨e1, e2⟩ | h
      · obtain ⟨d, hd, r⟩ := hr
        rw [e1, e2]
        exact ⟨d + 1, hd, .hop d l m x hl (by rw [ho]; exact r) hc ha⟩
      · exact J.rc q t h
    · rcases back q t h with ⟨e1, e2⟩ | h
      · have := caught_le (X := 36 + 15 * ((fd.length : Int) - 1)) (C := 15) (by omega) (fun r hr => by have := H.w36 r hr; omega) (fun v hv => (H.pos l hl v hv).2) hc
        omega
      · exact J.bo q t h
theorem SpJ.relaxs (H : SpH L w st s) {p : Str} {m : Int} (hp : getK fd p = some m) (hm : ∀ q t, getK fd q = some t → t ≤ m) (hr : ∃ d, d + 1 ≤ fd.length ∧ Rch L w st ends s d p m) (hb : m + 15 ≤ 36 + 15 * (fd.length : Int)) (hf : 1 ≤ fd.length) (h0 : 0 ≤ m) : ∀ (ls : List LinkM) (Q : LinkM → Prop) (wt : Dic), (∀ l, l.one ≠ p → Q l) → (∀ l ∈ ls, l ∈ L.links) → SpJ L w st ends s Q wt fd →
    SpJ L w st ends s (fun k => Q k ∨ k ∈ ls) ((ls.map fun l => (l, sideRow s l)).foldl (relax1 L w ends fd p m) wt) fd
  | [], Q, wt, _, _, J => J.weak fun l _ h => h.elim id (fun h => by cases h)
  | l :: ls, Q, wt, hQ, h, J => (SpJ.relaxs H hp hm hr hb hf h0 ls _ _ (fun k hk => .inl (hQ k hk)) (fun k hk => h k (List.mem_cons_of_mem _ hk)) (J.relax H hp hm hr hb hf h0 hQ (h l List.mem_cons_self))).weak fun k _ q => by
      rcases q with q | q
      · exact .inl (.inl q)
      · rcases List.mem_cons.mp q with q | q
        · exact .inl (.inr q)
        · exact .inr q
theorem len_set_new {d : Dic} {k : Str} {v : Int} (h : getK d k = none) : (setK d k v).length = d.length + 1 := by
  have e := keys_setK_eq d k v
  rw [h] at e
  have e := congrArg List.length e
  rw [List.length_map] at e
  rw [e]
  show (d.map (·.1) ++ [k]).length = _
  rw [List.length_append, List.length_map]; rfl
/-- the least is taken out -/
theorem SpJ.pop (H : SpH L w st s) {p : Str} {m : Int} (J : SpJ L w st ends s (fun _ => True) wt fd) (h : popMin wt = some (m, p)) :
    SpJ L w st ends s (fun l => l.one ≠ p) (delK wt p) (setK fd p m) ∧ getK (setK fd p m) p = some m ∧ (∀ q t, getK (setK fd p m) q = some t → t ≤ m) ∧ (∃ d, d + 1 ≤ (setK fd p m).length ∧ Rch L w st ends s d p m) ∧ m + 15 ≤ 36 + 15 * ((setK fd p m).length : Int) ∧ 1 ≤ (setK fd p m).length ∧ 0 ≤ m := by
  obtain ⟨B, hg, hn, hpl, h0⟩ := J.base.pop h
  have hl := len_set_new (v := m) hn
  have hmin : ∀ q v, getK wt q = some v → m ≤ v := fun q v e => popMin_le h (getK_mem e)
  have hfd : ∀ q t, getK fd q = some t → t ≤ m := fun q t e => J.le q t p m e hg
  have to : ∀ q t, Ei (setK fd p m) (delK wt p) q t → Ei fd wt q t := by
    intro q t e
    unfold Ei at e
    rw [getK_set, getK_del] at e
    by_cases z : q = p
    · subst z
      rw [if_pos rfl, if_pos rfl] at e
      rcases e with e | e
      · cases e; exact .inr hg
      · cases e
    · rw [if_neg z, if_neg z] at e; exact e
  have fro : ∀ q t, Ei fd wt q t → Ei (setK fd p m) (delK wt p) q t := by
    intro q t e
    unfold Ei
    rw [getK_set, getK_del]
    by_cases z : q = p
    · subst z
      rw [if_pos rfl]
      rcases e with e | e
      · rw [hn] at e; cases e
      · rw [hg] at e; exact .inl e
    · rw [if_neg z, if_neg z]; exact e
  refine ⟨⟨B, fun q t p' v h1 h2 => ?_, fun q t e => ?_, fun q t e => ?_, fun q t e => ?_, fun q t h1 h2 => ?_, fun l hl hq t e h1 h2 h3 => ?_⟩, by rw [getK_set, if_pos rfl], fun q t e => ?_, ?_, ?_, by omega, h0⟩
  · rw [getK_set] at h1
    rw [getK_del] at h2
    by_cases z2 : p' = p
    · rw [if_pos z2] at h2; cases h2
    · rw [if_neg z2] at h2
      by_cases z : q = p
      · rw [if_pos z] at h1; cases h1; exact hmin _ _ h2
      · rw [if_neg z] at h1; exact J.le q t p' v h1 h2
  · rcases J.ju q t (to q t e) with h1 | ⟨l, hl, ho, t1, h1, h2⟩
    · exact .inl h1
    · refine .inr ⟨l, hl, ho, t1, ?_, h2⟩
      rw [getK_set, if_neg (fun z => by rw [z, hn] at h1; cases h1)]
      exact h1
  · obtain ⟨d, hd, r⟩ := J.rc q t (to q t e)
    exact ⟨d, by omega, r⟩
  · have := J.bo q t (to q t e)
    rw [hl]; omega
  · obtain ⟨v, lv, hv⟩ := J.sc q t h1 h2
    exact ⟨v, lv, fro _ _ hv⟩
  · rw [getK_set, if_neg hq] at h1
    obtain ⟨v, lv, hv⟩ := J.lk l hl trivial t e h1 h2 h3
    exact ⟨v, lv, fro _ _ hv⟩
  · rw [getK_set] at e
    by_cases z : q = p
    · rw [if_pos z] at e; cases e; exact Int.le_refl _
    · rw [if_neg z] at e; exact hfd _ _ e
  · obtain ⟨d, hd, r⟩ := J.rc p m (.inr hg)
    exact ⟨d, by omega, r⟩
  · have := J.bo p m (.inr hg)
    rw [hl]; omega
theorem zip_self {α β : Type} (f : α → β) : ∀ xs : List α, xs.zip (xs.map f) = xs.map fun x => (x, f x)
  | [] => rfl
  | x :: xs => by rw [List.map_cons, List.zip_cons_cons, zip_self f xs]; rfl
theorem spreadGo_ok (H : SpH L w st s) : ∀ (n : Nat) (wt fd : Dic), SpJ L w st ends s (fun _ => True) wt fd → muF L fd ≤ n → SpJ L w st ends s (fun _ => True) [] (spreadGo L w ends (L.links.map fun l => (l, sideRow s l)) n wt fd)
  | 0, wt, fd, J, hn => by
    have e : wt = [] := by
      cases wt with
      | nil => rfl
      | cons q wt =>
        have h1 := J.base.wk q List.mem_cons_self
        have h2 := J.base.wn q List.mem_cons_self
        have : q.1 ∈ L.places.filter fun p => (getK fd p).isNone := List.mem_filter.mpr ⟨h1, by rw [h2]; rfl⟩
        have := List.length_pos_of_mem this
        unfold muF at hn
        omega
    rw [e] at J
    exact J
  | n + 1, wt, fd, J, hn => by
    unfold spreadGo
    cases h : popMin wt with
    | none => rw [popMin_none.mp h] at J; exact J
    | some mp =>
      obtain ⟨m, p⟩ := mp
      obtain ⟨J1, hp, hm, hr, hb, hf, h0⟩ := J.pop H h
      have J2 := SpJ.relaxs H hp hm hr hb hf h0 L.links _ _ (fun l z => z) (fun l hl => hl) J1
      have lt := muF_lt (m := m) (J.base.pop h).2.2.2.1 (J.base.pop h).2.2.1
      exact spreadGo_ok H n _ _ (J2.weak fun l hl _ => .inr hl) (by omega)
theorem wait_get (ends : Dic) : ∀ (l t : Dic), (l.map (·.1)).Nodup → ∀ q, getK (l.foldl (wait1 ends) t) q = match getK l q with
    | none => getK t q
    | some v => if ahead ends q v = true then some v else getK t q
  | [], t, _, q => rfl
  | (k, v) :: l, t, nd, q => by
    have nd2 := List.nodup_cons.mp nd
    have ih := wait_get ends l (wait1 ends t (k, v)) nd2.2 q
    rw [List.foldl_cons, ih]
    by_cases z : k = q
    · subst z
      have e1 : getK ((k, v) :: l) k = some v := by unfold getK; rw [List.find?_cons]; simp
      have e2 : getK l k = none := getK_none.mpr fun x hx e => nd2.1 (by rw [← e]; exact List.mem_map.mpr ⟨x, hx, rfl⟩)
      rw [e1, e2]
      show getK (if ahead ends k v = true then setK t k v else t) k = if ahead ends k v = true then some v else getK t k
      by_cases a : ahead ends k v = true
      · rw [if_pos a, if_pos a, getK_set, if_pos rfl]
      · rw [if_neg a, if_neg a]
    · have e1 : getK ((k, v) :: l) q = getK l q := by unfold getK; rw [List.find?_cons]; simp [z]
      have e3 : getK (wait1 ends t (k, v)) q = getK t q := by
        show getK (if ahead ends k v = true then setK t k v else t) q = getK t q
        split
        · rw [getK_set, if_neg (Ne.symm z)]
        · rfl
      rw [e1, e3]
theorem SpJ.start (H : SpH L w st s) : SpJ L w st ends s (fun _ => True) (wait0 ends (leastK st)) [] := by
  have hk : ∀ q t, getK (wait0 ends (leastK st)) q = some t → getK (leastK st) q = some t ∧ ahead ends q t = true := by
    intro q t h
    have e := wait_get ends (leastK st) [] (least_nodup st) q
    unfold wait0 at h
    rw [h] at e
    cases z : getK (leastK st) q with
    | none => rw [z] at e; cases e
    | some v =>
      rw [z] at e
      have e : some t = if ahead ends q v = true then some v else none := e
      by_cases a : ahead ends q v = true
      · rw [if_pos a] at e; cases e; exact ⟨rfl, a⟩
      · rw [if_neg a] at e; cases e
  have B := SpI.start (broken := ends) (begun := leastK st) (keys_least H.stIn) (least_nonneg H.st0)
  refine ⟨B, fun q t p v h => (by cases h), fun q t h => ?_, fun q t h => ?_, fun q t h => ?_, fun q t h1 h2 => ?_, fun l hl _ t e h => (by cases h)⟩
  · rcases h with h | h
    · cases h
    · exact .inl (hk q t h).1
  · rcases h with h | h
    · cases h
    · exact ⟨0, Nat.zero_le _, .start q t (least_in (hk q t h).1) (hk q t h).2⟩
  · rcases h with h | h
    · cases h
    · have := H.st36 _ (least_in (hk q t h).1)
      have this : t ≤ 36 := this
      show t ≤ 36 + 15 * (0 : Int); omega
  · obtain ⟨v, e, lv⟩ := least_le h1
    have a := ahead_mono lv h2
    refine ⟨v, lv, .inr ?_⟩
    unfold wait0
    rw [wait_get ends (leastK st) [] (least_nodup st) q, e]
    show (if ahead ends q v = true then some v else getK [] q) = some v
    rw [if_pos a]
def sideN (s : Bool) (L : LandM) : List (List (Option Int)) := L.links.map (sideRow s)
theorem spread_ok (H : SpH L w st s) {br : Rows} : SpJ L w st (leastK br) s (fun _ => True) [] (spreadM L w st br (sideN s L)) := by
  unfold spreadM sideN
  rw [zip_self]
  refine spreadGo_ok H _ _ _ (.start H) ?_
  unfold muF
  exact Nat.le_trans (List.length_filter_le _ _) (Nat.le_succ _)
end
theorem least_side (L : LandM) : leastN L = sideN false L := by
  unfold leastN sideN
  refine List.map_congr_left fun l _ => ?_
  unfold sideRow
  refine List.map_congr_left fun t _ => ?_
  cases t <;> rfl
theorem most_side (L : LandM) : mostN L = sideN true L := by
  unfold mostN sideN
  refine List.map_congr_left fun l _ => ?_
  unfold sideRow
  refine List.map_congr_left fun t _ => ?_
  cases t <;> rfl
end Ef
set_option maxRecDepth 100000
set_option maxHeartbeats 4000000
/-! Mc: the plain law: the spread is closed; the law's own fire reaches the same places. -/
namespace Ef
open PySem L2 C8 RZ PyProof.Rows PySem.Spec PySem.W
/-- nothing is left to burn -/
structure Clo (L : LandM) (w : Wea) (st : Rows) (ends : Dic) (s : Bool) (f : Dic) : Prop where
  st : ∀ q t, (q, t) ∈ st → ahead ends q t = true → ∃ v, v ≤ t ∧ getK f q = some v
  lk : ∀ l ∈ L.links, ∀ t e, getK f l.one = some t → caughtM L w (sideRow s l) t = some e → ahead ends l.other e = true → ∃ v, v ≤ e ∧ getK f l.other = some v
section
variable {L : LandM} {w : Wea} {st : Rows} {ends : Dic} {s : Bool} {Q : LinkM → Prop} {wt fd : Dic}
theorem ei_nil {q : Str} {v : Int} (h : Ei fd [] q v) : getK fd q = some v := h.elim id (fun h => by cases h)
theorem SpJ.clo (J : SpJ L w st ends s (fun _ => True) [] fd) : Clo L w st ends s fd :=
  ⟨fun q t h a => by obtain ⟨v, lv, hv⟩ := J.sc q t h a; exact ⟨v, lv, ei_nil hv⟩,
   fun l hl t e h1 h2 h3 => by obtain ⟨v, lv, hv⟩ := J.lk l hl trivial t e h1 h2 h3; exact ⟨v, lv, ei_nil hv⟩⟩
/-- rows of one side lie below those of another -/
def RowLe (L : LandM) (s1 s2 : Bool) : Prop := ∀ l ∈ L.links, ∀ (i : Nat) v, (sideRow s2 l).getD i none = some v → ∃ v', (sideRow s1 l).getD i none = some v' ∧ v' ≤ v
theorem rowLe_rfl (s : Bool) : RowLe L s s := fun l _ i v h => ⟨v, h, Int.le_refl _⟩
theorem rch_dom (up : (w.map (·.1)).Pairwise (· < ·)) {s1 s2 : Bool} (R : RowLe L s1 s2) (C : Clo L w st ends s1 fd) {d : Nat} {q : Str} {t : Int} (h : Rch L w st ends s2 d q t) : ∃ v, v ≤ t ∧ getK fd q = some v := by
  induction h with
  | start q t h a => exact C.st q t h a
  | hop d l t e hl _ hc ha ih =>
    obtain ⟨v, lv, hv⟩ := ih
    obtain ⟨e', he, le⟩ := caught_mono up lv (R l hl) hc
    obtain ⟨u, lu, hu⟩ := C.lk l hl v e' hv he (ahead_mono le ha)
    exact ⟨u, Int.le_trans lu le, hu⟩
/-! ### the law's fire -/
theorem start_dec : ∀ (t : Dic) (r : Str × Int), Dec t (startStep ends t r) := fun t r q v h => by
  unfold startStep
  split
  · rename_i c
    rw [getK_set]
    by_cases z : q = r.1
    · rw [if_pos z]
      rw [Bool.and_eq_true_iff] at c
      have c2 := c.2
      unfold ahead at c2
      rw [← z, h] at c2
      have c2 : decide (r.2 < v) = true := c2
      have := of_decide_eq_true c2
      exact ⟨r.2, rfl, by omega⟩
    · rw [if_neg z]; exact ⟨v, h, Int.le_refl _⟩
  · exact ⟨v, h, Int.le_refl _⟩
theorem link_dec : ∀ (t : Dic) (l : LinkM), Dec t (linkStep L w s ends t l) := fun t l q v h => by
  unfold linkStep
  split
  · exact ⟨v, h, Int.le_refl _⟩
  · split
    · exact ⟨v, h, Int.le_refl _⟩
    · rename_i e _
      split
      · rename_i c
        rw [getK_set]
        by_cases z : q = l.other
        · rw [if_pos z]
          rw [Bool.and_eq_true_iff] at c
          have c2 := c.2
          unfold ahead at c2
          rw [← z, h] at c2
          have c2 : decide (e < v) = true := c2
          have := of_decide_eq_true c2
          exact ⟨e, rfl, by omega⟩
        · rw [if_neg z]; exact ⟨v, h, Int.le_refl _⟩
      · exact ⟨v, h, Int.le_refl _⟩
def DomD (L : LandM) (w : Wea) (st : Rows) (ends : Dic) (s : Bool) (n : Nat) (b : Dic) : Prop := ∀ d, d ≤ n → ∀ q t, Rch L w st ends s d q t → ∃ v, getK b q = some v ∧ v ≤ t
theorem dom_start : DomD L w st ends s 0 (st.foldl (startStep ends) []) := by
  have main : ∀ (l : Rows) (b : Dic) (q : Str) (t : Int), (q, t) ∈ l → ahead ends q t = true → ∃ v, getK (l.foldl (startStep ends) b) q = some v ∧ v ≤ t := by
    intro l
    induction l with
    | nil => intro b q t h; cases h
    | cons r l ih =>
      intro b q t h a
      rcases List.mem_cons.mp h with e | h
      · subst e
        have : ∃ v, getK (startStep ends b (q, t)) q = some v ∧ v ≤ t := by
          unfold startStep
          by_cases c : ahead b q t = true
          · refine ⟨t, ?_, Int.le_refl _⟩
            rw [if_pos (show (ahead ends q t && ahead b q t) = true by rw [a, c]; rfl), getK_set, if_pos rfl]
          · rw [if_neg (show ¬ (ahead ends q t && ahead b q t) = true by rw [a]; exact c)]
            exact ahead_no (by revert c; cases ahead b q t <;> simp)
        obtain ⟨v, hv, lv⟩ := this
        obtain ⟨v2, h2, l2⟩ := fold_dec start_dec l _ q v hv
        exact ⟨v2, h2, Int.le_trans l2 lv⟩
      · exact ih _ q t h a
  intro d hd q t h
  cases h with
  | start _ _ h a => exact main st [] q t h a
  | hop d _ _ _ _ _ _ _ => exact absurd hd (Nat.not_succ_le_zero d)
theorem dom_round (up : (w.map (·.1)).Pairwise (· < ·)) {n : Nat} {b : Dic} (D : DomD L w st ends s n b) : DomD L w st ends s (n + 1) (roundM L w s ends b) := by
  have dec : Dec b (roundM L w s ends b) := fold_dec link_dec L.links b
  intro d hd q t h
  by_cases z : d ≤ n
  · obtain ⟨v, hv, lv⟩ := D d z q t h
    obtain ⟨v2, h2, l2⟩ := dec q v hv
    exact ⟨v2, h2, Int.le_trans l2 lv⟩
  · cases h with
    | start _ _ _ _ => exact absurd (Nat.zero_le n) z
    | hop d l t1 e hl hr hc ha =>
      obtain ⟨v, hv, lv⟩ := D d (by omega) _ _ hr
      obtain ⟨pre, post, hs⟩ := List.append_of_mem hl
      unfold roundM
      rw [hs, List.foldl_append, List.foldl_cons]
      obtain ⟨v1, h1, l1⟩ := fold_dec (f := linkStep L w s ends) link_dec pre b l.one v hv
      obtain ⟨e', he, le⟩ := caught_mono up (Int.le_trans l1 lv) (rowLe_rfl (L := L) s l hl) hc
      have a' := ahead_mono le ha
      have : ∃ v, getK (linkStep L w s ends (pre.foldl (linkStep L w s ends) b) l) l.other = some v ∧ v ≤ t := by
        generalize pre.foldl (linkStep L w s ends) b = c at h1 ⊢
        unfold linkStep
        rw [h1]
        show ∃ v, getK (match caughtM L w (sideRow s l) v1 with | none => c | some e => if (ahead ends l.other e && ahead c l.other e) = true then setK c l.other e else c) l.other = some v ∧ v ≤ t
        rw [he]
        show ∃ v, getK (if (ahead ends l.other e' && ahead c l.other e') = true then setK c l.other e' else c) l.other = some v ∧ v ≤ t
        cases z : ahead c l.other e' with
        | true =>
          rw [if_pos (by rw [a']; rfl), getK_set, if_pos rfl]
          exact ⟨e', rfl, le⟩
        | false =>
          rw [if_neg (by rw [a']; exact Bool.false_ne_true)]
          obtain ⟨u, hu, lu⟩ := ahead_no z
          exact ⟨u, hu, by omega⟩
      obtain ⟨u, hu, lu⟩ := this
      obtain ⟨u2, h2, l2⟩ := fold_dec (f := linkStep L w s ends) link_dec post _ l.other u hu
      exact ⟨u2, h2, Int.le_trans l2 lu⟩
theorem dom_turns (up : (w.map (·.1)).Pairwise (· < ·)) {b : Dic} (D : DomD L w st ends s 0 b) : ∀ i, DomD L w st ends s i (turnsM L w s ends b i)
  | 0 => D
  | i + 1 => by rw [turns_succ]; exact dom_round up (dom_turns up D i)
/-- all that stands in the dict is reached -/
def AllR (L : LandM) (w : Wea) (st : Rows) (ends : Dic) (s : Bool) (b : Dic) : Prop := ∀ q t, getK b q = some t → ∃ d, Rch L w st ends s d q t
theorem allR_start : ∀ (l : Rows), (∀ r ∈ l, r ∈ st) → ∀ b : Dic, AllR L w st ends s b → AllR L w st ends s (l.foldl (startStep ends) b)
  | [], _, b, h => h
  | r :: l, hs, b, h => by
    refine allR_start l (fun x hx => hs x (List.mem_cons_of_mem _ hx)) _ ?_
    intro q t e
    unfold startStep at e
    split at e
    · rename_i c
      rw [getK_set] at e
      by_cases z : q = r.1
      · rw [if_pos z] at e
        cases e
        rw [Bool.and_eq_true_iff] at c
        rw [z]
        exact ⟨0, .start r.1 r.2 (hs r List.mem_cons_self) c.1⟩
      · rw [if_neg z] at e; exact h q t e
    · exact h q t e
theorem allR_links : ∀ (ls : List LinkM), (∀ l ∈ ls, l ∈ L.links) → ∀ b : Dic, AllR L w st ends s b → AllR L w st ends s (ls.foldl (linkStep L w s ends) b)
  | [], _, b, h => h
  | l :: ls, hs, b, h => by
    refine allR_links ls (fun x hx => hs x (List.mem_cons_of_mem _ hx)) _ ?_
    intro q t e
    unfold linkStep at e
    split at e
    · exact h q t e
    · rename_i t1 ht1
      split at e
      · exact h q t e
      · rename_i e1 he1
        split at e
        · rename_i c
          rw [getK_set] at e
          by_cases z : q = l.other
          · rw [if_pos z] at e
            cases e
            rw [Bool.and_eq_true_iff] at c
            obtain ⟨d, r⟩ := h _ _ ht1
            rw [z]
            exact ⟨d + 1, .hop d l t1 t (hs l List.mem_cons_self) r he1 c.1⟩
          · rw [if_neg z] at e; exact h q t e
        · exact h q t e
theorem allR_turns {b : Dic} (h : AllR L w st ends s b) : ∀ i, AllR L w st ends s (turnsM L w s ends b i)
  | 0 => h
  | i + 1 => by rw [turns_succ]; exact allR_links L.links (fun l hl => hl) _ (allR_turns h i)
/-- the law's fire and the spread reach the same places -/
theorem fire_spread (H : SpH L w st s) (br : Rows) (p : Str) : (getK (fireM L w st br s) p).isSome = (getK (spreadM L w st br (sideN s L)) p).isSome := by
  have J := spread_ok H (br := br)
  have C := J.clo
  cases h : getK (fireM L w st br s) p with
  | some t =>
    obtain ⟨d, r⟩ := allR_turns (allR_start (L := L) (w := w) (ends := leastK br) (s := s) st (fun r h => h) [] (fun q t e => by cases e)) (L.places.length + 1) p t h
    obtain ⟨v, _, hv⟩ := rch_dom H.up (rowLe_rfl s) C r
    rw [hv]; rfl
  | none =>
    cases h2 : getK (spreadM L w st br (sideN s L)) p with
    | none => rfl
    | some t =>
      exfalso
      obtain ⟨d, hd, r⟩ := J.rc p t (.inl h2)
      have := J.base.fl
      obtain ⟨v, hv, _⟩ := dom_turns H.up (dom_start (L := L) (w := w) (st := st) (ends := leastK br) (s := s)) (L.places.length + 1) d (by omega) p t r
      have e : getK (fireM L w st br s) p = some v := hv
      rw [h] at e; cases e
/-- what is reached slowly is reached fast -/
theorem slow_fast (H1 : SpH L w st false) (H2 : SpH L w st true) (R : RowLe L false true) (br : Rows) (p : Str) (h : (getK (spreadM L w st br (sideN true L)) p).isSome = true) : (getK (spreadM L w st br (sideN false L)) p).isSome = true := by
  obtain ⟨t, e⟩ := Option.isSome_iff_exists.mp h
  obtain ⟨d, _, r⟩ := (spread_ok H2 (br := br)).rc p t (.inl e)
  obtain ⟨v, _, hv⟩ := rch_dom H1.up R (spread_ok H1 (br := br)).clo r
  rw [hv]; rfl
end
end Ef
set_option maxRecDepth 100000
set_option maxHeartbeats 4000000
/-! Md: the plain law: the program's check and the law's own check answer alike. -/
namespace Ef
open PySem L2 C8 RZ PyProof.Rows PySem.Spec PySem.W
theorem nodup_inj {α β : Type} {f : α → β} : ∀ {xs : List α}, (xs.map f).Nodup → ∀ {a b : α}, a ∈ xs → b ∈ xs → f a = f b → a = b
  | [], _, a, b, h, _, _ => by cases h
  | x :: xs, nd, a, b, ha, hb, e => by
    have nd2 := List.nodup_cons.mp nd
    rcases List.mem_cons.mp ha with ea | ha1
    · rcases List.mem_cons.mp hb with eb | hb1
      · rw [ea, eb]
      · exact absurd (by rw [← ea, e]; exact List.mem_map.mpr ⟨b, hb1, rfl⟩) nd2.1
    · rcases List.mem_cons.mp hb with eb | hb1
      · exact absurd (by rw [← eb, ← e]; exact List.mem_map.mpr ⟨a, ha1, rfl⟩) nd2.1
      · exact nodup_inj nd2.2 ha1 hb1 e
section
variable {L : LandM} {w : Wea} {st br : Rows} {s : Bool} {ends : Dic}
theorem hop_eq (nd : (namesL L).Nodup) (ho : ∀ l ∈ L.links, l.other ∈ L.places) (q r : RowC) : linkOk L w (sideN s L) ends q r = (ahead ends r.1 r.2.2 && hopOk L w s q r) := by
  have fe : ∀ l, l ∈ L.links.filter (hopL q r) ↔ l ∈ L.links ∧ r.2.1 = some l.name ∧ l.one = q.1 ∧ l.other = r.1 := by
    intro l
    rw [List.mem_filter]
    unfold hopL
    rw [Bool.and_eq_true_iff, Bool.and_eq_true_iff, decide_eq_true_iff, decide_eq_true_iff, decide_eq_true_iff]
  have hnil : (∀ l, ¬ (l ∈ L.links ∧ r.2.1 = some l.name ∧ l.one = q.1 ∧ l.other = r.1)) → hopOk L w s q r = false := by
    intro h
    have : L.links.filter (hopL q r) = [] := List.eq_nil_iff_forall_not_mem.mpr fun l hl => h l ((fe l).mp hl)
    unfold hopOk
    rw [this]
  unfold linkOk
  cases o : r.2.1 with
  | none =>
    rw [hnil (fun l h => by rw [o] at h; cases h.2.1)]
    show (decide (r.1 ∈ L.places) && (false && _)) = _
    rw [Bool.false_and, Bool.and_false, Bool.and_false]
  | some nm =>
    show (decide (r.1 ∈ L.places) && (decide (nm ∈ namesL L) && (ahead ends r.1 r.2.2 && stepOk L w (sideN s L) q r nm))) = _
    by_cases hn : nm ∈ namesL L
    · have hlt : (namesL L).idxOf nm < L.links.length := by have := List.idxOf_lt_length_iff.mpr hn; unfold namesL at this ⊢; rwa [List.length_map] at this
      obtain ⟨l, hl⟩ : ∃ l, L.links[(namesL L).idxOf nm]? = some l := ⟨_, List.getElem?_eq_getElem hlt⟩
      have hm : l ∈ L.links := List.mem_of_getElem? hl
      have hnm : l.name = nm := by
        have h1 : (namesL L)[(namesL L).idxOf nm]? = some l.name := by unfold namesL at hl ⊢; rw [List.getElem?_map, hl]; rfl
        have hlt2 := List.idxOf_lt_length_iff.mpr hn
        rw [List.getElem?_eq_getElem hlt2, List.getElem_idxOf hlt2] at h1
        exact (Option.some.inj h1).symm
      have hz : stepOk L w (sideN s L) q r nm = (decide (l.one = q.1) && (decide (l.other = r.1) && decide (caughtM L w (sideRow s l) q.2.2 = some r.2.2))) := by
        unfold stepOk sideN
        rw [zip_self, List.getElem?_map, hl]; rfl
      rw [hz, decide_eq_true hn]
      by_cases c : l.one = q.1 ∧ l.other = r.1
      · have hf : ∃ rest, L.links.filter (hopL q r) = l :: rest := by
          cases z : L.links.filter (hopL q r) with
          | nil => exact absurd ((fe l).mpr ⟨hm, by rw [o, hnm], c.1, c.2⟩) (by rw [z]; exact List.not_mem_nil)
          | cons l0 rest =>
            have h0 := (fe l0).mp (by rw [z]; exact List.mem_cons_self)
            have : l0 = l := nodup_inj (f := LinkM.name) (xs := L.links) nd h0.1 hm (by rw [o] at h0; rw [hnm]; exact (Option.some.inj h0.2.1).symm)
            rw [this]; exact ⟨rest, rfl⟩
        obtain ⟨rest, hf⟩ := hf
        have hh : hopOk L w s q r = decide (caughtM L w (sideRow s l) q.2.2 = some r.2.2) := by unfold hopOk; rw [hf]
        rw [hh, decide_eq_true c.1, decide_eq_true c.2, decide_eq_true (show r.1 ∈ L.places by rw [← c.2]; exact ho l hm)]
        simp
      · rw [hnil (fun l' h => c (by
          have : l' = l := nodup_inj (f := LinkM.name) (xs := L.links) nd h.1 hm (by rw [o] at h; rw [hnm]; exact (Option.some.inj h.2.1).symm)
          rw [this] at h
          exact h.2.2))]
        have : (decide (l.one = q.1) && (decide (l.other = r.1) && decide (caughtM L w (sideRow s l) q.2.2 = some r.2.2))) = false := by
          rw [← Bool.and_assoc]
          have : (decide (l.one = q.1) && decide (l.other = r.1)) = false := by
            rw [← Bool.not_eq_true, Bool.and_eq_true_iff, decide_eq_true_iff, decide_eq_true_iff]; exact c
          rw [this]; rfl
        rw [this]
        simp
    · rw [hnil (fun l h => hn (by rw [o] at h; rw [Option.some.inj h.2.1]; exact List.mem_map.mpr ⟨l, h.1, rfl⟩)), decide_eq_false hn]
      simp
theorem zip_drop {α : Type} (c : List α) (x y : α) : (x, y) ∈ c.zip (c.drop 1) ↔ ∃ k, c[k]? = some x ∧ c[k + 1]? = some y := by
  rw [List.mem_iff_getElem?]
  constructor
  · rintro ⟨k, h⟩
    rw [List.getElem?_zip_eq_some, List.getElem?_drop] at h
    exact ⟨k, h.1, by rw [Nat.add_comm]; exact h.2⟩
  · rintro ⟨k, h1, h2⟩
    refine ⟨k, ?_⟩
    rw [List.getElem?_zip_eq_some, List.getElem?_drop]
    exact ⟨h1, by rw [Nat.add_comm]; exact h2⟩
theorem okAt_all (ch : List RowC) : (List.range ch.length).all (okAt L w s ends ch) = true ↔ (∀ (k : Nat) r, ch[k]? = some r → ahead ends r.1 r.2.2 = true) ∧ ∀ (k : Nat) q r, ch[k]? = some q → ch[k + 1]? = some r → hopOk L w s q r = true := by
  rw [List.all_eq_true]
  constructor
  · intro h
    refine ⟨fun k r e => ?_, fun k q r e1 e2 => ?_⟩
    · have := h k (List.mem_range.mpr (some_lt e))
      unfold okAt at this
      rw [e] at this
      exact (Bool.and_eq_true_iff.mp this).1
    · have := h (k + 1) (List.mem_range.mpr (some_lt e2))
      unfold okAt at this
      rw [e2] at this
      have := (Bool.and_eq_true_iff.mp this).2
      rw [decide_eq_false (Nat.succ_ne_zero k), Bool.false_or, Nat.add_sub_cancel, e1] at this
      exact this
  · rintro ⟨h1, h2⟩ k hk
    have hk := List.mem_range.mp hk
    unfold okAt
    cases e : ch[k]? with
    | none => rfl
    | some r =>
      show (ahead ends r.1 r.2.2 && _) = true
      rw [h1 k r e, Bool.true_and]
      cases k with
      | zero => rfl
      | succ k =>
        rw [Nat.add_sub_cancel]
        cases e2 : ch[k]? with
        | none => simp
        | some q => rw [Bool.or_eq_true]; exact .inr (h2 k q r e2 e)
theorem chain_eq (nd : (namesL L).Nodup) (ho : ∀ l ∈ L.links, l.other ∈ L.places) (ch : List RowC) (p : Str) : chainOk L w st br (sideN s L) ch p = lawChainM L w st br s ch p := by
  cases ch with
  | nil => rfl
  | cons c0 ch =>
    cases hz : (c0 :: ch).getLast? with
    | none => rw [List.getLast?_eq_none_iff] at hz; cases hz
    | some z =>
      have e1 : chainOk L w st br (sideN s L) (c0 :: ch) p = (c0.2.1.isNone && (decide (z.1 = p) && ((decide ((c0.1, c0.2.2) ∈ st) && ahead (leastK br) c0.1 c0.2.2) && stepsOk L w (sideN s L) (leastK br) (c0 :: ch)))) := by
        show (c0.2.1.isNone && (lastOf (c0 :: ch) p && (headOk st (leastK br) c0 && _))) = _
        unfold lastOf headOk
        rw [hz]
      have e2 : lawChainM L w st br s (c0 :: ch) p = ((decide (c0.2.1 = none) && (decide (z.1 = p) && decide ((c0.1, c0.2.2) ∈ st))) && (List.range (c0 :: ch).length).all (okAt L w s (leastK br) (c0 :: ch))) := by
        unfold lawChainM
        rw [hz]
      have e3 : c0.2.1.isNone = decide (c0.2.1 = none) := by cases c0.2.1 <;> rfl
      have e4 : (ahead (leastK br) c0.1 c0.2.2 && stepsOk L w (sideN s L) (leastK br) (c0 :: ch)) = (List.range (c0 :: ch).length).all (okAt L w s (leastK br) (c0 :: ch)) := by
        rw [Bool.eq_iff_iff, okAt_all, Bool.and_eq_true_iff]
        unfold stepsOk
        rw [List.all_eq_true]
        constructor
        · rintro ⟨h1, h2⟩
          have h3 : ∀ (k : Nat) q r, (c0 :: ch)[k]? = some q → (c0 :: ch)[k + 1]? = some r → ahead (leastK br) r.1 r.2.2 = true ∧ hopOk L w s q r = true := by
            intro k q r a b
            have := h2 (q, r) ((zip_drop _ q r).mpr ⟨k, a, b⟩)
            rw [hop_eq nd ho, Bool.and_eq_true_iff] at this
            exact this
          refine ⟨fun k r e => ?_, fun k q r a b => (h3 k q r a b).2⟩
          cases k with
          | zero => cases e; exact h1
          | succ k =>
            have hl := some_lt e
            exact (h3 k _ r (List.getElem?_eq_getElem (by omega)) e).1
        · rintro ⟨h1, h2⟩
          refine ⟨h1 0 c0 rfl, fun x hx => ?_⟩
          obtain ⟨q, r⟩ := x
          obtain ⟨k, a, b⟩ := (zip_drop _ q r).mp hx
          show linkOk L w (sideN s L) (leastK br) q r = true
          rw [hop_eq nd ho, h1 _ r b, h2 k q r a b]; rfl
      rw [e1, e2, e3, ← e4]
      simp only [Bool.and_assoc]
theorem has_ahead (least : Dic) (p : Str) (m : Int) : (!hasBy least p m) = ahead least p m := by
  unfold hasBy ahead
  cases getK least p with
  | none => show (!decide (m + 1 ≤ m)) = true; rw [decide_eq_false (by omega)]; rfl
  | some v =>
    show (!decide (v ≤ m)) = decide (m < v)
    by_cases z : v ≤ m
    · rw [decide_eq_true z, decide_eq_false (by omega)]; rfl
    · rw [decide_eq_false z, decide_eq_true (by omega)]; rfl
theorem closed_eq (k : Dic) : closedM L w st br (sideN s L) k = (st.all (okStL (leastK br) k) && L.links.all (okLkL L w s (leastK br) k)) := by
  unfold closedM sideN
  rw [zip_self, List.all_map]
  have h1 : (okLk L w (leastK br) k ∘ fun x => (x, sideRow s x)) = okLkL L w s (leastK br) k := by
    funext l
    show okLk L w (leastK br) k (l, sideRow s l) = _
    unfold okLk okLkL
    cases getK k l.one with
    | none => rfl
    | some t =>
      show (match caughtM L w (sideRow s l) t with | none => true | some e => !(ahead (leastK br) l.other e && !hasBy k l.other e)) = (match caughtM L w (sideRow s l) t with | none => true | some e => !(ahead (leastK br) l.other e && ahead k l.other e))
      cases caughtM L w (sideRow s l) t with
      | none => rfl
      | some e =>
        show (!(ahead (leastK br) l.other e && !hasBy k l.other e)) = !(ahead (leastK br) l.other e && ahead k l.other e)
        rw [has_ahead]
  have h2 : okSt (leastK br) k = okStL (leastK br) k := by
    funext r
    unfold okSt okStL
    rw [has_ahead]
  rw [h1, h2]
theorem keys_all (rs : Rows) (ps : List Str) : keysOk (leastK rs) ps = rs.all fun r => decide (r.1 ∈ ps) := by
  rw [Bool.eq_iff_iff]
  unfold keysOk
  rw [List.all_eq_true, List.all_eq_true]
  constructor
  · intro h r hr
    obtain ⟨v, hv, _⟩ := least_le (rs := rs) (q := r.1) (v := r.2) hr
    exact h (r.1, v) (getK_mem hv)
  · intro h q hq
    have := get_of_mem (least_nodup rs) (k := q.1) (v := q.2) hq
    exact h _ (least_in this)
theorem lab_eq {rs : Rows} (h0 : ∀ r ∈ rs, 0 ≤ r.2) : leastLab L rs = if keysOk (leastK rs) L.places = true then some (leastK rs) else none := by
  rw [keys_all]
  unfold leastLab
  have : rs.all (okLab L) = rs.all fun r => decide (r.1 ∈ L.places) := by
    rw [Bool.eq_iff_iff, List.all_eq_true, List.all_eq_true]
    refine forall_congr' fun r => ⟨fun h hr => ?_, fun h hr => ?_⟩
    · have := h hr
      unfold okLab at this
      exact (Bool.and_eq_true_iff.mp this).1
    · have := h0 r hr
      unfold okLab
      rw [h hr, decide_eq_false (by omega)]; rfl
  rw [this]
theorem check_right (nd : (namesL L).Nodup) (ho : ∀ l ∈ L.links, l.other ∈ L.places) (p : Str) {t : Told} (ht : TextOk t) : checkM L w st br p t = lawRightM L w st br p t := by
  unfold checkM lawRightM
  rw [most_side, least_side, chain_eq nd ho, chain_eq nd ho]
  by_cases h1 : t.word = "surely"
  · rw [if_pos h1, if_pos h1]
  rw [if_neg h1, if_neg h1, lab_eq (fun r hr => (ht.lab r hr).2.1)]
  unfold lawClosedM
  by_cases hk : keysOk (leastK t.labels) L.places = true
  · rw [if_pos hk, hk]
    show (if (getK (leastK t.labels) p).isSome = true then false else _) = _
    rw [closed_eq, closed_eq]
    cases hg : (getK (leastK t.labels) p).isSome with
    | true => rw [if_pos rfl]; simp
    | false =>
      rw [if_neg Bool.false_ne_true]
      by_cases h2 : t.word = "never"
      · rw [if_pos h2, if_pos h2]; simp
      · rw [if_neg h2, if_neg h2]
        have h3 : t.word = "maybe" := by
          have := ht.word
          simp [wordsOk] at this
          rcases this with h | h | h
          · exact absurd h h2
          · exact h
          · exact absurd h h1
        rw [decide_eq_true h3]; simp
  · rw [if_neg hk]
    have hk : keysOk (leastK t.labels) L.places = false := by revert hk; cases keysOk (leastK t.labels) L.places <;> simp
    rw [hk]
    simp
end
end Ef
set_option maxRecDepth 100000
set_option maxHeartbeats 4000000
/-! Me: the plain law: the paper that is told is right; its text and the spoilt one are in order. -/
namespace Ef
open PySem L2 C8 RZ PyProof.Rows PySem.Spec PySem.W
/-- the rows behind a row: each by a link -/
def Tail (L : LandM) (w : Wea) (ends : Dic) (s : Bool) : RowC → List RowC → Prop
  | _, [] => True
  | q, r :: rs => (∃ l ∈ L.links, r.2.1 = some l.name ∧ l.one = q.1 ∧ l.other = r.1 ∧ caughtM L w (sideRow s l) q.2.2 = some r.2.2) ∧ ahead ends r.1 r.2.2 = true ∧ Tail L w ends s r rs
section
variable {L : LandM} {w : Wea} {st br : Rows} {s : Bool} {ends fd : Dic}
theorem tail_any {p : Str} {x y : Option Str} {t : Int} {tl : List RowC} (h : Tail L w ends s (p, x, t) tl) : Tail L w ends s (p, y, t) tl := by
  cases tl with
  | nil => exact h
  | cons r rs => exact h
theorem hop_ok (nd : (namesL L).Nodup) {q r : RowC} {l : LinkM} (hl : l ∈ L.links) (h1 : r.2.1 = some l.name) (h2 : l.one = q.1) (h3 : l.other = r.1) (h4 : caughtM L w (sideRow s l) q.2.2 = some r.2.2) : hopOk L w s q r = true := by
  have hm : l ∈ L.links.filter (hopL q r) := List.mem_filter.mpr ⟨hl, by unfold hopL; rw [decide_eq_true h1, decide_eq_true h2, decide_eq_true h3]; rfl⟩
  unfold hopOk
  cases e : L.links.filter (hopL q r) with
  | nil => rw [e] at hm; cases hm
  | cons l0 rest =>
    have h0 := List.mem_filter.mp (show l0 ∈ L.links.filter (hopL q r) by rw [e]; exact List.mem_cons_self)
    have hn : r.2.1 = some l0.name := by
      have := h0.2
      unfold hopL at this
      exact of_decide_eq_true (Bool.and_eq_true_iff.mp this).1
    have : l0 = l := nodup_inj (f := LinkM.name) (xs := L.links) nd h0.1 hl (by rw [h1] at hn; exact (Option.some.inj hn).symm)
    show decide (caughtM L w (sideRow s l0) q.2.2 = some r.2.2) = true
    rw [this]
    exact decide_eq_true h4
theorem tail_all (nd : (namesL L).Nodup) : ∀ (tl : List RowC) (q : RowC), Tail L w ends s q tl → (∀ (k : Nat) r, tl[k]? = some r → ahead ends r.1 r.2.2 = true) ∧ ∀ (k : Nat) a b, (q :: tl)[k]? = some a → (q :: tl)[k + 1]? = some b → hopOk L w s a b = true
  | [], q, _ => ⟨fun k r e => by simp at e, fun k a b _ e => by simp at e⟩
  | r :: rs, q, ⟨⟨l, hl, h1, h2, h3, h4⟩, ha, ht⟩ => by
    obtain ⟨i1, i2⟩ := tail_all nd rs r ht
    refine ⟨fun k x e => ?_, fun k a b e1 e2 => ?_⟩
    · cases k with
      | zero => cases e; exact ha
      | succ k => exact i1 k x e
    · cases k with
      | zero => cases e1; cases e2; exact hop_ok nd hl h1 h2 h3 h4
      | succ k => exact i2 k a b e1 e2
/-- a row of a chain -/
def RowGood (L : LandM) (fd : Dic) (r : RowC) : Prop := getK fd r.1 = some r.2.2 ∧ ∀ n, r.2.1 = some n → n ∈ namesL L
theorem back_some (J : SpJ L w st ends s (fun _ => True) [] fd) {p : Str} {t : Int} (ht : getK fd p = some t) (hb : getK (leastK st) p ≠ some t) : (backM L w (sideN s L) fd p).isSome = true := by
  rcases J.ju p t (.inl ht) with h | ⟨l, hl, ho, t1, h1, h2⟩
  · exact absurd h hb
  · unfold backM sideN
    rw [zip_self, List.find?_isSome]
    refine ⟨(l, sideRow s l), List.mem_map.mpr ⟨l, hl, rfl⟩, ?_⟩
    unfold backP
    show (decide (l.other = p) && ((getK fd l.one).isSome && decide (caughtM L w (sideRow s l) ((getK fd l.one).getD 0) = getK fd p))) = true
    rw [h1, ht]
    show (decide (l.other = p) && (true && decide (caughtM L w (sideRow s l) t1 = some t))) = true
    rw [decide_eq_true ho, decide_eq_true h2]; rfl
theorem rch_nn (H : SpH L w st s) {d : Nat} {q : Str} {t : Int} (h : Rch L w st ends s d q t) : 0 ≤ t := by
  induction h with
  | start q t h _ => exact H.st0 _ h
  | hop d l t e hl _ hc _ ih =>
    have := caught_gt (fun v hv => (H.pos l hl v hv).1) hc
    omega
theorem fd_nn (H : SpH L w st s) (J : SpJ L w st ends s (fun _ => True) [] fd) {q : Str} {t : Int} (h : getK fd q = some t) : 0 ≤ t := by
  obtain ⟨d, _, r⟩ := J.rc q t (.inl h)
  exact rch_nn H r
theorem fd_in (J : SpJ L w st ends s (fun _ => True) [] fd) {q : Str} {t : Int} (h : getK fd q = some t) : q ∈ L.places := J.base.fk _ (getK_mem h)
theorem fd_le (J : SpJ L w st ends s (fun _ => True) [] fd) (h24 : L.places.length ≤ 24) {q : Str} {t : Int} (h : getK fd q = some t) : t ≤ 396 := by
  have := J.bo q t (.inl h)
  have := J.base.fl
  omega
theorem chainGo_ok (H : SpH L w st s) (J : SpJ L w st ends s (fun _ => True) [] fd) (p0 : Str) : ∀ (n : Nat) (p : Str) (acc : List RowC) (t : Int), getK fd p = some t → t.toNat < n → Tail L w ends s (p, none, t) acc.reverse → (∀ x : Option Str, ((((p, x, t) : RowC) :: acc.reverse).getLast?.map (·.1)) = some p0) → (∀ r ∈ acc, RowGood L fd r) →
    ∃ q u tl, chainGo L w (sideN s L) (leastK st) fd n p acc = (q, none, u) :: tl ∧ (q, u) ∈ st ∧ ahead ends q u = true ∧ Tail L w ends s (q, none, u) tl ∧ ((((q, none, u) : RowC) :: tl).getLast?.map (·.1)) = some p0 ∧ ∀ r ∈ ((q, none, u) : RowC) :: tl, RowGood L fd r
  | 0, p, acc, t, _, hn, _, _, _ => absurd hn (Nat.not_lt_zero _)
  | n + 1, p, acc, t, ht, hn, hT, hl, hR => by
    have er : ∀ x, rowOf fd p x = (p, x, t) := fun x => by unfold rowOf; rw [ht]; rfl
    unfold chainGo
    by_cases c : getK (leastK st) p = getK fd p
    · rw [if_pos c]
      rw [ht] at c
      obtain ⟨d, _, r⟩ := J.rc p t (.inl ht)
      refine ⟨p, t, acc.reverse, by rw [List.reverse_append, er]; rfl, least_in c, rch_ahead r, hT, hl none, fun r hr => ?_⟩
      rcases List.mem_cons.mp hr with rfl | hr
      · exact ⟨ht, fun n h => by cases h⟩
      · exact hR r (List.mem_reverse.mp hr)
    · rw [if_neg c]
      have hs := back_some J ht (by rw [ht] at c; exact c)
      obtain ⟨lr, elr⟩ := Option.isSome_iff_exists.mp hs
      rw [elr]
      show ∃ q u tl, chainGo L w (sideN s L) (leastK st) fd n lr.1.one (acc ++ [rowOf fd p (some lr.1.name)]) = _ ∧ _
      have h1 := List.find?_some elr
      have h2 := List.mem_of_find?_eq_some elr
      unfold sideN at h2
      rw [zip_self] at h2
      obtain ⟨l, hll, e⟩ := List.mem_map.mp h2
      subst e
      unfold backP at h1
      rw [Bool.and_eq_true_iff, Bool.and_eq_true_iff] at h1
      obtain ⟨a, b, c2⟩ := h1
      have a : l.other = p := of_decide_eq_true a
      obtain ⟨t1, e1⟩ := Option.isSome_iff_exists.mp b
      have e1 : getK fd l.one = some t1 := e1
      have c2 : caughtM L w (sideRow s l) ((getK fd l.one).getD 0) = getK fd p := of_decide_eq_true c2
      rw [e1, ht] at c2
      have c2 : caughtM L w (sideRow s l) t1 = some t := c2
      have hgt := caught_gt (fun v hv => (H.pos l hll v hv).1) c2
      have h0 := fd_nn H J e1
      obtain ⟨d, _, r⟩ := J.rc p t (.inl ht)
      refine chainGo_ok H J p0 n l.one _ t1 e1 (by omega) ?_ ?_ ?_
      · rw [List.reverse_append, er]
        exact ⟨⟨l, hll, rfl, rfl, a, c2⟩, rch_ahead r, tail_any hT⟩
      · intro x
        rw [List.reverse_append, er]
        show (((l.one, x, t1) : RowC) :: ((p, some l.name, t) : RowC) :: acc.reverse).getLast?.map (·.1) = some p0
        rw [List.getLast?_cons_cons]
        exact hl _
      · intro r hr
        rcases List.mem_append.mp hr with hr | hr
        · exact hR r hr
        · rw [List.mem_singleton.mp hr, er]
          exact ⟨ht, fun n h => by cases h; exact List.mem_map.mpr ⟨l, hll, rfl⟩⟩
theorem chainM_ok (H : SpH L w st s) (J : SpJ L w st ends s (fun _ => True) [] fd) {p : Str} (hp : (getK fd p).isSome = true) : ∃ q u tl, chainM L w st (sideN s L) fd p = (q, none, u) :: tl ∧ (q, u) ∈ st ∧ ahead ends q u = true ∧ Tail L w ends s (q, none, u) tl ∧ ((((q, none, u) : RowC) :: tl).getLast?.map (·.1)) = some p ∧ ∀ r ∈ ((q, none, u) : RowC) :: tl, RowGood L fd r := by
  obtain ⟨t, ht⟩ := Option.isSome_iff_exists.mp hp
  unfold chainM
  exact chainGo_ok H J p _ p [] t ht (by rw [ht]; exact Nat.lt_succ_self _) trivial (fun x => rfl) (fun r h => by cases h)
theorem lawChain_ok (H : SpH L w st s) (nd : (namesL L).Nodup) (J : SpJ L w st (leastK br) s (fun _ => True) [] fd) {p : Str} (hp : (getK fd p).isSome = true) : lawChainM L w st br s (chainM L w st (sideN s L) fd p) p = true := by
  obtain ⟨q, u, tl, e, hst, ha, hT, hl, _⟩ := chainM_ok H J hp
  rw [e]
  cases hz : (((q, none, u) : RowC) :: tl).getLast? with
  | none => rw [hz] at hl; cases hl
  | some z =>
    rw [hz] at hl
    have hl : z.1 = p := Option.some.inj hl
    have e2 : lawChainM L w st br s ((q, none, u) :: tl) p = ((decide ((none : Option Str) = none) && (decide (z.1 = p) && decide ((q, u) ∈ st))) && (List.range (((q, none, u) : RowC) :: tl).length).all (okAt L w s (leastK br) ((q, none, u) :: tl))) := by
      unfold lawChainM
      rw [hz]
    obtain ⟨i1, i2⟩ := tail_all nd tl _ hT
    have e3 := (okAt_all (L := L) (w := w) (s := s) (ends := leastK br) ((q, none, u) :: tl)).mpr ⟨fun k r e => by
      cases k with
      | zero => cases e; exact ha
      | succ k => exact i1 k r e, i2⟩
    rw [e2, e3, decide_eq_true hl, decide_eq_true hst]; rfl
theorem lab_get (J : SpJ L w st ends s (fun _ => True) [] fd) (q : Str) : getK (leastK (labelsM L fd)) q = getK fd q := by
  have mem : ∀ v, (q, v) ∈ labelsM L fd ↔ getK fd q = some v := by
    intro v
    unfold labelsM
    rw [List.mem_map]
    constructor
    · rintro ⟨p, hp, e⟩
      have h2 := (List.mem_filter.mp hp).2
      have e1 : p = q := congrArg Prod.fst e
      have e2 : (getK fd p).getD 0 = v := congrArg Prod.snd e
      rw [e1] at e2 h2
      obtain ⟨u, hu⟩ := Option.isSome_iff_exists.mp h2
      rw [hu] at e2 ⊢
      exact congrArg some e2
    · intro h
      exact ⟨q, List.mem_filter.mpr ⟨fd_in J h, by rw [h]; rfl⟩, by rw [h]; rfl⟩
  cases h : getK fd q with
  | some v =>
    obtain ⟨v', h', _⟩ := least_le ((mem v).mpr h)
    have := (mem v').mp (least_in h')
    rw [h] at this
    rw [h', this]
  | none =>
    cases h2 : getK (leastK (labelsM L fd)) q with
    | none => rfl
    | some v =>
      have := (mem v).mp (least_in h2)
      rw [h] at this; cases this
theorem lawClosed_ok (J : SpJ L w st (leastK br) s (fun _ => True) [] fd) {p : Str} (hp : getK fd p = none) : lawClosedM L w st br s (labelsM L fd) p = true := by
  have C := J.clo
  unfold lawClosedM
  rw [lab_get J, hp, keys_all]
  have h1 : ((labelsM L fd).all fun r => decide (r.1 ∈ L.places)) = true := by
    rw [List.all_eq_true]
    intro r hr
    unfold labelsM at hr
    obtain ⟨q, hq, rfl⟩ := List.mem_map.mp hr
    exact decide_eq_true (List.mem_filter.mp hq).1
  have h2 : st.all (okStL (leastK br) (leastK (labelsM L fd))) = true := by
    rw [List.all_eq_true]
    intro r hr
    unfold okStL
    cases a : ahead (leastK br) r.1 r.2 with
    | false => rfl
    | true =>
      obtain ⟨v, lv, hv⟩ := C.st r.1 r.2 hr a
      have : ahead (leastK (labelsM L fd)) r.1 r.2 = false := by
        unfold ahead
        rw [lab_get J, hv]
        show (false || decide (r.2 < v)) = false
        rw [decide_eq_false (by omega)]; rfl
      rw [this]; rfl
  have h3 : L.links.all (okLkL L w s (leastK br) (leastK (labelsM L fd))) = true := by
    rw [List.all_eq_true]
    intro l hl
    unfold okLkL
    rw [lab_get J]
    cases ht : getK fd l.one with
    | none => rfl
    | some t =>
      show (match caughtM L w (sideRow s l) t with | none => true | some e => !(ahead (leastK br) l.other e && ahead (leastK (labelsM L fd)) l.other e)) = true
      cases hc : caughtM L w (sideRow s l) t with
      | none => rfl
      | some e =>
        show (!(ahead (leastK br) l.other e && ahead (leastK (labelsM L fd)) l.other e)) = true
        cases a : ahead (leastK br) l.other e with
        | false => rfl
        | true =>
          obtain ⟨v, lv, hv⟩ := C.lk l hl t e ht hc a
          have : ahead (leastK (labelsM L fd)) l.other e = false := by
            unfold ahead
            rw [lab_get J, hv]
            show (false || decide (e < v)) = false
            rw [decide_eq_false (by omega)]; rfl
          rw [this]; rfl
  rw [h1, h2, h3]; rfl
theorem right_ok (H1 : SpH L w st false) (H2 : SpH L w st true) (nd : (namesL L).Nodup) (p : Str) : lawRightM L w st br p (paperM L w st br p) = true := by
  have J1 := spread_ok H1 (br := br)
  have J2 := spread_ok H2 (br := br)
  unfold paperM
  rw [least_side, most_side]
  cases h1 : getK (spreadM L w st br (sideN false L)) p with
  | none =>
    show (if ("never" : Str) = "surely" then _ else if ("never" : Str) = "never" then (([] : List RowC).isEmpty && lawClosedM L w st br false (labelsM L (spreadM L w st br (sideN false L))) p) else _) = true
    rw [if_neg (by decide), if_pos rfl, lawClosed_ok J1 h1]; rfl
  | some t1 =>
    cases h2 : getK (spreadM L w st br (sideN true L)) p with
    | none =>
      show (if ("maybe" : Str) = "surely" then _ else if ("maybe" : Str) = "never" then _ else (lawClosedM L w st br true (labelsM L (spreadM L w st br (sideN true L))) p && lawChainM L w st br false (chainM L w st (sideN false L) (spreadM L w st br (sideN false L)) p) p)) = true
      rw [if_neg (by decide), if_neg (by decide), lawClosed_ok J2 h2, lawChain_ok H1 nd J1 (by rw [h1]; rfl)]; rfl
    | some t2 =>
      show (if ("surely" : Str) = "surely" then (([] : Rows).isEmpty && lawChainM L w st br true (chainM L w st (sideN true L) (spreadM L w st br (sideN true L)) p) p) else _) = true
      rw [if_pos rfl, lawChain_ok H2 nd J2 (by rw [h2]; rfl)]; rfl
/-! ### texts in order -/
structure Small (t : Told) : Prop where
  word : t.word ∈ wordsOk
  lab : ∀ r ∈ t.labels, nameM r.1 = true ∧ 0 ≤ r.2 ∧ r.2 ≤ 396
  ch : ∀ r ∈ t.chain, nameM r.1 = true ∧ (∀ n, r.2.1 = some n → nameM n = true) ∧ 0 ≤ r.2.2 ∧ r.2.2 ≤ 396
  ll : t.labels.length ≤ 24
  cl : t.chain.length ≤ 400
theorem Small.ok {t : Told} (h : Small t) : TextOk t :=
  ⟨h.word, fun r hr => ⟨(h.lab r hr).1, (h.lab r hr).2.1, by have := (h.lab r hr).2.2; omega⟩, fun r hr => ⟨(h.ch r hr).1, (h.ch r hr).2.1, (h.ch r hr).2.2.1, by have := (h.ch r hr).2.2.2; omega⟩, by have := h.ll; omega, by have := h.cl; omega⟩
theorem chain_small (H : SpH L w st s) (J : SpJ L w st ends s (fun _ => True) [] fd) (h24 : L.places.length ≤ 24) (hpn : ∀ x ∈ L.places, nameM x = true) (hln : ∀ x ∈ namesL L, nameM x = true) {p : Str} (hp : (getK fd p).isSome = true) : (∀ r ∈ chainM L w st (sideN s L) fd p, nameM r.1 = true ∧ (∀ n, r.2.1 = some n → nameM n = true) ∧ 0 ≤ r.2.2 ∧ r.2.2 ≤ 396) ∧ (chainM L w st (sideN s L) fd p).length ≤ 400 := by
  obtain ⟨q, u, tl, e, _, _, _, _, hR⟩ := chainM_ok H J hp
  constructor
  · rw [e]
    intro r hr
    obtain ⟨h1, h2⟩ := hR r hr
    exact ⟨hpn _ (fd_in J h1), fun n hn => hln n (h2 n hn), fd_nn H J h1, fd_le J h24 h1⟩
  · obtain ⟨t, ht⟩ := Option.isSome_iff_exists.mp hp
    have h := chainGo_len L w (sideN s L) (leastK st) fd (t.toNat + 1) p []
    have := fd_le J h24 ht
    unfold chainM
    rw [ht]
    have h : (chainGo L w (sideN s L) (leastK st) fd (t.toNat + 1) p []).length ≤ 0 + (t.toNat + 1) + 1 := h
    show (chainGo L w (sideN s L) (leastK st) fd (t.toNat + 1) p []).length ≤ _
    omega
theorem labels_small (H : SpH L w st s) (J : SpJ L w st ends s (fun _ => True) [] fd) (h24 : L.places.length ≤ 24) (hpn : ∀ x ∈ L.places, nameM x = true) : (∀ r ∈ labelsM L fd, nameM r.1 = true ∧ 0 ≤ r.2 ∧ r.2 ≤ 396) ∧ (labelsM L fd).length ≤ 24 := by
  refine ⟨fun r hr => ?_, Nat.le_trans (labelsM_len L fd) h24⟩
  unfold labelsM at hr
  obtain ⟨q, hq, rfl⟩ := List.mem_map.mp hr
  obtain ⟨t, ht⟩ := Option.isSome_iff_exists.mp (List.mem_filter.mp hq).2
  rw [ht]
  exact ⟨hpn q (List.mem_filter.mp hq).1, fd_nn H J ht, fd_le J h24 ht⟩
theorem paper_small (H1 : SpH L w st false) (H2 : SpH L w st true) (h24 : L.places.length ≤ 24) (hpn : ∀ x ∈ L.places, nameM x = true) (hln : ∀ x ∈ namesL L, nameM x = true) (p : Str) : Small (paperM L w st br p) := by
  have J1 := spread_ok H1 (br := br)
  have J2 := spread_ok H2 (br := br)
  unfold paperM
  rw [least_side, most_side]
  cases h1 : getK (spreadM L w st br (sideN false L)) p with
  | none =>
    have a := labels_small H1 J1 h24 hpn
    exact ⟨by simp [wordsOk], a.1, fun r h => (by cases h), a.2, Nat.zero_le _⟩
  | some t1 =>
    cases h2 : getK (spreadM L w st br (sideN true L)) p with
    | none =>
      have a := labels_small H2 J2 h24 hpn
      have b := chain_small H1 J1 h24 hpn hln (p := p) (by rw [h1]; rfl)
      exact ⟨by simp [wordsOk], a.1, b.1, a.2, b.2⟩
    | some t2 =>
      have b := chain_small H2 J2 h24 hpn hln (p := p) (by rw [h2]; rfl)
      exact ⟨by simp [wordsOk], fun r h => (by cases h), b.1, Nat.zero_le _, b.2⟩
theorem get_mem {α : Type} {xs : List α} {a : Int} (h : xs ≠ []) (z : α) : (xs[(a % (xs.length : Int)).toNat]?).getD z ∈ xs := by
  have hl : (0 : Int) < (xs.length : Int) := by
    cases xs with
    | nil => exact absurd rfl h
    | cons x xs => rw [List.length_cons]; omega
  have h1 := Int.emod_lt_of_pos a hl
  have h2 := Int.emod_nonneg a (Int.ne_of_gt hl)
  have h3 : (a % (xs.length : Int)).toNat < xs.length := by omega
  rw [List.getElem?_eq_getElem h3]
  exact List.getElem_mem h3
theorem other_name (hpn : ∀ x ∈ L.places, nameM x = true) (n : Int) : nameM (otherS L n) = true := by
  have : otherS L n ∈ L.places ++ [("zz" : Str)] := by
    unfold otherS
    exact nthS_mem (Int.emod_nonneg _ (by omega)) (by rw [List.length_append]; show _ < ((L.places.length + 1 : Nat) : Int); have := Int.emod_lt_of_pos n (show (0 : Int) < (L.places.length : Int) + 1 by omega); omega)
  rcases List.mem_append.mp this with h | h
  · exact hpn _ h
  · rw [List.mem_singleton.mp h]; decide +kernel
theorem at_name (hln : ∀ x ∈ namesL L, nameM x = true) (n : Int) (x : Str) (h : nameAt L n = some x) : nameM x = true := by
  unfold nameAt at h
  cases e : ((L.links.map fun l => some l.name) ++ [none, some ("zz" : Str)])[(n % ((L.links.length : Int) + 2)).toNat]? with
  | none => rw [e] at h; cases h
  | some o =>
    rw [e] at h
    have h : o = some x := h
    have hm := List.mem_of_getElem? e
    rw [h] at hm
    rcases List.mem_append.mp hm with hm | hm
    · obtain ⟨l, hl, e2⟩ := List.mem_map.mp hm
      rw [← Option.some.inj e2]
      exact hln _ (List.mem_map.mpr ⟨l, hl, rfl⟩)
    · simp at hm
      rw [hm]; decide +kernel
theorem spoilt_ok (hpn : ∀ x ∈ L.places, nameM x = true) (hln : ∀ x ∈ namesL L, nameM x = true) {t : Told} (h : Small t) (c n a : Int) : TextOk (spoiltM L t c n a) := by
  have o := h.ok
  have hll := h.ll
  have hcl := h.cl
  have hon := other_name hpn n
  unfold spoiltM
  split
  · refine ⟨?_, o.lab, o.ch, o.ll, o.cl⟩
    show nthS words3 (n % 3) ∈ wordsOk
    exact nthS_mem (xs := words3) (Int.emod_nonneg _ (by decide)) (Int.emod_lt_of_pos _ (by decide))
  · split
    · rename_i _ hc
      have hm := get_mem (a := a) hc.2 ("", 0)
      have hlab := o.lab _ hm
      have hlab2 := (h.lab _ hm).2
      have hmore : (∀ r ∈ moreL c ((t.labels[(a % t.labels.length).toNat]?).getD ("", 0)) (otherS L n) n, nameM r.1 = true ∧ 0 ≤ r.2 ∧ r.2 < 1000000) ∧ (moreL c ((t.labels[(a % t.labels.length).toNat]?).getD ("", 0)) (otherS L n) n).length ≤ 2 := by
        generalize (t.labels[(a % t.labels.length).toNat]?).getD ("", 0) = lab at *
        unfold moreL
        split
        · exact ⟨fun r h => (by cases h), by decide⟩
        · split
          · refine ⟨fun r h => ?_, by show 1 ≤ 2; omega⟩
            rw [List.mem_singleton.mp h]
            refine ⟨hlab.1, ?_, ?_⟩
            · show 0 ≤ (if lab.2 - 1 > 0 then lab.2 - 1 else 0); split <;> omega
            · show (if lab.2 - 1 > 0 then lab.2 - 1 else 0) < 1000000; split <;> omega
          · split
            · refine ⟨fun r h => ?_, by show 1 ≤ 2; omega⟩
              rw [List.mem_singleton.mp h]
              exact ⟨hlab.1, by show 0 ≤ lab.2 + 1; omega, by show lab.2 + 1 < 1000000; omega⟩
            · refine ⟨fun r h => ?_, Nat.le_refl 2⟩
              rcases List.mem_cons.mp h with rfl | h
              · exact hlab
              · rw [List.mem_singleton.mp h]
                exact ⟨hon, by show 0 ≤ n % 20; omega, by show n % 20 < 1000000; omega⟩
      refine ⟨o.word, fun r hr => ?_, o.ch, ?_, o.cl⟩
      · rcases List.mem_append.mp hr with hr | hr
        · rcases List.mem_append.mp hr with hr | hr
          · exact o.lab r (List.mem_of_mem_take hr)
          · exact hmore.1 r hr
        · exact o.lab r (List.mem_of_mem_drop hr)
      · show List.length (_ ++ _ ++ _) ≤ 1000
        rw [List.length_append, List.length_append, List.length_take, List.length_drop]
        have := hmore.2
        omega
    · split
      · refine ⟨o.word, fun r hr => ?_, o.ch, ?_, o.cl⟩
        · rcases List.mem_append.mp hr with hr | hr
          · exact o.lab r hr
          · rw [List.mem_singleton.mp hr]
            exact ⟨hon, by show 0 ≤ n % 9; omega, by show n % 9 < 1000000; omega⟩
        · show List.length (_ ++ _) ≤ 1000
          rw [List.length_append]
          show _ + 1 ≤ 1000
          omega
      · split
        · refine ⟨o.word, fun r hr => o.lab r (List.mem_reverse.mp hr), o.ch, ?_, o.cl⟩
          show (t.labels.reverse).length ≤ 1000
          rw [List.length_reverse]; exact o.ll
        · rename_i hc
          have hne : t.chain ≠ [] := fun e => hc (.inl e)
          split
          · refine ⟨o.word, o.lab, fun r hr => ?_, o.ll, ?_⟩
            · rcases List.mem_append.mp hr with hr | hr
              · exact o.ch r (List.mem_of_mem_take hr)
              · exact o.ch r (List.mem_of_mem_drop hr)
            · show List.length (_ ++ _) ≤ 1000
              rw [List.length_append, List.length_take, List.length_drop]
              omega
          · split
            · refine ⟨o.word, o.lab, fun r hr => ?_, o.ll, ?_⟩
              · rcases List.mem_append.mp hr with hr | hr
                · exact o.ch r (List.mem_of_mem_take hr)
                · exact o.ch r (List.mem_of_mem_drop hr)
              · show List.length (_ ++ _) ≤ 1000
                rw [List.length_append, List.length_take, List.length_drop]
                omega
            · have hm := get_mem (a := a) hne ("", none, 0)
              have hrow := o.ch _ hm
              have hrow2 := (h.ch _ hm).2.2
              have hnew : nameM (changedC L c n ((t.chain[(a % t.chain.length).toNat]?).getD ("", none, 0))).1 = true ∧ (∀ x, (changedC L c n ((t.chain[(a % t.chain.length).toNat]?).getD ("", none, 0))).2.1 = some x → nameM x = true) ∧ 0 ≤ (changedC L c n ((t.chain[(a % t.chain.length).toNat]?).getD ("", none, 0))).2.2 ∧ (changedC L c n ((t.chain[(a % t.chain.length).toNat]?).getD ("", none, 0))).2.2 < 1000000 := by
                generalize (t.chain[(a % t.chain.length).toNat]?).getD ("", none, 0) = row at *
                unfold changedC
                split
                · refine ⟨hrow.1, hrow.2.1, ?_, ?_⟩
                  · show 0 ≤ (if row.2.2 + (if n % 2 = 0 then 1 else -1) > 0 then row.2.2 + (if n % 2 = 0 then 1 else -1) else 0)
                    split <;> omega
                  · show (if row.2.2 + (if n % 2 = 0 then 1 else -1) > 0 then row.2.2 + (if n % 2 = 0 then 1 else -1) else 0) < 1000000
                    split
                    · split <;> omega
                    · omega
                · exact ⟨hrow.1, fun x hx => at_name hln n x hx, hrow.2.2.1, hrow.2.2.2⟩
              refine ⟨o.word, o.lab, fun r hr => ?_, o.ll, ?_⟩
              · rcases List.mem_append.mp hr with hr | hr
                · rcases List.mem_append.mp hr with hr | hr
                  · exact o.ch r (List.mem_of_mem_take hr)
                  · rw [List.mem_singleton.mp hr]; exact hnew
                · exact o.ch r (List.mem_of_mem_drop hr)
              · show List.length (_ ++ _ ++ _) ≤ 1000
                rw [List.length_append, List.length_append, List.length_take, List.length_drop]
                show _ + 1 + _ ≤ 1000
                omega
end
end Ef
set_option maxRecDepth 100000
set_option maxHeartbeats 4000000
/-! Mf: the plain law: names, the land, the weather, the rows made of the numbers are in order. -/
namespace Ef
open PySem L2 C8 RZ PyProof.Rows PySem.Spec PySem.W
/-! ### names -/
theorem sgn_chars {i : Int} (h0 : 0 ≤ i) (h1 : i < 36) : inStr chars (sgnC i) = true := by
  have h : (List.range 36).all (fun (k : Nat) => inStr chars (sgnC (k : Int))) = true := by decide +kernel
  rw [List.all_eq_true] at h
  have := h i.toNat (List.mem_range.mpr (by omega))
  rwa [Int.toNat_of_nonneg h0] at this
theorem sgn_head {i : Int} (h0 : 0 ≤ i) (h1 : i < 26) : inStr digits (sgnC i) = false := by
  have h : (List.range 26).all (fun (k : Nat) => !inStr digits (sgnC (k : Int))) = true := by decide +kernel
  rw [List.all_eq_true] at h
  have := h i.toNat (List.mem_range.mpr (by omega))
  rw [Int.toNat_of_nonneg h0] at this
  revert this
  cases inStr digits (sgnC i) <;> simp
theorem sgn_inj {i j : Int} (h0 : 0 ≤ i) (h1 : i < 26) (h2 : 0 ≤ j) (h3 : j < 26) (e : sgnC i = sgnC j) : i = j := by
  have h : (List.range 26).all (fun (k : Nat) => (List.range 26).all fun (m : Nat) => !decide (sgnC (k : Int) = sgnC (m : Int)) || decide (k = m)) = true := by decide +kernel
  rw [List.all_eq_true] at h
  have := h i.toNat (List.mem_range.mpr (by omega))
  rw [List.all_eq_true] at this
  have := this j.toNat (List.mem_range.mpr (by omega))
  rw [Int.toNat_of_nonneg h0, Int.toNat_of_nonneg h2, decide_eq_true e, Bool.not_true, Bool.false_or] at this
  have := of_decide_eq_true this
  omega
theorem name_K (x k : Int) : nameM (nameK x k) = true := by
  have hl := name_K_len x k
  have h26 : 0 ≤ (x + 3 * k) % 26 ∧ (x + 3 * k) % 26 < 26 := by omega
  have h36 : 0 ≤ (x + stepM x * k) % 36 ∧ (x + stepM x * k) % 36 < 36 := by
    generalize x + stepM x * k = y
    omega
  have own : ∀ c ∈ (ownM x k).cps.toList, inStr chars c = true := by
    intro c hc
    have hr : c ∈ (restM x).cps.toList := by
      rcases own_signs x k with e | e
      · rwa [e] at hc
      · rw [e] at hc; exact List.mem_of_mem_drop hc
    rw [rest_signs] at hr
    obtain ⟨j, _, rfl⟩ := List.mem_map.mp hr
    generalize x + 7 * (j : Int) * (j : Int) = y
    exact sgn_chars (by omega) (by omega)
  have hd : headIn digits (nameK x k).cps.toList = false := by rw [name_signs]; exact sgn_head h26.1 h26.2
  have ha : (nameK x k).cps.toList.all (inStr chars) = true := by
    rw [List.all_eq_true, name_signs]
    intro c hc
    rcases List.mem_cons.mp hc with rfl | hc
    · exact sgn_chars h26.1 (by omega)
    · rcases List.mem_append.mp hc with hc | hc
      · exact own c (List.mem_of_mem_take hc)
      · rcases List.mem_cons.mp hc with rfl | hc
        · exact sgn_chars h36.1 h36.2
        · exact own c (List.mem_of_mem_drop hc)
  unfold nameM lenIn
  rw [hd, ha, decide_eq_true (show 1 ≤ (nameK x k).length by omega), decide_eq_true hl.2]; rfl
theorem name_inj {x k j : Int} (h0 : 0 ≤ k) (h1 : k < 26) (h2 : 0 ≤ j) (h3 : j < 26) (e : nameK x k = nameK x j) : k = j := by
  have e2 := congrArg (fun z : Str => z.cps.toList) e
  have e2 : (nameK x k).cps.toList = (nameK x j).cps.toList := e2
  rw [name_signs, name_signs] at e2
  have e3 := (List.cons.inj e2).1
  have := sgn_inj (by omega) (by omega) (by omega) (by omega) e3
  omega
theorem names_nodup (x : Int) {n : Nat} (hn : n ≤ 26) : (namesM x n).Nodup := by
  unfold namesM
  refine List.pairwise_map.mpr (List.Pairwise.imp_of_mem (fun {a b} ha hb hne e => ?_) List.nodup_range)
  have ha := List.mem_range.mp ha
  have hb := List.mem_range.mp hb
  have := name_inj (x := x) (k := (a : Int)) (j := (b : Int)) (by omega) (by omega) (by omega) (by omega) e
  exact hne (by omega)
theorem names_name {x : Int} {n : Nat} : ∀ y ∈ namesM x n, nameM y = true := fun y hy => by
  unfold namesM at hy
  obtain ⟨k, _, rfl⟩ := List.mem_map.mp hy
  exact name_K x k
theorem names_two {x : Int} {n : Nat} : ∀ y ∈ namesM x n, 2 ≤ y.length := fun y hy => by
  unfold namesM at hy
  obtain ⟨k, _, rfl⟩ := List.mem_map.mp hy
  exact (name_K_len x k).1
theorem nthS_inj {xs : List Str} (nd : xs.Nodup) {i j : Int} (h0 : 0 ≤ i) (h1 : i < (xs.length : Int)) (h2 : 0 ≤ j) (h3 : j < (xs.length : Int)) (e : nthS xs i = nthS xs j) : i = j := by
  have l1 : i.toNat < xs.length := by omega
  have l2 : j.toNat < xs.length := by omega
  unfold nthS at e
  rw [List.getElem?_eq_getElem l1, List.getElem?_eq_getElem l2] at e
  have e : xs[i.toNat] = xs[j.toNat] := e
  have := (List.getElem?_inj (j := j.toNat) l1 nd).mp (by rw [List.getElem?_eq_getElem l1, List.getElem?_eq_getElem l2, e])
  omega
/-! ### the land -/
theorem ends_ne {N : List Int} (h : NumOk N) (a b : Nat) : oneM N a ≠ otherM N a b := by
  have h1 := one_ok h a
  have hp := places_len h
  have hb := nth_ok h b
  have hb2 : 0 ≤ nth N b % (((placesP N).length : Int) - 1) ∧ nth N b % (((placesP N).length : Int) - 1) < ((placesP N).length : Int) - 1 := ⟨Int.emod_nonneg _ (by omega), Int.emod_lt_of_pos _ (by omega)⟩
  unfold otherM
  generalize nth N b % (((placesP N).length : Int) - 1) = y at *
  generalize oneM N a = x at *
  generalize ((placesP N).length : Int) = n at *
  intro e
  by_cases z : x + 1 + y < n
  · rw [Int.emod_eq_of_lt (by omega) z] at e
    omega
  · have e2 : (x + 1 + y) % n = x + 1 + y - n := by
      rw [← Int.sub_emod_right (x + 1 + y) n]
      exact Int.emod_eq_of_lt (by omega) (by omega)
    rw [e2] at e
    omega
theorem lnames_len (N : List Int) : (lnames N).length = 10 := by unfold lnames; rw [names_len]
theorem time_ok {N : List Int} (h : NumOk N) (s j : Nat) : ∀ a b, timeP N s j = some (a, b) → 1 ≤ a ∧ a ≤ b ∧ b ≤ 15 := by
  intro a b e
  unfold timeP at e
  have h1 := nth_ok h (s + 2 + j)
  have h2 := nth_ok h (s + 5 + j)
  generalize nth N (s + 2 + j) = x at *
  generalize nth N (s + 5 + j) = y at *
  split at e
  · cases e
  · cases e
    omega
theorem link_mem {N : List Int} {l : LinkM} (hl : l ∈ linksP N) : ∃ k : Nat, k < 11 ∧ k < (nth N 5 % 11).toNat ∧ l = linkP N k := by
  unfold linksP at hl
  obtain ⟨k, hk, rfl⟩ := List.mem_map.mp hl
  have := List.mem_range.mp hk
  exact ⟨k, by omega, this, rfl⟩
theorem link_times {N : List Int} (h : NumOk N) {l : LinkM} (hl : l ∈ linksP N) : ∀ t ∈ l.times, ∀ a b, t = some (a, b) → 1 ≤ a ∧ a ≤ b ∧ b ≤ 15 := by
  obtain ⟨k, _, _, rfl⟩ := link_mem hl
  intro t ht a b e
  have ht : t ∈ (List.range (windsL N).length).map (timeP N (6 + 8 * k)) := ht
  obtain ⟨j, _, rfl⟩ := List.mem_map.mp ht
  exact time_ok h _ _ a b e
theorem link_ok {N : List Int} (h : NumOk N) {l : LinkM} (hl : l ∈ linksP N) : LinkOk (windsL N) (placesP N) l := by
  have ht := link_times h hl
  obtain ⟨k, hk, hk2, rfl⟩ := link_mem hl
  refine ⟨?_, nthS_mem (one_ok h _).1 (one_ok h _).2, nthS_mem (other_ok h _ _).1 (other_ok h _ _).2, ?_, fun t h2 a b e => ?_, ?_⟩
  · exact names_name (x := nth N 4) (n := 10) _ (nthS_mem (xs := lnames N) (by omega) (by rw [lnames_len]; omega))
  · intro e
    exact ends_ne h _ _ (nthS_inj (names_nodup _ (by omega)) (one_ok h _).1 (one_ok h _).2 (other_ok h _ _).1 (other_ok h _ _).2 e)
  · have := ht t h2 a b e
    omega
  · show ((List.range (windsL N).length).map _).length = _
    rw [List.length_map, List.length_range]
theorem link_names_nodup {N : List Int} (h : NumOk N) : (namesL (landP N)).Nodup := by
  show ((linksP N).map (·.name)).Nodup
  unfold linksP
  rw [List.map_map]
  refine List.pairwise_map.mpr (List.Pairwise.imp_of_mem (fun {a b} ha hb hne e => ?_) List.nodup_range)
  have ha := List.mem_range.mp ha
  have hb := List.mem_range.mp hb
  have e : nthS (lnames N) (a : Int) = nthS (lnames N) (b : Int) := e
  have := nthS_inj (xs := lnames N) (names_nodup _ (by omega)) (by omega) (by rw [lnames_len]; omega) (by omega) (by rw [lnames_len]; omega) e
  exact hne (by omega)
theorem sort2_eq {a b c d : Str} (e : sort2 a b = sort2 c d) : (a = c ∧ b = d) ∨ (a = d ∧ b = c) := by
  unfold sort2 at e
  split at e <;> split at e <;> cases e <;> simp
theorem paths_ok {N : List Int} (h : NumOk N) : ∀ i, (∀ q ∈ pathsGo N i, PathOk (placesP N) q) ∧ ((pathsGo N i).map fun q => sort2 q.1 q.2.1).Nodup
  | 0 => ⟨fun q hq => (by cases hq), List.nodup_nil⟩
  | i + 1 => by
    obtain ⟨h1, h2⟩ := paths_ok h i
    rw [pathsGo_succ]
    unfold pathStep
    split
    · exact ⟨h1, h2⟩
    · rename_i hk
      constructor
      · intro q hq
        rcases List.mem_append.mp hq with hq | hq
        · exact h1 q hq
        · rw [List.mem_singleton.mp hq]
          have := nth_ok h (91 + 3 * i)
          refine ⟨nthS_mem (one_ok h _).1 (one_ok h _).2, nthS_mem (other_ok h _ _).1 (other_ok h _ _).2, fun e => ?_, by show 1 ≤ 1 + nth N (91 + 3 * i) % 9; omega, by show 1 + nth N (91 + 3 * i) % 9 ≤ 1000; omega⟩
          exact ends_ne h _ _ (nthS_inj (names_nodup _ (by omega)) (one_ok h _).1 (one_ok h _).2 (other_ok h _ _).1 (other_ok h _ _).2 e)
      · rw [List.map_append, List.nodup_append]
        refine ⟨h2, List.nodup_cons.mpr ⟨List.not_mem_nil, List.nodup_nil⟩, fun a ha b hb e => hk ?_⟩
        obtain ⟨q, hq, rfl⟩ := List.mem_map.mp ha
        rw [List.map_singleton, List.mem_singleton] at hb
        rw [hb] at e
        unfold known
        rw [List.mem_append, List.mem_map, List.mem_map]
        rcases sort2_eq e with ⟨e1, e2⟩ | ⟨e1, e2⟩
        · exact .inl ⟨q, hq, Prod.ext e1 e2⟩
        · exact .inr ⟨q, hq, Prod.ext e2 e1⟩
theorem links_len {N : List Int} : (linksP N).length ≤ 10 := by unfold linksP; rw [List.length_map, List.length_range]; omega
theorem land_ok {N : List Int} (h : NumOk N) : LandOk (landP N) := by
  have hw := winds_len h
  have hp := places_len h
  have hl := links_len (N := N)
  have hq : (pathsP N).length ≤ 6 := by have := pathsGo_len N (nth N 88 % 7).toNat; unfold pathsP; omega
  exact ⟨hw.1, by show (windsL N).length ≤ 4; omega, names_name, names_nodup _ (by omega), by show 1 ≤ (placesP N).length; omega, by show (placesP N).length ≤ 24; omega, names_name, names_nodup _ (by omega),
    by show (linksP N).length ≤ 60; omega, fun l hl => link_ok h hl, link_names_nodup h, by show (pathsP N).length ≤ 60; omega, (paths_ok h _).1, (paths_ok h _).2⟩
/-! ### the weather -/
structure WeaI (N : List Int) (i : Nat) (w : Wea) : Prop where
  first : ∃ x r, w = (0, x) :: r
  up : (w.map (·.1)).Pairwise (· < ·)
  of : ∀ r ∈ w, 0 ≤ r.1 ∧ r.1 ≤ 12 * (i : Int) ∧ r.2 ∈ windsL N
theorem wea_i {N : List Int} (h : NumOk N) : ∀ i, WeaI N i (weaGo N i)
  | 0 => ⟨⟨_, [], rfl⟩, List.pairwise_singleton _ _, fun r hr => by
      have hr : r ∈ [((0 : Int), nthS (windsL N) (nth N 110 % ((windsL N).length : Int)))] := hr
      rw [List.mem_singleton.mp hr]
      exact ⟨by show (0 : Int) ≤ 0; omega, by show (0 : Int) ≤ 12 * ((0 : Nat) : Int); omega, nthS_mem (wmod h 110).1 (wmod h 110).2⟩⟩
  | i + 1 => by
    have I := wea_i h i
    have hl := weaGo_len N i
    have hn := nth_ok h (112 + i)
    rw [weaGo_succ]
    have hi : i < (weaGo N i).length := by omega
    have hlast : (weaGo N i).getLast? = some (weaGo N i)[i] := by
      rw [List.getLast?_eq_getElem?, hl, Nat.add_sub_cancel, List.getElem?_eq_getElem hi]
    have hm := I.of _ (List.getElem_mem hi)
    have e1 : weaNext N (weaGo N i) i = ((weaGo N i)[i].1 + 1 + nth N (112 + i) % 12, nthS (windsL N) (nth N (115 + i) % ((windsL N).length : Int))) := by
      unfold weaNext
      rw [List.getElem?_eq_getElem hi]; rfl
    rw [e1]
    refine ⟨?_, ?_, fun r hr => ?_⟩
    · obtain ⟨x, r, e⟩ := I.first
      generalize ((weaGo N i)[i].1 + 1 + nth N (112 + i) % 12, nthS (windsL N) (nth N (115 + i) % ((windsL N).length : Int))) = y
      rw [e]
      exact ⟨x, r ++ [y], rfl⟩
    · rw [List.map_append, List.pairwise_append]
      refine ⟨I.up, List.pairwise_singleton _ _, fun a ha b hb => ?_⟩
      obtain ⟨r, hr, rfl⟩ := List.mem_map.mp ha
      have hb : b ∈ [(weaGo N i)[i].1 + 1 + nth N (112 + i) % 12] := hb
      rw [List.mem_singleton.mp hb]
      have := last_max _ I.up r hr _ hlast
      show r.1 < _
      omega
    · rcases List.mem_append.mp hr with hr | hr
      · have := I.of r hr
        exact ⟨this.1, by omega, this.2.2⟩
      · rw [List.mem_singleton.mp hr]
        exact ⟨by show 0 ≤ (weaGo N i)[i].1 + 1 + nth N (112 + i) % 12; omega, by show (weaGo N i)[i].1 + 1 + nth N (112 + i) % 12 ≤ 12 * ((i + 1 : Nat) : Int); omega, nthS_mem (wmod h _).1 (wmod h _).2⟩
theorem wea_36 {N : List Int} (h : NumOk N) : ∀ r ∈ weaP N, r.1 ≤ 36 := fun r hr => by
  have := (wea_i h (nth N 111 % 4).toNat).of r hr
  omega
theorem wea_ok {N : List Int} (h : NumOk N) : WeaOk (landP N) (weaP N) := by
  have I := wea_i h (nth N 111 % 4).toNat
  have hl := weaGo_len N (nth N 111 % 4).toNat
  exact ⟨I.first, I.up, by unfold weaP; omega, fun r hr => ⟨(I.of r hr).1, by have := (I.of r hr).2.1; omega⟩, fun r hr => (I.of r hr).2.2⟩
/-! ### rows, sides -/
theorem rows_ok {N : List Int} (h : NumOk N) (a n : Nat) {m : Int} (hm : 0 < m) : ∀ r ∈ rowsP N a n m, r.1 ∈ placesP N ∧ 0 ≤ r.2 ∧ r.2 < m := fun r hr => by
  unfold rowsP at hr
  obtain ⟨k, _, rfl⟩ := List.mem_map.mp hr
  exact ⟨nthS_mem (pmod h _).1 (pmod h _).2, Int.emod_nonneg _ (by omega), Int.emod_lt_of_pos _ hm⟩
theorem side_row {N : List Int} (h : NumOk N) (s : Bool) {l : LinkM} (hl : l ∈ linksP N) : ∀ v, some v ∈ sideRow s l → 1 ≤ v ∧ v ≤ 15 := by
  intro v hv
  unfold sideRow at hv
  obtain ⟨t, ht, e⟩ := List.mem_map.mp hv
  cases t with
  | none => cases e
  | some p =>
    obtain ⟨a, b⟩ := p
    have := link_times h hl _ ht a b rfl
    have e : selS s (a, b) = v := Option.some.inj e
    unfold selS at e
    cases s
    · have e : a = v := e
      omega
    · have e : b = v := e
      omega
theorem row_le {N : List Int} (h : NumOk N) : RowLe (landP N) false true := by
  intro l hl i v e
  have ht := link_times h hl
  unfold sideRow at e ⊢
  rw [List.getD_eq_getElem?_getD, List.getElem?_map] at e ⊢
  cases q : l.times[i]? with
  | none => rw [q] at e; cases e
  | some t =>
    rw [q] at e
    cases t with
    | none => cases e
    | some p =>
      obtain ⟨a, b⟩ := p
      have := ht _ (List.mem_of_getElem? q) a b rfl
      have e : b = v := Option.some.inj e
      exact ⟨a, rfl, by omega⟩
end Ef
set_option maxRecDepth 100000
set_option maxHeartbeats 4000000
/-! Mh: the plain law, joined: all that the walk of the law asks holds of all numbers. -/
namespace Ef
open PySem L2 C8 RZ PyProof.Rows PySem.Spec PySem.W
section
variable {N : List Int}
theorem st_ok (h : NumOk N) : ∀ r ∈ stP N, r.1 ∈ placesP N ∧ 0 ≤ r.2 ∧ r.2 < 9 := rows_ok h 120 (nth N 150 % 3).toNat (by decide)
theorem br_ok (h : NumOk N) : ∀ r ∈ brP N, r.1 ∈ placesP N ∧ 0 ≤ r.2 ∧ r.2 < 30 := rows_ok h 130 (nth N 151 % 4).toNat (by decide)
theorem sp_h (h : NumOk N) (s : Bool) : SpH (landP N) (weaP N) (stP N) s :=
  ⟨(wea_ok h).up, wea_36 h, fun l hl => (link_ok h hl).other, fun l hl => side_row h s hl, fun r hr => (st_ok h r hr).1, fun r hr => (st_ok h r hr).2.1, fun r hr => by have := (st_ok h r hr).2.2; omega⟩
theorem ok4 (h : NumOk N) : Ok4 (landP N) (weaP N) (stP N) (brP N) := by
  have hw := winds_len h
  have hp := places_len h
  have hl := links_len (N := N)
  refine ⟨wea_ok h, ⟨by show (linksP N).length ≤ 60; omega, fun l hl => (link_ok h hl).len, by show (windsL N).length ≤ 4; omega, by show (placesP N).length ≤ 24; omega⟩, fun l hl => (link_ok h hl).one, fun l hl => (link_ok h hl).other, link_names_nodup h, fun r hr => (st_ok h r hr).1, fun r hr => (br_ok h r hr).1, fun r hr => (st_ok h r hr).2.1, ?_, ?_⟩
  · unfold stP; rw [rows_len]; omega
  · unfold brP; rw [rows_len]; omega
theorem fire_ok (h : NumOk N) (s : Bool) : FireOk (landP N) (weaP N) s := ⟨wea_ok h, fun l hl => (link_ok h hl).len, fun l hl v hv => (side_row h s hl v hv).1⟩
theorem nums_ok (h : NumOk N) (s : Bool) : NumsOk (landP N) (sideN s (landP N)) := by
  refine ⟨by unfold sideN; rw [List.length_map], fun r hr => ?_, fun r hr v hv => ?_⟩
  · unfold sideN at hr
    obtain ⟨l, hl, rfl⟩ := List.mem_map.mp hr
    unfold sideRow
    rw [List.length_map]
    exact (link_ok h hl).len
  · unfold sideN at hr
    obtain ⟨l, hl, rfl⟩ := List.mem_map.mp hr
    exact (side_row h s hl v hv).1
theorem good (h : NumOk N) (s : Bool) : Good (landP N) (weaP N) (stP N) (brP N) (sideN s (landP N)) := by
  have J := spread_ok (sp_h h s) (br := brP N)
  have h24 : (landP N).places.length ≤ 24 := (land_ok h).p24
  refine ⟨nums_ok h s, fun k v e => fd_nn (sp_h h s) J e, fun k v e => ?_, fun p t e => ?_⟩
  · have := fd_le J h24 e
    omega
  · by_cases c : getK (leastK (stP N)) p = some t
    · exact .inl c
    · exact .inr (back_some J e c)
theorem word_ok (h : NumOk N) : (toldP N).word = wordP N := by
  have sf := slow_fast (sp_h h false) (sp_h h true) (row_le h) (brP N) (plP N)
  unfold toldP paperM wordP fireP
  rw [fire_spread (sp_h h false), fire_spread (sp_h h true), least_side, most_side]
  cases h1 : getK (spreadM (landP N) (weaP N) (stP N) (brP N) (sideN false (landP N))) (plP N) with
  | none =>
    cases h2 : getK (spreadM (landP N) (weaP N) (stP N) (brP N) (sideN true (landP N))) (plP N) with
    | none => rfl
    | some v =>
      rw [h1, h2] at sf
      exact absurd (sf rfl) (by decide)
  | some u =>
    cases h2 : getK (spreadM (landP N) (weaP N) (stP N) (brP N) (sideN true (landP N))) (plP N) with
    | none => rfl
    | some v => rfl
theorem law_f (h : NumOk N) : LawF N := by
  have ho : ∀ l ∈ (landP N).links, l.other ∈ (landP N).places := fun l hl => (link_ok h hl).other
  have nd := link_names_nodup h
  have lo := land_ok h
  have hln : ∀ x ∈ namesL (landP N), nameM x = true := fun x hx => by
    obtain ⟨l, hl, rfl⟩ := List.mem_map.mp hx
    exact (link_ok h hl).name
  have sm : Small (toldP N) := paper_small (sp_h h false) (sp_h h true) lo.p24 lo.pn hln (plP N)
  have tb : TextOk (badP N) := spoilt_ok lo.pn hln sm _ _ _
  have rt : lawRightM (landP N) (weaP N) (stP N) (brP N) (plP N) (toldP N) = true := right_ok (sp_h h false) (sp_h h true) nd (plP N)
  have one : ∀ x : Str, x.length = 1 → x ∉ placesP N := fun x hx hm => by
    have := names_two x hm
    omega
  exact ⟨h, lo, ok4 h, fire_ok h, by rw [least_side]; exact good h false, by rw [most_side]; exact good h true, nthS_mem (pmod h 152).1 (pmod h 152).2, one _ (by decide), one _ (by decide), by have := sm.ll; omega, by have := sm.cl; omega, sm.ok, tb, word_ok h, rt, by rw [check_right nd ho _ sm.ok]; exact rt, check_right nd ho _ tb⟩
theorem law_numbers (sc : List Int) : LawF (numbersM sc 170) := law_f ⟨numbersM_len sc 170, fun x hx => by have := numbersM_ok sc 170 x hx; exact this⟩
end
end Ef
set_option maxRecDepth 100000
set_option maxHeartbeats 0
/-! Na: the head: facts by names, the run. Printed by genNa.py. -/
namespace Ef
open PySem L2 C8 RZ PyProof.Rows PySem.Spec PySem.W
/-! ### objects off the top -/
/-- the default of a keyword-only parameter of Land's __init__ -/
def kwAt (x : Str) (K : PySem.W.Frag) : Addr := match K.lookup (He.fAd K ("Land", some "__init__")) with
  | some ⟨_, _, .func fd, _⟩ => (match fd.kwdefaults with
    | .ref B => (match nsIn K B x with
      | some (some (.ref a)) => a
      | _ => 0)
    | _ => 0)
  | _ => 0
/-- the getter of the property -/
def gPr (K : PySem.W.Frag) : Addr := match recIn K (He.ma K (He.ga K "Land") "link_names") "property" with
  | some (.ref g :: _) => g
  | _ => 0
abbrev FnC : Type := Option (Str × Str × Arguments × FuncBody × Scope × Addr × List Str × Addr)
/-- a function at an address; of its closure the names alone -/
def fnC (K : PySem.W.Frag) (a : Addr) : FnC := match K.lookup a with
  | some ⟨_, _, .func fd, _⟩ => some (fd.name, fd.qualname, fd.params, fd.body, fd.scope, fd.globals, fd.closure.map (·.1), fd.builtins)
  | _ => none
def plainF (K : PySem.W.Frag) (a : Addr) (q : Str) : Bool := keepIn K (.ref a) && (match K.lookup a with
  | some ⟨_, _, .func fd, _⟩ => codeIn K fd.code q && (match fd.defaults with
    | .none => true
    | _ => false)
  | _ => false)
theorem plainF_ok {K : PySem.W.Frag} {a : Addr} {n q : Str} {pa : Arguments} {body : List Stmt} {sc : Scope} (h : plainF K a q = true) (e : fnC K a = some (n, q, pa, .stmts body, sc, mainGlobals, [], builtinsNs)) : ∃ fd, FunD K n q pa body sc [] [] a fd := by
  obtain ⟨kp, c2⟩ := He.ba h
  unfold fnC at e
  cases z : K.lookup a with
  | none => rw [z] at c2; cases c2
  | some o =>
    obtain ⟨oc, od, dt, osl⟩ := o
    rw [z] at c2 e
    cases dt with
    | func fd =>
      obtain ⟨n1, n2, n3, n4, n5, n6, n7, n8, n9, n10, n11, n12, n13, n14, n15⟩ := fd
      have e2 : (some (n1, n2, n3, n4, n5, n6, n7.map (·.1), n15) : FnC) = some (n, q, pa, .stmts body, sc, mainGlobals, [], builtinsNs) := e
      simp only [Option.some.injEq, Prod.mk.injEq, List.map_eq_nil_iff] at e2
      obtain ⟨h1, h2, h3, h4, h5, h6, h7, h8⟩ := e2
      subst h1 h2 h3 h4 h5 h6 h7 h8
      dsimp only at c2
      obtain ⟨k1, k2⟩ := He.ba c2
      split at k2
      · exact ⟨_, ⟨oc, od, _, n9, n10, n11, n12, n13, n14, osl, rfl, z, k1, .inl ⟨rfl, rfl⟩, .inl rfl⟩, kp⟩
      · cases k2
    | _ => cases c2
/-! ### the exceptions' classes -/
def oexB (K : PySem.W.Frag) (C : Addr) : Bool := (match K.lookup C with
  | some ⟨.type "type", _, .cls cd, sl⟩ => (match cd.mro, sl.toList with
    | .ref C' :: bm, [_, _, _, _, some (.builtin n), _] => decide (C' = C) && (decide (n = "ValueError.__new__") && (!cd.hasDel && (cd.hasDict && HandSPX.refsVE bm)))
    | _, _ => false)
  | _ => false) && (He.eqO (findIn K (.ref C) "__setattr__") (some (some (.builtin "object.__setattr__"))) && (decide (subIn K (.ref C) (.type "BaseException") = some true) && (decide (typeIn K (.ref C) = some (.type "type")) && keepIn K (.ref C))))
theorem oexB_ok {K : PySem.W.Frag} {C : Addr} (h : oexB K C = true) : OexC K C := by
  obtain ⟨q, h2⟩ := He.ba h
  obtain ⟨h2, h3⟩ := He.ba h2
  obtain ⟨h3, h4⟩ := He.ba h3
  obtain ⟨h4, h5⟩ := He.ba h4
  refine ⟨?_, He.eqO_ok h2, of_decide_eq_true h3, of_decide_eq_true h4, h5⟩
  split at q
  · rename_i dd cd sl ho
    split at q
    · rename_i C' bm k0 k1 k2 k3 n k5 hm hs
      simp only [Bool.and_eq_true, decide_eq_true_eq, Bool.not_eq_true'] at q
      obtain ⟨rfl, rfl, hdel, hdc, ht⟩ := q
      obtain ⟨nm, bs, mro, ns, qn, hd, sn, sub, ab, col, del⟩ := cd
      dsimp only at hm hdel hdc
      subst hm hdel hdc
      have hsl : sl = #[k0, k1, k2, k3, some (.builtin "ValueError.__new__"), k5] := by
        obtain ⟨l⟩ := sl
        simp only at hs
        rw [hs]
      subst hsl
      exact ⟨nm, qn, ns, bs, bm, sn, sub, ab, col, dd, k0, k1, k2, k3, k5, ho, ht⟩
    · cases q
  · cases q
def excCB (K : PySem.W.Frag) (B : Addr) : Bool := He.eqO (findIn K (.ref B) "__getattribute__") (some (some (.builtin "BaseException.__getattribute__"))) && (He.eqO (findIn K (.ref B) "__getattr__") (some none) && (decide (subIn K (.ref B) (.type "BaseException") = some true) && (hasDictIn K B && (He.eqO (findIn K (.ref B) "__class__") (some (some (.builtin "object.__class__"))) &&
  (He.eqO (specialIn K (.builtin "object.__class__") "__get__") (some (some (.builtin "getset_descriptor.__get__"))) && (decide (takesIn K (.builtin "object.__class__") = some true) && decide (mroIn K B (.type "object") = some true)))))))
theorem excC_ok {K : PySem.W.Frag} {B : Addr} (h : excCB K B = true) : ExcC K B := by
  obtain ⟨h1, h⟩ := He.ba h
  obtain ⟨h2, h⟩ := He.ba h
  obtain ⟨h3, h⟩ := He.ba h
  obtain ⟨h4, h⟩ := He.ba h
  obtain ⟨h5, h⟩ := He.ba h
  obtain ⟨h6, h⟩ := He.ba h
  obtain ⟨h7, h8⟩ := He.ba h
  exact ⟨He.eqO_ok h1, He.eqO_ok h2, of_decide_eq_true h3, h4, He.eqO_ok h5, He.eqO_ok h6, of_decide_eq_true h7, of_decide_eq_true h8⟩
/-- the __init__ of the class C that says super(): its code, its cell -/
def unC (file : Str) (K : PySem.W.Frag) (C : Addr) (q : Str) : FuncData → Bool := fun fd => (match fd.code with
  | .ref cda => codeIn K (.ref cda) q && (match K.lookup cda with
    | some ⟨_, _, .fields vs, _⟩ => (match (vs[2]? : Option Value) with
      | some (Value.str f _) => file == f
      | _ => false)
    | _ => false)
  | _ => false) && ((match fd.closure with
  | [(_, cc)] => (match K.lookup cc with
    | some ⟨_, _, .cell (some (.ref c)), _⟩ => decide (c = C)
    | _ => false)
  | _ => false) && ((match fd.defaults with
  | .none => true
  | _ => false) && (match clsIn K C with
  | some cdC => He.eqO (alongIn K "__init__" ((cdC.mro.dropWhile (· != .ref C)).drop 1)) (some (some (.builtin "ValueError.__init__")))
  | none => false)))
def unB (file : Str) (K : PySem.W.Frag) (C f : Addr) (q : Str) : Bool := match K.lookup f with
  | some ⟨_, _, .func fd, _⟩ => unC file K C q fd
  | _ => false
def fa0 : List He.Fa := [.free "len", .free "abs", .free "max", .free "min", .free "int", .free "str", .free "tuple", .free "list", .free "sorted", .free "zip", .free "enumerate", .free "range", .free "all", .free "any", .free "isinstance", .free "bool", .free "super", .free "ValueError", .int "MOST_NAME_CHARS" 12, .int "MOST_WINDS" 4, .int "MOST_PLACES" 24, .int "MOST_LINKS" 60, .int "MOST_PATHS" 60, .int "MOST_MINUTES" 1000, .int "MOST_DIGITS" 6, .int "MOST_CHANGES" 40, .int "MOST_MINUTE" 100000, .str "NAME_CHARS" chars, .str "DIGITS" digits, .str "NO_LINK" "-"]
def fa1 : List He.Fa := [.glo "WORDS", .glo "is_name", .glo "are_different", .glo "require", .glo "checked_times", .glo "is_number", .glo "check_winds", .glo "check_changes", .glo "blowing", .glo "chances", .glo "least_numbers", .glo "most_numbers", .glo "check_rows", .glo "least_minutes", .glo "caught", .glo "spread", .glo "word_of", .glo "check_fire_at", .glo "labels_of", .glo "step_back", .glo "chain_to", .glo "paper", .glo "is_ahead", .glo "least_labels", .glo "are_closed", .glo "is_link", .glo "is_chain", .glo "check_paper", .glo "paper_text", .glo "is_label"]
def fa2 : List He.Fa := [.glo "is_catch", .glo "parse_paper", .glo "check_text", .glo "_law_row", .glo "_law_numbers", .glo "_law_names", .glo "_law_parts", .glo "_law_weather", .glo "_law_wind", .glo "_law_caught", .glo "_law_fire", .glo "_law_rows", .glo "_law_land", .glo "_law_least", .glo "_law_closed", .glo "_law_chain", .glo "_law_right", .glo "_law_spoilt", .glo "_law_text", .glo "_law_refused", .glo "law", .glo "Land", .glo "Paper", .glo "UnknownName", .glo "InvalidWeather", .cls "Land", .mkr "Land", .noat "Land" "winds", .noat "Land" "places", .noat "Land" "links"]
def fa3 : List He.Fa := [.noat "Land" "paths", .meth "Land" "are_ends", .meth "Land" "checked_link", .meth "Land" "checked_path", .meth "Land" "check_place", .meth "Land" "check_wind", .cls "Paper", .mkr "Paper", .noat "Paper" "word", .noat "Paper" "labels", .noat "Paper" "chain", .exc "InvalidWeather", .exm "UnknownName" "UnknownName" true, .exm "InvalidWeather" "UnknownName" false, .exm "InvalidWeather" "InvalidWeather" true]
def fa : List He.Fa := fa0 ++ fa1 ++ fa2 ++ fa3
def fn0 : List He.DefD := [⟨("is_name", none), "is_name", "is_name", defArgs s_is_name, defBody s_is_name, defScope s_is_name, [], []⟩, ⟨("are_different", none), "are_different", "are_different", defArgs s_are_different, defBody s_are_different, defScope s_are_different, [], []⟩, ⟨("require", none), "require", "require", defArgs s_require, defBody s_require, defScope s_require, [], []⟩, ⟨("checked_times", none), "checked_times", "checked_times", defArgs s_checked_times, defBody s_checked_times, defScope s_checked_times, [], []⟩, ⟨("is_number", none), "is_number", "is_number", defArgs s_is_number, defBody s_is_number, defScope s_is_number, [], []⟩, ⟨("check_winds", none), "check_winds", "check_winds", defArgs s_check_winds, defBody s_check_winds, defScope s_check_winds, [], []⟩, ⟨("check_changes", none), "check_changes", "check_changes", defArgs s_check_changes, defBody s_check_changes, defScope s_check_changes, [], []⟩, ⟨("blowing", none), "blowing", "blowing", defArgs s_blowing, defBody s_blowing, defScope s_blowing, [], []⟩, ⟨("chances", none), "chances", "chances", defArgs s_chances, defBody s_chances, defScope s_chances, [], []⟩, ⟨("least_numbers", none), "least_numbers", "least_numbers", defArgs s_least_numbers, defBody s_least_numbers, defScope s_least_numbers, [], []⟩, ⟨("most_numbers", none), "most_numbers", "most_numbers", defArgs s_most_numbers, defBody s_most_numbers, defScope s_most_numbers, [], []⟩, ⟨("check_rows", none), "check_rows", "check_rows", defArgs s_check_rows, defBody s_check_rows, defScope s_check_rows, [], []⟩, ⟨("least_minutes", none), "least_minutes", "least_minutes", defArgs s_least_minutes, defBody s_least_minutes, defScope s_least_minutes, [], []⟩, ⟨("caught", none), "caught", "caught", defArgs s_caught, defBody s_caught, defScope s_caught, [], []⟩, ⟨("spread", none), "spread", "spread", defArgs s_spread, defBody s_spread, defScope s_spread, [], []⟩, ⟨("word_of", none), "word_of", "word_of", defArgs s_word_of, defBody s_word_of, defScope s_word_of, [], []⟩, ⟨("check_fire_at", none), "check_fire_at", "check_fire_at", defArgs s_check_fire_at, defBody s_check_fire_at, defScope s_check_fire_at, [], []⟩, ⟨("labels_of", none), "labels_of", "labels_of", defArgs s_labels_of, defBody s_labels_of, defScope s_labels_of, [], []⟩, ⟨("step_back", none), "step_back", "step_back", defArgs s_step_back, defBody s_step_back, defScope s_step_back, [], []⟩, ⟨("chain_to", none), "chain_to", "chain_to", defArgs s_chain_to, defBody s_chain_to, defScope s_chain_to, [], []⟩]
def fn1 : List He.DefD := [⟨("paper", none), "paper", "paper", defArgs s_paper, defBody s_paper, defScope s_paper, [], []⟩, ⟨("is_ahead", none), "is_ahead", "is_ahead", defArgs s_is_ahead, defBody s_is_ahead, defScope s_is_ahead, [], []⟩, ⟨("least_labels", none), "least_labels", "least_labels", defArgs s_least_labels, defBody s_least_labels, defScope s_least_labels, [], []⟩, ⟨("are_closed", none), "are_closed", "are_closed", defArgs s_are_closed, defBody s_are_closed, defScope s_are_closed, [], []⟩, ⟨("is_link", none), "is_link", "is_link", defArgs s_is_link, defBody s_is_link, defScope s_is_link, [], []⟩, ⟨("is_chain", none), "is_chain", "is_chain", defArgs s_is_chain, defBody s_is_chain, defScope s_is_chain, [], []⟩, ⟨("check_paper", none), "check_paper", "check_paper", defArgs s_check_paper, defBody s_check_paper, defScope s_check_paper, [], []⟩, ⟨("paper_text", none), "paper_text", "paper_text", defArgs s_paper_text, defBody s_paper_text, defScope s_paper_text, [], []⟩, ⟨("is_label", none), "is_label", "is_label", defArgs s_is_label, defBody s_is_label, defScope s_is_label, [], []⟩, ⟨("is_catch", none), "is_catch", "is_catch", defArgs s_is_catch, defBody s_is_catch, defScope s_is_catch, [], []⟩, ⟨("parse_paper", none), "parse_paper", "parse_paper", defArgs s_parse_paper, defBody s_parse_paper, defScope s_parse_paper, [], []⟩, ⟨("check_text", none), "check_text", "check_text", defArgs s_check_text, defBody s_check_text, defScope s_check_text, [], []⟩, ⟨("_law_row", none), "_law_row", "_law_row", defArgs s__law_row, defBody s__law_row, defScope s__law_row, [], []⟩, ⟨("_law_numbers", none), "_law_numbers", "_law_numbers", defArgs s__law_numbers, defBody s__law_numbers, defScope s__law_numbers, [], []⟩, ⟨("_law_names", none), "_law_names", "_law_names", defArgs s__law_names, defBody s__law_names, defScope s__law_names, [], []⟩, ⟨("_law_parts", none), "_law_parts", "_law_parts", defArgs s__law_parts, defBody s__law_parts, defScope s__law_parts, [], []⟩, ⟨("_law_weather", none), "_law_weather", "_law_weather", defArgs s__law_weather, defBody s__law_weather, defScope s__law_weather, [], []⟩, ⟨("_law_wind", none), "_law_wind", "_law_wind", defArgs s__law_wind, defBody s__law_wind, defScope s__law_wind, [], []⟩, ⟨("_law_caught", none), "_law_caught", "_law_caught", defArgs s__law_caught, defBody s__law_caught, defScope s__law_caught, [], []⟩, ⟨("_law_fire", none), "_law_fire", "_law_fire", defArgs s__law_fire, defBody s__law_fire, defScope s__law_fire, [], []⟩]
def fn2 : List He.DefD := [⟨("_law_rows", none), "_law_rows", "_law_rows", defArgs s__law_rows, defBody s__law_rows, defScope s__law_rows, [], []⟩, ⟨("_law_land", none), "_law_land", "_law_land", defArgs s__law_land, defBody s__law_land, defScope s__law_land, [], []⟩, ⟨("_law_least", none), "_law_least", "_law_least", defArgs s__law_least, defBody s__law_least, defScope s__law_least, [], []⟩, ⟨("_law_closed", none), "_law_closed", "_law_closed", defArgs s__law_closed, defBody s__law_closed, defScope s__law_closed, [], []⟩, ⟨("_law_chain", none), "_law_chain", "_law_chain", defArgs s__law_chain, defBody s__law_chain, defScope s__law_chain, [], []⟩, ⟨("_law_right", none), "_law_right", "_law_right", defArgs s__law_right, defBody s__law_right, defScope s__law_right, [], []⟩, ⟨("_law_spoilt", none), "_law_spoilt", "_law_spoilt", defArgs s__law_spoilt, defBody s__law_spoilt, defScope s__law_spoilt, [], []⟩, ⟨("_law_text", none), "_law_text", "_law_text", defArgs s__law_text, defBody s__law_text, defScope s__law_text, [], []⟩, ⟨("_law_refused", none), "_law_refused", "_law_refused", defArgs s__law_refused, defBody s__law_refused, defScope s__law_refused, [], []⟩, ⟨("law", none), "law", "law", defArgs s_law, defBody s_law, defScope s_law, [], []⟩, ⟨("Land", some "are_ends"), "are_ends", "Land.are_ends", defArgs s_Land_are_ends, defBody s_Land_are_ends, defScope s_Land_are_ends, [], []⟩, ⟨("Land", some "checked_link"), "checked_link", "Land.checked_link", defArgs s_Land_checked_link, defBody s_Land_checked_link, defScope s_Land_checked_link, [], []⟩, ⟨("Land", some "checked_path"), "checked_path", "Land.checked_path", defArgs s_Land_checked_path, defBody s_Land_checked_path, defScope s_Land_checked_path, [], []⟩, ⟨("Land", some "check_place"), "check_place", "Land.check_place", defArgs s_Land_check_place, defBody s_Land_check_place, defScope s_Land_check_place, [], []⟩, ⟨("Land", some "check_wind"), "check_wind", "Land.check_wind", defArgs s_Land_check_wind, defBody s_Land_check_wind, defScope s_Land_check_wind, [], []⟩, ⟨("Paper", some "__init__"), "__init__", "Paper.__init__", defArgs s_Paper___init__, defBody s_Paper___init__, defScope s_Paper___init__, [], []⟩, ⟨("Land", some "__init__"), "__init__", "Land.__init__", defArgs s_Land___init__, defBody s_Land___init__, defScope s_Land___init__, [], [("links", .adr (kwAt "links")), ("paths", .adr (kwAt "paths"))]⟩]
def fn : List He.DefD := fn0 ++ fn1 ++ fn2
abbrev rowR : PySem.W.OpenRow := PySem.W.OpenLaw.row PySem.Challenge.rw_everyfire_k63_whole_checked_texts
abbrev prog : Program := (PySem.Challenge.rw_everyfire_k63_whole_checked_texts).prog
def exUB (K : PySem.W.Frag) : Bool := oexB K (He.ga K "UnknownName") && (decide (mroIn K (He.ga K "UnknownName") (.ref (He.ga K "UnknownName")) = some true) && (decide (subIn K (.ref (He.ga K "UnknownName")) (.type "ValueError") = some true) && (He.eqO (findIn K (.ref (He.ga K "UnknownName")) "name") (some none) && (He.eqO (nsIn K cStatics "thirdparty.any") (some none) && unB prog.main.file K (He.ga K "UnknownName") (He.ma K (He.ga K "UnknownName") "__init__") "UnknownName.__init__"))))
def propB (K : PySem.W.Frag) : Bool := He.eqO (findIn K (.ref (He.ga K "Land")) "link_names") (some (some (.ref (He.ma K (He.ga K "Land") "link_names")))) && (He.eqO (specialIn K (.ref (He.ma K (He.ga K "Land") "link_names")) "__get__") (some (some (.builtin "property.__get__"))) && (decide (takesIn K (.ref (He.ma K (He.ga K "Land") "link_names")) = some true) && ((match recIn K (He.ma K (He.ga K "Land") "link_names") "property" with
  | some (.ref _ :: _) => true
  | _ => false) && plainF K (gPr K) "Land.link_names")))
def iuB (K : PySem.W.Frag) : Bool := He.eqO (findIn K (.ref (He.ga K "UnknownName")) "__init__") (some (some (.ref (He.ma K (He.ga K "UnknownName") "__init__")))) && decide (typeIn K (.ref (He.ma K (He.ga K "UnknownName") "__init__")) = some (.type "function"))
def exB (K : PySem.W.Frag) : Bool := He.tupB K "WORDS" [.str "never", .str "maybe", .str "surely"] && (propB K && (exUB K && (iuB K && (xfB K (He.ga K "UnknownName") && (excCB K (He.ga K "InvalidWeather") && decide (kitOne K (.ref (He.ga K "InvalidWeather")) (.type "ValueError") = some true))))))
section
variable {K : PySem.W.Frag} (ex : exB K = true)
theorem ex_words (ex : exB K = true) : He.tupB K "WORDS" [.str "never", .str "maybe", .str "surely"] = true := (He.ba ex).1
theorem ex_pr (ex : exB K = true) : propB K = true := (He.ba (He.ba ex).2).1
theorem ex_un (ex : exB K = true) : exUB K = true := (He.ba (He.ba (He.ba ex).2).2).1
theorem ex_iu (ex : exB K = true) : iuB K = true := (He.ba (He.ba (He.ba (He.ba ex).2).2).2).1
theorem ex_xU (ex : exB K = true) : xfB K (He.ga K "UnknownName") = true := (He.ba (He.ba (He.ba (He.ba (He.ba ex).2).2).2).2).1
theorem ex_cW (ex : exB K = true) : excCB K (He.ga K "InvalidWeather") = true := (He.ba (He.ba (He.ba (He.ba (He.ba (He.ba ex).2).2).2).2).2).1
theorem ex_kt (ex : exB K = true) : kitOne K (.ref (He.ga K "InvalidWeather")) (.type "ValueError") = some true := of_decide_eq_true (He.ba (He.ba (He.ba (He.ba (He.ba (He.ba ex).2).2).2).2).2).2
theorem ex_iU (ex : exB K = true) : findIn K (.ref (He.ga K "UnknownName")) "__init__" = some (some (.ref (He.ma K (He.ga K "UnknownName") "__init__"))) := He.eqO_ok (He.ba (ex_iu ex)).1
theorem ex_tU (ex : exB K = true) : typeIn K (.ref (He.ma K (He.ga K "UnknownName") "__init__")) = some (.type "function") := of_decide_eq_true (He.ba (ex_iu ex)).2
end
/-! ### what is looked at -/
/-- the addresses that are looked at: the module's dict, the defs, their code, the classes, their dicts (read off a run; what stands there the equation of the run shows) -/
def asX0 : List Addr := [3, 2, 136, 444, 168, 167, 21, 20, 31, 30, 44, 43, 65, 64, 77, 76, 98, 97, 105, 104, 112, 111, 119, 118, 126, 125, 277, 276, 286, 285]
def asX1 : List Addr := [293, 292, 298, 297, 303, 302, 308, 307, 313, 312, 318, 317, 325, 324, 332, 331, 339, 338, 344, 343, 351, 350, 358, 357, 373, 372, 382, 381, 389, 388]
def asX2 : List Addr := [396, 395, 403, 402, 410, 409, 417, 416, 424, 423, 431, 430, 436, 435, 443, 442, 449, 448, 456, 455, 463, 462, 468, 467, 475, 474, 482, 481, 489, 488]
def asX3 : List Addr := [494, 493, 499, 498, 506, 505, 513, 512, 518, 517, 525, 524, 530, 529, 537, 536, 544, 543, 549, 548, 554, 553, 561, 560, 566, 565, 571, 570, 578, 577]
def asX4 : List Addr := [585, 584, 19, 62, 61, 95, 94, 103, 110, 117, 124, 141, 140, 148, 147, 155, 154, 162, 161, 175, 174, 182, 181, 189, 188, 196, 195, 203, 202, 210]
def asX5 : List Addr := [209, 217, 216, 224, 223, 232, 231, 239, 238, 246, 245, 253, 252, 260, 259, 267, 266, 274, 273, 284, 291, 296, 301, 306, 311, 316, 323, 330, 337, 342]
def asX6 : List Addr := [349, 356, 370, 369, 380, 387, 394, 401, 408, 415, 422, 429, 434, 441, 447, 454, 461, 466, 473, 480, 487, 492, 497, 504, 511, 516, 523, 528, 535, 542]
def asX7 : List Addr := [547, 552, 559, 564, 569, 576, 583, 50, 83, 166, 60, 93, 139, 146, 153, 160, 173, 180, 187, 194, 201, 208, 215, 222, 230, 237, 244, 251, 258, 265]
def asX8 : List Addr := [272, 368]
def asX : List Addr := asX0 ++ asX1 ++ asX2 ++ asX3 ++ asX4 ++ asX5 ++ asX6 ++ asX7 ++ asX8
abbrev AlX : Type := He.AlD × (Bool × (FnC × FnC))
def valC1 : FnC := some ("link_names", "Land.link_names", defArgs s_Land_link_names, .stmts (defBody s_Land_link_names), defScope s_Land_link_names, mainGlobals, [], builtinsNs)
def valC2 : FnC := some ("__init__", "UnknownName.__init__", defArgs s_UnknownName___init__, .stmts (defBody s_UnknownName___init__), defScope s_UnknownName___init__, mainGlobals, ["__class__"], builtinsNs)
def obsX (K : PySem.W.Frag) : AlX := (He.obsD fa fn K, (exB K, (fnC K (gPr K), fnC K (He.ma K (He.ga K "UnknownName") "__init__"))))
def valX : AlX := (He.valD fn, (true, (valC1, valC2)))
def hkX : PySem.W.Hook where
  α := AlX
  obs := fun s => obsX (He.frG s.heap.get? asX)
  val := fun _ => valX
  says := fun _ h => ∃ K : PySem.W.Frag, K.In h ∧ obsX K = valX
  of := fun _ _ e => ⟨_, He.frG_in, e⟩
  keeps := fun _ _ _ ⟨K, hK, c⟩ k => ⟨K, PySem.W.Frag.In.keeps hK k, c⟩
def obT (s : PySem.W.SharedT) : AlX := obsX (He.frG (HandSHeadRun.getT s) asX)
theorem obT_eq (s : PySem.W.SharedT) : obT s = hkX.obs s.abs := by
  have e : HandSHeadRun.getT s = s.abs.heap.get? := funext (HandSHeadRun.getT_eq s)
  show obsX (He.frG (HandSHeadRun.getT s) asX) = obsX (He.frG s.abs.heap.get? asX)
  rw [e]
/-! ### the facts -/
theorem prop_of {K : PySem.W.Frag} (ex : exB K = true) (e : (fnC K (gPr K), fnC K (He.ma K (He.ga K "UnknownName") "__init__")) = (valC1, valC2)) :
    ∃ (p g : Addr) (fd : FuncData), PropOf K (He.ga K "Land") "link_names" p g ∧ FunD K "link_names" "Land.link_names" (defArgs s_Land_link_names) (defBody s_Land_link_names) (defScope s_Land_link_names) [] [] g fd := by
  obtain ⟨h1, h⟩ := He.ba (ex_pr ex)
  obtain ⟨h2, h⟩ := He.ba h
  obtain ⟨h3, h⟩ := He.ba h
  obtain ⟨h4, h5⟩ := He.ba h
  obtain ⟨fd, F⟩ := plainF_ok h5 (congrArg Prod.fst e)
  refine ⟨_, gPr K, fd, ⟨He.eqO_ok h1, He.eqO_ok h2, of_decide_eq_true h3, ?_⟩, F⟩
  unfold gPr
  cases q : recIn K (He.ma K (He.ga K "Land") "link_names") "property" with
  | none => rw [q] at h4; cases h4
  | some l =>
    rw [q] at h4
    cases l with
    | nil => cases h4
    | cons v r =>
      cases v with
      | ref g => exact ⟨r, rfl⟩
      | _ => cases h4
theorem un_of {K : PySem.W.Frag} {mg : Str → Option Value} (ex : exB K = true) (e : (fnC K (gPr K), fnC K (He.ma K (He.ga K "UnknownName") "__init__")) = (valC1, valC2)) (ms : mg "super" = none) :
    ∃ fd, UnF prog K mg (He.ga K "UnknownName") (He.ma K (He.ga K "UnknownName") "__init__") fd (defBody s_UnknownName___init__) (defScope s_UnknownName___init__) ∧ Binds K fd ["self", "name"] [] := by
  obtain ⟨h1, h⟩ := He.ba (ex_un ex)
  obtain ⟨h2, h⟩ := He.ba h
  obtain ⟨h3, h⟩ := He.ba h
  obtain ⟨h4, h⟩ := He.ba h
  obtain ⟨h5, h6⟩ := He.ba h
  have e : fnC K (He.ma K (He.ga K "UnknownName") "__init__") = valC2 := congrArg Prod.snd e
  generalize He.ga K "UnknownName" = C at *
  generalize He.ma K C "__init__" = f at *
  unfold unB at h6
  unfold fnC valC2 at e
  cases z : K.lookup f with
  | none => rw [z] at e; cases e
  | some o =>
    obtain ⟨oc, od, dt, osl⟩ := o
    rw [z] at e h6
    cases dt with
    | func fd =>
      obtain ⟨n1, n2, n3, n4, n5, n6, n7, n8, n9, n10, n11, n12, n13, n14, n15⟩ := fd
      have e2 : (some (n1, n2, n3, n4, n5, n6, n7.map (·.1), n15) : FnC) = (some ("__init__", "UnknownName.__init__", defArgs s_UnknownName___init__, .stmts (defBody s_UnknownName___init__), defScope s_UnknownName___init__, mainGlobals, ["__class__"], builtinsNs) : FnC) := e
      simp only [Option.some.injEq, Prod.mk.injEq] at e2
      obtain ⟨e1, e2, e3, e4, e5, e6, e7, e8⟩ := e2
      subst e1 e2 e3 e4 e5 e6 e8
      have h6 : unC prog.main.file K C "UnknownName.__init__" (FuncData.mk _ _ _ _ _ _ n7 n8 n9 n10 n11 n12 n13 n14 _) = true := h6
      have e9 : ∃ cc, n7 = [(("__class__" : Str), cc)] := match n7, e7 with
        | [(a, b)], h => ⟨b, by
          have h : [a] = [("__class__" : Str)] := h
          rw [(List.cons.inj h).1]⟩
      obtain ⟨cc, e9⟩ := e9
      clear e7 e
      subst e9
      obtain ⟨a1, h6⟩ := He.ba h6
      obtain ⟨a2, h6⟩ := He.ba h6
      obtain ⟨a3, a4⟩ := He.ba h6
      dsimp only at a1 a2 a3 a4
      cases n13 with
      | ref cda =>
        obtain ⟨b1, b2⟩ := He.ba a1
        cases hcda : K.lookup cda with
        | none => rw [hcda] at b2; cases b2
        | some oa =>
          obtain ⟨ccl, cdd, da, ccs⟩ := oa
          rw [hcda] at b2
          cases da with
          | fields vs =>
            dsimp only at b2
            cases hvs : (vs[2]? : Option Value) with
            | none => rw [hvs] at b2; cases b2
            | some u =>
              rw [hvs] at b2
              cases u with
              | str fl tf =>
                cases hcc : K.lookup cc with
                | none => rw [hcc] at a2; cases a2
                | some ob =>
                  obtain ⟨cl, cld, dc, csl⟩ := ob
                  rw [hcc] at a2
                  cases dc with
                  | cell cv =>
                    cases cv with
                    | none => cases a2
                    | some cw =>
                      cases cw with
                      | ref c =>
                        have ec : c = C := of_decide_eq_true a2
                        subst ec
                        cases n8 with
                        | none =>
                          cases hcl : clsIn K c with
                          | none => rw [hcl] at a4; cases a4
                          | some cdC =>
                            rw [hcl] at a4
                            have hb : ∀ us : List Value, us.length = 2 → bindArgs (ksFn "__init__" "UnknownName.__init__" (defArgs s_UnknownName___init__) (defBody s_UnknownName___init__) (defScope s_UnknownName___init__) .none n9 n10 n11 n12 (.ref cda) n14 cc) ⟨us, []⟩ = pure ((["self", "name"] : List Str).zip us) := fun us hl => match us, hl with | [_, _], _ => rfl
                            exact ⟨_, ⟨⟨"UnknownName.__init__", defArgs s_UnknownName___init__, n9, n10, n11, n14, oc, cl, ccl, n12, od, cld, cdd, osl, csl, ccs, cc, cda, vs, fl, tf, cdC, rfl, z, b1, hcc, hcda, hvs, b2, hcl, He.eqO_ok a4, ⟨_, _, rfl, by kernel_rfl⟩, hb⟩,
                              oexB_ok h1, of_decide_eq_true h2, of_decide_eq_true h3, He.eqO_ok h4, He.eqO_ok h5, ms, by kernel_rfl, by kernel_rfl, by kernel_rfl, by kernel_rfl, by kernel_rfl, by kernel_rfl, by kernel_rfl, by kernel_rfl, by decide +kernel, by decide +kernel⟩, .all hb⟩
                        | _ => cases a3
                      | _ => cases a2
                  | _ => cases a2
              | _ => cases b2
          | _ => cases b2
      | _ => cases a1
    | _ => cases e
abbrev names0 : List Str := ["_wall", "EveryfireError", "InvalidLand", "UnknownName", "InvalidWeather", "InvalidPaper", "NAME_CHARS", "MOST_NAME_CHARS", "MOST_WINDS", "MOST_PLACES", "MOST_LINKS", "MOST_PATHS", "MOST_MINUTES", "is_name", "are_different", "require", "checked_times", "Land", "DIGITS", "MOST_DIGITS", "is_number", "MOST_CHANGES", "MOST_MINUTE", "check_winds"]
abbrev names1 : List Str := ["check_changes", "blowing", "chances", "least_numbers", "most_numbers", "check_rows", "least_minutes", "caught", "spread", "word_of", "check_fire_at", "Paper", "labels_of", "step_back", "chain_to", "paper", "is_ahead", "least_labels", "are_closed", "is_link", "is_chain", "check_paper", "NO_LINK", "WORDS"]
abbrev names2 : List Str := ["paper_text", "is_label", "is_catch", "parse_paper", "check_text", "_law_row", "_law_numbers", "_law_names", "_law_parts", "_law_weather", "_law_wind", "_law_caught", "_law_fire", "_law_rows", "_law_land", "_law_least", "_law_closed", "_law_chain", "_law_right", "_law_spoilt", "_law_text", "_law_refused"]
abbrev names : List Str := names0 ++ names1 ++ names2
theorem run (w : World) : HandSHeadRun.RunEq rowR (PySem.W.view rowR.prog [78]) hkX obT 60000 names w := by
  intro os
  kernel_rfl
theorem tx_of {K : PySem.W.Frag} {h : Heap} {mg : Str → Option Value} (X : K.In h) (G : h.Ns mainGlobals mg) (hc : obsX K = valX) : Tx K mg := by
  have c : He.SaysD fa fn K := congrArg Prod.fst hc
  have ex : exB K = true := congrArg (fun z => z.2.1) hc
  exact {
    b_len := He.free_ok X G (c.fact 0 (f := .free "len") rfl)
    b_abs := He.free_ok X G (c.fact 1 (f := .free "abs") rfl)
    b_max := He.free_ok X G (c.fact 2 (f := .free "max") rfl)
    b_min := He.free_ok X G (c.fact 3 (f := .free "min") rfl)
    b_int := He.free_ok X G (c.fact 4 (f := .free "int") rfl)
    b_str := He.free_ok X G (c.fact 5 (f := .free "str") rfl)
    b_tuple := He.free_ok X G (c.fact 6 (f := .free "tuple") rfl)
    b_list := He.free_ok X G (c.fact 7 (f := .free "list") rfl)
    b_sorted := He.free_ok X G (c.fact 8 (f := .free "sorted") rfl)
    b_zip := He.free_ok X G (c.fact 9 (f := .free "zip") rfl)
    b_enumerate := He.free_ok X G (c.fact 10 (f := .free "enumerate") rfl)
    b_range := He.free_ok X G (c.fact 11 (f := .free "range") rfl)
    b_all := He.free_ok X G (c.fact 12 (f := .free "all") rfl)
    b_any := He.free_ok X G (c.fact 13 (f := .free "any") rfl)
    b_isinstance := He.free_ok X G (c.fact 14 (f := .free "isinstance") rfl)
    b_bool := He.free_ok X G (c.fact 15 (f := .free "bool") rfl)
    b_super := He.free_ok X G (c.fact 16 (f := .free "super") rfl)
    b_ValueError := He.free_ok X G (c.fact 17 (f := .free "ValueError") rfl)
    c_MOST_NAME_CHARS := He.int_ok X G (c.fact 18 (f := .int "MOST_NAME_CHARS" 12) rfl)
    c_MOST_WINDS := He.int_ok X G (c.fact 19 (f := .int "MOST_WINDS" 4) rfl)
    c_MOST_PLACES := He.int_ok X G (c.fact 20 (f := .int "MOST_PLACES" 24) rfl)
    c_MOST_LINKS := He.int_ok X G (c.fact 21 (f := .int "MOST_LINKS" 60) rfl)
    c_MOST_PATHS := He.int_ok X G (c.fact 22 (f := .int "MOST_PATHS" 60) rfl)
    c_MOST_MINUTES := He.int_ok X G (c.fact 23 (f := .int "MOST_MINUTES" 1000) rfl)
    c_MOST_DIGITS := He.int_ok X G (c.fact 24 (f := .int "MOST_DIGITS" 6) rfl)
    c_MOST_CHANGES := He.int_ok X G (c.fact 25 (f := .int "MOST_CHANGES" 40) rfl)
    c_MOST_MINUTE := He.int_ok X G (c.fact 26 (f := .int "MOST_MINUTE" 100000) rfl)
    c_NAME_CHARS := He.str_ok X G (c.fact 27 (f := .str "NAME_CHARS" chars) rfl)
    c_DIGITS := He.str_ok X G (c.fact 28 (f := .str "DIGITS" digits) rfl)
    c_NO_LINK := He.str_ok X G (c.fact 29 (f := .str "NO_LINK" "-") rfl)
    c_WORDS := ⟨_, He.glo_ok X G (c.fact 30 (f := .glo "WORDS") rfl), fun H => He.tupB_ok (ex_words ex) H⟩
    f_is_name := ⟨He.glo_ok X G (c.fact 31 (f := .glo "is_name") rfl), (c.def_ 0 (d := ⟨("is_name", none), "is_name", "is_name", defArgs s_is_name, defBody s_is_name, defScope s_is_name, [], []⟩) rfl)⟩
    f_are_different := ⟨He.glo_ok X G (c.fact 32 (f := .glo "are_different") rfl), (c.def_ 1 (d := ⟨("are_different", none), "are_different", "are_different", defArgs s_are_different, defBody s_are_different, defScope s_are_different, [], []⟩) rfl)⟩
    f_require := ⟨He.glo_ok X G (c.fact 33 (f := .glo "require") rfl), (c.def_ 2 (d := ⟨("require", none), "require", "require", defArgs s_require, defBody s_require, defScope s_require, [], []⟩) rfl)⟩
    f_checked_times := ⟨He.glo_ok X G (c.fact 34 (f := .glo "checked_times") rfl), (c.def_ 3 (d := ⟨("checked_times", none), "checked_times", "checked_times", defArgs s_checked_times, defBody s_checked_times, defScope s_checked_times, [], []⟩) rfl)⟩
    f_is_number := ⟨He.glo_ok X G (c.fact 35 (f := .glo "is_number") rfl), (c.def_ 4 (d := ⟨("is_number", none), "is_number", "is_number", defArgs s_is_number, defBody s_is_number, defScope s_is_number, [], []⟩) rfl)⟩
    f_check_winds := ⟨He.glo_ok X G (c.fact 36 (f := .glo "check_winds") rfl), (c.def_ 5 (d := ⟨("check_winds", none), "check_winds", "check_winds", defArgs s_check_winds, defBody s_check_winds, defScope s_check_winds, [], []⟩) rfl)⟩
    f_check_changes := ⟨He.glo_ok X G (c.fact 37 (f := .glo "check_changes") rfl), (c.def_ 6 (d := ⟨("check_changes", none), "check_changes", "check_changes", defArgs s_check_changes, defBody s_check_changes, defScope s_check_changes, [], []⟩) rfl)⟩
    f_blowing := ⟨He.glo_ok X G (c.fact 38 (f := .glo "blowing") rfl), (c.def_ 7 (d := ⟨("blowing", none), "blowing", "blowing", defArgs s_blowing, defBody s_blowing, defScope s_blowing, [], []⟩) rfl)⟩
    f_chances := ⟨He.glo_ok X G (c.fact 39 (f := .glo "chances") rfl), (c.def_ 8 (d := ⟨("chances", none), "chances", "chances", defArgs s_chances, defBody s_chances, defScope s_chances, [], []⟩) rfl)⟩
    f_least_numbers := ⟨He.glo_ok X G (c.fact 40 (f := .glo "least_numbers") rfl), (c.def_ 9 (d := ⟨("least_numbers", none), "least_numbers", "least_numbers", defArgs s_least_numbers, defBody s_least_numbers, defScope s_least_numbers, [], []⟩) rfl)⟩
    f_most_numbers := ⟨He.glo_ok X G (c.fact 41 (f := .glo "most_numbers") rfl), (c.def_ 10 (d := ⟨("most_numbers", none), "most_numbers", "most_numbers", defArgs s_most_numbers, defBody s_most_numbers, defScope s_most_numbers, [], []⟩) rfl)⟩
    f_check_rows := ⟨He.glo_ok X G (c.fact 42 (f := .glo "check_rows") rfl), (c.def_ 11 (d := ⟨("check_rows", none), "check_rows", "check_rows", defArgs s_check_rows, defBody s_check_rows, defScope s_check_rows, [], []⟩) rfl)⟩
    f_least_minutes := ⟨He.glo_ok X G (c.fact 43 (f := .glo "least_minutes") rfl), (c.def_ 12 (d := ⟨("least_minutes", none), "least_minutes", "least_minutes", defArgs s_least_minutes, defBody s_least_minutes, defScope s_least_minutes, [], []⟩) rfl)⟩
    f_caught := ⟨He.glo_ok X G (c.fact 44 (f := .glo "caught") rfl), (c.def_ 13 (d := ⟨("caught", none), "caught", "caught", defArgs s_caught, defBody s_caught, defScope s_caught, [], []⟩) rfl)⟩
    f_spread := ⟨He.glo_ok X G (c.fact 45 (f := .glo "spread") rfl), (c.def_ 14 (d := ⟨("spread", none), "spread", "spread", defArgs s_spread, defBody s_spread, defScope s_spread, [], []⟩) rfl)⟩
    f_word_of := ⟨He.glo_ok X G (c.fact 46 (f := .glo "word_of") rfl), (c.def_ 15 (d := ⟨("word_of", none), "word_of", "word_of", defArgs s_word_of, defBody s_word_of, defScope s_word_of, [], []⟩) rfl)⟩
    f_check_fire_at := ⟨He.glo_ok X G (c.fact 47 (f := .glo "check_fire_at") rfl), (c.def_ 16 (d := ⟨("check_fire_at", none), "check_fire_at", "check_fire_at", defArgs s_check_fire_at, defBody s_check_fire_at, defScope s_check_fire_at, [], []⟩) rfl)⟩
    f_labels_of := ⟨He.glo_ok X G (c.fact 48 (f := .glo "labels_of") rfl), (c.def_ 17 (d := ⟨("labels_of", none), "labels_of", "labels_of", defArgs s_labels_of, defBody s_labels_of, defScope s_labels_of, [], []⟩) rfl)⟩
    f_step_back := ⟨He.glo_ok X G (c.fact 49 (f := .glo "step_back") rfl), (c.def_ 18 (d := ⟨("step_back", none), "step_back", "step_back", defArgs s_step_back, defBody s_step_back, defScope s_step_back, [], []⟩) rfl)⟩
    f_chain_to := ⟨He.glo_ok X G (c.fact 50 (f := .glo "chain_to") rfl), (c.def_ 19 (d := ⟨("chain_to", none), "chain_to", "chain_to", defArgs s_chain_to, defBody s_chain_to, defScope s_chain_to, [], []⟩) rfl)⟩
    f_paper := ⟨He.glo_ok X G (c.fact 51 (f := .glo "paper") rfl), (c.def_ 20 (d := ⟨("paper", none), "paper", "paper", defArgs s_paper, defBody s_paper, defScope s_paper, [], []⟩) rfl)⟩
    f_is_ahead := ⟨He.glo_ok X G (c.fact 52 (f := .glo "is_ahead") rfl), (c.def_ 21 (d := ⟨("is_ahead", none), "is_ahead", "is_ahead", defArgs s_is_ahead, defBody s_is_ahead, defScope s_is_ahead, [], []⟩) rfl)⟩
    f_least_labels := ⟨He.glo_ok X G (c.fact 53 (f := .glo "least_labels") rfl), (c.def_ 22 (d := ⟨("least_labels", none), "least_labels", "least_labels", defArgs s_least_labels, defBody s_least_labels, defScope s_least_labels, [], []⟩) rfl)⟩
    f_are_closed := ⟨He.glo_ok X G (c.fact 54 (f := .glo "are_closed") rfl), (c.def_ 23 (d := ⟨("are_closed", none), "are_closed", "are_closed", defArgs s_are_closed, defBody s_are_closed, defScope s_are_closed, [], []⟩) rfl)⟩
    f_is_link := ⟨He.glo_ok X G (c.fact 55 (f := .glo "is_link") rfl), (c.def_ 24 (d := ⟨("is_link", none), "is_link", "is_link", defArgs s_is_link, defBody s_is_link, defScope s_is_link, [], []⟩) rfl)⟩
    f_is_chain := ⟨He.glo_ok X G (c.fact 56 (f := .glo "is_chain") rfl), (c.def_ 25 (d := ⟨("is_chain", none), "is_chain", "is_chain", defArgs s_is_chain, defBody s_is_chain, defScope s_is_chain, [], []⟩) rfl)⟩
    f_check_paper := ⟨He.glo_ok X G (c.fact 57 (f := .glo "check_paper") rfl), (c.def_ 26 (d := ⟨("check_paper", none), "check_paper", "check_paper", defArgs s_check_paper, defBody s_check_paper, defScope s_check_paper, [], []⟩) rfl)⟩
    f_paper_text := ⟨He.glo_ok X G (c.fact 58 (f := .glo "paper_text") rfl), (c.def_ 27 (d := ⟨("paper_text", none), "paper_text", "paper_text", defArgs s_paper_text, defBody s_paper_text, defScope s_paper_text, [], []⟩) rfl)⟩
    f_is_label := ⟨He.glo_ok X G (c.fact 59 (f := .glo "is_label") rfl), (c.def_ 28 (d := ⟨("is_label", none), "is_label", "is_label", defArgs s_is_label, defBody s_is_label, defScope s_is_label, [], []⟩) rfl)⟩
    f_is_catch := ⟨He.glo_ok X G (c.fact 60 (f := .glo "is_catch") rfl), (c.def_ 29 (d := ⟨("is_catch", none), "is_catch", "is_catch", defArgs s_is_catch, defBody s_is_catch, defScope s_is_catch, [], []⟩) rfl)⟩
    f_parse_paper := ⟨He.glo_ok X G (c.fact 61 (f := .glo "parse_paper") rfl), (c.def_ 30 (d := ⟨("parse_paper", none), "parse_paper", "parse_paper", defArgs s_parse_paper, defBody s_parse_paper, defScope s_parse_paper, [], []⟩) rfl)⟩
    f_check_text := ⟨He.glo_ok X G (c.fact 62 (f := .glo "check_text") rfl), (c.def_ 31 (d := ⟨("check_text", none), "check_text", "check_text", defArgs s_check_text, defBody s_check_text, defScope s_check_text, [], []⟩) rfl)⟩
    f__law_row := ⟨He.glo_ok X G (c.fact 63 (f := .glo "_law_row") rfl), (c.def_ 32 (d := ⟨("_law_row", none), "_law_row", "_law_row", defArgs s__law_row, defBody s__law_row, defScope s__law_row, [], []⟩) rfl)⟩
    f__law_numbers := ⟨He.glo_ok X G (c.fact 64 (f := .glo "_law_numbers") rfl), (c.def_ 33 (d := ⟨("_law_numbers", none), "_law_numbers", "_law_numbers", defArgs s__law_numbers, defBody s__law_numbers, defScope s__law_numbers, [], []⟩) rfl)⟩
    f__law_names := ⟨He.glo_ok X G (c.fact 65 (f := .glo "_law_names") rfl), (c.def_ 34 (d := ⟨("_law_names", none), "_law_names", "_law_names", defArgs s__law_names, defBody s__law_names, defScope s__law_names, [], []⟩) rfl)⟩
    f__law_parts := ⟨He.glo_ok X G (c.fact 66 (f := .glo "_law_parts") rfl), (c.def_ 35 (d := ⟨("_law_parts", none), "_law_parts", "_law_parts", defArgs s__law_parts, defBody s__law_parts, defScope s__law_parts, [], []⟩) rfl)⟩
    f__law_weather := ⟨He.glo_ok X G (c.fact 67 (f := .glo "_law_weather") rfl), (c.def_ 36 (d := ⟨("_law_weather", none), "_law_weather", "_law_weather", defArgs s__law_weather, defBody s__law_weather, defScope s__law_weather, [], []⟩) rfl)⟩
    f__law_wind := ⟨He.glo_ok X G (c.fact 68 (f := .glo "_law_wind") rfl), (c.def_ 37 (d := ⟨("_law_wind", none), "_law_wind", "_law_wind", defArgs s__law_wind, defBody s__law_wind, defScope s__law_wind, [], []⟩) rfl)⟩
    f__law_caught := ⟨He.glo_ok X G (c.fact 69 (f := .glo "_law_caught") rfl), (c.def_ 38 (d := ⟨("_law_caught", none), "_law_caught", "_law_caught", defArgs s__law_caught, defBody s__law_caught, defScope s__law_caught, [], []⟩) rfl)⟩
    f__law_fire := ⟨He.glo_ok X G (c.fact 70 (f := .glo "_law_fire") rfl), (c.def_ 39 (d := ⟨("_law_fire", none), "_law_fire", "_law_fire", defArgs s__law_fire, defBody s__law_fire, defScope s__law_fire, [], []⟩) rfl)⟩
    f__law_rows := ⟨He.glo_ok X G (c.fact 71 (f := .glo "_law_rows") rfl), (c.def_ 40 (d := ⟨("_law_rows", none), "_law_rows", "_law_rows", defArgs s__law_rows, defBody s__law_rows, defScope s__law_rows, [], []⟩) rfl)⟩
    f__law_land := ⟨He.glo_ok X G (c.fact 72 (f := .glo "_law_land") rfl), (c.def_ 41 (d := ⟨("_law_land", none), "_law_land", "_law_land", defArgs s__law_land, defBody s__law_land, defScope s__law_land, [], []⟩) rfl)⟩
    f__law_least := ⟨He.glo_ok X G (c.fact 73 (f := .glo "_law_least") rfl), (c.def_ 42 (d := ⟨("_law_least", none), "_law_least", "_law_least", defArgs s__law_least, defBody s__law_least, defScope s__law_least, [], []⟩) rfl)⟩
    f__law_closed := ⟨He.glo_ok X G (c.fact 74 (f := .glo "_law_closed") rfl), (c.def_ 43 (d := ⟨("_law_closed", none), "_law_closed", "_law_closed", defArgs s__law_closed, defBody s__law_closed, defScope s__law_closed, [], []⟩) rfl)⟩
    f__law_chain := ⟨He.glo_ok X G (c.fact 75 (f := .glo "_law_chain") rfl), (c.def_ 44 (d := ⟨("_law_chain", none), "_law_chain", "_law_chain", defArgs s__law_chain, defBody s__law_chain, defScope s__law_chain, [], []⟩) rfl)⟩
    f__law_right := ⟨He.glo_ok X G (c.fact 76 (f := .glo "_law_right") rfl), (c.def_ 45 (d := ⟨("_law_right", none), "_law_right", "_law_right", defArgs s__law_right, defBody s__law_right, defScope s__law_right, [], []⟩) rfl)⟩
    f__law_spoilt := ⟨He.glo_ok X G (c.fact 77 (f := .glo "_law_spoilt") rfl), (c.def_ 46 (d := ⟨("_law_spoilt", none), "_law_spoilt", "_law_spoilt", defArgs s__law_spoilt, defBody s__law_spoilt, defScope s__law_spoilt, [], []⟩) rfl)⟩
    f__law_text := ⟨He.glo_ok X G (c.fact 78 (f := .glo "_law_text") rfl), (c.def_ 47 (d := ⟨("_law_text", none), "_law_text", "_law_text", defArgs s__law_text, defBody s__law_text, defScope s__law_text, [], []⟩) rfl)⟩
    f__law_refused := ⟨He.glo_ok X G (c.fact 79 (f := .glo "_law_refused") rfl), (c.def_ 48 (d := ⟨("_law_refused", none), "_law_refused", "_law_refused", defArgs s__law_refused, defBody s__law_refused, defScope s__law_refused, [], []⟩) rfl)⟩
    f_law := ⟨He.glo_ok X G (c.fact 80 (f := .glo "law") rfl), (c.def_ 49 (d := ⟨("law", none), "law", "law", defArgs s_law, defBody s_law, defScope s_law, [], []⟩) rfl)⟩
    g_Land := He.glo_ok X G (c.fact 81 (f := .glo "Land") rfl)
    cl_Land := He.cls_ok (c.fact 85 (f := .cls "Land") rfl)
    mk_Land := He.mkr_ok (c.fact 86 (f := .mkr "Land") rfl)
    na_winds := He.noat_ok (c.fact 87 (f := .noat "Land" "winds") rfl)
    na_places := He.noat_ok (c.fact 88 (f := .noat "Land" "places") rfl)
    na_links := He.noat_ok (c.fact 89 (f := .noat "Land" "links") rfl)
    na_paths := He.noat_ok (c.fact 90 (f := .noat "Land" "paths") rfl)
    m_are_ends := ⟨He.meth_ok (c.fact 91 (f := .meth "Land" "are_ends") rfl), (c.def_ 50 (d := ⟨("Land", some "are_ends"), "are_ends", "Land.are_ends", defArgs s_Land_are_ends, defBody s_Land_are_ends, defScope s_Land_are_ends, [], []⟩) rfl)⟩
    m_checked_link := ⟨He.meth_ok (c.fact 92 (f := .meth "Land" "checked_link") rfl), (c.def_ 51 (d := ⟨("Land", some "checked_link"), "checked_link", "Land.checked_link", defArgs s_Land_checked_link, defBody s_Land_checked_link, defScope s_Land_checked_link, [], []⟩) rfl)⟩
    m_checked_path := ⟨He.meth_ok (c.fact 93 (f := .meth "Land" "checked_path") rfl), (c.def_ 52 (d := ⟨("Land", some "checked_path"), "checked_path", "Land.checked_path", defArgs s_Land_checked_path, defBody s_Land_checked_path, defScope s_Land_checked_path, [], []⟩) rfl)⟩
    m_check_place := ⟨He.meth_ok (c.fact 94 (f := .meth "Land" "check_place") rfl), (c.def_ 53 (d := ⟨("Land", some "check_place"), "check_place", "Land.check_place", defArgs s_Land_check_place, defBody s_Land_check_place, defScope s_Land_check_place, [], []⟩) rfl)⟩
    m_check_wind := ⟨He.meth_ok (c.fact 95 (f := .meth "Land" "check_wind") rfl), (c.def_ 54 (d := ⟨("Land", some "check_wind"), "check_wind", "Land.check_wind", defArgs s_Land_check_wind, defBody s_Land_check_wind, defScope s_Land_check_wind, [], []⟩) rfl)⟩
    g_Paper := He.glo_ok X G (c.fact 82 (f := .glo "Paper") rfl)
    cl_Paper := He.cls_ok (c.fact 96 (f := .cls "Paper") rfl)
    mk_Paper := He.mkr_ok (c.fact 97 (f := .mkr "Paper") rfl)
    na_word := He.noat_ok (c.fact 98 (f := .noat "Paper" "word") rfl)
    na_labels := He.noat_ok (c.fact 99 (f := .noat "Paper" "labels") rfl)
    na_chain := He.noat_ok (c.fact 100 (f := .noat "Paper" "chain") rfl)
    i_Paper := (c.def_ 55 (d := ⟨("Paper", some "__init__"), "__init__", "Paper.__init__", defArgs s_Paper___init__, defBody s_Paper___init__, defScope s_Paper___init__, [], []⟩) rfl)
    i_Land := ⟨_, _, (c.def_ 56 (d := ⟨("Land", some "__init__"), "__init__", "Land.__init__", defArgs s_Land___init__, defBody s_Land___init__, defScope s_Land___init__, [], [("links", .adr (kwAt "links")), ("paths", .adr (kwAt "paths"))]⟩) rfl)⟩
    p_link_names := prop_of ex (congrArg (fun z => z.2.2) hc)
  }
theorem xx_of {K : PySem.W.Frag} {h : Heap} {mg : Str → Option Value} (X : K.In h) (G : h.Ns mainGlobals mg) (hc : obsX K = valX) : Xx prog K mg := by
  have c : He.SaysD fa fn K := congrArg Prod.fst hc
  have ex : exB K = true := congrArg (fun z => z.2.1) hc
  have we := He.exc_ok (c.fact 101 (f := .exc "InvalidWeather") rfl)
  have ms : mg "super" = none := He.free_ok X G (c.fact 16 (f := .free "super") rfl)
  exact {
    gU := He.glo_ok X G (c.fact 83 (f := .glo "UnknownName") rfl)
    gW := He.glo_ok X G (c.fact 84 (f := .glo "InvalidWeather") rfl)
    uU := un_of ex (congrArg (fun z => z.2.2) hc) ms
    iU := ex_iU ex
    tU := ex_tU ex
    xU := xfB_ok (ex_xU ex)
    eW := we.1
    kW := we.2.1
    sW := we.2.2.1
    tW := we.2.2.2
    cW := excC_ok (ex_cW ex)
    kt := ex_kt ex
    m1 := He.exm_ok (c.fact 102 (f := .exm "UnknownName" "UnknownName" true) rfl)
    m2 := He.exm_ok (c.fact 103 (f := .exm "InvalidWeather" "UnknownName" false) rfl)
    m3 := He.exm_ok (c.fact 104 (f := .exm "InvalidWeather" "InvalidWeather" true) rfl)
  }
end Ef
set_option maxRecDepth 100000
set_option maxHeartbeats 0
/-! Nb: the law. -/
namespace Ef
open PySem L2 C8 RZ PyProof.Rows PySem.Spec PySem.W
theorem rep_ints {K : PySem.W.Frag} {H : Hp} : ∀ ns : List Int, RepA K H (ns.map V.int) (ns.map di)
  | [] => .nil
  | n :: ns => .cons (.v _) (rep_ints ns)
theorem law_sp {K : PySem.W.Frag} (H : Hp) (a : Addr) (ns : List Int) (hS : SqL K H a (ns.map V.int)) : spD K R_law [.ref a] H (fun v _ => v = .bl true) fun _ _ _ => False := by
  refine ⟨H, [.zst (ns.map di)], db true, Sub.rfl, .cons (.zst hS (rep_ints ns)) .nil, ⟨ns, rfl, law_numbers ns, rfl⟩, fun v F' H' g r => ?_⟩
  cases r
  rfl
theorem facts {w : World} {h : Heap} {mg : Str → Option Value} {f : Addr} (hfa : mg ("law" : Str) = some (.ref f)) (K : PySem.W.Frag) (X : K.In h) (G : h.Ns mainGlobals mg) (c : obsX K = valX) :
    ∃ fd : FuncData, (∀ (s : Shared) (v : Value), BindsTo s fd ⟨[v], []⟩ [("_law_script", v)]) ∧ ∀ base : Heap, K.In base → base.Ns mainGlobals mg → FnOk prog w K mg base L2.CX0 9 f fd ["_law_script"] (spD K R_law) := by
  have T := tx_of X G c
  have Z := xx_of X G c
  obtain ⟨g, fd, F⟩ := T.f_law
  have e := hfa.symm.trans g
  cases e
  have b := FunD.bindsA (ps := ["_law_script"]) F fun _ _ _ _ _ _ us hl => match us, hl with | [_], _ => rfl
  exact ⟨fd, fun s v => b s [v] rfl, fun base _ _ => ok_law T Z F⟩
end Ef
open PySem PySem.W PySem.Calls PyProof.Rows
theorem PySem.Challenge.cw_everyfire_k63_whole_checked_texts_holds : PySem.Challenge.rw_everyfire_k63_whole_checked_texts.Holds := by
  w_on; o_law
  refine HandSHeadRun.head_any (r := OpenLaw.row PySem.Challenge.rw_everyfire_k63_whole_checked_texts) (q := view (OpenLaw.row PySem.Challenge.rw_everyfire_k63_whole_checked_texts).prog [78]) (H := Ef.hkX) (ob := Ef.obT) (M := 60000) (loose := Ef.names) (d := HandSHeadRun.topDef (OpenLaw.row PySem.Challenge.rw_everyfire_k63_whole_checked_texts).prog 78) (kwd := []) Ef.obT_eq
    (by kernel_rfl) (fun s => by kernel_rfl) Ef.run (by kernel_rfl) (by kernel_rfl) (by kernel_rfl) (by rfl) (by first | assumption | decide +kernel) (by decide +kernel) ⟨rfl, rfl, rfl, rfl, rfl, by decide +kernel⟩ ?hw ?hc
  case hw => w_witness2
  case hc =>
    refine L2.walk_ofE (l := PySem.Challenge.rw_everyfire_k63_whole_checked_texts) (n := 63) (k := 9) (x := "_law_script") (CX := L2.CX0) rfl (by decide) (by kernel_rfl) ⟨rfl, by decide, by decide⟩ ?F (fun _ _ _ _ z => z)
    intro w mg fa h Y G hmg0
    obtain ⟨K, KX, c⟩ := Y
    have hmg : mg ("law" : PySem.Str) = some (.ref fa) := by
      have e : (HandSHeadRun.topDef (OpenLaw.row PySem.Challenge.rw_everyfire_k63_whole_checked_texts).prog 78).name = ("law" : PySem.Str) := by kernel_rfl
      rw [← e]
      exact hmg0
    obtain ⟨fd, hb, hF⟩ := Ef.facts (w := w) hmg K KX G c
    exact ⟨K, fd, Ef.spD K Ef.R_law, KX, hb, fun H a ns hl _ hS => Ef.law_sp H a ns hS, hF⟩
