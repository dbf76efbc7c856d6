import PyProof.Rows.All
import Wide.All
import OpenK.AllK
import Wide.FinOn
import HandS.ForMost
import HandS.Wide
import HandS.TupAny
import HandS.IsInst
import HandS.NoneIn
import HandS.RaiseMore
import HandS.Rev
import HandS.RevTup
import HandS.Small
import HandS.Ends
import HandS.Text
import HandS.Replace
import PyProof.StrOps2
import HandS.FStrTup
import PyProof.EnumMake
import PyProof.TupleIter
import HandS.Zip
import KE.GoesMore
import PyProof.Draws
import HandS.ForExc
import HandS.ExcOwn
import PyProof.StrLawsRepr
import PySem.Challenge.RW_nomiddle_k03_beads_of_shapes
set_option Elab.async false
set_option autoImplicit false
set_option linter.all false
set_option maxRecDepth 100000
set_option maxHeartbeats 4000000
/-! Sy: a store by numbers over the hand layer: frozen data D, cells that may change. -/
namespace Sy
open PySem PySem.Spec PyProof.Rows L2
/-! ### data that stands still -/
inductive D where
  | non | bl (b : Bool) | int (i : Int) | str (x : Str)
  | lst (xs : List D) | tup (xs : List D) | dct (kvs : List (Key × D)) | ob (C : Addr) (fs : List (Str × D)) | v (w : V) | scr (xs : List D)
mutual
inductive Rp (K : PySem.W.Frag) (G : Hp) : V → D → Prop
  | non : Rp K G .non .non
  | bl (b : Bool) : Rp K G (.bl b) (.bl b)
  | int (i : Int) : Rp K G (.int i) (.int i)
  | str (x : Str) : Rp K G (.str x) (.str x)
  | lst {a : Addr} {xs : List V} {ds : List D} : G a = some (.lst xs) → RpAll K G xs ds → Rp K G (.ref a) (.lst ds)
  | scr {a : Addr} {xs : List V} {ds : List D} : SqL K G a xs → RpAll K G xs ds → Rp K G (.ref a) (.scr ds)
  | tup {a : Addr} {xs : List V} {ds : List D} : SqT K G a xs → RpAll K G xs ds → Rp K G (.ref a) (.tup ds)
  | dct {a : Addr} {xs : List (Key × V)} {ds : List (Key × D)} : G a = some (.dK xs) → RpK K G xs ds → Rp K G (.ref a) (.dct ds)
  | ob {a C dx : Addr} {xs : List (Str × V)} {ds : List (Str × D)} : G a = some (.ins C dx xs) → RpF K G xs ds → Rp K G (.ref a) (.ob C ds)
  | v (w : V) : Rp K G w (.v w)
inductive RpAll (K : PySem.W.Frag) (G : Hp) : List V → List D → Prop
  | nil : RpAll K G [] []
  | cons {v : V} {vs : List V} {d : D} {ds : List D} : Rp K G v d → RpAll K G vs ds → RpAll K G (v :: vs) (d :: ds)
inductive RpK (K : PySem.W.Frag) (G : Hp) : List (Key × V) → List (Key × D) → Prop
  | nil : RpK K G [] []
  | cons {k : Key} {v : V} {vs : List (Key × V)} {d : D} {ds : List (Key × D)} : Rp K G v d → RpK K G vs ds → RpK K G ((k, v) :: vs) ((k, d) :: ds)
inductive RpF (K : PySem.W.Frag) (G : Hp) : List (Str × V) → List (Str × D) → Prop
  | nil : RpF K G [] []
  | cons {k : Str} {v : V} {vs : List (Str × V)} {d : D} {ds : List (Str × D)} : Rp K G v d → RpF K G vs ds → RpF K G ((k, v) :: vs) ((k, d) :: ds)
end
theorem sqT_mono {K : PySem.W.Frag} {H H' : Hp} {a : Addr} {xs : List V} (e : Same H H') (h : SqT K H a xs) : SqT K H' a xs := by
  rcases h with (h | ⟨o, h⟩) | h
  · exact .inl (.inl (e _ _ h))
  · exact .inl (.inr ⟨o, e _ _ h⟩)
  · exact .inr h
section
variable {K : PySem.W.Frag} {G G' : Hp}
mutual
theorem Rp.mono (e : Same G G') : ∀ {v : V} {d : D}, Rp K G v d → Rp K G' v d
  | _, _, .non => .non
  | _, _, .bl b => .bl b
  | _, _, .int i => .int i
  | _, _, .str x => .str x
  | _, _, .lst h r => .lst (e _ _ h) (RpAll.mono e r)
  | _, _, .scr h r => .scr (e.seq h) (RpAll.mono e r)
  | _, _, .tup h r => .tup (sqT_mono e h) (RpAll.mono e r)
  | _, _, .dct h r => .dct (e _ _ h) (RpK.mono e r)
  | _, _, .ob h r => .ob (e _ _ h) (RpF.mono e r)
  | _, _, .v w => .v w
theorem RpAll.mono (e : Same G G') : ∀ {v : List V} {d : List D}, RpAll K G v d → RpAll K G' v d
  | _, _, .nil => .nil
  | _, _, .cons h r => .cons (Rp.mono e h) (RpAll.mono e r)
theorem RpK.mono (e : Same G G') : ∀ {v : List (Key × V)} {d : List (Key × D)}, RpK K G v d → RpK K G' v d
  | _, _, .nil => .nil
  | _, _, .cons h r => .cons (Rp.mono e h) (RpK.mono e r)
theorem RpF.mono (e : Same G G') : ∀ {v : List (Str × V)} {d : List (Str × D)}, RpF K G v d → RpF K G' v d
  | _, _, .nil => .nil
  | _, _, .cons h r => .cons (Rp.mono e h) (RpF.mono e r)
end
end
/-! ### values of the symbolic state, cells -/
inductive Sv where
  | no | d (x : D) | r (k : Nat)
inductive Cell where
  | gone | fz (x : D) | ls (xs : List Sv) | tp (xs : List Sv) | di (kvs : List (Key × Sv)) | ob (C : Addr) (fs : List (Str × Sv)) | dl (j : Nat) | hid
def Cell.live : Cell → Bool
  | .gone => false
  | .fz _ => false
  | _ => true
structure Ms where
  e : List Sv
  s : List Cell
inductive SvR (K : PySem.W.Frag) (G : Hp) (as : List Addr) : V → Sv → Prop
  | no (v : V) : SvR K G as v .no
  | d {v : V} {x : D} : Rp K G v x → SvR K G as v (.d x)
  | r {a : Addr} {k : Nat} : as[k]? = some a → SvR K G as (.ref a) (.r k)
abbrev SvA (K : PySem.W.Frag) (G : Hp) (as : List Addr) : List V → List Sv → Prop := Paired (SvR K G as)
abbrev SvK (K : PySem.W.Frag) (G : Hp) (as : List Addr) : List (Key × V) → List (Key × Sv) → Prop := Paired fun p q => p.1 = q.1 ∧ SvR K G as p.2 q.2
abbrev SvF (K : PySem.W.Frag) (G : Hp) (as : List Addr) : List (Str × V) → List (Str × Sv) → Prop := Paired fun p q => p.1 = q.1 ∧ SvR K G as p.2 q.2
def Pre (as as' : List Addr) : Prop := ∀ (k : Nat) (a : Addr), as[k]? = some a → as'[k]? = some a
theorem Pre.refl (as : List Addr) : Pre as as := fun _ _ h => h
theorem Pre.trans {a b c : List Addr} (h : Pre a b) (h' : Pre b c) : Pre a c := fun k x e => h' k x (h k x e)
theorem SvR.mono {K : PySem.W.Frag} {G G' : Hp} {as as' : List Addr} (e : Same G G') (p : Pre as as') {v : V} {x : Sv} (h : SvR K G as v x) : SvR K G' as' v x := by
  cases h with
  | no => exact .no _
  | d h => exact .d (h.mono e)
  | r h => exact .r (p _ _ h)
theorem SvA.mono {K : PySem.W.Frag} {G G' : Hp} {as as' : List Addr} (e : Same G G') (p : Pre as as') {v : List V} {x : List Sv} (h : SvA K G as v x) : SvA K G' as' v x := Paired.mapP h fun _ _ q => q.mono e p
theorem SvK.mono {K : PySem.W.Frag} {G G' : Hp} {as as' : List Addr} (e : Same G G') (p : Pre as as') {v : List (Key × V)} {x : List (Key × Sv)} (h : SvK K G as v x) : SvK K G' as' v x := Paired.mapP h fun _ _ q => ⟨q.1, q.2.mono e p⟩
theorem SvF.mono {K : PySem.W.Frag} {G G' : Hp} {as as' : List Addr} (e : Same G G') (p : Pre as as') {v : List (Str × V)} {x : List (Str × Sv)} (h : SvF K G as v x) : SvF K G' as' v x := Paired.mapP h fun _ _ q => ⟨q.1, q.2.mono e p⟩
/-- the dict of a deal: two numbers, a list -/
def dealK (sd nm : Int) (l : Addr) : List (Key × V) := [(.inr "seed", .int sd), (.inr "number", .int nm), (.inr "left", .ref l)]
inductive CellR (K : PySem.W.Frag) (G H : Hp) (as : List Addr) (a : Addr) : Cell → Prop
  | gone : CellR K G H as a .gone
  | fz {x : D} : Rp K G (.ref a) x → CellR K G H as a (.fz x)
  | ls {vs : List V} {xs : List Sv} : H a = some (.lst vs) → SvA K G as vs xs → CellR K G H as a (.ls xs)
  | tp {vs : List V} {xs : List Sv} : H a = some (.tup vs) → SvA K G as vs xs → CellR K G H as a (.tp xs)
  | di {vs : List (Key × V)} {xs : List (Key × Sv)} : H a = some (.dK vs) → SvK K G as vs xs → CellR K G H as a (.di xs)
  | ob {C dx : Addr} {vs : List (Str × V)} {xs : List (Str × Sv)} : H a = some (.ins C dx vs) → SvF K G as vs xs → CellR K G H as a (.ob C xs)
  | dl {j : Nat} {l : Addr} {sd nm : Int} : as[j]? = some l → H a = some (.dK (dealK sd nm l)) → 0 ≤ sd → sd < 2147483648 → 0 ≤ nm → CellR K G H as a (.dl j)
  | hid {ns : List Int} : H a = some (.lst (ns.map V.int)) → (∀ n ∈ ns, 0 ≤ n) → CellR K G H as a .hid
/-- a is a cell that may change -/
def Liv (S : List Cell) (as : List Addr) (a : Addr) : Prop := ∃ (k : Nat) (c : Cell), S[k]? = some c ∧ as[k]? = some a ∧ c.live = true
def SlotR (K : PySem.W.Frag) (G : Hp) (as : List Addr) (o : Option (Option V)) (x : Sv) : Prop := x = .no ∨ ∃ v, o = some (some v) ∧ SvR K G as v x
structure Ok (K : PySem.W.Frag) (G H : Hp) (σ : L2.St) (m : Ms) (as : List Addr) : Prop where
  same : Same G H
  len : as.length = m.s.length
  el : m.e.length ≤ σ.length
  nd : ∀ (i j : Nat) (a : Addr), as[i]? = some a → as[j]? = some a → i = j
  alive : ∀ (k : Nat) (a : Addr), as[k]? = some a → H a ≠ none
  out : ∀ a, Liv m.s as a → G a = none
  sv : ∀ (i : Nat) (x : Sv), m.e[i]? = some x → SlotR K G as σ[i]? x
  ce : ∀ (k : Nat) (c : Cell) (a : Addr), m.s[k]? = some c → as[k]? = some a → CellR K G H as a c
structure Step (G H : Hp) (S : List Cell) (as : List Addr) (G' H' : Hp) (S' : List Cell) (as' : List Addr) : Prop where
  g : Same G G'
  dom : ∀ a, H a ≠ none → H' a ≠ none
  fr : ∀ a o, H a = some o → ¬ Liv S as a → H' a = some o
  pre : Pre as as'
  new : ∀ (k : Nat) (a : Addr), as'[k]? = some a → as.length ≤ k → H a = none
  liv : ∀ (k : Nat) (c' : Cell), S'[k]? = some c' → c'.live = true → k < as.length → ∃ c, S[k]? = some c ∧ c.live = true
  gd : ∀ a, G' a ≠ none → G a ≠ none ∨ Liv S as a ∨ H a = none
theorem Step.refl (G H : Hp) (S : List Cell) (as : List Addr) : Step G H S as G H S as :=
  ⟨Same.refl G, fun _ h => h, fun _ _ h _ => h, Pre.refl as, fun k a h hk => by
    have := (List.getElem?_eq_some_iff.mp h).1
    omega, fun k c h hl _ => ⟨c, h, hl⟩, fun _ h => .inl h⟩
theorem pre_len {as as' : List Addr} (h : Pre as as') {k : Nat} {a : Addr} (hk : k < as.length) (h' : as'[k]? = some a) : as[k]? = some a := by
  have e := h k as[k] (List.getElem?_eq_getElem hk)
  rw [h'] at e
  rw [List.getElem?_eq_getElem hk, Option.some.inj e]
theorem Step.trans {G H G1 H1 G2 H2 : Hp} {S S1 S2 : List Cell} {as as1 as2 : List Addr} (a : Step G H S as G1 H1 S1 as1) (b : Step G1 H1 S1 as1 G2 H2 S2 as2) : Step G H S as G2 H2 S2 as2 := by
  have nl : ∀ x o, H x = some o → ¬ Liv S as x → ¬ Liv S1 as1 x := fun x o hx hn ⟨k, c, h1, h2, h3⟩ => by
    by_cases hk : k < as.length
    · obtain ⟨c0, h4, h5⟩ := a.liv k c h1 h3 hk
      exact hn ⟨k, c0, h4, pre_len a.pre hk h2, h5⟩
    · have := a.new k x h2 (by omega)
      rw [hx] at this
      cases this
  have hlen : as.length ≤ as1.length := by
    refine Nat.le_of_not_lt fun q => ?_
    have e := a.pre as1.length as[as1.length] (List.getElem?_eq_getElem q)
    have := (List.getElem?_eq_some_iff.mp e).1
    omega
  have back : ∀ x, H1 x = none → H x = none ∨ False := fun x h => by
    cases q : H x with
    | none => exact .inl rfl
    | some o => exact absurd h (a.dom x (by rw [q]; intro z; cases z))
  refine ⟨a.g.trans b.g, fun x h => b.dom x (a.dom x h), fun x o hx hn => b.fr x o (a.fr x o hx hn) (nl x o hx hn), a.pre.trans b.pre, fun k x h hk => ?_, fun k c h hl hk => ?_, fun x h => ?_⟩
  · by_cases h1 : k < as1.length
    · exact a.new k x (pre_len b.pre h1 h) hk
    · rcases back x (b.new k x h (by omega)) with z | z
      · exact z
      · exact z.elim
  · obtain ⟨c1, h1, h2⟩ := b.liv k c h hl (by omega)
    exact a.liv k c1 h1 h2 hk
  · rcases b.gd x h with z | ⟨k, c, h1, h2, h3⟩ | z
    · exact a.gd x z
    · by_cases hk : k < as.length
      · obtain ⟨c0, h4, h5⟩ := a.liv k c h1 h3 hk
        exact .inr (.inl ⟨k, c0, h4, pre_len a.pre hk h2, h5⟩)
      · exact .inr (.inr (a.new k x h2 (by omega)))
    · rcases back x z with z | z
      · exact .inr (.inr z)
      · exact z.elim
/-! ### the judgements -/
def tSem (X : Cx) (e : Expr) : TE := fun σ H Q => ∀ (pins : List (Addr × Obj)) (s : Shared), Inv X pins σ H s → wpAny (model X.prog X.w) X.A (eval e X.env) (EP X pins σ Q) X.xe s
theorem pe_sem (X : Cx) (e : Expr) : PE X e (tSem X e) := ⟨fun pins s _ _ _ I h => h pins s I⟩
theorem tSem_of {X : Cx} {e : Expr} {t : TE} (h : PE X e t) {σ : L2.St} {H : Hp} {Q : VK} (q : t σ H Q) : tSem X e σ H Q := fun pins s I => h.run pins s σ H Q I q
theorem tSem_mono {X : Cx} {e : Expr} {σ : L2.St} {H : Hp} {Q Q' : VK} (h : tSem X e σ H Q) (k : ∀ v H', Q v H' → Q' v H') : tSem X e σ H Q' := fun pins s I =>
  thn (h pins s I) fun _ _ ⟨v, H', I', r, q⟩ => ⟨v, H', I', r, k v H' q⟩
def qSem (X : Cx) (e : Expr) : TT := fun σ H Q => ∀ (pins : List (Addr × Obj)) (s : Shared), Inv X pins σ H s → wpAny (model X.prog X.w) X.A (isTrue e X.env (eval e X.env)) (TP X pins σ Q) X.xe s
theorem pt_sem (X : Cx) (e : Expr) : PT X e (qSem X e) := ⟨fun pins s _ _ _ I h => h pins s I⟩
theorem qSem_of {X : Cx} {e : Expr} {t : TT} (h : PT X e t) {σ : L2.St} {H : Hp} {Q : Bool → Hp → Prop} (q : t σ H Q) : qSem X e σ H Q := fun pins s I => h.run pins s σ H Q I q
theorem qSem_mono {X : Cx} {e : Expr} {σ : L2.St} {H : Hp} {Q Q' : Bool → Hp → Prop} (h : qSem X e σ H Q) (k : ∀ v H', Q v H' → Q' v H') : qSem X e σ H Q' := fun pins s I =>
  thn (h pins s I) fun _ _ ⟨H', I', q⟩ => ⟨H', I', k _ H' q⟩
def wSem (X : Cx) (e : Expr) : TT := fun σ H Q => ∀ (whole : Sem Value) (pins : List (Addr × Obj)) (s : Shared), Inv X pins σ H s → wpAny (model X.prog X.w) X.A (isTrue e X.env whole) (TP X pins σ Q) X.xe s
theorem pw_sem (X : Cx) (e : Expr) : PW X e (wSem X e) := ⟨fun wh pins s _ _ _ I h => h wh pins s I⟩
theorem wSem_of {X : Cx} {e : Expr} {t : TT} (h : PW X e t) {σ : L2.St} {H : Hp} {Q : Bool → Hp → Prop} (q : t σ H Q) : wSem X e σ H Q := fun wh pins s I => h.run wh pins s σ H Q I q
def aSem (X : Cx) (es : List Expr) : TA := fun σ H Q => ∀ (pos : Pos) (pins : List (Addr × Obj)) (s : Shared), Inv X pins σ H s → wpAny (model X.prog X.w) X.A (spliced (backTo pos (starEach es X.env))) (AP X pins σ Q) X.xe s
theorem pa_sem (X : Cx) (es : List Expr) : PA X es (aSem X es) := ⟨fun pos pins s _ _ _ I h => h pos pins s I⟩
theorem aSem_of {X : Cx} {es : List Expr} {t : TA} (h : PA X es t) {σ : L2.St} {H : Hp} {Q : List V → Hp → Prop} (q : t σ H Q) : aSem X es σ H Q := fun pos pins s I => h.run pos pins s σ H Q I q
theorem aSem_mono {X : Cx} {es : List Expr} {σ : L2.St} {H : Hp} {Q Q' : List V → Hp → Prop} (h : aSem X es σ H Q) (k : ∀ v H', Q v H' → Q' v H') : aSem X es σ H Q' := fun pos pins s I =>
  thn (h pos pins s I) fun _ _ ⟨v, H', I', r, q⟩ => ⟨v, H', I', r, k v H' q⟩
def sSem (X : Cx) (st : Stmt) : TS := fun D σ H => ∀ (pins : List (Addr × Obj)) (s : Shared), Inv X pins σ H s → wpAny (model X.prog X.w) X.A (exec st X.env) (SP X pins D) X.xe s
theorem ps_sem (X : Cx) (st : Stmt) : PS X st (sSem X st) := ⟨fun pins s _ _ _ I h => h pins s I⟩
theorem sSem_of {X : Cx} {st : Stmt} {t : TS} (h : PS X st t) {σ : L2.St} {H : Hp} {D : Ends} (q : t D σ H) : sSem X st D σ H := fun pins s I => h.run pins s σ H D I q
def bSem (X : Cx) (st : List Stmt) : TS := fun D σ H => ∀ (pins : List (Addr × Obj)) (s : Shared), Inv X pins σ H s → wpAny (model X.prog X.w) X.A (execs st X.env) (SP X pins D) X.xe s
theorem pss_sem (X : Cx) (st : List Stmt) : PSs X st (bSem X st) := ⟨fun pins s _ _ _ I h => h pins s I⟩
theorem bSem_of {X : Cx} {st : List Stmt} {t : TS} (h : PSs X st t) {σ : L2.St} {H : Hp} {D : Ends} (q : t D σ H) : bSem X st D σ H := fun pins s I => h.run pins s σ H D I q
theorem sp_mono {X : Cx} {pins : List (Addr × Obj)} {D D' : Ends} (h1 : ∀ σ H, D.nx σ H → D'.nx σ H) (h2 : ∀ v H, D.rt v H → D'.rt v H) (h3 : ∀ σ H, D.bk σ H → D'.bk σ H) (h4 : ∀ σ H, D.ct σ H → D'.ct σ H) {f : Flow} {s : Shared} (h : SP X pins D f s) : SP X pins D' f s := by
  cases f with
  | next => obtain ⟨σ, H, I, q⟩ := h; exact ⟨σ, H, I, h1 _ _ q⟩
  | brk => obtain ⟨σ, H, I, q⟩ := h; exact ⟨σ, H, I, h3 _ _ q⟩
  | cont => obtain ⟨σ, H, I, q⟩ := h; exact ⟨σ, H, I, h4 _ _ q⟩
  | ret u => obtain ⟨v, σ, H, I, r, q⟩ := h; exact ⟨v, σ, H, I, r, h2 _ _ q⟩
theorem bSem_mono {X : Cx} {st : List Stmt} {D D' : Ends} {σ : L2.St} {H : Hp} (h : bSem X st D σ H) (h1 : ∀ σ H, D.nx σ H → D'.nx σ H) (h2 : ∀ v H, D.rt v H → D'.rt v H) (h3 : ∀ σ H, D.bk σ H → D'.bk σ H) (h4 : ∀ σ H, D.ct σ H → D'.ct σ H) : bSem X st D' σ H := fun pins s I =>
  thn (h pins s I) fun _ _ q => sp_mono h1 h2 h3 h4 q
theorem sSem_mono {X : Cx} {st : Stmt} {D D' : Ends} {σ : L2.St} {H : Hp} (h : sSem X st D σ H) (h1 : ∀ σ H, D.nx σ H → D'.nx σ H) (h2 : ∀ v H, D.rt v H → D'.rt v H) (h3 : ∀ σ H, D.bk σ H → D'.bk σ H) (h4 : ∀ σ H, D.ct σ H → D'.ct σ H) : sSem X st D' σ H := fun pins s I =>
  thn (h pins s I) fun _ _ q => sp_mono h1 h2 h3 h4 q
abbrev SK := Sv → Ms → Prop
abbrev E1 := Ms → SK → Prop
abbrev T1 := Ms → (Bool → Ms → Prop) → Prop
abbrev A1 := Ms → (List Sv → Ms → Prop) → Prop
structure Ends1 where
  nx : Ms → Prop
  rt : SK
  bk : Ms → Prop := fun _ => False
  ct : Ms → Prop := fun _ => False
abbrev S1 := Ends1 → Ms → Prop
/-- behind something: the state has gone on to one of which Q holds -/
def On (K : PySem.W.Frag) (σ : L2.St) (G H : Hp) (m : Ms) (as : List Addr) (Q : Ms → Prop) : Hp → Prop := fun H' =>
  ∃ G' m' as', Step G H m.s as G' H' m'.s as' ∧ Ok K G' H' σ m' as' ∧ Q m'
def OnV (K : PySem.W.Frag) (σ : L2.St) (G H : Hp) (m : Ms) (as : List Addr) (Q : SK) : VK := fun v H' =>
  ∃ G' m' as' x, Step G H m.s as G' H' m'.s as' ∧ Ok K G' H' σ m' as' ∧ SvR K G' as' v x ∧ Q x m'
def OnA (K : PySem.W.Frag) (σ : L2.St) (G H : Hp) (m : Ms) (as : List Addr) (Q : List Sv → Ms → Prop) : List V → Hp → Prop := fun vs H' =>
  ∃ G' m' as' xs, Step G H m.s as G' H' m'.s as' ∧ Ok K G' H' σ m' as' ∧ SvA K G' as' vs xs ∧ Q xs m'
def OnE (K : PySem.W.Frag) (G H : Hp) (m : Ms) (as : List Addr) (D : Ends1) : Ends where
  nx := fun σ' => On K σ' G H m as D.nx
  rt := fun v H' => ∃ σ', OnV K σ' G H m as D.rt v H'
  bk := fun σ' => On K σ' G H m as D.bk
  ct := fun σ' => On K σ' G H m as D.ct
structure DE (X : Cx) (e : Expr) (t : E1) : Prop where
  run : ∀ (G H : Hp) (σ : L2.St) (m : Ms) (as : List Addr) (Q : SK), Ok X.K G H σ m as → t m Q → tSem X e σ H (OnV X.K σ G H m as Q)
structure DT (X : Cx) (e : Expr) (t : T1) : Prop where
  run : ∀ (G H : Hp) (σ : L2.St) (m : Ms) (as : List Addr) (Q : Bool → Ms → Prop), Ok X.K G H σ m as → t m Q → qSem X e σ H (fun b => On X.K σ G H m as (Q b))
structure DW (X : Cx) (e : Expr) (t : T1) : Prop where
  run : ∀ (G H : Hp) (σ : L2.St) (m : Ms) (as : List Addr) (Q : Bool → Ms → Prop), Ok X.K G H σ m as → t m Q → wSem X e σ H (fun b => On X.K σ G H m as (Q b))
structure DA (X : Cx) (es : List Expr) (t : A1) : Prop where
  run : ∀ (G H : Hp) (σ : L2.St) (m : Ms) (as : List Addr) (Q : List Sv → Ms → Prop), Ok X.K G H σ m as → t m Q → aSem X es σ H (OnA X.K σ G H m as Q)
structure DS (X : Cx) (st : Stmt) (t : S1) : Prop where
  run : ∀ (G H : Hp) (σ : L2.St) (m : Ms) (as : List Addr) (D : Ends1), Ok X.K G H σ m as → t D m → sSem X st (OnE X.K G H m as D) σ H
structure DB (X : Cx) (st : List Stmt) (t : S1) : Prop where
  run : ∀ (G H : Hp) (σ : L2.St) (m : Ms) (as : List Addr) (D : Ends1), Ok X.K G H σ m as → t D m → bSem X st (OnE X.K G H m as D) σ H
section
variable {K : PySem.W.Frag} {σ σ' : L2.St} {G H G1 H1 : Hp} {m m1 : Ms} {as as1 : List Addr}
theorem On.from {Q : Ms → Prop} {H' : Hp} (s : Step G H m.s as G1 H1 m1.s as1) (h : On K σ G1 H1 m1 as1 Q H') : On K σ G H m as Q H' := by
  obtain ⟨G', m', as', st, ok, q⟩ := h
  exact ⟨G', m', as', s.trans st, ok, q⟩
theorem OnV.from {Q : SK} {v : V} {H' : Hp} (s : Step G H m.s as G1 H1 m1.s as1) (h : OnV K σ G1 H1 m1 as1 Q v H') : OnV K σ G H m as Q v H' := by
  obtain ⟨G', m', as', x, st, ok, r, q⟩ := h
  exact ⟨G', m', as', x, s.trans st, ok, r, q⟩
theorem On.here {Q : Ms → Prop} (o : Ok K G H σ m as) (q : Q m) : On K σ G H m as Q H := ⟨G, m, as, Step.refl .., o, q⟩
theorem OnV.here {Q : SK} {v : V} {x : Sv} (o : Ok K G H σ m as) (r : SvR K G as v x) (q : Q x m) : OnV K σ G H m as Q v H := ⟨G, m, as, x, Step.refl .., o, r, q⟩
theorem onE_from (s : Step G H m.s as G1 H1 m1.s as1) {X : Cx} {st : Stmt} {D : Ends1} {σ1 : L2.St} (h : sSem X st (OnE K G1 H1 m1 as1 D) σ1 H1) : sSem X st (OnE K G H m as D) σ1 H1 :=
  sSem_mono h (fun _ _ q => On.from s q) (fun _ _ ⟨σ', q⟩ => ⟨σ', OnV.from s q⟩) (fun _ _ q => On.from s q) (fun _ _ q => On.from s q)
theorem onEb_from (s : Step G H m.s as G1 H1 m1.s as1) {X : Cx} {st : List Stmt} {D : Ends1} {σ1 : L2.St} (h : bSem X st (OnE K G1 H1 m1 as1 D) σ1 H1) : bSem X st (OnE K G H m as D) σ1 H1 :=
  bSem_mono h (fun _ _ q => On.from s q) (fun _ _ ⟨σ', q⟩ => ⟨σ', OnV.from s q⟩) (fun _ _ q => On.from s q) (fun _ _ q => On.from s q)
end
end Sy
namespace Sy
open PySem PySem.Spec PyProof.Rows L2
/-! ### how a state changes -/
def Ms.push (m : Ms) (c : Cell) : Ms := ⟨m.e, m.s ++ [c]⟩
def Ms.setS (m : Ms) (k : Nat) (c : Cell) : Ms := ⟨m.e, m.s.set k c⟩
def Ms.setE (m : Ms) (i : Nat) (x : Sv) : Ms := ⟨m.e.set i x, m.s⟩
theorem Ms.push_e (m : Ms) (c : Cell) : (m.push c).e = m.e := rfl
theorem Ms.push_s (m : Ms) (c : Cell) : (m.push c).s = m.s ++ [c] := rfl
section
variable {K : PySem.W.Frag} {σ : L2.St} {G G' H H' : Hp} {m : Ms} {as as' : List Addr} {a p : Addr} {o : HO} {c : Cell} {k : Nat}
theorem same_new (h : H p = none) : Same H (upd H p o) := fun b x e => by
  rw [upd_ne (ne_of_none e h)]
  exact e
theorem dom_upd : ∀ b, H b ≠ none → upd H p o b ≠ none := fun b h => by
  unfold upd
  split
  · intro z; cases z
  · exact h
theorem CellR.mono (e : Same G G') (eh : ∀ o, H a = some o → H' a = some o) (pr : Pre as as') (h : CellR K G H as a c) : CellR K G' H' as' a c := by
  cases h with
  | gone => exact .gone
  | fz h => exact .fz (h.mono e)
  | ls h r => exact .ls (eh _ h) (r.mono e pr)
  | tp h r => exact .tp (eh _ h) (r.mono e pr)
  | di h r => exact .di (eh _ h) (r.mono e pr)
  | ob h r => exact .ob (eh _ h) (r.mono e pr)
  | dl h h1 h2 h3 h4 => exact .dl (pr _ _ h) (eh _ h1) h2 h3 h4
  | hid h h1 => exact .hid (eh _ h) h1
theorem SlotR.mono (e : Same G G') (pr : Pre as as') {q : Option (Option V)} {x : Sv} (h : SlotR K G as q x) : SlotR K G' as' q x := by
  rcases h with h | ⟨v, h, r⟩
  · exact .inl h
  · exact .inr ⟨v, h, r.mono e pr⟩
theorem liv_alive (ok : Ok K G H σ m as) (h : Liv m.s as a) : H a ≠ none := by
  obtain ⟨k, c, _, h2, _⟩ := h
  exact ok.alive k a h2
theorem g_none (ok : Ok K G H σ m as) (h : H p = none) : G p = none := by
  cases q : G p with
  | none => rfl
  | some x =>
    rw [ok.same p x q] at h
    cases h
/-- a new object that stands still -/
theorem Ok.grow (ok : Ok K G H σ m as) (hp : H p = none) : Ok K (upd G p o) (upd H p o) σ m as ∧ Step G H m.s as (upd G p o) (upd H p o) m.s as := by
  have hg := g_none ok hp
  have ne : ∀ (k : Nat) (a : Addr), as[k]? = some a → a ≠ p := fun k a h q => ok.alive k a h (by rw [q]; exact hp)
  refine ⟨⟨fun b x e => ?_, ok.len, ok.el, ok.nd, fun k a h => dom_upd a (ok.alive k a h), fun a h => ?_, fun i x h => (ok.sv i x h).mono (same_new hg) (Pre.refl as), fun k c a h h' => (ok.ce k c a h h').mono (same_new hg) (fun x e => same_new hp a x e) (Pre.refl as)⟩,
    ⟨same_new hg, dom_upd, fun a x e _ => same_new hp a x e, Pre.refl as, fun k a h hk => ?_, fun k c h hl _ => ⟨c, h, hl⟩, fun a h => ?_⟩⟩
  · unfold upd at e ⊢
    split at e
    · rename_i z; rw [if_pos z]; exact e
    · rename_i z; rw [if_neg z]; exact ok.same b x e
  · obtain ⟨k, c, h1, h2, h3⟩ := h
    rw [upd_ne (ne k a h2)]
    exact ok.out a ⟨k, c, h1, h2, h3⟩
  · have := (List.getElem?_eq_some_iff.mp h).1
    omega
  · by_cases q : a = p
    · subst q; exact .inr (.inr hp)
    · rw [upd_ne q] at h; exact .inl h
theorem get_snoc {α : Type} {l : List α} {x y : α} {k : Nat} (h : (l ++ [x])[k]? = some y) : (l[k]? = some y) ∨ (k = l.length ∧ y = x) := by
  by_cases hk : k < l.length
  · rw [List.getElem?_append_left hk] at h; exact .inl h
  · rw [List.getElem?_append_right (by omega)] at h
    have hl : k - l.length < 1 := (List.getElem?_eq_some_iff.mp h).1
    have : k - l.length = 0 := by omega
    rw [this] at h
    exact .inr ⟨by omega, (Option.some.inj h).symm⟩
theorem pre_snoc (as : List Addr) (p : Addr) : Pre as (as ++ [p]) := fun k a h => by
  rw [List.getElem?_append_left (List.getElem?_eq_some_iff.mp h).1]
  exact h
/-- a new cell -/
theorem Ok.alloc (ok : Ok K G H σ m as) (hp : H p = none) (hc : CellR K G (upd H p o) (as ++ [p]) p c) : Ok K G (upd H p o) σ (m.push c) (as ++ [p]) ∧ Step G H m.s as G (upd H p o) (m.push c).s (as ++ [p]) := by
  have hg := g_none ok hp
  have pr : Pre as (as ++ [p]) := pre_snoc as p
  have ne : ∀ (k : Nat) (a : Addr), as[k]? = some a → a ≠ p := fun k a h q => ok.alive k a h (by rw [q]; exact hp)
  refine ⟨⟨fun b x e => same_new hp b x (ok.same b x e), by rw [Ms.push_s, List.length_append, List.length_append, ok.len]; rfl, ok.el, fun i j a h1 h2 => ?_, fun k a h => ?_, fun a h => ?_, fun i x h => (ok.sv i x h).mono (Same.refl G) pr, fun k c' a h h' => ?_⟩,
    ⟨Same.refl G, dom_upd, fun a x e _ => same_new hp a x e, pr, fun k a h hk => ?_, fun k c' h hl hk => ?_, fun a h => .inl h⟩⟩
  · rcases get_snoc h1 with h1 | ⟨h1, e1⟩ <;> rcases get_snoc h2 with h2 | ⟨h2, e2⟩
    · exact ok.nd i j a h1 h2
    · exact absurd e2 (ne i a h1)
    · exact absurd e1 (ne j a h2)
    · omega
  · rcases get_snoc h with h | ⟨_, e⟩
    · exact dom_upd a (ok.alive k a h)
    · subst e; rw [upd_same]; intro z; cases z
  · obtain ⟨k, c', h1, h2, h3⟩ := h
    rcases get_snoc h2 with h2 | ⟨_, e⟩
    · refine ok.out a ⟨k, c', ?_, h2, h3⟩
      rcases get_snoc (show (m.s ++ [c])[k]? = some c' from h1) with h1 | ⟨hk, _⟩
      · exact h1
      · have := (List.getElem?_eq_some_iff.mp h2).1
        have := ok.len
        omega
    · subst e; exact hg
  · rcases get_snoc (show (m.s ++ [c])[k]? = some c' from h) with h | ⟨hk, e⟩
    · have hk : k < as.length := by
        have := (List.getElem?_eq_some_iff.mp h).1
        rw [ok.len]; exact this
      exact (ok.ce k c' a h (pre_len pr hk h')).mono (Same.refl G) (fun x e => same_new hp a x e) pr
    · subst e
      rcases get_snoc h' with h' | ⟨_, e'⟩
      · have := (List.getElem?_eq_some_iff.mp h').1
        have := ok.len
        omega
      · subst e'; exact hc
  · rcases get_snoc h with h | ⟨_, e⟩
    · have := (List.getElem?_eq_some_iff.mp h).1
      omega
    · subst e; exact hp
  · rcases get_snoc (show (m.s ++ [c])[k]? = some c' from h) with h | ⟨hk', _⟩
    · exact ⟨c', h, hl⟩
    · have := ok.len
      omega
theorem get_set {α : Type} {l : List α} {x y : α} {k j : Nat} (h : (l.set k x)[j]? = some y) : (j ≠ k ∧ l[j]? = some y) ∨ (j = k ∧ y = x ∧ k < l.length) := by
  by_cases e : k = j
  · subst e
    have hl : k < l.length := by
      have := (List.getElem?_eq_some_iff.mp h).1
      simpa using this
    rw [List.getElem?_set_self hl] at h
    exact .inr ⟨rfl, (Option.some.inj h).symm, hl⟩
  · rw [List.getElem?_set_ne e] at h
    exact .inl ⟨Ne.symm e, h⟩
/-- a cell changes -/
theorem Ok.setc {c0 : Cell} (ok : Ok K G H σ m as) (hk : m.s[k]? = some c0) (hl : c0.live = true) (ha : as[k]? = some a) (hc : CellR K G (upd H a o) as a c) : Ok K G (upd H a o) σ (m.setS k c) as ∧ Step G H m.s as G (upd H a o) (m.setS k c).s as := by
  have hg : G a = none := ok.out a ⟨k, c0, hk, ha, hl⟩
  refine ⟨⟨fun b x e => ?_, by show _ = (m.s.set k c).length; rw [List.length_set, ok.len], ok.el, ok.nd, fun j b h => dom_upd b (ok.alive j b h), fun b h => ?_, fun i x h => (ok.sv i x h), fun j c' b h h' => ?_⟩,
    ⟨Same.refl G, dom_upd, fun b x e nl => ?_, Pre.refl as, fun j b h hj => ?_, fun j c' h hl' hj => ?_, fun b h => .inl h⟩⟩
  · rw [upd_ne (fun z => by rw [z, hg] at e; cases e)]
    exact ok.same b x e
  · obtain ⟨j, c', h1, h2, h3⟩ := h
    rcases get_set (show (m.s.set k c)[j]? = some c' from h1) with ⟨_, h1⟩ | ⟨rfl, _, _⟩
    · exact ok.out b ⟨j, c', h1, h2, h3⟩
    · rw [h2] at ha; cases ha; exact hg
  · rcases get_set (show (m.s.set k c)[j]? = some c' from h) with ⟨hj, h⟩ | ⟨rfl, e, _⟩
    · refine (ok.ce j c' b h h').mono (Same.refl G) (fun x e => ?_) (Pre.refl as)
      rw [upd_ne (fun z => hj (ok.nd j k b h' (by rw [z]; exact ha)))]
      exact e
    · rw [h'] at ha; cases ha; rw [e]; exact hc
  · rw [upd_ne (fun z => nl ⟨k, c0, hk, by rw [z]; exact ha, hl⟩)]
    exact e
  · have := (List.getElem?_eq_some_iff.mp h).1
    omega
  · rcases get_set (show (m.s.set k c)[j]? = some c' from h) with ⟨_, h⟩ | ⟨rfl, _, _⟩
    · exact ⟨c', h, hl'⟩
    · exact ⟨c0, hk, hl⟩
/-- a cell stands still from now on -/
theorem Ok.still {c0 : Cell} {d : D} (ok : Ok K G H σ m as) (hk : m.s[k]? = some c0) (hl : c0.live = true) (ha : as[k]? = some a) (ho : H a = some o) (hr : Rp K (upd G a o) (.ref a) d) : Ok K (upd G a o) H σ (m.setS k (.fz d)) as ∧ Step G H m.s as (upd G a o) H (m.setS k (.fz d)).s as := by
  have hg : G a = none := ok.out a ⟨k, c0, hk, ha, hl⟩
  have sg : Same G (upd G a o) := same_new hg
  refine ⟨⟨fun b x e => ?_, by show _ = (m.s.set k _).length; rw [List.length_set, ok.len], ok.el, ok.nd, ok.alive, fun b h => ?_, fun i x h => (ok.sv i x h).mono sg (Pre.refl as), fun j c' b h h' => ?_⟩,
    ⟨sg, fun _ h => h, fun b x e nl => e, Pre.refl as, fun j b h hj => ?_, fun j c' h hl' hj => ?_, fun b h => ?_⟩⟩
  · unfold upd at e
    split at e
    · rename_i z; rw [z, ho]; exact e
    · exact ok.same b x e
  · obtain ⟨j, c', h1, h2, h3⟩ := h
    rcases get_set (show (m.s.set k (.fz d))[j]? = some c' from h1) with ⟨hj, h1⟩ | ⟨_, e, _⟩
    · rw [upd_ne (fun z => hj (ok.nd j k b h2 (by rw [z]; exact ha)))]
      exact ok.out b ⟨j, c', h1, h2, h3⟩
    · rw [e] at h3; cases h3
  · rcases get_set (show (m.s.set k (.fz d))[j]? = some c' from h) with ⟨hj, h⟩ | ⟨rfl, e, _⟩
    · exact (ok.ce j c' b h h').mono sg (fun x e => e) (Pre.refl as)
    · rw [h'] at ha; cases ha; rw [e]; exact .fz hr
  · have := (List.getElem?_eq_some_iff.mp h).1
    omega
  · rcases get_set (show (m.s.set k (.fz d))[j]? = some c' from h) with ⟨_, h⟩ | ⟨_, e, _⟩
    · exact ⟨c', h, hl'⟩
    · rw [e] at hl'; cases hl'
  · by_cases q : b = a
    · subst q; exact .inr (.inl ⟨k, c0, hk, ha, hl⟩)
    · rw [upd_ne q] at h; exact .inl h
/-- a slot is stored -/
theorem Ok.slot {i : Nat} {v : V} {x : Sv} (ok : Ok K G H σ m as) (r : SvR K G as v x) : Ok K G H (σ.set i (some v)) (m.setE i x) as := by
  refine ⟨ok.same, ok.len, by show (m.e.set i x).length ≤ (σ.set i (some v)).length; rw [List.length_set, List.length_set]; exact ok.el, ok.nd, ok.alive, ok.out, fun j y h => ?_, ok.ce⟩
  rcases get_set (show (m.e.set i x)[j]? = some y from h) with ⟨hj, h⟩ | ⟨rfl, e, hl⟩
  · rw [List.getElem?_set_ne (Ne.symm hj)]
    exact ok.sv j y h
  · rw [e]
    refine .inr ⟨v, List.getElem?_set_self (Nat.lt_of_lt_of_le hl ok.el), r⟩
/-- slots forgotten -/
theorem Ok.weakE {es : List Sv} (ok : Ok K G H σ m as) (hl : es.length ≤ m.e.length) (h : ∀ (i : Nat) (x : Sv), es[i]? = some x → x = .no ∨ m.e[i]? = some x) : Ok K G H σ ⟨es, m.s⟩ as :=
  ⟨ok.same, ok.len, Nat.le_trans hl ok.el, ok.nd, ok.alive, ok.out, fun i x e => by
    rcases h i x e with z | z
    · exact .inl z
    · exact ok.sv i x z, ok.ce⟩
end
/-! ### what is read -/
def allD : List Sv → Option (List D)
  | [] => some []
  | .d x :: r => match allD r with
    | some ds => some (x :: ds)
    | none => none
  | _ :: _ => none
def allK : List (Key × Sv) → Option (List (Key × D))
  | [] => some []
  | (k, .d x) :: r => match allK r with
    | some ds => some ((k, x) :: ds)
    | none => none
  | _ :: _ => none
def allF : List (Str × Sv) → Option (List (Str × D))
  | [] => some []
  | (k, .d x) :: r => match allF r with
    | some ds => some ((k, x) :: ds)
    | none => none
  | _ :: _ => none
section
variable {K : PySem.W.Frag} {σ : L2.St} {G H : Hp} {m : Ms} {as : List Addr}
theorem svd {v : V} {x : D} (h : SvR K G as v (.d x)) : Rp K G v x := by
  cases h with
  | d h => exact h
theorem svr {v : V} {k : Nat} (h : SvR K G as v (.r k)) : ∃ a, as[k]? = some a ∧ v = .ref a := by
  cases h with
  | r h => exact ⟨_, h, rfl⟩
theorem allD_ok : ∀ {xs : List Sv} {vs : List V} {ds : List D}, allD xs = some ds → SvA K G as vs xs → RpAll K G vs ds
  | [], _, ds, h, .nil => by
    cases (show some [] = some ds from h)
    exact .nil
  | .d x :: r, _, ds, h, .cons q t => by
    unfold allD at h
    cases e : allD r with
    | none => rw [e] at h; cases h
    | some d0 =>
      rw [e] at h
      cases h
      exact .cons (svd q) (allD_ok e t)
  | .no :: r, _, ds, h, _ => by unfold allD at h; cases h
  | .r k :: r, _, ds, h, _ => by unfold allD at h; cases h
theorem allK_ok : ∀ {xs : List (Key × Sv)} {vs : List (Key × V)} {ds : List (Key × D)}, allK xs = some ds → SvK K G as vs xs → RpK K G vs ds
  | [], _, ds, h, .nil => by
    cases (show some [] = some ds from h)
    exact .nil
  | (k, .d x) :: r, _, ds, h, .cons (a := (k', v)) q t => by
    unfold allK at h
    cases e : allK r with
    | none => rw [e] at h; cases h
    | some d0 =>
      rw [e] at h
      cases h
      obtain ⟨e1, q⟩ := q
      cases (show k' = k from e1)
      exact .cons (svd q) (allK_ok e t)
  | (_, .no) :: r, _, ds, h, _ => by unfold allK at h; cases h
  | (_, .r k) :: r, _, ds, h, _ => by unfold allK at h; cases h
theorem allF_ok : ∀ {xs : List (Str × Sv)} {vs : List (Str × V)} {ds : List (Str × D)}, allF xs = some ds → SvF K G as vs xs → RpF K G vs ds
  | [], _, ds, h, .nil => by
    cases (show some [] = some ds from h)
    exact .nil
  | (k, .d x) :: r, _, ds, h, .cons (a := (k', v)) q t => by
    unfold allF at h
    cases e : allF r with
    | none => rw [e] at h; cases h
    | some d0 =>
      rw [e] at h
      cases h
      obtain ⟨e1, q⟩ := q
      cases (show k' = k from e1)
      exact .cons (svd q) (allF_ok e t)
  | (_, .no) :: r, _, ds, h, _ => by unfold allF at h; cases h
  | (_, .r k) :: r, _, ds, h, _ => by unfold allF at h; cases h
theorem rpAll_sv : ∀ {vs : List V} {ds : List D}, RpAll K G vs ds → SvA K G as vs (ds.map .d)
  | _, _, .nil => .nil
  | _, _, .cons h r => .cons (.d h) (rpAll_sv r)
end
/-- data as it is now -/
def vdc : Cell → Option D
  | .fz x => some x
  | .ls xs => (allD xs).map .lst
  | .tp xs => (allD xs).map .tup
  | .di xs => (allK xs).map .dct
  | _ => none
def vd (S : List Cell) : Sv → Option D
  | .no => none
  | .d x => some x
  | .r k => (S[k]?).bind vdc
/-- a list, a tuple, a list that is only read -/
inductive Sk where
  | l | t | s
def sqd : D → Option (Sk × List Sv)
  | .lst ds => some (.l, ds.map .d)
  | .tup ds => some (.t, ds.map .d)
  | .scr ds => some (.s, ds.map .d)
  | _ => none
def sqc : Cell → Option (Sk × List Sv)
  | .ls xs => some (.l, xs)
  | .tp xs => some (.t, xs)
  | .fz x => sqd x
  | _ => none
def sq (S : List Cell) : Sv → Option (Sk × List Sv)
  | .d x => sqd x
  | .r k => (S[k]?).bind sqc
  | .no => none
section
variable {K : PySem.W.Frag} {σ : L2.St} {G H : Hp} {m : Ms} {as : List Addr} {v : V} {x : Sv}
theorem vd_ok (ok : Ok K G H σ m as) (r : SvR K G as v x) {d : D} (h : vd m.s x = some d) : Rp K H v d := by
  cases x with
  | no => cases h
  | d y => cases h; exact (svd r).mono ok.same
  | r k =>
    obtain ⟨a, ha, rfl⟩ := svr r
    cases hc : m.s[k]? with
    | none =>
      have h : (m.s[k]?).bind vdc = some d := h
      rw [hc] at h; cases h
    | some c =>
      have h : (m.s[k]?).bind vdc = some d := h
      rw [hc] at h
      have h : vdc c = some d := h
      have q := ok.ce k c a hc ha
      cases q with
      | gone => cases h
      | fz q => cases h; exact q.mono ok.same
      | @ls vs xs q t =>
        obtain ⟨ds, e, rfl⟩ := Option.map_eq_some_iff.mp (show (allD xs).map D.lst = some d from h)
        exact .lst q ((allD_ok e t).mono ok.same)
      | @tp vs xs q t =>
        obtain ⟨ds, e, rfl⟩ := Option.map_eq_some_iff.mp (show (allD xs).map D.tup = some d from h)
        exact .tup (SqT.of q) ((allD_ok e t).mono ok.same)
      | @di vs xs q t =>
        obtain ⟨ds, e, rfl⟩ := Option.map_eq_some_iff.mp (show (allK xs).map D.dct = some d from h)
        exact .dct q ((allK_ok e t).mono ok.same)
      | ob _ _ => cases h
      | dl _ _ _ _ _ => cases h
      | hid _ _ => cases h
/-- of a list, a tuple: where it stands, what is in it -/
def SqB (K : PySem.W.Frag) (H : Hp) (b : Sk) (a : Addr) (vs : List V) : Prop := match b with
  | .l => H a = some (.lst vs)
  | .t => SqT K H a vs
  | .s => SqL K H a vs
theorem rp_lst {d : List D} (h : Rp K G v (.lst d)) : ∃ a vs, v = .ref a ∧ G a = some (.lst vs) ∧ RpAll K G vs d := by
  cases h with
  | lst h r => exact ⟨_, _, rfl, h, r⟩
theorem rp_scr {d : List D} (h : Rp K G v (.scr d)) : ∃ a vs, v = .ref a ∧ SqL K G a vs ∧ RpAll K G vs d := by
  cases h with
  | scr h r => exact ⟨_, _, rfl, h, r⟩
theorem rp_tup {d : List D} (h : Rp K G v (.tup d)) : ∃ a vs, v = .ref a ∧ SqT K G a vs ∧ RpAll K G vs d := by
  cases h with
  | tup h r => exact ⟨_, _, rfl, h, r⟩
theorem rp_dct {d : List (Key × D)} (h : Rp K G v (.dct d)) : ∃ a vs, v = .ref a ∧ G a = some (.dK vs) ∧ RpK K G vs d := by
  cases h with
  | dct h r => exact ⟨_, _, rfl, h, r⟩
theorem rp_ob {C : Addr} {d : List (Str × D)} (h : Rp K G v (.ob C d)) : ∃ a dx vs, v = .ref a ∧ G a = some (.ins C dx vs) ∧ RpF K G vs d := by
  cases h with
  | ob h r => exact ⟨_, _, _, rfl, h, r⟩
theorem rp_int {i : Int} (h : Rp K G v (.int i)) : v = .int i := by
  cases h
  rfl
theorem rp_str {i : Str} (h : Rp K G v (.str i)) : v = .str i := by
  cases h
  rfl
theorem rp_bl {i : Bool} (h : Rp K G v (.bl i)) : v = .bl i := by
  cases h
  rfl
theorem rp_non (h : Rp K G v .non) : v = .non := by
  cases h
  rfl
theorem rp_v {w : V} (h : Rp K G v (.v w)) : v = w := by
  cases h
  rfl
theorem sqd_ok (e0 : Same G H) {y : D} (r : Rp K G v y) {b : Sk} {xs : List Sv} (h : sqd y = some (b, xs)) : ∃ a vs, v = .ref a ∧ SqB K H b a vs ∧ SvA K G as vs xs := by
  cases y with
  | lst ds =>
    cases h
    obtain ⟨a, vs, e, h1, h2⟩ := rp_lst r
    exact ⟨a, vs, e, e0 _ _ h1, rpAll_sv h2⟩
  | tup ds =>
    cases h
    obtain ⟨a, vs, e, h1, h2⟩ := rp_tup r
    exact ⟨a, vs, e, sqT_mono e0 h1, rpAll_sv h2⟩
  | scr ds =>
    cases h
    obtain ⟨a, vs, e, h1, h2⟩ := rp_scr r
    exact ⟨a, vs, e, e0.seq h1, rpAll_sv h2⟩
  | non => cases h
  | bl _ => cases h
  | int _ => cases h
  | str _ => cases h
  | dct _ => cases h
  | ob _ _ => cases h
  | v _ => cases h
theorem sq_ok (ok : Ok K G H σ m as) (r : SvR K G as v x) {b : Sk} {xs : List Sv} (h : sq m.s x = some (b, xs)) : ∃ a vs, v = .ref a ∧ SqB K H b a vs ∧ SvA K G as vs xs := by
  cases x with
  | no => cases h
  | d y => exact sqd_ok ok.same (svd r) h
  | r k =>
    obtain ⟨a, ha, e⟩ := svr r
    have h : (m.s[k]?).bind sqc = some (b, xs) := h
    cases hc : m.s[k]? with
    | none => rw [hc] at h; cases h
    | some c =>
      rw [hc] at h
      have h : sqc c = some (b, xs) := h
      have q := ok.ce k c a hc ha
      cases q with
      | gone => cases h
      | @fz y q => rw [e]; exact sqd_ok ok.same q h
      | @ls vs xs q t => cases h; exact ⟨a, vs, e, q, t⟩
      | @tp vs xs q t => cases h; exact ⟨a, vs, e, SqT.of q, t⟩
      | di _ _ => cases h
      | ob _ _ => cases h
      | dl _ _ _ _ _ => cases h
      | hid _ _ => cases h
end
end Sy
namespace Sy
open PySem PySem.Spec PyProof.Rows L2
/-! ### operators by values -/
def rSem (X : Cx) (f : Value → Value → Sem Value) : R2 := fun x y H Q => ∀ (pins : List (Addr × Obj)) (s : Shared) (σ : L2.St) (v u : Value), Inv X pins σ H s → RelV x v → RelV y u → wpAny (model X.prog X.w) X.A (f v u) (EP X pins σ Q) X.xe s
theorem op_sem (X : Cx) (f : Value → Value → Sem Value) : OpR X f (rSem X f) := fun pins s σ _ _ _ v u _ I rx ry h => h pins s σ v u I rx ry
theorem rSem_of {X : Cx} {f : Value → Value → Sem Value} {r : R2} (h : OpR X f r) {x y : V} {H : Hp} {Q : VK} (q : r x y H Q) : rSem X f x y H Q := fun pins s σ v u I rx ry => h pins s σ H x y v u Q I rx ry q
def uSem (X : Cx) (f : Value → Sem Value) : V → Hp → VK → Prop := fun x H Q => ∀ (pins : List (Addr × Obj)) (s : Shared) (σ : L2.St) (v : Value), Inv X pins σ H s → RelV x v → wpAny (model X.prog X.w) X.A (f v) (EP X pins σ Q) X.xe s
theorem un_sem (X : Cx) (f : Value → Sem Value) : UnR X f (uSem X f) := fun pins s σ _ _ v _ I rx h => h pins s σ v I rx
theorem uSem_of {X : Cx} {f : Value → Sem Value} {r : V → Hp → VK → Prop} (h : UnR X f r) {x : V} {H : Hp} {Q : VK} (q : r x H Q) : uSem X f x H Q := fun pins s σ v I rx => h pins s σ H x v Q I rx q
def cSem (X : Cx) (f : Value) : List V → Hp → VK → Prop := fun xs H Q => ∀ (pins : List (Addr × Obj)) (s : Shared) (σ : L2.St) (us : List Value), Inv X pins σ H s → Vals xs us → wpAny (model X.prog X.w) X.A (call f us) (EP X pins σ Q) X.xe s
theorem call_sem (X : Cx) (f : Value) : CallR X f (cSem X f) := fun pins s σ _ _ us _ I rx h => h pins s σ us I rx
theorem cSem_of {X : Cx} {f : Value} {r : List V → Hp → VK → Prop} (h : CallR X f r) {xs : List V} {H : Hp} {Q : VK} (q : r xs H Q) : cSem X f xs H Q := fun pins s σ us I rx => h pins s σ H xs us Q I rx q
abbrev O2 := Sv → Sv → Ms → SK → Prop
abbrev O1 := Sv → Ms → SK → Prop
abbrev OC := List Sv → Ms → SK → Prop
structure OpD (X : Cx) (f : Value → Value → Sem Value) (o : O2) : Prop where
  run : ∀ (G H : Hp) (σ : L2.St) (m : Ms) (as : List Addr) (v u : V) (x y : Sv) (Q : SK), Ok X.K G H σ m as → SvR X.K G as v x → SvR X.K G as u y → o x y m Q → rSem X f v u H (OnV X.K σ G H m as Q)
structure UnD (X : Cx) (f : Value → Sem Value) (o : O1) : Prop where
  run : ∀ (G H : Hp) (σ : L2.St) (m : Ms) (as : List Addr) (v : V) (x : Sv) (Q : SK), Ok X.K G H σ m as → SvR X.K G as v x → o x m Q → uSem X f v H (OnV X.K σ G H m as Q)
structure CallD (X : Cx) (f : Value) (o : OC) : Prop where
  run : ∀ (G H : Hp) (σ : L2.St) (m : Ms) (as : List Addr) (vs : List V) (xs : List Sv) (Q : SK), Ok X.K G H σ m as → SvA X.K G as vs xs → o xs m Q → cSem X f vs H (OnV X.K σ G H m as Q)
def eB (o : O2) (ta tb : E1) : E1 := fun m Q => ta m fun x m1 => tb m1 fun y m2 => o x y m2 Q
def eU (o : O1) (ta : E1) : E1 := fun m Q => ta m fun x m1 => o x m1 Q
def eA (o : OC) (ta : A1) : E1 := fun m Q => ta m fun xs m1 => o xs m1 Q
section
variable {X : Cx} {a b c : Expr} {ta tb tc : E1} {pos : Pos}
/-- two expressions, then what comes of both -/
theorem two {o : O2} {R : R2} {σ : L2.St} {G H : Hp} {m : Ms} {as : List Addr} {Q : SK} (ha : DE X a ta) (hb : DE X b tb) (ok : Ok X.K G H σ m as) (q : eB o ta tb m Q)
    (k : ∀ (G H : Hp) (m : Ms) (as : List Addr) (v u : V) (x y : Sv), Ok X.K G H σ m as → SvR X.K G as v x → SvR X.K G as u y → o x y m Q → R v u H (OnV X.K σ G H m as Q))
    (mono : ∀ (v u : V) (H : Hp) (Q Q' : VK), (∀ v H, Q v H → Q' v H) → R v u H Q → R v u H Q') :
    tOp R (tSem X a) (tSem X b) σ H (OnV X.K σ G H m as Q) := by
  refine tSem_mono (ha.run G H σ m as _ ok q) fun v H1 ⟨G1, m1, as1, x, st1, ok1, r1, q1⟩ => ?_
  refine tSem_mono (hb.run G1 H1 σ m1 as1 _ ok1 q1) fun u H2 ⟨G2, m2, as2, y, st2, ok2, r2, q2⟩ => ?_
  exact mono v u H2 _ _ (fun v H h => OnV.from (st1.trans st2) h) (k G2 H2 m2 as2 v u x y ok2 (r1.mono st2.g st2.pre) r2 q2)
theorem rSem_mono {f : Value → Value → Sem Value} {v u : V} {H : Hp} {Q Q' : VK} (k : ∀ v H, Q v H → Q' v H) (h : rSem X f v u H Q) : rSem X f v u H Q' := fun pins s σ a b I ra rb =>
  thn (h pins s σ a b I ra rb) fun _ _ ⟨v, H', I', r, q⟩ => ⟨v, H', I', r, k v H' q⟩
theorem uSem_mono {f : Value → Sem Value} {v : V} {H : Hp} {Q Q' : VK} (k : ∀ v H, Q v H → Q' v H) (h : uSem X f v H Q) : uSem X f v H Q' := fun pins s σ a I ra =>
  thn (h pins s σ a I ra) fun _ _ ⟨v, H', I', r, q⟩ => ⟨v, H', I', r, k v H' q⟩
theorem cSem_mono {f : Value} {v : List V} {H : Hp} {Q Q' : VK} (k : ∀ v H, Q v H → Q' v H) (h : cSem X f v H Q) : cSem X f v H Q' := fun pins s σ a I ra =>
  thn (h pins s σ a I ra) fun _ _ ⟨v, H', I', r, q⟩ => ⟨v, H', I', r, k v H' q⟩
theorem de_bin {op : Operator} {o : O2} (ho : OpD X (binaryOp op) o) (ha : DE X a ta) (hb : DE X b tb) : DE X (.BinOp a op b pos) (eB o ta tb) :=
  ⟨fun G H σ m as Q ok q => tSem_of (pe_op (op_sem X _) (pe_sem X a) (pe_sem X b)) (two ha hb ok q (fun G H m as v u x y ok r1 r2 q => ho.run G H σ m as v u x y Q ok r1 r2 q) fun _ _ _ _ _ k h => rSem_mono k h)⟩
theorem de_cmp {op : CmpOp} {o : O2} (ho : OpD X (compareOp op) o) (ha : DE X a ta) (hb : DE X b tb) (hm : behindInMarks op b = false) : DE X (.Compare a [op] [b] pos) (eB o ta tb) :=
  ⟨fun G H σ m as Q ok q => tSem_of (pe_cmpR (op_sem X _) (pe_sem X a) (pe_sem X b) hm) (two ha hb ok q (fun G H m as v u x y ok r1 r2 q => ho.run G H σ m as v u x y Q ok r1 r2 q) fun _ _ _ _ _ k h => rSem_mono k h)⟩
/-- a value, as a test -/
def eT (t : E1) : T1 := fun m Q => t m fun x m1 => match x with
  | .d (.bl b) => Q b m1
  | _ => False
theorem onV_bl {σ : L2.St} {G H : Hp} {m : Ms} {as : List Addr} {v : V} {H' : Hp} {Q : Bool → Ms → Prop} (h : OnV X.K σ G H m as (fun x m1 => match x with
  | .d (.bl b) => Q b m1
  | _ => False) v H') : ∃ b, v = .bl b ∧ On X.K σ G H m as (Q b) H' := by
  obtain ⟨G', m', as', x, st, ok, r, q⟩ := h
  match x, r, q with
  | .d (.bl b), r, q =>
    cases svd r
    exact ⟨b, rfl, G', m', as', st, ok, q⟩
theorem dt_cmp {op : CmpOp} {o : O2} (ho : OpD X (compareOp op) o) (ha : DE X a ta) (hb : DE X b tb) (hm : behindInMarks op b = false) : DT X (.Compare a [op] [b] pos) (eT (eB o ta tb)) :=
  ⟨fun G H σ m as Q ok q => qSem_of (pt_cmpR (op_sem X _) (pe_sem X a) (pe_sem X b) hm) (by
    have h := two (R := rSem X (compareOp op)) ha hb ok q (fun G H m as v u x y ok r1 r2 q => ho.run G H σ m as v u x y _ ok r1 r2 q) fun _ _ _ _ _ k h => rSem_mono k h
    refine tSem_mono h fun v H1 h1 => tSem_mono h1 fun u H2 h2 => rSem_mono (fun z H3 h3 => ?_) h2
    obtain ⟨b, e, h4⟩ := onV_bl h3
    exact ⟨b, e, h4⟩)⟩
theorem dt_val (ha : DE X a ta) (he : ∀ whole, isTrue a X.env whole = (do let v ← whole; standAt a.pos; holding [v] (truthy v)) := by intro _; rfl) : DT X a (eT ta) :=
  ⟨fun G H σ m as Q ok q => qSem_of (pt_val (pe_sem X a) he) (by
    refine tSem_mono (ha.run G H σ m as _ ok q) fun v H1 h => ?_
    exact onV_bl h)⟩
theorem de_un {op : UnaryOp} {o : O1} (ho : UnD X (unaryOp op) o) (ha : DE X a ta) : DE X (.UnaryOp op a pos) (eU o ta) :=
  ⟨fun G H σ m as Q ok q => tSem_of (pe_un (un_sem X _) (pe_sem X a)) (by
    refine tSem_mono (ha.run G H σ m as _ ok q) fun v H1 ⟨G1, m1, as1, x, st1, ok1, r1, q1⟩ => ?_
    exact uSem_mono (fun v H h => OnV.from st1 h) (ho.run G1 H1 σ m1 as1 v x Q ok1 r1 q1))⟩
/-! ### and, or, not, if -/
/-- by a truth -/
inductive IfB (b : Bool) (A B : Prop) : Prop
  | mk : (b = true → A) → (b = false → B) → IfB b A B
theorem IfB.t {b : Bool} {A B : Prop} (h : b = true) (a : A) : IfB b A B := ⟨fun _ => a, fun e => by rw [h] at e; cases e⟩
theorem IfB.f {b : Bool} {A B : Prop} (h : b = false) (a : B) : IfB b A B := ⟨fun e => by rw [h] at e; (cases e), fun _ => a⟩
theorem IfB.tt {A B : Prop} (h : IfB true A B) : A := by cases h with | mk h _ => exact h rfl
theorem IfB.ff {A B : Prop} (h : IfB false A B) : B := by cases h with | mk _ h => exact h rfl
def qAnd (t u : T1) : T1 := fun m Q => t m fun b m1 => IfB b (u m1 Q) (Q false m1)
def qOr (t u : T1) : T1 := fun m Q => t m fun b m1 => IfB b (Q true m1) (u m1 Q)
def qNot (t : T1) : T1 := fun m Q => t m fun b m1 => Q (!b) m1
variable {qa qb : T1} {rest : List Expr}
theorem On.fromE {σ : L2.St} {G H G1 H1 : Hp} {m m1 : Ms} {as as1 : List Addr} {Q : Bool → Ms → Prop} (s : Step G H m.s as G1 H1 m1.s as1) : ∀ b H', On X.K σ G1 H1 m1 as1 (Q b) H' → On X.K σ G H m as (Q b) H' := fun _ _ h => On.from s h
theorem wSem_mono {e : Expr} {σ : L2.St} {H : Hp} {Q Q' : Bool → Hp → Prop} (h : wSem X e σ H Q) (k : ∀ v H', Q v H' → Q' v H') : wSem X e σ H Q' := fun wh pins s I =>
  thn (h wh pins s I) fun _ _ ⟨H', I', q⟩ => ⟨H', I', k _ H' q⟩
theorem DW.dt (h : DW X a qa) : DT X a qa := ⟨fun G H σ m as Q ok q => fun pins s I => h.run G H σ m as Q ok q _ pins s I⟩
theorem dw_and1 (ha : DT X a qa) : DW X (.BoolOp .And [a] pos) qa := ⟨fun G H σ m as Q ok q => wSem_of (pw_and1 (pt_sem X a)) (ha.run G H σ m as Q ok q)⟩
theorem dw_or1 (ha : DT X a qa) : DW X (.BoolOp .Or [a] pos) qa := ⟨fun G H σ m as Q ok q => wSem_of (pw_or1 (pt_sem X a)) (ha.run G H σ m as Q ok q)⟩
theorem dw_and (ha : DT X a qa) (hb : DW X (.BoolOp .And (b :: rest) pos) qb) : DW X (.BoolOp .And (a :: b :: rest) pos) (qAnd qa qb) :=
  ⟨fun G H σ m as Q ok q => wSem_of (pw_and (pt_sem X a) (pw_sem X _)) (by
    refine qSem_mono (ha.run G H σ m as _ ok q) fun c H1 ⟨G1, m1, as1, st1, ok1, q1⟩ => ?_
    cases c with
    | true => exact iteT (wSem_mono (hb.run G1 H1 σ m1 as1 Q ok1 (IfB.tt q1)) (On.fromE st1))
    | false => exact iteF ⟨G1, m1, as1, st1, ok1, IfB.ff q1⟩)⟩
theorem dw_or (ha : DT X a qa) (hb : DW X (.BoolOp .Or (b :: rest) pos) qb) : DW X (.BoolOp .Or (a :: b :: rest) pos) (qOr qa qb) :=
  ⟨fun G H σ m as Q ok q => wSem_of (pw_or (pt_sem X a) (pw_sem X _)) (by
    refine qSem_mono (ha.run G H σ m as _ ok q) fun c H1 ⟨G1, m1, as1, st1, ok1, q1⟩ => ?_
    cases c with
    | true => exact iteT ⟨G1, m1, as1, st1, ok1, IfB.tt q1⟩
    | false => exact iteF (wSem_mono (hb.run G1 H1 σ m1 as1 Q ok1 (IfB.ff q1)) (On.fromE st1)))⟩
theorem dt_not (ha : DT X a qa) : DT X (.UnaryOp .Not a pos) (qNot qa) := ⟨fun G H σ m as Q ok q => qSem_of (pt_not (pt_sem X a)) (ha.run G H σ m as (fun b => Q (!b)) ok q)⟩
/-- and, or of truths, as values -/
def eBl (t : E1) (f : Bool → Ms → SK → Prop) : E1 := fun m Q => t m fun x m1 => match x with
  | .d (.bl b) => f b m1 Q
  | _ => False
def eAnd (ta tb : E1) : E1 := eBl ta fun b m Q => IfB b (tb m Q) (Q (.d (.bl false)) m)
def eOr (ta tb : E1) : E1 := eBl ta fun b m Q => IfB b (Q (.d (.bl true)) m) (tb m Q)
def eNot (ta : E1) : E1 := eBl ta fun b m Q => Q (.d (.bl (!b))) m
theorem eBl_run {f : Bool → Ms → SK → Prop} {σ : L2.St} {G H : Hp} {m : Ms} {as : List Addr} {Q : SK} (ha : DE X a ta) (ok : Ok X.K G H σ m as) (q : eBl ta f m Q) :
    tSem X a σ H (fun x H1 => ∃ b, x = .bl b ∧ ∃ G1 m1 as1, Step G H m.s as G1 H1 m1.s as1 ∧ Ok X.K G1 H1 σ m1 as1 ∧ f b m1 Q) := by
  refine tSem_mono (ha.run G H σ m as _ ok q) fun v H1 ⟨G1, m1, as1, x, st1, ok1, r1, q1⟩ => ?_
  match x, r1, q1 with
  | .d (.bl b), r1, q1 =>
    cases svd r1
    exact ⟨b, rfl, G1, m1, as1, st1, ok1, q1⟩
theorem OnV.fromE {σ : L2.St} {G H G1 H1 : Hp} {m m1 : Ms} {as as1 : List Addr} {Q : SK} (s : Step G H m.s as G1 H1 m1.s as1) : ∀ v H', OnV X.K σ G1 H1 m1 as1 Q v H' → OnV X.K σ G H m as Q v H' := fun _ _ h => OnV.from s h
theorem de_one {op} (h : DE X a ta) : DE X (.BoolOp op [a] pos) ta := ⟨fun G H σ m as Q ok q => tSem_of (pe_one (pe_sem X a)) (h.run G H σ m as Q ok q)⟩
theorem de_and (ha : DE X a ta) (hb : DE X (.BoolOp .And (b :: rest) pos) tb) : DE X (.BoolOp .And (a :: b :: rest) pos) (eAnd ta tb) :=
  ⟨fun G H σ m as Q ok q => tSem_of (pe_and (pe_sem X a) (pe_sem X _)) (by
    refine tSem_mono (eBl_run ha ok q) fun v H1 ⟨c, e, G1, m1, as1, st1, ok1, q1⟩ => ⟨c, e, ?_⟩
    cases c with
    | true => exact iteT (tSem_mono (hb.run G1 H1 σ m1 as1 Q ok1 (IfB.tt q1)) (OnV.fromE st1))
    | false => exact iteF ⟨G1, m1, as1, _, st1, ok1, .d (.bl false), IfB.ff q1⟩)⟩
theorem de_or (ha : DE X a ta) (hb : DE X (.BoolOp .Or (b :: rest) pos) tb) : DE X (.BoolOp .Or (a :: b :: rest) pos) (eOr ta tb) :=
  ⟨fun G H σ m as Q ok q => tSem_of (pe_or (pe_sem X a) (pe_sem X _)) (by
    refine tSem_mono (eBl_run ha ok q) fun v H1 ⟨c, e, G1, m1, as1, st1, ok1, q1⟩ => ⟨c, e, ?_⟩
    cases c with
    | true => exact iteT ⟨G1, m1, as1, _, st1, ok1, .d (.bl true), IfB.tt q1⟩
    | false => exact iteF (tSem_mono (hb.run G1 H1 σ m1 as1 Q ok1 (IfB.ff q1)) (OnV.fromE st1)))⟩
theorem de_not (ha : DE X a ta) : DE X (.UnaryOp .Not a pos) (eNot ta) :=
  ⟨fun G H σ m as Q ok q => tSem_of (pe_not (pe_sem X a)) (by
    refine tSem_mono (eBl_run ha ok q) fun v H1 ⟨c, e, G1, m1, as1, st1, ok1, q1⟩ => ⟨c, e, G1, m1, as1, _, st1, ok1, .d (.bl _), q1⟩)⟩
def eIf (t : T1) (ta tb : E1) : E1 := fun m Q => t m fun b m1 => IfB b (ta m1 Q) (tb m1 Q)
theorem de_if (hc : DT X c qa) (ha : DE X a ta) (hb : DE X b tb) : DE X (.IfExp c a b pos) (eIf qa ta tb) :=
  ⟨fun G H σ m as Q ok q => tSem_of (pe_ifExp (pt_sem X c) (pe_sem X a) (pe_sem X b)) (by
    refine qSem_mono (hc.run G H σ m as _ ok q) fun c H1 ⟨G1, m1, as1, st1, ok1, q1⟩ => ?_
    cases c with
    | true => exact iteT (tSem_mono (ha.run G1 H1 σ m1 as1 Q ok1 (IfB.tt q1)) (OnV.fromE st1))
    | false => exact iteF (tSem_mono (hb.run G1 H1 σ m1 as1 Q ok1 (IfB.ff q1)) (OnV.fromE st1)))⟩
/-! ### constants, names -/
def eC (d : D) : E1 := fun m Q => Q (.d d) m
theorem de_const {v : V} {d : D} (h : PE X a (tC v)) (r : ∀ G, Rp X.K G v d) : DE X a (eC d) := ⟨fun G H σ m as Q ok q => tSem_of h (OnV.here ok (.d (r G)) q)⟩
theorem de_int {i j pos} : DE X (.Constant (.int i) j pos) (eC (.int i)) := de_const pe_int fun _ => .int i
theorem de_bl {i j pos} : DE X (.Constant (.bool i) j pos) (eC (.bl i)) := de_const pe_bl fun _ => .bl i
theorem de_str {i j pos} : DE X (.Constant (.str i) j pos) (eC (.str i)) := de_const pe_str fun _ => .str i
theorem de_non {j pos} : DE X (.Constant .none j pos) (eC .non) := de_const pe_non fun _ => .non
def eV (i : Nat) : E1 := fun m Q => match m.e[i]? with
  | some (.d x) => Q (.d x) m
  | some (.r k) => Q (.r k) m
  | _ => False
theorem de_var (i : Nat) {x : Str} {pos : Pos} (hN : X.N[i]? = some x := by rfl) (hv : Vis X.env.scope x := by first | exact Or.inl rfl | exact Or.inr (Or.inl rfl) | exact Or.inr (Or.inr rfl)) (hd : (x == ("__debug__" : Str)) = false := by decide)
    (hcd : (x == ("__classdict__" : Str)) = false := by decide) : DE X (.Name x pos) (eV i) := ⟨fun G H σ m as Q ok q => tSem_of (pe_var hN hv hd hcd) (by
  unfold eV at q
  cases e : m.e[i]? with
  | none => rw [e] at q; exact q.elim
  | some x =>
    rw [e] at q
    have sv := ok.sv i x e
    cases x with
    | no => exact q.elim
    | d y =>
      rcases sv with z | ⟨v, h, r⟩
      · cases z
      · exact ⟨v, h, OnV.here ok r q⟩
    | r k =>
      rcases sv with z | ⟨v, h, r⟩
      · cases z
      · exact ⟨v, h, OnV.here ok r q⟩)⟩
/-- a module's constant -/
theorem de_glob {x : Str} {v : V} {u : Value} {d : D} {pos : Pos} (hg : Gl X x) (hm : X.mg x = some u) (r : RelV v u) (rp : ∀ G, Rp X.K G v d) (hd : (x == ("__debug__" : Str)) = false := by decide) : DE X (.Name x pos) (eC d) :=
  de_const (pe_glob hg hm r hd) rp
theorem de_bltn {x : Str} {v : V} {u : Value} {pos : Pos} (hg : Gl X x) (hm : X.mg x = none) (hv : bootBuiltins x = some u) (r : RelV v u) (hn : x ≠ "__name__" := by decide) (hd : (x == ("__debug__" : Str)) = false := by decide) : DE X (.Name x pos) (eC (.v v)) :=
  de_const (pe_bltn hg hm hv r hn hd) fun _ => .v v
/-! ### rows of expressions, displays -/
def aNil : A1 := fun m Q => Q [] m
def aCons (ta : E1) (tr : A1) : A1 := fun m Q => ta m fun x m1 => tr m1 fun xs m2 => Q (x :: xs) m2
theorem OnA.from {K : PySem.W.Frag} {σ : L2.St} {G H G1 H1 : Hp} {m m1 : Ms} {as as1 : List Addr} {Q : List Sv → Ms → Prop} {v : List V} {H' : Hp} (s : Step G H m.s as G1 H1 m1.s as1) (h : OnA K σ G1 H1 m1 as1 Q v H') : OnA K σ G H m as Q v H' := by
  obtain ⟨G', m', as', x, st, ok, r, q⟩ := h
  exact ⟨G', m', as', x, s.trans st, ok, r, q⟩
theorem da_nil : DA X [] aNil := ⟨fun G H σ m as Q ok q => aSem_of pa_nil ⟨G, m, as, [], Step.refl .., ok, .nil, q⟩⟩
theorem da_cons {e : Expr} {es : List Expr} {te : E1} {tr : A1} (ha : DE X e te) (hr : DA X es tr) (hs : starEach (e :: es) X.env = (false, eval e X.env) :: starEach es X.env := by rfl) : DA X (e :: es) (aCons te tr) :=
  ⟨fun G H σ m as Q ok q => aSem_of (pa_cons (pe_sem X e) (pa_sem X es) hs) (by
    refine tSem_mono (ha.run G H σ m as _ ok q) fun v H1 ⟨G1, m1, as1, x, st1, ok1, r1, q1⟩ => ?_
    refine aSem_mono (hr.run G1 H1 σ m1 as1 _ ok1 q1) fun vs H2 ⟨G2, m2, as2, xs, st2, ok2, r2, q2⟩ => ?_
    exact ⟨G2, m2, as2, x :: xs, st1.trans st2, ok2, .cons (r1.mono st2.g st2.pre) r2, q2⟩)⟩
/-- a new tuple: it stands still if all in it does -/
inductive mkT (xs : List Sv) (m : Ms) (Q : SK) : Prop
  | yes {ds : List D} : allD xs = some ds → Q (.d (.tup ds)) m → mkT xs m Q
  | els : Q (.r m.s.length) (m.push (.tp xs)) → mkT xs m Q
def mkL (xs : List Sv) (m : Ms) (Q : SK) : Prop := Q (.r m.s.length) (m.push (.ls xs))
section
variable {K : PySem.W.Frag} {σ : L2.St} {G H : Hp} {m : Ms} {as : List Addr} {Q : SK} {p : Addr} {vs : List V} {xs : List Sv}
theorem snoc_get (as : List Addr) (p : Addr) {n : Nat} (h : as.length = n) : (as ++ [p])[n]? = some p := by
  subst h
  rw [List.getElem?_append_right (Nat.le_refl _), Nat.sub_self]
  rfl
theorem mkL_ok (ok : Ok K G H σ m as) (r : SvA K G as vs xs) (hp : H p = none) (q : mkL xs m Q) : OnV K σ G H m as Q (.ref p) (upd H p (.lst vs)) := by
  obtain ⟨ok', st⟩ := ok.alloc (c := .ls xs) hp (.ls upd_same (r.mono (Same.refl G) (pre_snoc as p)))
  exact ⟨_, _, _, _, st, ok', .r (snoc_get as p ok.len), q⟩
theorem mkT_ok (ok : Ok K G H σ m as) (r : SvA K G as vs xs) (hp : H p = none) (q : mkT xs m Q) : OnV K σ G H m as Q (.ref p) (upd H p (.tup vs)) := by
  cases q with
  | els q =>
    obtain ⟨ok', st⟩ := ok.alloc (c := .tp xs) hp (.tp upd_same (r.mono (Same.refl G) (pre_snoc as p)))
    exact ⟨_, _, _, _, st, ok', .r (snoc_get as p ok.len), q⟩
  | @yes ds e q =>
    obtain ⟨ok', st⟩ := ok.grow (o := .tup vs) hp
    exact ⟨_, _, _, _, st, ok', .d (.tup (SqT.of upd_same) ((allD_ok e r).mono (same_new (g_none ok hp)))), q⟩
theorem sva_len (r : SvA K G as vs xs) : vs.length = xs.length := Paired.length r
end
def eTup (t : A1) : E1 := fun m Q => t m fun xs m1 => xs.length ≤ sizeLine ∧ mkT xs m1 Q
def eLst (t : A1) : E1 := fun m Q => t m fun xs m1 => xs.length ≤ sizeLine ∧ mkL xs m1 Q
theorem de_tup {es : List Expr} {t : A1} {k} (h : DA X es t) : DE X (.Tuple es k pos) (eTup t) :=
  ⟨fun G H σ m as Q ok q => tSem_of (pe_tup (pa_sem X es)) (by
    refine aSem_mono (h.run G H σ m as _ ok q) fun vs H1 ⟨G1, m1, as1, xs, st1, ok1, r1, z, q1⟩ => ⟨by rw [sva_len r1]; exact z, fun p hp => ?_⟩
    exact OnV.from st1 (mkT_ok ok1 r1 hp q1))⟩
theorem de_lst {es : List Expr} {t : A1} (h : DA X es t) : DE X (.List es pos) (eLst t) :=
  ⟨fun G H σ m as Q ok q => tSem_of (pe_lst (pa_sem X es)) (by
    refine aSem_mono (h.run G H σ m as _ ok q) fun vs H1 ⟨G1, m1, as1, xs, st1, ok1, r1, z, q1⟩ => ⟨by rw [sva_len r1]; exact z, fun p hp => ?_⟩
    exact OnV.from st1 (mkL_ok ok1 r1 hp q1))⟩
/-! ### calls of built-ins -/
theorem de_callB {x : Str} {id : String} {e : Expr} {es : List Expr} {p : Pos} {t : A1} {o : OC} (hc : CallD X (.builtin id) o) (hg : Gl X x) (hm : X.mg x = none) (hv : bootBuiltins x = some (.builtin id)) (ha : DA X (e :: es) t) (hn : x ≠ "__name__" := by decide) (hdb : (x == ("__debug__" : Str)) = false := by decide)
    (he : starEach (e :: es) X.env = (false, eval e X.env) :: starEach es X.env := by rfl) (hpl : (backTo pos (starEach es X.env)).any (·.1) = false := by rfl) : DE X (.Call (.Name x p) (e :: es) [] pos) (eA o t) :=
  ⟨fun G H σ m as Q ok q => tSem_of (pe_callB (call_sem X _) hg hm hv (pa_sem X (e :: es)) hn hdb he hpl) (by
    refine aSem_mono (ha.run G H σ m as _ ok q) fun vs H1 ⟨G1, m1, as1, xs, st1, ok1, r1, q1⟩ => ?_
    exact cSem_mono (fun _ _ h => OnV.from st1 h) (hc.run G1 H1 σ m1 as1 vs xs Q ok1 r1 q1))⟩
theorem de_callTy {x : Str} {T : String} {e : Expr} {es : List Expr} {p : Pos} {t : A1} {o : OC} (hc : CallD X (.type T) o) (hg : Gl X x) (hm : X.mg x = none) (hv : bootBuiltins x = some (.type T)) (ha : DA X (e :: es) t) (hn : x ≠ "__name__" := by decide) (hdb : (x == ("__debug__" : Str)) = false := by decide)
    (he : starEach (e :: es) X.env = (false, eval e X.env) :: starEach es X.env := by rfl) (hpl : (backTo pos (starEach es X.env)).any (·.1) = false := by rfl) : DE X (.Call (.Name x p) (e :: es) [] pos) (eA o t) :=
  ⟨fun G H σ m as Q ok q => tSem_of (pe_callTy (call_sem X _) hg hm hv (pa_sem X (e :: es)) hn hdb he hpl) (by
    refine aSem_mono (ha.run G H σ m as _ ok q) fun vs H1 ⟨G1, m1, as1, xs, st1, ok1, r1, q1⟩ => ?_
    exact cSem_mono (fun _ _ h => OnV.from st1 h) (hc.run G1 H1 σ m1 as1 vs xs Q ok1 r1 q1))⟩
end
end Sy
namespace Sy
open PySem PySem.Spec PyProof.Rows L2
section
variable {X : Cx} {K : PySem.W.Frag} {σ : L2.St} {G H : Hp} {m : Ms} {as : List Addr} {v : V} {x : Sv}
theorem sv_int {i : Int} (r : SvR K G as v (.d (.int i))) : v = .int i := rp_int (svd r)
theorem sv_str {i : Str} (r : SvR K G as v (.d (.str i))) : v = .str i := rp_str (svd r)
theorem sv_bl {i : Bool} (r : SvR K G as v (.d (.bl i))) : v = .bl i := rp_bl (svd r)
theorem OnV.d {Q : SK} {d : D} (o : Ok K G H σ m as) (r : Rp K G v d) (q : Q (.d d) m) : OnV K σ G H m as Q v H := OnV.here o (.d r) q
/-! ### whole numbers -/
end
def Sv.int? : Sv → Option Int
  | .d (.int i) => some i
  | _ => none
def Sv.str? : Sv → Option Str
  | .d (.str i) => some i
  | _ => none
def Sv.bl? : Sv → Option Bool
  | .d (.bl i) => some i
  | _ => none
def Sv.tup? : Sv → Option (List D)
  | .d (.tup i) => some i
  | _ => none
theorem Sv.int_eq {x : Sv} {i : Int} (h : x.int? = some i) : x = .d (.int i) := by
  cases x with
  | no => cases h
  | r k => cases h
  | d y => cases y <;> first | (cases h; done) | (cases h; rfl)
theorem Sv.str_eq {x : Sv} {i : Str} (h : x.str? = some i) : x = .d (.str i) := by
  cases x with
  | no => cases h
  | r k => cases h
  | d y => cases y <;> first | (cases h; done) | (cases h; rfl)
theorem Sv.bl_eq {x : Sv} {i : Bool} (h : x.bl? = some i) : x = .d (.bl i) := by
  cases x with
  | no => cases h
  | r k => cases h
  | d y => cases y <;> first | (cases h; done) | (cases h; rfl)
theorem Sv.tup_eq {x : Sv} {i : List D} (h : x.tup? = some i) : x = .d (.tup i) := by
  cases x with
  | no => cases h
  | r k => cases h
  | d y => cases y <;> first | (cases h; done) | (cases h; rfl)
/-- one there -/
inductive one? {α : Type} (a : Option α) (f : α → Prop) : Prop
  | yes {x : α} : a = some x → f x → one? a f
theorem one_cases {α : Type} {a : Option α} {f : α → Prop} (h : one? a f) : ∃ x, a = some x ∧ f x := by
  cases h with
  | yes e h => exact ⟨_, e, h⟩
/-- both there -/
inductive both {α β : Type} (a : Option α) (b : Option β) (f : α → β → Prop) (g : Prop) : Prop
  | yes {x : α} {y : β} : a = some x → b = some y → f x y → both a b f g
  | els : g → both a b f g
theorem both_cases {α β : Type} {a : Option α} {b : Option β} {f : α → β → Prop} {g : Prop} (h : both a b f g) : (∃ x y, a = some x ∧ b = some y ∧ f x y) ∨ g := by
  cases h with
  | yes e1 e2 h => exact .inl ⟨_, _, e1, e2, h⟩
  | els h => exact .inr h
section
variable {X : Cx} {K : PySem.W.Frag} {σ : L2.St} {G H : Hp} {m : Ms} {as : List Addr} {v : V} {x : Sv}
def oInt (C : Int → Int → Prop) (g : Int → Int → D) : O2 := fun x y m Q => both x.int? y.int? (fun i j => C i j ∧ Q (.d (g i j)) m) False
theorem opd_int {f : Value → Value → Sem Value} {C : Int → Int → Prop} {g : Int → Int → V} {g' : Int → Int → D} (h : OpR X f (rI C g)) (hg : ∀ i j G, Rp X.K G (g i j) (g' i j)) : OpD X f (oInt C g') :=
  ⟨fun G H σ m as v u x y Q ok r1 r2 q => by
    have qq := both_cases q
    clear q
    rcases qq with ⟨i, j, e1, e2, q⟩ | q
    · cases Sv.int_eq e1
      cases Sv.int_eq e2
      cases sv_int r1
      cases sv_int r2
      exact rSem_of h ⟨i, j, rfl, rfl, q.1, OnV.d ok (hg i j G) q.2⟩
    · exact q.elim⟩
theorem opd_int0 {f : Value → Value → Sem Value} {g : Int → Int → V} {g' : Int → Int → D} (h : OpR X f (rI0 g)) (hg : ∀ i j G, Rp X.K G (g i j) (g' i j)) : OpD X f (oInt (fun _ _ => True) g') :=
  ⟨fun G H σ m as v u x y Q ok r1 r2 q => by
    have qq := both_cases q
    clear q
    rcases qq with ⟨i, j, e1, e2, q⟩ | q
    · cases Sv.int_eq e1
      cases Sv.int_eq e2
      cases sv_int r1
      cases sv_int r2
      exact rSem_of h ⟨i, j, rfl, rfl, OnV.d ok (hg i j G) q.2⟩
    · exact q.elim⟩
theorem od_sub : OpD X (binaryOp .Sub) (oInt (fun _ _ => True) fun i j => .int (i - j)) := opd_int0 op_sub fun _ _ _ => .int _
theorem od_mod : OpD X (binaryOp .Mod) (oInt (fun _ j => 0 < j) fun i j => .int (i % j)) := opd_int op_mod fun _ _ _ => .int _
theorem od_fdiv : OpD X (binaryOp .FloorDiv) (oInt CDivW fun i j => .int (i / j)) := opd_int op_fdivW fun _ _ _ => .int _
theorem od_pow : OpD X (binaryOp .Pow) (oInt CPow fun i j => .int (i ^ j.toNat)) := opd_int op_pow fun _ _ _ => .int _
theorem od_lt : OpD X (compareOp .Lt) (oInt (fun _ _ => True) fun i j => .bl (decide (i < j))) := opd_int0 op_lt fun _ _ _ => .bl _
theorem od_le : OpD X (compareOp .LtE) (oInt (fun _ _ => True) fun i j => .bl (decide (i ≤ j))) := opd_int0 op_le fun _ _ _ => .bl _
theorem od_gt : OpD X (compareOp .Gt) (oInt (fun _ _ => True) fun i j => .bl (decide (j < i))) := opd_int0 op_gt fun _ _ _ => .bl _
theorem od_ge : OpD X (compareOp .GtE) (oInt (fun _ _ => True) fun i j => .bl (decide (j ≤ i))) := opd_int0 op_ge fun _ _ _ => .bl _
/-- + -/
def oAddS (x y : Sv) (m : Ms) (Q : SK) : Prop := both (sq m.s x) (sq m.s y) (fun p q => match p.1, q.1 with
  | .l, .l => p.2.length + q.2.length ≤ sizeLine ∧ mkL (p.2 ++ q.2) m Q
  | .t, .t => p.2.length + q.2.length ≤ sizeLine ∧ (p.2 = [] → Q y m) ∧ (p.2 ≠ [] → q.2 = [] → Q x m) ∧ (p.2 ≠ [] → q.2 ≠ [] → mkT (p.2 ++ q.2) m Q)
  | _, _ => False) False
def oAdd : O2 := fun x y m Q => both x.int? y.int? (fun i j => Q (.d (.int (i + j))) m)
  (both x.str? y.str? (fun a b => a.length + b.length ≤ sizeLine ∧ Q (.d (.str (a ++ b))) m)
  (both x.tup? y.tup? (fun a b => a.length + b.length ≤ sizeLine ∧ Q (.d (.tup (a ++ b))) m) (oAddS x y m Q)))
theorem paired_app {α β : Type} {F : α → β → Prop} : ∀ {a : List α} {b : List β} {c : List α} {d : List β}, Paired F a b → Paired F c d → Paired F (a ++ c) (b ++ d)
  | _, _, _, _, .nil, h => h
  | _, _, _, _, .cons r t, h => .cons r (paired_app t h)
theorem rpAll_app : ∀ {a c : List V} {b d : List D}, RpAll K G a b → RpAll K G c d → RpAll K G (a ++ c) (b ++ d)
  | _, _, _, _, .nil, h => h
  | _, _, _, _, .cons r t, h => .cons r (rpAll_app t h)
theorem rpAll_len : ∀ {a : List V} {b : List D}, RpAll K G a b → a.length = b.length
  | _, _, .nil => rfl
  | _, _, .cons _ t => by rw [List.length_cons, List.length_cons, rpAll_len t]
theorem paired_nil {α β : Type} {F : α → β → Prop} {a : List α} {b : List β} (h : Paired F a b) : a = [] ↔ b = [] := by
  cases h with
  | nil => simp
  | cons _ _ => simp
theorem rpAll_nil {a : List V} {b : List D} (h : RpAll K G a b) : a = [] ↔ b = [] := by
  cases h with
  | nil => simp
  | cons _ _ => simp
theorem oAddS_ok {u : V} {y : Sv} {Q : SK} (ok : Ok X.K G H σ m as) (r1 : SvR X.K G as v x) (r2 : SvR X.K G as u y) (q : oAddS x y m Q) : rSem X (binaryOp .Add) v u H (OnV X.K σ G H m as Q) := by
  have qq := both_cases q
  clear q
  rcases qq with ⟨p, p2, e1, e2, q⟩ | q
  · obtain ⟨b1, xs⟩ := p
    obtain ⟨b2, ys⟩ := p2
    obtain ⟨a, vs, rfl, h1, s1⟩ := sq_ok ok r1 e1
    obtain ⟨b, us, rfl, h2, s2⟩ := sq_ok ok r2 e2
    cases b1 <;> cases b2 <;> first | exact q.elim | skip
    · refine rSem_of op_cat ⟨a, b, vs, us, rfl, rfl, h1, h2, by rw [sva_len s1, sva_len s2]; exact q.1, fun p hp => ?_⟩
      exact mkL_ok ok (paired_app s1 s2) hp q.2
    · obtain ⟨z, q1, q2, q3⟩ := q
      refine rSem_of op_catA ⟨a, b, vs, us, rfl, rfl, h1, h2, by rw [sva_len s1, sva_len s2]; exact z, fun e => ?_, fun e e' => ?_, fun e e' p hp => ?_⟩
      · exact OnV.here ok r2 (q1 ((paired_nil s1).mp e))
      · exact OnV.here ok r1 (q2 (fun z => e ((paired_nil s1).mpr z)) ((paired_nil s2).mp e'))
      · exact mkT_ok ok (paired_app s1 s2) hp (q3 (fun z => e ((paired_nil s1).mpr z)) fun z => e' ((paired_nil s2).mpr z))
  · exact q.elim
theorem od_add : OpD X (binaryOp .Add) oAdd := ⟨fun G H σ m as v u x y Q ok r1 r2 q => by
  have qq := both_cases q
  clear q
  rcases qq with ⟨i, j, e1, e2, q⟩ | q
  · cases Sv.int_eq e1
    cases Sv.int_eq e2
    cases sv_int r1
    cases sv_int r2
    exact rSem_of op_add ⟨_, _, rfl, rfl, OnV.d ok (.int _) q⟩
  · have qq := both_cases q
    clear q
    rcases qq with ⟨i, j, e1, e2, q⟩ | q
    · cases Sv.str_eq e1
      cases Sv.str_eq e2
      cases sv_str r1
      cases sv_str r2
      exact rSem_of op_add_str ⟨_, _, rfl, rfl, q.1, OnV.d ok (.str _) q.2⟩
    · have qq := both_cases q
      clear q
      rcases qq with ⟨a, b, e1, e2, q⟩ | q
      · cases Sv.tup_eq e1
        cases Sv.tup_eq e2
        obtain ⟨p1, vs, rfl, h1, s1⟩ := rp_tup (svd r1)
        obtain ⟨p2, us, rfl, h2, s2⟩ := rp_tup (svd r2)
        refine rSem_of op_catA ⟨p1, p2, vs, us, rfl, rfl, sqT_mono ok.same h1, sqT_mono ok.same h2, by rw [rpAll_len s1, rpAll_len s2]; exact q.1, fun e => ?_, fun e e' => ?_, fun e e' p hp => ?_⟩
        · have : a = [] := (rpAll_nil s1).mp e
          subst this
          exact OnV.here ok r2 q.2
        · have : b = [] := (rpAll_nil s2).mp e'
          subst this
          refine OnV.here ok r1 ?_
          have q2 := q.2
          rw [List.append_nil] at q2
          exact q2
        · obtain ⟨ok', st⟩ := ok.grow (o := .tup (vs ++ us)) hp
          exact ⟨_, _, _, _, st, ok', .d (.tup (SqT.of upd_same) ((rpAll_app s1 s2).mono (same_new (g_none ok hp)))), q.2⟩
      · exact oAddS_ok ok r1 r2 q⟩
/-- * of numbers, one of them below 2^64 -/
def oMul : O2 := oInt CMul fun i j => .int (i * j)
theorem od_mul : OpD X (binaryOp .Mult) oMul := opd_int op_mul fun _ _ _ => .int _
theorem ud_neg : UnD X (unaryOp .USub) (fun x m Q => one? x.int? fun i => Q (.d (.int (-i))) m) := ⟨fun G H σ m as v x Q ok r q => by
  have qq := one_cases q
  clear q
  obtain ⟨i, e, q⟩ := qq
  cases Sv.int_eq e
  cases sv_int r
  exact uSem_of un_neg ⟨i, rfl, OnV.d ok (.int _) q⟩⟩
end
end Sy
namespace Sy
open PySem PySem.Spec PyProof.Rows L2
section
variable {X : Cx} {K : PySem.W.Frag} {σ : L2.St} {G H : Hp} {m : Ms} {as : List Addr} {v : V} {x : Sv}
/-! ### == -/
mutual
def D.py : D → PyData
  | .non => .none
  | .bl b => .bool b
  | .int i => .int i
  | .str x => .str x
  | .lst xs => .list (pyAll xs)
  | .scr xs => .list (pyAll xs)
  | .tup xs => .tuple (pyAll xs)
  | .dct _ => .none
  | .ob _ _ => .none
  | .v _ => .none
def pyAll : List D → List PyData
  | [] => []
  | x :: xs => D.py x :: pyAll xs
end
mutual
def D.pl : D → Bool
  | .non => true
  | .bl _ => true
  | .int _ => true
  | .str _ => true
  | .lst xs => plAll xs
  | .scr xs => plAll xs
  | .tup xs => plAll xs
  | .dct _ => false
  | .ob _ _ => false
  | .v _ => false
def plAll : List D → Bool
  | [] => true
  | x :: xs => D.pl x && plAll xs
end
mutual
theorem Rp.dp : ∀ {v : V} {d : D}, Rp K G v d → d.pl = true → Dp K G v d.py
  | _, _, .non, _ => .non
  | _, _, .bl b, _ => .bl b
  | _, _, .int b, _ => .int b
  | _, _, .str b, _ => .str b
  | _, _, .lst h r, e => .lst (SqL.of h) (RpAll.dp r e)
  | _, _, .scr h r, e => .lst h (RpAll.dp r e)
  | _, _, .tup h r, e => .tup h (RpAll.dp r e)
  | _, _, .dct _ _, e => by cases e
  | _, _, .ob _ _, e => by cases e
  | _, _, .v _, e => by cases e
theorem RpAll.dp : ∀ {v : List V} {d : List D}, RpAll K G v d → plAll d = true → DpAll K G v (pyAll d)
  | _, _, .nil, _ => .nil
  | _, _, .cons h r, e => .cons (Rp.dp h (Bool.and_eq_true_iff.mp e).1) (RpAll.dp r (Bool.and_eq_true_iff.mp e).2)
end
def D.sc : D → Option V
  | .non => some .non
  | .bl b => some (.bl b)
  | .int i => some (.int i)
  | .str x => some (.str x)
  | _ => none
theorem D.sc_eq {d : D} {w : V} (r : Rp K G v d) (h : d.sc = some w) : v = w := by
  cases r <;> first | (cases h; rfl) | (cases h; done)
def eqGen (a b : D) (k : Bool → Prop) : Prop := a.pl = true ∧ b.pl = true ∧ SeqAt.shaped a.py = true ∧ SeqAt.shaped b.py = true ∧ k (PyData.eqv a.py b.py)
def eqOp (a b : D) (k : Bool → Prop) : Prop := both a.sc b.sc (fun v u => if scal v u = true then k (decide (v = u)) else eqGen a b k) (eqGen a b k)
theorem eqOp_ok {a b : D} {k : Bool → Prop} {u : V} (r1 : Rp K G v a) (r2 : Rp K G u b) (h : eqOp a b k) : (scal v u = true ∧ k (decide (v = u))) ∨ eqGen a b k := by
  rcases both_cases h with ⟨p, q, e1, e2, h⟩ | h
  · cases D.sc_eq r1 e1
    cases D.sc_eq r2 e2
    by_cases z : scal v u = true
    · rw [if_pos z] at h; exact .inl ⟨z, h⟩
    · rw [if_neg z] at h; exact .inr h
  · exact .inr h
def oEq : O2 := fun x y m Q => both (vd m.s x) (vd m.s y) (fun a b => eqOp a b fun c => Q (.d (.bl c)) m) False
def oNe : O2 := fun x y m Q => both (vd m.s x) (vd m.s y) (fun a b => eqOp a b fun c => Q (.d (.bl (!c))) m) False
theorem od_eq (hu : X.A.units + 64 < cLine) : OpD X (compareOp .Eq) oEq := ⟨fun G H σ m as v u x y Q ok r1 r2 q => by
  have qq := both_cases q
  clear q
  rcases qq with ⟨a, b, e1, e2, q⟩ | q
  · have p1 := vd_ok ok r1 e1
    have p2 := vd_ok ok r2 e2
    rcases eqOp_ok p1 p2 q with ⟨z, q⟩ | ⟨l1, l2, s1, s2, q⟩
    · exact rSem_of op_eq ⟨z, OnV.d ok (.bl _) q⟩
    · exact rSem_of (op_eqD hu) ⟨a.py, b.py, p1.dp l1, p2.dp l2, s1, s2, OnV.d ok (.bl _) q⟩
  · exact q.elim⟩
theorem od_ne (hu : X.A.units + 64 < cLine) : OpD X (compareOp .NotEq) oNe := ⟨fun G H σ m as v u x y Q ok r1 r2 q => by
  have qq := both_cases q
  clear q
  rcases qq with ⟨a, b, e1, e2, q⟩ | q
  · have p1 := vd_ok ok r1 e1
    have p2 := vd_ok ok r2 e2
    rcases eqOp_ok p1 p2 q with ⟨z, q⟩ | ⟨l1, l2, s1, s2, q⟩
    · exact rSem_of op_ne ⟨z, OnV.d ok (.bl _) q⟩
    · exact rSem_of (op_neD hu) ⟨a.py, b.py, p1.dp l1, p2.dp l2, s1, s2, OnV.d ok (.bl _) q⟩
  · exact q.elim⟩
end
end Sy
namespace Sy
open PySem PySem.Spec PyProof.Rows L2
section
variable {X : Cx} {K : PySem.W.Frag} {σ : L2.St} {G H : Hp} {m : Ms} {as : List Addr} {v : V} {x : Sv}
/-! ### is None -/
def isN : Sv → Option Bool
  | .no => none
  | .r _ => some false
  | .d .non => some true
  | .d (.v w) => some (decide (w = .non))
  | .d _ => some false
theorem isN_ok {b : Bool} (r : SvR K G as v x) (h : isN x = some b) : decide (v = .non) = b := by
  cases x with
  | no => cases h
  | r k =>
    obtain ⟨a, _, rfl⟩ := svr r
    cases h; rfl
  | d y =>
    have r := svd r
    cases r <;> first | (cases h; rfl) | (cases h; done)
def oIsN : O2 := fun x y m Q => both (isN x) (isN y) (fun a b => b = true ∧ Q (.d (.bl a)) m) False
def oNotN : O2 := fun x y m Q => both (isN x) (isN y) (fun a b => b = true ∧ Q (.d (.bl (!a))) m) False
theorem od_isN : OpD X (compareOp .Is) oIsN := ⟨fun G H σ m as v u x y Q ok r1 r2 q => by
  have qq := both_cases q
  clear q
  rcases qq with ⟨a, b, e1, e2, z, q⟩ | q
  · have h := isN_ok r2 e2
    rw [z] at h
    cases of_decide_eq_true h
    exact rSem_of op_isN ⟨rfl, by rw [isN_ok r1 e1]; exact OnV.d ok (.bl _) q⟩
  · exact q.elim⟩
theorem od_notN : OpD X (compareOp .IsNot) oNotN := ⟨fun G H σ m as v u x y Q ok r1 r2 q => by
  have qq := both_cases q
  clear q
  rcases qq with ⟨a, b, e1, e2, z, q⟩ | q
  · have h := isN_ok r2 e2
    rw [z] at h
    cases of_decide_eq_true h
    exact rSem_of op_notN ⟨rfl, by rw [isN_ok r1 e1]; exact OnV.d ok (.bl _) q⟩
  · exact q.elim⟩
/-! ### in -/
def keyD : D → Option Key
  | .int i => some (.inl i)
  | .str x => some (.inr x)
  | _ => none
theorem keyD_ok {d : D} {k : Key} (r : Rp K G v d) (h : keyD d = some k) : v = kV k := by
  cases r <;> first | (cases h; rfl) | (cases h; done)
/-- a dict as it is now -/
def dqc : Cell → Option (List (Key × Sv))
  | .di xs => some xs
  | .fz (.dct ds) => some (ds.map fun p => (p.1, .d p.2))
  | _ => none
def dq (S : List Cell) : Sv → Option (List (Key × Sv))
  | .d (.dct ds) => some (ds.map fun p => (p.1, .d p.2))
  | .r k => (S[k]?).bind dqc
  | _ => none
theorem rpK_sv : ∀ {vs : List (Key × V)} {ds : List (Key × D)}, RpK K G vs ds → SvK K G as vs (ds.map fun p => (p.1, .d p.2))
  | _, _, .nil => .nil
  | _, _, .cons h r => .cons ⟨rfl, .d h⟩ (rpK_sv r)
theorem dq_ok (ok : Ok K G H σ m as) (r : SvR K G as v x) {xs : List (Key × Sv)} (h : dq m.s x = some xs) : ∃ a vs, v = .ref a ∧ H a = some (.dK vs) ∧ SvK K G as vs xs := by
  cases x with
  | no => cases h
  | d y =>
    cases y with
    | dct ds =>
      cases h
      obtain ⟨a, vs, e, h1, h2⟩ := rp_dct (svd r)
      exact ⟨a, vs, e, ok.same _ _ h1, rpK_sv h2⟩
    | lst _ => cases h
    | scr _ => cases h
    | tup _ => cases h
    | non => cases h
    | bl _ => cases h
    | int _ => cases h
    | str _ => cases h
    | ob _ _ => cases h
    | v _ => cases h
  | r k =>
    obtain ⟨a, ha, e⟩ := svr r
    have h : (m.s[k]?).bind dqc = some xs := h
    cases hc : m.s[k]? with
    | none => rw [hc] at h; cases h
    | some c =>
      rw [hc] at h
      have h : dqc c = some xs := h
      have q := ok.ce k c a hc ha
      cases q with
      | gone => cases h
      | @fz y q =>
        cases y with
        | dct ds =>
          cases h
          obtain ⟨b, vs, e1, h1, h2⟩ := rp_dct q
          cases e1
          exact ⟨_, vs, e, ok.same _ _ h1, rpK_sv h2⟩
        | lst _ => cases h
        | scr _ => cases h
        | tup _ => cases h
        | non => cases h
        | bl _ => cases h
        | int _ => cases h
        | str _ => cases h
        | ob _ _ => cases h
        | v _ => cases h
      | ls _ _ => cases h
      | tp _ _ => cases h
      | @di vs xs q t => cases h; exact ⟨a, vs, e, q, t⟩
      | ob _ _ => cases h
      | dl _ _ _ _ _ => cases h
      | hid _ _ => cases h
def getK {α : Type} : List (Key × α) → Key → Option α
  | [], _ => none
  | (k, x) :: r, j => if k = j then some x else getK r j
theorem getK_ok : ∀ {vs : List (Key × V)} {xs : List (Key × Sv)}, SvK K G as vs xs → ∀ k : Key, (getK xs k = none → valV vs k = none) ∧ (∀ x, getK xs k = some x → ∃ v, valV vs k = some v ∧ SvR K G as v x)
  | _, _, .nil, k => ⟨fun _ => rfl, fun _ h => nomatch h⟩
  | (k1, v1) :: vs, (k2, x2) :: xs, .cons h r, k => by
    obtain ⟨e, h⟩ := h
    cases (show k1 = k2 from e)
    have ih := getK_ok r k
    by_cases q : k1 = k
    · subst q
      refine ⟨fun z => ?_, fun x z => ?_⟩
      · unfold getK at z; rw [if_pos rfl] at z; cases z
      · unfold getK at z; rw [if_pos rfl] at z; cases z
        exact ⟨v1, valV_pos rfl, h⟩
    · refine ⟨fun z => ?_, fun x z => ?_⟩
      · unfold getK at z; rw [if_neg q] at z
        rw [valV_neg q]; exact ih.1 z
      · unfold getK at z; rw [if_neg q] at z
        rw [valV_neg q]; exact ih.2 x z
def flatD : D → Bool
  | .non => true
  | .bl _ => true
  | .int _ => true
  | .str _ => true
  | _ => false
theorem flatD_ok {d : D} (r : Rp K G v d) (h : flatD d = true) : flatV v = true := by
  cases r <;> first | rfl | (cases h; done)
theorem flat_sc {d : D} (r : Rp K G v d) (h : flatD d = true) : d.sc = some v := by
  cases r <;> first | rfl | (cases h; done)
/-- y == x of scalars, as `in` asks it -/
def eqf (a b : D) : Bool := match a.sc, b.sc with
  | some v, some u => eqV v u
  | _, _ => false
def inD (x : D) (ys : List D) : Bool := ys.any fun y => eqf y x
theorem inD_ok {d : D} (r : Rp K G v d) (h : flatD d = true) : ∀ {vs : List V} {ds : List D}, RpAll K G vs ds → ds.all flatD = true → vs.all flatV = true ∧ inV v vs = inD d ds
  | _, _, .nil, _ => ⟨rfl, rfl⟩
  | _, _, .cons h1 r1, e => by
    rw [List.all_cons, Bool.and_eq_true_iff] at e
    obtain ⟨i1, i2⟩ := inD_ok r h r1 e.2
    refine ⟨by rw [List.all_cons, flatD_ok h1 e.1, i1]; rfl, ?_⟩
    unfold inV inD at i2 ⊢
    rw [List.any_cons, List.any_cons, i2]
    unfold eqf
    rw [flat_sc h1 e.1, flat_sc r h]
/-- the answer of x in y; not in -/
def inA (neg : Bool) (b : Bool) (m : Ms) (Q : SK) : Prop := Q (.d (.bl (if neg then !b else b))) m
def oInS (neg : Bool) : O2 := fun x y m Q => both (vd m.s x) ((sq m.s y).bind fun p => allD p.2) (fun d ds => flatD d = true ∧ ds.all flatD = true ∧ inA neg (inD d ds) m Q) False
def oInK (neg : Bool) : O2 := fun x y m Q => both ((vd m.s x).bind keyD) (dq m.s y) (fun k xs => inA neg (getK xs k).isSome m Q) (oInS neg x y m Q)
def oIn (neg : Bool) : O2 := fun x y m Q => both x.str? y.str? (fun a b => inA neg (!(Builtin.Str.occurrences b a 0 b.length 1).isEmpty) m Q) (oInK neg x y m Q)
theorem DGet.rd {a : Addr} {kvs : List (Key × V)} {k : Key} (e : H a = some (.dK kvs)) : DGet H a (kV k) (valV kvs k) := DGet.k e
theorem svk_isSome {vs : List (Key × V)} {xs : List (Key × Sv)} (h : SvK K G as vs xs) (k : Key) : (valV vs k).isSome = (getK xs k).isSome := by
  obtain ⟨h1, h2⟩ := getK_ok h k
  cases e : getK xs k with
  | none => rw [h1 e]; rfl
  | some x =>
    obtain ⟨v, e2, _⟩ := h2 x e
    rw [e2]; rfl
theorem op_inD (hu : X.A.units + 1 < cLine) : OpR X (compareOp .In) (fun y x H Q => ∃ a o, x = .ref a ∧ DGet H a y o ∧ Q (.bl o.isSome) H) := fun pins s σ H y x u v Q I ry rx h => by
  obtain ⟨a, o, rfl, g, q⟩ := h
  cases rx
  exact d_in hu I g ry fun s3 I3 => ⟨.bl o.isSome, H, I3, rfl, q⟩
theorem op_notInD (hu : X.A.units + 1 < cLine) : OpR X (compareOp .NotIn) (fun y x H Q => ∃ a o, x = .ref a ∧ DGet H a y o ∧ Q (.bl (!o.isSome)) H) := fun pins s σ H y x u v Q I ry rx h => by
  obtain ⟨a, o, rfl, g, q⟩ := h
  cases rx
  exact d_notIn hu I g ry fun s3 I3 => ⟨.bl (!o.isSome), H, I3, rfl, q⟩
theorem sqB_any {b : Sk} {a : Addr} {vs : List V} (h : SqB K H b a vs) : SqL K H a vs ∨ SqT K H a vs := by
  cases b with
  | l => exact .inl (SqL.of h)
  | t => exact .inr h
  | s => exact .inl h
theorem od_in (hu : X.A.units + 1 < cLine) : OpD X (compareOp .In) (oIn false) := ⟨fun G H σ m as v u x y Q ok r1 r2 q => by
  have qq := both_cases q
  clear q
  rcases qq with ⟨a, b, e1, e2, q⟩ | q
  · cases Sv.str_eq e1
    cases Sv.str_eq e2
    cases sv_str r1
    cases sv_str r2
    exact rSem_of op_in_str ⟨_, _, rfl, rfl, OnV.d ok (.bl _) q⟩
  have qq := both_cases q
  clear q
  rcases qq with ⟨k, xs, e1, e2, q⟩ | q
  · obtain ⟨d, e0, e1⟩ := Option.bind_eq_some_iff.mp e1
    have p1 := keyD_ok (vd_ok ok r1 e0) e1
    obtain ⟨a, vs, rfl, h1, s1⟩ := dq_ok ok r2 e2
    rw [p1]
    exact rSem_of (op_inD hu) ⟨a, _, rfl, DGet.k h1, by rw [svk_isSome s1]; exact OnV.d ok (.bl _) q⟩
  have qq := both_cases q
  clear q
  rcases qq with ⟨d, ds, e1, e2, f1, f2, q⟩ | q
  · obtain ⟨⟨b, ys⟩, e0, e2⟩ := Option.bind_eq_some_iff.mp e2
    obtain ⟨a, vs, rfl, h1, s1⟩ := sq_ok ok r2 e0
    have p1 := vd_ok ok r1 e1
    have p2 := (allD_ok e2 s1).mono ok.same
    obtain ⟨g1, g2⟩ := inD_ok p1 f1 p2 f2
    exact rSem_of op_in_seq ⟨a, vs, rfl, sqB_any h1, flatD_ok p1 f1, g1, by rw [g2]; exact OnV.d ok (.bl _) q⟩
  · exact q.elim⟩
theorem od_notIn (hu : X.A.units + 1 < cLine) : OpD X (compareOp .NotIn) (oIn true) := ⟨fun G H σ m as v u x y Q ok r1 r2 q => by
  have qq := both_cases q
  clear q
  rcases qq with ⟨a, b, e1, e2, q⟩ | q
  · cases Sv.str_eq e1
    cases Sv.str_eq e2
    cases sv_str r1
    cases sv_str r2
    exact rSem_of op_notIn_str ⟨_, _, rfl, rfl, OnV.d ok (.bl _) q⟩
  have qq := both_cases q
  clear q
  rcases qq with ⟨k, xs, e1, e2, q⟩ | q
  · obtain ⟨d, e0, e1⟩ := Option.bind_eq_some_iff.mp e1
    have p1 := keyD_ok (vd_ok ok r1 e0) e1
    obtain ⟨a, vs, rfl, h1, s1⟩ := dq_ok ok r2 e2
    rw [p1]
    exact rSem_of (op_notInD hu) ⟨a, _, rfl, DGet.k h1, by rw [svk_isSome s1]; exact OnV.d ok (.bl _) q⟩
  have qq := both_cases q
  clear q
  rcases qq with ⟨d, ds, e1, e2, f1, f2, q⟩ | q
  · obtain ⟨⟨b, ys⟩, e0, e2⟩ := Option.bind_eq_some_iff.mp e2
    obtain ⟨a, vs, rfl, h1, s1⟩ := sq_ok ok r2 e0
    have p1 := vd_ok ok r1 e1
    have p2 := (allD_ok e2 s1).mono ok.same
    obtain ⟨g1, g2⟩ := inD_ok p1 f1 p2 f2
    exact rSem_of op_notIn_seq ⟨a, vs, rfl, sqB_any h1, flatD_ok p1 f1, g1, by rw [g2]; exact OnV.d ok (.bl _) q⟩
  · exact q.elim⟩
end
end Sy
namespace Sy
open PySem PySem.Spec PyProof.Rows L2
/-! ### subscripts -/
def iSem (X : Cx) : R2 := fun x y H Q => ∀ (value slice : Expr) (pins : List (Addr × Obj)) (s : Shared) (σ : L2.St) (v u : Value), Inv X pins σ H s → RelV x v → RelV y u →
    subscripted slice false v u = operate [v, u] (getItem v u) → wpAny (model X.prog X.w) X.A (subscriptTail value slice v u) (EP X pins σ Q) X.xe s
theorem ix_sem (X : Cx) : IxR X (iSem X) := fun value slice pins s σ _ _ _ v u _ I rx ry h hs => h value slice pins s σ v u I rx ry hs
theorem iSem_of {X : Cx} {r : R2} (h : IxR X r) {x y : V} {H : Hp} {Q : VK} (q : r x y H Q) : iSem X x y H Q := fun value slice pins s σ v u I rx ry hs => h value slice pins s σ H x y v u Q I rx ry q hs
theorem iSem_mono {X : Cx} {v u : V} {H : Hp} {Q Q' : VK} (k : ∀ v H, Q v H → Q' v H) (h : iSem X v u H Q) : iSem X v u H Q' := fun e1 e2 pins s σ a b I ra rb hs =>
  thn (h e1 e2 pins s σ a b I ra rb hs) fun _ _ ⟨v, H', I', r, q⟩ => ⟨v, H', I', r, k v H' q⟩
/-- an item of a dict -/
theorem ix_dict {X : Cx} (hu : X.A.units + 1 < cLine) : IxR X (fun x y H Q => ∃ a v, x = .ref a ∧ DGet H a y (some v) ∧ Q v H) := by
  intro value slice pins s σ H x y v u Q I rx ry h hs
  obtain ⟨a, w, rfl, g, q⟩ := h
  cases rx
  exact tail_any (dict_typeIs I g) PySem.F.slot_dict_getitem.lookup (d_getItem hu I g ry fun w' s3 I3 rw' => ⟨w, H, I3, rw', q⟩) hs
section
variable {X : Cx} {K : PySem.W.Frag} {σ : L2.St} {G H : Hp} {m : Ms} {as : List Addr} {v : V} {x : Sv}
/-- what is known of a value -/
def known (x : Sv) (Q : Sv → Prop) : Prop := match x with
  | .no => False
  | x => Q x
theorem known_d (d : D) (Q : Sv → Prop) : known (.d d) Q = Q (.d d) := rfl
theorem known_r (k : Nat) (Q : Sv → Prop) : known (.r k) Q = Q (.r k) := rfl
/-- what is found under a key -/
inductive Got : List (Key × Sv) → Key → (Sv → Prop) → Prop
  | here {k k' : Key} {x : Sv} {r : List (Key × Sv)} {f : Sv → Prop} : k' = k → f x → Got ((k', x) :: r) k f
  | next {k k' : Key} {x : Sv} {r : List (Key × Sv)} {f : Sv → Prop} : k' ≠ k → Got r k f → Got ((k', x) :: r) k f
  | any {k : Key} {x : Sv} {r : List (Key × Sv)} {f : Sv → Prop} : getK r k = some x → f x → Got r k f
theorem got_cases {xs : List (Key × Sv)} {k : Key} {f : Sv → Prop} (h : Got xs k f) : ∃ x, getK xs k = some x ∧ f x := by
  induction h with
  | here e h => exact ⟨_, by unfold getK; rw [if_pos e], h⟩
  | next e _ ih =>
    obtain ⟨x, e1, h⟩ := ih
    exact ⟨x, by unfold getK; rw [if_neg e]; exact e1, h⟩
  | any e h => exact ⟨_, e, h⟩
def oIxK : O2 := fun x y m Q => both (dq m.s x) ((vd m.s y).bind keyD) (fun xs k => Got xs k fun z => Q z m) False
def oIxS : O2 := fun x y m Q => both x.str? y.int? (fun a i => a.length ≤ sizeLine ∧ one? (atI a.cps.toList i) fun c => Q (.d (.str ⟨#[c]⟩)) m) (oIxK x y m Q)
def oIx : O2 := fun x y m Q => both (sq m.s x) y.int? (fun p i => one? (atI p.2 i) fun z => Q z m) (oIxS x y m Q)
theorem atI_sv {vs : List V} {xs : List Sv} (h : SvA K G as vs xs) {i : Int} {z : Sv} (e : atI xs i = some z) : ∃ v, atI vs i = some v ∧ SvR K G as v z := by
  unfold atI at e ⊢
  rw [sva_len h]
  obtain ⟨j, e1, e2⟩ := Option.bind_eq_some_iff.mp e
  rw [e1]
  have get : ∀ {vs : List V} {xs : List Sv} {j : Nat} {z : Sv}, SvA K G as vs xs → xs[j]? = some z → ∃ v, vs[j]? = some v ∧ SvR K G as v z := by
    intro vs xs j z h
    induction h generalizing j with
    | nil => intro e; cases e
    | cons q t ih =>
      cases j with
      | zero => intro e; cases e; exact ⟨_, rfl, q⟩
      | succ j => intro e; exact ih e
  exact get h e2
theorem oIx_ok {u : V} {y : Sv} {Q : SK} (hu : X.A.units + 1 < cLine) (ok : Ok X.K G H σ m as) (r1 : SvR X.K G as v x) (r2 : SvR X.K G as u y) (q0 : oIx x y m Q) : iSem X v u H (OnV X.K σ G H m as Q) := by
  have qq := both_cases q0
  clear q0
  rcases qq with ⟨⟨b, xs⟩, i, e1, e2, q1⟩ | q1
  · have eu : u = .int i := by rw [Sv.int_eq e2] at r2; exact sv_int r2
    obtain ⟨a, vs, ev, h1, s1⟩ := sq_ok ok r1 e1
    obtain ⟨z, e3, q2⟩ := one_cases q1
    obtain ⟨w, e4, r⟩ := atI_sv s1 e3
    cases b with
    | l => exact iSem_of ix_list ⟨a, vs, i, w, ev, eu, SqL.of h1, e4, OnV.here ok r q2⟩
    | s => exact iSem_of ix_list ⟨a, vs, i, w, ev, eu, h1, e4, OnV.here ok r q2⟩
    | t => exact iSem_of ix_tup ⟨a, vs, i, w, ev, eu, h1, e4, OnV.here ok r q2⟩
  have qq := both_cases q1
  clear q1
  rcases qq with ⟨a, i, e1, e2, hl, q2⟩ | q2
  · have ev : v = .str a := by rw [Sv.str_eq e1] at r1; exact sv_str r1
    have eu : u = .int i := by rw [Sv.int_eq e2] at r2; exact sv_int r2
    obtain ⟨c, e3, q3⟩ := one_cases q2
    exact iSem_of ix_str ⟨a, i, c, ev, eu, hl, e3, OnV.d ok (.str _) q3⟩
  have qq := both_cases q2
  clear q2
  rcases qq with ⟨xs, k, e1, e2, q3⟩ | q3
  · obtain ⟨d, e0, e2⟩ := Option.bind_eq_some_iff.mp e2
    have p1 := keyD_ok (vd_ok ok r2 e0) e2
    obtain ⟨a, vs, ev, h1, s1⟩ := dq_ok ok r1 e1
    obtain ⟨z, e3, q4⟩ := got_cases q3
    obtain ⟨w, e4, r⟩ := (getK_ok s1 k).2 z e3
    rw [p1]
    exact iSem_of (ix_dict hu) ⟨a, w, ev, by rw [← e4]; exact DGet.k h1, OnV.here ok r q4⟩
  · exact q3.elim
variable {a b c : Expr} {ta tb tc : E1} {pos : Pos}
theorem de_ix (hu : X.A.units + 1 < cLine) (ha : DE X a ta) (hb : DE X b tb) (hs : PlainIx b) : DE X (.Subscript a b pos) (eB oIx ta tb) :=
  ⟨fun G H σ m as Q ok q => tSem_of (pe_ix (ix_sem X) (pe_sem X a) (pe_sem X b) hs) (two ha hb ok q (fun G H m as v u x y ok r1 r2 q => oIx_ok hu ok r1 r2 q) fun _ _ _ _ _ k h => iSem_mono k h)⟩
end
/-! ### slices -/
def poSem (X : Cx) (e : Option Expr) : TO := fun σ H Q => ∀ (pins : List (Addr × Obj)) (s : Shared), Inv X pins σ H s → wpAny (model X.prog X.w) X.A (evalPart e X.env) (fun u s' => ∃ o H', Inv X pins σ H' s' ∧ IsPart u o ∧ Q o H') X.xe s
theorem po_sem (X : Cx) (e : Option Expr) : PO X e (poSem X e) := ⟨fun pins s _ _ _ I h => h pins s I⟩
theorem poSem_of {X : Cx} {e : Option Expr} {t : TO} (h : PO X e t) {σ : L2.St} {H : Hp} {Q : Option Int → Hp → Prop} (q : t σ H Q) : poSem X e σ H Q := fun pins s I => h.run pins s σ H Q I q
theorem poSem_mono {X : Cx} {e : Option Expr} {σ : L2.St} {H : Hp} {Q Q' : Option Int → Hp → Prop} (h : poSem X e σ H Q) (k : ∀ o H', Q o H' → Q' o H') : poSem X e σ H Q' := fun pins s I =>
  thn (h pins s I) fun _ _ ⟨o, H', I', r, q⟩ => ⟨o, H', I', r, k o H' q⟩
def slSem (X : Cx) : V → Option Int → Option Int → Hp → VK → Prop := fun x lo hi H Q =>
  ∀ (pins : List (Addr × Obj)) (s : Shared) (σ : L2.St) (v vl vu : Value) (sl : Addr), Inv X pins σ H s → RelV x v → s.heap.IsSliceOf sl vl vu .none → IsPart vl lo → IsPart vu hi →
    ∃ T id, typeLookup (.type T) "__getitem__" = pure (some (.builtin id)) ∧ s.TypeIs v T ∧ wpAny (model X.prog X.w) X.A (getItem v (.ref sl)) (EP X pins σ Q) X.xe s
theorem sl_sem (X : Cx) : SlR X (slSem X) := fun pins s σ _ _ v vl vu _ _ sl _ I rx h1 h2 h3 h => h pins s σ v vl vu sl I rx h1 h2 h3
theorem slSem_of {X : Cx} {r : V → Option Int → Option Int → Hp → VK → Prop} (h : SlR X r) {x : V} {lo hi : Option Int} {H : Hp} {Q : VK} (q : r x lo hi H Q) : slSem X x lo hi H Q := fun pins s σ v vl vu sl I rx h1 h2 h3 => h pins s σ H x v vl vu lo hi sl Q I rx h1 h2 h3 q
theorem slSem_mono {X : Cx} {v : V} {lo hi : Option Int} {H : Hp} {Q Q' : VK} (k : ∀ v H, Q v H → Q' v H) (h : slSem X v lo hi H Q) : slSem X v lo hi H Q' := fun pins s σ w vl vu sl I rx h1 h2 h3 => by
  obtain ⟨T, id, e1, e2, e3⟩ := h pins s σ w vl vu sl I rx h1 h2 h3
  exact ⟨T, id, e1, e2, thn e3 fun _ _ ⟨v, H', I', r, q⟩ => ⟨v, H', I', r, k v H' q⟩⟩
/-- a part of a slice -/
abbrev O1o := Ms → (Option Int → Ms → Prop) → Prop
structure DO (X : Cx) (e : Option Expr) (t : O1o) : Prop where
  run : ∀ (G H : Hp) (σ : L2.St) (m : Ms) (as : List Addr) (Q : Option Int → Ms → Prop), Ok X.K G H σ m as → t m Q → poSem X e σ H (fun o => On X.K σ G H m as (Q o))
section
variable {X : Cx} {K : PySem.W.Frag} {σ : L2.St} {G H : Hp} {m : Ms} {as : List Addr} {v : V} {x : Sv} {a b c : Expr} {ta tb tc : E1} {pos : Pos}
def oNone : O1o := fun m Q => Q none m
def oSome (t : E1) : O1o := fun m Q => t m fun x m1 => one? x.int? fun i => Q (some i) m1
theorem do_none : DO X none oNone := ⟨fun G H σ m as Q ok q => poSem_of po_none (On.here ok q)⟩
theorem do_some (h : DE X a ta) : DO X (some a) (oSome ta) := ⟨fun G H σ m as Q ok q => poSem_of (po_some (pe_sem X a)) (by
  refine tSem_mono (h.run G H σ m as _ ok q) fun v H1 ⟨G1, m1, as1, x, st1, ok1, r1, q1⟩ => ?_
  obtain ⟨i, e, q⟩ := one_cases q1
  rw [Sv.int_eq e] at r1
  exact ⟨i, sv_int r1, G1, m1, as1, st1, ok1, q⟩)⟩
/-- xs[lo:hi] of anything -/
def cutL {α : Type} (xs : List α) (lo hi : Option Int) : List α := (xs.drop (HT.sIx xs.length 0 lo)).take (HT.sIx xs.length xs.length hi - HT.sIx xs.length 0 lo)
theorem paired_take {α β : Type} {F : α → β → Prop} : ∀ {a : List α} {b : List β} (n : Nat), Paired F a b → Paired F (a.take n) (b.take n)
  | _, _, 0, _ => by simp; exact .nil
  | _, _, n + 1, .nil => .nil
  | _, _, n + 1, .cons r t => .cons r (paired_take n t)
theorem paired_drop {α β : Type} {F : α → β → Prop} : ∀ {a : List α} {b : List β} (n : Nat), Paired F a b → Paired F (a.drop n) (b.drop n)
  | _, _, 0, h => h
  | _, _, n + 1, .nil => .nil
  | _, _, n + 1, .cons r t => paired_drop n t
theorem paired_cut {α β : Type} {F : α → β → Prop} {a : List α} {b : List β} (lo hi : Option Int) (h : Paired F a b) : Paired F (cutL a lo hi) (cutL b lo hi) := by
  unfold cutL
  rw [Paired.length h]
  exact paired_take _ (paired_drop _ h)
theorem rpAll_take : ∀ {a : List V} {b : List D} (n : Nat), RpAll K G a b → RpAll K G (a.take n) (b.take n)
  | _, _, 0, _ => by simp; exact .nil
  | _, _, n + 1, .nil => .nil
  | _, _, n + 1, .cons r t => .cons r (rpAll_take n t)
theorem rpAll_drop : ∀ {a : List V} {b : List D} (n : Nat), RpAll K G a b → RpAll K G (a.drop n) (b.drop n)
  | _, _, 0, h => h
  | _, _, n + 1, .nil => .nil
  | _, _, n + 1, .cons r t => rpAll_drop n t
theorem rpAll_cut {a : List V} {b : List D} (lo hi : Option Int) (h : RpAll K G a b) : RpAll K G (cutL a lo hi) (cutL b lo hi) := by
  unfold cutL
  rw [rpAll_len h]
  exact rpAll_take _ (rpAll_drop _ h)
theorem cutL_whole {α : Type} {a : List α} {lo hi : Option Int} (h : HT.sIx a.length 0 lo = 0 ∧ HT.sIx a.length a.length hi = a.length) : cutL a lo hi = a := by
  unfold cutL
  rw [h.1, h.2]
  simp
def oSlS (x : Sv) (lo hi : Option Int) (m : Ms) (Q : SK) : Prop := one? x.str? fun a => a.length ≤ sizeLine ∧ Q (.d (.str (cutS a lo hi))) m
def oSlL (x : Sv) (lo hi : Option Int) (m : Ms) (Q : SK) : Prop := match sq m.s x with
  | some (.l, xs) => mkL (cutL xs lo hi) m Q
  | some (.s, xs) => mkL (cutL xs lo hi) m Q
  | _ => oSlS x lo hi m Q
/-- x[lo:hi]: a tuple that stands still, a list, a text -/
def oSl (x : Sv) (lo hi : Option Int) (m : Ms) (Q : SK) : Prop := match x.tup? with
  | some xs => Q (.d (.tup (cutL xs lo hi))) m
  | none => oSlL x lo hi m Q
theorem oSl_ok {lo hi : Option Int} {Q : SK} (ok : Ok X.K G H σ m as) (r1 : SvR X.K G as v x) (q0 : oSl x lo hi m Q) : slSem X v lo hi H (OnV X.K σ G H m as Q) := by
  unfold oSl at q0
  cases e1 : x.tup? with
  | some xs =>
    rw [e1] at q0
    have q0 : Q (Sv.d (D.tup (cutL xs lo hi))) m := q0
    rw [Sv.tup_eq e1] at r1
    obtain ⟨a, vs, ev, h1, h2⟩ := rp_tup (svd r1)
    refine slSem_of sl_tupA ⟨a, vs, ev, sqT_mono ok.same h1, fun hw => ?_, fun hw p hp => ?_⟩
    · rw [rpAll_len h2] at hw
      rw [cutL_whole hw] at q0
      rw [← ev]
      exact OnV.here ok r1 q0
    · obtain ⟨ok', st⟩ := ok.grow (o := .tup (cutV vs lo hi)) hp
      exact ⟨_, _, _, _, st, ok', .d (.tup (SqT.of upd_same) ((rpAll_cut lo hi h2).mono (same_new (g_none ok hp)))), q0⟩
  | none =>
    rw [e1] at q0
    have q1 : oSlL x lo hi m Q := q0
    unfold oSlL at q1
    have strc : oSlS x lo hi m Q → slSem X v lo hi H (OnV X.K σ G H m as Q) := fun q2 => by
      obtain ⟨a, e, hl, q3⟩ := one_cases q2
      rw [Sv.str_eq e] at r1
      exact slSem_of sl_str ⟨a, sv_str r1, hl, OnV.d ok (.str _) q3⟩
    cases e2 : sq m.s x with
    | none => rw [e2] at q1; exact strc q1
    | some p =>
      obtain ⟨b, xs⟩ := p
      obtain ⟨a, vs, ev, h1, h2⟩ := sq_ok ok r1 e2
      rw [e2] at q1
      cases b with
      | l => exact slSem_of sl_list ⟨a, vs, ev, SqL.of h1, fun p hp => mkL_ok ok (paired_cut lo hi h2) hp q1⟩
      | s => exact slSem_of sl_list ⟨a, vs, ev, h1, fun p hp => mkL_ok ok (paired_cut lo hi h2) hp q1⟩
      | t => exact strc q1
def eSl (ta : E1) (tl th : O1o) : E1 := fun m Q => ta m fun x m1 => tl m1 fun lo m2 => th m2 fun hi m3 => oSl x lo hi m3 Q
theorem de_slice {lo hi : Option Expr} {tl th : O1o} {p2 : Pos} (ha : DE X a ta) (hl : DO X lo tl) (hh : DO X hi th) : DE X (.Subscript a (.Slice lo hi none p2) pos) (eSl ta tl th) :=
  ⟨fun G H σ m as Q ok q => tSem_of (pe_slice (sl_sem X) (pe_sem X a) (po_sem X lo) (po_sem X hi)) (by
    refine tSem_mono (ha.run G H σ m as _ ok q) fun v H1 ⟨G1, m1, as1, x, st1, ok1, r1, q1⟩ => ?_
    refine poSem_mono (hl.run G1 H1 σ m1 as1 _ ok1 q1) fun l H2 ⟨G2, m2, as2, st2, ok2, q2⟩ => ?_
    refine poSem_mono (hh.run G2 H2 σ m2 as2 _ ok2 q2) fun h H3 ⟨G3, m3, as3, st3, ok3, q3⟩ => ?_
    have st := (st1.trans st2).trans st3
    exact slSem_mono (fun _ _ h => OnV.from st h) (oSl_ok ok3 ((r1.mono st2.g st2.pre).mono st3.g st3.pre) q3))⟩
/-! ### built-ins -/
def oLen : OC := fun xs m Q => match xs with
  | [x] => match x.str? with
    | some a => a.length ≤ sizeLine ∧ Q (.d (.int a.length)) m
    | none => match dq m.s x with
      | some kvs => Q (.d (.int kvs.length)) m
      | none => one? (sq m.s x) fun p => Q (.d (.int p.2.length)) m
  | _ => False
theorem sva1 {vs : List V} (h : SvA K G as vs [x]) : ∃ v, vs = [v] ∧ SvR K G as v x := by
  cases h with
  | cons a t => cases t; exact ⟨_, rfl, a⟩
theorem sva2 {vs : List V} {y : Sv} (h : SvA K G as vs [x, y]) : ∃ v u, vs = [v, u] ∧ SvR K G as v x ∧ SvR K G as u y := by
  cases h with
  | cons a t =>
    cases t with
    | cons b t => cases t; exact ⟨_, _, rfl, a, b⟩
theorem cd_len : CallD X (.builtin "len") oLen := ⟨fun G H σ m as vs xs Q ok r q0 => by
  unfold oLen at q0
  match xs, r, q0 with
  | [x], r, q0 =>
    obtain ⟨v, rfl, r1⟩ := sva1 r
    cases e1 : x.str? with
    | some a =>
      simp only [e1] at q0
      rw [Sv.str_eq e1] at r1
      exact cSem_of call_len_str ⟨a, by rw [sv_str r1], q0.1, OnV.d ok (.int _) q0.2⟩
    | none =>
      simp only [e1] at q0
      cases e2 : dq m.s x with
      | some kvs =>
        simp only [e2] at q0
        obtain ⟨a, us, ev, h1, h2⟩ := dq_ok ok r1 e2
        have hl : us.length = kvs.length := Paired.length h2
        exact cSem_of call_lenD ⟨a, us, by rw [ev], h1, by rw [hl]; exact OnV.d ok (.int _) q0⟩
      | none =>
        simp only [e2] at q0
        obtain ⟨⟨b, ys⟩, e3, q1⟩ := one_cases q0
        obtain ⟨a, us, ev, h1, h2⟩ := sq_ok ok r1 e3
        exact cSem_of call_len_seq ⟨a, us, by rw [ev], sqB_any h1, by rw [sva_len h2]; exact OnV.d ok (.int _) q1⟩⟩
/-- int of a number, of a truth -/
def oIntC : OC := fun xs m Q => match xs with
  | [x] => match x.int? with
    | some i => Q (.d (.int i)) m
    | none => one? x.bl? fun b => Q (.d (.int (if b then 1 else 0))) m
  | _ => False
theorem cd_int : CallD X (.type "int") oIntC := ⟨fun G H σ m as vs xs Q ok r q0 => by
  unfold oIntC at q0
  match xs, r, q0 with
  | [x], r, q0 =>
    obtain ⟨v, rfl, r1⟩ := sva1 r
    cases e1 : x.int? with
    | some a =>
      simp only [e1] at q0
      rw [Sv.int_eq e1] at r1
      exact cSem_of call_int1 (.inl ⟨a, by rw [sv_int r1], OnV.d ok (.int _) q0⟩)
    | none =>
      simp only [e1] at q0
      obtain ⟨b, e2, q1⟩ := one_cases q0
      rw [Sv.bl_eq e2] at r1
      exact cSem_of call_int1 (.inr ⟨b, by rw [sv_bl r1], OnV.d ok (.int _) q1⟩)⟩
def oI2 (g : Int → Int → Int) : OC := fun xs m Q => match xs with
  | [x, y] => both x.int? y.int? (fun i j => Q (.d (.int (g i j))) m) False
  | _ => False
theorem cd_max2 (hc : X.calm = true) : CallD X (.builtin "max") (oI2 fun i j => if j > i then j else i) := ⟨fun G H σ m as vs xs Q ok r q0 => by
  unfold oI2 at q0
  match xs, r, q0 with
  | [x, y], r, q0 =>
    obtain ⟨v, u, rfl, r1, r2⟩ := sva2 r
    have qq := both_cases q0
    clear q0
    rcases qq with ⟨i, j, e1, e2, q1⟩ | q1
    · rw [Sv.int_eq e1] at r1
      rw [Sv.int_eq e2] at r2
      exact cSem_of (call_max2 hc) ⟨i, j, by rw [sv_int r1, sv_int r2], OnV.d ok (.int _) q1⟩
    · exact q1.elim⟩
theorem cd_min2 (hc : X.calm = true) : CallD X (.builtin "min") (oI2 fun i j => if j < i then j else i) := ⟨fun G H σ m as vs xs Q ok r q0 => by
  unfold oI2 at q0
  match xs, r, q0 with
  | [x, y], r, q0 =>
    obtain ⟨v, u, rfl, r1, r2⟩ := sva2 r
    have qq := both_cases q0
    clear q0
    rcases qq with ⟨i, j, e1, e2, q1⟩ | q1
    · rw [Sv.int_eq e1] at r1
      rw [Sv.int_eq e2] at r2
      exact cSem_of (call_min2 hc) ⟨i, j, by rw [sv_int r1, sv_int r2], OnV.d ok (.int _) q1⟩
    · exact q1.elim⟩
/-- tuple(xs), list(xs) -/
def oTuple : OC := fun xs m Q => match xs with
  | [x] => match x.tup? with
    | some ds => Q (.d (.tup ds)) m
    | none => match sq m.s x with
      | some (.l, ys) => mkT ys m Q
      | some (.s, ys) => mkT ys m Q
      | _ => False
  | _ => False
theorem cd_tuple : CallD X (.type "tuple") oTuple := ⟨fun G H σ m as vs xs Q ok r q0 => by
  unfold oTuple at q0
  match xs, r, q0 with
  | [x], r, q0 =>
    obtain ⟨v, rfl, r1⟩ := sva1 r
    cases e1 : x.tup? with
    | some ds =>
      simp only [e1] at q0
      rw [Sv.tup_eq e1] at r1
      obtain ⟨a, us, ev, h1, h2⟩ := rp_tup (svd r1)
      exact cSem_of call_tupleT ⟨a, us, by rw [ev], sqT_mono ok.same h1, by rw [← ev]; exact OnV.here ok r1 q0⟩
    | none =>
      simp only [e1] at q0
      cases e2 : sq m.s x with
      | none => simp only [e2] at q0
      | some p =>
        obtain ⟨b, ys⟩ := p
        simp only [e2] at q0
        obtain ⟨a, us, ev, h1, h2⟩ := sq_ok ok r1 e2
        cases b with
        | t => exact q0.elim
        | l => exact cSem_of call_tuple_of ⟨a, us, by rw [ev], .inl ⟨SqL.of h1, fun l hl => mkT_ok ok h2 hl q0⟩⟩
        | s => exact cSem_of call_tuple_of ⟨a, us, by rw [ev], .inl ⟨h1, fun l hl => mkT_ok ok h2 hl q0⟩⟩⟩
def oList : OC := fun xs m Q => match xs with
  | [x] => one? (sq m.s x) fun p => mkL p.2 m Q
  | _ => False
theorem cd_list : CallD X (.type "list") oList := ⟨fun G H σ m as vs xs Q ok r q0 => by
  unfold oList at q0
  match xs, r, q0 with
  | [x], r, q0 =>
    obtain ⟨v, rfl, r1⟩ := sva1 r
    obtain ⟨⟨b, ys⟩, e3, q1⟩ := one_cases q0
    obtain ⟨a, us, ev, h1, h2⟩ := sq_ok ok r1 e3
    exact cSem_of call_list_of ⟨a, us, by rw [ev], sqB_any h1, fun l hl => mkL_ok ok h2 hl q1⟩⟩
/-- all, any of a list of truths -/
def blsD : List D → Option (List Bool)
  | [] => some []
  | .bl b :: r => (blsD r).map (b :: ·)
  | _ :: _ => none
theorem blsD_ok : ∀ {ds : List D} {vs : List V} {bs : List Bool}, RpAll K G vs ds → blsD ds = some bs → vs = bs.map V.bl
  | [], _, bs, .nil, h => by cases h; rfl
  | .bl b :: r, _, bs, .cons q t, h => by
    obtain ⟨b0, e, rfl⟩ := Option.map_eq_some_iff.mp (show (blsD r).map (b :: ·) = some bs from h)
    cases q
    rw [blsD_ok t e]; rfl
  | .non :: _, _, _, .cons q t, h => by cases h
  | .int _ :: _, _, _, .cons q t, h => by cases h
  | .str _ :: _, _, _, .cons q t, h => by cases h
  | .lst _ :: _, _, _, .cons q t, h => by cases h
  | .scr _ :: _, _, _, .cons q t, h => by cases h
  | .tup _ :: _, _, _, .cons q t, h => by cases h
  | .dct _ :: _, _, _, .cons q t, h => by cases h
  | .ob _ _ :: _, _, _, .cons q t, h => by cases h
  | .v _ :: _, _, _, .cons q t, h => by cases h
def oBls (f : List Bool → Bool) : OC := fun xs m Q => match xs with
  | [x] => match sq m.s x with
    | some (.l, ys) => one? ((allD ys).bind blsD) fun bs => Q (.d (.bl (f bs))) m
    | _ => False
  | _ => False
theorem oBls_ok {f : List Bool → Bool} {vs : List V} {xs : List Sv} {Q : SK} (ok : Ok X.K G H σ m as) (r : SvA X.K G as vs xs) (q0 : oBls f xs m Q) : ∃ a bs, vs = [.ref a] ∧ SqL X.K H a (bs.map V.bl) ∧ OnV X.K σ G H m as Q (.bl (f bs)) H := by
  unfold oBls at q0
  match xs, r, q0 with
  | [x], r, q0 =>
    obtain ⟨v, rfl, r1⟩ := sva1 r
    cases e2 : sq m.s x with
    | none => simp only [e2] at q0
    | some p =>
      obtain ⟨b, ys⟩ := p
      obtain ⟨a, us, ev, h1, h2⟩ := sq_ok ok r1 e2
      cases b with
      | t => simp only [e2] at q0
      | s => simp only [e2] at q0
      | l =>
        simp only [e2] at q0
        obtain ⟨bs, e3, q1⟩ := one_cases q0
        obtain ⟨ds, e4, e5⟩ := Option.bind_eq_some_iff.mp e3
        have hh := blsD_ok (allD_ok e4 h2) e5
        exact ⟨a, bs, by rw [ev], by rw [← hh]; exact SqL.of h1, OnV.d ok (.bl _) q1⟩
theorem cd_all (hc : X.calm = true) : CallD X (.builtin "all") (oBls fun bs => bs.all id) := ⟨fun G H σ m as vs xs Q ok r q0 => by
  obtain ⟨a, bs, rfl, h1, q⟩ := oBls_ok ok r q0
  exact cSem_of (cr_all hc) ⟨a, bs, rfl, h1, q⟩⟩
theorem cd_any (hc : X.calm = true) : CallD X (.builtin "any") (oBls fun bs => bs.any id) := ⟨fun G H σ m as vs xs Q ok r q0 => by
  obtain ⟨a, bs, rfl, h1, q⟩ := oBls_ok ok r q0
  exact cSem_of (cr_any hc) ⟨a, bs, rfl, h1, q⟩⟩
end
end Sy
namespace Sy
open PySem PySem.Spec PyProof.Rows L2
section
variable {X : Cx} {st : Stmt} {rest : List Stmt} {t u : S1} {e : Expr} {te : E1} {pos : Pos}
def sNext : S1 := fun D m => D.nx m
def sSeq (t u : S1) : S1 := fun D m => t { D with nx := u D } m
theorem db_nil : DB X [] sNext := ⟨fun G H σ m as D ok q => bSem_of pss_nil (On.here ok q)⟩
theorem db_cons (h1 : DS X st t) (h2 : DB X rest u) : DB X (st :: rest) (sSeq t u) := ⟨fun G H σ m as D ok q => bSem_of (pss_cons (ps_sem X st) (pss_sem X rest)) (by
  refine sSem_mono (h1.run G H σ m as { D with nx := u D } ok q) (fun σ1 H1 ⟨G1, m1, as1, st1, ok1, q1⟩ => ?_) (fun _ _ q => q) (fun _ _ q => q) (fun _ _ q => q)
  exact onEb_from st1 (h2.run G1 H1 σ1 m1 as1 D ok1 q1))⟩
theorem db_one (h1 : DS X st t) : DB X [st] t := ⟨fun G H σ m as D ok q => bSem_of (pss_one (ps_sem X st)) (h1.run G H σ m as D ok q)⟩
theorem ds_pass : DS X (.Pass pos) sNext := ⟨fun G H σ m as D ok q => sSem_of ps_pass (On.here ok q)⟩
def sBrk : S1 := fun D m => D.bk m
def sCt : S1 := fun D m => D.ct m
theorem ds_break : DS X (.Break pos) sBrk := ⟨fun G H σ m as D ok q => sSem_of ps_break (On.here ok q)⟩
theorem ds_continue : DS X (.Continue pos) sCt := ⟨fun G H σ m as D ok q => sSem_of ps_continue (On.here ok q)⟩
def sDrop (te : E1) : S1 := fun D m => te m fun _ m1 => D.nx m1
theorem ds_expr (he : DE X e te) (hs : swapsWith e none pos.line X.env = pure false := by rfl) : DS X (.Expr e pos) (sDrop te) := ⟨fun G H σ m as D ok q => sSem_of (ps_expr (pe_sem X e) hs) (by
  refine tSem_mono (he.run G H σ m as _ ok q) fun v H1 ⟨G1, m1, as1, x, st1, ok1, r1, q1⟩ => ⟨G1, m1, as1, st1, ok1, q1⟩)⟩
def sRet (te : E1) : S1 := fun D m => te m D.rt
theorem ds_ret (he : DE X e te) : DS X (.Return (some e) pos) (sRet te) := ⟨fun G H σ m as D ok q => sSem_of (ps_ret (pe_sem X e)) (by
  refine tSem_mono (he.run G H σ m as _ ok q) fun v H1 h => ⟨σ, h⟩)⟩
def sRetN : S1 := fun D m => D.rt (.d .non) m
theorem ds_retN : DS X (.Return none pos) sRetN := ⟨fun G H σ m as D ok q => sSem_of ps_retN ⟨σ, OnV.here ok (.d .non) q⟩⟩
def sIf (c : T1) (t u : S1) : S1 := fun D m => c m fun b m1 => IfB b (t D m1) (u D m1)
theorem ds_if {c : Expr} {a b : List Stmt} {tc : T1} (hc : DT X c tc) (ha : DB X a t) (hb : DB X b u) : DS X (.If c a b pos) (sIf tc t u) := ⟨fun G H σ m as D ok q => sSem_of (ps_if (pt_sem X c) (pss_sem X a) (pss_sem X b)) (by
  refine qSem_mono (hc.run G H σ m as _ ok q) fun d H1 ⟨G1, m1, as1, st1, ok1, q1⟩ => ?_
  cases d with
  | true => exact iteT (onEb_from st1 (ha.run G1 H1 σ m1 as1 D ok1 (IfB.tt q1)))
  | false => exact iteF (onEb_from st1 (hb.run G1 H1 σ m1 as1 D ok1 (IfB.ff q1))))⟩
/-! ### targets -/
abbrev G1 := Sv → Ms → (Ms → Prop) → Prop
abbrev Gs1 := List Sv → Ms → (Ms → Prop) → Prop
def gSem (X : Cx) (tg : Expr) : TG := fun v σ H Q => ∀ (pins : List (Addr × Obj)) (s : Shared) (u : Value), Inv X pins σ H s → RelV v u → wpAny (model X.prog X.w) X.A (assign tg X.env u) (fun _ s' => ∃ σ' H', Inv X pins σ' H' s' ∧ Q σ' H') X.xe s
theorem pg_sem (X : Cx) (tg : Expr) : PG X tg (gSem X tg) := ⟨fun pins s _ _ _ u _ I r h => h pins s u I r⟩
theorem gSem_of {tg : Expr} {g : TG} (h : PG X tg g) {v : V} {σ : L2.St} {H : Hp} {Q : L2.St → Hp → Prop} (q : g v σ H Q) : gSem X tg v σ H Q := fun pins s u I r => h.run pins s σ H v u Q I r q
theorem gSem_mono {tg : Expr} {v : V} {σ : L2.St} {H : Hp} {Q Q' : L2.St → Hp → Prop} (h : gSem X tg v σ H Q) (k : ∀ σ H, Q σ H → Q' σ H) : gSem X tg v σ H Q' := fun pins s u I r =>
  thn (h pins s u I r) fun _ _ ⟨σ', H', I', q⟩ => ⟨σ', H', I', k _ _ q⟩
def gsSem (X : Cx) (ts : List Expr) : TGs := fun vs σ H Q => ∀ (pins : List (Addr × Obj)) (s : Shared) (us : List Value), Inv X pins σ H s → Vals vs us → wpAny (model X.prog X.w) X.A (assignInOrder ((assignEach ts X.env).map (·.2)) us) (fun _ s' => ∃ σ' H', Inv X pins σ' H' s' ∧ Q σ' H') X.xe s
theorem pgs_sem (X : Cx) (ts : List Expr) : PGs X ts (gsSem X ts) := ⟨fun pins s _ _ _ us _ I r h => h pins s us I r⟩
theorem gsSem_of {ts : List Expr} {g : TGs} (h : PGs X ts g) {vs : List V} {σ : L2.St} {H : Hp} {Q : L2.St → Hp → Prop} (q : g vs σ H Q) : gsSem X ts vs σ H Q := fun pins s us I r => h.run pins s σ H vs us Q I r q
theorem gsSem_mono {ts : List Expr} {vs : List V} {σ : L2.St} {H : Hp} {Q Q' : L2.St → Hp → Prop} (h : gsSem X ts vs σ H Q) (k : ∀ σ H, Q σ H → Q' σ H) : gsSem X ts vs σ H Q' := fun pins s us I r =>
  thn (h pins s us I r) fun _ _ ⟨σ', H', I', q⟩ => ⟨σ', H', I', k _ _ q⟩
/-- but for the slots at is the names hold what they held -/
def Bt (is : List Nat) (σ σ' : L2.St) : Prop := σ'.length = σ.length ∧ ∀ (j : Nat), j ∉ is → σ'[j]? = σ[j]?
theorem Bt.refl (is : List Nat) (σ : L2.St) : Bt is σ σ := ⟨rfl, fun _ _ => rfl⟩
theorem Bt.trans {is js : List Nat} {a b c : L2.St} (h : Bt is a b) (h' : Bt js b c) : Bt (is ++ js) a c :=
  ⟨h'.1.trans h.1, fun j hj => (h'.2 j (fun z => hj (List.mem_append_right _ z))).trans (h.2 j fun z => hj (List.mem_append_left _ z))⟩
theorem Bt.set (i : Nat) (σ : L2.St) (v : Option V) : Bt [i] σ (σ.set i v) := ⟨List.length_set, fun j hj => List.getElem?_set_ne (fun e => hj (by simp [e]))⟩
/-- the slots of ts alone change -/
structure DG (X : Cx) (tg : Expr) (is : List Nat) (t : G1) : Prop where
  run : ∀ (G H : Hp) (σ : L2.St) (m : Ms) (as : List Addr) (v : V) (x : Sv) (Q : Ms → Prop), Ok X.K G H σ m as → SvR X.K G as v x → t x m Q → gSem X tg v σ H (fun σ' H' => Bt is σ σ' ∧ On X.K σ' G H m as Q H')
structure DGs (X : Cx) (ts : List Expr) (is : List Nat) (t : Gs1) : Prop where
  run : ∀ (G H : Hp) (σ : L2.St) (m : Ms) (as : List Addr) (vs : List V) (xs : List Sv) (Q : Ms → Prop), Ok X.K G H σ m as → SvA X.K G as vs xs → t xs m Q → gsSem X ts vs σ H (fun σ' H' => Bt is σ σ' ∧ On X.K σ' G H m as Q H')
def gN (i : Nat) : G1 := fun x m Q => Q (m.setE i x)
theorem dg_name {i : Nat} {x : Str} (hN : X.N.Nodup) (hi : X.N[i]? = some x) (hx : Loc X.env.scope x) (hf : X.fn x = true ∨ X.env.scope.names.lookup x = some .local := by first | exact .inl rfl | exact .inr rfl | assumption) : DG X (.Name x pos) [i] (gN i) :=
  ⟨fun G H σ m as v y Q ok r q => gSem_of (pg_name hN hi hx hf) ⟨Bt.set i σ _, G, m.setE i y, as, Step.refl .., ok.slot r, q⟩⟩
def gsN : Gs1 := fun xs m Q => xs = [] ∧ Q m
def gsC (t : G1) (u : Gs1) : Gs1 := fun xs m Q => match xs with
  | x :: r => t x m fun m1 => u r m1 Q
  | [] => False
theorem dgs_nil : DGs X [] [] gsN := ⟨fun G H σ m as vs xs Q ok r q => gsSem_of pgs_nil (by
  obtain ⟨rfl, q⟩ := q
  cases r
  exact ⟨rfl, Bt.refl _ _, On.here ok q⟩)⟩
theorem dgs_cons {es : List Expr} {is js : List Nat} {t : G1} {u : Gs1} (h1 : DG X e is t) (h2 : DGs X es js u) (hs : (assignEach (e :: es) X.env).map (·.2) = assign e X.env :: (assignEach es X.env).map (·.2) := by rfl) : DGs X (e :: es) (is ++ js) (gsC t u) :=
  ⟨fun G H σ m as vs xs Q ok r q => gsSem_of (pgs_cons (pg_sem X e) (pgs_sem X es) hs) (by
    cases r with
    | nil => exact q.elim
    | cons r1 r2 =>
      refine ⟨_, _, rfl, gSem_mono (h1.run G H σ m as _ _ _ ok r1 q) fun σ1 H1 ⟨b1, G1, m1, as1, st1, ok1, q1⟩ => ?_⟩
      exact gsSem_mono (h2.run G1 H1 σ1 m1 as1 _ _ Q ok1 (SvA.mono st1.g st1.pre r2) q1) fun σ2 H2 ⟨b2, h⟩ => ⟨b1.trans b2, On.from st1 h⟩)⟩
/-- (a, b, ..) = a tuple, a list of that length -/
def gT (n : Nat) (t : Gs1) : G1 := fun x m Q => one? (sq m.s x) fun p => p.2.length = n ∧ t p.2 m Q
theorem pg_both {es : List Expr} {k : Nat} {n : Nat} {t : TGs} (hc : X.calm = true) (h : PGs X es t) (hn : (assignEach es X.env).length = n) (hst : (assignEach es X.env).findIdx? (·.1) = none) {v : V} {σ : L2.St} {H : Hp} {Q : L2.St → Hp → Prop}
    (q : ∃ a xs, v = .ref a ∧ (SqL X.K H a xs ∨ SqT X.K H a xs) ∧ xs.length = n ∧ t xs σ H Q) : gSem X (.Tuple es k pos) v σ H Q := by
  obtain ⟨a, xs, e, h1, h2, h3⟩ := q
  rcases h1 with h1 | h1
  · exact gSem_of (pg_unl hc h hn hst) ⟨a, xs, e, h1, h2, h3⟩
  · exact gSem_of (pg_tup hc h hn hst) ⟨a, xs, e, h1, h2, h3⟩
theorem dg_tup {es : List Expr} {is : List Nat} {k : Nat} {t : Gs1} {n : Nat} (hc : X.calm = true) (h : DGs X es is t) (hn : (assignEach es X.env).length = n := by rfl) (hst : (assignEach es X.env).findIdx? (·.1) = none := by rfl) : DG X (.Tuple es k pos) is (gT n t) :=
  ⟨fun G H σ m as v x Q ok r q => by
    obtain ⟨⟨b, xs⟩, e, hl, q1⟩ := one_cases q
    obtain ⟨a, vs, ev, h1, h2⟩ := sq_ok ok r e
    exact pg_both hc (pgs_sem X es) hn hst ⟨a, vs, ev, sqB_any h1, by rw [sva_len h2]; exact hl, h.run G H σ m as vs xs Q ok h2 q1⟩⟩
def sAsg (te : E1) (g : G1) : S1 := fun D m => te m fun x m1 => g x m1 D.nx
theorem ds_asg {tg : Expr} {is : List Nat} {g : G1} (he : DE X e te) (hg : DG X tg is g) (hs : swapsWithSole [tg] e pos.line X.env = pure false := by rfl) (hw : swappedStores [tg] e X.env = pure none := by rfl)
    (h1 : (assignEach [tg] X.env).map (·.2) = [assign tg X.env] := by rfl) : DS X (.Assign [tg] e pos) (sAsg te g) := ⟨fun G H σ m as D ok q => sSem_of (ps_asg (pe_sem X e) (pg_sem X tg) hs hw h1) (by
  refine tSem_mono (he.run G H σ m as _ ok q) fun v H1 ⟨G1, m1, as1, x, st1, ok1, r1, q1⟩ => ?_
  exact gSem_mono (hg.run G1 H1 σ m1 as1 v x _ ok1 r1 q1) fun σ2 H2 ⟨_, h⟩ => On.from st1 h)⟩
theorem ds_set {i : Nat} {x : Str} {pos' : Pos} (hN : X.N.Nodup) (hi : X.N[i]? = some x) (hx : Loc X.env.scope x) (he : DE X e te) (hs : swapsWith e (some (.Name x pos')) pos.line X.env = pure false := by rfl) (hf : X.fn x = true ∨ X.env.scope.names.lookup x = some .local := by first | exact .inl rfl | exact .inr rfl | assumption) :
    DS X (.Assign [.Name x pos'] e pos) (sAsg te (gN i)) := ⟨fun G H σ m as D ok q => sSem_of (ps_set hN hi hx (pe_sem X e) hs hf) (by
  refine tSem_mono (he.run G H σ m as _ ok q) fun v H1 ⟨G1, m1, as1, x, st1, ok1, r1, q1⟩ => ?_
  exact ⟨G1, m1.setE i x, as1, st1, ok1.slot r1, q1⟩)⟩
/-- a, b = x, y stored without a tuple -/
def sPar (i j : Nat) (ta : A1) : S1 := fun D m => ta m fun xs m1 => match xs with
  | [x, y] => D.nx ((m1.setE i x).setE j y)
  | _ => False
theorem ds_par {i j : Nat} {x y : Str} {a b : Expr} {ta : A1} {px py pt : Pos} {kt k2 pt2} (hc : X.calm = true) (hN : X.N.Nodup) (hi : X.N[i]? = some x) (hj : X.N[j]? = some y) (hij : i ≠ j)
    (hx : X.env.scope.names.lookup x = some .local) (hy : X.env.scope.names.lookup y = some .local) (ha : DA X [a, b] ta)
    (hw : swappedStores [.Tuple [.Name x px, .Name y py] kt pt] (.Tuple [a, b] k2 pt2) X.env = pure (some [x, y]))
    (hs : swapsWithSole [.Tuple [.Name x px, .Name y py] kt pt] (.Tuple [a, b] k2 pt2) pos.line X.env = pure false := by rfl) :
    DS X (.Assign [.Tuple [.Name x px, .Name y py] kt pt] (.Tuple [a, b] k2 pt2) pos) (sPar i j ta) := ⟨fun G H σ m as D ok q => sSem_of (ps_par hc hN hi hj hij hx hy (pa_sem X [a, b]) hw hs) (by
  refine aSem_mono (ha.run G H σ m as _ ok q) fun vs H1 ⟨G1, m1, as1, xs, st1, ok1, r1, q1⟩ => ?_
  match xs, r1, q1 with
  | [x, y], r1, q1 =>
    obtain ⟨v, w, rfl, r2, r3⟩ := sva2 r1
    exact ⟨v, w, rfl, G1, (m1.setE i x).setE j y, as1, st1, (ok1.slot r2).slot r3, q1⟩)⟩
/-- name += e of numbers, texts -/
def sAug (i : Nat) (te : E1) (o : O2) : S1 := fun D m => eV i m fun x m0 => te m0 fun y m1 => o x y m1 fun z m2 => D.nx (m2.setE i z)
end
end Sy
namespace Sy
open PySem PySem.Spec PyProof.Rows L2
/-! ### what is behind the n-th cell is let go -/
def cutv (n : Nat) (S : List Cell) : Sv → Sv
  | .no => .no
  | .d x => .d x
  | .r k => if k < n then .r k else match S[k]? with
    | some (.fz d) => .d d
    | _ => .no
def cutc (n : Nat) (S : List Cell) : Cell → Cell
  | .gone => .gone
  | .fz d => .fz d
  | .ls xs => .ls (xs.map (cutv n S))
  | .tp xs => .tp (xs.map (cutv n S))
  | .di xs => .di (xs.map fun p => (p.1, cutv n S p.2))
  | .ob C xs => .ob C (xs.map fun p => (p.1, cutv n S p.2))
  | .dl j => if j < n then .dl j else .gone
  | .hid => .hid
def Ms.cut (n : Nat) (m : Ms) : Ms := ⟨m.e.map (cutv n m.s), (m.s.take n).map (cutc n m.s)⟩
section
variable {K : PySem.W.Frag} {σ : L2.St} {G H G0 H0 : Hp} {m m0 : Ms} {as as0 : List Addr}
theorem take_get {α : Type} {l : List α} {n k : Nat} {x : α} (h : l[k]? = some x) (hk : k < n) : (l.take n)[k]? = some x := by
  rw [List.getElem?_take_of_lt hk]; exact h
theorem of_take {α : Type} {l : List α} {n k : Nat} {x : α} (h : (l.take n)[k]? = some x) : k < n ∧ l[k]? = some x := by
  have hl := (List.getElem?_eq_some_iff.mp h).1
  rw [List.length_take] at hl
  have hk : k < n := by omega
  rw [List.getElem?_take_of_lt hk] at h
  exact ⟨hk, h⟩
theorem cutv_ok (ok : Ok K G H σ m as) {n : Nat} {v : V} {x : Sv} (r : SvR K G as v x) : SvR K G (as.take n) v (cutv n m.s x) := by
  cases r with
  | no => exact .no _
  | d h => exact .d h
  | @r a k h =>
    unfold cutv
    dsimp only
    by_cases hk : k < n
    · rw [if_pos hk]; exact .r (take_get h hk)
    · rw [if_neg hk]
      cases e : m.s[k]? with
      | none => exact .no _
      | some c =>
        have q := ok.ce k c a e h
        cases q with
        | fz q => exact .d q
        | gone => exact .no _
        | ls _ _ => exact .no _
        | tp _ _ => exact .no _
        | di _ _ => exact .no _
        | ob _ _ => exact .no _
        | dl _ _ _ _ _ => exact .no _
        | hid _ _ => exact .no _
theorem paired_map {α β γ : Type} {F : α → β → Prop} {F' : α → γ → Prop} {f : β → γ} (k : ∀ a b, F a b → F' a (f b)) : ∀ {xs : List α} {ys : List β}, Paired F xs ys → Paired F' xs (ys.map f)
  | _, _, .nil => .nil
  | _, _, .cons r t => .cons (k _ _ r) (paired_map k t)
theorem cutc_live {n : Nat} {S : List Cell} {c : Cell} (h : (cutc n S c).live = true) : c.live = true := by
  cases c <;> first | rfl | exact h
theorem Ok.cut (ok : Ok K G H σ m as) (n : Nat) : Ok K G H σ (m.cut n) (as.take n) := by
  refine ⟨ok.same, ?_, ?_, fun i j a h1 h2 => ok.nd i j a (of_take h1).2 (of_take h2).2, fun k a h => ok.alive k a (of_take h).2, fun a h => ?_, fun i x h => ?_, fun k c a h h' => ?_⟩
  · show _ = ((m.s.take n).map _).length
    rw [List.length_map, List.length_take, List.length_take, ok.len]
  · show (m.e.map _).length ≤ _
    rw [List.length_map]; exact ok.el
  · obtain ⟨k, c, h1, h2, h3⟩ := h
    have h1 : ((m.s.take n).map (cutc n m.s))[k]? = some c := h1
    rw [List.getElem?_map] at h1
    obtain ⟨c0, e, rfl⟩ := Option.map_eq_some_iff.mp h1
    exact ok.out a ⟨k, c0, (of_take e).2, (of_take h2).2, cutc_live h3⟩
  · have h : (m.e.map (cutv n m.s))[i]? = some x := h
    rw [List.getElem?_map] at h
    obtain ⟨x0, e, rfl⟩ := Option.map_eq_some_iff.mp h
    rcases ok.sv i x0 e with z | ⟨v, z, r⟩
    · subst z; exact .inl rfl
    · exact .inr ⟨v, z, cutv_ok ok r⟩
  · have h : ((m.s.take n).map (cutc n m.s))[k]? = some c := h
    rw [List.getElem?_map] at h
    obtain ⟨c0, e, rfl⟩ := Option.map_eq_some_iff.mp h
    have q := ok.ce k c0 a (of_take e).2 (of_take h').2
    cases q with
    | gone => exact .gone
    | fz q => exact .fz q
    | ls q t => exact .ls q (paired_map (fun _ _ r => cutv_ok ok r) t)
    | tp q t => exact .tp q (paired_map (fun _ _ r => cutv_ok ok r) t)
    | di q t => exact .di q (paired_map (fun _ _ r => ⟨r.1, cutv_ok ok r.2⟩) t)
    | ob q t => exact .ob q (paired_map (fun _ _ r => ⟨r.1, cutv_ok ok r.2⟩) t)
    | @dl j l sd nm q1 q2 q3 q4 q5 =>
      unfold cutc
      dsimp only
      by_cases hj : j < n
      · rw [if_pos hj]; exact .dl (take_get q1 hj) q2 q3 q4 q5
      · rw [if_neg hj]; exact .gone
    | hid q t => exact .hid q t
theorem Step.cut (st : Step G0 H0 m0.s as0 G H m.s as) {n : Nat} (hn : as0.length ≤ n) : Step G0 H0 m0.s as0 G H (m.cut n).s (as.take n) := by
  refine ⟨st.g, st.dom, st.fr, fun k a h => take_get (st.pre k a h) (Nat.lt_of_lt_of_le (List.getElem?_eq_some_iff.mp h).1 hn), fun k a h hk => st.new k a (of_take h).2 hk, fun k c h hl hk => ?_, st.gd⟩
  have h : ((m.s.take n).map (cutc n m.s))[k]? = some c := h
  rw [List.getElem?_map] at h
  obtain ⟨c0, e, rfl⟩ := Option.map_eq_some_iff.mp h
  exact st.liv k c0 (of_take e).2 (cutc_live hl) hk
end
/-! ### what is walked -/
def iSemT (X : Cx) (tg iter : Expr) : TI := fun σ H R => ∀ (pins : List (Addr × Obj)) (s : Shared), Inv X pins σ H s →
  wpAny (model X.prog X.w) X.A (eval iter X.env) (fun v s1 => wpAny (model X.prog X.w) X.A (pyIter v) (PIE X pins σ tg R) X.xe s1) X.xe s
theorem pi_sem (X : Cx) (tg iter : Expr) : PI X tg iter (iSemT X tg iter) := ⟨fun pins s _ _ _ I h => h pins s I⟩
theorem iSemT_of {X : Cx} {tg iter : Expr} {t : TI} (h : PI X tg iter t) {σ : L2.St} {H : Hp} {R : It → Hp → Prop} (q : t σ H R) : iSemT X tg iter σ H R := fun pins s I => h.run pins s σ H R I q
structure ItD (K : PySem.W.Frag) (J : It) (xs : List Sv) (cond : List Cell → Prop) (G0 : Hp) (as0 : List Addr) : Prop where
  go : ∀ (i : Nat) (x : Sv) (G H : Hp) (σ : L2.St) (m : Ms) (as : List Addr), xs[i]? = some x → Same G0 G → Pre as0 as → Ok K G H σ m as → cond m.s →
    J.go i H ∧ ∀ v H', J.yld i H v H' → ∃ G', Step G H m.s as G' H' m.s as ∧ Ok K G' H' σ m as ∧ SvR K G' as v x
  stop : ∀ (G H : Hp) (σ : L2.St) (m : Ms) (as : List Addr), Same G0 G → Pre as0 as → Ok K G H σ m as → cond m.s → J.stop xs.length H
abbrev I1 := Ms → (List Sv → (List Cell → Prop) → Ms → Prop) → Prop
structure DI (X : Cx) (tg iter : Expr) (ti : I1) : Prop where
  run : ∀ (G H : Hp) (σ : L2.St) (m : Ms) (as : List Addr) (R : List Sv → (List Cell → Prop) → Ms → Prop), Ok X.K G H σ m as → ti m R →
    iSemT X tg iter σ H (fun J H' => ∃ G' m' as' xs cond, Step G H m.s as G' H' m'.s as' ∧ Ok X.K G' H' σ m' as' ∧ ItD X.K J xs cond G' as' ∧ R xs cond m')
section
variable {X : Cx} {tg iter e : Expr} {te : E1} {pos : Pos} {pins : List (Addr × Obj)} {σ : L2.St} {H : Hp} {s : Shared} {R : It → Hp → Prop} {a : Addr} {vs : List V}
/-- a new object of the machine's own is laid: all that stood is there -/
theorem Inv.push {o : Obj} (I : Inv X pins σ H s) : Inv X pins σ H { s with heap := s.heap.push o } :=
  I.kept (t' := s.toks) fun _ _ q => Heap.get?_push_of_some o q
theorem fp_last (I : Inv X pins σ H s) {b : Addr} (hb : b ∈ [s.heap.objs.size]) : FpOk X pins H b := by
  rw [List.mem_singleton.mp hb]
  exact I.fpOk (Nat.le_refl _) (I.hok.fresh (Nat.le_refl _))
theorem iter_list (I : Inv X pins σ H s) (h : SqL X.K H a vs) (q : R (Itl X.K a) H) : wpAny (model X.prog X.w) X.A (pyIter (.ref a)) (PIE X pins σ tg R) X.xe s := by
  obtain ⟨us, _, p, _⟩ := I.list h
  exact wpAny_pyIter_list p.isList ⟨_, [_], _, _, H, rfl, Inv.push I, turn_list a _, ⟨_, Heap.get?_push_size _ rfl, rfl, rfl⟩, fun b hb => fp_last I hb, q⟩
theorem iter_tup (I : Inv X pins σ H s) (h : SqT X.K H a vs) (q : R (Itt X.K a) H) : wpAny (model X.prog X.w) X.A (pyIter (.ref a)) (PIE X pins σ tg R) X.xe s := by
  obtain ⟨us, _, p, _⟩ := I.tuple h
  exact wpAny_pyIter_tuple (show s.heap.IsTuple a us.toArray from p) ⟨_, [_], _, _, H, rfl, Inv.push I, turn_tuple a _, ⟨_, Heap.get?_push_size _ rfl, rfl, rfl⟩, fun b hb => fp_last I hb, q⟩
/-- what walks a list, a tuple at a -/
def Itb (K : PySem.W.Frag) (b : Sk) (a : Addr) : It := match b with
  | .t => Itt K a
  | _ => Itl K a
theorem iter_sq {b : Sk} (I : Inv X pins σ H s) (h : SqB X.K H b a vs) (q : R (Itb X.K b a) H) : wpAny (model X.prog X.w) X.A (pyIter (.ref a)) (PIE X pins σ tg R) X.xe s := by
  cases b with
  | l => exact iter_list I (SqL.of h) q
  | s => exact iter_list I h q
  | t => exact iter_tup I h q
theorem sqL_unique {K : PySem.W.Frag} {P : Program} {w : World} {h : Heap} (ok : HOk P w H h) : True := trivial
/-- an item of related rows -/
theorem sva_get {K : PySem.W.Frag} {G : Hp} {as : List Addr} : ∀ {vs : List V} {xs : List Sv} {i : Nat} {x : Sv}, SvA K G as vs xs → xs[i]? = some x → ∃ v, vs[i]? = some v ∧ SvR K G as v x
  | _, _, i, x, .nil, e => by cases e
  | _, _, 0, x, .cons q t, e => by cases e; exact ⟨_, rfl, q⟩
  | _, _, i + 1, x, .cons q t, e => sva_get (i := i) (x := x) (show SvA K G as _ _ from t) e
theorem itD_sq {K : PySem.W.Frag} {b : Sk} {a : Addr} {x : Sv} {xs : List Sv} {G0 : Hp} {as0 : List Addr} (r : SvR K G0 as0 (.ref a) x) : ItD K (Itb K b a) xs (fun S => sq S x = some (b, xs)) G0 as0 where
  go := fun i y G H σ m as hi sg pr ok hc => by
    obtain ⟨a', vs, e, h1, h2⟩ := sq_ok ok (r.mono sg pr) hc
    cases e
    obtain ⟨v, e1, r1⟩ := sva_get h2 hi
    cases b with
    | l =>
      refine ⟨⟨vs, v, SqL.of h1, e1⟩, fun w H' ⟨eH, hw⟩ => ?_⟩
      subst eH
      have ew := hw vs (SqL.of h1)
      rw [e1] at ew; cases ew
      exact ⟨G, Step.refl .., ok, r1⟩
    | s =>
      refine ⟨⟨vs, v, h1, e1⟩, fun w H' ⟨eH, hw⟩ => ?_⟩
      subst eH
      have ew := hw vs h1
      rw [e1] at ew; cases ew
      exact ⟨G, Step.refl .., ok, r1⟩
    | t =>
      refine ⟨⟨vs, v, h1, e1⟩, fun w H' ⟨eH, hw⟩ => ?_⟩
      subst eH
      have ew := hw vs h1
      rw [e1] at ew; cases ew
      exact ⟨G, Step.refl .., ok, r1⟩
  stop := fun G H σ m as sg pr ok hc => by
    obtain ⟨a', vs, e, h1, h2⟩ := sq_ok ok (r.mono sg pr) hc
    cases e
    have hl : vs.length ≤ xs.length := Nat.le_of_eq (sva_len h2)
    cases b with
    | l => exact ⟨vs, SqL.of h1, hl⟩
    | s => exact ⟨vs, h1, hl⟩
    | t => exact ⟨vs, h1, hl⟩
/-- a text, sign by sign -/
def signs (a : Str) : List Sv := a.cps.toList.map fun c => .d (.str ⟨#[c]⟩)
theorem itD_str {K : PySem.W.Frag} {a : Str} {G0 : Hp} {as0 : List Addr} : ItD K (Its a) (signs a) (fun _ => True) G0 as0 where
  go := fun i y G H σ m as hi sg pr ok hc => by
    unfold signs at hi
    rw [List.getElem?_map] at hi
    obtain ⟨c, e, rfl⟩ := Option.map_eq_some_iff.mp hi
    have hs : a.cps[i]? = some c := by rw [← e]; simp
    refine ⟨(Array.getElem?_eq_some_iff.mp hs).1, fun w H' ⟨eH, c', h1, h2⟩ => ?_⟩
    subst eH
    rw [hs] at h1; cases h1
    rw [h2]
    exact ⟨G, Step.refl .., ok, .d (.str _)⟩
  stop := fun G H σ m as sg pr ok hc => by
    show a.cps.size ≤ _
    unfold signs
    rw [List.length_map, Array.length_toList]
    exact Nat.le_refl _
theorem iter_str {z : Str} {t : Tok} (I : Inv X pins σ H s) (q : R (Its z) H) : wpAny (model X.prog X.w) X.A (pyIter (.str z t)) (PIE X pins σ tg R) X.xe s := by
  have hty : strIterType z = "str_ascii_iterator" ∨ strIterType z = "str_iterator" := by
    unfold strIterType
    split
    · exact .inl rfl
    · exact .inr rfl
  exact wpAny_pyIter_strU ⟨_, [_], _, _, H, rfl, Inv.push I, turn_str _ z t _ hty, ⟨_, Heap.get?_push_size _ rfl, rfl, rfl⟩, fun b hb => fp_last I hb, q⟩
/-- a list, a tuple (it stands as it stood at each turn), a text -/
def iSeq (te : E1) : I1 := fun m R => te m fun x m1 => match x.str? with
  | some a => R (signs a) (fun _ => True) m1
  | none => one? (sq m1.s x) fun p => R p.2 (fun S => sq S x = some p) m1
theorem di_seq (he : DE X e te) : DI X tg e (iSeq te) := ⟨fun G H σ m as R ok q pins s I => by
  refine thn (he.run G H σ m as _ ok q pins s I) fun v s1 ⟨x, H1, I1, r1, G1, m1, as1, y, st1, ok1, sv, q1⟩ => ?_
  cases e1 : y.str? with
  | some a =>
    simp only [e1] at q1
    rw [Sv.str_eq e1] at sv
    cases sv_str sv
    obtain ⟨t, rfl⟩ := r1
    exact iter_str I1 ⟨G1, m1, as1, _, _, st1, ok1, itD_str, q1⟩
  | none =>
    simp only [e1] at q1
    obtain ⟨⟨b, xs⟩, e2, q2⟩ := one_cases q1
    obtain ⟨a, vs, ev, h1, h2⟩ := sq_ok ok1 sv e2
    subst ev
    cases r1
    exact iter_sq I1 h1 ⟨G1, m1, as1, _, _, st1, ok1, itD_sq sv, q2⟩⟩
end
end Sy
namespace Sy
open PySem PySem.Spec PyProof.Rows L2
section
variable {X : Cx} {tg iter e : Expr} {pos : Pos}
theorem iSemT_mono {σ : L2.St} {H : Hp} {R R' : It → Hp → Prop} (h : iSemT X tg iter σ H R) (k : ∀ J H, R J H → R' J H) : iSemT X tg iter σ H R' := fun pins s I =>
  thn (h pins s I) fun _ _ h2 => thn h2 fun _ _ ⟨it, fp, tn, J, H', h1, h2, h3, h4, h5, q⟩ => ⟨it, fp, tn, J, H', h1, h2, h3, h4, h5, k J H' q⟩
/-! ### for, while -/
def sFor (ti : I1) (g : G1) (tb : S1) : S1 := fun D m => ti m fun xs cond m1 => ∃ Iv : Nat → Ms → Prop, Iv 0 m1 ∧
  (∀ (i : Nat) (x : Sv) (m2 : Ms), xs[i]? = some x → Iv i m2 → cond m2.s ∧ g x m2 fun m3 => tb { D with nx := fun m' => Iv (i + 1) (m'.cut m1.s.length), ct := fun m' => Iv (i + 1) (m'.cut m1.s.length), bk := D.nx } m3) ∧
  ∀ m2, Iv xs.length m2 → cond m2.s ∧ D.nx m2
theorem ds_for {is : List Nat} {body : List Stmt} {ti : I1} {g : G1} {tb : S1} (hp : PassesOwn (model X.prog X.w) X.A X.env X.xe) (hc : X.calm = true) (hi : DI X tg iter ti) (hg : DG X tg is g) (hb : DB X body tb)
    (hs : ∀ x, foldedSetIterable iter X.env x = pure x := by intro _; rfl) : DS X (.For tg iter body [] pos) (sFor ti g tb) := ⟨fun G H σ m as D ok q => sSem_of (ps_for hp hc (pi_sem X tg iter) (pg_sem X tg) (pss_sem X body) hs) (by
  refine iSemT_mono (hi.run G H σ m as _ ok q) fun J H1 ⟨G1, m1, as1, xs, cond, st1, ok1, iv, Iv, w0, turn, fin⟩ => ?_
  refine ⟨fun i k σ' H' => k = xs.length - i ∧ i ≤ xs.length ∧ ∃ G2 m2 as2, Step G1 H1 m1.s as1 G2 H' m2.s as2 ∧ Ok X.K G2 H' σ' m2 as2 ∧ Iv i m2, ⟨xs.length, by simp, Nat.zero_le _, G1, m1, as1, Step.refl .., ok1, w0⟩, ?_⟩
  rintro i k σ' H' ⟨rfl, hle, G2, m2, as2, st2, ok2, w2⟩
  by_cases hlt : i < xs.length
  · obtain ⟨c2, t2⟩ := turn i xs[i] m2 (List.getElem?_eq_getElem hlt) w2
    obtain ⟨g1, g2⟩ := iv.go i xs[i] G2 H' σ' m2 as2 (List.getElem?_eq_getElem hlt) st2.g st2.pre ok2 c2
    refine .inr ⟨g1, fun σ3 H3 => ∃ G3 m3 as3, Step G1 H1 m1.s as1 G3 H3 m3.s as3 ∧ Ok X.K G3 H3 σ3 m3 as3 ∧ Iv (i + 1) m3, fun σ3 H3 h3 => ⟨xs.length - (i + 1), by omega, rfl, hlt, h3⟩, fun v H3 hy => ?_⟩
    obtain ⟨G3, st3, ok3, sv⟩ := g2 v H3 hy
    have st23 := st2.trans st3
    refine gSem_mono (hg.run G3 H3 σ' m2 as2 v _ _ ok3 sv t2) fun σ4 H4 ⟨_, G4, m4, as4, st4, ok4, q4⟩ => ?_
    have st24 := st23.trans st4
    have nxt : ∀ σ5 H5, On X.K σ5 G4 H4 m4 as4 (fun m' => Iv (i + 1) (m'.cut m1.s.length)) H5 → ∃ G3 m3 as3, Step G1 H1 m1.s as1 G3 H5 m3.s as3 ∧ Ok X.K G3 H5 σ5 m3 as3 ∧ Iv (i + 1) m3 := fun σ5 H5 ⟨G5, m5, as5, st5, ok5, q5⟩ =>
      ⟨G5, m5.cut m1.s.length, as5.take m1.s.length, (st24.trans st5).cut (Nat.le_of_eq ok1.len), ok5.cut _, q5⟩
    refine bSem_mono (hb.run G4 H4 σ4 m4 as4 _ ok4 q4) nxt (fun v' H5 ⟨σ5, h⟩ => ⟨σ5, OnV.from (st1.trans st24) h⟩) (fun σ5 H5 h => On.from (st1.trans st24) h) nxt
  · have e : i = xs.length := by omega
    subst e
    obtain ⟨c2, q2⟩ := fin m2 w2
    exact .inl ⟨iv.stop G2 H' σ' m2 as2 st2.g st2.pre ok2 c2, G2, m2, as2, st1.trans st2, ok2, q2⟩)⟩
def sWhile (tc : T1) (tb : S1) : S1 := fun D m => ∃ Iv : Nat → Ms → Prop, (∃ k, Iv k m) ∧ ∀ k m2, Iv k m2 → tc m2 fun b m3 => IfB b
    (tb { D with nx := fun m' => ∃ k', k' < k ∧ Iv k' (m'.cut m.s.length), ct := fun m' => ∃ k', k' < k ∧ Iv k' (m'.cut m.s.length), bk := D.nx } m3) (D.nx m3)
theorem ds_while {c : Expr} {body : List Stmt} {tc : T1} {tb : S1} (hp : PassesOwn (model X.prog X.w) X.A X.env X.xe) (hc : DT X c tc) (hb : DB X body tb) : DS X (.While c body [] pos) (sWhile tc tb) := ⟨fun G H σ m as D ok q => sSem_of (ps_while hp (pt_sem X c) (pss_sem X body)) (by
  obtain ⟨Iv, ⟨k0, w0⟩, turn⟩ := q
  refine ⟨fun k σ' H' => ∃ G2 m2 as2, Step G H m.s as G2 H' m2.s as2 ∧ Ok X.K G2 H' σ' m2 as2 ∧ Iv k m2, ⟨k0, G, m, as, Step.refl .., ok, w0⟩, ?_⟩
  rintro k σ' H' ⟨G2, m2, as2, st2, ok2, w2⟩
  refine qSem_mono (hc.run G2 H' σ' m2 as2 _ ok2 (turn k m2 w2)) fun b H3 ⟨G3, m3, as3, st3, ok3, q3⟩ => ?_
  have st23 := st2.trans st3
  cases b with
  | false => exact iteF ⟨G3, m3, as3, st23, ok3, IfB.ff q3⟩
  | true =>
    refine iteT ⟨fun σ4 H4 => ∃ k', k' < k ∧ ∃ G2 m2 as2, Step G H m.s as G2 H4 m2.s as2 ∧ Ok X.K G2 H4 σ4 m2 as2 ∧ Iv k' m2, fun σ4 H4 h => h, ?_⟩
    have nxt : ∀ σ5 H5, On X.K σ5 G3 H3 m3 as3 (fun m' => ∃ k', k' < k ∧ Iv k' (m'.cut m.s.length)) H5 → ∃ k', k' < k ∧ ∃ G2 m2 as2, Step G H m.s as G2 H5 m2.s as2 ∧ Ok X.K G2 H5 σ5 m2 as2 ∧ Iv k' m2 := fun σ5 H5 ⟨G5, m5, as5, st5, ok5, k', hk, q5⟩ =>
      ⟨k', hk, G5, m5.cut m.s.length, as5.take m.s.length, (st23.trans st5).cut (Nat.le_of_eq ok.len), ok5.cut _, q5⟩
    have q4 : tb { D with nx := fun m' => ∃ k', k' < k ∧ Iv k' (m'.cut m.s.length), ct := fun m' => ∃ k', k' < k ∧ Iv k' (m'.cut m.s.length), bk := D.nx } m3 := IfB.tt q3
    refine bSem_mono (hb.run G3 H3 σ' m3 as3 _ ok3 q4) nxt (fun v' H5 ⟨σ5, h⟩ => ⟨σ5, OnV.from st23 h⟩) (fun σ5 H5 h => On.from st23 h) nxt)⟩
end
/-! ### a value stands still from now on -/
def fzC : Cell → Option D
  | .fz d => some d
  | c => vdc c
/-- frozen: the data, the state behind -/
def fzv (x : Sv) (m : Ms) (Q : D → Ms → Prop) : Prop := match x with
  | .no => False
  | .d d => Q d m
  | .r k => one? (m.s[k]?) fun c => one? (vdc c) fun d => Q d (m.setS k (.fz d))
section
variable {K : PySem.W.Frag} {σ : L2.St} {G H : Hp} {m : Ms} {as : List Addr} {v : V} {x : Sv}
theorem setS_same {k : Nat} {c : Cell} (h : m.s[k]? = some c) : m.setS k c = m := by
  obtain ⟨e, s⟩ := m
  have hl := (List.getElem?_eq_some_iff.mp h).1
  have h2 : s[k] = c := by
    have := List.getElem?_eq_getElem (l := s) (i := k) hl
    rw [this] at h; exact Option.some.inj h
  show Ms.mk e (s.set k c) = Ms.mk e s
  rw [← h2, List.set_getElem_self]
theorem fzv_ok {Q : D → Ms → Prop} (ok : Ok K G H σ m as) (r : SvR K G as v x) (q : fzv x m Q) : ∃ d G' m', Step G H m.s as G' H m'.s as ∧ Ok K G' H σ m' as ∧ Rp K G' v d ∧ Q d m' := by
  cases x with
  | no => exact q.elim
  | d d => exact ⟨d, G, m, Step.refl .., ok, svd r, q⟩
  | r k =>
    obtain ⟨a, ha, rfl⟩ := svr r
    obtain ⟨c, hc, q1⟩ := one_cases q
    obtain ⟨d, hd, q2⟩ := one_cases q1
    have cr := ok.ce k c a hc ha
    have fin : ∀ {o : HO}, c.live = true → H a = some o → Rp K (upd G a o) (.ref a) d → ∃ d' G' m', Step G H m.s as G' H m'.s as ∧ Ok K G' H σ m' as ∧ Rp K G' (.ref a) d' ∧ Q d' m' := fun {o} hl ho hr => by
      obtain ⟨ok', st⟩ := ok.still hc hl ha ho hr
      exact ⟨d, _, _, st, ok', hr, q2⟩
    have sg : ∀ {o : HO}, c.live = true → Same G (upd G a o) := fun {o} hl => same_new (ok.out a ⟨k, c, hc, ha, hl⟩)
    cases cr with
    | gone => cases hd
    | fz z =>
      cases hd
      refine ⟨_, G, m, Step.refl .., ok, z, ?_⟩
      rw [setS_same hc] at q2
      exact q2
    | @ls vs xs z t =>
      obtain ⟨ds, e, rfl⟩ := Option.map_eq_some_iff.mp (show (allD xs).map D.lst = some d from hd)
      exact fin rfl z (.lst upd_same ((allD_ok e t).mono (sg rfl)))
    | @tp vs xs z t =>
      obtain ⟨ds, e, rfl⟩ := Option.map_eq_some_iff.mp (show (allD xs).map D.tup = some d from hd)
      exact fin rfl z (.tup (SqT.of upd_same) ((allD_ok e t).mono (sg rfl)))
    | @di vs xs z t =>
      obtain ⟨ds, e, rfl⟩ := Option.map_eq_some_iff.mp (show (allK xs).map D.dct = some d from hd)
      exact fin rfl z (.dct upd_same ((allK_ok e t).mono (sg rfl)))
    | ob _ _ => cases hd
    | dl _ _ _ _ _ => cases hd
    | hid _ _ => cases hd
end
/-! ### a list made by a comprehension -/
def wipeE (es : List Sv) : List Nat → List Sv
  | [] => es
  | i :: r => (wipeE es r).set i .no
theorem wipe_len {σ : L2.St} : ∀ {vs : List Nat}, (wipe σ vs).length = σ.length
  | [] => rfl
  | i :: r => by unfold wipe; rw [List.length_set, wipe_len]
theorem wipeE_len {es : List Sv} : ∀ {vs : List Nat}, (wipeE es vs).length = es.length
  | [] => rfl
  | i :: r => by unfold wipeE; rw [List.length_set, wipeE_len]
theorem wipeE_get {es : List Sv} {j : Nat} {x : Sv} : ∀ {vs : List Nat}, (wipeE es vs)[j]? = some x → x = .no ∨ (j ∉ vs ∧ es[j]? = some x)
  | [], h => .inr ⟨by simp, h⟩
  | i :: r, h => by
    rcases get_set (show ((wipeE es r).set i .no)[j]? = some x from h) with ⟨hj, h⟩ | ⟨_, e, _⟩
    · rcases wipeE_get h with z | ⟨z1, z2⟩
      · exact .inl z
      · exact .inr ⟨fun z => by rcases List.mem_cons.mp z with z | z; exact hj z; exact z1 z, z2⟩
    · exact .inl e
theorem wipe_out' {σ : L2.St} {j : Nat} : ∀ {vs : List Nat}, j ∉ vs → (wipe σ vs)[j]? = σ[j]?
  | [], _ => rfl
  | i :: r, h => by
    unfold wipe
    rw [List.getElem?_set_ne (fun e => h (by rw [e]; exact List.mem_cons_self))]
    exact wipe_out' fun z => h (List.mem_cons_of_mem _ z)
theorem wipe_in {σ : L2.St} {j : Nat} : ∀ {vs : List Nat}, j ∈ vs → (wipe σ vs)[j]? = if j < σ.length then some none else none
  | i :: r, h => by
    unfold wipe
    by_cases e : i = j
    · subst e
      by_cases hl : i < σ.length
      · rw [if_pos hl, List.getElem?_set_self (by rw [wipe_len]; exact hl)]
      · rw [if_neg hl, List.getElem?_eq_none (by rw [List.length_set, wipe_len]; omega)]
    · rw [List.getElem?_set_ne e]
      rcases List.mem_cons.mp h with z | z
      · exact absurd z.symm e
      · exact wipe_in z
theorem wipe_bt {σ σ' : L2.St} {vs is : List Nat} (h : Bt is (wipe σ vs) σ') (hs : ∀ i ∈ is, i ∈ vs) : wipe σ' vs = wipe σ vs := by
  have hl : σ'.length = σ.length := by rw [h.1, wipe_len]
  refine List.ext_getElem? fun j => ?_
  by_cases hj : j ∈ vs
  · rw [wipe_in hj, wipe_in hj, hl]
  · rw [wipe_out' hj, h.2 j (fun z => hj (hs j z))]
theorem ok_wipe {K : PySem.W.Frag} {G H : Hp} {σ : L2.St} {m : Ms} {as : List Addr} (ok : Ok K G H σ m as) (vs : List Nat) : Ok K G H (wipe σ vs) ⟨wipeE m.e vs, m.s⟩ as :=
  ⟨ok.same, ok.len, by show (wipeE m.e vs).length ≤ _; rw [wipeE_len, wipe_len]; exact ok.el, ok.nd, ok.alive, ok.out, fun i x h => by
    rcases wipeE_get h with z | ⟨z1, z2⟩
    · exact .inl z
    · rcases ok.sv i x z2 with w | ⟨v, w, r⟩
      · exact .inl w
      · exact .inr ⟨v, by rw [wipe_out' z1]; exact w, r⟩, ok.ce⟩
/-- the names again as they were ahead of the block -/
theorem ok_back {K : PySem.W.Frag} {G H G' H' : Hp} {σ σ' : L2.St} {m m' : Ms} {as as' : List Addr} (ok : Ok K G H σ m as) (ok' : Ok K G' H' σ' m' as') (st : Step G H m.s as G' H' m'.s as') : Ok K G' H' σ ⟨m.e, m'.s⟩ as' :=
  ⟨ok'.same, ok'.len, ok.el, ok'.nd, ok'.alive, ok'.out, fun i x h => (ok.sv i x h).mono st.g st.pre, ok'.ce⟩
/-- a test of a comprehension -/
def tsSem (X : Cx) (ifs : List Expr) : TT := fun σ H Q => ∃ (u : TT) (Q0 : Bool → Hp → Prop), PTs X ifs u ∧ u σ H Q0 ∧ ∀ b H', Q0 b H' → Q b H'
theorem pts_sem (X : Cx) (ifs : List Expr) : PTs X ifs (tsSem X ifs) := ⟨fun pins s σ H Q I ⟨_, _, h, q, k⟩ => thn (h.run pins s σ H _ I q) fun _ _ ⟨H', I', q'⟩ => ⟨H', I', k _ H' q'⟩⟩
theorem tsSem_mono {X : Cx} {ifs : List Expr} {σ : L2.St} {H : Hp} {Q Q' : Bool → Hp → Prop} (h : tsSem X ifs σ H Q) (k : ∀ b H', Q b H' → Q' b H') : tsSem X ifs σ H Q' := by
  obtain ⟨u, Q0, h1, h2, h3⟩ := h
  exact ⟨u, Q0, h1, h2, fun b H' q => k b H' (h3 b H' q)⟩
structure DTs (X : Cx) (ifs : List Expr) (t : T1) : Prop where
  run : ∀ (G H : Hp) (σ : L2.St) (m : Ms) (as : List Addr) (Q : Bool → Ms → Prop), Ok X.K G H σ m as → t m Q → tsSem X ifs σ H (fun b => On X.K σ G H m as (Q b))
def qYes : T1 := fun m Q => Q true m
theorem dts_nil {X : Cx} : DTs X [] qYes := ⟨fun G H σ m as Q ok q => ⟨tYes, fun b => On X.K σ G H m as (Q b), pts_nil, On.here ok q, fun _ _ h => h⟩⟩
theorem dts_one {X : Cx} {c : Expr} {t : T1} (h : DT X c t) : DTs X [c] t := ⟨fun G H σ m as Q ok q => ⟨_, _, pts_one (pt_sem X c), h.run G H σ m as Q ok q, fun _ _ h => h⟩⟩
/-- the list made so far stands in the cell n; what is made in a turn is let go behind it -/
def eLc (ti : I1) (g : G1) (tt : T1) (te : E1) (own : List Nat) : E1 := fun m Q => ti m fun xs cond m1 => ∃ Iv : Nat → List D → List Cell → Prop, Iv 0 [] m1.s ∧
  (∀ (i : Nat) (x : Sv) (acc : List D) (S : List Cell), xs[i]? = some x → Iv i acc S → S.length = m1.s.length → cond (S ++ [.ls (acc.map .d)]) ∧ g x ⟨wipeE m1.e own, S ++ [.ls (acc.map .d)]⟩ fun m3 => tt m3 fun b m4 => IfB b
      (te m4 fun y m5 => fzv y m5 fun d m6 => acc.length < sizeLine ∧ m6.s[m1.s.length]? = some (.ls (acc.map .d)) ∧ Iv (i + 1) (acc ++ [d]) ((m6.cut (m1.s.length + 1)).s.take m1.s.length))
    (m4.s[m1.s.length]? = some (.ls (acc.map .d)) ∧ Iv (i + 1) acc ((m4.cut (m1.s.length + 1)).s.take m1.s.length))) ∧
  ∀ acc S, Iv xs.length acc S → S.length = m1.s.length → cond (S ++ [.ls (acc.map .d)]) ∧ Q (.r m1.s.length) ⟨m1.e, S ++ [.ls (acc.map .d)]⟩
section
variable {X : Cx} {tg iter elt : Expr} {ifs : List Expr} {pos : Pos} {scope : Scope} {own : List (Str × Nat)} {ti : I1} {g : G1} {tt : T1} {te : E1} {is : List Nat}
theorem dm_take {c : Cell} {S : List Cell} {n : Nat} (hl : S.length = n + 1) (h : S[n]? = some c) : S = S.take n ++ [c] := by
  have e : S.drop n = [c] := by
    have h1 : (S.drop n).length = 1 := by rw [List.length_drop, hl]; omega
    match q : S.drop n with
    | [] => rw [q] at h1; cases h1
    | [y] =>
      have : (S.drop n)[0]? = some c := by rw [List.getElem?_drop]; simpa using h
      rw [q] at this
      simpa using this
    | _ :: _ :: _ => rw [q] at h1; simp at h1
  rw [← e, List.take_append_drop]
theorem cutv_allD {n : Nat} {S : List Cell} (acc : List D) : (acc.map Sv.d).map (cutv n S) = acc.map Sv.d := by
  rw [List.map_map]
  rfl
theorem cut_at {n : Nat} {m : Ms} {acc : List D} (h : m.s[n]? = some (.ls (acc.map .d))) : (m.cut (n + 1)).s[n]? = some (.ls (acc.map .d)) ∧ (m.cut (n + 1)).s.length = n + 1 := by
  have hl := (List.getElem?_eq_some_iff.mp h).1
  refine ⟨?_, ?_⟩
  · show ((m.s.take (n + 1)).map _)[n]? = _
    rw [List.getElem?_map, take_get h (Nat.lt_succ_self n)]
    show some (Cell.ls ((acc.map Sv.d).map (cutv (n + 1) m.s))) = _
    rw [cutv_allD]
  · show ((m.s.take (n + 1)).map _).length = _
    rw [List.length_map, List.length_take]
    omega
theorem lc_ok {Q : SK} {σ : L2.St} {G H : Hp} {m : Ms} {as : List Addr} (hi : DI X tg iter ti) (his : ∀ i ∈ is, i ∈ own.map (·.2)) {ι : Type} {Y : ι → Cx} (hY : ∀ y, (Y y).K = X.K)
    (hg : ∀ y, DG (Y y) tg is g) (ht : ∀ y, DTs (Y y) ifs tt) (he : ∀ y, DE (Y y) elt te) (ok : Ok X.K G H σ m as) (q : eLc ti g tt te (own.map (·.2)) m Q) :
    tLc (iSemT X tg iter) (fun v σ H Q => ∀ y, gSem (Y y) tg v σ H Q) (fun σ H Q => ∀ y, tsSem (Y y) ifs σ H Q) (fun σ H Q => ∀ y, tSem (Y y) elt σ H Q) (own.map (·.2)) σ H (OnV X.K σ G H m as Q) := by
  refine iSemT_mono (hi.run G H σ m as _ ok q) fun J H1 ⟨G1, m1, as1, xs, cond, st1, ok1, iv, Iv, w0, turn, fin⟩ => ?_
  intro D hD
  -- the new list is a cell
  have hn : as1.length = m1.s.length := ok1.len
  obtain ⟨okD, stD⟩ := ok1.alloc (o := .lst []) (c := .ls []) hD (.ls (vs := []) upd_same .nil)
  have hD1 : (as1 ++ [D])[m1.s.length]? = some D := snoc_get as1 D hn
  refine ⟨fun i k H' => k = xs.length - i ∧ i ≤ xs.length ∧ ∃ G2 σ2 m2 as2 acc S, Step G1 (upd H1 D (.lst [])) (m1.push (.ls [])).s (as1 ++ [D]) G2 H' m2.s as2 ∧ Ok X.K G2 H' σ2 m2 as2 ∧ m2.s = S ++ [.ls (acc.map .d)] ∧ S.length = m1.s.length ∧ Iv i acc S,
    ⟨xs.length, by simp, Nat.zero_le _, G1, σ, m1.push (.ls []), as1 ++ [D], [], m1.s, Step.refl .., okD, rfl, rfl, w0⟩, ?_⟩
  rintro i k H' ⟨rfl, hle, G2, σ2, m2, as2, acc, S, st2, ok2, es, hS, w2⟩
  have st12 := stD.trans st2
  -- the names as they are at each turn's start
  have ok2w : Ok X.K G2 H' (wipe σ (own.map (·.2))) ⟨wipeE m1.e (own.map (·.2)), m2.s⟩ as2 := ok_back (ok_wipe ok1 _) ok2 st12
  have hDa : as2[m1.s.length]? = some D := st2.pre _ _ hD1
  have hlen2 : as2.length = m1.s.length + 1 := by rw [ok2.len, es, List.length_append, hS]; rfl
  by_cases hlt : i < xs.length
  · have hx := List.getElem?_eq_getElem hlt
    rw [es] at ok2w
    obtain ⟨c2, t2⟩ := turn i xs[i] acc S hx w2 hS
    obtain ⟨g1, g2⟩ := iv.go i xs[i] G2 H' _ ⟨wipeE m1.e (own.map (·.2)), S ++ [.ls (acc.map .d)]⟩ as2 hx st12.g st12.pre ok2w c2
    refine .inr ⟨g1, fun H3 => ∃ G2 σ2 m2 as2 acc S, Step G1 (upd H1 D (.lst [])) (m1.push (.ls [])).s (as1 ++ [D]) G2 H3 m2.s as2 ∧ Ok X.K G2 H3 σ2 m2 as2 ∧ m2.s = S ++ [.ls (acc.map .d)] ∧ S.length = m1.s.length ∧ Iv (i + 1) acc S,
      fun H3 h3 => ⟨xs.length - (i + 1), by omega, rfl, hlt, h3⟩, fun v H3 hy => ?_⟩
    obtain ⟨G3, st3, ok3, sv⟩ := g2 v H3 hy
    have st2' : Step G1 (upd H1 D (.lst [])) (m1.push (.ls [])).s (as1 ++ [D]) G2 H' (S ++ [.ls (acc.map .d)]) as2 := by rw [← es]; exact st2
    have st23 := st2'.trans st3
    intro y1
    refine gSem_mono ((hg y1).run G3 H3 (wipe σ (own.map (·.2))) _ as2 v _ _ (by rw [hY]; exact ok3) (by rw [hY]; exact sv) t2) fun σ4 H4 ⟨bt, G4, m4, as4, st4, ok4, q4⟩ => ⟨wipe_bt bt his, ?_⟩
    have st24 := st23.trans st4
    rw [hY] at ok4
    intro y2
    refine tsSem_mono ((ht y2).run G4 H4 σ4 m4 as4 _ (by rw [hY]; exact ok4) q4) fun b H5 ⟨G5, m5, as5, st5, ok5, q5⟩ => ?_
    have st25 := st24.trans st5
    have fin1 : ∀ {G6 H6 : Hp} {m6 : Ms} {as6 : List Addr}, Step G1 (upd H1 D (.lst [])) (m1.push (.ls [])).s (as1 ++ [D]) G6 H6 m6.s as6 → as6[m1.s.length]? = some D := fun st => st.pre _ _ hD1
    have hle1 : (as1 ++ [D]).length ≤ m1.s.length + 1 := by rw [List.length_append, hn]; exact Nat.le_refl _
    cases b with
    | false =>
      refine iteF ?_
      obtain ⟨h1, h2⟩ : m5.s[m1.s.length]? = some (.ls (acc.map .d)) ∧ Iv (i + 1) acc ((m5.cut (m1.s.length + 1)).s.take m1.s.length) := IfB.ff q5
      obtain ⟨e1, e2⟩ := cut_at h1
      have e3 := dm_take e2 e1
      refine ⟨G5, σ4, m5.cut (m1.s.length + 1), as5.take (m1.s.length + 1), acc, _, st25.cut hle1, by rw [← hY y2]; exact ok5.cut _, e3, ?_, h2⟩
      rw [List.length_take, e2]
      omega
    | true =>
      refine iteT ?_
      have q6 : te m5 fun y m5 => fzv y m5 fun d m6 => acc.length < sizeLine ∧ m6.s[m1.s.length]? = some (.ls (acc.map .d)) ∧ Iv (i + 1) (acc ++ [d]) ((m6.cut (m1.s.length + 1)).s.take m1.s.length) := IfB.tt q5
      rw [hY] at ok5
      intro y3
      refine tSem_mono ((he y3).run G5 H5 σ4 m5 as5 _ (by rw [hY]; exact ok5) q6) fun y H6 ⟨G6, m6, as6, z, st6, ok6, sv6, q7⟩ => ?_
      obtain ⟨d, G7, m7, st7, ok7, rp, hz, h1, h2⟩ := fzv_ok ok6 sv6 q7
      have st27 := (st25.trans st6).trans st7
      have ok7 : Ok X.K G7 H6 σ4 m7 as6 := by rw [← hY y3]; exact ok7
      have rp : Rp X.K G7 y d := by rw [← hY y3]; exact rp
      have okc := ok7.cut (m1.s.length + 1)
      have stc := st27.cut (n := m1.s.length + 1) hle1
      obtain ⟨e1, e2⟩ := cut_at h1
      have hDc := fin1 stc
      have cr := okc.ce _ _ _ e1 hDc
      cases cr with
      | @ls vs _ hH sva =>
        have hvl : vs.length = acc.length := by rw [sva_len sva, List.length_map]
        refine ⟨vs, hH, by rw [hvl]; exact hz, ?_⟩
        obtain ⟨ok8, st8⟩ := okc.setc (o := .lst (vs ++ [y])) (c := .ls ((acc ++ [d]).map .d)) e1 rfl hDc (.ls upd_same (by
          rw [List.map_append]
          exact paired_app sva (.cons (.d rp) .nil)))
        refine ⟨G7, σ4, _, _, acc ++ [d], _, stc.trans st8, ok8, ?_, ?_, h2⟩
        · show (m7.cut (m1.s.length + 1)).s.set m1.s.length _ = _
          have e3 := dm_take e2 e1
          have hl : ((m7.cut (m1.s.length + 1)).s.take m1.s.length).length = m1.s.length := by rw [List.length_take, e2]; omega
          conv => lhs; rw [e3]
          rw [List.set_append_right _ _ (by rw [hl]; exact Nat.le_refl _), hl, Nat.sub_self]
          rfl
        · rw [List.length_take, e2]
          omega
  · have e : i = xs.length := by omega
    subst e
    obtain ⟨c2, q2⟩ := fin acc S w2 hS
    have okb := ok_back ok1 ok2 st12
    refine .inl ⟨iv.stop G2 H' σ2 m2 as2 st12.g st12.pre ok2 (by rw [es]; exact c2), ?_⟩
    rw [es] at okb st12
    exact ⟨G2, ⟨m1.e, S ++ [.ls (acc.map .d)]⟩, as2, _, st1.trans st12, okb, .r hDa, q2⟩
theorem de_lc (hc : X.calm = true) (hN : X.N.Nodup) (hi : DI X tg iter ti) (okb : BlkOk X.N X.env.scope scope own) (his : ∀ i ∈ is, i ∈ own.map (·.2))
    (hg : ∀ (s : Shared) (H : Hp) (C : Addr) (cl : List (Str × Addr)) (fp : List Addr), DG (X.blk s H scope (compEnvC scope cl C X.env) fp) tg is g)
    (ht : ∀ (s : Shared) (H : Hp) (C : Addr) (cl : List (Str × Addr)) (fp : List Addr), DTs (X.blk s H scope (compEnvC scope cl C X.env) fp) ifs tt)
    (he : ∀ (s : Shared) (H : Hp) (C : Addr) (cl : List (Str × Addr)) (fp : List Addr), DE (X.blk s H scope (compEnvC scope cl C X.env) fp) elt te)
    (hs : ∀ x, foldedSetIterable iter X.env x = pure x := by intro _; rfl) : DE X (.ListComp elt [⟨tg, iter, ifs, 0⟩] scope pos) (eLc ti g tt te (own.map (·.2))) := ⟨fun G H σ m as Q ok q pins s0 I => by
  let Y : Shared × Hp × Addr × List (Str × Addr) × List Addr → Cx := fun p => X.blk p.1 p.2.1 scope (compEnvC scope p.2.2.2.1 p.2.2.1 X.env) p.2.2.2.2
  refine tSem_of (pe_lc (g := fun v σ H Q => ∀ y, gSem (Y y) tg v σ H Q) (tt := fun σ H Q => ∀ y, tsSem (Y y) ifs σ H Q) (te := fun σ H Q => ∀ y, tSem (Y y) elt σ H Q) hc hN (pi_sem X tg iter) okb ?_ ?_ ?_ hs) ?_ pins s0 I
  · exact fun s H C cl fp => ⟨fun pins s' σ H' v u Q I r h => (pg_sem _ tg).run pins s' σ H' v u Q I r (h (s, H, C, cl, fp))⟩
  · exact fun s H C cl fp => ⟨fun pins s' σ H' Q I h => (pts_sem _ ifs).run pins s' σ H' Q I (h (s, H, C, cl, fp))⟩
  · exact fun s H C cl fp => ⟨fun pins s' σ H' Q I h => (pe_sem _ elt).run pins s' σ H' Q I (h (s, H, C, cl, fp))⟩
  · exact lc_ok hi his (Y := Y) (fun _ => rfl) (fun y => hg _ _ _ _ _) (fun y => ht _ _ _ _ _) (fun y => he _ _ _ _ _) ok q⟩
/-- name = [..] -/
theorem ds_setLc {i : Nat} {y : Str} {py spos : Pos} (hc : X.calm = true) (hN : X.N.Nodup) (hy : X.N[i]? = some y) (hyl : X.env.scope.names.lookup y = some .local)
    (hsw : swapsWith (.ListComp elt [⟨tg, iter, ifs, 0⟩] scope pos) (some (.Name y py)) spos.line X.env = pure true) (hi : DI X tg iter ti) (okb : BlkOk X.N X.env.scope scope own) (his : ∀ i ∈ is, i ∈ own.map (·.2))
    (hg : ∀ (s : Shared) (H : Hp) (C : Addr) (cl : List (Str × Addr)) (fp : List Addr), DG (X.blk s H scope (compEnvC scope cl C X.env) fp) tg is g)
    (ht : ∀ (s : Shared) (H : Hp) (C : Addr) (cl : List (Str × Addr)) (fp : List Addr), DTs (X.blk s H scope (compEnvC scope cl C X.env) fp) ifs tt)
    (he : ∀ (s : Shared) (H : Hp) (C : Addr) (cl : List (Str × Addr)) (fp : List Addr), DE (X.blk s H scope (compEnvC scope cl C X.env) fp) elt te)
    (hs : ∀ x, foldedSetIterable iter X.env x = pure x := by intro _; rfl) : DS X (.Assign [.Name y py] (.ListComp elt [⟨tg, iter, ifs, 0⟩] scope pos) spos) (sAsg (eLc ti g tt te (own.map (·.2))) (gN i)) := ⟨fun G H σ m as D ok q pins s0 I => by
  let Y : Shared × Hp × Addr × List (Str × Addr) × List Addr → Cx := fun p => X.blk p.1 p.2.1 scope (compEnvC scope p.2.2.2.1 p.2.2.1 X.env) p.2.2.2.2
  refine sSem_of (ps_setLc (g := fun v σ H Q => ∀ y, gSem (Y y) tg v σ H Q) (tt := fun σ H Q => ∀ y, tsSem (Y y) ifs σ H Q) (te := fun σ H Q => ∀ y, tSem (Y y) elt σ H Q) hc hN hy hyl hsw (pi_sem X tg iter) okb ?_ ?_ ?_ hs) ?_ pins s0 I
  · exact fun s H C cl fp => ⟨fun pins s' σ H' v u Q I r h => (pg_sem _ tg).run pins s' σ H' v u Q I r (h (s, H, C, cl, fp))⟩
  · exact fun s H C cl fp => ⟨fun pins s' σ H' Q I h => (pts_sem _ ifs).run pins s' σ H' Q I (h (s, H, C, cl, fp))⟩
  · exact fun s H C cl fp => ⟨fun pins s' σ H' Q I h => (pe_sem _ elt).run pins s' σ H' Q I (h (s, H, C, cl, fp))⟩
  · have h := lc_ok hi his (Y := Y) (fun _ => rfl) (fun y => hg _ _ _ _ _) (fun y => ht _ _ _ _ _) (fun y => he _ _ _ _ _) ok q
    refine iSemT_mono h fun J H1 h1 Dl hD => ?_
    obtain ⟨W, w0, t⟩ := h1 Dl hD
    refine ⟨W, w0, fun i' k H' w => ?_⟩
    rcases t i' k H' w with ⟨h2, G2, m2, as2, x, st, ok2, sv, q2⟩ | h2
    · exact .inl ⟨h2, G2, m2.setE i x, as2, st, ok2.slot sv, q2⟩
    · exact .inr h2⟩
end
end Sy
namespace Sy
open PySem PySem.Spec PyProof.Rows L2
/-! ### a def's promise -/
abbrev SC := Sv → List Cell → Prop
abbrev Con := List Sv → List Cell → SC → Prop
def spD (K : PySem.W.Frag) (C : Con) : Sp := fun vs H Q _ => ∃ G as xs S Qc, Ok K G H (vs.map some) ⟨xs, S⟩ as ∧ xs.length = vs.length ∧ C xs S Qc ∧
  ∀ v H' G' as' r S', Step G H S as G' H' S' as' → Ok K G' H' [some v] ⟨[r], S'⟩ as' → Qc r S' → Q v H'
/-- what is handed back: cells of the callers', data, or one new cell -/
def retC (n : Nat) (S : List Cell) (c : Cell) (S' : List Cell) (Q : SC) : Prop := match c with
  | .fz d => Q (.d d) S'
  | .ls xs => Q (.r n) (S' ++ [cutc n S (.ls xs)])
  | .tp xs => Q (.r n) (S' ++ [cutc n S (.tp xs)])
  | .di xs => Q (.r n) (S' ++ [cutc n S (.di xs)])
  | .ob C xs => Q (.r n) (S' ++ [cutc n S (.ob C xs)])
  | _ => False
def retD (n : Nat) (r : Sv) (m : Ms) (Q : SC) : Prop := match r with
  | .no => False
  | .d d => Q (.d d) (m.cut n).s
  | .r k => if k < n then Q (.r k) (m.cut n).s else one? (m.s[k]?) fun c => retC n m.s c (m.cut n).s Q
section
variable {K : PySem.W.Frag} {σ : L2.St} {G H G0 H0 : Hp} {m : Ms} {as as0 : List Addr} {S0 : List Cell} {v : V} {r : Sv}
theorem ok_only (ok : Ok K G H σ m as) (h : SvR K G as v r) : Ok K G H [some v] ⟨[r], m.s⟩ as :=
  ⟨ok.same, ok.len, Nat.le_refl _, ok.nd, ok.alive, ok.out, fun i x e => by
    cases i with
    | zero => cases e; exact .inr ⟨v, rfl, h⟩
    | succ i => (cases e), ok.ce⟩
theorem one_get {α : Type} {x y : α} {i : Nat} (e : [x][i]? = some y) : i = 0 ∧ y = x := by
  cases i with
  | zero => cases e; exact ⟨rfl, rfl⟩
  | succ i => cases e
theorem ret_ok {Q : SC} (ok : Ok K G H σ m as) (st : Step G0 H0 S0 as0 G H m.s as) (h : SvR K G as v r) (q : retD as0.length r m Q) :
    ∃ r' S' as', Step G0 H0 S0 as0 G H S' as' ∧ Ok K G H [some v] ⟨[r'], S'⟩ as' ∧ Q r' S' := by
  have st' := (Step.cut (m0 := ⟨[], S0⟩) st (Nat.le_refl as0.length))
  have ok' := ok.cut as0.length
  cases r with
  | no => exact q.elim
  | d d => exact ⟨_, _, _, st', ok_only ok' (.d (svd h)), q⟩
  | r k =>
    obtain ⟨a, ha, rfl⟩ := svr h
    have q : if k < as0.length then Q (.r k) (m.cut as0.length).s else one? (m.s[k]?) fun c => retC as0.length m.s c (m.cut as0.length).s Q := q
    by_cases hk : k < as0.length
    · rw [if_pos hk] at q
      exact ⟨_, _, _, st', ok_only ok' (.r (take_get ha hk)), q⟩
    · rw [if_neg hk] at q
      obtain ⟨c, hc, q1⟩ := one_cases q
      have cr := ok.ce k c a hc ha
      have hn : (as.take as0.length).length = as0.length := by
        have := (List.getElem?_eq_some_iff.mp ha).1
        rw [List.length_take]; omega
      have pr : Pre (as.take as0.length) (as.take as0.length ++ [a]) := pre_snoc _ a
      have hlS : (m.cut as0.length).s.length = as0.length := by rw [← ok'.len]; exact hn
      -- the new cell as it is handed on
      have fin : c.live = true → CellR K G H (as.take as0.length) a (cutc as0.length m.s c) → Q (.r as0.length) ((m.cut as0.length).s ++ [cutc as0.length m.s c]) →
          ∃ r' S' as', Step G0 H0 S0 as0 G H S' as' ∧ Ok K G H [some (.ref a)] ⟨[r'], S'⟩ as' ∧ Q r' S' := fun hl hcr q2 => by
        refine ⟨_, _, as.take as0.length ++ [a], ⟨st'.g, st'.dom, st'.fr, st'.pre.trans pr, fun j b h1 h2 => ?_, fun j c' h1 h2 h3 => ?_, st'.gd⟩,
          ⟨ok'.same, ?_, Nat.le_refl _, fun i j b h1 h2 => ?_, fun j b h1 => ?_, fun b h1 => ?_, fun i x e => ?_, fun j c' b h1 h2 => ?_⟩, q2⟩
        · rcases get_snoc h1 with h1 | ⟨_, e⟩
          · exact st'.new j b h1 h2
          · rw [e]; exact st.new k a ha (by omega)
        · rcases get_snoc h1 with h1 | ⟨e, _⟩
          · exact st'.liv j c' h1 h2 h3
          · omega
        · show (as.take as0.length ++ [a]).length = ((m.cut as0.length).s ++ [_]).length
          rw [List.length_append, List.length_append, hn, hlS]
          rfl
        · rcases get_snoc h1 with h1 | ⟨e1, e2⟩ <;> rcases get_snoc h2 with h2 | ⟨e3, e4⟩
          · exact ok'.nd i j b h1 h2
          · have := ok.nd i k b (of_take h1).2 (by rw [e4]; exact ha)
            have := (of_take h1).1
            omega
          · have := ok.nd j k b (of_take h2).2 (by rw [e2]; exact ha)
            have := (of_take h2).1
            omega
          · omega
        · rcases get_snoc h1 with h1 | ⟨_, e⟩
          · exact ok'.alive j b h1
          · rw [e]; exact ok.alive k a ha
        · obtain ⟨j, c', h2, h3, h4⟩ := h1
          rcases get_snoc h3 with h3 | ⟨_, e⟩
          · rcases get_snoc (show ((m.cut as0.length).s ++ [_])[j]? = some c' from h2) with h2 | ⟨ej, _⟩
            · exact ok'.out b ⟨j, c', h2, h3, h4⟩
            · have := (of_take h3).1
              omega
          · rw [e]; exact ok.out a ⟨k, c, hc, ha, hl⟩
        · obtain ⟨rfl, rfl⟩ := one_get e
          exact .inr ⟨_, rfl, .r (snoc_get _ a hn)⟩
        · rcases get_snoc (show ((m.cut as0.length).s ++ [_])[j]? = some c' from h1) with h1 | ⟨ej, e⟩
          · rcases get_snoc h2 with h2 | ⟨e2, _⟩
            · exact (ok'.ce j c' b h1 h2).mono (Same.refl G) (fun _ z => z) pr
            · have := (List.getElem?_eq_some_iff.mp h1).1
              omega
          · rcases get_snoc h2 with h2 | ⟨_, e2⟩
            · have := (of_take h2).1
              omega
            · rw [e2, e]; exact hcr.mono (Same.refl G) (fun _ z => z) pr
      cases cr with
      | gone => exact q1.elim
      | fz z => exact ⟨_, _, _, st', ok_only ok' (.d z), q1⟩
      | ls z t => exact fin rfl (.ls z (paired_map (fun _ _ r => cutv_ok ok r) t)) q1
      | tp z t => exact fin rfl (.tp z (paired_map (fun _ _ r => cutv_ok ok r) t)) q1
      | di z t => exact fin rfl (.di z (paired_map (fun _ _ r => ⟨r.1, cutv_ok ok r.2⟩) t)) q1
      | ob z t => exact fin rfl (.ob z (paired_map (fun _ _ r => ⟨r.1, cutv_ok ok r.2⟩) t)) q1
      | dl _ _ _ _ _ => exact q1.elim
      | hid _ _ => exact q1.elim
end
/-- the names of a def at its begin -/
def begE (n : Nat) (xs : List Sv) : List Sv := xs ++ List.replicate (n - xs.length) .no
section
variable {P : Program} {w : World} {K : PySem.W.Frag} {mg : Str → Option Value} {base : Heap}
/-- what is known of the context of a def's body -/
structure Bx (P : Program) (w : World) (K : PySem.W.Frag) (mg : Str → Option Value) (base : Heap) (k : Nat) (N : List Str) (sc : Scope) (qual : Str) (X : Cx) : Prop where
  ex : ∃ (f : Addr) (cdv : Value) (A : Around) (outer : List Env) (s : Shared) (H : Hp) (E : XK), X = (cxOf CX0 P w K mg base N qual sc f cdv A outer s H E).nox ∧ Room k (A.deeper (envOfC qual sc s.heap.objs.size f cdv))
theorem fnD {x qual : Str} {st : Stmt} {f : Addr} {fd : FuncData} {N ps : List Str} {k : Nat} {C : Con} (F : Fun K x qual st f fd) (Sc : FnScope N ps (defScope st)) (hC : ∀ xs S Q, C xs S Q → xs.length = ps.length)
    (hbody : ∀ (cdv : Value) (A : Around) (outer : List Env) (s : Shared) (H : Hp) (E : XK), Room k (A.deeper (envOfC qual (defScope st) s.heap.objs.size f cdv)) → ∀ xs S Q, C xs S Q →
      ∃ t, DB (cxOf CX0 P w K mg base N qual (defScope st) f cdv A outer s H E).nox (defBody st) t ∧ t { nx := fun m => retD S.length (.d .non) m Q, rt := fun r m => retD S.length r m Q } ⟨begE N.length xs, S⟩) :
    FnOk P w K mg base CX0 (k + 1) f fd ps (spD K C) := by
  refine F.ok Sc (fun vs H Q E h => ?_) (fun cdv A outer s H vs Q E hr h => ?_)
  · obtain ⟨G, as, xs, S, Qc, ok, hl, hc, _⟩ := h
    rw [← hl]; exact hC xs S Qc hc
  · obtain ⟨G, as, xs, S, Qc, ok, hl, hc, fin⟩ := h
    obtain ⟨t, ht, q⟩ := hbody cdv A outer s H E hr xs S Qc hc
    refine ⟨_, pss_sem _ _, ?_⟩
    have hpl : ps.length ≤ N.length := by have := congrArg List.length Sc.pre; rw [List.length_take] at this; omega
    have hxl : xs.length = ps.length := hC xs S Qc hc
    have ok0 : Ok K G H (start N vs) ⟨begE N.length xs, S⟩ as := by
      refine ⟨ok.same, ok.len, ?_, ok.nd, ok.alive, ok.out, fun i x e => ?_, ok.ce⟩
      · show (xs ++ List.replicate (N.length - xs.length) Sv.no).length ≤ (vs.map some ++ List.replicate (N.length - vs.length) none).length
        rw [List.length_append, List.length_append, List.length_replicate, List.length_replicate, List.length_map, hl]
        exact Nat.le_refl _
      · have e : (xs ++ List.replicate (N.length - xs.length) Sv.no)[i]? = some x := e
        by_cases hi : i < xs.length
        · rw [List.getElem?_append_left hi] at e
          rcases ok.sv i x e with z | ⟨v, z, r⟩
          · exact .inl z
          · refine .inr ⟨v, ?_, r⟩
            show (vs.map some ++ _)[i]? = _
            rw [List.getElem?_append_left (by rw [List.length_map, ← hl]; exact hi)]
            exact z
        · rw [List.getElem?_append_right (by omega), List.getElem?_replicate] at e
          split at e
          · cases e; exact .inl rfl
          · cases e
    have hS : S.length = as.length := ok.len.symm
    have back : ∀ v H', (∃ σ', OnV K σ' G H ⟨begE N.length xs, S⟩ as (fun r m => retD S.length r m Qc) v H') → Q v H' := fun v H' ⟨σ', G', m', as', r, st, ok', sv, q'⟩ => by
      rw [hS] at q'
      obtain ⟨r', S', as2, st2, ok2, q2⟩ := ret_ok ok' st sv q'
      exact fin v H' G' as2 r' S' st2 ok2 q2
    refine bSem_mono (ht.run G H _ _ as _ ok0 q) (fun σ' H' ⟨G', m', as', st, ok', q'⟩ => ?_) back (fun _ _ ⟨_, _, _, _, _, z⟩ => z.elim) (fun _ _ ⟨_, _, _, _, _, z⟩ => z.elim)
    exact back .non H' ⟨σ', G', m', as', .d .non, st, ok', .d .non, q'⟩
end
/-! ### calls -/
/-- arguments stand still where so told -/
def fzAll : List Bool → List Sv → Ms → (List Sv → Ms → Prop) → Prop
  | true :: bs, x :: xs, m, Q => fzv x m fun d m1 => fzAll bs xs m1 fun ys m2 => Q (.d d :: ys) m2
  | false :: bs, x :: xs, m, Q => fzAll bs xs m fun ys m2 => Q (x :: ys) m2
  | _, xs, m, Q => Q xs m
section
variable {K : PySem.W.Frag} {σ : L2.St} {H : Hp} {as : List Addr}
theorem fzAll_ok : ∀ {bs : List Bool} {xs : List Sv} {vs : List V} {G : Hp} {m : Ms} {Q : List Sv → Ms → Prop}, Ok K G H σ m as → SvA K G as vs xs → fzAll bs xs m Q → ∃ ys G' m', Step G H m.s as G' H m'.s as ∧ Ok K G' H σ m' as ∧ SvA K G' as vs ys ∧ Q ys m'
  | [], xs, vs, G, m, Q, ok, r, q => ⟨xs, G, m, Step.refl .., ok, r, by cases xs <;> exact q⟩
  | true :: bs, [], vs, G, m, Q, ok, r, q => ⟨[], G, m, Step.refl .., ok, r, q⟩
  | false :: bs, [], vs, G, m, Q, ok, r, q => ⟨[], G, m, Step.refl .., ok, r, q⟩
  | true :: bs, x :: xs, _, G, m, Q, ok, .cons r1 r2, q => by
    obtain ⟨d, G1, m1, st1, ok1, rp, q1⟩ := fzv_ok ok r1 q
    obtain ⟨ys, G2, m2, st2, ok2, r3, q2⟩ := fzAll_ok ok1 (SvA.mono st1.g st1.pre r2) q1
    exact ⟨_, G2, m2, st1.trans st2, ok2, .cons (.d (rp.mono st2.g)) r3, q2⟩
  | false :: bs, x :: xs, _, G, m, Q, ok, .cons r1 r2, q => by
    obtain ⟨ys, G2, m2, st2, ok2, r3, q2⟩ := fzAll_ok (bs := bs) ok r2 q
    exact ⟨_, G2, m2, st2, ok2, .cons (r1.mono st2.g st2.pre) r3, q2⟩
end
/-- where j stands in js -/
def ixOf : List Nat → Nat → Option Nat
  | [], _ => none
  | i :: r, j => if i = j then some 0 else (ixOf r j).map (· + 1)
theorem ixOf_get : ∀ {js : List Nat} {j i : Nat}, ixOf js j = some i → js[i]? = some j
  | [], _, _, h => by cases h
  | k :: r, j, i, h => by
    unfold ixOf at h
    by_cases e : k = j
    · rw [if_pos e] at h; cases h; rw [e]; rfl
    · rw [if_neg e] at h
      obtain ⟨i', h1, rfl⟩ := Option.map_eq_some_iff.mp h
      show r[i']? = some j
      exact ixOf_get h1
/-- as a callee sees it, to whom the cells js are lent -/
def lendv (js : List Nat) : Sv → Sv
  | .no => .no
  | .d x => .d x
  | .r k => match ixOf js k with
    | some i => .r i
    | none => .no
def lendc (js : List Nat) : Cell → Cell
  | .gone => .gone
  | .fz d => .fz d
  | .ls xs => .ls (xs.map (lendv js))
  | .tp xs => .tp (xs.map (lendv js))
  | .di xs => .di (xs.map fun p => (p.1, lendv js p.2))
  | .ob C xs => .ob C (xs.map fun p => (p.1, lendv js p.2))
  | .dl j => match ixOf js j with
    | some i => .dl i
    | none => .gone
  | .hid => .hid
/-- and back: a callee's new cells stand behind the n of the caller's -/
def backk (js : List Nat) (n k : Nat) : Nat := match js[k]? with
  | some j => j
  | none => n + (k - js.length)
def backv (js : List Nat) (n : Nat) : Sv → Sv
  | .no => .no
  | .d x => .d x
  | .r k => .r (backk js n k)
def backc (js : List Nat) (n : Nat) : Cell → Cell
  | .gone => .gone
  | .fz d => .fz d
  | .ls xs => .ls (xs.map (backv js n))
  | .tp xs => .tp (xs.map (backv js n))
  | .di xs => .di (xs.map fun p => (p.1, backv js n p.2))
  | .ob C xs => .ob C (xs.map fun p => (p.1, backv js n p.2))
  | .dl j => .dl (backk js n j)
  | .hid => .hid
def putL : List Nat → List Cell → List Cell → List Cell
  | j :: js, S, c :: cs => putL js (S.set j c) cs
  | _, S, _ => S
def mergeS (js : List Nat) (S S' : List Cell) : List Cell := putL js S ((S'.take js.length).map (backc js S.length)) ++ (S'.drop js.length).map (backc js S.length)
theorem putL_len : ∀ {js : List Nat} {S cs : List Cell}, (putL js S cs).length = S.length
  | [], S, cs => by unfold putL; rfl
  | _ :: _, S, [] => by unfold putL; rfl
  | j :: js, S, c :: cs => by unfold putL; rw [putL_len, List.length_set]
theorem putL_out : ∀ {js : List Nat} {S cs : List Cell} {k : Nat}, k ∉ js → (putL js S cs)[k]? = S[k]?
  | [], S, cs, k, _ => by unfold putL; rfl
  | _ :: _, S, [], k, _ => by unfold putL; rfl
  | j :: js, S, c :: cs, k, h => by
    unfold putL
    rw [putL_out (fun z => h (List.mem_cons_of_mem _ z)), List.getElem?_set_ne (fun e => h (by rw [e]; exact List.mem_cons_self))]
theorem putL_in : ∀ {js : List Nat} {S cs : List Cell} {i k : Nat} {c : Cell}, js.Nodup → (∀ j ∈ js, j < S.length) → js[i]? = some k → cs[i]? = some c → (putL js S cs)[k]? = some c
  | [], S, cs, i, k, c, _, _, h, _ => by cases h
  | j :: js, S, [], i, k, c, _, _, h, h' => by cases h'
  | j :: js, S, c0 :: cs, 0, k, c, nd, hl, h, h' => by
    cases h; cases h'
    unfold putL
    rw [putL_out (List.nodup_cons.mp nd).1, List.getElem?_set_self (hl j List.mem_cons_self)]
  | j :: js, S, c0 :: cs, i + 1, k, c, nd, hl, h, h' => by
    unfold putL
    exact putL_in (List.nodup_cons.mp nd).2 (fun j' hj => by rw [List.length_set]; exact hl j' (List.mem_cons_of_mem _ hj)) h h'
/-- the cells that are reached from values, some steps deep -/
def svRefs : List Sv → List Nat
  | [] => []
  | .r k :: r => k :: svRefs r
  | _ :: r => svRefs r
def kids : Cell → List Nat
  | .ls xs => svRefs xs
  | .tp xs => svRefs xs
  | .di xs => svRefs (xs.map (·.2))
  | .ob _ xs => svRefs (xs.map (·.2))
  | .dl j => [j]
  | _ => []
def addN (js : List Nat) (k : Nat) : List Nat := if js.contains k then js else js ++ [k]
def reachS : Nat → List Cell → List Nat → List Nat
  | 0, _, js => js
  | n + 1, S, js => reachS n S ((js.flatMap fun k => kids (S.getD k .gone)).foldl addN js)
def loans (S : List Cell) (xs : List Sv) : List Nat := reachS 3 S ((svRefs xs).foldl addN [])
def eCall (C : Con) (bs : List Bool) (ta : A1) : E1 := fun m Q => ta m fun xs m1 => fzAll bs xs m1 fun ys m2 =>
  let js := loans m2.s ys
  js.Nodup ∧ (∀ j ∈ js, j < m2.s.length) ∧ C (ys.map (lendv js)) (js.map fun j => lendc js (m2.s.getD j .gone)) fun r S' => Q (backv js m2.s.length r) ⟨m2.e, mergeS js m2.s S'⟩
section
variable {K : PySem.W.Frag} {σ : L2.St} {G H G' H' : Hp} {m : Ms} {as as' : List Addr} {js : List Nat} {v : V} {r : Sv} {S' : List Cell}
def lendA (as : List Addr) (js : List Nat) : List Addr := js.map fun j => as.getD j 0
theorem lendA_get {i : Nat} {a : Addr} (hl : ∀ j ∈ js, j < as.length) (h : (lendA as js)[i]? = some a) : ∃ j, js[i]? = some j ∧ as[j]? = some a := by
  unfold lendA at h
  rw [List.getElem?_map] at h
  obtain ⟨j, h1, h2⟩ := Option.map_eq_some_iff.mp h
  have hj := hl j (List.mem_of_getElem? h1)
  refine ⟨j, h1, ?_⟩
  rw [List.getD_eq_getElem?_getD, List.getElem?_eq_getElem hj] at h2
  rw [List.getElem?_eq_getElem hj, ← h2]
  rfl
theorem lendA_of {i j : Nat} {a : Addr} (h1 : js[i]? = some j) (h2 : as[j]? = some a) : (lendA as js)[i]? = some a := by
  unfold lendA
  rw [List.getElem?_map, h1]
  show some (as.getD j 0) = _
  rw [List.getD_eq_getElem?_getD, h2]
  rfl
theorem lendv_ok {x : Sv} (h : SvR K G as v x) : SvR K G (lendA as js) v (lendv js x) := by
  cases h with
  | no => exact .no _
  | d h => exact .d h
  | @r a k h =>
    unfold lendv
    dsimp only
    cases e : ixOf js k with
    | none => exact .no _
    | some i => exact .r (lendA_of (ixOf_get e) h)
theorem nodup_get {α : Type} {l : List α} (hN : l.Nodup) {i j : Nat} {x : α} (a : l[i]? = some x) (b : l[j]? = some x) : i = j := by
  obtain ⟨h1, e1⟩ := List.getElem?_eq_some_iff.mp a
  obtain ⟨h2, e2⟩ := List.getElem?_eq_some_iff.mp b
  exact (List.getElem_inj hN).mp (e1.trans e2.symm)
theorem lendC_get {S : List Cell} {i : Nat} {c : Cell} (h : (js.map fun j => lendc js (S.getD j .gone))[i]? = some c) : ∃ j, js[i]? = some j ∧ c = lendc js (S.getD j .gone) := by
  rw [List.getElem?_map] at h
  obtain ⟨j, h1, h2⟩ := Option.map_eq_some_iff.mp h
  exact ⟨j, h1, h2.symm⟩
theorem lendc_live {c : Cell} (h : (lendc js c).live = true) : c.live = true := by
  cases c <;> first | rfl | exact h
theorem getD_some {S : List Cell} {j : Nat} (hj : j < S.length) : S[j]? = some (S.getD j .gone) := by
  rw [List.getD_eq_getElem?_getD, List.getElem?_eq_getElem hj]
  rfl
theorem lend_ok {vs : List V} {ys : List Sv} (ok : Ok K G H σ m as) (nd : js.Nodup) (hl : ∀ j ∈ js, j < m.s.length) (h : SvA K G as vs ys) :
    Ok K G H (vs.map some) ⟨ys.map (lendv js), js.map fun j => lendc js (m.s.getD j .gone)⟩ (lendA as js) := by
  have hl' : ∀ j ∈ js, j < as.length := fun j hj => by rw [ok.len]; exact hl j hj
  refine ⟨ok.same, by unfold lendA; rw [List.length_map]; show _ = (js.map _).length; rw [List.length_map], by show (ys.map _).length ≤ (vs.map _).length; rw [List.length_map, List.length_map, sva_len h]; exact Nat.le_refl _, fun i j a h1 h2 => ?_, fun k a h1 => ?_, fun a h1 => ?_, fun i x e => ?_, fun k c a h1 h2 => ?_⟩
  · obtain ⟨j1, e1, f1⟩ := lendA_get hl' h1
    obtain ⟨j2, e2, f2⟩ := lendA_get hl' h2
    have := ok.nd j1 j2 a f1 f2
    subst this
    exact nodup_get nd e1 e2
  · obtain ⟨j1, e1, f1⟩ := lendA_get hl' h1
    exact ok.alive j1 a f1
  · obtain ⟨k, c, h2, h3, h4⟩ := h1
    obtain ⟨j1, e1, f1⟩ := lendA_get hl' h3
    obtain ⟨j2, e2, rfl⟩ := lendC_get h2
    rw [e1] at e2; cases e2
    exact ok.out a ⟨j1, _, getD_some (hl j1 (List.mem_of_getElem? e1)), f1, lendc_live h4⟩
  · have e : (ys.map (lendv js))[i]? = some x := e
    rw [List.getElem?_map] at e
    obtain ⟨y, e1, rfl⟩ := Option.map_eq_some_iff.mp e
    obtain ⟨v, e2, r⟩ := sva_get h e1
    exact .inr ⟨v, by rw [List.getElem?_map, e2]; rfl, lendv_ok r⟩
  · obtain ⟨j1, e1, f1⟩ := lendA_get hl' h2
    obtain ⟨j2, e2, rfl⟩ := lendC_get h1
    rw [e1] at e2; cases e2
    have q := ok.ce j1 _ a (getD_some (hl j1 (List.mem_of_getElem? e1))) f1
    revert q
    generalize m.s.getD j1 .gone = c
    intro q
    cases q with
    | gone => exact .gone
    | fz q => exact .fz q
    | ls q t => exact .ls q (paired_map (fun _ _ r => lendv_ok r) t)
    | tp q t => exact .tp q (paired_map (fun _ _ r => lendv_ok r) t)
    | di q t => exact .di q (paired_map (fun _ _ r => ⟨r.1, lendv_ok r.2⟩) t)
    | ob q t => exact .ob q (paired_map (fun _ _ r => ⟨r.1, lendv_ok r.2⟩) t)
    | @dl j l sd nm q1 q2 q3 q4 q5 =>
      unfold lendc
      dsimp only
      cases e : ixOf js j with
      | none => exact .gone
      | some i => exact .dl (lendA_of (ixOf_get e) q1) q2 q3 q4 q5
    | hid q t => exact .hid q t
/-- the caller's addresses behind the call -/
def backA (as as' : List Addr) (js : List Nat) : List Addr := as ++ as'.drop js.length
theorem backA_get (hn : as.length = m.s.length) (hl : ∀ j ∈ js, j < as.length) (pr : Pre (lendA as js) as') {k : Nat} {a : Addr} (h : as'[k]? = some a) : (backA as as' js)[backk js m.s.length k]? = some a := by
  unfold backk backA
  cases e : js[k]? with
  | some j =>
    dsimp only
    have hj := hl j (List.mem_of_getElem? e)
    have h1 := pr k _ (lendA_of e (List.getElem?_eq_getElem hj))
    rw [h] at h1
    rw [List.getElem?_append_left hj, List.getElem?_eq_getElem hj, ← Option.some.inj h1]
  | none =>
    dsimp only
    have hk := List.getElem?_eq_none_iff.mp e
    rw [← hn, List.getElem?_append_right (Nat.le_add_right _ _), Nat.add_sub_cancel_left, List.getElem?_drop, Nat.add_sub_cancel' hk]
    exact h
theorem backv_ok (hn : as.length = m.s.length) (hl : ∀ j ∈ js, j < as.length) (pr : Pre (lendA as js) as') {x : Sv} (h : SvR K G' as' v x) : SvR K G' (backA as as' js) v (backv js m.s.length x) := by
  cases h with
  | no => exact .no _
  | d h => exact .d h
  | r h => exact .r (backA_get hn hl pr h)
theorem backc_ok (hn : as.length = m.s.length) (hl : ∀ j ∈ js, j < as.length) (pr : Pre (lendA as js) as') {a : Addr} {c : Cell} (q : CellR K G' H' as' a c) : CellR K G' H' (backA as as' js) a (backc js m.s.length c) := by
  cases q with
  | gone => exact .gone
  | fz q => exact .fz q
  | ls q t => exact .ls q (paired_map (fun _ _ r => backv_ok hn hl pr r) t)
  | tp q t => exact .tp q (paired_map (fun _ _ r => backv_ok hn hl pr r) t)
  | di q t => exact .di q (paired_map (fun _ _ r => ⟨r.1, backv_ok hn hl pr r.2⟩) t)
  | ob q t => exact .ob q (paired_map (fun _ _ r => ⟨r.1, backv_ok hn hl pr r.2⟩) t)
  | dl q1 q2 q3 q4 q5 => exact .dl (backA_get hn hl pr q1) q2 q3 q4 q5
  | hid q t => exact .hid q t
theorem backc_live {n : Nat} {c : Cell} (h : (backc js n c).live = true) : c.live = true := by
  cases c <;> first | rfl | exact h
/-- where a cell behind the call comes from -/
theorem merge_get {S : List Cell} (nd : js.Nodup) (hl : ∀ j ∈ js, j < S.length) (hS : js.length ≤ S'.length) {k : Nat} {c : Cell} (h : (mergeS js S S')[k]? = some c) :
    (k < S.length ∧ k ∉ js ∧ S[k]? = some c) ∨ (∃ i c', S'[i]? = some c' ∧ c = backc js S.length c' ∧ backk js S.length i = k) := by
  unfold mergeS at h
  by_cases hk : k < S.length
  · rw [List.getElem?_append_left (by rw [putL_len]; exact hk)] at h
    by_cases hj : k ∈ js
    · obtain ⟨i, hi⟩ := List.getElem?_of_mem hj
      have hil := (List.getElem?_eq_some_iff.mp hi).1
      have hc : ((S'.take js.length).map (backc js S.length))[i]? = some (backc js S.length S'[i]) := by
        rw [List.getElem?_map, List.getElem?_take_of_lt hil, List.getElem?_eq_getElem (by omega)]
        rfl
      rw [putL_in nd hl hi hc] at h
      refine .inr ⟨i, S'[i], List.getElem?_eq_getElem (by omega), (Option.some.inj h).symm, ?_⟩
      unfold backk
      rw [hi]
    · rw [putL_out hj] at h
      exact .inl ⟨hk, hj, h⟩
  · rw [List.getElem?_append_right (by rw [putL_len]; omega), putL_len, List.getElem?_map, List.getElem?_drop] at h
    obtain ⟨c', h1, h2⟩ := Option.map_eq_some_iff.mp h
    refine .inr ⟨js.length + (k - S.length), c', h1, h2.symm, ?_⟩
    unfold backk
    rw [List.getElem?_eq_none (by omega)]
    dsimp only
    omega
theorem backk_lt {n i k : Nat} (h : backk js n i = k) (hk : k < n) : js[i]? = some k := by
  unfold backk at h
  cases e : js[i]? with
  | some j => rw [e] at h; dsimp only at h; rw [h]
  | none => rw [e] at h; dsimp only at h; omega
theorem back_ok (ok : Ok K G H σ m as) (nd : js.Nodup) (hl : ∀ j ∈ js, j < m.s.length) (st : Step G H (js.map fun j => lendc js (m.s.getD j .gone)) (lendA as js) G' H' S' as') (ok' : Ok K G' H' [some v] ⟨[r], S'⟩ as') :
    Step G H m.s as G' H' (mergeS js m.s S') (backA as as' js) ∧ Ok K G' H' σ ⟨m.e, mergeS js m.s S'⟩ (backA as as' js) ∧ SvR K G' (backA as as' js) v (backv js m.s.length r) := by
  have hn : as.length = m.s.length := ok.len
  have hl' : ∀ j ∈ js, j < as.length := fun j hj => by rw [hn]; exact hl j hj
  have hn' : as'.length = S'.length := ok'.len
  have hA : (lendA as js).length = js.length := by unfold lendA; rw [List.length_map]
  have hjs : js.length ≤ as'.length := by
    refine Nat.le_of_not_lt fun q => ?_
    have e := st.pre as'.length ((lendA as js)[as'.length]'(by rw [hA]; exact q)) (List.getElem?_eq_getElem _)
    have := (List.getElem?_eq_some_iff.mp e).1
    omega
  have hS : js.length ≤ S'.length := by rw [← hn']; exact hjs
  have prA : Pre as (backA as as' js) := fun k a h => by
    unfold backA
    rw [List.getElem?_append_left (List.getElem?_eq_some_iff.mp h).1]
    exact h
  have atLt : ∀ {k : Nat} {a : Addr}, (backA as as' js)[k]? = some a → k < as.length → as[k]? = some a := fun {k a} h hk => by
    unfold backA at h
    rw [List.getElem?_append_left hk] at h
    exact h
  have atGe : ∀ {k : Nat} {a : Addr}, (backA as as' js)[k]? = some a → as.length ≤ k → as'[js.length + (k - as.length)]? = some a := fun {k a} h hk => by
    unfold backA at h
    rw [List.getElem?_append_right hk, List.getElem?_drop] at h
    exact h
  have isNew : ∀ {k : Nat} {a : Addr}, (backA as as' js)[k]? = some a → as.length ≤ k → H a = none := fun {k a} h hk => st.new _ a (atGe h hk) (by rw [hA]; exact Nat.le_add_right _ _)
  have livL : ∀ {a : Addr}, Liv (js.map fun j => lendc js (m.s.getD j .gone)) (lendA as js) a → ∃ j, j ∈ js ∧ as[j]? = some a ∧ ∃ c, m.s[j]? = some c ∧ c.live = true := fun {a} ⟨k, c, h2, h3, h4⟩ => by
    obtain ⟨j1, e1, f1⟩ := lendA_get hl' h3
    obtain ⟨j2, e2, rfl⟩ := lendC_get h2
    rw [e1] at e2; cases e2
    exact ⟨j1, List.mem_of_getElem? e1, f1, _, getD_some (hl j1 (List.mem_of_getElem? e1)), lendc_live h4⟩
  have livM : ∀ {a : Addr}, Liv (js.map fun j => lendc js (m.s.getD j .gone)) (lendA as js) a → Liv m.s as a := fun {a} h => by
    obtain ⟨j, _, h2, c, h3, h4⟩ := livL h
    exact ⟨j, c, h3, h2, h4⟩
  have notL : ∀ {k : Nat} {a : Addr}, k ∉ js → as[k]? = some a → ¬ Liv (js.map fun j => lendc js (m.s.getD j .gone)) (lendA as js) a := fun {k a} hk ha h => by
    obtain ⟨j, h1, h2, _⟩ := livL h
    exact hk (by rw [ok.nd k j a ha h2]; exact h1)
  have src : ∀ {i : Nat} {c' : Cell} {k : Nat} {a : Addr}, S'[i]? = some c' → backk js m.s.length i = k → (backA as as' js)[k]? = some a → as'[i]? = some a := fun {i c' k a} h1 h2 h3 => by
    have hi : i < as'.length := by rw [hn']; exact (List.getElem?_eq_some_iff.mp h1).1
    have e := backA_get hn hl' st.pre (List.getElem?_eq_getElem hi)
    rw [h2, h3] at e
    rw [List.getElem?_eq_getElem hi, ← Option.some.inj e]
  refine ⟨⟨st.g, st.dom, fun a o h hv => st.fr a o h fun z => hv (livM z), prA, fun k a h hk => isNew h hk, fun k c' h hv hk => ?_, fun a h => ?_⟩,
    ⟨ok'.same, ?_, ok.el, fun i j a h1 h2 => ?_, fun k a h => ?_, fun a h => ?_, fun i x h => (ok.sv i x h).mono st.g prA, fun k c a h h' => ?_⟩, ?_⟩
  · rcases merge_get nd hl hS h with ⟨_, _, h1⟩ | ⟨i, c2, h1, e1, e2⟩
    · exact ⟨c', h1, hv⟩
    · rw [e1] at hv
      have hj := backk_lt e2 (by rw [← hn]; exact hk)
      have hi := (List.getElem?_eq_some_iff.mp hj).1
      obtain ⟨c0, h2, h3⟩ := st.liv i c2 h1 (backc_live hv) (by rw [hA]; exact hi)
      obtain ⟨j2, e3, rfl⟩ := lendC_get h2
      rw [hj] at e3; cases e3
      exact ⟨_, getD_some (hl k (List.mem_of_getElem? hj)), lendc_live h3⟩
  · rcases st.gd a h with z | z | z
    · exact .inl z
    · exact .inr (.inl (livM z))
    · exact .inr (.inr z)
  · show (as ++ as'.drop js.length).length = (putL _ _ _ ++ _).length
    rw [List.length_append, List.length_append, putL_len, List.length_map, List.length_drop, List.length_drop, hn, hn']
  · by_cases hi : i < as.length <;> by_cases hj : j < as.length
    · exact ok.nd i j a (atLt h1 hi) (atLt h2 hj)
    · exact absurd (isNew h2 (by omega)) (ok.alive i a (atLt h1 hi))
    · exact absurd (isNew h1 (by omega)) (ok.alive j a (atLt h2 hj))
    · have := ok'.nd _ _ a (atGe h1 (by omega)) (atGe h2 (by omega))
      omega
  · by_cases hk : k < as.length
    · exact st.dom a (ok.alive k a (atLt h hk))
    · exact ok'.alive _ a (atGe h (by omega))
  · obtain ⟨k, c, h1, h2, h3⟩ := h
    rcases merge_get nd hl hS h1 with ⟨hk, hj, h4⟩ | ⟨i, c2, h4, e1, e2⟩
    · have ha := atLt h2 (by rw [hn]; exact hk)
      cases z : G' a with
      | none => rfl
      | some o =>
        rcases st.gd a (by rw [z]; intro y; cases y) with y | y | y
        · exact absurd (ok.out a ⟨k, c, h4, ha, h3⟩) y
        · exact absurd y (notL hj ha)
        · exact absurd y (ok.alive k a ha)
    · rw [e1] at h3
      exact ok'.out a ⟨i, c2, h4, src h4 e2 h2, backc_live h3⟩
  · rcases merge_get nd hl hS h with ⟨hk, hj, h4⟩ | ⟨i, c2, h4, e1, e2⟩
    · have ha := atLt h' (by rw [hn]; exact hk)
      exact (ok.ce k c a h4 ha).mono st.g (fun o z => st.fr a o z (notL hj ha)) prA
    · rw [e1]
      exact backc_ok hn hl' st.pre (ok'.ce i c2 a h4 (src h4 e2 h'))
  · rcases ok'.sv 0 r rfl with z | ⟨v', z, r'⟩
    · rw [z]; exact .no _
    · cases z
      exact backv_ok hn hl' st.pre r'
end
section
variable {X : Cx} {e : Expr} {es : List Expr} {ta : A1} {x : Str} {p pos : Pos} {f : Addr} {fd : FuncData} {ps : List Str} {k : Nat} {C : Con}
theorem sp_call {σ : L2.St} {G H : Hp} {m : Ms} {as : List Addr} {Q : SK} {bs : List Bool} {vs : List V} {xs : List Sv} (ok : Ok X.K G H σ m as) (h : SvA X.K G as vs xs) (E : XK)
    (q : fzAll bs xs m fun ys m2 => let js := loans m2.s ys
      js.Nodup ∧ (∀ j ∈ js, j < m2.s.length) ∧ C (ys.map (lendv js)) (js.map fun j => lendc js (m2.s.getD j .gone)) fun r S' => Q (backv js m2.s.length r) ⟨m2.e, mergeS js m2.s S'⟩) :
    spD X.K C vs H (OnV X.K σ G H m as Q) E := by
  obtain ⟨ys, G1, m1, st1, ok1, r1, nd, hl, q1⟩ := fzAll_ok ok h q
  refine ⟨G1, _, _, _, _, lend_ok ok1 nd hl r1, by rw [List.length_map]; exact (sva_len r1).symm, q1, fun v H' G' as' r S' st ok' q2 => ?_⟩
  obtain ⟨st2, ok2, sv⟩ := back_ok ok1 nd hl st ok'
  exact ⟨G', _, _, _, st1.trans st2, ok2, sv, q2⟩
theorem de_call (bs : List Bool) (F : FnOk X.prog X.w X.K X.mg X.base CX0 k f fd ps (spD X.K C)) (hr : Room k X.A) (hg : Gl X x) (hm : X.mg x = some (.ref f)) (hk : PySem.W.keepIn X.K (.ref f) = true) (hb : Binds X.K fd ps [])
    (ha : DA X (e :: es) ta) (hdb : (x == ("__debug__" : Str)) = false := by decide) (he : starEach (e :: es) X.env = (false, eval e X.env) :: starEach es X.env := by rfl) (hpl : (backTo pos (starEach es X.env)).any (·.1) = false := by rfl) :
    DE X (.Call (.Name x p) (e :: es) [] pos) (eCall C bs ta) := ⟨fun G H σ m as Q ok q => tSem_of (pe_call F hr hg hm hk hb .nil pass0 (pa_sem X (e :: es)) hdb he hpl) (by
  refine aSem_mono (ha.run G H σ m as _ ok q) fun vs H1 ⟨G1, m1, as1, xs, st1, ok1, r1, q1⟩ => ?_
  have hh := sp_call (Q := Q) ok1 r1 E0 q1
  rw [List.append_nil]
  obtain ⟨Ga, as0, ys, S, Qc, h1, h2, h3, h4⟩ := hh
  exact ⟨Ga, as0, ys, S, Qc, h1, h2, h3, fun v H' G' as' r S' a b c => OnV.from st1 (h4 v H' G' as' r S' a b c)⟩)⟩
end
end Sy
/-! list(reversed(a list)) -/
namespace Sy
open PySem PySem.Spec PyProof.Rows L2
section
variable {prog : Program} {w : World} {A : Around} {E : Value → Shared → Prop} {s : Shared}
theorem extend_rev {R : Result → Shared → Prop} {it l S : Addr} {items : Array Value} {res : Value} {c₀ : Nat} (hh : A.handled = none) (hit : s.heap.IsRevIter it l ((items.size : Int) - 1)) (hl : s.heap.IsList l items) (hne : l ≠ it) (hn : items.size ≤ sizeLine)
    (hS : s.heap.get? S = some { cls := .type "list", data := .seq #[] c₀ })
    (hSi : S ≠ it) (hSl : S ≠ l)
    (hR : ∀ h' tk acc' c', (∀ b o, b ≠ S → b ≠ it → s.heap.get? b = some o → h'.get? b = some o) → h'.get? S = some { cls := .type "list", dict := none, data := .seq acc' c', slots := #[] } →
      ItemsOf (fun i v => items[items.size - 1 - i]? = some v) acc' items.size → R (.ok (.ret res)) { s with heap := h', toks := tk }) :
    wpAny (model prog w) A.in1 (Builtin.List.listExtendWith (.ref S) (.ref it) res)
      (fun fin s' => match fin with | .done f => R (.ok f) s' | .again c' => c'.quiet = true ∧ codeAny (model prog w) A c' R s') (fun e s' => R (.error e) s') s := by
  have W := (Walks.listRev (prog := prog) (w := w) (A := A.in1) hh it l hne items).toS
  have hSf : S ∉ [it, l] := by simp only [List.mem_cons, List.not_mem_nil, or_false, not_or]; exact ⟨hSi, hSl⟩
  have hT : s.TypeIs (.ref it) "list_reverseiterator" := hit.typeIs
  have same : Builtin.List.listSameRef (.ref S) (.ref it) = false := by simp [Builtin.List.listSameRef, hSi]
  unfold Builtin.List.listExtendWith
  refine wpAny_bind (wpAny_typeOf hT ?_)
  rw [if_neg (by rw [same]; decide)]
  refine wpAny_bind (wpAny_pyIter_revIter hit ?_)
  refine wpAny_bind (wpAny_holding ?_)
  unfold Builtin.List.listLengthHint
  refine wpAny_bind (wpAny_specialOf hT RT.nolen_lri ?_)
  show wpAny _ A.in1 (specialOf (Value.ref it) (Str.ofString "__length_hint__") >>= _) _ _ s
  refine wpAny_bind (wpAny_specialOf hT RT.hint_lri ?_)
  generalize hid : ("list_reverseiterator.__length_hint__" : String) = id0
  wp_delta
  rw [show splitId id0 = some ("list_reverseiterator", "__length_hint__") from by subst hid; decide +kernel]
  subst hid
  refine wpAny_bind (wpAny_isInstance (b := true) hT (by rw [isSubtype_type]; kernel_rfl) ?_)
  refine wpAny_pure ?_
  rw [if_neg (by decide)]
  have e0 : ((items.size : Nat) : Int) - 1 - ((0 : Nat) : Int) = (items.size : Int) - 1 := by omega
  refine wpAny_pure ⟨plainId_quiet F.plain_extend_loop _, codeAny_extend_loopS W hn _ hSf _ items.size 0 _ _ _ rfl (Nat.zero_le _) ⟨Nat.zero_le _, by rw [e0]; exact hit, hl⟩ hS (ItemsOf.nil _) fun s' acc' c' hm hS' hacc => ?_⟩
  rw [Moved.eq_with hm]
  refine hR s'.heap s'.toks acc' c' (fun b o hb hb2 e => hm.heap b o (fun hmem => ?_) e) hS' hacc
  rcases List.mem_cons.mp hmem with e' | hmem
  · exact hb e'
  · exact hb2 (List.mem_singleton.mp hmem)
theorem call_list_rev {it l : Addr} {items : Array Value} {Q : Value → Shared → Prop} (hh : A.handled = none) (hit : s.heap.IsRevIter it l ((items.size : Int) - 1)) (hl : s.heap.IsList l items) (hne : l ≠ it) (hn : items.size ≤ sizeLine)
    (hQ : ∀ h' tk acc' c', (∀ b o, b ≠ it → s.heap.get? b = some o → h'.get? b = some o) →
      h'.get? s.heap.objs.size = some { cls := .type "list", dict := none, data := .seq acc' c', slots := #[] } → ItemsOf (fun i v => items[items.size - 1 - i]? = some v) acc' items.size → Q (.ref s.heap.objs.size) { s with heap := h', toks := tk }) :
    wpAny (model prog w) A (call (.type "list") [.ref it]) Q E s := by
  obtain ⟨oi, hoi, _⟩ := id hit
  obtain ⟨ol, hol, _⟩ := id hl
  have hSi : s.heap.objs.size ≠ it := Nat.ne_of_gt (Heap.lt_size hoi)
  have hSl : s.heap.objs.size ≠ l := Nat.ne_of_gt (Heap.lt_size hol)
  refine callType_codes (Q₁ := fun obj s₁ => obj = .ref s.heap.objs.size ∧ s₁ = { s with heap := s.heap.push { cls := .type "list", data := .seq #[] } }) F.called_list (F.typeCall_list_1 _) F.entry_list_init
    (code_list_new _ ⟨rfl, rfl⟩) fun obj s₁ h₁ => ?_
  obtain ⟨rfl, rfl⟩ := h₁
  have hS : (s.heap.push { cls := .type "list", data := .seq #[] }).get? s.heap.objs.size = some { cls := .type "list", data := .seq #[] } := Heap.get?_push_size _ rfl
  refine ⟨⟨_, hS, rfl⟩, F.args_list_init_2 _ _, ?_⟩
  show wpAny _ A.in1.in1 (do let old ← Builtin.List.listItems (.ref s.heap.objs.size); Builtin.List.listUpdate (.ref s.heap.objs.size) (fun _ => #[]); letGo old.toList.reverse; Builtin.List.listExtendWith (.ref s.heap.objs.size) (.ref it) .none) _ _ _
  refine wpAny_bind ?_
  unfold Builtin.List.listItems
  refine wpAny_bind (wpAny_seqItems hS rfl (wpAny_pure ?_))
  show wpAny _ A.in1.in1 (updateSeq s.heap.objs.size (fun _ => #[]) >>= fun _ => letGo (#[] : Array Value).toList.reverse >>= fun _ => Builtin.List.listExtendWith (.ref s.heap.objs.size) (.ref it) .none) _ _ _
  refine wpAny_bind (wpAny_updateSeq hS rfl ?_)
  have hS₂ := Heap.get?_update_self (Obj.mapSeq (fun _ => (#[] : Array Value))) hS rfl
  have oth : ∀ b o, b ≠ s.heap.objs.size → s.heap.get? b = some o → ((s.heap.push { cls := .type "list", data := .seq #[] }).update s.heap.objs.size (Obj.mapSeq (fun _ => (#[] : Array Value)))).get? b = some o :=
    fun b o hb e => (Heap.get?_update_other _ _ (Ne.symm hb)).trans (Heap.get?_push_of_some _ e)
  refine wpAny_bind (wpAny_letGo ?_)
  refine extend_rev (A := A.in1) (items := items) (l := l) hh (hit.at fun o e => oth it o (Ne.symm hSi) e) ?_ hne hn hS₂ hSi hSl fun h' tk acc' c' hk hS' hacc => ?_
  · obtain ⟨o, ho, r⟩ := hl
    exact ⟨o, oth l o (Ne.symm hSl) ho, r⟩
  · exact ⟨rfl, hQ h' tk acc' c' (fun b o hb e => hk b o (Nat.ne_of_lt (Heap.lt_size e)) hb (oth b o (Nat.ne_of_lt (Heap.lt_size e)) e)) hS' hacc⟩
end
section
variable {X : Cx} {e : Expr} {te : E1} {p p2 pos pos2 : Pos}
def tLstRev (K : PySem.W.Frag) (te : TE) : TE := fun σ H Q => te σ H fun v H1 => ∃ (a : Addr) (xs : List V), v = .ref a ∧ SqL K H1 a xs ∧ ∀ q, H1 q = none → Q (.ref q) (upd H1 q (.lst xs.reverse))
theorem pe_lstRev {te : TE} (hc : X.calm = true) (hg : Gl X "list") (hm : X.mg "list" = none) (hg2 : Gl X "reversed") (hm2 : X.mg "reversed" = none) (he : PE X e te)
    (hs : starEach [e] X.env = (false, eval e X.env) :: starEach [] X.env := by rfl)
    (hs2 : starEach [.Call (.Name "reversed" p2) [e] [] pos2] X.env = (false, eval (.Call (.Name "reversed" p2) [e] [] pos2) X.env) :: starEach [] X.env := by rfl) :
    PE X (.Call (.Name "list" p) [.Call (.Name "reversed" p2) [e] [] pos2] [] pos) (tLstRev X.K te) := by
  refine ⟨fun pins s σ H Q I h => ?_⟩
  refine Call_ (ld_blt I hg hm boot_list (PyProof.Rows.callWith_type1 (args_cons (Call_ (ld_blt I hg2 hm2 PyProof.Rows.boot_reversed (PyProof.Rows.callWith_type1 (args_cons (thn (he.run pins s σ H _ I h) fun u s1 ⟨v, H1, I1, r1, q1⟩ => args_nil ?_) hs) hs rfl))) hs2) hs2 rfl))
  obtain ⟨a, xs, ev, hq, q⟩ := q1
  subst ev
  obtain rfl : u = Value.ref a := r1
  obtain ⟨us, rv, p', hz⟩ := I1.list hq
  have hl := p'.isList
  refine call_reversed_list hl (args_nil ?_)
  obtain ⟨f0, f1, f2, f3, f4, f5⟩ := I1.fpOk (H' := H1) (b := s1.heap.objs.size) (Nat.le_refl _) (I1.hok.fresh (Nat.le_refl _))
  obtain ⟨ol, hol, _⟩ := id hl
  have hne : a ≠ s1.heap.objs.size := Nat.ne_of_lt (Heap.lt_size hol)
  have hn : us.toArray.size ≤ sizeLine := by rw [List.size_toArray, ← rv.length]; exact hz
  refine call_list_rev (s := { s1 with heap := s1.heap.push (revObj a ((us.toArray.size : Int) - 1)) }) (I1.ok.hd hc) ⟨_, Heap.get?_push_size _ rfl, rfl, rfl⟩ (hl.push _) hne hn fun h' tk acc c' hk hS hi => ?_
  have hsz : (s1.heap.push (revObj a ((us.toArray.size : Int) - 1))).objs.size = s1.heap.objs.size + 1 := by simp [Heap.push]
  have hlt : ∀ {b : Addr} {o : Obj}, s1.heap.get? b = some o → b ≠ s1.heap.objs.size := fun e => Nat.ne_of_lt (Heap.lt_size e)
  refine ⟨.ref _, upd H1 (s1.heap.push (revObj a ((us.toArray.size : Int) - 1))).objs.size (.lst xs.reverse), I1.laid (t' := tk) (fun b o e => hk b o (hlt e) (Heap.get?_push_of_some _ e)) (by rw [hsz]; exact Nat.le_succ _) ?_, rfl, q _ (I1.hok.fresh (by rw [hsz]; exact Nat.le_succ _))⟩
  refine ⟨by rw [List.length_reverse]; exact hz, acc.toList, c', RT.vals_rev rv hi, ?_⟩
  rw [Array.toArray_toList]
  exact hS
def eLstRev (te : E1) : E1 := fun m Q => te m fun x m1 => match sq m1.s x with
  | some (.l, xs) => mkL xs.reverse m1 Q
  | _ => False
theorem paired_rev {α β : Type} {F : α → β → Prop} : ∀ {a : List α} {b : List β}, Paired F a b → Paired F a.reverse b.reverse
  | _, _, .nil => .nil
  | _, _, .cons r t => by
    rw [List.reverse_cons, List.reverse_cons]
    exact paired_app (paired_rev t) (.cons r .nil)
theorem de_lstRev (hc : X.calm = true) (hg : Gl X "list") (hm : X.mg "list" = none) (hg2 : Gl X "reversed") (hm2 : X.mg "reversed" = none) (he : DE X e te)
    (hs : starEach [e] X.env = (false, eval e X.env) :: starEach [] X.env := by rfl)
    (hs2 : starEach [.Call (.Name "reversed" p2) [e] [] pos2] X.env = (false, eval (.Call (.Name "reversed" p2) [e] [] pos2) X.env) :: starEach [] X.env := by rfl) :
    DE X (.Call (.Name "list" p) [.Call (.Name "reversed" p2) [e] [] pos2] [] pos) (eLstRev te) := ⟨fun G H σ m as Q ok q => tSem_of (pe_lstRev hc hg hm hg2 hm2 (pe_sem X e) hs hs2) (by
  refine tSem_mono (he.run G H σ m as _ ok q) fun v H1 ⟨G1, m1, as1, x, st1, ok1, r1, q1⟩ => ?_
  cases e2 : sq m1.s x with
  | none => simp only [e2] at q1
  | some p =>
    obtain ⟨b, xs⟩ := p
    obtain ⟨a, us, ev, h1, h2⟩ := sq_ok ok1 r1 e2
    cases b with
    | t => simp only [e2] at q1
    | s => simp only [e2] at q1
    | l =>
      simp only [e2] at q1
      exact ⟨a, us, ev, SqL.of h1, fun p hp => OnV.from st1 (mkL_ok ok1 (paired_rev h2) hp q1)⟩)⟩
end
end Sy
namespace Sy
open PySem PySem.Spec PyProof.Rows L2
/-! ### methods of lists -/
def lsAt (S : List Cell) : Sv → Option (Nat × List Sv)
  | .r k => (S[k]?).bind fun c => match c with
    | .ls xs => some (k, xs)
    | _ => none
  | _ => none
section
variable {X : Cx} {K : PySem.W.Frag} {σ : L2.St} {G H : Hp} {m : Ms} {as : List Addr} {v : V} {x : Sv}
theorem lsAt_ok (ok : Ok K G H σ m as) (r : SvR K G as v x) {k : Nat} {xs : List Sv} (h : lsAt m.s x = some (k, xs)) :
    ∃ a vs, v = .ref a ∧ as[k]? = some a ∧ m.s[k]? = some (.ls xs) ∧ H a = some (.lst vs) ∧ SvA K G as vs xs := by
  cases x with
  | no => cases h
  | d _ => cases h
  | r j =>
    obtain ⟨a, ha, e⟩ := svr r
    have h : (m.s[j]?).bind (fun c => match c with
      | .ls xs => some (j, xs)
      | _ => none) = some (k, xs) := h
    cases hc : m.s[j]? with
    | none => rw [hc] at h; cases h
    | some c =>
      rw [hc] at h
      cases c with
      | ls ys =>
        have q := ok.ce j _ a hc ha
        cases h
        cases q with
        | @ls vs _ q t => exact ⟨a, vs, e, ha, hc, q, t⟩
      | gone => cases h
      | fz _ => cases h
      | tp _ => cases h
      | di _ => cases h
      | ob _ _ => cases h
      | dl _ => cases h
      | hid => cases h
/-- a list is set -/
theorem ls_set {k : Nat} {a : Addr} {xs ys : List Sv} {vs : List V} {Q : SK} {w : V} {d : D} (ok : Ok K G H σ m as) (ha : as[k]? = some a) (hc : m.s[k]? = some (.ls xs)) (h : SvA K G as vs ys) (r : Rp K G w d) (q : Q (.d d) (m.setS k (.ls ys))) :
    OnV K σ G H m as Q w (upd H a (.lst vs)) := by
  obtain ⟨ok', st⟩ := ok.setc (o := .lst vs) (c := .ls ys) hc rfl ha (.ls upd_same h)
  exact ⟨G, _, as, _, st, ok', .d r, q⟩
variable {o e : Expr} {to te : E1} {apos cpos : Pos}
def eApp (to te : E1) : E1 := fun m Q => to m fun x m1 => one? (lsAt m1.s x) fun _ => te m1 fun y m2 => fzv y m2 fun d m3 => one? (lsAt m3.s x) fun p => p.2.length < sizeLine ∧ Q (.d .non) (m3.setS p.1 (.ls (p.2 ++ [.d d])))
theorem de_append (ho : DE X o to) (ha : DE X e te) (hbase : attributeBase o "append" X.env (eval o X.env) = eval o X.env := by rfl)
    (hfew : ((backTo cpos (starEach [e] X.env)).all (fun x => !x.1) && (backToKw cpos (keywordEach [] X.env)).all (fun x => x.1.isSome)
      && decide (([e] : List Expr).length + ([] : List Keyword).length + (if ([] : List Keyword).isEmpty then 0 else 1) < 30)) = true := by rfl)
    (hline : (apos.endLine == cpos.line) = true := by rfl) (hs : starEach [e] X.env = (false, eval e X.env) :: starEach [] X.env := by rfl) (hplain : (backTo cpos (starEach [] X.env)).any (·.1) = false := by rfl) :
    DE X (.Call (.Attribute o "append" apos) [e] [] cpos) (eApp to te) := ⟨fun G H σ m as Q ok q =>
  tSem_of (pe_bm PySem.F.plainAttrs_list PySem.F.slot_list_append PySem.F.type_list_append mt_append (pe_sem X o) (pa_cons (pe_sem X e) pa_nil hs) hbase hfew hline hs hplain) (by
    refine tSem_mono (ho.run G H σ m as _ ok q) fun v H1 ⟨G1, m1, as1, x, st1, ok1, r1, q1⟩ => ?_
    obtain ⟨⟨k0, xs0⟩, e0, q2⟩ := one_cases q1
    obtain ⟨a0, vs0, ev, _, _, h0, _⟩ := lsAt_ok ok1 r1 e0
    subst ev
    refine ⟨.inl ⟨rfl, vs0, SqL.of h0⟩, ?_⟩
    refine tSem_mono (ha.run G1 H1 σ m1 as1 _ ok1 q2) fun u H2 ⟨G2, m2, as2, y, st2, ok2, r2, q3⟩ => ?_
    obtain ⟨d, G3, m3, st3, ok3, rp, q4⟩ := fzv_ok ok2 r2 q3
    obtain ⟨⟨k, xs⟩, e1, hl, q5⟩ := one_cases q4
    obtain ⟨a, vs, ev, ha', hc, h1, h2⟩ := lsAt_ok ok3 ((r1.mono st2.g st2.pre).mono st3.g st3.pre) e1
    cases ev
    refine ⟨a0, vs, u, rfl, rfl, h1, by rw [sva_len h2]; exact hl, ?_⟩
    exact OnV.from ((st1.trans st2).trans st3) (ls_set ok3 ha' hc (paired_app h2 (.cons (.d rp) .nil)) .non q5))⟩
def eExt (to te : E1) : E1 := fun m Q => to m fun x m1 => one? (lsAt m1.s x) fun _ => te m1 fun y m2 => one? (lsAt m2.s x) fun p => one? (sq m2.s y) fun p2 => p2.1 = .l ∧ p.2.length + p2.2.length ≤ sizeLine ∧ Q (.d .non) (m2.setS p.1 (.ls (p.2 ++ p2.2)))
theorem de_extend (ho : DE X o to) (ha : DE X e te) (hbase : attributeBase o "extend" X.env (eval o X.env) = eval o X.env := by rfl)
    (hfew : ((backTo cpos (starEach [e] X.env)).all (fun x => !x.1) && (backToKw cpos (keywordEach [] X.env)).all (fun x => x.1.isSome)
      && decide (([e] : List Expr).length + ([] : List Keyword).length + (if ([] : List Keyword).isEmpty then 0 else 1) < 30)) = true := by rfl)
    (hline : (apos.endLine == cpos.line) = true := by rfl) (hs : starEach [e] X.env = (false, eval e X.env) :: starEach [] X.env := by rfl) (hplain : (backTo cpos (starEach [] X.env)).any (·.1) = false := by rfl) :
    DE X (.Call (.Attribute o "extend" apos) [e] [] cpos) (eExt to te) := ⟨fun G H σ m as Q ok q =>
  tSem_of (pe_bm PySem.F.plainAttrs_list PySem.F.slot_list_extend PySem.F.type_list_extend mt_extend (pe_sem X o) (pa_cons (pe_sem X e) pa_nil hs) hbase hfew hline hs hplain) (by
    refine tSem_mono (ho.run G H σ m as _ ok q) fun v H1 ⟨G1, m1, as1, x, st1, ok1, r1, q1⟩ => ?_
    obtain ⟨⟨k0, xs0⟩, e0, q2⟩ := one_cases q1
    obtain ⟨a0, vs0, ev, _, _, h0, _⟩ := lsAt_ok ok1 r1 e0
    subst ev
    refine ⟨.inl ⟨rfl, vs0, SqL.of h0⟩, ?_⟩
    refine tSem_mono (ha.run G1 H1 σ m1 as1 _ ok1 q2) fun u H2 ⟨G2, m2, as2, y, st2, ok2, r2, q3⟩ => ?_
    obtain ⟨⟨k, xs⟩, e1, q4⟩ := one_cases q3
    obtain ⟨⟨b, ys⟩, e2, hb, hl, q5⟩ := one_cases q4
    obtain ⟨a, vs, ev, ha', hc, h1, h2⟩ := lsAt_ok ok2 (r1.mono st2.g st2.pre) e1
    obtain ⟨a2, us, ev2, h3, h4⟩ := sq_ok ok2 r2 e2
    cases ev
    cases hb
    refine ⟨a0, a2, vs, us, rfl, by rw [ev2], h1, h3, by rw [sva_len h2, sva_len h4]; exact hl, ?_⟩
    exact OnV.from (st1.trans st2) (ls_set ok2 ha' hc (paired_app h2 h4) .non q5))⟩
def ePop (to : E1) : E1 := fun m Q => to m fun x m1 => one? (lsAt m1.s x) fun p => one? (p.2[p.2.length - 1]?) fun z => Q z (m1.setS p.1 (.ls p.2.dropLast))
theorem sva_at : ∀ {vs : List V} {xs : List Sv} {i : Nat} {z : Sv}, SvA K G as vs xs → xs[i]? = some z → ∃ v, vs[i]? = some v ∧ SvR K G as v z := fun h e => sva_get h e
theorem paired_dropLast {α β : Type} {F : α → β → Prop} {a : List α} {b : List β} (h : Paired F a b) : Paired F a.dropLast b.dropLast := by
  rw [List.dropLast_eq_take, List.dropLast_eq_take, Paired.length h]
  exact paired_take _ h
theorem de_pop (ho : DE X o to) (hbase : attributeBase o "pop" X.env (eval o X.env) = eval o X.env := by rfl) (hline : (apos.endLine == cpos.line) = true := by rfl) :
    DE X (.Call (.Attribute o "pop" apos) [] [] cpos) (ePop to) := ⟨fun G H σ m as Q ok q =>
  tSem_of (pe_bm0 PySem.F.plainAttrs_list PySem.F.slot_list_pop PySem.F.type_list_pop mt_pop (pe_sem X o) hbase hline) (by
    refine tSem_mono (ho.run G H σ m as _ ok q) fun v H1 ⟨G1, m1, as1, x, st1, ok1, r1, q1⟩ => ?_
    obtain ⟨⟨k, xs⟩, e1, q2⟩ := one_cases q1
    obtain ⟨z, e2, q3⟩ := one_cases q2
    obtain ⟨a, vs, ev, ha', hc, h1, h2⟩ := lsAt_ok ok1 r1 e1
    subst ev
    obtain ⟨w, e3, r3⟩ := sva_at h2 e2
    refine ⟨.inl ⟨rfl, vs, SqL.of h1⟩, a, vs, w, rfl, rfl, h1, by rw [sva_len h2]; exact e3, ?_⟩
    obtain ⟨ok', st⟩ := ok1.setc (o := .lst vs.dropLast) (c := .ls xs.dropLast) hc rfl ha' (.ls upd_same (paired_dropLast h2))
    exact ⟨G1, _, as1, z, st1.trans st, ok', r3, q3⟩)⟩
/-! ### isinstance of data and built-in types -/
def tyD : D → Option String
  | .non => some "NoneType"
  | .bl _ => some "bool"
  | .int _ => some "int"
  | .str _ => some "str"
  | .lst _ => some "list"
  | .tup _ => some "tuple"
  | .dct _ => some "dict"
  | _ => none
theorem tyD_ok {d : D} {t : String} (r : Rp K H v d) (h : tyD d = some t) : TyX K H v (.type t) := by
  cases r with
  | non => cases h; exact .base .non
  | bl b => cases h; exact .base (.bl b)
  | int b => cases h; exact .base (.int b)
  | str b => cases h; exact .base (.str b)
  | lst q _ => cases h; exact .base (.lst q)
  | scr _ _ => cases h
  | tup q _ =>
    cases h
    rcases q with (q | ⟨o, q⟩) | ⟨o, its, n, q, c, _⟩
    · exact .base (.tup q)
    · exact .fTuple q
    · exact .kTuple q c
  | dct q _ => cases h; exact .base (.dK q)
  | ob _ _ => cases h
  | v _ => cases h
def tyS : Sv → Option String
  | .d (.v (.ty T)) => some T
  | _ => none
theorem tyS_ok {T : String} (r : SvR K G as v x) (h : tyS x = some T) : v = .ty T := by
  cases r with
  | no => cases h
  | r _ => cases h
  | @d w y q =>
    cases y <;> first | (cases h; done) | skip
    rename_i u
    cases u <;> first | (cases h; done) | skip
    cases h
    exact rp_v q
def oIsi : OC := fun xs m Q => match xs with
  | [x, c] => both ((vd m.s x).bind tyD) (tyS c) (fun t T => one? (kitB t T) fun b => Q (.d (.bl b)) m) False
  | _ => False
theorem cd_isi : CallD X (.builtin "isinstance") oIsi := ⟨fun G H σ m as vs xs Q ok r q0 => by
  unfold oIsi at q0
  match xs, r, q0 with
  | [x, c], r, q0 =>
    obtain ⟨v, u, rfl, r1, r2⟩ := sva2 r
    rcases both_cases q0 with ⟨t, T, e1, e2, q1⟩ | q1
    · obtain ⟨b, e3, q2⟩ := one_cases q1
      obtain ⟨d, e4, e5⟩ := Option.bind_eq_some_iff.mp e1
      cases tyS_ok r2 e2
      exact cSem_of call_isi ⟨v, .ty T, .type t, .type T, b, rfl, .ty T, tyD_ok (vd_ok ok r1 e4) e5, kit_ty e3, OnV.d ok (.bl _) q2⟩
    · exact q1.elim⟩
theorem kit_bool_int : kitB "bool" "int" = some true := by decide +kernel
theorem kit_bool_bool : kitB "bool" "bool" = some true := by decide +kernel
theorem kit_bool_str : kitB "bool" "str" = some false := by decide +kernel
theorem kit_bool_tuple : kitB "bool" "tuple" = some false := by decide +kernel
theorem kit_bool_list : kitB "bool" "list" = some false := by decide +kernel
theorem kit_bool_dict : kitB "bool" "dict" = some false := by decide +kernel
theorem kit_int_int : kitB "int" "int" = some true := by decide +kernel
theorem kit_int_bool : kitB "int" "bool" = some false := by decide +kernel
theorem kit_int_str : kitB "int" "str" = some false := by decide +kernel
theorem kit_int_tuple : kitB "int" "tuple" = some false := by decide +kernel
theorem kit_int_list : kitB "int" "list" = some false := by decide +kernel
theorem kit_int_dict : kitB "int" "dict" = some false := by decide +kernel
theorem kit_str_int : kitB "str" "int" = some false := by decide +kernel
theorem kit_str_bool : kitB "str" "bool" = some false := by decide +kernel
theorem kit_str_str : kitB "str" "str" = some true := by decide +kernel
theorem kit_str_tuple : kitB "str" "tuple" = some false := by decide +kernel
theorem kit_str_list : kitB "str" "list" = some false := by decide +kernel
theorem kit_str_dict : kitB "str" "dict" = some false := by decide +kernel
theorem kit_list_int : kitB "list" "int" = some false := by decide +kernel
theorem kit_list_bool : kitB "list" "bool" = some false := by decide +kernel
theorem kit_list_str : kitB "list" "str" = some false := by decide +kernel
theorem kit_list_tuple : kitB "list" "tuple" = some false := by decide +kernel
theorem kit_list_list : kitB "list" "list" = some true := by decide +kernel
theorem kit_list_dict : kitB "list" "dict" = some false := by decide +kernel
theorem kit_tuple_int : kitB "tuple" "int" = some false := by decide +kernel
theorem kit_tuple_bool : kitB "tuple" "bool" = some false := by decide +kernel
theorem kit_tuple_str : kitB "tuple" "str" = some false := by decide +kernel
theorem kit_tuple_tuple : kitB "tuple" "tuple" = some true := by decide +kernel
theorem kit_tuple_list : kitB "tuple" "list" = some false := by decide +kernel
theorem kit_tuple_dict : kitB "tuple" "dict" = some false := by decide +kernel
theorem kit_dict_int : kitB "dict" "int" = some false := by decide +kernel
theorem kit_dict_bool : kitB "dict" "bool" = some false := by decide +kernel
theorem kit_dict_str : kitB "dict" "str" = some false := by decide +kernel
theorem kit_dict_tuple : kitB "dict" "tuple" = some false := by decide +kernel
theorem kit_dict_list : kitB "dict" "list" = some false := by decide +kernel
theorem kit_dict_dict : kitB "dict" "dict" = some true := by decide +kernel
theorem kit_NoneType_int : kitB "NoneType" "int" = some false := by decide +kernel
theorem kit_NoneType_bool : kitB "NoneType" "bool" = some false := by decide +kernel
theorem kit_NoneType_str : kitB "NoneType" "str" = some false := by decide +kernel
theorem kit_NoneType_tuple : kitB "NoneType" "tuple" = some false := by decide +kernel
theorem kit_NoneType_list : kitB "NoneType" "list" = some false := by decide +kernel
theorem kit_NoneType_dict : kitB "NoneType" "dict" = some false := by decide +kernel
end
end Sy
namespace Sy
open PySem PySem.Spec PyProof.Rows L2
/-! ### dicts: displays, stores -/
def putS (kvs : List (Key × Sv)) (k : Key) (x : Sv) : List (Key × Sv) :=
  if (kvs.any fun kv => decide (kv.1 = k)) = true then kvs.map (fun kv => if kv.1 = k then (kv.1, x) else kv) else kvs ++ [(k, x)]
section
variable {K : PySem.W.Frag} {σ : L2.St} {G H : Hp} {m : Ms} {as : List Addr} {v : V} {x : Sv}
theorem svk_any (k : Key) : ∀ {vs : List (Key × V)} {xs : List (Key × Sv)}, SvK K G as vs xs → (vs.any fun kv => decide (kv.1 = k)) = (xs.any fun kv => decide (kv.1 = k))
  | _, _, .nil => rfl
  | _, _, .cons h t => by rw [List.any_cons, List.any_cons, svk_any k t, h.1]
theorem svk_map (k : Key) (r : SvR K G as v x) : ∀ {vs : List (Key × V)} {xs : List (Key × Sv)}, SvK K G as vs xs → SvK K G as (vs.map fun kv => if kv.1 = k then (kv.1, v) else kv) (xs.map fun kv => if kv.1 = k then (kv.1, x) else kv)
  | _, _, .nil => .nil
  | _, _, .cons (a := p) (b := q) h t => by
    refine .cons ?_ (svk_map k r t)
    dsimp only
    rw [h.1]
    by_cases e : q.1 = k
    · rw [if_pos e, if_pos e]; exact ⟨rfl, r⟩
    · rw [if_neg e, if_neg e]; exact h
theorem svk_put {vs : List (Key × V)} {xs : List (Key × Sv)} (h : SvK K G as vs xs) (k : Key) (r : SvR K G as v x) : SvK K G as (putK vs k v) (putS xs k x) := by
  unfold putK putS
  rw [svk_any k h]
  split
  · exact svk_map k r h
  · exact paired_app h (.cons ⟨rfl, r⟩ .nil)
end
/-- the pairs' keys are numbers or texts -/
def keysOf (m : Ms) : List (Sv × Sv) → Option (List (Key × Sv))
  | [] => some []
  | (k, x) :: r => match (vd m.s k).bind keyD, keysOf m r with
    | some k', some r' => some ((k', x) :: r')
    | _, _ => none
def mergeS' (kvs more : List (Key × Sv)) : List (Key × Sv) := more.foldl (fun acc kv => putS acc kv.1 kv.2) kvs
abbrev Pr1 := Ms → (List (Sv × Sv) → Ms → Prop) → Prop
abbrev SvP (K : PySem.W.Frag) (G : Hp) (as : List Addr) : List (V × V) → List (Sv × Sv) → Prop := Paired fun p q => SvR K G as p.1 q.1 ∧ SvR K G as p.2 q.2
def OnP (K : PySem.W.Frag) (σ : L2.St) (G H : Hp) (m : Ms) (as : List Addr) (Q : List (Sv × Sv) → Ms → Prop) : List (V × V) → Hp → Prop := fun vs H' =>
  ∃ G' m' as' xs, Step G H m.s as G' H' m'.s as' ∧ Ok K G' H' σ m' as' ∧ SvP K G' as' vs xs ∧ Q xs m'
structure DPs (X : Cx) (pos : Pos) (keys : List (Option Expr)) (values : List Expr) (t : Pr1) : Prop where
  run : ∃ trs, PPs X pos keys values trs ∧ (∀ (σ : L2.St) (H : Hp) (Q Q' : List (V × V) → Hp → Prop), tPairs trs σ H Q → (∀ ps H', Q ps H' → Q' ps H') → tPairs trs σ H Q') ∧
    ∀ (G H : Hp) (σ : L2.St) (m : Ms) (as : List Addr) (Q : List (Sv × Sv) → Ms → Prop), Ok X.K G H σ m as → t m Q → tPairs trs σ H (OnP X.K σ G H m as Q)
def prN : Pr1 := fun m Q => Q [] m
def prC (tk tv : E1) (tr : Pr1) : Pr1 := fun m Q => tk m fun k m1 => tv m1 fun x m2 => tr m2 fun r m3 => Q ((k, x) :: r) m3
section
variable {X : Cx} {pos : Pos}
theorem dps_nil : DPs X pos [] [] prN := ⟨[], pps_nil, fun σ H Q Q' h k => k _ _ h, fun G H σ m as Q ok q => ⟨G, m, as, [], Step.refl .., ok, .nil, q⟩⟩
theorem dps_cons {k v : Expr} {ks : List (Option Expr)} {vs : List Expr} {tk tv : E1} {tr : Pr1} (hk : DE X k tk) (hv : DE X v tv) (hr : DPs X pos ks vs tr) : DPs X pos (some k :: ks) (v :: vs) (prC tk tv tr) := by
  obtain ⟨trs, h1, h2, h3⟩ := hr
  refine ⟨(tSem X k, tSem X v) :: trs, pps_cons (pe_sem X k) (pe_sem X v) h1, fun σ H Q Q' h kk => ?_, fun G H σ m as Q ok q => ?_⟩
  · exact tSem_mono h fun _ _ h => tSem_mono h fun _ _ h => h2 _ _ _ _ h fun _ _ h => kk _ _ h
  · refine tSem_mono (hk.run G H σ m as _ ok q) fun x H1 ⟨G1, m1, as1, sx, st1, ok1, r1, q1⟩ => ?_
    refine tSem_mono (hv.run G1 H1 σ m1 as1 _ ok1 q1) fun y H2 ⟨G2, m2, as2, sy, st2, ok2, r2, q2⟩ => ?_
    refine h2 _ _ _ _ (h3 G2 H2 σ m2 as2 _ ok2 q2) fun ps H3 ⟨G3, m3, as3, xs, st3, ok3, r3, q3⟩ => ?_
    exact ⟨G3, m3, as3, (sx, sy) :: xs, (st1.trans st2).trans st3, ok3, .cons ⟨(r1.mono st2.g st2.pre).mono st3.g st3.pre, r2.mono st3.g st3.pre⟩ r3, q3⟩
def eDict0 : E1 := fun m Q => Q (.r m.s.length) (m.push (.di []))
theorem de_dict0 : DE X (.Dict [] [] pos) eDict0 := ⟨fun G H σ m as Q ok q => tSem_of pe_dnewK fun p hp => by
  obtain ⟨ok', st⟩ := ok.alloc (o := .dK []) (c := .di []) hp (.di upd_same .nil)
  exact ⟨_, _, _, _, st, ok', .r (snoc_get as p ok.len), q⟩⟩
/-- keys, none twice -/
def ndK : List Key → Bool
  | [] => true
  | k :: r => !(r.any fun j => decide (j = k)) && ndK r
def keyL (m : Ms) : List (Sv × Sv) → Option (List Key)
  | [] => some []
  | (k, _) :: r => match (vd m.s k).bind keyD with
    | some k' => (keyL m r).map (k' :: ·)
    | none => none
def zipK : List Key → List (Sv × Sv) → List (Key × Sv)
  | k :: ks, p :: ps => (k, p.2) :: zipK ks ps
  | _, _ => []
/-- an empty dict first, then the pairs, then these laid in it -/
def eDisp (t : Pr1) : E1 := fun m Q => t (m.push (.di [])) fun ps m1 => one? (m1.s[m.s.length]?) fun c => one? (keyL m1 ps) fun ks => (c = .di [] ∧ ps.length ≤ 15 ∧ ndK ks = true) ∧ Q (.r m.s.length) (m1.setS m.s.length (.di (zipK ks ps)))
theorem keyL_keysOf {m : Ms} : ∀ {ps : List (Sv × Sv)} {ks : List Key}, keyL m ps = some ks → keysOf m ps = some (zipK ks ps) ∧ (zipK ks ps).map (·.1) = ks
  | [], ks, h => by cases h; exact ⟨rfl, rfl⟩
  | (k, x) :: r, ks, h => by
    unfold keyL at h
    unfold keysOf
    cases e : (vd m.s k).bind keyD with
    | none => rw [e] at h; cases h
    | some k' =>
      rw [e] at h
      obtain ⟨ks', e2, rfl⟩ := Option.map_eq_some_iff.mp h
      obtain ⟨h1, h2⟩ := keyL_keysOf e2
      rw [h1]
      exact ⟨rfl, by show k' :: (zipK ks' r).map (·.1) = _; rw [h2]⟩
theorem put_new {acc : List (Key × Sv)} {k : Key} {x : Sv} (h : (acc.any fun kv => decide (kv.1 = k)) = false) : putS acc k x = acc ++ [(k, x)] := by
  unfold putS
  rw [h]
  rfl
theorem merge_nd : ∀ {kvs acc : List (Key × Sv)}, ndK (kvs.map (·.1)) = true → (∀ p ∈ kvs, (acc.any fun kv => decide (kv.1 = p.1)) = false) → mergeS' acc kvs = acc ++ kvs
  | [], acc, _, _ => by rw [List.append_nil]; rfl
  | (k, x) :: r, acc, h, h2 => by
    have h : (!((r.map (·.1)).any fun j => decide (j = k)) && ndK (r.map (·.1))) = true := h
    obtain ⟨h3, h4⟩ := Bool.and_eq_true_iff.mp h
    show mergeS' (putS acc k x) r = _
    rw [put_new (h2 (k, x) List.mem_cons_self), merge_nd h4 (fun p hp => ?_), List.append_assoc]
    · rfl
    · rw [List.any_append, h2 p (List.mem_cons_of_mem _ hp)]
      show (decide (k = p.1) || false) = false
      rw [Bool.or_false]
      refine decide_eq_false fun e => ?_
      have h3 : ((r.map (·.1)).any fun j => decide (j = k)) = false := by simpa using h3
      rw [List.any_eq_false] at h3
      exact h3 p.1 (List.mem_map_of_mem hp) (decide_eq_true e.symm)
theorem keysOf_ok {σ : L2.St} {G H : Hp} {m : Ms} {as : List Addr} (ok : Ok X.K G H σ m as) : ∀ {ps : List (V × V)} {xs : List (Sv × Sv)} {kvs : List (Key × Sv)}, SvP X.K G as ps xs → keysOf m xs = some kvs →
    ∃ us : List (Key × V), ps = us.map (fun kv => (kV kv.1, kv.2)) ∧ SvK X.K G as us kvs
  | _, _, kvs, .nil, h => by cases h; exact ⟨[], rfl, .nil⟩
  | _, _, kvs, .cons (a := (p1, p2)) (b := (q1, q2)) (l₁ := ps) (l₂ := xs) h t, e => by
    unfold keysOf at e
    cases e1 : (vd m.s q1).bind keyD with
    | none => rw [e1] at e; cases e
    | some k' =>
      cases e2 : keysOf m xs with
      | none => rw [e1, e2] at e; cases e
      | some r' =>
        rw [e1, e2] at e
        cases e
        obtain ⟨us, rfl, r2⟩ := keysOf_ok ok t e2
        obtain ⟨d, e0, e3⟩ := Option.bind_eq_some_iff.mp e1
        have hk := keyD_ok (vd_ok ok h.1 e0) e3
        exact ⟨(k', p2) :: us, by rw [List.map_cons, show p1 = kV k' from hk], .cons ⟨rfl, h.2⟩ r2⟩
theorem svk_merge {G : Hp} {as : List Addr} : ∀ {more : List (Key × V)} {xs : List (Key × Sv)} {vs : List (Key × V)} {ys : List (Key × Sv)}, SvK X.K G as more xs → SvK X.K G as vs ys → SvK X.K G as (mergeK vs more) (mergeS' ys xs)
  | _, _, _, _, .nil, h => h
  | _, _, vs, ys, .cons (a := p) (b := q) (l₁ := l1) (l₂ := l2) h t, h' => by
    have h2 : SvK X.K G as (putK vs p.1 p.2) (putS ys q.1 q.2) := by
      rw [h.1]; exact svk_put h' _ h.2
    exact svk_merge (more := l1) (xs := l2) t h2
theorem de_disp {keys : List (Option Expr)} {values : List Expr} {t : Pr1} (h : DPs X pos keys values t) (hall : keys.all (·.isSome) = true) (hl : keys.length = values.length) (h0 : keys ≠ []) (h15 : keys.length ≤ 15) : DE X (.Dict keys values pos) (eDisp t) := by
  obtain ⟨trs, h1, h2, h3⟩ := h
  refine ⟨fun G H σ m as Q ok q => tSem_of (pe_disp h1 hall hl h0 h15) fun p hp => ?_⟩
  obtain ⟨ok', st⟩ := ok.alloc (o := .dK []) (c := .di []) hp (.di upd_same .nil)
  have hpa : (as ++ [p])[m.s.length]? = some p := snoc_get as p ok.len
  refine h2 _ _ _ _ (h3 G _ σ _ _ _ ok' q) fun ps H2 ⟨G2, m2, as2, xs, st2, ok2, r2, q2⟩ => ?_
  obtain ⟨c, e1, q3⟩ := one_cases q2
  obtain ⟨ks, e0, ⟨rfl, hn, hnd⟩, q4⟩ := one_cases q3
  obtain ⟨e2, hks⟩ := keyL_keysOf e0
  have hmg : mergeS' [] (zipK ks xs) = zipK ks xs := merge_nd (by rw [hks]; exact hnd) (fun _ _ => rfl)
  have hzl : (zipK ks xs).length ≤ 15 := by
    have h1 : (zipK ks xs).length ≤ xs.length := by
      have : ∀ (ks : List Key) (ps : List (Sv × Sv)), (zipK ks ps).length ≤ ps.length := by
        intro ks
        induction ks with
        | nil => intro ps; exact Nat.zero_le _
        | cons k ks ih =>
          intro ps
          cases ps with
          | nil => exact Nat.zero_le _
          | cons p ps => exact Nat.succ_le_succ (ih ps)
      exact this ks xs
    exact Nat.le_trans h1 hn
  have ha := st2.pre _ _ hpa
  have cr := ok2.ce _ _ _ e1 ha
  have hH : H2 p = some (.dK []) := by
    cases cr with
    | di z t => cases t; exact z
  obtain ⟨us, rfl, ru⟩ := keysOf_ok ok2 r2 e2
  refine ⟨hH, us, rfl, by rw [Paired.length ru]; exact hzl, ?_⟩
  obtain ⟨ok3, st3⟩ := ok2.setc (o := .dK (mergeK [] us)) (c := .di (zipK ks xs)) e1 rfl ha (.di upd_same (by have h := svk_merge ru (vs := []) (ys := []) .nil; rw [hmg] at h; exact h))
  exact ⟨G2, _, as2, _, (st.trans st2).trans st3, ok3, .r ha, q4⟩
end
/-- a dict that may change -/
def diAt (S : List Cell) : Sv → Option (Nat × List (Key × Sv))
  | .r k => (S[k]?).bind fun c => match c with
    | .di xs => some (k, xs)
    | _ => none
  | _ => none
section
variable {X : Cx} {K : PySem.W.Frag} {σ : L2.St} {G H : Hp} {m : Ms} {as : List Addr} {v : V} {x : Sv}
theorem diAt_ok (ok : Ok K G H σ m as) (r : SvR K G as v x) {k : Nat} {xs : List (Key × Sv)} (h : diAt m.s x = some (k, xs)) :
    ∃ a vs, v = .ref a ∧ as[k]? = some a ∧ m.s[k]? = some (.di xs) ∧ H a = some (.dK vs) ∧ SvK K G as vs xs := by
  cases x with
  | no => cases h
  | d _ => cases h
  | r j =>
    obtain ⟨a, ha, e⟩ := svr r
    have h : (m.s[j]?).bind (fun c => match c with
      | .di xs => some (j, xs)
      | _ => none) = some (k, xs) := h
    cases hc : m.s[j]? with
    | none => rw [hc] at h; cases h
    | some c =>
      rw [hc] at h
      cases c with
      | di ys =>
        have q := ok.ce j _ a hc ha
        cases h
        cases q with
        | @di vs _ q t => exact ⟨a, vs, e, ha, hc, q, t⟩
      | gone => cases h
      | fz _ => cases h
      | tp _ => cases h
      | ls _ => cases h
      | ob _ _ => cases h
      | dl _ => cases h
      | hid => cases h
def stSem (X : Cx) : TSet := fun o i v H Q => ∀ (pins : List (Addr × Obj)) (s : Shared) (σ : L2.St) (ov iv u : Value), Inv X pins σ H s → RelV o ov → RelV i iv → RelV v u →
    wpAny (model X.prog X.w) X.A (setItem ov iv u) (fun _ s' => ∃ H', Inv X pins σ H' s' ∧ Q H') X.xe s
theorem st_sem (X : Cx) : PSet X (stSem X) := fun pins s σ _ _ _ _ ov iv u _ I ro ri rv h => h pins s σ ov iv u I ro ri rv
theorem stSem_of {t : TSet} (h : PSet X t) {o i w : V} {H : Hp} {Q : Hp → Prop} (q : t o i w H Q) : stSem X o i w H Q := fun pins s σ ov iv u I ro ri rv => h pins s σ H o i w ov iv u Q I ro ri rv q
theorem stSem_mono {o i w : V} {H : Hp} {Q Q' : Hp → Prop} (h : stSem X o i w H Q) (k : ∀ H, Q H → Q' H) : stSem X o i w H Q' := fun pins s σ ov iv u I ro ri rv =>
  thn (h pins s σ ov iv u I ro ri rv) fun _ _ ⟨H', I', q⟩ => ⟨H', I', k _ q⟩
def oSetL (o i x : Sv) (m : Ms) (Q : Ms → Prop) : Prop := both (lsAt m.s o) i.int? (fun p i => one? (ixN p.2.length i) fun j => Q (m.setS p.1 (.ls (p.2.set j x)))) False
def oSet (o i x : Sv) (m : Ms) (Q : Ms → Prop) : Prop := both (diAt m.s o) ((vd m.s i).bind keyD) (fun p k => p.2.length < sizeLine ∧ Q (m.setS p.1 (.di (putS p.2 k x)))) (oSetL o i x m Q)
theorem paired_set {α β : Type} {F : α → β → Prop} {x : α} {y : β} (h : F x y) : ∀ {a : List α} {b : List β} (j : Nat), Paired F a b → Paired F (a.set j x) (b.set j y)
  | _, _, _, .nil => .nil
  | _, _, 0, .cons r t => .cons h t
  | _, _, j + 1, .cons r t => .cons r (paired_set h j t)
theorem oSet_ok (hu : X.A.units + 1 < cLine) {o i w : V} {so si sx : Sv} {Q : Ms → Prop} (ok : Ok X.K G H σ m as) (ro : SvR X.K G as o so) (ri : SvR X.K G as i si) (rw' : SvR X.K G as w sx) (q : oSet so si sx m Q) :
    stSem X o i w H (On X.K σ G H m as Q) := by
  have qq := both_cases q
  clear q
  rcases qq with ⟨⟨k, xs⟩, key, e1, e2, hl, q1⟩ | q1
  · obtain ⟨a, vs, rfl, ha, hc, h1, h2⟩ := diAt_ok ok ro e1
    obtain ⟨d, e0, e2⟩ := Option.bind_eq_some_iff.mp e2
    have ei := keyD_ok (vd_ok ok ri e0) e2
    refine stSem_of (set_dict hu) ⟨a, _, rfl, by rw [ei]; exact DPut.k h1 (by rw [Paired.length h2]; exact hl), ?_⟩
    obtain ⟨ok', st⟩ := ok.setc (o := .dK (putK vs key w)) (c := .di (putS xs key sx)) hc rfl ha (.di upd_same (svk_put h2 _ rw'))
    exact ⟨G, _, as, st, ok', q1⟩
  have qq := both_cases q1
  clear q1
  rcases qq with ⟨⟨k, xs⟩, i', e1, e2, q2⟩ | q2
  · obtain ⟨a, vs, rfl, ha, hc, h1, h2⟩ := lsAt_ok ok ro e1
    obtain ⟨j, e3, q3⟩ := one_cases q2
    rw [Sv.int_eq e2] at ri
    refine stSem_of set_list ⟨a, vs, i', j, rfl, sv_int ri, h1, by rw [sva_len h2]; exact e3, ?_⟩
    obtain ⟨ok', st⟩ := ok.setc (o := .lst (vs.set j w)) (c := .ls (xs.set j sx)) hc rfl ha (.ls upd_same (paired_set rw' j h2))
    exact ⟨G, _, as, st, ok', q3⟩
  · exact q2.elim
def gSubS (to ti : E1) : G1 := fun x m Q => to m fun o m1 => ti m1 fun i m2 => oSet o i x m2 Q
theorem dg_sub {o i : Expr} {to ti : E1} {pos : Pos} (hu : X.A.units + 1 < cLine) (ho : DE X o to) (hi : DE X i ti)
    (ha : ∀ v, assign (.Subscript o i pos) X.env v = (do
      let ov ← holding [v] (eval o X.env)
      let iv ← holding [v, ov] (eval i X.env)
      standAt pos
      holding [v, ov, iv] (setItem ov iv v)
      release [v, ov, iv] []) := by intro _; rfl) : DG X (.Subscript o i pos) [] (gSubS to ti) :=
  ⟨fun G H σ m as v x Q ok r q => gSem_of (pg_sub (pe_sem X o) (pe_sem X i) (st_sem X) ha) (by
    refine tSem_mono (ho.run G H σ m as _ ok q) fun ov H1 ⟨G1, m1, as1, so, st1, ok1, r1, q1⟩ => ?_
    refine tSem_mono (hi.run G1 H1 σ m1 as1 _ ok1 q1) fun iv H2 ⟨G2, m2, as2, si, st2, ok2, r2, q2⟩ => ?_
    have st := st1.trans st2
    refine stSem_mono (oSet_ok hu ok2 (r1.mono st2.g st2.pre) r2 (r.mono st.g st.pre) q2) fun H3 h => ⟨Bt.refl _ _, On.from st h⟩)⟩
/-! ### name += e -/
abbrev IpD (X : Cx) (op : Operator) (o : O2) := OpD X (inplaceOp op) o
theorem ds_aug {i : Nat} {y : Str} {e : Expr} {te : E1} {op : Operator} {o : O2} {pos pos' : Pos} (hN : X.N.Nodup) (hi : X.N[i]? = some y) (hx : Loc X.env.scope y) (he : DE X e te) (ho : IpD X op o) (hf : X.fn y = true ∨ X.env.scope.names.lookup y = some .local := by first | exact .inl rfl | exact .inr rfl | assumption) :
    DS X (.AugAssign (.Name y pos') op e pos) (sAug i te o) := ⟨fun G H σ m as D ok q => sSem_of (ps_aug hN hi hx (pe_sem X e) (op_sem X _) hf) (by
  have fin : ∀ (sx : Sv) (v : V), σ[i]? = some (some v) → SvR X.K G as v sx → (te m fun w m1 => o sx w m1 fun z m2 => D.nx (m2.setE i z)) → tAug i (tSem X e) (rSem X (inplaceOp op)) (OnE X.K G H m as D) σ H := fun sx v h r q => by
    refine ⟨v, h, tSem_mono (he.run G H σ m as _ ok q) fun w H1 ⟨G1, m1, as1, sw, st1, ok1, r1, q1⟩ => ?_⟩
    refine rSem_mono (fun z H2 ⟨G2, m2, as2, sz, st2, ok2, r2, q2⟩ => ?_) (ho.run G1 H1 σ m1 as1 v w sx sw _ ok1 (r.mono st1.g st1.pre) r1 q1)
    exact ⟨G2, m2.setE i sz, as2, st1.trans st2, ok2.slot r2, q2⟩
  have q : eV i m (fun x m0 => te m0 fun y m1 => o x y m1 fun z m2 => D.nx (m2.setE i z)) := q
  unfold eV at q
  cases e1 : m.e[i]? with
  | none => rw [e1] at q; exact q.elim
  | some sx =>
    rw [e1] at q
    have sv := ok.sv i sx e1
    cases sx with
    | no => exact q.elim
    | d y =>
      rcases sv with z | ⟨v, h, r⟩
      · cases z
      · exact fin _ v h r q
    | r k =>
      rcases sv with z | ⟨v, h, r⟩
      · cases z
      · exact fin _ v h r q)⟩
theorem id_add : IpD X .Add (oInt (fun _ _ => True) fun i j => .int (i + j)) := ⟨fun G H σ m as v u x y Q ok r1 r2 q => by
  have qq := both_cases q
  clear q
  rcases qq with ⟨i, j, e1, e2, q⟩ | q
  · rw [Sv.int_eq e1] at r1
    rw [Sv.int_eq e2] at r2
    exact rSem_of ip_add ⟨i, j, sv_int r1, sv_int r2, OnV.d ok (.int _) q.2⟩
  · exact q.elim⟩
theorem id_sub : IpD X .Sub (oInt (fun _ _ => True) fun i j => .int (i - j)) := ⟨fun G H σ m as v u x y Q ok r1 r2 q => by
  have qq := both_cases q
  clear q
  rcases qq with ⟨i, j, e1, e2, q⟩ | q
  · rw [Sv.int_eq e1] at r1
    rw [Sv.int_eq e2] at r2
    exact rSem_of ip_sub ⟨i, j, sv_int r1, sv_int r2, OnV.d ok (.int _) q.2⟩
  · exact q.elim⟩
/-! ### range -/
def rng (lo : Int) (n : Nat) : List Sv := (List.range n).map fun i => .d (.int (lo + (i : Nat)))
theorem itD_rng {lo : Int} {n : Nat} {G0 : Hp} {as0 : List Addr} : ItD K (Itr lo n) (rng lo n) (fun _ => True) G0 as0 where
  go := fun i y G H σ m as hi sg pr ok hc => by
    unfold rng at hi
    rw [List.getElem?_map] at hi
    obtain ⟨c, e, rfl⟩ := Option.map_eq_some_iff.mp hi
    have hl : i < n := by have := (List.getElem?_eq_some_iff.mp e).1; simpa using this
    rw [List.getElem?_range hl] at e
    cases e
    refine ⟨hl, fun w H' ⟨eH, h1⟩ => ?_⟩
    subst eH h1
    exact ⟨G, Step.refl .., ok, .d (.int _)⟩
  stop := fun G H σ m as sg pr ok hc => by
    show n ≤ _
    unfold rng
    rw [List.length_map, List.length_range]
    exact Nat.le_refl _
def sml (i : Int) : Prop := -(2 ^ 62) ≤ i ∧ i < 2 ^ 62
def iRange1 (t : A1) : I1 := fun m R => t m fun xs m1 => match xs with
  | [x] => one? x.int? fun j => sml j ∧ R (rng 0 j.toNat) (fun _ => True) m1
  | _ => False
def iRange2 (t : A1) : I1 := fun m R => t m fun xs m1 => match xs with
  | [x, y] => both x.int? y.int? (fun i j => sml i ∧ sml j ∧ R (rng i (j - i).toNat) (fun _ => True) m1) False
  | _ => False
variable {tg : Expr}
theorem di_range1 {a : Expr} {ta : A1} {p pos : Pos} (hg : Gl X "range") (hm : X.mg "range" = none) (ha : DA X [a] ta) (hs : starEach [a] X.env = [(false, eval a X.env)] := by rfl) : DI X tg (.Call (.Name "range" p) [a] [] pos) (iRange1 ta) := ⟨fun G H σ m as R ok q =>
  iSemT_of (pi_range1 hg hm (pa_sem X [a]) hs) (by
    refine aSem_mono (ha.run G H σ m as _ ok q) fun vs H1 ⟨G1, m1, as1, xs, st1, ok1, r1, q1⟩ => ?_
    match xs, r1, q1 with
    | [x], r1, q1 =>
      obtain ⟨v, rfl, r2⟩ := sva1 r1
      obtain ⟨j, e, ⟨h1, h2⟩, q2⟩ := one_cases q1
      rw [Sv.int_eq e] at r2
      exact ⟨j, by rw [sv_int r2], h1, h2, G1, m1, as1, _, _, st1, ok1, itD_rng, q2⟩)⟩
theorem di_range2 {a b : Expr} {ta : A1} {p pos : Pos} (hg : Gl X "range") (hm : X.mg "range" = none) (ha : DA X [a, b] ta) (hs : starEach [a, b] X.env = [(false, eval a X.env), (false, eval b X.env)] := by rfl) (hs2 : starEach [b] X.env = [(false, eval b X.env)] := by rfl) :
    DI X tg (.Call (.Name "range" p) [a, b] [] pos) (iRange2 ta) := ⟨fun G H σ m as R ok q =>
  iSemT_of (pi_range2 hg hm (pa_sem X [a, b]) hs hs2) (by
    refine aSem_mono (ha.run G H σ m as _ ok q) fun vs H1 ⟨G1, m1, as1, xs, st1, ok1, r1, q1⟩ => ?_
    match xs, r1, q1 with
    | [x, y], r1, q1 =>
      obtain ⟨v, u, rfl, r2, r3⟩ := sva2 r1
      have qq := both_cases q1
      clear q1
      rcases qq with ⟨i, j, e1, e2, ⟨h1, h2⟩, ⟨h3, h4⟩, q2⟩ | q2
      · rw [Sv.int_eq e1] at r2
        rw [Sv.int_eq e2] at r3
        exact ⟨i, j, by rw [sv_int r2, sv_int r3], ⟨h1, h2, h3, h4⟩, G1, m1, as1, _, _, st1, ok1, itD_rng, q2⟩
      · exact q2.elim)⟩
end
end Sy
namespace Sy
/-- kept apart -/
inductive Hold (p : Prop) : Prop
  | mk : p → Hold p
theorem Hold.out {p : Prop} (h : Hold p) : p := by cases h with | mk h => exact h
open PySem PySem.Spec PyProof.Rows L2
/-! ### a deal: opened, shut -/
def dlC (sd nm : Int) (j : Nat) : Cell := .di [(.inr "seed", .d (.int sd)), (.inr "number", .d (.int nm)), (.inr "left", .r j)]
def intsL (ns : List Int) : Cell := .ls (ns.map fun n => .d (.int n))
structure DlB (sd nm : Int) (ns : List Int) : Prop where
  s0 : 0 ≤ sd
  s1 : sd < 2147483648
  n0 : 0 ≤ nm
  l0 : ∀ n ∈ ns, 0 ≤ n
section
variable {K : PySem.W.Frag} {σ : L2.St} {G H : Hp} {m : Ms} {as : List Addr}
theorem Ok.recell {k : Nat} {c c' : Cell} (ok : Ok K G H σ m as) (hk : m.s[k]? = some c) (hl : c.live = true) (hl' : c'.live = true) (hc : ∀ a, as[k]? = some a → CellR K G H as a c → CellR K G H as a c') :
    Ok K G H σ (m.setS k c') as ∧ Step G H m.s as G H (m.setS k c').s as := by
  refine ⟨⟨ok.same, by show _ = (m.s.set k c').length; rw [List.length_set, ok.len], ok.el, ok.nd, ok.alive, fun b h => ?_, ok.sv, fun j c2 b h h' => ?_⟩,
    ⟨Same.refl G, fun _ h => h, fun _ _ h _ => h, Pre.refl as, fun j b h hj => ?_, fun j c2 h hl2 hj => ?_, fun b h => .inl h⟩⟩
  · obtain ⟨j, c2, h1, h2, h3⟩ := h
    rcases get_set (show (m.s.set k c')[j]? = some c2 from h1) with ⟨_, h1⟩ | ⟨rfl, _, _⟩
    · exact ok.out b ⟨j, c2, h1, h2, h3⟩
    · exact ok.out b ⟨j, c, hk, h2, hl⟩
  · rcases get_set (show (m.s.set k c')[j]? = some c2 from h) with ⟨_, h⟩ | ⟨rfl, e, _⟩
    · exact ok.ce j c2 b h h'
    · rw [e]; exact hc b h' (ok.ce j c b hk h')
  · have := (List.getElem?_eq_some_iff.mp h).1
    omega
  · rcases get_set (show (m.s.set k c')[j]? = some c2 from h) with ⟨_, h⟩ | ⟨rfl, _, _⟩
    · exact ⟨c2, h, hl2⟩
    · exact ⟨c, hk, hl⟩
theorem sva_ints {ns : List Int} : SvA K G as (ns.map V.int) (ns.map fun n => .d (.int n)) := by
  induction ns with
  | nil => exact .nil
  | cons n r ih => exact .cons (.d (.int n)) ih
theorem ints_sva {vs : List V} : ∀ {ns : List Int}, SvA K G as vs (ns.map fun n => .d (.int n)) → vs = ns.map V.int
  | [], h => by cases h; rfl
  | n :: r, h => by
    cases h with
    | cons a t => rw [sv_int a, ints_sva t]; rfl
def openM (m : Ms) (k j : Nat) (sd nm : Int) (ns : List Int) : Ms := (m.setS k (dlC sd nm j)).setS j (intsL ns)
def shutM (m : Ms) (k j : Nat) : Ms := (m.setS k (.dl j)).setS j .hid
theorem set_get {α : Type} {l : List α} {j k : Nat} {x y : α} (h : l[j]? = some y) (hn : k ≠ j) : (l.set k x)[j]? = some y := by
  rw [List.getElem?_set_ne hn]; exact h
theorem Ok.openD {k j : Nat} (ok : Ok K G H σ m as) (hk : m.s[k]? = some (.dl j)) (hj : m.s[j]? = some .hid) :
    ∃ sd nm ns, DlB sd nm ns ∧ Ok K G H σ (openM m k j sd nm ns) as ∧ Step G H m.s as G H (openM m k j sd nm ns).s as := by
  have hkj : k ≠ j := fun e => by rw [e, hj] at hk; cases hk
  have lk : k < as.length := by rw [ok.len]; exact (List.getElem?_eq_some_iff.mp hk).1
  have lj : j < as.length := by rw [ok.len]; exact (List.getElem?_eq_some_iff.mp hj).1
  have cj := ok.ce j _ _ hj (List.getElem?_eq_getElem lj)
  have ck := ok.ce k _ _ hk (List.getElem?_eq_getElem lk)
  cases cj with
  | @hid ns hH h0 =>
    cases ck with
    | @dl _ l sd nm z1 z2 z3 z4 z5 =>
      obtain ⟨ok1, st1⟩ := ok.recell (c' := dlC sd nm j) hk rfl rfl (fun a ha _ => by
        rw [List.getElem?_eq_getElem lk] at ha; cases ha
        exact .di z2 (.cons ⟨rfl, .d (.int sd)⟩ (.cons ⟨rfl, .d (.int nm)⟩ (.cons ⟨rfl, .r z1⟩ .nil))))
      obtain ⟨ok2, st2⟩ := ok1.recell (k := j) (c := .hid) (c' := intsL ns) (set_get hj hkj) rfl rfl (fun a ha _ => by
        rw [List.getElem?_eq_getElem lj] at ha; cases ha
        exact .ls hH sva_ints)
      exact ⟨sd, nm, ns, ⟨z3, z4, z5, h0⟩, ok2, st1.trans st2⟩
theorem Ok.shutD {k j : Nat} {sd nm : Int} {ns : List Int} (ok : Ok K G H σ m as) (hk : m.s[k]? = some (dlC sd nm j)) (hj : m.s[j]? = some (intsL ns)) (b : DlB sd nm ns) :
    Ok K G H σ (shutM m k j) as ∧ Step G H m.s as G H (shutM m k j).s as := by
  have hkj : k ≠ j := fun e => by rw [e, hj] at hk; cases hk
  obtain ⟨ok1, st1⟩ := ok.recell (c' := .dl j) hk rfl rfl (fun a ha h => by
    cases h with
    | di z t =>
      cases t with
      | cons t1 t =>
        cases t with
        | cons t2 t =>
          cases t with
          | cons t3 t =>
            cases t
            rename_i p1 p2 p3
            obtain ⟨e1, r1⟩ := t1
            obtain ⟨e2, r2⟩ := t2
            obtain ⟨e3, r3⟩ := t3
            obtain ⟨l, hl, e4⟩ := svr r3
            obtain ⟨a1, b1⟩ := p1
            obtain ⟨a2, b2⟩ := p2
            obtain ⟨a3, b3⟩ := p3
            dsimp only at e1 e2 e3 r1 r2 e4
            subst e1 e2 e3 e4
            cases sv_int r1
            cases sv_int r2
            exact .dl hl z b.s0 b.s1 b.n0)
  obtain ⟨ok2, st2⟩ := ok1.recell (k := j) (c := intsL ns) (c' := .hid) (set_get hj hkj) rfl rfl (fun a ha h => by
    cases h with
    | ls z t =>
      rw [ints_sva t] at z
      exact .hid z b.l0)
  exact ⟨ok2, st1.trans st2⟩
end
section
variable {X : Cx} {b : List Stmt} {t : S1}
def sOpen (k j : Nat) (t : S1) : S1 := fun D m => m.s[k]? = some (.dl j) ∧ m.s[j]? = some .hid ∧ ∀ sd nm ns, DlB sd nm ns → t D (openM m k j sd nm ns)
theorem db_open (k j : Nat) (h : DB X b t) : DB X b (sOpen k j t) := ⟨fun G H σ m as D ok q => by
  obtain ⟨hk, hj, q⟩ := q
  obtain ⟨sd, nm, ns, hb, ok1, st1⟩ := ok.openD hk hj
  exact onEb_from st1 (h.run G H σ _ as D ok1 (q sd nm ns hb))⟩
def shutR (k j : Nat) (Q : SK) : SK := fun r m => ∃ sd nm ns, m.s[k]? = some (dlC sd nm j) ∧ m.s[j]? = some (intsL ns) ∧ DlB sd nm ns ∧ Q r (shutM m k j)
def sShut (k j : Nat) (t : S1) : S1 := fun D m => t { D with rt := shutR k j D.rt } m
theorem db_shut (k j : Nat) (h : DB X b t) : DB X b (sShut k j t) := ⟨fun G H σ m as D ok q => by
  refine bSem_mono (h.run G H σ m as _ ok q) (fun _ _ h => h) (fun v H' ⟨σ', G', m', as', r, st, ok', sv, q'⟩ => ?_) (fun _ _ h => h) (fun _ _ h => h)
  obtain ⟨sd, nm, ns, hk, hj, hb, q2⟩ := q'
  obtain ⟨ok1, st1⟩ := ok'.shutD hk hj hb
  exact ⟨σ', G', _, as', r, st.trans st1, ok1, sv, q2⟩⟩
end
theorem ix_dl {k j : Nat} (h : k ≠ j) : ixOf [k, j] j = some 1 := by
  unfold ixOf
  rw [if_neg h]
  unfold ixOf
  rw [if_pos rfl]
  rfl
theorem lend_dl {k j : Nat} (h : k ≠ j) : lendc [k, j] (.dl j) = .dl 1 := by
  show (match ixOf [k, j] j with
    | some i => Cell.dl i
    | none => .gone) = _
  rw [ix_dl h]
theorem lend_dv {k j : Nat} : lendv [k, j] (.r k) = .r 0 := by
  show (match ixOf [k, j] k with
    | some i => Sv.r i
    | none => .no) = _
  unfold ixOf
  rw [if_pos rfl]
/-! ### a def's promise, by the way in which it hands back -/
abbrev RT := Nat → Sv → Ms → SC → Prop
def RetOk (R : RT) : Prop := ∀ {K : PySem.W.Frag} {σ : L2.St} {G H G0 H0 : Hp} {m : Ms} {as as0 : List Addr} {S0 : List Cell} {v : V} {r : Sv} {Q : SC}, Ok K G H σ m as → Step G0 H0 S0 as0 G H m.s as → SvR K G as v r → R as0.length r m Q →
  ∃ G' r' S' as', Step G0 H0 S0 as0 G' H S' as' ∧ Ok K G' H [some v] ⟨[r'], S'⟩ as' ∧ Q r' S'
theorem retD_ok : RetOk retD := fun ok st h q => by
  obtain ⟨r', S', as', h1, h2, h3⟩ := ret_ok ok st h q
  exact ⟨_, r', S', as', h1, h2, h3⟩
/-- what is handed back stands still -/
def retF : RT := fun n r m Q => fzv r m fun d m' => Q (.d d) (m'.cut n).s
theorem retF_ok : RetOk retF := fun {K σ G H G0 H0 m as as0 S0 v r Q} ok st h q => by
  obtain ⟨d, G', m', st1, ok1, rp, q1⟩ := fzv_ok ok h q
  have st' := Step.cut (m0 := ⟨[], S0⟩) (st.trans st1) (Nat.le_refl as0.length)
  exact ⟨G', _, _, _, st', ok_only (ok1.cut as0.length) (.d rp), q1⟩
/-- a new deal is handed back, to a caller that lent nothing -/
def retDl : RT := fun n r m Q => n = 0 ∧ ∃ k j sd nm ns, r = .r k ∧ m.s[k]? = some (dlC sd nm j) ∧ m.s[j]? = some (intsL ns) ∧ DlB sd nm ns ∧ Q (.r 0) [.dl 1, .hid]
theorem retDl_ok : RetOk retDl := fun {K σ G H G0 H0 m as as0 S0 v r Q} ok st h q => by
  obtain ⟨hn, k, j, sd, nm, ns, rfl, hk, hj, hb, q⟩ := q
  obtain ⟨ok1, st1⟩ := ok.shutD hk hj hb
  have hkj : k ≠ j := fun e => by rw [e, hj] at hk; cases hk
  have lk := (List.getElem?_eq_some_iff.mp hk).1
  have lj := (List.getElem?_eq_some_iff.mp hj).1
  have e1 : (shutM m k j).s = (m.s.set k (.dl j)).set j .hid := rfl
  have ls : (shutM m k j).s.length = m.s.length := by rw [e1, List.length_set, List.length_set]
  have g1 : (shutM m k j).s[k]? = some (.dl j) := by
    rw [e1, List.getElem?_set_ne (Ne.symm hkj), List.getElem?_set_self lk]
  have g2 : (shutM m k j).s[j]? = some .hid := by
    rw [e1, List.getElem?_set_self (by rw [List.length_set]; exact lj)]
  have nd : [k, j].Nodup := by simp [hkj]
  have hl : ∀ i ∈ [k, j], i < (shutM m k j).s.length := fun i hi => by
    rw [ls]
    rcases List.mem_cons.mp hi with z | z
    · rw [z]; exact lk
    · rw [List.mem_singleton.mp z]; exact lj
  have stt := st.trans st1
  have okl := lend_ok (vs := [v]) (ys := [.r k]) ok1 nd hl (.cons h .nil)
  have hcells : ([k, j].map fun i => lendc [k, j] ((shutM m k j).s.getD i .gone)) = [.dl 1, .hid] := by
    show [lendc [k, j] ((shutM m k j).s.getD k .gone), lendc [k, j] ((shutM m k j).s.getD j .gone)] = _
    rw [List.getD_eq_getElem?_getD, List.getD_eq_getElem?_getD, g1, g2]
    show [lendc [k, j] (.dl j), .hid] = _
    rw [lend_dl hkj]
  have hv : [Sv.r k].map (lendv [k, j]) = [.r 0] := by
    show [lendv [k, j] (.r k)] = _
    rw [lend_dv]
  rw [hcells, hv] at okl
  refine ⟨G, .r 0, [.dl 1, .hid], lendA as [k, j], ⟨stt.g, stt.dom, stt.fr, fun i a hi => ?_, fun i a hi _ => ?_, fun i c _ _ hi => ?_, stt.gd⟩, okl, q⟩
  · have := (List.getElem?_eq_some_iff.mp hi).1
    omega
  · have hl' : ∀ i ∈ [k, j], i < as.length := fun i hi => by rw [ok1.len]; exact hl i hi
    obtain ⟨i', e1, f1⟩ := lendA_get hl' hi
    exact stt.new i' a f1 (by omega)
  · omega
section
variable {P : Program} {w : World} {K : PySem.W.Frag} {mg : Str → Option Value} {base : Heap}
theorem fnR {R : RT} (hR : RetOk R) {x qual : Str} {st : Stmt} {f : Addr} {fd : FuncData} {N ps : List Str} {k : Nat} {C : Con} (F : Fun K x qual st f fd) (Sc : FnScope N ps (defScope st)) (hC : ∀ xs S Q, C xs S Q → xs.length = ps.length)
    (hbody : ∀ (cdv : Value) (A : Around) (outer : List Env) (s : Shared) (H : Hp) (E : XK), Room k (A.deeper (envOfC qual (defScope st) s.heap.objs.size f cdv)) → ∀ xs S Q, C xs S Q →
      ∃ t, DB (cxOf CX0 P w K mg base N qual (defScope st) f cdv A outer s H E).nox (defBody st) t ∧ t { nx := fun m => R S.length (.d .non) m Q, rt := fun r m => R S.length r m Q } ⟨begE N.length xs, S⟩) :
    FnOk P w K mg base CX0 (k + 1) f fd ps (spD K C) := by
  refine F.ok Sc (fun vs H Q E h => ?_) (fun cdv A outer s H vs Q E hr h => ?_)
  · obtain ⟨G, as, xs, S, Qc, ok, hl, hc, _⟩ := h
    rw [← hl]; exact hC xs S Qc hc
  · obtain ⟨G, as, xs, S, Qc, ok, hl, hc, fin⟩ := h
    obtain ⟨t, ht, q⟩ := hbody cdv A outer s H E hr xs S Qc hc
    refine ⟨_, pss_sem _ _, ?_⟩
    have hpl : ps.length ≤ N.length := by have := congrArg List.length Sc.pre; rw [List.length_take] at this; omega
    have hxl : xs.length = ps.length := hC xs S Qc hc
    have ok0 : Ok K G H (start N vs) ⟨begE N.length xs, S⟩ as := by
      refine ⟨ok.same, ok.len, ?_, ok.nd, ok.alive, ok.out, fun i x e => ?_, ok.ce⟩
      · show (xs ++ List.replicate (N.length - xs.length) Sv.no).length ≤ (vs.map some ++ List.replicate (N.length - vs.length) none).length
        rw [List.length_append, List.length_append, List.length_replicate, List.length_replicate, List.length_map, hl]
        exact Nat.le_refl _
      · have e : (xs ++ List.replicate (N.length - xs.length) Sv.no)[i]? = some x := e
        by_cases hi : i < xs.length
        · rw [List.getElem?_append_left hi] at e
          rcases ok.sv i x e with z | ⟨v, z, r⟩
          · exact .inl z
          · refine .inr ⟨v, ?_, r⟩
            show (vs.map some ++ _)[i]? = _
            rw [List.getElem?_append_left (by rw [List.length_map, ← hl]; exact hi)]
            exact z
        · rw [List.getElem?_append_right (by omega), List.getElem?_replicate] at e
          split at e
          · cases e; exact .inl rfl
          · cases e
    have hS : S.length = as.length := ok.len.symm
    have back : ∀ v H', (∃ σ', OnV K σ' G H ⟨begE N.length xs, S⟩ as (fun r m => R S.length r m Qc) v H') → Q v H' := fun v H' ⟨σ', G', m', as', r, st, ok', sv, q'⟩ => by
      rw [hS] at q'
      obtain ⟨G2, r', S', as2, st2, ok2, q2⟩ := hR ok' st sv q'
      exact fin v H' G2 as2 r' S' st2 ok2 q2
    refine bSem_mono (ht.run G H _ _ as _ ok0 q) (fun σ' H' ⟨G', m', as', st, ok', q'⟩ => ?_) back (fun _ _ ⟨_, _, _, _, _, z⟩ => z.elim) (fun _ _ ⟨_, _, _, _, _, z⟩ => z.elim)
    exact back .non H' ⟨σ', G', m', as', .d .non, st, ok', .d .non, q'⟩
end
/-! ### promises of data: without cells; with a deal -/
abbrev PR := List D → (D → Prop) → Prop
def cP (P : PR) : Con := fun xs S Q => ∃ ds, xs = ds.map .d ∧ S = [] ∧ P ds fun d => Q (.d d) []
def cDl (P : PR) : Con := fun xs S Q => ∃ ds, xs = .r 0 :: ds.map .d ∧ S = [.dl 1, .hid] ∧ P ds fun d => Q (.d d) [.dl 1, .hid]
/-- values that stand still -/
def fzT : List Sv → Ms → (List D → Ms → Prop) → Prop
  | [], m, Q => Q [] m
  | x :: xs, m, Q => fzv x m fun d m1 => fzT xs m1 fun ds m2 => Q (d :: ds) m2
def eCallP (P : PR) (ta : A1) : E1 := fun m Q => ta m fun xs m1 => fzT xs m1 fun ds m2 => P ds fun d => Q (.d d) m2
def dlAt (S : List Cell) : Sv → Option (Nat × Nat)
  | .r k => (S[k]?).bind fun c => match c with
    | .dl j => (S[j]?).bind fun c => match c with
      | .hid => some (k, j)
      | _ => none
    | _ => none
  | _ => none
def eCallD (P : PR) (ta : A1) : E1 := fun m Q => ta m fun xs m1 => match xs with
  | x :: r => fzT r m1 fun ds m2 => one? (dlAt m2.s x) fun _ => P ds fun d => Q (.d d) m2
  | [] => False
theorem fzT_len : ∀ {xs : List Sv} {m : Ms} {Q : List D → Ms → Prop}, fzT xs m Q → fzAll (xs.map fun _ => true) xs m fun ys m2 => ∃ ds, ys = ds.map .d ∧ Q ds m2
  | [], m, Q, h => ⟨[], rfl, h⟩
  | x :: xs, m, Q, h => by
    show fzv x m fun d m1 => fzAll (xs.map fun _ => true) xs m1 fun ys m2 => ∃ ds, Sv.d d :: ys = ds.map .d ∧ Q ds m2
    have mono : ∀ {Q1 Q2 : D → Ms → Prop}, fzv x m Q1 → (∀ d m, Q1 d m → Q2 d m) → fzv x m Q2 := fun {Q1 Q2} h k => by
      cases x with
      | no => exact h
      | d d => exact k _ _ h
      | r i =>
        obtain ⟨c, e, h⟩ := one_cases h
        obtain ⟨d, e2, h⟩ := one_cases h
        exact Sy.one?.yes e (Sy.one?.yes e2 (k _ _ h))
    refine mono h fun d m1 h1 => ?_
    have := fzT_len (xs := xs) (m := m1) (Q := fun ds m2 => Q (d :: ds) m2) h1
    have mono2 : ∀ {xs : List Sv} {m : Ms} {Q1 Q2 : List Sv → Ms → Prop}, fzAll (xs.map fun _ => true) xs m Q1 → (∀ ys m, Q1 ys m → Q2 ys m) → fzAll (xs.map fun _ => true) xs m Q2 := by
      intro xs
      induction xs with
      | nil => intro m Q1 Q2 h k; exact k _ _ h
      | cons x xs ih =>
        intro m Q1 Q2 h k
        have h : fzv x m fun d m1 => fzAll (xs.map fun _ => true) xs m1 fun ys m2 => Q1 (.d d :: ys) m2 := h
        show fzv x m fun d m1 => fzAll (xs.map fun _ => true) xs m1 fun ys m2 => Q2 (.d d :: ys) m2
        cases x with
        | no => exact h
        | d d => exact ih (show fzAll _ xs m _ from h) fun ys m h => k _ _ h
        | r i =>
          obtain ⟨c, e, h⟩ := one_cases h
          obtain ⟨d, e2, h⟩ := one_cases h
          exact Sy.one?.yes e (Sy.one?.yes e2 (ih h fun ys m h => k _ _ h))
    exact mono2 this fun ys m2 ⟨ds, e, q⟩ => ⟨d :: ds, by rw [e]; rfl, q⟩
theorem svRefs_d (ds : List D) : svRefs (ds.map .d) = [] := by
  induction ds with
  | nil => rfl
  | cons d r ih => exact ih
theorem loans_d (S : List Cell) (ds : List D) : loans S (ds.map .d) = [] := by
  unfold loans
  rw [svRefs_d]
  rfl
theorem lendv_d (js : List Nat) (ds : List D) : (ds.map Sv.d).map (lendv js) = ds.map .d := by
  rw [List.map_map]; rfl
theorem loans_dl {S : List Cell} {k j : Nat} (ds : List D) (hk : S[k]? = some (.dl j)) (hj : S[j]? = some .hid) : loans S (.r k :: ds.map .d) = [k, j] := by
  have hkj : k ≠ j := fun e => by rw [e, hj] at hk; cases hk
  have g1 : S.getD k .gone = .dl j := by rw [List.getD_eq_getElem?_getD, hk]; rfl
  have g2 : S.getD j .gone = .hid := by rw [List.getD_eq_getElem?_getD, hj]; rfl
  unfold loans
  show reachS 3 S ((k :: svRefs (ds.map .d)).foldl addN []) = _
  rw [svRefs_d]
  show reachS 3 S [k] = _
  have h1 : (([k] : List Nat).flatMap fun k => kids (S.getD k .gone)) = [j] := by
    show kids (S.getD k .gone) ++ [] = _
    rw [g1]; rfl
  have h2 : (([k, j] : List Nat).flatMap fun k => kids (S.getD k .gone)) = [j] := by
    show kids (S.getD k .gone) ++ (kids (S.getD j .gone) ++ []) = _
    rw [g1, g2]; rfl
  have a1 : ([j] : List Nat).foldl addN [k] = [k, j] := by
    show addN [k] j = _
    unfold addN
    rw [if_neg (by simp [Ne.symm hkj])]
    rfl
  have a2 : ([j] : List Nat).foldl addN [k, j] = [k, j] := by
    show addN [k, j] j = _
    unfold addN
    rw [if_pos (by simp)]
  show reachS 2 S ((([k] : List Nat).flatMap fun k => kids (S.getD k .gone)).foldl addN [k]) = _
  rw [h1, a1]
  show reachS 1 S ((([k, j] : List Nat).flatMap fun k => kids (S.getD k .gone)).foldl addN [k, j]) = _
  rw [h2, a2]
  show (([k, j] : List Nat).flatMap fun k => kids (S.getD k .gone)).foldl addN [k, j] = _
  rw [h2, a2]
theorem merge_nil (S : List Cell) : mergeS [] S [] = S := by
  unfold mergeS putL
  simp
theorem merge_dl {S : List Cell} {k j : Nat} (hk : S[k]? = some (.dl j)) (hj : S[j]? = some .hid) : mergeS [k, j] S [.dl 1, .hid] = S := by
  unfold mergeS
  show putL [k, j] S [.dl j, .hid] ++ [] = S
  rw [List.append_nil]
  show (S.set k (.dl j)).set j .hid = S
  have lk := (List.getElem?_eq_some_iff.mp hk)
  have lj := (List.getElem?_eq_some_iff.mp hj)
  obtain ⟨l1, e1⟩ := lk
  obtain ⟨l2, e2⟩ := lj
  have s1 : S.set k (.dl j) = S := by rw [← e1, List.set_getElem_self]
  rw [s1, ← e2, List.set_getElem_self]
theorem dlAt_some {S : List Cell} {x : Sv} {p : Nat × Nat} (h : dlAt S x = some p) : x = .r p.1 ∧ S[p.1]? = some (.dl p.2) ∧ S[p.2]? = some .hid := by
  cases x with
  | no => cases h
  | d _ => cases h
  | r k =>
    obtain ⟨c, e1, h⟩ := Option.bind_eq_some_iff.mp (show ((S[k]?).bind fun c => match c with
    | .dl j => (S[j]?).bind fun c => match c with
      | .hid => some (k, j)
      | _ => none
    | _ => none) = some p from h)
    cases c <;> first | (cases h; done) | skip
    rename_i j
    obtain ⟨c2, e2, h⟩ := Option.bind_eq_some_iff.mp (show ((S[j]?).bind fun c => match c with
      | .hid => some (k, j)
      | _ => none) = some p from h)
    cases c2 <;> first | (cases h; done) | skip
    cases h
    exact ⟨rfl, e1, e2⟩
section
variable {X : Cx} {e : Expr} {es : List Expr} {ta : A1} {x : Str} {p pos : Pos} {f : Addr} {fd : FuncData} {ps : List Str} {k : Nat} {P : PR}
theorem sp_callX {C : Con} {σ : L2.St} {G H : Hp} {m : Ms} {as : List Addr} {Q : SK} {vs : List V} {xs : List Sv} (bs : List Bool) (ok : Ok X.K G H σ m as) (h : SvA X.K G as vs xs) (E : XK) {Q0 : List Sv → Ms → Prop}
    (q0 : fzAll bs xs m Q0) (q : ∀ ys m2, Q0 ys m2 → (loans m2.s ys).Nodup ∧ (∀ j ∈ loans m2.s ys, j < m2.s.length) ∧ C (ys.map (lendv (loans m2.s ys))) ((loans m2.s ys).map fun j => lendc (loans m2.s ys) (m2.s.getD j .gone)) fun r S' => Q (backv (loans m2.s ys) m2.s.length r) ⟨m2.e, mergeS (loans m2.s ys) m2.s S'⟩) :
    spD X.K C vs H (OnV X.K σ G H m as Q) E := by
  obtain ⟨ys, G1, m1, st1, ok1, r1, q1⟩ := fzAll_ok ok h q0
  obtain ⟨nd, hl, q1⟩ := q ys m1 q1
  refine ⟨G1, _, _, _, _, lend_ok ok1 nd hl r1, by rw [List.length_map]; exact (sva_len r1).symm, q1, fun v H' G' as' r S' st ok' q2 => ?_⟩
  obtain ⟨st2, ok2, sv⟩ := back_ok ok1 nd hl st ok'
  exact ⟨G', _, _, _, st1.trans st2, ok2, sv, q2⟩
theorem de_callC {C : Con} {t : List Sv → Ms → SK → Prop} (F : FnOk X.prog X.w X.K X.mg X.base CX0 k f fd ps (spD X.K C)) (hr : Room k X.A) (hg : Gl X x) (hm : X.mg x = some (.ref f)) (hk : PySem.W.keepIn X.K (.ref f) = true) (hb : Binds X.K fd ps [])
    (ha : DA X (e :: es) ta) (hC : ∀ xs m Q, t xs m Q → ∃ bs Q0, fzAll bs xs m Q0 ∧ ∀ ys m2, Q0 ys m2 → (loans m2.s ys).Nodup ∧ (∀ j ∈ loans m2.s ys, j < m2.s.length) ∧ C (ys.map (lendv (loans m2.s ys))) ((loans m2.s ys).map fun j => lendc (loans m2.s ys) (m2.s.getD j .gone)) fun r S' => Q (backv (loans m2.s ys) m2.s.length r) ⟨m2.e, mergeS (loans m2.s ys) m2.s S'⟩)
    (hdb : (x == ("__debug__" : Str)) = false := by decide) (he : starEach (e :: es) X.env = (false, eval e X.env) :: starEach es X.env := by rfl) (hpl : (backTo pos (starEach es X.env)).any (·.1) = false := by rfl) :
    DE X (.Call (.Name x p) (e :: es) [] pos) (fun m Q => ta m fun xs m1 => t xs m1 Q) := ⟨fun G H σ m as Q ok q => tSem_of (pe_call F hr hg hm hk hb .nil pass0 (pa_sem X (e :: es)) hdb he hpl) (by
  refine aSem_mono (ha.run G H σ m as _ ok q) fun vs H1 ⟨G1, m1, as1, xs, st1, ok1, r1, q1⟩ => ?_
  obtain ⟨bs, Q0, q2, q3⟩ := hC xs m1 Q q1
  have hh := sp_callX (Q := Q) bs ok1 r1 E0 q2 q3
  rw [List.append_nil]
  obtain ⟨Ga, as0, ys, S, Qc, h1, h2, h3, h4⟩ := hh
  exact ⟨Ga, as0, ys, S, Qc, h1, h2, h3, fun v H' G' as' r S' a b c => OnV.from st1 (h4 v H' G' as' r S' a b c)⟩)⟩
theorem de_callP (F : FnOk X.prog X.w X.K X.mg X.base CX0 k f fd ps (spD X.K (cP P))) (hr : Room k X.A) (hg : Gl X x) (hm : X.mg x = some (.ref f)) (hk : PySem.W.keepIn X.K (.ref f) = true) (hb : Binds X.K fd ps [])
    (ha : DA X (e :: es) ta) (hdb : (x == ("__debug__" : Str)) = false := by decide) (he : starEach (e :: es) X.env = (false, eval e X.env) :: starEach es X.env := by rfl) (hpl : (backTo pos (starEach es X.env)).any (·.1) = false := by rfl) :
    DE X (.Call (.Name x p) (e :: es) [] pos) (eCallP P ta) :=
  de_callC F hr hg hm hk hb ha (fun xs m Q q => ⟨_, _, fzT_len q, fun ys m2 ⟨ds, e, q2⟩ => by
    subst e
    rw [loans_d]
    refine ⟨List.nodup_nil, (fun j hj => by cases hj), ds, lendv_d _ _, rfl, ?_⟩
    dsimp only
    rw [merge_nil]
    exact q2⟩) hdb he hpl
theorem de_callDl (F : FnOk X.prog X.w X.K X.mg X.base CX0 k f fd ps (spD X.K (cDl P))) (hr : Room k X.A) (hg : Gl X x) (hm : X.mg x = some (.ref f)) (hk : PySem.W.keepIn X.K (.ref f) = true) (hb : Binds X.K fd ps [])
    (ha : DA X (e :: es) ta) (hdb : (x == ("__debug__" : Str)) = false := by decide) (he : starEach (e :: es) X.env = (false, eval e X.env) :: starEach es X.env := by rfl) (hpl : (backTo pos (starEach es X.env)).any (·.1) = false := by rfl) :
    DE X (.Call (.Name x p) (e :: es) [] pos) (eCallD P ta) :=
  de_callC (t := fun xs m1 Q => match xs with
    | x :: r => fzT r m1 fun ds m2 => one? (dlAt m2.s x) fun _ => P ds fun d => Q (.d d) m2
    | [] => False) F hr hg hm hk hb ha (fun xs m Q q => by
    cases xs with
    | nil => exact q.elim
    | cons y r =>
      refine ⟨false :: (r.map fun _ => true), fun ys m2 => ∃ ds, ys = y :: ds.map .d ∧ one? (dlAt m2.s y) fun _ => P ds fun d => Q (.d d) m2, ?_, fun ys m2 ⟨ds, e, q2⟩ => ?_⟩
      · have h := fzT_len (xs := r) (m := m) q
        have mono2 : ∀ {xs : List Sv} {m : Ms} {Q1 Q2 : List Sv → Ms → Prop}, fzAll (xs.map fun _ => true) xs m Q1 → (∀ ys m, Q1 ys m → Q2 ys m) → fzAll (xs.map fun _ => true) xs m Q2 := by
          intro xs
          induction xs with
          | nil => intro m Q1 Q2 h k; exact k _ _ h
          | cons x xs ih =>
            intro m Q1 Q2 h k
            have h : fzv x m fun d m1 => fzAll (xs.map fun _ => true) xs m1 fun ys m2 => Q1 (.d d :: ys) m2 := h
            show fzv x m fun d m1 => fzAll (xs.map fun _ => true) xs m1 fun ys m2 => Q2 (.d d :: ys) m2
            cases x with
            | no => exact h
            | d d => exact ih (show fzAll _ xs m _ from h) fun ys m h => k _ _ h
            | r i =>
              obtain ⟨c, e, h⟩ := one_cases h
              obtain ⟨d, e2, h⟩ := one_cases h
              exact Sy.one?.yes e (Sy.one?.yes e2 (ih h fun ys m h => k _ _ h))
        exact mono2 h fun ys m2 ⟨ds, e, q⟩ => ⟨ds, by rw [e], q⟩
      · subst e
        obtain ⟨⟨k, j⟩, e1, q3⟩ := one_cases q2
        obtain ⟨rfl, hk, hj⟩ := dlAt_some e1
        have hkj : k ≠ j := fun e => by dsimp only at hk hj; rw [e, hj] at hk; cases hk
        rw [loans_dl ds hk hj]
        have lk := (List.getElem?_eq_some_iff.mp hk).1
        have lj := (List.getElem?_eq_some_iff.mp hj).1
        refine ⟨by simp [hkj], fun i hi => ?_, ds, ?_, ?_, ?_⟩
        · rcases List.mem_cons.mp hi with z | z
          · rw [z]; exact lk
          · rw [List.mem_singleton.mp z]; exact lj
        · rw [List.map_cons, lendv_d]
          show lendv [k, j] (.r k) :: _ = _
          rw [lend_dv]
        · show [lendc [k, j] (m2.s.getD k .gone), lendc [k, j] (m2.s.getD j .gone)] = _
          rw [List.getD_eq_getElem?_getD, List.getD_eq_getElem?_getD, hk, hj]
          show [lendc [k, j] (.dl j), .hid] = _
          rw [lend_dl hkj]
        · dsimp only
          rw [merge_dl hk hj]
          exact q3) hdb he hpl
end
/-! ### small facts for what is kept apart -/
theorem mulA {i j : Int} (h : -18446744073709551616 < i) (h' : i < 18446744073709551616) : CMul i j := .inl ⟨h, h'⟩
theorem mulB {i j : Int} (h : -18446744073709551616 < j) (h' : j < 18446744073709551616) : CMul i j := .inr ⟨h, h'⟩
theorem divA {i j : Int} (h : 0 < j) (h' : j < 4611686018427387904) : CDivW i j := ⟨h, by
  have h1 : j.natAbs < 2 ^ 62 := by omega
  have h2 := (Nat.log2_lt (n := j.natAbs) (k := 62) (by omega)).mpr h1
  omega⟩
theorem szLt {n : Nat} (h : Nat.ble n 1000 = true) : n < sizeLine := Nat.lt_of_le_of_lt (Nat.le_of_ble_eq_true h) (by decide)
theorem szLe {n : Nat} (h : Nat.ble n 1000 = true) : n ≤ sizeLine := Nat.le_of_lt (szLt h)
theorem pop_get (ns : List Int) (h : ns ≠ []) : (ns.map fun n => Sv.d (.int n))[(ns.map fun n => Sv.d (.int n)).length - 1]? = some (.d (.int (ns.getLast h))) := by
  rw [List.getElem?_map, List.length_map, ← List.getLast?_eq_getElem?, List.getLast?_eq_getLast h]
  rfl
theorem cut_ints {n : Nat} {S : List Cell} (ns : List Int) : ((ns.map fun n => Sv.d (.int n)).dropLast).map (cutv n S) = ns.dropLast.map fun n => Sv.d (.int n) := by
  rw [← List.map_dropLast, List.map_map]
  rfl
theorem cutL_map {α β : Type} (f : α → β) (xs : List α) (lo hi : Option Int) : cutL (xs.map f) lo hi = (cutL xs lo hi).map f := by
  unfold cutL
  rw [List.length_map, List.map_take, List.map_drop]
theorem cutL_le {α : Type} (xs : List α) (lo hi : Option Int) : (cutL xs lo hi).length ≤ xs.length := by
  unfold cutL
  rw [List.length_take, List.length_drop]
  omega
theorem mem_cutL {α : Type} {xs : List α} {lo hi : Option Int} {x : α} (h : x ∈ cutL xs lo hi) : x ∈ xs := List.mem_of_mem_drop (List.mem_of_mem_take h)
def iL (ns : List Int) : List Sv := ns.map fun n => .d (.int n)
theorem iL_get {ns : List Int} {i : Nat} {x : Sv} (h : (iL ns)[i]? = some x) : ∃ n, ns[i]? = some n ∧ x = .d (.int n) ∧ n ∈ ns := by
  unfold iL at h
  rw [List.getElem?_map] at h
  obtain ⟨n, e, rfl⟩ := Option.map_eq_some_iff.mp h
  exact ⟨n, e, rfl, List.mem_of_getElem? e⟩
theorem get_lt {α : Type} {l : List α} {i : Nat} {x : α} (h : l[i]? = some x) : i < l.length := (List.getElem?_eq_some_iff.mp h).1
theorem iL_d (ns : List Int) : ((ns.map D.int).map Sv.d) = iL ns := by
  rw [List.map_map]; rfl
/-- the deal: of whole numbers, from a place on -/
def cDeal : Con := fun xs S Q => ∃ (ns : List Int) (b : Int), xs = [.d (.scr (ns.map .int)), .d (.int b)] ∧ S = [] ∧ (ns.length ≤ 63 ∧ 0 ≤ b ∧ b ≤ 1000) ∧ Q (.r 0) [.dl 1, .hid]
theorem cut_iL {n : Nat} {S : List Cell} (ns : List Int) : (iL ns).map (cutv n S) = iL ns := by
  unfold iL
  rw [List.map_map]
  rfl
theorem cut_md {n : Nat} {S : List Cell} (ds : List D) : (ds.map Sv.d).map (cutv n S) = ds.map Sv.d := by
  rw [List.map_map]
  rfl
theorem max_neg (n : Int) : 0 ≤ (if 0 - n > n then 0 - n else n) := by split <;> omega
theorem szLt' {n : Nat} (h : n ≤ 1000000) : n < sizeLine := Nat.lt_of_le_of_lt h (by decide)
theorem szLe' {n : Nat} (h : n ≤ 1000000) : n ≤ sizeLine := Nat.le_of_lt (szLt' h)
theorem ms2 {e : List Sv} {a a' b b' : List Sv} (h : a = a') (h' : b = b') : Ms.mk e [.ls a, .ls b] = Ms.mk e [.ls a', .ls b'] := by rw [h, h']
theorem snoc_int (zs : List Int) (z : Int) : zs.map D.int ++ [.int z] = (zs ++ [z]).map D.int := by rw [List.map_append]; rfl
theorem snoc_nn {zs : List Int} {z : Int} (h : ∀ x ∈ zs, 0 ≤ x) (h' : 0 ≤ z) : ∀ x ∈ zs ++ [z], 0 ≤ x := fun x hx => by
  rcases List.mem_append.mp hx with hx | hx
  · exact h x hx
  · rw [List.mem_singleton.mp hx]; exact h'
theorem snoc_len {α : Type} (zs : List α) (z : α) : (zs ++ [z]).length = zs.length + 1 := by rw [List.length_append]; rfl
theorem rev_ints (ws : List Int) : ((ws.map D.int).map Sv.d).reverse = ws.reverse.map fun n => Sv.d (.int n) := by rw [iL_d]; unfold iL; rw [List.map_reverse]
theorem lc2 {a a' b b' : List Sv} {c : List Cell} (h : a = a') (h' : b = b') : Cell.ls a :: Cell.ls b :: c = .ls a' :: .ls b' :: c := by rw [h, h']
def eDeal (ta : A1) : E1 := fun m Q => ta m fun xs m1 => ∃ (ns : List Int) (b : Int), xs = [.d (.scr (ns.map .int)), .d (.int b)] ∧ (ns.length ≤ 63 ∧ 0 ≤ b ∧ b ≤ 1000) ∧ Q (.r m1.s.length) ⟨m1.e, m1.s ++ [.dl (m1.s.length + 1), .hid]⟩
section
variable {X : Cx} {e : Expr} {es : List Expr} {ta : A1} {x : Str} {p pos : Pos} {f : Addr} {fd : FuncData} {ps : List Str} {k : Nat}
theorem de_deal (F : FnOk X.prog X.w X.K X.mg X.base CX0 k f fd ps (spD X.K cDeal)) (hr : Room k X.A) (hg : Gl X x) (hm : X.mg x = some (.ref f)) (hk : PySem.W.keepIn X.K (.ref f) = true) (hb : Binds X.K fd ps [])
    (ha : DA X (e :: es) ta) (hdb : (x == ("__debug__" : Str)) = false := by decide) (he : starEach (e :: es) X.env = (false, eval e X.env) :: starEach es X.env := by rfl) (hpl : (backTo pos (starEach es X.env)).any (·.1) = false := by rfl) :
    DE X (.Call (.Name x p) (e :: es) [] pos) (eDeal ta) :=
  de_callC (t := fun xs m1 Q => ∃ (ns : List Int) (b : Int), xs = [.d (.scr (ns.map .int)), .d (.int b)] ∧ (ns.length ≤ 63 ∧ 0 ≤ b ∧ b ≤ 1000) ∧ Q (.r m1.s.length) ⟨m1.e, m1.s ++ [.dl (m1.s.length + 1), .hid]⟩) F hr hg hm hk hb ha (fun xs m Q ⟨ns, b, e, hb, q⟩ => by
    subst e
    refine ⟨[], fun ys m2 => ys = [.d (.scr (ns.map .int)), .d (.int b)] ∧ m2 = m, ⟨rfl, rfl⟩, fun ys m2 ⟨e1, e2⟩ => ?_⟩
    subst e1 e2
    have hl : loans m2.s [.d (.scr (ns.map .int)), .d (.int b)] = [] := loans_d m2.s [.scr (ns.map .int), .int b]
    rw [hl]
    refine ⟨List.nodup_nil, (fun j hj => by cases hj), ns, b, rfl, rfl, hb, ?_⟩
    have e1 : mergeS [] m2.s [.dl 1, .hid] = m2.s ++ [.dl (m2.s.length + 1), .hid] := by
      unfold mergeS putL
      rfl
    dsimp only
    rw [e1]
    exact q) hdb he hpl
end
theorem rng_get {lo : Int} {n i : Nat} {x : Sv} (h : (rng lo n)[i]? = some x) : x = .d (.int (lo + (i : Nat))) ∧ i < n := by
  unfold rng at h
  rw [List.getElem?_map] at h
  obtain ⟨c, e, rfl⟩ := Option.map_eq_some_iff.mp h
  have hl : i < n := by have := (List.getElem?_eq_some_iff.mp e).1; simpa using this
  rw [List.getElem?_range hl] at e
  cases e
  exact ⟨rfl, hl⟩
theorem rng_len (lo : Int) (n : Nat) : (rng lo n).length = n := by
  unfold rng
  rw [List.length_map, List.length_range]
theorem md_get {α : Type} {f : α → D} {ts : List α} {i : Nat} {x : Sv} (h : ((ts.map f).map Sv.d)[i]? = some x) : ∃ t, ts[i]? = some t ∧ x = .d (f t) ∧ t ∈ ts := by
  rw [List.map_map, List.getElem?_map] at h
  obtain ⟨n, e, rfl⟩ := Option.map_eq_some_iff.mp h
  exact ⟨n, e, rfl, List.mem_of_getElem? e⟩
theorem md_len {α : Type} (f : α → D) (ts : List α) : ((ts.map f).map Sv.d).length = ts.length := by rw [List.length_map, List.length_map]
theorem md_app {α : Type} (f : α → D) (ts us : List α) : ((ts.map f).map Sv.d) ++ ((us.map f).map Sv.d) = ((ts ++ us).map f).map Sv.d := by rw [List.map_append, List.map_append]
theorem md_cut {α : Type} (f : α → D) (ts : List α) (lo hi : Option Int) : cutL ((ts.map f).map Sv.d) lo hi = ((cutL ts lo hi).map f).map Sv.d := by rw [cutL_map, cutL_map]
theorem allD_md (ds : List D) : allD (ds.map Sv.d) = some ds := by
  induction ds with
  | nil => rfl
  | cons d r ih => unfold List.map allD; rw [ih]
theorem blsD_rep (n : Nat) (b : Bool) : blsD (List.replicate n (.bl b)) = some (List.replicate n b) := by
  induction n with
  | zero => rfl
  | succ n ih => rw [List.replicate_succ, List.replicate_succ]; unfold blsD; rw [ih]; rfl
theorem all_rep (n : Nat) : (List.replicate n true).all id = true := by
  rw [List.all_eq_true]
  intro x h
  rw [(List.mem_replicate.mp h).2]
  rfl
theorem rep_snoc (n : Nat) (d : D) : List.replicate n d ++ [d] = List.replicate (n + 1) d := (List.replicate_succ' ..).symm
theorem smlA {i : Int} (h : -4611686018427387904 ≤ i) (h' : i < 4611686018427387904) : sml i := ⟨h, h'⟩
theorem lc4 {a a' b b' : List Sv} {c : List Cell} (h : a = a') (h' : b = b') : Cell.dl 1 :: Cell.hid :: Cell.ls a :: Cell.ls b :: c = .dl 1 :: .hid :: .ls a' :: .ls b' :: c := by rw [h, h']
theorem ms4 {e : List Sv} {a a' b b' : List Sv} (h : a = a') (h' : b = b') : Ms.mk e [.dl 1, .hid, .ls a, .ls b] = Ms.mk e [.dl 1, .hid, .ls a', .ls b'] := by rw [h, h']
theorem ms5 {e : List Sv} {a a' b b' : List Sv} {c : Cell} (h : a = a') (h' : b = b') : Ms.mk e [.dl 1, .hid, .ls a, .ls b, c] = Ms.mk e [.dl 1, .hid, .ls a', .ls b', c] := by rw [h, h']
theorem lc6 {a a' b b' c c' d d' : List Sv} (h : a = a') (h' : b = b') (h2 : c = c') (h3 : d = d') : [Cell.dl 1, Cell.hid, Cell.ls a, Cell.ls b, Cell.ls c, Cell.ls d] = [Cell.dl 1, Cell.hid, Cell.ls a', Cell.ls b', Cell.ls c', Cell.ls d'] := by rw [h, h', h2, h3]
/-- a law: it answers True to every script -/
def cLaw : Con := fun xs S Q => ∃ ns : List Int, xs = [.d (.scr (ns.map .int))] ∧ S = [] ∧ ns.length ≤ 63 ∧ Q (.d (.bl true)) []
theorem rp_ints {K : PySem.W.Frag} {G : Hp} (ns : List Int) : RpAll K G (ns.map V.int) (ns.map D.int) := by
  induction ns with
  | nil => exact .nil
  | cons n r ih => exact .cons (.int n) ih
theorem law_in {K : PySem.W.Frag} {H : Hp} {a : Addr} {ns : List Int} {Q : VK} {E : XK} (hl : ns.length ≤ 63) (hS : SqL K H a (ns.map V.int)) (hQ : ∀ H', Q (.bl true) H') : spD K cLaw [.ref a] H Q E := by
  refine ⟨H, [], [.d (.scr (ns.map .int))], [], fun r _ => r = .d (.bl true), ⟨Same.refl H, rfl, Nat.le_refl _, (fun i j b h => by cases h), (fun k b h => by cases h), (fun b ⟨k, c, h, _⟩ => by cases h), fun i x h => ?_, (fun k c b h => by cases h)⟩, rfl, ⟨ns, rfl, rfl, hl, rfl⟩, fun v H' G' as' r S' st ok q => ?_⟩
  · obtain ⟨rfl, rfl⟩ := one_get h
    exact .inr ⟨_, rfl, .d (.scr hS (rp_ints ns))⟩
  · subst q
    rcases ok.sv 0 _ rfl with z | ⟨v', z, r⟩
    · cases z
    · cases z
      cases svd r
      exact hQ H'
end Sy
namespace Sy
open PySem PySem.Spec PyProof.Rows L2
/-! ### promises of defs that are called while no repr is under way -/
structure FnG (P : Program) (w : World) (K : PySem.W.Frag) (mg : Str → Option Value) (base : Heap) (k : Nat) (f : Addr) (fd : FuncData) (ps : List Str) (sp : Sp) : Prop where
  arity : ∀ vs H Q E, sp vs H Q E → vs.length = ps.length
  go : ∀ {A : Around} {outer : List Env} {s : Shared} {H : Hp} {args : Args} {us : List Value} {vs : List V} {Q : VK} {E : XK}, Room k A → A.guards = some [] → Env0 P w K mg base A outer s H → BindsTo s fd args (ps.zip us) → Vals vs us → sp vs H Q E →
    codeAny (model P w) A (.call (.ref f) args) (CR CX0 outer P w H s Q E) s
theorem FnG.mono {P : Program} {w : World} {K : PySem.W.Frag} {mg : Str → Option Value} {base : Heap} {j k : Nat} {f : Addr} {fd : FuncData} {ps : List Str} {sp : Sp} (F : FnG P w K mg base j f fd ps sp) (h : j ≤ k) : FnG P w K mg base k f fd ps sp :=
  ⟨F.arity, fun hr => F.go (hr.mono h)⟩
section
variable {P : Program} {w : World} {K : PySem.W.Frag} {mg : Str → Option Value} {base : Heap}
theorem Fun.okG {x qual : Str} {st : Stmt} {f : Addr} {fd : FuncData} {N ps : List Str} {k : Nat} {sp : Sp} (F : Fun K x qual st f fd) (Sc : FnScope N ps (defScope st)) (ar : ∀ vs H Q E, sp vs H Q E → vs.length = ps.length)
    (bd : ∀ (cdv : Value) (A : Around) (outer : List Env) (s : Shared) (H : Hp) (vs : List V) (Q : VK) (E : XK), Room k (A.deeper (envOfC qual (defScope st) s.heap.objs.size f cdv)) → A.guards = some [] → sp vs H Q E →
      ∃ t, PSs (cxOf CX0 P w K mg base N qual (defScope st) f cdv A outer s H E).nox (defBody st) t ∧ t { nx := fun _ H' => Q .non H', rt := Q } (start N vs) H) : FnG P w K mg base (k + 1) f fd ps sp := by
  obtain ⟨oc, od, kV, doc, pm, an, cdv, ct, osl, rfl, at_, code⟩ := F.ex
  refine ⟨ar, fun {A outer s H args us vs Q E} room free e0 bnd rel hsp => ?_⟩
  have inK : K.In s.heap := e0.mod.kin.keeps fun b o z => (e0.bs b o z).1
  have noLim := e0.mod.nolimit.keeps (fun b o z => (e0.bs b o z).1 : ∀ b o, base.get? b = some o → s.heap.get? b = some o)
  refine codeAny_call_function room.depth (inK _ _ at_) rfl Sc.co Sc.gen rfl (PySem.W.codeRec_of inK code) (bnd _ _ _ _ ?_)
  refine wpAny_newFunctionEnv_cells Sc.kind (fun ⟨n, v⟩ hy => (Sc.par n (List.of_mem_zip hy).1).imp id fun q => ⟨q, PySem.W.cellsFrom_some _ _ _ (.inl q)⟩) fun env he s1 x1 => ?_
  subst he
  refine ⟨noLim.keeps x1.toInCall.keep, codeAny_func ?_⟩
  obtain ⟨t, walk, q0⟩ := bd cdv A outer s H vs Q E (room.deeper _) free hsp
  have st0 : Inv (cxOf CX0 P w K mg base N qual (defScope st) f cdv A outer s H E) [] (start N vs) H s1 := inv_start Sc room.hd e0 (ar _ _ _ _ hsp) rel x1
  refine wpAny_mono (walk.nox.run [] s1 (start N vs) H _ st0 q0) (fun fl s2 z => ?_) fun e s2 z => z
  cases fl with
  | next => exact match z with | ⟨_, H2, J, q⟩ => ⟨V.non, H2, J.os, J.bare, J.base, J.hok, rfl, q⟩
  | ret u => exact match z with | ⟨v, _, H2, J, r2, q⟩ => ⟨v, H2, J.os, J.bare, J.base, J.hok, r2, q⟩
  | brk => exact match z with | ⟨_, _, _, q⟩ => q.elim
  | cont => exact match z with | ⟨_, _, _, q⟩ => q.elim
end
section
variable {X : Cx} {e : Expr} {es : List Expr} {x : Str} {p pos : Pos} {f : Addr} {fd : FuncData} {ps : List Str} {k : Nat} {sp : Sp}
theorem FnG.call {pins : List (Addr × Obj)} {σ : L2.St} {H : Hp} {s : Shared} {Q : VK} {us : List Value} {vs : List V} (F : FnG X.prog X.w X.K X.mg X.base k f fd ps sp) (hr : Room k X.A) (free : X.A.guards = some []) (hb : Binds X.K fd ps [])
    (I : Inv X pins σ H s) (rel : Vals vs us) (h : sp vs H Q E0) : wpAny (model X.prog X.w) X.A (PySem.call (.ref f) us) (EP X pins σ Q) X.xe s := by
  have n : (us ++ ([] : List Value)).length = ps.length := by rw [List.append_nil, ← Vals.length rel]; exact F.arity _ _ _ _ h
  have bnd := hb s us I.kIn n
  rw [List.append_nil] at bnd
  refine wpAny_call (codeAny_mono (F.go hr free I.env0 bnd rel h) fun r s2 z => ?_)
  match r, z with
  | .ok (.ret u), z => exact I.after z
theorem pe_callG {t : TA} (F : FnG X.prog X.w X.K X.mg X.base k f fd ps sp) (hr : Room k X.A) (free : X.A.guards = some []) (hg : Gl X x) (hm : X.mg x = some (.ref f)) (hk : PySem.W.keepIn X.K (.ref f) = true) (hb : Binds X.K fd ps [])
    (ha : PA X (e :: es) t) (hdb : (x == ("__debug__" : Str)) = false := by decide) (he : starEach (e :: es) X.env = (false, eval e X.env) :: starEach es X.env := by rfl) (hpl : (backTo pos (starEach es X.env)).any (·.1) = false := by rfl) :
    PE X (.Call (.Name x p) (e :: es) [] pos) (fun σ H Q => t σ H fun vs H1 => sp vs H1 Q E0) := ⟨fun pins s σ H Q I h =>
  wpAny_Call_Name_kw (ld_glob I hg hm (PySem.W.callWith_K (h₀ := X.base) I.ok.mod.kin hk (thn (ha.run pos pins s σ H _ I h) fun us s1 ⟨vs, H1, I1, r, q⟩ => ⟨I1.kIn, F.call hr free hb I1 r q⟩) he hpl) hdb)⟩
end
/-! ### the law's own call -/
theorem law_callG {P : Program} {w : World} {K : PySem.W.Frag} {mg mb : Str → Option Value} {k : Nat} {fa a : Addr} {fd : FuncData} {x : Str} {sp : Sp} {t : Shared} {vs : List Value} {ns : List Int}
    (inK : K.In t.heap) (nsM : t.heap.Ns mainGlobals mg) (nsB : t.heap.Ns builtinsNs mb) (boot : ∀ y : Str, y ≠ "__name__" → mb y = bootBuiltins y) (lim : t.heap.NoLimit) (gens : t.gens = #[])
    (at_ : t.heap.get? a = some { cls := .type "list", data := .seq vs.toArray }) (digits : IntsAre vs ns) (short : ns.length ≤ sizeLine) (room : Room k callerA)
    (F : ∀ b : Heap, K.In b → b.Ns mainGlobals mg → FnG P w K mg b k fa fd [x] sp) (bnd : ∀ (s : Shared) (u : Value), BindsTo s fd ⟨[u], []⟩ [(x, u)])
    (hsp : ∀ H : Hp, SqL K H a (ns.map V.int) → sp [.ref a] H (fun v _ => v = .bl true) fun _ _ _ => False) :
    codeAny (model P w) callerA (.call (.ref fa) ⟨[.ref a], []⟩) (fun r s' => r = .ok (.ret (.bool true)) ∧ OldK t.heap s'.heap ∧ s'.os = t.os ∧ AllBare s'.gens) t := by
  -- whatever is tracked ahead of the call stands frozen, and is the script
  have main : ∀ H : Hp, (∀ b, H b = none ∨ (b = a ∧ K.lookup a = none ∧ ∃ o xs, H b = some (.frz o (.lst xs)))) → SqL K H a (ns.map V.int) → HOk P w H t.heap →
      codeAny (model P w) callerA (.call (.ref fa) ⟨[.ref a], []⟩) (fun r s' => r = .ok (.ret (.bool true)) ∧ OldK t.heap s'.heap ∧ s'.os = t.os ∧ AllBare s'.gens) t := by
    intro H only sq hok
    have stays : ∀ {b : Addr} {o : Obj}, t.heap.get? b = some o → b ≠ a → (hidT t.heap H).get? b = some o := fun {b o} z ne => hidT_get z ((only b).resolve_right fun q => ne q.1)
    have dicts : ∀ {b : Addr} {m : Str → Option Value}, t.heap.Ns b m → (hidT t.heap H).Ns b m := fun {b m} ⟨o, es, ep, z, d, r⟩ => ⟨o, es, ep, stays z (fun q => by
      rw [q, at_] at z
      cases z
      cases (show Data.seq vs.toArray _ = Data.dict es ep from d)), d, r⟩
    have inB : K.In (hidT t.heap H) := fun b o z => by
      rcases only b with q | ⟨q, q2, _⟩
      · exact hidT_get (inK b o z) q
      · rw [q, q2] at z; cases z
    have modB : Mod K mg (hidT t.heap H) := ⟨inB, dicts nsM, ⟨mb, dicts nsB, boot⟩, let ⟨mc, h1, h2⟩ := lim; ⟨mc, dicts h1, h2⟩⟩
    have env : Env0 P w K mg (hidT t.heap H) callerA [] t H := ⟨rfl, modB, fun b o z => of_hidT z, Nat.le_of_eq (hidT_size _ _), trivial, (fun b z => by cases z), hok, AllBare.of_eq gens⟩
    refine codeAny_mono ((F _ inB (dicts nsM)).go room rfl env (us := [.ref a]) (vs := [.ref a]) (bnd t (.ref a)) (.cons rfl .nil) (hsp H sq)) fun r s2 z => ?_
    match r, z with
    | .ok (.ret u), ⟨v, H2, os, bare, un, hok2, rel, q⟩ =>
      cases (show v = .bl true from q)
      cases (show u = Value.bool true from rel)
      refine ⟨rfl, OldK.of_keep fun b o z => ?_, os, bare⟩
      rcases only b with n | ⟨_, _, ob, xs, n⟩
      · exact un.keep b o z n (fun q => by cases q) (fun q => by cases q)
      · have n2 := un.frzs b ob _ n
        obtain ⟨e1, _⟩ := hok b _ n
        obtain ⟨e2, _⟩ := hok2 b _ n2
        rw [z] at e1
        cases e1
        exact e2
  have rel := vals_ints digits
  cases own : K.lookup a with
  | none =>
    refine main (fun b => if b = a then some (.frz { cls := .type "list", data := .seq vs.toArray } (.lst (ns.map V.int))) else none) (fun b => ?_) (.inl (.inr ⟨_, if_pos rfl⟩)) fun b u z => ?_
    · by_cases q : b = a
      · exact .inr ⟨q, own, _, _, if_pos q⟩
      · exact .inl (if_neg q)
    · by_cases q : b = a
      · cases (if_pos q).symm.trans z
        rw [q]
        exact ⟨at_, by rw [List.length_map]; exact short, vs, _, rel, at_⟩
      · cases (if_neg q).symm.trans z
  | some o =>
    have z := inK a o own
    rw [at_] at z
    cases z
    exact main (fun _ => none) (fun _ => .inl rfl) (.inr ⟨_, vs.toArray, _, own, rfl, rfl, rfl, by rw [List.size_toArray, digits.length]; exact short, by simpa using rel⟩) fun b u z => by cases (show (none : Option HO) = some u from z)
theorem walk_ofG {l : PySem.W.OpenLaw} {n k : Nat} {q : Program} {loose : List Str} {XP : (Str → Option Value) → Heap → Prop} {YP : World → Heap → Prop} {d : DefRec} {K : Params → PySem.W.Frag} {sp : World → Sp} {x : Str}
    (most : l.most = some n) (fits : n ≤ sizeLine) (plain : d.params.defaults = []) (room : Room k callerA) (inY : ∀ (w : World) (h : Heap), YP w h → (K w.params).In h)
    (F : ∀ (w : World) (mg : Str → Option Value) (fa : Addr) (h : Heap), (K w.params).In h → h.Ns mainGlobals mg → mg d.name = some (.ref fa) →
      ∃ fd : FuncData, (∀ (s : Shared) (u : Value), BindsTo s fd ⟨[u], []⟩ [(x, u)]) ∧ ∀ b : Heap, (K w.params).In b → b.Ns mainGlobals mg → FnG l.prog w (K w.params) mg b k fa fd [x] (sp w))
    (hsp : ∀ (w : World) (H : Hp) (a : Addr) (ns : List Int), ns.length ≤ n → SqL (K w.params) H a (ns.map V.int) → sp w [.ref a] H (fun v _ => v = .bl true) fun _ _ _ => False) :
    PySem.W.WalkO q loose XP YP l.row.toRowW d [] (fun f vs => PySem.call f vs) := by
  refine Att.attach_call most plain fun w s₀ s₁ mg mb fa o pm cd doc a vs ns G Y ho hd hcd hmg obj digits len gens => ?_
  obtain ⟨fd, bnd, go⟩ := F w mg fa _ (inY w _ Y) G.T.g hmg
  exact law_callG (inY w _ Y) G.T.g G.T.b G.T.builtins G.T.nolimit gens obj digits (Nat.le_trans len fits) room go bnd fun H sq => hsp w H a ns len sq
end Sy
namespace Sy
open PySem PySem.Spec PyProof.Rows L2
section
variable {P : Program} {w : World} {K : PySem.W.Frag} {mg : Str → Option Value} {base : Heap}
theorem fnG {R : RT} (hR : RetOk R) {x qual : Str} {st : Stmt} {f : Addr} {fd : FuncData} {N ps : List Str} {k : Nat} {C : Con} (F : Fun K x qual st f fd) (Sc : FnScope N ps (defScope st)) (hC : ∀ xs S Q, C xs S Q → xs.length = ps.length)
    (hbody : ∀ (cdv : Value) (A : Around) (outer : List Env) (s : Shared) (H : Hp) (E : XK), Room k (A.deeper (envOfC qual (defScope st) s.heap.objs.size f cdv)) → A.guards = some [] → ∀ xs S Q, C xs S Q →
      ∃ t, DB (cxOf CX0 P w K mg base N qual (defScope st) f cdv A outer s H E).nox (defBody st) t ∧ t { nx := fun m => R S.length (.d .non) m Q, rt := fun r m => R S.length r m Q } ⟨begE N.length xs, S⟩) :
    FnG P w K mg base (k + 1) f fd ps (spD K C) := by
  refine Fun.okG F Sc (fun vs H Q E h => ?_) (fun cdv A outer s H vs Q E hr free h => ?_)
  · obtain ⟨G, as, xs, S, Qc, ok, hl, hc, _⟩ := h
    rw [← hl]; exact hC xs S Qc hc
  · obtain ⟨G, as, xs, S, Qc, ok, hl, hc, fin⟩ := h
    obtain ⟨t, ht, q⟩ := hbody cdv A outer s H E hr free xs S Qc hc
    refine ⟨_, pss_sem _ _, ?_⟩
    have hpl : ps.length ≤ N.length := by have := congrArg List.length Sc.pre; rw [List.length_take] at this; omega
    have hxl : xs.length = ps.length := hC xs S Qc hc
    have ok0 : Ok K G H (start N vs) ⟨begE N.length xs, S⟩ as := by
      refine ⟨ok.same, ok.len, ?_, ok.nd, ok.alive, ok.out, fun i x e => ?_, ok.ce⟩
      · show (xs ++ List.replicate (N.length - xs.length) Sv.no).length ≤ (vs.map some ++ List.replicate (N.length - vs.length) none).length
        rw [List.length_append, List.length_append, List.length_replicate, List.length_replicate, List.length_map, hl]
        exact Nat.le_refl _
      · have e : (xs ++ List.replicate (N.length - xs.length) Sv.no)[i]? = some x := e
        by_cases hi : i < xs.length
        · rw [List.getElem?_append_left hi] at e
          rcases ok.sv i x e with z | ⟨v, z, r⟩
          · exact .inl z
          · refine .inr ⟨v, ?_, r⟩
            show (vs.map some ++ _)[i]? = _
            rw [List.getElem?_append_left (by rw [List.length_map, ← hl]; exact hi)]
            exact z
        · rw [List.getElem?_append_right (by omega), List.getElem?_replicate] at e
          split at e
          · cases e; exact .inl rfl
          · cases e
    have hS : S.length = as.length := ok.len.symm
    have back : ∀ v H', (∃ σ', OnV K σ' G H ⟨begE N.length xs, S⟩ as (fun r m => R S.length r m Qc) v H') → Q v H' := fun v H' ⟨σ', G', m', as', r, st, ok', sv, q'⟩ => by
      rw [hS] at q'
      obtain ⟨G2, r', S', as2, st2, ok2, q2⟩ := hR ok' st sv q'
      exact fin v H' G2 as2 r' S' st2 ok2 q2
    refine bSem_mono (ht.run G H _ _ as _ ok0 q) (fun σ' H' ⟨G', m', as', st, ok', q'⟩ => ?_) back (fun _ _ ⟨_, _, _, _, _, z⟩ => z.elim) (fun _ _ ⟨_, _, _, _, _, z⟩ => z.elim)
    exact back .non H' ⟨σ', G', m', as', .d .non, st, ok', .d .non, q'⟩
end
section
variable {X : Cx} {e : Expr} {es : List Expr} {ta : A1} {x : Str} {p pos : Pos} {f : Addr} {fd : FuncData} {ps : List Str} {k : Nat} {P : PR}
theorem de_callCG {C : Con} {t : List Sv → Ms → SK → Prop} (F : FnG X.prog X.w X.K X.mg X.base k f fd ps (spD X.K C)) (hr : Room k X.A) (free : X.A.guards = some []) (hg : Gl X x) (hm : X.mg x = some (.ref f)) (hk : PySem.W.keepIn X.K (.ref f) = true) (hb : Binds X.K fd ps [])
    (ha : DA X (e :: es) ta) (hC : ∀ xs m Q, t xs m Q → ∃ bs Q0, fzAll bs xs m Q0 ∧ ∀ ys m2, Q0 ys m2 → (loans m2.s ys).Nodup ∧ (∀ j ∈ loans m2.s ys, j < m2.s.length) ∧ C (ys.map (lendv (loans m2.s ys))) ((loans m2.s ys).map fun j => lendc (loans m2.s ys) (m2.s.getD j .gone)) fun r S' => Q (backv (loans m2.s ys) m2.s.length r) ⟨m2.e, mergeS (loans m2.s ys) m2.s S'⟩)
    (hdb : (x == ("__debug__" : Str)) = false := by decide) (he : starEach (e :: es) X.env = (false, eval e X.env) :: starEach es X.env := by rfl) (hpl : (backTo pos (starEach es X.env)).any (·.1) = false := by rfl) :
    DE X (.Call (.Name x p) (e :: es) [] pos) (fun m Q => ta m fun xs m1 => t xs m1 Q) := ⟨fun G H σ m as Q ok q => tSem_of (pe_callG F hr free hg hm hk hb (pa_sem X (e :: es)) hdb he hpl) (by
  refine aSem_mono (ha.run G H σ m as _ ok q) fun vs H1 ⟨G1, m1, as1, xs, st1, ok1, r1, q1⟩ => ?_
  obtain ⟨bs, Q0, q2, q3⟩ := hC xs m1 Q q1
  have hh := sp_callX (Q := Q) bs ok1 r1 E0 q2 q3
  obtain ⟨Ga, as0, ys, S, Qc, h1, h2, h3, h4⟩ := hh
  exact ⟨Ga, as0, ys, S, Qc, h1, h2, h3, fun v H' G' as' r S' a b c => OnV.from st1 (h4 v H' G' as' r S' a b c)⟩)⟩
theorem de_callPG (F : FnG X.prog X.w X.K X.mg X.base k f fd ps (spD X.K (cP P))) (hr : Room k X.A) (free : X.A.guards = some []) (hg : Gl X x) (hm : X.mg x = some (.ref f)) (hk : PySem.W.keepIn X.K (.ref f) = true) (hb : Binds X.K fd ps [])
    (ha : DA X (e :: es) ta) (hdb : (x == ("__debug__" : Str)) = false := by decide) (he : starEach (e :: es) X.env = (false, eval e X.env) :: starEach es X.env := by rfl) (hpl : (backTo pos (starEach es X.env)).any (·.1) = false := by rfl) :
    DE X (.Call (.Name x p) (e :: es) [] pos) (eCallP P ta) :=
  de_callCG F hr free hg hm hk hb ha (fun xs m Q q => ⟨_, _, fzT_len q, fun ys m2 ⟨ds, e, q2⟩ => by
    subst e
    rw [loans_d]
    refine ⟨List.nodup_nil, (fun j hj => by cases hj), ds, lendv_d _ _, rfl, ?_⟩
    dsimp only
    rw [merge_nil]
    exact q2⟩) hdb he hpl
theorem de_callDlG (F : FnG X.prog X.w X.K X.mg X.base k f fd ps (spD X.K (cDl P))) (hr : Room k X.A) (free : X.A.guards = some []) (hg : Gl X x) (hm : X.mg x = some (.ref f)) (hk : PySem.W.keepIn X.K (.ref f) = true) (hb : Binds X.K fd ps [])
    (ha : DA X (e :: es) ta) (hdb : (x == ("__debug__" : Str)) = false := by decide) (he : starEach (e :: es) X.env = (false, eval e X.env) :: starEach es X.env := by rfl) (hpl : (backTo pos (starEach es X.env)).any (·.1) = false := by rfl) :
    DE X (.Call (.Name x p) (e :: es) [] pos) (eCallD P ta) :=
  de_callCG (t := fun xs m1 Q => match xs with
    | x :: r => fzT r m1 fun ds m2 => one? (dlAt m2.s x) fun _ => P ds fun d => Q (.d d) m2
    | [] => False) F hr free hg hm hk hb ha (fun xs m Q q => by
    cases xs with
    | nil => exact q.elim
    | cons y r =>
      refine ⟨false :: (r.map fun _ => true), fun ys m2 => ∃ ds, ys = y :: ds.map .d ∧ one? (dlAt m2.s y) fun _ => P ds fun d => Q (.d d) m2, ?_, fun ys m2 ⟨ds, e, q2⟩ => ?_⟩
      · have h := fzT_len (xs := r) (m := m) q
        have mono2 : ∀ {xs : List Sv} {m : Ms} {Q1 Q2 : List Sv → Ms → Prop}, fzAll (xs.map fun _ => true) xs m Q1 → (∀ ys m, Q1 ys m → Q2 ys m) → fzAll (xs.map fun _ => true) xs m Q2 := by
          intro xs
          induction xs with
          | nil => intro m Q1 Q2 h k; exact k _ _ h
          | cons x xs ih =>
            intro m Q1 Q2 h k
            have h : fzv x m fun d m1 => fzAll (xs.map fun _ => true) xs m1 fun ys m2 => Q1 (.d d :: ys) m2 := h
            show fzv x m fun d m1 => fzAll (xs.map fun _ => true) xs m1 fun ys m2 => Q2 (.d d :: ys) m2
            cases x with
            | no => exact h
            | d d => exact ih (show fzAll _ xs m _ from h) fun ys m h => k _ _ h
            | r i =>
              obtain ⟨c, e, h⟩ := one_cases h
              obtain ⟨d, e2, h⟩ := one_cases h
              exact Sy.one?.yes e (Sy.one?.yes e2 (ih h fun ys m h => k _ _ h))
        exact mono2 h fun ys m2 ⟨ds, e, q⟩ => ⟨ds, by rw [e], q⟩
      · subst e
        obtain ⟨⟨k, j⟩, e1, q3⟩ := one_cases q2
        obtain ⟨rfl, hk, hj⟩ := dlAt_some e1
        have hkj : k ≠ j := fun e => by dsimp only at hk hj; rw [e, hj] at hk; cases hk
        rw [loans_dl ds hk hj]
        have lk := (List.getElem?_eq_some_iff.mp hk).1
        have lj := (List.getElem?_eq_some_iff.mp hj).1
        refine ⟨by simp [hkj], fun i hi => ?_, ds, ?_, ?_, ?_⟩
        · rcases List.mem_cons.mp hi with z | z
          · rw [z]; exact lk
          · rw [List.mem_singleton.mp z]; exact lj
        · rw [List.map_cons, lendv_d]
          show lendv [k, j] (.r k) :: _ = _
          rw [lend_dv]
        · show [lendc [k, j] (m2.s.getD k .gone), lendc [k, j] (m2.s.getD j .gone)] = _
          rw [List.getD_eq_getElem?_getD, List.getD_eq_getElem?_getD, hk, hj]
          show [lendc [k, j] (.dl j), .hid] = _
          rw [lend_dl hkj]
        · dsimp only
          rw [merge_dl hk hj]
          exact q3) hdb he hpl
theorem de_dealG (F : FnG X.prog X.w X.K X.mg X.base k f fd ps (spD X.K cDeal)) (hr : Room k X.A) (free : X.A.guards = some []) (hg : Gl X x) (hm : X.mg x = some (.ref f)) (hk : PySem.W.keepIn X.K (.ref f) = true) (hb : Binds X.K fd ps [])
    (ha : DA X (e :: es) ta) (hdb : (x == ("__debug__" : Str)) = false := by decide) (he : starEach (e :: es) X.env = (false, eval e X.env) :: starEach es X.env := by rfl) (hpl : (backTo pos (starEach es X.env)).any (·.1) = false := by rfl) :
    DE X (.Call (.Name x p) (e :: es) [] pos) (eDeal ta) :=
  de_callCG (t := fun xs m1 Q => ∃ (ns : List Int) (b : Int), xs = [.d (.scr (ns.map .int)), .d (.int b)] ∧ (ns.length ≤ 63 ∧ 0 ≤ b ∧ b ≤ 1000) ∧ Q (.r m1.s.length) ⟨m1.e, m1.s ++ [.dl (m1.s.length + 1), .hid]⟩) F hr free hg hm hk hb ha (fun xs m Q ⟨ns, b, e, hb, q⟩ => by
    subst e
    refine ⟨[], fun ys m2 => ys = [.d (.scr (ns.map .int)), .d (.int b)] ∧ m2 = m, ⟨rfl, rfl⟩, fun ys m2 ⟨e1, e2⟩ => ?_⟩
    subst e1 e2
    have hl : loans m2.s [.d (.scr (ns.map .int)), .d (.int b)] = [] := loans_d m2.s [.scr (ns.map .int), .int b]
    rw [hl]
    refine ⟨List.nodup_nil, (fun j hj => by cases hj), ns, b, rfl, rfl, hb, ?_⟩
    have e1 : mergeS [] m2.s [.dl 1, .hid] = m2.s ++ [.dl (m2.s.length + 1), .hid] := by
      unfold mergeS putL
      rfl
    dsimp only
    rw [e1]
    exact q) hdb he hpl
end
/-! ### repr of data -/
def oRepr : OC := fun xs m Q => match xs with
  | [x] => one? (vd m.s x) fun d => (d.pl = true ∧ d.py.showable = true ∧ d.py.depth ≤ 60 ∧ d.py.shown.length ≤ sizeLine) ∧ Q (.d (.str d.py.shown)) m
  | _ => False
mutual
theorem noDict_py : ∀ d : D, d.py.hasDict = false
  | .non => rfl
  | .bl _ => rfl
  | .int _ => rfl
  | .str _ => rfl
  | .lst xs => noDict_all xs
  | .scr xs => noDict_all xs
  | .tup xs => noDict_all xs
  | .dct _ => rfl
  | .ob _ _ => rfl
  | .v _ => rfl
theorem noDict_all : ∀ ds : List D, PyData.hasDictAll (pyAll ds) = false
  | [] => rfl
  | d :: r => by
    show (d.py.hasDict || PyData.hasDictAll (pyAll r)) = false
    rw [noDict_py d, noDict_all r]
    rfl
end
def D.isSq : D → Bool
  | .lst _ => true
  | .tup _ => true
  | .scr _ => true
  | _ => false
theorem sq_ref {K : PySem.W.Frag} {G : Hp} {v : V} {d : D} (h : d.isSq = true) (r : Rp K G v d) : ∃ a, v = .ref a := by
  cases r <;> first | exact ⟨_, rfl⟩ | (cases h; done)
theorem cd_repr {X : Cx} (hu : X.A.units + 64 < cLine) (free : X.A.guards = some []) : CallD X (.builtin "repr") oRepr := ⟨fun G H σ m as vs xs Q ok r q0 => by
  unfold oRepr at q0
  match xs, r, q0 with
  | [x], r, q0 =>
    obtain ⟨v, rfl, r1⟩ := sva1 r
    obtain ⟨d, e1, ⟨h1, h2, h3, h4⟩, q⟩ := one_cases q0
    have rp := vd_ok ok r1 e1
    have dp := rp.dp h1
    intro pins s σ' us I rel
    cases rel with
    | @cons _ u _ _ rel t =>
      cases t
      obtain ⟨bs, rd⟩ := Dp.reads I _ _ _ dp rel
      have fin : ∀ h' tu tk, (∀ b o, s.heap.get? b = some o → h'.get? b = some o) → EP X pins σ' (OnV X.K σ G H m as Q) (.str d.py.shown tu) { s with heap := h', toks := tk } := fun h' tu tk hk =>
        ⟨.str d.py.shown, H, I.kept (t' := tk) hk, ⟨tu, rfl⟩, OnV.d ok (.str _) q⟩
      cases hs : d.isSq with
      | true =>
        obtain ⟨a, rfl⟩ := sq_ref hs rp
        cases rel
        exact repr_of_reads' rd h2 (PyData.noDict_hsm (noDict_py d)) free (by omega) (fun _ _ e => e) fin h4
      | false =>
        have here := fin s.heap s.toks (s.toks + 1) (fun _ _ e => e)
        cases rp <;> first | (cases hs; done) | (cases h1; done) | skip
        · cases rel; exact PySem.P.repr_of_none here
        · cases rel; exact PySem.P.repr_of_bool here
        · obtain ⟨t, rfl⟩ := rel; exact PySem.P.repr_of_int (of_decide_eq_true h2) here
        · obtain ⟨t, rfl⟩ := rel; exact PySem.P.repr_of_str here h4⟩
end Sy
namespace Sy
open PySem PySem.Spec PyProof.Rows L2
/-! ### texts: times, join, index; chains -/
def repS (x : Str) (n : Int) : Str := if n < 1 then Str.empty else if (n == 1 || x.length == 0) = true then x else ⟨(List.replicate n.toNat x.cps).foldl (· ++ ·) #[]⟩
theorem fold_size (xs : Array Nat) : ∀ (k : Nat) (acc : Array Nat), ((List.replicate k xs).foldl (· ++ ·) acc).size = acc.size + k * xs.size
  | 0, acc => by simp
  | k + 1, acc => by
    rw [List.replicate_succ, List.foldl_cons, fold_size xs k, Array.size_append, Nat.succ_mul]
    omega
theorem repS_len (x : Str) (n : Int) : (repS x n).length = x.length * n.toNat := by
  unfold repS
  by_cases hn : n < 1
  · rw [if_pos hn]
    have : n.toNat = 0 := by omega
    rw [this, Nat.mul_zero]
    rfl
  · rw [if_neg hn]
    by_cases h2 : (n == 1 || x.length == 0) = true
    · rw [if_pos h2]
      rcases Bool.or_eq_true_iff.mp h2 with h | h
      · have : n = 1 := by simpa using h
        rw [this]
        show _ = x.length * 1
        omega
      · have : x.length = 0 := by simpa using h
        rw [this]
        omega
    · rw [if_neg h2]
      show ((List.replicate n.toNat x.cps).foldl (· ++ ·) #[]).size = _
      rw [fold_size]
      have : x.cps.size = x.length := rfl
      rw [this, Nat.mul_comm]
      show 0 + _ = _
      omega
structure RepC (x : Str) (n : Int) : Prop where
  lo : -1000 ≤ n
  hi : n ≤ 16777216
  ln : x.length ≤ 16777216
  tot : x.length * n.toNat ≤ 16777216
def oMulS : O2 := fun x y m Q => both x.str? y.int? (fun a n => RepC a n ∧ Q (.d (.str (repS a n))) m) False
theorem od_mulS {X : Cx} : OpD X (binaryOp .Mult) oMulS := ⟨fun G H σ m as v u x y Q ok r1 r2 q => by
  have qq := both_cases q
  clear q
  rcases qq with ⟨a, n, e1, e2, hc, q⟩ | q
  · rw [Sv.str_eq e1] at r1
    rw [Sv.int_eq e2] at r2
    cases sv_str r1
    cases sv_int r2
    intro pins s σ' va vn I rv rn
    obtain ⟨t, rfl⟩ := rv
    obtain ⟨t', rfl⟩ := rn
    have h1 := hc.lo
    have h2 := hc.hi
    have h3 := hc.ln
    have h4 := hc.tot
    refine PySem.P.mul_str (by rw [decide_eq_false (by omega), decide_eq_false (by omega)]; rfl) (fun hn _ => ?_) (fun hn _ => ?_) ?_
    · have hm : ((a.length : Int)) * n ≤ 16777216 := by
        have e : ((n.toNat : Nat) : Int) = n := Int.toNat_of_nonneg (by omega)
        have h5 : ((a.length * n.toNat : Nat) : Int) ≤ 16777216 := Int.ofNat_le.mpr h4
        rw [Int.natCast_mul, e] at h5
        exact h5
      have := Int.le_ediv_of_mul_le (a := (a.length : Int)) (b := 2 ^ 63 - 1) (c := n) (by omega) (by omega)
      omega
    · show decide (a.length * n.toNat > sizeLine) = false
      refine decide_eq_false ?_
      rw [sizeLine_eq]
      omega
    · have fin : ∀ (k : Nat) (z : Str) (tz : Tok), repS a n = z → EP X pins σ' (OnV X.K σ G H m as Q) (.str z tz) { s with toks := k } := fun k z tz e => ⟨.str z, H, I.tok k, ⟨tz, rfl⟩, by rw [← e]; exact OnV.d ok (.str _) q⟩
      by_cases hn : n < 1
      · rw [if_pos hn]
        exact ⟨by decide, fin _ _ _ (by unfold repS; rw [if_pos hn])⟩
      · rw [if_neg hn]
        by_cases hn2 : (n == 1 || a.length == 0) = true
        · rw [if_pos hn2]
          exact fin _ _ _ (by unfold repS; rw [if_neg hn, if_pos hn2])
        · rw [if_neg hn2]
          refine ⟨?_, fin _ _ _ (by unfold repS; rw [if_neg hn, if_neg hn2])⟩
          show ((List.replicate n.toNat a.cps).foldl (· ++ ·) #[]).size ≤ sizeLine
          rw [fold_size, sizeLine_eq]
          have : a.cps.size = a.length := rfl
          rw [this, Nat.mul_comm]
          show 0 + _ ≤ _
          omega
  · exact q.elim⟩
/-! ### join -/
def strsD : List D → Option (List Str)
  | [] => some []
  | .str a :: r => (strsD r).map (a :: ·)
  | _ :: _ => none
theorem strsD_ok {K : PySem.W.Frag} {G : Hp} : ∀ {ds : List D} {vs : List V} {ys : List Str}, RpAll K G vs ds → strsD ds = some ys → vs = ys.map V.str
  | [], _, ys, .nil, h => by cases h; rfl
  | .str b :: r, _, ys, .cons q t, h => by
    obtain ⟨b0, e, rfl⟩ := Option.map_eq_some_iff.mp (show (strsD r).map (b :: ·) = some ys from h)
    cases q
    rw [strsD_ok t e]; rfl
  | .non :: _, _, _, .cons q t, h => by cases h
  | .int _ :: _, _, _, .cons q t, h => by cases h
  | .bl _ :: _, _, _, .cons q t, h => by cases h
  | .lst _ :: _, _, _, .cons q t, h => by cases h
  | .scr _ :: _, _, _, .cons q t, h => by cases h
  | .tup _ :: _, _, _, .cons q t, h => by cases h
  | .dct _ :: _, _, _, .cons q t, h => by cases h
  | .ob _ _ :: _, _, _, .cons q t, h => by cases h
  | .v _ :: _, _, _, .cons q t, h => by cases h
theorem strsD_map (ys : List Str) : strsD (ys.map D.str) = some ys := by
  induction ys with
  | nil => rfl
  | cons a r ih => unfold List.map strsD; rw [ih]; rfl
def eJoin (to te : E1) : E1 := fun m Q => to m fun x m1 => one? x.str? fun a => te m1 fun y m2 => one? ((sq m2.s y).bind fun p => (allD p.2).bind strsD) fun ys => (ys.map (·.length)).sum + ys.length * a.length ≤ 16777216 ∧ Q (.d (.str (Txt.join a ys))) m2
section
variable {X : Cx} {o e : Expr} {to te : E1} {apos pos : Pos}
theorem de_m_join (ho : DE X o to) (ha : DE X e te) (hs : starEach [e] X.env = [(false, eval e X.env)] := by rfl) (hbase : attributeBase o "join" X.env (eval o X.env) = eval o X.env := by rfl) (hline : (apos.endLine == pos.line) = true := by rfl) :
    DE X (.Call (.Attribute o "join" apos) [e] [] pos) (eJoin to te) := ⟨fun G H σ m as Q ok q => tSem_of (pe_join (pe_sem X o) (pe_sem X e) hs hbase hline) (by
  refine tSem_mono (ho.run G H σ m as _ ok q) fun v H1 ⟨G1, m1, as1, x, st1, ok1, r1, q1⟩ => ?_
  obtain ⟨a, ea, q2⟩ := one_cases q1
  rw [Sv.str_eq ea] at r1
  have ev := sv_str r1
  refine ⟨⟨a, ev⟩, ?_⟩
  refine tSem_mono (ha.run G1 H1 σ m1 as1 _ ok1 q2) fun u H2 ⟨G2, m2, as2, y, st2, ok2, r2, q3⟩ => ?_
  obtain ⟨ys, ey, hz, q4⟩ := one_cases q3
  obtain ⟨⟨b, zs⟩, e1, e2⟩ := Option.bind_eq_some_iff.mp ey
  obtain ⟨ds, e3, e4⟩ := Option.bind_eq_some_iff.mp e2
  obtain ⟨p, vs, eu, h1, h2⟩ := sq_ok ok2 r2 e1
  have e5 := strsD_ok (allD_ok e3 h2) e4
  subst e5
  exact ⟨a, p, ys, ev, by rw [eu], sqB_any h1, hz, OnV.from (st1.trans st2) (OnV.d ok2 (.str _) q4)⟩)⟩
/-- text.index(text), where it is found -/
def eIdx (to te : E1) : E1 := fun m Q => to m fun x m1 => one? x.str? fun a => te m1 fun y m2 => one? y.str? fun b => one? (Builtin.Str.occurrences a b 0 a.length 1).head? fun i => Q (.d (.int (i : Nat))) m2
theorem de_m_index (ho : DE X o to) (ha : DE X e te) (hs : starEach [e] X.env = [(false, eval e X.env)] := by rfl) (hbase : attributeBase o "index" X.env (eval o X.env) = eval o X.env := by rfl) (hline : (apos.endLine == pos.line) = true := by rfl) :
    DE X (.Call (.Attribute o "index" apos) [e] [] pos) (eIdx to te) := ⟨fun G H σ m as Q ok q => tSem_of (pe_m1 F.slot_str_index F.type_str_index mt_sindex (pe_sem X o) (pe_sem X e) hs hbase hline) (by
  refine tSem_mono (ho.run G H σ m as _ ok q) fun v H1 ⟨G1, m1, as1, x, st1, ok1, r1, q1⟩ => ?_
  obtain ⟨a, ea, q2⟩ := one_cases q1
  rw [Sv.str_eq ea] at r1
  have ev := sv_str r1
  refine ⟨⟨a, ev⟩, ?_⟩
  refine tSem_mono (ha.run G1 H1 σ m1 as1 _ ok1 q2) fun u H2 ⟨G2, m2, as2, y, st2, ok2, r2, q3⟩ => ?_
  obtain ⟨b, eb, q4⟩ := one_cases q3
  obtain ⟨i, ei, q5⟩ := one_cases q4
  rw [Sv.str_eq eb] at r2
  obtain ⟨rest, er⟩ : ∃ rest, Builtin.Str.occurrences a b 0 a.length 1 = i :: rest := by
    cases h : Builtin.Str.occurrences a b 0 a.length 1 with
    | nil => rw [h] at ei; cases ei
    | cons j r => rw [h] at ei; cases ei; exact ⟨r, rfl⟩
  exact ⟨a, b, i, rest, ev, by rw [sv_str r2], er, OnV.from (st1.trans st2) (OnV.d ok2 (.int _) q5)⟩)⟩
end
/-! ### a op b op c -/
section
variable {X : Cx} {a b c : Expr} {ta tb tc : E1} {pos : Pos} {op op' : CmpOp} {o o' : O2}
def eChain (o o' : O2) (ta tb tc : E1) : E1 := fun m Q => ta m fun x m1 => tb m1 fun y m2 => o x y m2 fun z m3 => one? z.bl? fun k => IfB k (tc m3 fun u m4 => o' y u m4 Q) (Q (.d (.bl false)) m3)
theorem chain_run {G H : Hp} {σ : L2.St} {m : Ms} {as : List Addr} {Q : SK} (ho : OpD X (compareOp op) o) (ho' : OpD X (compareOp op') o') (ha : DE X a ta) (hb : DE X b tb) (hc : DE X c tc) (ok : Ok X.K G H σ m as) (q : eChain o o' ta tb tc m Q) :
    tChain (rSem X (compareOp op)) (rSem X (compareOp op')) (tSem X a) (tSem X b) (tSem X c) σ H (OnV X.K σ G H m as Q) := by
  refine tSem_mono (ha.run G H σ m as _ ok q) fun v H1 ⟨G1, m1, as1, x, st1, ok1, r1, q1⟩ => ?_
  refine tSem_mono (hb.run G1 H1 σ m1 as1 _ ok1 q1) fun u H2 ⟨G2, m2, as2, y, st2, ok2, r2, q2⟩ => ?_
  refine rSem_mono (fun z H3 ⟨G3, m3, as3, sz, st3, ok3, r3, q3⟩ => ?_) (ho.run G2 H2 σ m2 as2 v u x y _ ok2 (r1.mono st2.g st2.pre) r2 q2)
  obtain ⟨k, ek, q4⟩ := one_cases q3
  rw [Sv.bl_eq ek] at r3
  refine ⟨k, sv_bl r3, ?_⟩
  have st := (st1.trans st2).trans st3
  cases k with
  | false => exact iteF (OnV.from st (OnV.d ok3 (.bl false) (IfB.ff q4)))
  | true =>
    refine iteT (tSem_mono (hc.run G3 H3 σ m3 as3 _ ok3 (IfB.tt q4)) fun w' H4 ⟨G4, m4, as4, sw, st4, ok4, r4, q5⟩ => ?_)
    exact rSem_mono (fun z H5 h => OnV.from (st.trans st4) h) (ho'.run G4 H4 σ m4 as4 u w' y sw _ ok4 ((r2.mono st3.g st3.pre).mono st4.g st4.pre) r4 q5)
theorem de_chain (ho : OpD X (compareOp op) o) (ho' : OpD X (compareOp op') o') (ha : DE X a ta) (hb : DE X b tb) (hc : DE X c tc) (hm : lastMarks [op, op'] [b, c] = false := by with_unfolding_all rfl) : DE X (.Compare a [op, op'] [b, c] pos) (eChain o o' ta tb tc) :=
  ⟨fun G H σ m as Q ok q => tSem_of (pe_chain (op_sem X _) (op_sem X _) (pe_sem X a) (pe_sem X b) (pe_sem X c) hm) (chain_run ho ho' ha hb hc ok q)⟩
theorem tChain_mono {r r' : R2} {σ : L2.St} {H : Hp} {Q Q' : VK} (hr : ∀ v u H Q Q', (∀ v H, Q v H → Q' v H) → r v u H Q → r v u H Q') (hr' : ∀ v u H Q Q', (∀ v H, Q v H → Q' v H) → r' v u H Q → r' v u H Q') (k : ∀ v H, Q v H → Q' v H)
    (h : tChain r r' (tSem X a) (tSem X b) (tSem X c) σ H Q) : tChain r r' (tSem X a) (tSem X b) (tSem X c) σ H Q' :=
  tSem_mono h fun v H1 h => tSem_mono h fun u H2 h => hr _ _ _ _ _ (fun z H3 ⟨b, e, h⟩ => ⟨b, e, by
    cases b with
    | false => exact iteF (k _ _ (by simpa using h))
    | true => exact iteT (tSem_mono (by simpa using h) fun w H4 h => hr' _ _ _ _ _ k h)⟩) h
theorem dt_chain (ho : OpD X (compareOp op) o) (ho' : OpD X (compareOp op') o') (ha : DE X a ta) (hb : DE X b tb) (hc : DE X c tc) (hm : lastMarks [op, op'] [b, c] = false := by with_unfolding_all rfl) : DT X (.Compare a [op, op'] [b, c] pos) (eT (eChain o o' ta tb tc)) :=
  ⟨fun G H σ m as Q ok q => qSem_of (pt_chain (op_sem X _) (op_sem X _) (pe_sem X a) (pe_sem X b) (pe_sem X c) hm) (by
    refine tChain_mono (fun _ _ _ _ _ k h => rSem_mono k h) (fun _ _ _ _ _ k h => rSem_mono k h) (fun z H3 h3 => ?_) (chain_run ho ho' ha hb hc ok q)
    obtain ⟨b, e, h4⟩ := onV_bl h3
    exact ⟨b, e, h4⟩)⟩
/-! ### str of numbers, int of texts -/
def oStrC : OC := fun xs m Q => match xs with
  | [x] => one? x.int? fun i => (-1000000000000000000 ≤ i ∧ i ≤ 1000000000000000000) ∧ Q (.d (.str (toString i))) m
  | _ => False
theorem cd_str : CallD X (.type "str") oStrC := ⟨fun G H σ m as vs xs Q ok r q0 => by
  unfold oStrC at q0
  match xs, r, q0 with
  | [x], r, q0 =>
    obtain ⟨v, rfl, r1⟩ := sva1 r
    obtain ⟨i, e1, ⟨h1, h2⟩, q⟩ := one_cases q0
    rw [Sv.int_eq e1] at r1
    have hl : i.natAbs.log2 < 1920 := by
      by_cases h0 : i.natAbs = 0
      · rw [h0]; decide
      · have h3 : i.natAbs < 2 ^ 60 := by omega
        have h4 := (Nat.log2_lt h0).mpr h3
        omega
    exact cSem_of call_str_int ⟨i, by rw [sv_int r1], hl, OnV.d ok (.str _) q⟩⟩
def oIntD : OC := fun xs m Q => match xs with
  | [x] => match x.str? with
    | some a => one? (intText? a) fun n => a.length ≤ 640 ∧ Q (.d (.int n)) m
    | none => oIntC [x] m Q
  | _ => False
theorem cd_intD : CallD X (.type "int") oIntD := ⟨fun G H σ m as vs xs Q ok r q0 => by
  unfold oIntD at q0
  match xs, r, q0 with
  | [x], r, q0 =>
    cases e1 : x.str? with
    | none =>
      simp only [e1] at q0
      exact cd_int.run G H σ m as vs [x] Q ok r q0
    | some a =>
      simp only [e1] at q0
      obtain ⟨v, rfl, r1⟩ := sva1 r
      obtain ⟨n, e2, hl, q⟩ := one_cases q0
      rw [Sv.str_eq e1] at r1
      exact cSem_of call_int_str ⟨a, n, by rw [sv_str r1], e2, hl, OnV.d ok (.int _) q⟩⟩
end
end Sy
namespace Sy
open PySem PySem.Spec PyProof.Rows L2
theorem rp_strs {K : PySem.W.Frag} {G : Hp} (ys : List Str) : RpAll K G (ys.map V.str) (ys.map D.str) := by
  induction ys with
  | nil => exact .nil
  | cons n r ih => exact .cons (.str n) ih
theorem sqT_K {K : PySem.W.Frag} {H : Hp} {a : Addr} {od : Option Addr} {its : Array Value} {n : Nat} {sl : Array (Option Value)} {xs : List V} (h : K.lookup a = some ⟨.type "tuple", od, .seq its n, sl⟩) (hs : Nat.ble its.size 1000 = true) (r : Vals xs its.toList) : SqT K H a xs :=
  .inr ⟨_, its, n, h, rfl, rfl, szLe hs, r⟩
theorem atI_in {α : Type} {xs : List α} {i : Int} (h0 : 0 ≤ i) (h1 : i < (xs.length : Int)) : ∃ x, x ∈ xs ∧ atI xs i = some x := by
  have hl : i.toNat < xs.length := by omega
  have e := List.getElem?_eq_getElem hl
  refine ⟨xs[i.toNat], List.getElem_mem hl, ?_⟩
  have h := atI_nat e
  rw [Int.toNat_of_nonneg h0] at h
  exact h
theorem join_le (a : Str) : ∀ ys : List Str, (Str.join a ys).length ≤ (ys.map (·.length)).sum + ys.length * a.length
  | [] => Nat.zero_le _
  | [x] => by
    show x.length ≤ _
    rw [List.map_cons, List.sum_cons]
    omega
  | x :: z :: r => by
    have ih := join_le a (z :: r)
    show (x ++ a ++ Str.join a (z :: r)).length ≤ _
    rw [strLen_append, strLen_append, List.map_cons, List.sum_cons, List.length_cons, Nat.succ_mul]
    omega
theorem sum_ones {ys : List Str} (h : ∀ y ∈ ys, y.length ≤ 1) : (ys.map (·.length)).sum ≤ ys.length := by
  induction ys with
  | nil => exact Nat.le_refl _
  | cons x r ih =>
    have h1 := h x List.mem_cons_self
    have h2 := ih fun y hy => h y (List.mem_cons_of_mem _ hy)
    rw [List.map_cons, List.sum_cons, List.length_cons]
    omega
theorem join_ones {ys : List Str} (h : ∀ y ∈ ys, y.length ≤ 1) : (Txt.join "" ys).length ≤ ys.length := by
  rw [_root_.TL.join_eq]
  have h1 := join_le "" ys
  have h2 := sum_ones h
  have h3 : ("" : Str).length = 0 := by decide +kernel
  rw [h3] at h1
  omega
theorem snoc_str (zs : List Str) (z : Str) : zs.map D.str ++ [.str z] = (zs ++ [z]).map D.str := by rw [List.map_append]; rfl
theorem snoc_all {α : Type} {p : α → Prop} {zs : List α} {z : α} (h : ∀ x ∈ zs, p x) (h' : p z) : ∀ x ∈ zs ++ [z], p x := fun x hx => by
  rcases List.mem_append.mp hx with hx | hx
  · exact h x hx
  · rw [List.mem_singleton.mp hx]; exact h'
/-- * of numbers, of a text and a number -/
def oMulA : O2 := fun x y m Q => both x.int? y.int? (fun i j => CMul i j ∧ Q (.d (.int (i * j))) m) (oMulS x y m Q)
theorem od_mulA {X : Cx} : OpD X (binaryOp .Mult) oMulA := ⟨fun G H σ m as v u x y Q ok r1 r2 q => by
  have qq := both_cases q
  clear q
  rcases qq with ⟨i, j, e1, e2, hc, q⟩ | q
  · exact od_mul.run G H σ m as v u x y Q ok r1 r2 (.yes e1 e2 ⟨hc, q⟩)
  · exact od_mulS.run G H σ m as v u x y Q ok r1 r2 q⟩
/-- signs that there are -/
def cOk (s : Str) : Prop := ∀ c ∈ s.cps.toList, c < 1114112
theorem cOk_cut {s : Str} {lo hi : Option Int} (h : cOk s) : cOk (cutS s lo hi) := fun c hc => by
  unfold cutS at hc
  exact h c (List.mem_of_mem_drop (List.mem_of_mem_take hc))
theorem cOk_app {a b : Str} (h : cOk a) (h' : cOk b) : cOk (a ++ b) := fun c hc => by
  have e : (a ++ b).cps.toList = a.cps.toList ++ b.cps.toList := Array.toList_append
  rw [e] at hc
  rcases List.mem_append.mp hc with hc | hc
  · exact h c hc
  · exact h' c hc
theorem fold_mem {xs : Array Nat} {c : Nat} : ∀ (k : Nat) (acc : Array Nat), c ∈ ((List.replicate k xs).foldl (· ++ ·) acc).toList → c ∈ acc.toList ∨ c ∈ xs.toList
  | 0, acc, h => .inl h
  | k + 1, acc, h => by
    rw [List.replicate_succ, List.foldl_cons] at h
    rcases fold_mem k _ h with h | h
    · rw [Array.toList_append] at h
      exact List.mem_append.mp h
    · exact .inr h
theorem cOk_rep {x : Str} {n : Int} (h : cOk x) : cOk (repS x n) := fun c hc => by
  unfold repS at hc
  by_cases hn : n < 1
  · rw [if_pos hn] at hc
    exact absurd hc (by show c ∉ ([] : List Nat); exact List.not_mem_nil)
  · rw [if_neg hn] at hc
    by_cases h2 : (n == 1 || x.length == 0) = true
    · rw [if_pos h2] at hc; exact h c hc
    · rw [if_neg h2] at hc
      rcases fold_mem _ _ hc with z | z
      · exact absurd z (by show c ∉ ([] : List Nat); exact List.not_mem_nil)
      · exact h c z
theorem cOk_one {c : Nat} (h : c < 1114112) : cOk ⟨#[c]⟩ := fun d hd => by
  have : d = c := by simpa using hd
  rw [this]; exact h
theorem cOk_join {a : Str} (ha : cOk a) : ∀ {ys : List Str}, (∀ y ∈ ys, cOk y) → cOk (Str.join a ys)
  | [], _ => fun c hc => absurd hc (by show c ∉ ([] : List Nat); exact List.not_mem_nil)
  | [x], h => h x List.mem_cons_self
  | x :: z :: r, h => by
    show cOk (x ++ a ++ Str.join a (z :: r))
    exact cOk_app (cOk_app (h x List.mem_cons_self) ha) (cOk_join ha fun y hy => h y (List.mem_cons_of_mem _ hy))
theorem cOk_joinT {a : Str} (ha : cOk a) {ys : List Str} (h : ∀ y ∈ ys, cOk y) : cOk (Txt.join a ys) := by
  rw [_root_.TL.join_eq]
  exact cOk_join ha h
theorem cOk_dec {s : Str} (h : s.cps.toList.all (fun c => decide (c < 1114112)) = true) : cOk s := fun c hc => of_decide_eq_true (List.all_eq_true.mp h c hc)
theorem strOk_c {s : Str} (h : cOk s) : PyData.canLay0 (.str s) = true := by
  show Array.all s.cps (fun c => decide (c < 0x110000)) = true
  rw [← Array.all_toList, List.all_eq_true]
  exact fun c hc => decide_eq_true (h c hc)
end Sy
namespace Sy
open PySem PySem.Spec PyProof.Rows L2
/-! ### enumerate of a list of data -/
def numbered : Nat → List D → List Sv
  | _, [] => []
  | i, d :: r => .d (.tup [.int (i : Nat), d]) :: numbered (i + 1) r
theorem numbered_get : ∀ {ds : List D} {k i : Nat} {x : Sv}, (numbered k ds)[i]? = some x → ∃ d, ds[i]? = some d ∧ x = .d (.tup [.int ((k + i : Nat) : Int), d])
  | [], k, i, x, h => by cases h
  | d :: r, k, 0, x, h => by cases h; exact ⟨d, rfl, rfl⟩
  | d :: r, k, i + 1, x, h => by
    obtain ⟨d', h1, h2⟩ := numbered_get (ds := r) (k := k + 1) (i := i) (show (numbered (k + 1) r)[i]? = some x from h)
    exact ⟨d', h1, by rw [h2]; congr 4; omega⟩
theorem numbered_len : ∀ (ds : List D) (k : Nat), (numbered k ds).length = ds.length
  | [], _ => rfl
  | d :: r, k => by show (numbered (k + 1) r).length + 1 = _; rw [numbered_len r]; rfl
section
variable {K : PySem.W.Frag}
theorem itD_enum {a : Addr} {x : Sv} {b : Sk} {xs : List Sv} {ds : List D} {G0 : Hp} {as0 : List Addr} (hb : b = .l ∨ b = .s) (hds : allD xs = some ds) (r : SvR K G0 as0 (.ref a) x) : ItD K (Ite K a) (numbered 0 ds) (fun S => sq S x = some (b, xs)) G0 as0 where
  go := fun i y G H σ m as hi sg pr ok hc => by
    obtain ⟨a', vs, e, h1, h2⟩ := sq_ok ok (r.mono sg pr) hc
    cases e
    have hL : SqL K H a vs := by
      rcases hb with rfl | rfl
      · exact SqL.of h1
      · exact h1
    have rp := allD_ok hds h2
    obtain ⟨d, hd, rfl⟩ := numbered_get hi
    obtain ⟨v, e1, r1⟩ := sva_get (rpAll_sv (as := as) rp) (by rw [List.getElem?_map, hd]; rfl : (ds.map Sv.d)[i]? = some (.d d))
    refine ⟨⟨vs, v, hL, e1⟩, fun w H' ⟨T, z, ew, hT, eH, hw⟩ => ?_⟩
    subst ew eH
    have ez := hw vs hL
    rw [e1] at ez
    cases ez
    obtain ⟨ok', st⟩ := ok.grow (o := .tup [.int (i : Nat), v]) hT
    refine ⟨_, st, ok', .d (.tup (SqT.of upd_same) (.cons ?_ (.cons ((svd r1).mono st.g) .nil)))⟩
    rw [Nat.zero_add]
    exact .int _
  stop := fun G H σ m as sg pr ok hc => by
    obtain ⟨a', vs, e, h1, h2⟩ := sq_ok ok (r.mono sg pr) hc
    cases e
    have hL : SqL K H a vs := by
      rcases hb with rfl | rfl
      · exact SqL.of h1
      · exact h1
    refine ⟨vs, hL, ?_⟩
    rw [numbered_len, ← rpAll_len (allD_ok hds h2)]
    exact Nat.le_refl _
end
section
variable {X : Cx}
def iEnumD (t : A1) : I1 := fun m R => t m fun xs m1 => match xs with
  | [x] => one? (sq m1.s x) fun p => one? (allD p.2) fun ds => (p.1 = .l ∨ p.1 = .s) ∧ R (numbered 0 ds) (fun S => sq S x = some p) m1
  | _ => False
theorem di_enum {e : Expr} {ta : A1} {p pos tpos : Pos} {elts : List Expr} {kk : Nat} (hg : Gl X "enumerate") (hm : X.mg "enumerate" = none) (ha : DA X [e] ta) (hs : starEach [e] X.env = [(false, eval e X.env)] := by rfl) :
    DI X (.Tuple elts kk tpos) (.Call (.Name "enumerate" p) [e] [] pos) (iEnumD ta) := ⟨fun G H σ m as R ok q =>
  iSemT_of (pi_enum hg hm (pa_sem X [e]) hs) (by
    refine aSem_mono (ha.run G H σ m as _ ok q) fun vs H1 ⟨G1, m1, as1, xs, st1, ok1, r1, q1⟩ => ?_
    match xs, r1, q1 with
    | [x], r1, q1 =>
      obtain ⟨v, rfl, r2⟩ := sva1 r1
      obtain ⟨⟨b, ys⟩, e1, q2⟩ := one_cases q1
      obtain ⟨ds, e2, hb, q3⟩ := one_cases q2
      obtain ⟨a, us, ev, h1, h2⟩ := sq_ok ok1 r2 e1
      subst ev
      have hL : SqL X.K H1 a us := by
        rcases hb with hb | hb
        · cases (show b = .l from hb); exact SqL.of h1
        · cases (show b = .s from hb); exact h1
      exact ⟨a, us, rfl, hL, G1, m1, as1, _, _, st1, ok1, itD_enum hb e2 r2, q3⟩)⟩
end
/-! ### list.index of texts -/
def idxS (b : Str) : List Str → Option Nat
  | [] => none
  | a :: r => if eqV (.str a) (.str b) = true then some 0 else (idxS b r).map (· + 1)
theorem idxS_ok {b : Str} : ∀ {ys : List Str} {j : Nat}, idxS b ys = some j → (∃ z, (ys.map V.str)[j]? = some z ∧ eqV z (.str b) = true) ∧ ∀ (m : Nat) (z' : V), m < j → (ys.map V.str)[m]? = some z' → eqV z' (.str b) = false
  | [], j, h => by cases h
  | a :: r, j, h => by
    unfold idxS at h
    by_cases e : eqV (.str a) (.str b) = true
    · rw [if_pos e] at h
      cases h
      exact ⟨⟨_, rfl, e⟩, fun m z' hm => by omega⟩
    · rw [if_neg e] at h
      obtain ⟨j', h1, rfl⟩ := Option.map_eq_some_iff.mp h
      obtain ⟨⟨z, h2, h3⟩, h4⟩ := idxS_ok h1
      refine ⟨⟨z, h2, h3⟩, fun m z' hm hz => ?_⟩
      cases m with
      | zero => cases hz; exact Bool.eq_false_iff.mpr e
      | succ m => exact h4 m z' (by omega) hz
def eIdxL (to te : E1) : E1 := fun m Q => to m fun x m1 => one? (lsAt m1.s x) fun _ => te m1 fun y m2 => one? (lsAt m2.s x) fun p => one? ((allD p.2).bind strsD) fun ys => one? y.str? fun b => one? (idxS b ys) fun j => Q (.d (.int (j : Nat))) m2
theorem flat_strs (ys : List Str) : (ys.map V.str).all flatV = true := by
  induction ys with
  | nil => rfl
  | cons a r ih => rw [List.map_cons, List.all_cons, ih]; rfl
section
variable {X : Cx} {o e : Expr} {to te : E1} {apos cpos : Pos}
theorem de_indexL (ho : DE X o to) (ha : DE X e te) (hbase : attributeBase o "index" X.env (eval o X.env) = eval o X.env := by rfl)
    (hfew : ((backTo cpos (starEach [e] X.env)).all (fun x => !x.1) && (backToKw cpos (keywordEach [] X.env)).all (fun x => x.1.isSome)
      && decide (([e] : List Expr).length + ([] : List Keyword).length + (if ([] : List Keyword).isEmpty then 0 else 1) < 30)) = true := by rfl)
    (hline : (apos.endLine == cpos.line) = true := by rfl) (hs : starEach [e] X.env = (false, eval e X.env) :: starEach [] X.env := by rfl) (hplain : (backTo cpos (starEach [] X.env)).any (·.1) = false := by rfl) :
    DE X (.Call (.Attribute o "index" apos) [e] [] cpos) (eIdxL to te) := ⟨fun G H σ m as Q ok q =>
  tSem_of (pe_bm PySem.F.plainAttrs_list PySem.F.slot_list_index PySem.F.type_list_index mt_index (pe_sem X o) (pa_cons (pe_sem X e) pa_nil hs) hbase hfew hline hs hplain) (by
    refine tSem_mono (ho.run G H σ m as _ ok q) fun v H1 ⟨G1, m1, as1, x, st1, ok1, r1, q1⟩ => ?_
    obtain ⟨⟨k0, xs0⟩, e0, q2⟩ := one_cases q1
    obtain ⟨a0, vs0, ev, _, _, h0, _⟩ := lsAt_ok ok1 r1 e0
    subst ev
    refine ⟨.inl ⟨rfl, vs0, SqL.of h0⟩, ?_⟩
    refine tSem_mono (ha.run G1 H1 σ m1 as1 _ ok1 q2) fun u H2 ⟨G2, m2, as2, y, st2, ok2, r2, q3⟩ => ?_
    obtain ⟨⟨k, xs⟩, e1, q4⟩ := one_cases q3
    obtain ⟨ys, e2, q5⟩ := one_cases q4
    obtain ⟨b, e3, q6⟩ := one_cases q5
    obtain ⟨j, e4, q7⟩ := one_cases q6
    obtain ⟨ds, e5, e6⟩ := Option.bind_eq_some_iff.mp e2
    obtain ⟨a, vs, ev, ha', hc, h1, h2⟩ := lsAt_ok ok2 (r1.mono st2.g st2.pre) e1
    cases ev
    have e7 := strsD_ok (allD_ok e5 h2) e6
    subst e7
    rw [Sv.str_eq e3] at r2
    obtain ⟨⟨z, h3, h4⟩, h5⟩ := idxS_ok e4
    refine ⟨a0, ys.map V.str, .str b, j, z, rfl, by rw [sv_str r2], SqL.of h1, rfl, flat_strs ys, h3, h4, h5, ?_⟩
    exact OnV.from (st1.trans st2) (OnV.d ok2 (.int _) q7))⟩
end
end Sy
namespace PySem
/-- enumerate(a tuple): its parts -/
theorem enumT_new (q : Addr) (ws : Array Value) (k : Nat) (dc : Option Addr) (sl : Array (Option Value)) :
    Meets (Builtin.«enumerate.__new__» ⟨[.type "enumerate", .ref q], []⟩) (fun _ R t => t.heap.get? q = some { cls := .type "tuple", dict := dc, data := .seq ws k, slots := sl } ∧
      R (.ok (.ret (.ref (t.heap.push { cls := .type "tuple_iterator", data := .fields #[.ref q, .int 0 0] }).objs.size)))
        { t with heap := (t.heap.push { cls := .type "tuple_iterator", data := .fields #[.ref q, .int 0 0] }).push { cls := .type "enumerate", data := .fields #[.none, .bool false, .ref t.heap.objs.size, rawInt 0, .none, .none] } }) :=
  .of_wp fun prog w A R t h => by
    obtain ⟨hp, gn, dr, tk, os⟩ := t
    obtain ⟨hq, h⟩ := h
    have hs := sub_enumerate
    have hT : Heap.IsTuple (Shared.heap ⟨hp, gn, dr, tk, os⟩) q ws := ⟨_, hq, rfl, k, rfl⟩
    wp_walk using AutoSeq1.wpAny_loadPart' hq
    refine wpAny_stack_any fun z => wpAny_pure ?_
    split
    · rename_i c _ _ _ _ _
      cases (c == Value.type "enumerate")
      · wp_walk using AutoSeq1.wpAny_loadPart' hq, wpAny_pyIter_tuple hT
        exact ⟨_, rfl, h⟩
      · wp_walk using AutoSeq1.wpAny_loadPart' hq, wpAny_pyIter_tuple hT
        exact ⟨_, rfl, h⟩
    · wp_walk using AutoSeq1.wpAny_loadPart' hq, wpAny_pyIter_tuple hT
      exact ⟨_, rfl, h⟩
theorem enumT_make {prog : Program} {w : World} {A : Around} {E : Value → Shared → Prop} {t : Shared} {q : Addr} {ws : Array Value} {Q : Value → Shared → Prop} (hT : t.heap.IsTuple q ws)
    (go : ∀ hp', IsEnum hp' (t.heap.objs.size + 1) t.heap.objs.size 0 .none → hp'.IsTupleIter t.heap.objs.size q 0 → (∀ b o, t.heap.get? b = some o → hp'.get? b = some o) → Q (.ref (t.heap.objs.size + 1)) { t with heap := hp' }) :
    wpAny (model prog w) A (call (.type "enumerate") [.ref q]) Q E t := by
  obtain ⟨⟨c, dc, dt, sl⟩, hq, hc, k, hd⟩ := hT
  cases (show c = .type "tuple" from hc)
  cases (show dt = .seq ws k from hd)
  refine callType_new F.called_enumerate (by decide) (F.typeCall_enumerate_1 _) (F.newCall_enumerate_1 _) (fun o => F.args_object_init_2 o _) F.entry_enumerate_new (enumT_new q ws k dc sl) ⟨hq, ?_⟩
  have sz : (t.heap.push { cls := .type "tuple_iterator", data := .fields #[.ref q, .int 0 0] }).objs.size = t.heap.objs.size + 1 := Heap.size_push ..
  show _ ∧ _
  rw [sz]
  have at_ := Heap.get?_push_size (t.heap.push { cls := .type "tuple_iterator", data := .fields #[.ref q, .int 0 0] }) (o := { cls := .type "enumerate", data := .fields #[.none, .bool false, .ref t.heap.objs.size, rawInt 0, .none, .none] }) rfl
  rw [sz] at at_
  exact ⟨⟨_, at_, rfl⟩, go _ at_ ⟨_, Heap.get?_push_of_some _ (Heap.get?_push_size _ rfl), rfl, rfl⟩ fun b o z => Heap.get?_push_of_some _ (Heap.get?_push_of_some _ z)⟩
end PySem
namespace PySem
/-- a tuple's iterator, drawn from -/
theorem drawsT {prog : Program} {w : World} {A : Around} (hh : A.handled = none) (it q : Addr) (hne : q ≠ it) (ws : Array Value) :
    Draws prog w A it [it, q] ws.size (fun i v => ws[i]? = some v) (fun i h => h.IsTupleIter it q i ∧ h.IsTuple q ws) where
  live := fun _ _ z => let ⟨o, ho, _⟩ := z.1; ⟨o, ho⟩
  frame := fun _ _ _ z k => ⟨z.1.at fun o e => k it (by simp) o e, z.2.at fun o e => k q (by simp) o e⟩
  item := fun i t Q E hi z go => by
    refine wpAny_nextOf_tuple_item z.1 z.2 (x := ws[i]) (by simp [hi]) fun h' nx sb => ?_
    exact go _ h' t.toks (by simp [hi]) ⟨nx, z.2.at fun o e => sb.extBut q o hne e⟩ sb
  done := fun t Q E z go => wpAny_nextOf_tuple_end hh z.1 z.2 (by simp) go
theorem drawsEnd {prog : Program} {w : World} {A : Around} (hh : A.handled = none) (it q : Addr) (ws : Array Value) (n : Nat) (hn : ws[n]? = none) :
    Draws prog w A it [it, q] n (fun _ _ => True) (fun i h => i = n ∧ h.IsTupleIter it q n ∧ h.IsTuple q ws) where
  live := fun _ _ z => let ⟨o, ho, _⟩ := z.2.1; ⟨o, ho⟩
  frame := fun _ _ _ z k => ⟨z.1, z.2.1.at fun o e => k it (by simp) o e, z.2.2.at fun o e => k q (by simp) o e⟩
  item := fun i t Q E hi z go => absurd z.1 (Nat.ne_of_lt hi)
  done := fun t Q E z go => wpAny_nextOf_tuple_end hh z.2.1 z.2.2 hn go
theorem get_size {α : Type} {l : List α} {i : Nat} {x : α} (h : l[i]? = some x) : i < l.toArray.size := by
  have := (List.getElem?_eq_some_iff.mp h).1
  simpa using this
end PySem
namespace L2
open PySem PySem.Spec PyProof.Rows
/-- the tuple at a, numbered -/
def IteT (K : PySem.W.Frag) (a : Addr) : It :=
  ⟨fun i H => ∃ (xs : List V) (x : V), SqT K H a xs ∧ xs[i]? = some x, fun i H v H' => ∃ T x, v = .ref T ∧ H T = none ∧ H' = upd H T (.tup [.int (i : Nat), x]) ∧ ∀ xs, SqT K H a xs → xs[i]? = some x, fun i H => ∃ xs : List V, SqT K H a xs ∧ xs.length ≤ i⟩
theorem apart_tuple {h : Heap} {q e : Addr} {ws : Array Value} {o : Obj} (hq : h.IsTuple q ws) (he : h.get? e = some o) (hc : o.cls ≠ .type "tuple") : q ≠ e := fun z => by
  obtain ⟨o', h1, h2, _⟩ := hq
  rw [z, he] at h1
  cases h1
  exact hc h2
theorem turn_enumT {P : Program} {w : World} {K : PySem.W.Frag} {elts : List Expr} {kk : Nat} {tpos : Pos} (a e it : Addr) :
    Turn P w K (.Tuple elts kk tpos) (IteT K a) [e, it] e (fun i h => (∃ old, IsEnum h e it ((i : Nat) : Int) old) ∧ h.IsTupleIter it a i ∧ e ≠ it) where
  mem := by simp
  obj := fun i h z b hb => by
    obtain ⟨⟨old, he⟩, ⟨o, ho, hc, hd⟩, _⟩ := z
    rcases (show b = e ∨ b = it by simpa using hb) with q | q
    · rw [q]; exact ⟨_, he, fun v z => nomatch z⟩
    · rw [q]; exact ⟨o, ho, fun v z => by rw [hd] at z; cases z⟩
  keep := fun i h h' z k => let ⟨⟨old, he⟩, hi, hne⟩ := z; ⟨⟨old, k e (by simp) _ he⟩, hi.at fun o q => k it (by simp) o q, hne⟩
  item := by
    intro X eP ew eK hc i pins s σ H E I hf z hg
    subst eP ew eK
    obtain ⟨⟨old, he⟩, hit, hne⟩ := z
    obtain ⟨xs, x, hq, hx⟩ := hg
    obtain ⟨ws, rv, p, _⟩ := I.tuple hq
    obtain ⟨u, hu, ru⟩ := rv.get hx
    have le : e < s.heap.objs.size := Heap.lt_size he
    have li : it < s.heap.objs.size := by obtain ⟨_, q, _⟩ := hit; exact Heap.lt_size q
    have ni : a ≠ it := by
      obtain ⟨o, ho, hcl, _⟩ := hit
      exact apart_tuple p ho (by rw [show o.cls = _ from hcl]; decide)
    have ne : a ≠ e := apart_tuple p he (fun z => by injection z with z; exact absurd z (by decide))
    refine wpAny_pyNext_enum_itemD (drawsT (show X.A.in1.handled = none from I.ok.hd hc) it a ni ws.toArray) he ⟨hit, p⟩ (get_size hu) hne (by simp [hne, Ne.symm ne]) fun v h' tk hv ho st' hT sz hk => ?_
    have ev : v = u := by
      rw [show ws.toArray[i]? = ws[i]? from List.getElem?_toArray ..] at hv
      rw [hu] at hv
      exact (Option.some.inj hv).symm
    subst ev
    refine ⟨_, rfl, wpAny_letOwnedTupleGo_enum (s := { s with heap := h', toks := tk + 1 }) ho fun h2 he2 sb => ?_⟩
    have hT2 : h2.get? s.heap.objs.size = some { cls := .type "tuple", data := .seq #[.int i tk, v] } := (sb.2 _ (Nat.ne_of_gt le)).trans hT
    have fresh : ObjOk X.prog X.w (upd H s.heap.objs.size (.tup [.int (i : Nat), x])) h2 s.heap.objs.size (.tup [.int (i : Nat), x]) :=
      ⟨by show 2 ≤ sizeLine; decide, [.int i tk, v], .cons ⟨_, rfl⟩ (.cons ru .nil), ⟨_, hT2, rfl, _, rfl⟩⟩
    have I1 := I.turnedNew (t' := tk + 1) (ch := [e, it]) (fun b ob hb q => (sb.2 b (fun z => hb (by simp [z]))).trans (hk b ob (fun z => hb (by simp [z])) (fun z => hb (by simp [z])) q)) hf (Nat.le_refl _) fresh
    refine ⟨.ref s.heap.objs.size, _, I1, rfl, ⟨_, x, rfl, I.hok.fresh (Nat.le_refl _), rfl, fun ys hy => by rw [I.tuple_inj hy hq]; exact hx⟩, ⟨⟨v, ?_⟩, st'.1.at fun o q => (sb.2 it (Ne.symm hne)).trans q, hne⟩, fun b hb => ?_⟩
    · rw [show ((i + 1 : Nat) : Int) = (i : Int) + 1 by omega]
      exact he2
    · have lb : b < s.heap.objs.size := by
        rcases (show b = e ∨ b = it by simpa using hb) with q | q
        · rw [q]; exact le
        · rw [q]; exact li
      rw [upd_ne (Nat.ne_of_lt lb)]
      exact (hf b hb).1
  done := by
    intro X eP ew eK hc i pins s σ H E I hf z hg
    subst eP ew eK
    obtain ⟨⟨old, he⟩, hit, hne⟩ := z
    obtain ⟨xs, hq, hx⟩ := hg
    obtain ⟨ws, rv, p, _⟩ := I.tuple hq
    have n := rv.length
    have none_ : ws.toArray[i]? = none := by
      rw [show ws.toArray[i]? = ws[i]? from List.getElem?_toArray ..]
      exact List.getElem?_eq_none (by omega)
    obtain ⟨f0, f1, f2, f3, f4, f5⟩ := hf it (by simp)
    exact wpAny_pyNext_enum_endD (drawsEnd (show X.A.in1.handled = none from I.ok.hd hc) it a ws.toArray i none_) he ⟨rfl, hit, p⟩ fun h' eb => ⟨rfl, I.turned (t' := s.toks) (fun b o hb q => eb b o hb q) f0 f1 f3 f4 f5⟩
  self := fun A i s Q E z h => let ⟨⟨_, he⟩, _⟩ := z; wpAny_pyIter_enum he h
end L2
/-! Vy: states of owned values over the hand layer. -/
namespace Vy
open PySem PySem.Spec PyProof.Rows L2
open Sy (D Rp RpAll RpK RpF tSem tSem_mono tSem_of pe_sem qSem qSem_mono qSem_of pt_sem wSem wSem_of pw_sem aSem aSem_mono aSem_of pa_sem sSem sSem_of sSem_mono ps_sem bSem bSem_of bSem_mono pss_sem dealK sqT_mono one? one_cases both both_cases IfB)
/-- values as a state holds them: d stands still; the others are owned by what holds them -/
inductive Val where
  | no | d (x : D) | lD (xs : List D) | ls (xs : List Val) | tp (xs : List Val) | dD (kvs : List (Key × D)) | di (kvs : List (Key × Val)) | ob (C : Addr) (fs : List (Str × Val)) | dl
abbrev En := List Val
/-- a slot is set; what stands ahead of it is laid out -/
def setK : En → Nat → Val → (En → Prop) → Prop
  | [], _, _, k => k []
  | _ :: r, 0, x, k => k (x :: r)
  | y :: r, i + 1, x, k => setK r i x fun r' => k (y :: r')
theorem setK_eq : ∀ (en : En) (i : Nat) (x : Val) (k : En → Prop), setK en i x k ↔ k (en.set i x)
  | [], i, x, k => by cases i <;> exact Iff.rfl
  | y :: r, 0, x, k => Iff.rfl
  | y :: r, i + 1, x, k => setK_eq r i x fun r' => k (y :: r')
mutual
inductive VR (K : PySem.W.Frag) (G H : Hp) : V → Val → List Addr → Prop
  | no (v : V) : VR K G H v .no []
  | d {v : V} {x : D} : Rp K G v x → VR K G H v (.d x) []
  | lD {a : Addr} {vs : List V} {ds : List D} : H a = some (.lst vs) → RpAll K G vs ds → VR K G H (.ref a) (.lD ds) [a]
  | ls {a : Addr} {vs : List V} {xs : List Val} {f : List Addr} : H a = some (.lst vs) → VRs K G H vs xs f → VR K G H (.ref a) (.ls xs) (a :: f)
  | tp {a : Addr} {vs : List V} {xs : List Val} {f : List Addr} : H a = some (.tup vs) → VRs K G H vs xs f → VR K G H (.ref a) (.tp xs) (a :: f)
  | dD {a : Addr} {vs : List (Key × V)} {ds : List (Key × D)} : H a = some (.dK vs) → RpK K G vs ds → VR K G H (.ref a) (.dD ds) [a]
  | di {a : Addr} {vs : List (Key × V)} {xs : List (Key × Val)} {f : List Addr} : H a = some (.dK vs) → vs.map (·.1) = xs.map (·.1) → VRs K G H (vs.map (·.2)) (xs.map (·.2)) f → VR K G H (.ref a) (.di xs) (a :: f)
  | ob {a C dx : Addr} {vs : List (Str × V)} {xs : List (Str × Val)} {f : List Addr} : H a = some (.ins C dx vs) → vs.map (·.1) = xs.map (·.1) → VRs K G H (vs.map (·.2)) (xs.map (·.2)) f → VR K G H (.ref a) (.ob C xs) (a :: f)
  | dl {a l : Addr} {sd nm : Int} {ns : List Int} : H a = some (.dK (dealK sd nm l)) → H l = some (.lst (ns.map V.int)) → 0 ≤ sd → sd < 2147483648 → 0 ≤ nm → (∀ n ∈ ns, 0 ≤ n) → VR K G H (.ref a) .dl [a, l]
inductive VRs (K : PySem.W.Frag) (G H : Hp) : List V → List Val → List Addr → Prop
  | nil : VRs K G H [] [] []
  | cons {v : V} {vs : List V} {x : Val} {xs : List Val} {f g : List Addr} : VR K G H v x f → VRs K G H vs xs g → VRs K G H (v :: vs) (x :: xs) (f ++ g)
end
section
variable {K : PySem.W.Frag} {G H G' H' : Hp}
/-- what is owned stands as it stood -/
def Kept (H H' : Hp) (f : List Addr) : Prop := ∀ a o, H a = some o → a ∈ f → H' a = some o
theorem Kept.l {f g : List Addr} (h : Kept H H' (f ++ g)) : Kept H H' f := fun a o e m => h a o e (List.mem_append_left _ m)
theorem Kept.r {f g : List Addr} (h : Kept H H' (f ++ g)) : Kept H H' g := fun a o e m => h a o e (List.mem_append_right _ m)
theorem Kept.t {a : Addr} {g : List Addr} (h : Kept H H' (a :: g)) : Kept H H' g := fun b o e m => h b o e (List.mem_cons_of_mem _ m)
mutual
theorem VR.frame (e : Same G G') : ∀ {v : V} {x : Val} {f : List Addr}, VR K G H v x f → Kept H H' f → VR K G' H' v x f
  | _, _, _, .no v, _ => .no v
  | _, _, _, .d h, _ => .d (h.mono e)
  | _, _, _, .lD h r, k => .lD (k _ _ h (by simp)) (r.mono e)
  | _, _, _, .ls h r, k => .ls (k _ _ h (by simp)) (VRs.frame e r k.t)
  | _, _, _, .tp h r, k => .tp (k _ _ h (by simp)) (VRs.frame e r k.t)
  | _, _, _, .dD h r, k => .dD (k _ _ h (by simp)) (r.mono e)
  | _, _, _, .di h q r, k => .di (k _ _ h (by simp)) q (VRs.frame e r k.t)
  | _, _, _, .ob h q r, k => .ob (k _ _ h (by simp)) q (VRs.frame e r k.t)
  | _, _, _, .dl h q a b c d, k => .dl (k _ _ h (by simp)) (k _ _ q (by simp)) a b c d
theorem VRs.frame (e : Same G G') : ∀ {v : List V} {x : List Val} {f : List Addr}, VRs K G H v x f → Kept H H' f → VRs K G' H' v x f
  | _, _, _, .nil, _ => .nil
  | _, _, _, .cons h r, k => .cons (VR.frame e h k.l) (VRs.frame e r k.r)
end
mutual
theorem VR.alive : ∀ {v : V} {x : Val} {f : List Addr}, VR K G H v x f → ∀ a ∈ f, H a ≠ none
  | _, _, _, .no v, a, m => by cases m
  | _, _, _, .d h, a, m => by cases m
  | _, _, _, .lD h r, a, m => by rw [List.mem_singleton.mp m, h]; intro z; cases z
  | _, _, _, .ls h r, a, m => by
    rcases List.mem_cons.mp m with q | q
    · rw [q, h]; intro z; cases z
    · exact VRs.alive r a q
  | _, _, _, .tp h r, a, m => by
    rcases List.mem_cons.mp m with q | q
    · rw [q, h]; intro z; cases z
    · exact VRs.alive r a q
  | _, _, _, .dD h r, a, m => by rw [List.mem_singleton.mp m, h]; intro z; cases z
  | _, _, _, .di h _ r, a, m => by
    rcases List.mem_cons.mp m with q | q
    · rw [q, h]; intro z; cases z
    · exact VRs.alive r a q
  | _, _, _, .ob h _ r, a, m => by
    rcases List.mem_cons.mp m with q | q
    · rw [q, h]; intro z; cases z
    · exact VRs.alive r a q
  | _, _, _, .dl h q _ _ _ _, a, m => by
    rcases List.mem_cons.mp m with e | e
    · rw [e, h]; intro z; cases z
    · rw [List.mem_singleton.mp e, q]; intro z; cases z
theorem VRs.alive : ∀ {v : List V} {x : List Val} {f : List Addr}, VRs K G H v x f → ∀ a ∈ f, H a ≠ none
  | _, _, _, .nil, a, m => by cases m
  | _, _, _, .cons h r, a, m => by
    rcases List.mem_append.mp m with q | q
    · exact VR.alive h a q
    · exact VRs.alive r a q
end
theorem VRs.len : ∀ {v : List V} {x : List Val} {f : List Addr}, VRs K G H v x f → v.length = x.length
  | _, _, _, .nil => rfl
  | _, _, _, .cons _ r => by rw [List.length_cons, List.length_cons, VRs.len r]
theorem VRs.app : ∀ {v u : List V} {x y : List Val} {f g : List Addr}, VRs K G H v x f → VRs K G H u y g → VRs K G H (v ++ u) (x ++ y) (f ++ g)
  | _, _, _, _, _, _, .nil, h => h
  | _, _, _, _, _, _, .cons (f := f) (g := g) h r, k => by
    rw [List.append_assoc]; exact .cons h (VRs.app r k)
theorem VRs.split : ∀ {v u : List V} {x y : List Val} {f : List Addr}, VRs K G H (v ++ u) (x ++ y) f → v.length = x.length → ∃ f1 f2, f = f1 ++ f2 ∧ VRs K G H v x f1 ∧ VRs K G H u y f2
  | [], _, [], _, f, h, _ => ⟨[], f, rfl, .nil, h⟩
  | v :: vs, _, x :: xs, _, _, .cons (f := f) (g := g) h r, e => by
    obtain ⟨f1, f2, q, a, b⟩ := VRs.split r (Nat.succ.inj e)
    exact ⟨f ++ f1, f2, by rw [q, List.append_assoc], .cons h a, b⟩
  | [], _, x :: xs, _, _, _, e => by cases e
  | v :: vs, _, [], _, _, _, e => by cases e
theorem VRs.one {v : V} {x : Val} {f : List Addr} (h : VR K G H v x f) : VRs K G H [v] [x] f := by
  have := VRs.cons h (.nil : VRs K G H [] [] [])
  rwa [List.append_nil] at this
theorem VRs.of_one {v : V} {x : Val} {f : List Addr} (h : VRs K G H [v] [x] f) : VR K G H v x f := by
  cases h with
  | cons a b => cases b; rwa [List.append_nil]
/-- what stands at a place, and the rest around it -/
theorem VRs.at : ∀ {vs : List V} {xs : List Val} {f : List Addr} {i : Nat} {x : Val}, VRs K G H vs xs f → xs[i]? = some x →
    ∃ v f1 f2 f3, vs[i]? = some v ∧ f = f1 ++ (f2 ++ f3) ∧ VR K G H v x f2 ∧ VRs K G H (vs.take i) (xs.take i) f1 ∧ VRs K G H (vs.drop (i + 1)) (xs.drop (i + 1)) f3
  | _, _, _, i, x, .nil, e => by cases e
  | _, _, _, 0, x, .cons h r, e => by
    cases e
    exact ⟨_, [], _, _, rfl, rfl, h, .nil, r⟩
  | _, _, _, i + 1, x, .cons (f := f) h r, e => by
    obtain ⟨v, f1, f2, f3, q, q1, q2, q3, q4⟩ := VRs.at (i := i) (x := x) r e
    exact ⟨v, f ++ f1, f2, f3, q, by rw [q1, List.append_assoc], q2, .cons h q3, q4⟩
theorem set_take {α : Type} : ∀ {l : List α} {i : Nat} {x : α}, i < l.length → l.set i x = l.take i ++ x :: l.drop (i + 1)
  | _ :: _, 0, _, _ => rfl
  | a :: l, i + 1, x, h => by
    show a :: l.set i x = a :: (l.take i ++ x :: l.drop (i + 1))
    rw [set_take (Nat.lt_of_succ_lt_succ h)]
theorem take_mid {α : Type} : ∀ {l : List α} {i : Nat} {x : α}, l[i]? = some x → l = l.take i ++ x :: l.drop (i + 1)
  | _ :: _, 0, _, e => by cases e; rfl
  | a :: l, i + 1, x, h => by
    show a :: l = a :: (l.take i ++ x :: l.drop (i + 1))
    rw [← take_mid (l := l) (i := i) h]
end
/-! ### states -/
structure OkV (K : PySem.W.Frag) (G H : Hp) (σ : L2.St) (pn : List (Nat × V)) (en : En) (fr : List (V × Val)) (fp : List Addr) : Prop where
  same : Same G H
  rel : ∃ ve : List V, ve.length = en.length ∧ (∀ (i : Nat) (v : V) (x : Val), ve[i]? = some v → en[i]? = some x → x = .no ∨ σ[i]? = some (some v)) ∧ VRs K G H (ve ++ fr.map (·.1)) (en ++ fr.map (·.2)) fp
  el : en.length ≤ σ.length
  nd : fp.Nodup
  out : ∀ a ∈ fp, G a = none
  pin : ∀ (i : Nat) (v : V), (i, v) ∈ pn → σ[i]? = some (some v)
structure StepV (G H : Hp) (fp : List Addr) (G' H' : Hp) (fp' : List Addr) : Prop where
  g : Same G G'
  dom : ∀ a, H a ≠ none → H' a ≠ none
  fr : ∀ a o, H a = some o → a ∉ fp → H' a = some o
  new : ∀ a ∈ fp', a ∈ fp ∨ H a = none
  gd : ∀ a, G' a ≠ none → G a ≠ none ∨ a ∈ fp ∨ H a = none
theorem ne_none {α : Type} {o : Option α} {x : α} (h : o = some x) : o ≠ none := by rw [h]; intro z; cases z
theorem none_or {H H' : Hp} {a : Addr} (d : ∀ a, H a ≠ none → H' a ≠ none) (h : H' a = none) : H a = none := by
  cases e : H a with
  | none => rfl
  | some o => exact absurd h (d a (ne_none e))
theorem StepV.refl (G H : Hp) (fp : List Addr) : StepV G H fp G H fp := ⟨Same.refl G, fun _ h => h, fun _ _ h _ => h, fun _ h => .inl h, fun _ h => .inl h⟩
theorem StepV.trans {G H G1 H1 G2 H2 : Hp} {f f1 f2 : List Addr} (a : StepV G H f G1 H1 f1) (b : StepV G1 H1 f1 G2 H2 f2) : StepV G H f G2 H2 f2 := by
  refine ⟨a.g.trans b.g, fun x h => b.dom x (a.dom x h), fun x o h n => b.fr x o (a.fr x o h n) fun m => ?_, fun x m => ?_, fun x h => ?_⟩
  · rcases a.new x m with z | z
    · exact n z
    · rw [h] at z; cases z
  · rcases b.new x m with z | z
    · exact a.new x z
    · exact .inr (none_or a.dom z)
  · rcases b.gd x h with z | z | z
    · exact a.gd x z
    · exact .inr (a.new x z)
    · exact .inr (.inr (none_or a.dom z))
theorem StepV.less {G H G' H' : Hp} {f f' g : List Addr} (a : StepV G H f G' H' f') (h : ∀ x ∈ g, x ∈ f') : StepV G H f G' H' g := ⟨a.g, a.dom, a.fr, fun x m => a.new x (h x m), a.gd⟩
section
variable {K : PySem.W.Frag} {G H G' H' : Hp} {σ : L2.St} {pn : List (Nat × V)} {en : En} {fr : List (V × Val)} {fp : List Addr} {v : V} {x : Val}
/-- the last frame let go -/
theorem OkV.drop (ok : OkV K G H σ pn en (fr ++ [(v, x)]) fp) : ∃ f g, fp = f ++ g ∧ OkV K G H σ pn en fr f ∧ VR K G H v x g := by
  obtain ⟨ve, hl, hs, r⟩ := ok.rel
  rw [List.map_append, List.map_append, ← List.append_assoc, ← List.append_assoc] at r
  have hr := VRs.len r
  obtain ⟨f, g, e, r1, r2⟩ := VRs.split r (by simp only [List.length_append, List.length_map, List.length_cons, List.length_nil] at hr ⊢; omega)
  subst e
  have nd := List.nodup_append.mp ok.nd
  exact ⟨f, g, rfl, ⟨ok.same, ⟨ve, hl, hs, r1⟩, ok.el, nd.1, fun a m => ok.out a (List.mem_append_left _ m), ok.pin⟩, VRs.of_one r2⟩
theorem OkV.alive (ok : OkV K G H σ pn en fr fp) : ∀ a ∈ fp, H a ≠ none := by
  obtain ⟨ve, _, _, r⟩ := ok.rel
  exact r.alive
/-- one frame more -/
theorem OkV.push {g : List Addr} (ok : OkV K G H σ pn en fr fp) (st : StepV G H fp G' H' (fp ++ g)) (sm : Same G' H') (k : Kept H H' fp) (r : VR K G' H' v x g) (hn : ∀ a ∈ g, H a = none) (nd : g.Nodup) (out : ∀ a ∈ g, G' a = none) (gd : ∀ a, G' a ≠ none → G a ≠ none ∨ H a = none) :
    OkV K G' H' σ pn en (fr ++ [(v, x)]) (fp ++ g) := by
  obtain ⟨ve, hl, hs, r0⟩ := ok.rel
  refine ⟨sm, ⟨ve, hl, hs, ?_⟩, ok.el, ?_, fun a m => ?_, ok.pin⟩
  · rw [List.map_append, List.map_append, ← List.append_assoc, ← List.append_assoc]
    exact (r0.frame st.g k).app (VRs.one r)
  · rw [List.nodup_append]
    refine ⟨ok.nd, nd, fun a m b n e => ?_⟩
    subst e
    exact ok.alive a m (hn a n)
  · rcases List.mem_append.mp m with q | q
    · cases e : G' a with
      | none => rfl
      | some o =>
        rcases gd a (ne_none e) with z | z
        · exact absurd (ok.out a q) z
        · exact absurd z (ok.alive a q)
    · exact out a q
/-- new data or a new owned value -/
structure NewV (K : PySem.W.Frag) (G H : Hp) (v : V) (x : Val) (G' H' : Hp) (fg : List Addr) : Prop where
  g : Same G G'
  s : Same G' H'
  h : Same H H'
  gd : ∀ a, G' a ≠ none → G a ≠ none ∨ H a = none
  r : VR K G' H' v x fg
  fresh : ∀ a ∈ fg, H a = none
  out : ∀ a ∈ fg, G' a = none
  nd : fg.Nodup
theorem OkV.new {g : List Addr} (ok : OkV K G H σ pn en fr fp) (n : NewV K G H v x G' H' g) : StepV G H fp G' H' (fp ++ g) ∧ OkV K G' H' σ pn en (fr ++ [(v, x)]) (fp ++ g) := by
  have st : StepV G H fp G' H' (fp ++ g) := ⟨n.g, fun a h => by
    cases e : H a with
    | none => exact absurd e h
    | some o => exact ne_none (n.h a o e), fun a o e _ => n.h a o e, fun a m => by
      rcases List.mem_append.mp m with q | q
      · exact .inl q
      · exact .inr (n.fresh a q), fun a e => by
      rcases n.gd a e with z | z
      · exact .inl z
      · exact .inr (.inr z)⟩
  exact ⟨st, ok.push st n.s (fun a o e _ => n.h a o e) n.r n.fresh n.nd n.out n.gd⟩
/-- data that stood already -/
theorem NewV.old (s : Same G H) {d : D} (r : Rp K G v d) : NewV K G H v (.d d) G H [] := ⟨Same.refl G, s, Same.refl H, (fun _ h => .inl h), .d r, (fun _ h => nomatch h), (fun _ h => nomatch h), List.nodup_nil⟩
/-- a new frozen object -/
theorem NewV.grow {p : Addr} {o : HO} (s : Same G H) (hp : H p = none) {d : D} (r : Rp K (upd G p o) (.ref p) d) : NewV K G H (.ref p) (.d d) (upd G p o) (upd H p o) [] := by
  have gp : G p = none := by
    cases e : G p with
    | none => rfl
    | some q => rw [s p q e] at hp; cases hp
  refine ⟨Sy.same_new gp, fun b q e => ?_, Sy.same_new hp, fun a h => ?_, .d r, (fun _ h => nomatch h), (fun _ h => nomatch h), List.nodup_nil⟩
  · by_cases z : b = p
    · subst z; rw [upd_same] at e ⊢; exact e
    · rw [upd_ne z] at e ⊢; exact s b q e
  · by_cases z : a = p
    · subst z; exact .inr hp
    · rw [upd_ne z] at h; exact .inl h
/-- a new owned object -/
theorem NewV.alloc {p : Addr} {o : HO} (s : Same G H) (hp : H p = none) (r : VR K G (upd H p o) (.ref p) x [p]) : NewV K G H (.ref p) x G (upd H p o) [p] := by
  have gp : G p = none := by
    cases e : G p with
    | none => rfl
    | some q => rw [s p q e] at hp; cases hp
  exact ⟨Same.refl G, fun b q e => Sy.same_new hp b q (s b q e), Sy.same_new hp, fun a h => .inl h, r, fun a m => by rw [List.mem_singleton.mp m]; exact hp, fun a m => by rw [List.mem_singleton.mp m]; exact gp, by simp⟩
/-- a slot's value, and how to change it -/
theorem OkV.focus (ok : OkV K G H σ pn en fr fp) {i : Nat} (hx : en[i]? = some x) (hn : x ≠ .no) : ∃ v g, σ[i]? = some (some v) ∧ VR K G H v x g ∧ g.Nodup ∧ (∀ a ∈ g, a ∈ fp) ∧
    ∀ (G' H' : Hp) (x' : Val) (g' : List Addr), Same G G' → Same G' H' → (∀ a, H a ≠ none → H' a ≠ none) → (∀ a o, H a = some o → a ∉ g → H' a = some o) → VR K G' H' v x' g' → g'.Nodup → (∀ a ∈ g', a ∈ g ∨ H a = none) → (∀ a ∈ g', G' a = none) →
      (∀ a, G' a ≠ none → G a ≠ none ∨ a ∈ g ∨ H a = none) → ∃ fp', StepV G H fp G' H' fp' ∧ OkV K G' H' σ pn (en.set i x') fr fp' := by
  obtain ⟨ve, hl, hs, r⟩ := ok.rel
  have hi : i < en.length := (List.getElem?_eq_some_iff.mp hx).1
  have hx2 : (en ++ fr.map (·.2))[i]? = some x := by rw [List.getElem?_append_left hi]; exact hx
  obtain ⟨v, f1, f2, f3, hv, ef, r1, r2, r3⟩ := VRs.at r hx2
  have hv' : ve[i]? = some v := by rw [List.getElem?_append_left (by omega)] at hv; exact hv
  have hσ : σ[i]? = some (some v) := (hs i v x hv' hx).resolve_left hn
  have nd := ok.nd
  rw [ef] at nd
  have nd1 := List.nodup_append.mp nd
  have nd2 := List.nodup_append.mp nd1.2.1
  have alv := ok.alive
  have out := ok.out
  rw [ef] at alv out
  refine ⟨v, f2, hσ, r1, nd2.1, fun a m => by rw [ef]; simp [m], fun G' H' x' g' sg s' dm fro vr ndg new outg gd => ?_⟩
  have k1 : Kept H H' f1 := fun a o e m => fro a o e fun z => nd1.2.2 a m a (List.mem_append_left _ z) rfl
  have k3 : Kept H H' f3 := fun a o e m => fro a o e fun z => nd2.2.2 a z a m rfl
  refine ⟨f1 ++ (g' ++ f3), ⟨sg, dm, fun a o e n => fro a o e fun z => n (by rw [ef]; simp [z]), fun a m => ?_, fun a h => ?_⟩, s', ⟨ve, by rw [List.length_set]; exact hl, fun j u y hu hy => ?_, ?_⟩, by rw [List.length_set]; exact ok.el, ?_, fun a m => ?_, ok.pin⟩
  · rw [ef]
    rcases List.mem_append.mp m with q | q
    · exact .inl (by simp [q])
    · rcases List.mem_append.mp q with q | q
      · rcases new a q with z | z
        · exact .inl (by simp [z])
        · exact .inr z
      · exact .inl (by simp [q])
  · rcases gd a h with z | z | z
    · exact .inl z
    · exact .inr (.inl (by rw [ef]; simp [z]))
    · exact .inr (.inr z)
  · by_cases e : i = j
    · subst e
      rw [hv'] at hu; cases hu
      exact .inr hσ
    · rw [List.getElem?_set_ne e] at hy
      exact hs j u y hu hy
  · have hi2 : i < (en ++ fr.map (·.2)).length := by rw [List.length_append]; omega
    have e1 : en.set i x' ++ fr.map (·.2) = (en ++ fr.map (·.2)).set i x' := by rw [List.set_append_left _ _ hi]
    rw [e1, set_take hi2, take_mid hv]
    exact (r2.frame sg k1).app (.cons vr (r3.frame sg k3))
  · rw [List.nodup_append, List.nodup_append]
    refine ⟨nd1.1, ⟨ndg, nd2.2.1, fun a m b n e => ?_⟩, fun a m b n e => ?_⟩
    · subst e
      rcases new a m with z | z
      · exact nd2.2.2 a z a n rfl
      · exact alv a (by simp [n]) z
    · subst e
      rcases List.mem_append.mp n with n | n
      · rcases new a n with z | z
        · exact nd1.2.2 a m a (List.mem_append_left _ z) rfl
        · exact alv a (by simp [m]) z
      · exact nd1.2.2 a m a (List.mem_append_right _ n) rfl
  · have rest : a ∈ f1 ∨ a ∈ f3 → G' a = none := fun q => by
      cases e : G' a with
      | none => rfl
      | some o =>
        have q1 : a ∈ f1 ++ (f2 ++ f3) := by rcases q with q | q <;> simp [q]
        rcases gd a (ne_none e) with z | z | z
        · exact absurd (out a q1) z
        · rcases q with q | q
          · exact absurd rfl (nd1.2.2 a q a (List.mem_append_left _ z))
          · exact absurd rfl (nd2.2.2 a z a q)
        · exact absurd z (alv a q1)
    rcases List.mem_append.mp m with q | q
    · exact rest (.inl q)
    · rcases List.mem_append.mp q with q | q
      · exact outg a q
      · exact rest (.inr q)
end
/-! ### what stands still -/
mutual
def snap : Val → Option D
  | .no => none
  | .d x => some x
  | .lD xs => some (.lst xs)
  | .ls xs => (snaps xs).map .lst
  | .tp xs => (snaps xs).map .tup
  | .dD kvs => some (.dct kvs)
  | .di kvs => (snapK kvs).map .dct
  | .ob C fs => (snapF fs).map (.ob C)
  | .dl => none
def snaps : List Val → Option (List D)
  | [] => some []
  | x :: xs => match snap x, snaps xs with
    | some d, some ds => some (d :: ds)
    | _, _ => none
def snapK : List (Key × Val) → Option (List (Key × D))
  | [] => some []
  | (k, x) :: xs => match snap x, snapK xs with
    | some d, some ds => some ((k, d) :: ds)
    | _, _ => none
def snapF : List (Str × Val) → Option (List (Str × D))
  | [] => some []
  | (k, x) :: xs => match snap x, snapF xs with
    | some d, some ds => some ((k, d) :: ds)
    | _, _ => none
end
/-- as if what is owned at f stood still -/
def gz (G H : Hp) (f : List Addr) : Hp := fun a => if a ∈ f then H a else G a
section
variable {K : PySem.W.Frag} {G H : Hp}
theorem gz_same (s : Same G H) (f : List Addr) : Same G (gz G H f) := fun a o e => by
  unfold gz
  split
  · exact s a o e
  · exact e
theorem gz_sameH (s : Same G H) (f : List Addr) : Same (gz G H f) H := fun a o e => by
  unfold gz at e
  split at e
  · exact e
  · exact s a o e
theorem gz_in {f : List Addr} {a : Addr} {o : HO} (h : H a = some o) (m : a ∈ f) : gz G H f a = some o := by
  unfold gz; rw [if_pos m]; exact h
theorem gz_dom {f : List Addr} {a : Addr} (h : gz G H f a ≠ none) : G a ≠ none ∨ a ∈ f := by
  unfold gz at h
  split at h
  · rename_i m; exact .inr m
  · exact .inl h
theorem sub_t {a : Addr} {f F : List Addr} (h : ∀ x ∈ a :: f, x ∈ F) : ∀ x ∈ f, x ∈ F := fun x m => h x (List.mem_cons_of_mem _ m)
theorem sub_l {f g F : List Addr} (h : ∀ x ∈ f ++ g, x ∈ F) : ∀ x ∈ f, x ∈ F := fun x m => h x (List.mem_append_left _ m)
theorem sub_r {f g F : List Addr} (h : ∀ x ∈ f ++ g, x ∈ F) : ∀ x ∈ g, x ∈ F := fun x m => h x (List.mem_append_right _ m)
mutual
theorem VR.snap (s : Same G H) {F : List Addr} : ∀ {x : Val} {v : V} {f : List Addr} {d : D}, VR K G H v x f → (∀ a ∈ f, a ∈ F) → Vy.snap x = some d → Rp K (gz G H F) v d
  | .no, _, _, _, _, _, e => by cases e
  | .d x, _, _, _, .d h, _, e => by cases e; exact h.mono (gz_same s F)
  | .lD xs, _, _, _, .lD h r, m, e => by cases e; exact .lst (gz_in h (m _ (by simp))) (r.mono (gz_same s F))
  | .ls xs, _, _, _, .ls h r, m, e => by
    obtain ⟨ds, e1, rfl⟩ := Option.map_eq_some_iff.mp (show (snaps xs).map D.lst = some _ from e)
    exact .lst (gz_in h (m _ (by simp))) (VRs.snap s r (sub_t m) e1)
  | .tp xs, _, _, _, .tp h r, m, e => by
    obtain ⟨ds, e1, rfl⟩ := Option.map_eq_some_iff.mp (show (snaps xs).map D.tup = some _ from e)
    exact .tup (SqT.of (gz_in h (m _ (by simp)))) (VRs.snap s r (sub_t m) e1)
  | .dD kvs, _, _, _, .dD h r, m, e => by cases e; exact .dct (gz_in h (m _ (by simp))) (r.mono (gz_same s F))
  | .di kvs, _, _, _, .di h q r, m, e => by
    obtain ⟨ds, e1, rfl⟩ := Option.map_eq_some_iff.mp (show (snapK kvs).map D.dct = some _ from e)
    exact .dct (gz_in h (m _ (by simp))) (VRs.snapK s q r (sub_t m) e1)
  | .ob C fs, _, _, _, .ob h q r, m, e => by
    obtain ⟨ds, e1, rfl⟩ := Option.map_eq_some_iff.mp (show (snapF fs).map (D.ob C) = some _ from e)
    exact .ob (gz_in h (m _ (by simp))) (VRs.snapF s q r (sub_t m) e1)
  | .dl, _, _, _, _, _, e => by cases e
theorem VRs.snap (s : Same G H) {F : List Addr} : ∀ {x : List Val} {v : List V} {f : List Addr} {d : List D}, VRs K G H v x f → (∀ a ∈ f, a ∈ F) → snaps x = some d → RpAll K (gz G H F) v d
  | [], _, _, _, .nil, _, e => by cases e; exact .nil
  | x :: xs, _, _, d, .cons h r, m, e => by
    unfold snaps at e
    cases e1 : Vy.snap x with
    | none => rw [e1] at e; cases e
    | some d1 =>
      cases e2 : snaps xs with
      | none => rw [e1, e2] at e; cases e
      | some d2 =>
        rw [e1, e2] at e; cases e
        exact .cons (VR.snap s h (sub_l m) e1) (VRs.snap s r (sub_r m) e2)
theorem VRs.snapK (s : Same G H) {F : List Addr} : ∀ {x : List (Key × Val)} {v : List (Key × V)} {f : List Addr} {d : List (Key × D)}, v.map (·.1) = x.map (·.1) → VRs K G H (v.map (·.2)) (x.map (·.2)) f → (∀ a ∈ f, a ∈ F) → Vy.snapK x = some d → RpK K (gz G H F) v d
  | [], [], _, _, _, _, _, e => by cases e; exact .nil
  | [], _ :: _, _, _, q, _, _, _ => by cases q
  | (k, x) :: xs, [], _, _, q, _, _, _ => by cases q
  | (k, x) :: xs, (k', v) :: vs, _, d, q, .cons h r, m, e => by
    unfold Vy.snapK at e
    obtain ⟨q1, q2⟩ := List.cons.inj q
    cases (show k' = k from q1)
    cases e1 : Vy.snap x with
    | none => rw [e1] at e; cases e
    | some d1 =>
      cases e2 : Vy.snapK xs with
      | none => rw [e1, e2] at e; cases e
      | some d2 =>
        rw [e1, e2] at e; cases e
        exact .cons (VR.snap s h (sub_l m) e1) (VRs.snapK s q2 r (sub_r m) e2)
theorem VRs.snapF (s : Same G H) {F : List Addr} : ∀ {x : List (Str × Val)} {v : List (Str × V)} {f : List Addr} {d : List (Str × D)}, v.map (·.1) = x.map (·.1) → VRs K G H (v.map (·.2)) (x.map (·.2)) f → (∀ a ∈ f, a ∈ F) → Vy.snapF x = some d → RpF K (gz G H F) v d
  | [], [], _, _, _, _, _, e => by cases e; exact .nil
  | [], _ :: _, _, _, q, _, _, _ => by cases q
  | (k, x) :: xs, [], _, _, q, _, _, _ => by cases q
  | (k, x) :: xs, (k', v) :: vs, _, d, q, .cons h r, m, e => by
    unfold Vy.snapF at e
    obtain ⟨q1, q2⟩ := List.cons.inj q
    cases (show k' = k from q1)
    cases e1 : Vy.snap x with
    | none => rw [e1] at e; cases e
    | some d1 =>
      cases e2 : Vy.snapF xs with
      | none => rw [e1, e2] at e; cases e
      | some d2 =>
        rw [e1, e2] at e; cases e
        exact .cons (VR.snap s h (sub_l m) e1) (VRs.snapF s q2 r (sub_r m) e2)
end
/-- a look at what is owned -/
theorem VR.look (s : Same G H) {x : Val} {v : V} {f : List Addr} {d : D} (h : VR K G H v x f) (e : Vy.snap x = some d) : Rp K H v d :=
  (VR.snap s h (fun _ m => m) e).mono (gz_sameH s f)
end
end Vy
namespace Vy
open PySem PySem.Spec PyProof.Rows L2
open Sy (D Rp RpAll RpK RpF tSem tSem_mono tSem_of pe_sem qSem qSem_mono qSem_of pt_sem wSem wSem_of wSem_mono pw_sem aSem aSem_mono aSem_of pa_sem sSem sSem_of sSem_mono ps_sem bSem bSem_of bSem_mono pss_sem dealK sqT_mono one? one_cases both both_cases IfB rSem rSem_of rSem_mono op_sem uSem uSem_of uSem_mono un_sem cSem cSem_of cSem_mono call_sem)
/-! ### results -/
inductive Rv where
  | tmp (x : Val) | pl (i : Nat)
def vof (en : En) : Rv → Val
  | .tmp x => x
  | .pl i => en.getD i .no
def tmpF (v : V) : Rv → List (V × Val)
  | .tmp x => [(v, x)]
  | .pl _ => []
def plO (σ : L2.St) (v : V) : Rv → Prop
  | .tmp _ => True
  | .pl i => σ[i]? = some (some v)
def tmpFs : List V → List Rv → List (V × Val)
  | v :: vs, r :: rs => tmpF v r ++ tmpFs vs rs
  | _, _ => []
inductive plOs (σ : L2.St) : List V → List Rv → Prop
  | nil : plOs σ [] []
  | cons {v : V} {r : Rv} {vs : List V} {rs : List Rv} : plO σ v r → plOs σ vs rs → plOs σ (v :: vs) (r :: rs)
theorem plOs.len {σ : L2.St} : ∀ {vs : List V} {rs : List Rv}, plOs σ vs rs → vs.length = rs.length
  | _, _, .nil => rfl
  | _, _, .cons _ r => by rw [List.length_cons, List.length_cons, r.len]
/-- something of this value is there -/
def VRx (K : PySem.W.Frag) (G H : Hp) (v : V) (x : Val) : Prop := ∃ g, VR K G H v x g
abbrev VRl (K : PySem.W.Frag) (G H : Hp) : List V → List Val → Prop := Paired (VRx K G H)
section
variable {K : PySem.W.Frag} {G H G' H' : Hp} {σ : L2.St} {pn : List (Nat × V)} {en : En} {fr rest : List (V × Val)} {fp : List Addr} {v : V} {x : Val}
theorem OkV.drops (ok : OkV K G H σ pn en (fr ++ rest) fp) : ∃ f, OkV K G H σ pn en fr f ∧ (∀ a ∈ f, a ∈ fp) ∧ ∃ g, VRs K G H (rest.map (·.1)) (rest.map (·.2)) g ∧ fp = f ++ g := by
  obtain ⟨ve, hl, hs, r⟩ := ok.rel
  rw [List.map_append, List.map_append, ← List.append_assoc, ← List.append_assoc] at r
  have hr := VRs.len r
  obtain ⟨f, g, e, r1, r2⟩ := VRs.split r (by simp only [List.length_append, List.length_map] at hr ⊢; omega)
  subst e
  have nd := List.nodup_append.mp ok.nd
  exact ⟨f, ⟨ok.same, ⟨ve, hl, hs, r1⟩, ok.el, nd.1, fun a m => ok.out a (List.mem_append_left _ m), ok.pin⟩, fun a m => List.mem_append_left _ m, g, r2, rfl⟩
theorem vrs_mem : ∀ {vs : List V} {xs : List Val} {g : List Addr} {i : Nat} {v : V} {x : Val}, VRs K G H vs xs g → vs[i]? = some v → xs[i]? = some x → VRx K G H v x
  | _, _, _, _, _, _, .nil, e, _ => by cases e
  | _, _, _, 0, _, _, .cons h _, e, e' => by cases e; cases e'; exact ⟨_, h⟩
  | _, _, _, i + 1, _, _, .cons _ r, e, e' => vrs_mem (i := i) r e e'
theorem OkV.slotV (ok : OkV K G H σ pn en fr fp) {i : Nat} (h : σ[i]? = some (some v)) : VRx K G H v (en.getD i .no) := by
  obtain ⟨ve, hl, hs, r⟩ := ok.rel
  cases e : en[i]? with
  | none => rw [List.getD_eq_getElem?_getD, e]; exact ⟨[], .no v⟩
  | some x =>
    rw [List.getD_eq_getElem?_getD, e]
    show VRx K G H v x
    by_cases hn : x = .no
    · rw [hn]; exact ⟨[], .no v⟩
    · have hi := (List.getElem?_eq_some_iff.mp e).1
      have hv : ve[i]? = some ve[i] := List.getElem?_eq_getElem (by omega)
      have h2 := (hs i _ x hv e).resolve_left hn
      rw [h] at h2
      have h3 : v = ve[i] := by cases h2; rfl
      refine vrs_mem (i := i) r (by rw [List.getElem?_append_left (by omega), h3]; exact hv) (by rw [List.getElem?_append_left hi]; exact e)
theorem OkV.frameV (ok : OkV K G H σ pn en (fr ++ (v, x) :: rest) fp) : VRx K G H v x := by
  obtain ⟨f, _, _, g, r, _⟩ := ok.drops
  exact vrs_mem (i := 0) r rfl rfl
theorem OkV.val {r : Rv} (ok : OkV K G H σ pn en (fr ++ (tmpF v r ++ rest)) fp) (p : plO σ v r) : VRx K G H v (vof en r) := by
  cases r with
  | tmp x => exact ok.frameV
  | pl i => exact ok.slotV p
theorem OkV.vals : ∀ {rs : List Rv} {vs : List V} {fr : List (V × Val)}, OkV K G H σ pn en (fr ++ tmpFs vs rs) fp → plOs σ vs rs → VRl K G H vs (rs.map (vof en))
  | [], _, _, _, .nil => .nil
  | r :: rs, _, fr, ok, .cons p q => .cons (ok.val p) (OkV.vals (fr := fr ++ tmpF _ r) (by rw [List.append_assoc]; exact ok) q)
theorem StepV.sub (h : ∀ a ∈ rest.map (fun _ => (0 : Nat)), True) {f fp : List Addr} (s : ∀ a ∈ f, a ∈ fp) : StepV G H fp G H f := (StepV.refl G H fp).less s
/-- a slot's value stands still from now on -/
theorem OkV.still {i : Nat} {d : D} (ok : OkV K G H σ pn en fr fp) (hx : en[i]? = some x) (hd : snap x = some d) : ∃ G' fp', StepV G H fp G' H fp' ∧ OkV K G' H σ pn (en.set i (.d d)) fr fp' ∧ ∃ v, σ[i]? = some (some v) ∧ Rp K G' v d := by
  have hn : x ≠ .no := fun z => by rw [z] at hd; cases hd
  obtain ⟨v, g, hσ, r, ndg, sub, go⟩ := ok.focus hx hn
  have rp := VR.snap ok.same r (fun _ m => m) hd
  obtain ⟨fp', st, ok'⟩ := go (gz G H g) H (.d d) [] (gz_same ok.same g) (gz_sameH ok.same g) (fun _ h => h) (fun _ _ h _ => h) (.d rp) List.nodup_nil (fun _ h => nomatch h) (fun _ h => nomatch h) (fun a h => (gz_dom h).imp id .inl)
  exact ⟨_, fp', st, ok', v, hσ, rp⟩
/-- data put among the frames -/
theorem OkV.putD {d : D} (ok : OkV K G H σ pn en (fr ++ rest) fp) (r : Rp K G v d) : OkV K G H σ pn en (fr ++ (v, .d d) :: rest) fp := by
  obtain ⟨ve, hl, hs, r0⟩ := ok.rel
  have hr := VRs.len r0
  refine ⟨ok.same, ⟨ve, hl, hs, ?_⟩, ok.el, ok.nd, ok.out, ok.pin⟩
  rw [List.map_append, List.map_append, ← List.append_assoc, ← List.append_assoc] at r0 ⊢
  obtain ⟨f, g, e, r1, r2⟩ := VRs.split r0 (by simp only [List.length_append, List.length_map] at hr ⊢; omega)
  rw [e]
  exact r1.app (by have := VRs.cons (VR.d r) r2; simpa using this)
/-- a frame's value stands still -/
theorem OkV.stillF {d : D} (ok : OkV K G H σ pn en (fr ++ (v, x) :: rest) fp) (hd : snap x = some d) : ∃ G' fp', StepV G H fp G' H fp' ∧ OkV K G' H σ pn en (fr ++ (v, .d d) :: rest) fp' := by
  obtain ⟨ve, hl, hs, r0⟩ := ok.rel
  have hr := VRs.len r0
  rw [List.map_append, List.map_append, ← List.append_assoc, ← List.append_assoc] at r0
  obtain ⟨f, g0, e, r1, r2⟩ := VRs.split r0 (by simp only [List.length_append, List.length_map, List.length_cons] at hr ⊢; omega)
  subst e
  cases r2 with
  | @cons _ _ _ _ h g r2 r3 =>
    have rp := VR.snap ok.same r2 (fun _ m => m) hd
    have nd := List.nodup_append.mp ok.nd
    have nd2 := List.nodup_append.mp nd.2.1
    have sub : ∀ a ∈ f ++ g, a ∈ f ++ (h ++ g) := fun a m => by
      rcases List.mem_append.mp m with q | q
      · simp [q]
      · simp [q]
    have k : ∀ {l : List Addr}, Kept H H l := fun a o e _ => e
    refine ⟨gz G H h, f ++ g, ⟨gz_same ok.same h, fun _ z => z, fun _ _ z _ => z, fun a m => .inl (sub a m), fun a z => (gz_dom z).imp id fun m => .inl (by simp [m])⟩, gz_sameH ok.same h, ⟨ve, hl, hs, ?_⟩, ok.el, ?_, fun a m => ?_, ok.pin⟩
    · rw [List.map_append, List.map_append, ← List.append_assoc, ← List.append_assoc]
      exact (r1.frame (gz_same ok.same h) k).app (by have := VRs.cons (VR.d (K := K) (H := H) rp) (r3.frame (gz_same ok.same h) k); simpa using this)
    · rw [List.nodup_append]
      exact ⟨nd.1, nd2.2.1, fun a m b n => nd.2.2 a m b (List.mem_append_right _ n)⟩
    · show gz G H h a = none
      unfold gz
      rw [if_neg]
      · exact ok.out a (sub a m)
      · intro z
        rcases List.mem_append.mp m with q | q
        · exact nd.2.2 a q a (List.mem_append_left _ z) rfl
        · exact nd2.2.2 a z a q rfl
end
/-! ### what may be raised -/
/-- a class, and its fields -/
abbrev ExcV := Value × List (Str × D)
def ExcR (K : PySem.W.Frag) (G H : Hp) (cls : Value) (d : Option Addr) (x : ExcV) : Prop := cls = x.1 ∧ match d with
  | none => x.2 = []
  | some p => ∃ vs, H p = some (.xd vs) ∧ RpF K G vs x.2
abbrev EX := ExcV → En → Prop
def noEx : EX := fun _ _ => False
def WV (K : PySem.W.Frag) (G H : Hp) (fp : List Addr) (pn : List (Nat × V)) (fr : List (V × Val)) (Ex : EX) : L2.WX := fun cls d σ' H' => ∃ G' en' fp' x, StepV G H fp G' H' fp' ∧ OkV K G' H' σ' pn en' fr fp' ∧ ExcR K G' H' cls d x ∧ Ex x en'
def Tk (X : Cx) (pn : List (Nat × V)) (fr : List (V × Val)) (Ex : EX) (G H : Hp) (fp : List Addr) : Prop := Takes X (WV X.K G H fp pn fr Ex)
section
variable {X : Cx} {G H G' H' : Hp} {σ : L2.St} {pn : List (Nat × V)} {en : En} {fr rest : List (V × Val)} {fp fp' : List Addr} {v : V} {x : Val} {Ex Ex' : EX}
theorem Tk.step (t : Tk X pn fr Ex G H fp) (s : StepV G H fp G' H' fp') : Tk X pn fr Ex G' H' fp' := t.imp fun c d σ H2 ⟨G2, en2, f2, x, st, q⟩ => ⟨G2, en2, f2, x, s.trans st, q⟩
theorem Tk.push (t : Tk X pn fr Ex G H fp) : Tk X pn (fr ++ rest) Ex G H fp := t.imp fun c d σ H2 ⟨G2, en2, f2, x, st, ok, q⟩ => by
  obtain ⟨f, ok', sub, _⟩ := ok.drops
  exact ⟨G2, en2, f, x, st.less sub, ok', q⟩
theorem Tk.none : Tk X pn fr noEx G H fp → True := fun _ => trivial
end
/-! ### judgements -/
abbrev SK := Rv → En → Prop
abbrev TV := En → SK → Prop
abbrev QV := En → (Bool → En → Prop) → Prop
abbrev AV := En → (List Rv → En → Prop) → Prop
def OnR (K : PySem.W.Frag) (σ : L2.St) (G H : Hp) (pn : List (Nat × V)) (fr : List (V × Val)) (fp : List Addr) (Q : SK) : VK := fun v H' => ∃ G' en' r fp', StepV G H fp G' H' fp' ∧ OkV K G' H' σ pn en' (fr ++ tmpF v r) fp' ∧ plO σ v r ∧ Q r en'
def OnB (K : PySem.W.Frag) (σ : L2.St) (G H : Hp) (pn : List (Nat × V)) (fr : List (V × Val)) (fp : List Addr) (Q : En → Prop) : Hp → Prop := fun H' => ∃ G' en' fp', StepV G H fp G' H' fp' ∧ OkV K G' H' σ pn en' fr fp' ∧ Q en'
def OnA (K : PySem.W.Frag) (σ : L2.St) (G H : Hp) (pn : List (Nat × V)) (fr : List (V × Val)) (fp : List Addr) (Q : List Rv → En → Prop) : List V → Hp → Prop := fun vs H' => ∃ G' en' rs fp', StepV G H fp G' H' fp' ∧ OkV K G' H' σ pn en' (fr ++ tmpFs vs rs) fp' ∧ plOs σ vs rs ∧ Q rs en'
structure VE (X : Cx) (Ex : EX) (e : Expr) (t : TV) : Prop where
  run : ∀ (G H : Hp) (σ : L2.St) (pn : List (Nat × V)) (en : En) (fr : List (V × Val)) (fp : List Addr) (Q : SK), OkV X.K G H σ pn en fr fp → Tk X pn fr Ex G H fp → t en Q → tSem X e σ H (OnR X.K σ G H pn fr fp Q)
structure VT (X : Cx) (Ex : EX) (e : Expr) (t : QV) : Prop where
  run : ∀ (G H : Hp) (σ : L2.St) (pn : List (Nat × V)) (en : En) (fr : List (V × Val)) (fp : List Addr) (Q : Bool → En → Prop), OkV X.K G H σ pn en fr fp → Tk X pn fr Ex G H fp → t en Q → qSem X e σ H (fun b => OnB X.K σ G H pn fr fp (Q b))
structure VW (X : Cx) (Ex : EX) (e : Expr) (t : QV) : Prop where
  run : ∀ (G H : Hp) (σ : L2.St) (pn : List (Nat × V)) (en : En) (fr : List (V × Val)) (fp : List Addr) (Q : Bool → En → Prop), OkV X.K G H σ pn en fr fp → Tk X pn fr Ex G H fp → t en Q → wSem X e σ H (fun b => OnB X.K σ G H pn fr fp (Q b))
structure VA (X : Cx) (Ex : EX) (es : List Expr) (t : AV) : Prop where
  run : ∀ (G H : Hp) (σ : L2.St) (pn : List (Nat × V)) (en : En) (fr : List (V × Val)) (fp : List Addr) (Q : List Rv → En → Prop), OkV X.K G H σ pn en fr fp → Tk X pn fr Ex G H fp → t en Q → aSem X es σ H (OnA X.K σ G H pn fr fp Q)
section
variable {K : PySem.W.Frag} {σ : L2.St} {G H G1 H1 : Hp} {pn : List (Nat × V)} {en : En} {fr : List (V × Val)} {fp fp1 : List Addr}
theorem OnR.from {Q : SK} {v : V} {H' : Hp} (s : StepV G H fp G1 H1 fp1) (h : OnR K σ G1 H1 pn fr fp1 Q v H') : OnR K σ G H pn fr fp Q v H' := by
  obtain ⟨G', en', r, fp', st, q⟩ := h
  exact ⟨G', en', r, fp', s.trans st, q⟩
theorem OnB.from {Q : En → Prop} {H' : Hp} (s : StepV G H fp G1 H1 fp1) (h : OnB K σ G1 H1 pn fr fp1 Q H') : OnB K σ G H pn fr fp Q H' := by
  obtain ⟨G', en', fp', st, q⟩ := h
  exact ⟨G', en', fp', s.trans st, q⟩
theorem OnA.from {Q : List Rv → En → Prop} {v : List V} {H' : Hp} (s : StepV G H fp G1 H1 fp1) (h : OnA K σ G1 H1 pn fr fp1 Q v H') : OnA K σ G H pn fr fp Q v H' := by
  obtain ⟨G', en', r, fp', st, q⟩ := h
  exact ⟨G', en', r, fp', s.trans st, q⟩
/-- a new value comes of what stands here -/
theorem OnR.new {Q : SK} {v : V} {z : Val} {G' H' : Hp} {g : List Addr} {rest : List (V × Val)} (ok : OkV K G H σ pn en (fr ++ rest) fp) (n : NewV K G H v z G' H' g) (q : Q (.tmp z) en) : OnR K σ G H pn fr fp Q v H' := by
  obtain ⟨f, ok', sub, _⟩ := ok.drops
  obtain ⟨st, ok2⟩ := ok'.new n
  exact ⟨G', en, .tmp z, f ++ g, ((StepV.refl G H fp).less sub).trans st, ok2, trivial, q⟩
theorem OnR.old {Q : SK} {v : V} {d : D} {rest : List (V × Val)} (ok : OkV K G H σ pn en (fr ++ rest) fp) (r : Rp K G v d) (q : Q (.tmp (.d d)) en) : OnR K σ G H pn fr fp Q v H := OnR.new ok (.old ok.same r) q
theorem OnR.here {Q : SK} {v : V} {d : D} (ok : OkV K G H σ pn en fr fp) (r : Rp K G v d) (q : Q (.tmp (.d d)) en) : OnR K σ G H pn fr fp Q v H := OnR.old (rest := []) (by rw [List.append_nil]; exact ok) r q
end
/-! ### operators -/
abbrev OV2 := Val → Val → (Val → Prop) → Prop
abbrev OV1 := Val → (Val → Prop) → Prop
abbrev OVC := List Val → (Val → Prop) → Prop
def NewQ (K : PySem.W.Frag) (G H : Hp) (Q : Val → Prop) : VK := fun w H' => ∃ z G' g, NewV K G H w z G' H' g ∧ Q z
structure OpV (X : Cx) (f : Value → Value → Sem Value) (o : OV2) : Prop where
  run : ∀ (G H : Hp) (v u : V) (x y : Val) (Q : Val → Prop), Same G H → VRx X.K G H v x → VRx X.K G H u y → o x y Q → rSem X f v u H (NewQ X.K G H Q)
structure UnV (X : Cx) (f : Value → Sem Value) (o : OV1) : Prop where
  run : ∀ (G H : Hp) (v : V) (x : Val) (Q : Val → Prop), Same G H → VRx X.K G H v x → o x Q → uSem X f v H (NewQ X.K G H Q)
structure CallV (X : Cx) (f : Value) (o : OVC) : Prop where
  run : ∀ (G H : Hp) (vs : List V) (xs : List Val) (Q : Val → Prop), Same G H → VRl X.K G H vs xs → o xs Q → cSem X f vs H (NewQ X.K G H Q)
def eB (o : OV2) (ta tb : TV) : TV := fun en Q => ta en fun r1 en1 => tb en1 fun r2 en2 => o (vof en2 r1) (vof en2 r2) fun z => Q (.tmp z) en2
def eU (o : OV1) (ta : TV) : TV := fun en Q => ta en fun r en1 => o (vof en1 r) fun z => Q (.tmp z) en1
def eA (o : OVC) (ta : AV) : TV := fun en Q => ta en fun rs en1 => o (rs.map (vof en1)) fun z => Q (.tmp z) en1
section
variable {X : Cx} {Ex : EX} {a b c : Expr} {ta tb tc : TV} {pos : Pos}
/-- two expressions, then what comes of both -/
theorem two {o : OV2} {R : R2} {σ : L2.St} {G H : Hp} {pn : List (Nat × V)} {en : En} {fr : List (V × Val)} {fp : List Addr} {Q : SK} (ha : VE X Ex a ta) (hb : VE X Ex b tb) (ok : OkV X.K G H σ pn en fr fp) (tk : Tk X pn fr Ex G H fp) (q : eB o ta tb en Q)
    (k : ∀ (G H : Hp) (v u : V) (x y : Val) (Q : Val → Prop), Same G H → VRx X.K G H v x → VRx X.K G H u y → o x y Q → R v u H (NewQ X.K G H Q))
    (mono : ∀ (v u : V) (H : Hp) (Q Q' : VK), (∀ v H, Q v H → Q' v H) → R v u H Q → R v u H Q') :
    tOp R (tSem X a) (tSem X b) σ H (OnR X.K σ G H pn fr fp Q) := by
  refine tSem_mono (ha.run G H σ pn en fr fp _ ok tk q) fun v H1 ⟨G1, en1, r1, fp1, st1, ok1, p1, q1⟩ => ?_
  refine tSem_mono (hb.run G1 H1 σ pn en1 _ fp1 _ ok1 (tk.step st1).push q1) fun u H2 ⟨G2, en2, r2, fp2, st2, ok2, p2, q2⟩ => ?_
  rw [List.append_assoc] at ok2
  have x1 := ok2.val p1
  have x2 := OkV.val (fr := fr ++ tmpF v r1) (rest := []) (r := r2) (v := u) (by rw [List.append_nil, List.append_assoc]; exact ok2) p2
  refine mono v u H2 _ _ (fun w H3 ⟨z, G3, g, n, q3⟩ => ?_) (k G2 H2 v u _ _ _ ok2.same x1 x2 q2)
  exact OnR.from (st1.trans st2) (OnR.new ok2 n q3)
theorem ve_bin {op : Operator} {o : OV2} (ho : OpV X (binaryOp op) o) (ha : VE X Ex a ta) (hb : VE X Ex b tb) : VE X Ex (.BinOp a op b pos) (eB o ta tb) :=
  ⟨fun G H σ pn en fr fp Q ok tk q => tSem_of (pe_op (op_sem X _) (pe_sem X a) (pe_sem X b)) (two ha hb ok tk q (fun G H v u x y Q s h1 h2 q => ho.run G H v u x y Q s h1 h2 q) fun _ _ _ _ _ k h => rSem_mono k h)⟩
theorem ve_cmp {op : CmpOp} {o : OV2} (ho : OpV X (compareOp op) o) (ha : VE X Ex a ta) (hb : VE X Ex b tb) (hm : behindInMarks op b = false) : VE X Ex (.Compare a [op] [b] pos) (eB o ta tb) :=
  ⟨fun G H σ pn en fr fp Q ok tk q => tSem_of (pe_cmpR (op_sem X _) (pe_sem X a) (pe_sem X b) hm) (two ha hb ok tk q (fun G H v u x y Q s h1 h2 q => ho.run G H v u x y Q s h1 h2 q) fun _ _ _ _ _ k h => rSem_mono k h)⟩
theorem ve_un {op : UnaryOp} {o : OV1} (ho : UnV X (unaryOp op) o) (ha : VE X Ex a ta) : VE X Ex (.UnaryOp op a pos) (eU o ta) :=
  ⟨fun G H σ pn en fr fp Q ok tk q => tSem_of (pe_un (un_sem X _) (pe_sem X a)) (by
    refine tSem_mono (ha.run G H σ pn en fr fp _ ok tk q) fun v H1 ⟨G1, en1, r1, fp1, st1, ok1, p1, q1⟩ => ?_
    have x1 := OkV.val (rest := []) (by rw [List.append_nil]; exact ok1) p1
    exact uSem_mono (fun w H2 ⟨z, G2, g, n, q2⟩ => OnR.from st1 (OnR.new ok1 n q2)) (ho.run G1 H1 v _ _ ok1.same x1 q1))⟩
/-- a value, as a test -/
def bOf (r : Rv) (en : En) (Q : Bool → En → Prop) : Prop := match vof en r with
  | .d (.bl b) => Q b en
  | _ => False
def eT (t : TV) : QV := fun en Q => t en fun r en1 => bOf r en1 Q
theorem vrx_d {K : PySem.W.Frag} {G H : Hp} {v : V} {d : D} (h : VRx K G H v (.d d)) : Rp K G v d := by
  obtain ⟨g, h⟩ := h
  cases h with
  | d h => exact h
theorem onR_bl {σ : L2.St} {G H : Hp} {pn : List (Nat × V)} {fr : List (V × Val)} {fp : List Addr} {v : V} {H' : Hp} {Q : Bool → En → Prop} (h : OnR X.K σ G H pn fr fp (fun r en => bOf r en Q) v H') : ∃ b, v = .bl b ∧ OnB X.K σ G H pn fr fp (Q b) H' := by
  obtain ⟨G1, en1, r1, fp1, st1, ok1, p1, q1⟩ := h
  have x1 := OkV.val (rest := []) (by rw [List.append_nil]; exact ok1) p1
  unfold bOf at q1
  split at q1
  · rename_i b e
    rw [e] at x1
    obtain ⟨f, ok2, sub, _⟩ := ok1.drops
    exact ⟨b, Sy.rp_bl (vrx_d x1), G1, en1, f, st1.less sub, ok2, q1⟩
  · exact q1.elim
theorem vt_cmp {op : CmpOp} {o : OV2} (ho : OpV X (compareOp op) o) (ha : VE X Ex a ta) (hb : VE X Ex b tb) (hm : behindInMarks op b = false) : VT X Ex (.Compare a [op] [b] pos) (eT (eB o ta tb)) :=
  ⟨fun G H σ pn en fr fp Q ok tk q => qSem_of (pt_cmpR (op_sem X _) (pe_sem X a) (pe_sem X b) hm) (by
    have h := two (R := rSem X (compareOp op)) ha hb ok tk q (fun G H v u x y Q s h1 h2 q => ho.run G H v u x y Q s h1 h2 q) fun _ _ _ _ _ k h => rSem_mono k h
    refine tSem_mono h fun v H1 h1 => tSem_mono h1 fun u H2 h2 => rSem_mono (fun z H3 h3 => ?_) h2
    obtain ⟨b, e, h4⟩ := onR_bl h3
    exact ⟨b, e, h4⟩)⟩
theorem vt_val (ha : VE X Ex a ta) (he : ∀ whole, isTrue a X.env whole = (do let v ← whole; standAt a.pos; holding [v] (truthy v)) := by intro _; rfl) : VT X Ex a (eT ta) :=
  ⟨fun G H σ pn en fr fp Q ok tk q => qSem_of (pt_val (pe_sem X a) he) (by
    refine tSem_mono (ha.run G H σ pn en fr fp _ ok tk q) fun v H1 h => ?_
    exact onR_bl h)⟩
/-! ### and, or, not, if -/
def qAnd (t u : QV) : QV := fun en Q => t en fun b en1 => IfB b (u en1 Q) (Q false en1)
def qOr (t u : QV) : QV := fun en Q => t en fun b en1 => IfB b (Q true en1) (u en1 Q)
def qNot (t : QV) : QV := fun en Q => t en fun b en1 => Q (!b) en1
variable {qa qb : QV} {rest : List Expr}
theorem VW.vt (h : VW X Ex a qa) : VT X Ex a qa := ⟨fun G H σ pn en fr fp Q ok tk q => fun pins s I => h.run G H σ pn en fr fp Q ok tk q _ pins s I⟩
theorem vw_and1 (ha : VT X Ex a qa) : VW X Ex (.BoolOp .And [a] pos) qa := ⟨fun G H σ pn en fr fp Q ok tk q => wSem_of (pw_and1 (pt_sem X a)) (ha.run G H σ pn en fr fp Q ok tk q)⟩
theorem vw_or1 (ha : VT X Ex a qa) : VW X Ex (.BoolOp .Or [a] pos) qa := ⟨fun G H σ pn en fr fp Q ok tk q => wSem_of (pw_or1 (pt_sem X a)) (ha.run G H σ pn en fr fp Q ok tk q)⟩
theorem vw_and (ha : VT X Ex a qa) (hb : VW X Ex (.BoolOp .And (b :: rest) pos) qb) : VW X Ex (.BoolOp .And (a :: b :: rest) pos) (qAnd qa qb) :=
  ⟨fun G H σ pn en fr fp Q ok tk q => wSem_of (pw_and (pt_sem X a) (pw_sem X _)) (by
    refine qSem_mono (ha.run G H σ pn en fr fp _ ok tk q) fun c H1 ⟨G1, en1, fp1, st1, ok1, q1⟩ => ?_
    cases c with
    | true => exact iteT (wSem_mono (hb.run G1 H1 σ pn en1 fr fp1 Q ok1 (tk.step st1) (IfB.tt q1)) fun _ _ h => OnB.from st1 h)
    | false => exact iteF ⟨G1, en1, fp1, st1, ok1, IfB.ff q1⟩)⟩
theorem vw_or (ha : VT X Ex a qa) (hb : VW X Ex (.BoolOp .Or (b :: rest) pos) qb) : VW X Ex (.BoolOp .Or (a :: b :: rest) pos) (qOr qa qb) :=
  ⟨fun G H σ pn en fr fp Q ok tk q => wSem_of (pw_or (pt_sem X a) (pw_sem X _)) (by
    refine qSem_mono (ha.run G H σ pn en fr fp _ ok tk q) fun c H1 ⟨G1, en1, fp1, st1, ok1, q1⟩ => ?_
    cases c with
    | true => exact iteT ⟨G1, en1, fp1, st1, ok1, IfB.tt q1⟩
    | false => exact iteF (wSem_mono (hb.run G1 H1 σ pn en1 fr fp1 Q ok1 (tk.step st1) (IfB.ff q1)) fun _ _ h => OnB.from st1 h))⟩
theorem vt_not (ha : VT X Ex a qa) : VT X Ex (.UnaryOp .Not a pos) (qNot qa) := ⟨fun G H σ pn en fr fp Q ok tk q => qSem_of (pt_not (pt_sem X a)) (ha.run G H σ pn en fr fp (fun b => Q (!b)) ok tk q)⟩
/-- and, or of truths, as values -/
def eBl (t : TV) (f : Bool → En → SK → Prop) : TV := fun en Q => t en fun r en1 => bOf r en1 fun b en2 => f b en2 Q
def eAnd (ta tb : TV) : TV := eBl ta fun b en Q => IfB b (tb en Q) (Q (.tmp (.d (.bl false))) en)
def eOr (ta tb : TV) : TV := eBl ta fun b en Q => IfB b (Q (.tmp (.d (.bl true))) en) (tb en Q)
def eNot (ta : TV) : TV := eBl ta fun b en Q => Q (.tmp (.d (.bl (!b)))) en
theorem eBl_run {f : Bool → En → SK → Prop} {σ : L2.St} {G H : Hp} {pn : List (Nat × V)} {en : En} {fr : List (V × Val)} {fp : List Addr} {Q : SK} (ha : VE X Ex a ta) (ok : OkV X.K G H σ pn en fr fp) (tk : Tk X pn fr Ex G H fp) (q : eBl ta f en Q) :
    tSem X a σ H (fun x H1 => ∃ b, x = .bl b ∧ OnB X.K σ G H pn fr fp (fun en1 => f b en1 Q) H1) := by
  refine tSem_mono (ha.run G H σ pn en fr fp _ ok tk q) fun v H1 h => ?_
  exact onR_bl h
theorem ve_one {op} (h : VE X Ex a ta) : VE X Ex (.BoolOp op [a] pos) ta := ⟨fun G H σ pn en fr fp Q ok tk q => tSem_of (pe_one (pe_sem X a)) (h.run G H σ pn en fr fp Q ok tk q)⟩
theorem ve_and (ha : VE X Ex a ta) (hb : VE X Ex (.BoolOp .And (b :: rest) pos) tb) : VE X Ex (.BoolOp .And (a :: b :: rest) pos) (eAnd ta tb) :=
  ⟨fun G H σ pn en fr fp Q ok tk q => tSem_of (pe_and (pe_sem X a) (pe_sem X _)) (by
    refine tSem_mono (eBl_run ha ok tk q) fun v H1 ⟨c, e, G1, en1, fp1, st1, ok1, q1⟩ => ⟨c, e, ?_⟩
    cases c with
    | true => exact iteT (tSem_mono (hb.run G1 H1 σ pn en1 fr fp1 Q ok1 (tk.step st1) (IfB.tt q1)) fun _ _ h => OnR.from st1 h)
    | false => exact iteF (OnR.from st1 (OnR.here ok1 (.bl false) (IfB.ff q1))))⟩
theorem ve_or (ha : VE X Ex a ta) (hb : VE X Ex (.BoolOp .Or (b :: rest) pos) tb) : VE X Ex (.BoolOp .Or (a :: b :: rest) pos) (eOr ta tb) :=
  ⟨fun G H σ pn en fr fp Q ok tk q => tSem_of (pe_or (pe_sem X a) (pe_sem X _)) (by
    refine tSem_mono (eBl_run ha ok tk q) fun v H1 ⟨c, e, G1, en1, fp1, st1, ok1, q1⟩ => ⟨c, e, ?_⟩
    cases c with
    | true => exact iteT (OnR.from st1 (OnR.here ok1 (.bl true) (IfB.tt q1)))
    | false => exact iteF (tSem_mono (hb.run G1 H1 σ pn en1 fr fp1 Q ok1 (tk.step st1) (IfB.ff q1)) fun _ _ h => OnR.from st1 h))⟩
theorem ve_not (ha : VE X Ex a ta) : VE X Ex (.UnaryOp .Not a pos) (eNot ta) :=
  ⟨fun G H σ pn en fr fp Q ok tk q => tSem_of (pe_not (pe_sem X a)) (by
    refine tSem_mono (eBl_run ha ok tk q) fun v H1 ⟨c, e, G1, en1, fp1, st1, ok1, q1⟩ => ⟨c, e, OnR.from st1 (OnR.here ok1 (.bl _) q1)⟩)⟩
def eIf (t : QV) (ta tb : TV) : TV := fun en Q => t en fun b en1 => IfB b (ta en1 Q) (tb en1 Q)
theorem ve_if (hc : VT X Ex c qa) (ha : VE X Ex a ta) (hb : VE X Ex b tb) : VE X Ex (.IfExp c a b pos) (eIf qa ta tb) :=
  ⟨fun G H σ pn en fr fp Q ok tk q => tSem_of (pe_ifExp (pt_sem X c) (pe_sem X a) (pe_sem X b)) (by
    refine qSem_mono (hc.run G H σ pn en fr fp _ ok tk q) fun c H1 ⟨G1, en1, fp1, st1, ok1, q1⟩ => ?_
    cases c with
    | true => exact iteT (tSem_mono (ha.run G1 H1 σ pn en1 fr fp1 Q ok1 (tk.step st1) (IfB.tt q1)) fun _ _ h => OnR.from st1 h)
    | false => exact iteF (tSem_mono (hb.run G1 H1 σ pn en1 fr fp1 Q ok1 (tk.step st1) (IfB.ff q1)) fun _ _ h => OnR.from st1 h))⟩
/-! ### constants, names -/
def eC (d : D) : TV := fun en Q => Q (.tmp (.d d)) en
theorem ve_const {v : V} {d : D} (h : PE X a (tC v)) (r : ∀ G, Rp X.K G v d) : VE X Ex a (eC d) := ⟨fun G H σ pn en fr fp Q ok tk q => tSem_of h (OnR.here ok (r G) q)⟩
theorem ve_int {i j pos} : VE X Ex (.Constant (.int i) j pos) (eC (.int i)) := ve_const pe_int fun _ => .int i
theorem ve_bl {i j pos} : VE X Ex (.Constant (.bool i) j pos) (eC (.bl i)) := ve_const pe_bl fun _ => .bl i
theorem ve_str {i j pos} : VE X Ex (.Constant (.str i) j pos) (eC (.str i)) := ve_const pe_str fun _ => .str i
theorem ve_non {j pos} : VE X Ex (.Constant .none j pos) (eC .non) := ve_const pe_non fun _ => .non
/-- data of a name is at hand; what is owned is told by its place -/
def eV (i : Nat) : TV := fun en Q => match en[i]? with
  | some (.d x) => Q (.tmp (.d x)) en
  | some .no => False
  | some _ => Q (.pl i) en
  | none => False
theorem OkV.frameD {K : PySem.W.Frag} {G H : Hp} {σ : L2.St} {pn : List (Nat × V)} {en : En} {fr : List (V × Val)} {fp : List Addr} {v : V} {d : D} (ok : OkV K G H σ pn en fr fp) (r : Rp K G v d) : OkV K G H σ pn en (fr ++ [(v, .d d)]) fp := OkV.putD (rest := []) (by rw [List.append_nil]; exact ok) r
theorem ve_var (i : Nat) {x : Str} {pos : Pos} (hN : X.N[i]? = some x := by rfl) (hv : Vis X.env.scope x := by first | exact Or.inl rfl | exact Or.inr (Or.inl rfl) | exact Or.inr (Or.inr rfl)) (hd : (x == ("__debug__" : Str)) = false := by decide)
    (hcd : (x == ("__classdict__" : Str)) = false := by decide) : VE X Ex (.Name x pos) (eV i) := ⟨fun G H σ pn en fr fp Q ok tk q => tSem_of (pe_var hN hv hd hcd) (by
  unfold eV at q
  obtain ⟨ve, hl, hs, r⟩ := ok.rel
  cases e : en[i]? with
  | none => rw [e] at q; exact q.elim
  | some y =>
    rw [e] at q
    have hi := (List.getElem?_eq_some_iff.mp e).1
    have hv : ve[i]? = some ve[i] := List.getElem?_eq_getElem (by omega)
    have own : y ≠ .no → Q (.pl i) en → ∃ v, σ[i]? = some (some v) ∧ OnR X.K σ G H pn fr fp Q v H := fun hn q => ⟨ve[i], (hs i _ y hv e).resolve_left hn, G, en, .pl i, fp, StepV.refl .., by rw [show fr ++ tmpF ve[i] (.pl i) = fr from List.append_nil _]; exact ok, (hs i _ y hv e).resolve_left hn, q⟩
    cases y with
    | no => exact q.elim
    | d x =>
      have h1 := (hs i _ _ hv e).resolve_left (fun z => by cases z)
      have h2 := ok.slotV h1
      rw [List.getD_eq_getElem?_getD, e] at h2
      exact ⟨_, h1, OnR.here ok (vrx_d h2) q⟩
    | lD _ => exact own (fun z => by cases z) q
    | ls _ => exact own (fun z => by cases z) q
    | tp _ => exact own (fun z => by cases z) q
    | dD _ => exact own (fun z => by cases z) q
    | di _ => exact own (fun z => by cases z) q
    | ob _ _ => exact own (fun z => by cases z) q
    | dl => exact own (fun z => by cases z) q)⟩
/-- a module's constant -/
theorem ve_glob {x : Str} {v : V} {u : Value} {d : D} {pos : Pos} (hg : Gl X x) (hm : X.mg x = some u) (r : RelV v u) (rp : ∀ G, Rp X.K G v d) (hd : (x == ("__debug__" : Str)) = false := by decide) : VE X Ex (.Name x pos) (eC d) :=
  ve_const (pe_glob hg hm r hd) rp
theorem ve_bltn {x : Str} {v : V} {u : Value} {pos : Pos} (hg : Gl X x) (hm : X.mg x = none) (hv : bootBuiltins x = some u) (r : RelV v u) (hn : x ≠ "__name__" := by decide) (hd : (x == ("__debug__" : Str)) = false := by decide) : VE X Ex (.Name x pos) (eC (.v v)) :=
  ve_const (pe_bltn hg hm hv r hn hd) fun _ => .v v
/-! ### rows of expressions -/
def aNil : AV := fun en Q => Q [] en
def aCons (ta : TV) (tr : AV) : AV := fun en Q => ta en fun r en1 => tr en1 fun rs en2 => Q (r :: rs) en2
theorem va_nil : VA X Ex [] aNil := ⟨fun G H σ pn en fr fp Q ok tk q => aSem_of pa_nil ⟨G, en, [], fp, StepV.refl .., by rw [show fr ++ tmpFs [] [] = fr from List.append_nil _]; exact ok, .nil, q⟩⟩
theorem va_cons {e : Expr} {es : List Expr} {te : TV} {tr : AV} (ha : VE X Ex e te) (hr : VA X Ex es tr) (hs : starEach (e :: es) X.env = (false, eval e X.env) :: starEach es X.env := by rfl) : VA X Ex (e :: es) (aCons te tr) :=
  ⟨fun G H σ pn en fr fp Q ok tk q => aSem_of (pa_cons (pe_sem X e) (pa_sem X es) hs) (by
    refine tSem_mono (ha.run G H σ pn en fr fp _ ok tk q) fun v H1 ⟨G1, en1, r1, fp1, st1, ok1, p1, q1⟩ => ?_
    refine aSem_mono (hr.run G1 H1 σ pn en1 _ fp1 _ ok1 (tk.step st1).push q1) fun vs H2 ⟨G2, en2, rs, fp2, st2, ok2, p2, q2⟩ => ?_
    exact ⟨G2, en2, r1 :: rs, fp2, st1.trans st2, by rw [List.append_assoc] at ok2; exact ok2, .cons p1 p2, q2⟩)⟩
/-! ### calls of built-ins -/
theorem ve_callB {x : Str} {id : String} {e : Expr} {es : List Expr} {p : Pos} {t : AV} {o : OVC} (hc : CallV X (.builtin id) o) (hg : Gl X x) (hm : X.mg x = none) (hv : bootBuiltins x = some (.builtin id)) (ha : VA X Ex (e :: es) t) (hn : x ≠ "__name__" := by decide) (hdb : (x == ("__debug__" : Str)) = false := by decide)
    (he : starEach (e :: es) X.env = (false, eval e X.env) :: starEach es X.env := by rfl) (hpl : (backTo pos (starEach es X.env)).any (·.1) = false := by rfl) : VE X Ex (.Call (.Name x p) (e :: es) [] pos) (eA o t) :=
  ⟨fun G H σ pn en fr fp Q ok tk q => tSem_of (pe_callB (call_sem X _) hg hm hv (pa_sem X (e :: es)) hn hdb he hpl) (by
    refine aSem_mono (ha.run G H σ pn en fr fp _ ok tk q) fun vs H1 ⟨G1, en1, rs, fp1, st1, ok1, p1, q1⟩ => ?_
    exact cSem_mono (fun w H2 ⟨z, G2, g, n, q2⟩ => OnR.from st1 (OnR.new ok1 n q2)) (hc.run G1 H1 vs _ _ ok1.same (ok1.vals p1) q1))⟩
theorem ve_callTy {x : Str} {T : String} {e : Expr} {es : List Expr} {p : Pos} {t : AV} {o : OVC} (hc : CallV X (.type T) o) (hg : Gl X x) (hm : X.mg x = none) (hv : bootBuiltins x = some (.type T)) (ha : VA X Ex (e :: es) t) (hn : x ≠ "__name__" := by decide) (hdb : (x == ("__debug__" : Str)) = false := by decide)
    (he : starEach (e :: es) X.env = (false, eval e X.env) :: starEach es X.env := by rfl) (hpl : (backTo pos (starEach es X.env)).any (·.1) = false := by rfl) : VE X Ex (.Call (.Name x p) (e :: es) [] pos) (eA o t) :=
  ⟨fun G H σ pn en fr fp Q ok tk q => tSem_of (pe_callTy (call_sem X _) hg hm hv (pa_sem X (e :: es)) hn hdb he hpl) (by
    refine aSem_mono (ha.run G H σ pn en fr fp _ ok tk q) fun vs H1 ⟨G1, en1, rs, fp1, st1, ok1, p1, q1⟩ => ?_
    exact cSem_mono (fun w H2 ⟨z, G2, g, n, q2⟩ => OnR.from st1 (OnR.new ok1 n q2)) (hc.run G1 H1 vs _ _ ok1.same (ok1.vals p1) q1))⟩
end
end Vy
namespace Vy
open PySem PySem.Spec PyProof.Rows L2
open Sy (D Rp RpAll RpK RpF tSem tSem_mono tSem_of pe_sem qSem qSem_mono qSem_of pt_sem wSem wSem_of wSem_mono pw_sem aSem aSem_mono aSem_of pa_sem sSem sSem_of sSem_mono ps_sem bSem bSem_of bSem_mono pss_sem dealK sqT_mono one? one_cases both both_cases IfB rSem rSem_of rSem_mono op_sem uSem uSem_of uSem_mono un_sem cSem cSem_of cSem_mono call_sem rp_int rp_str rp_bl rp_non rp_v rp_tup rp_lst rp_scr rp_dct Sk SqB sqB_any cutL rpAll_len rpAll_app rpAll_nil rpAll_cut cutL_whole)
def Val.int? : Val → Option Int
  | .d (.int i) => some i
  | _ => none
def Val.str? : Val → Option Str
  | .d (.str i) => some i
  | _ => none
def Val.bl? : Val → Option Bool
  | .d (.bl i) => some i
  | _ => none
def Val.tup? : Val → Option (List D)
  | .d (.tup i) => some i
  | _ => none
theorem Val.int_eq {x : Val} {i : Int} (h : x.int? = some i) : x = .d (.int i) := by
  cases x with
  | d y => cases y <;> first | (cases h; done) | (cases h; rfl)
  | _ => cases h
theorem Val.str_eq {x : Val} {i : Str} (h : x.str? = some i) : x = .d (.str i) := by
  cases x with
  | d y => cases y <;> first | (cases h; done) | (cases h; rfl)
  | _ => cases h
theorem Val.bl_eq {x : Val} {i : Bool} (h : x.bl? = some i) : x = .d (.bl i) := by
  cases x with
  | d y => cases y <;> first | (cases h; done) | (cases h; rfl)
  | _ => cases h
theorem Val.tup_eq {x : Val} {i : List D} (h : x.tup? = some i) : x = .d (.tup i) := by
  cases x with
  | d y => cases y <;> first | (cases h; done) | (cases h; rfl)
  | _ => cases h
/-- a row of data -/
def sqv : Val → Option (Sk × List D)
  | .d (.lst xs) => some (.l, xs)
  | .d (.scr xs) => some (.s, xs)
  | .d (.tup xs) => some (.t, xs)
  | .lD xs => some (.l, xs)
  | _ => none
def dqv : Val → Option (List (Key × D))
  | .d (.dct xs) => some xs
  | .dD xs => some xs
  | _ => none
section
variable {X : Cx} {K : PySem.W.Frag} {G H : Hp} {v u : V} {x y : Val}
theorem vx_int {i : Int} (r : VRx K G H v x) (h : x.int? = some i) : v = .int i := by
  rw [Val.int_eq h] at r; exact rp_int (vrx_d r)
theorem vx_str {i : Str} (r : VRx K G H v x) (h : x.str? = some i) : v = .str i := by
  rw [Val.str_eq h] at r; exact rp_str (vrx_d r)
theorem vx_bl {i : Bool} (r : VRx K G H v x) (h : x.bl? = some i) : v = .bl i := by
  rw [Val.bl_eq h] at r; exact rp_bl (vrx_d r)
theorem sqv_ok (s : Same G H) (r : VRx K G H v x) {b : Sk} {ds : List D} (h : sqv x = some (b, ds)) : ∃ a vs, v = .ref a ∧ SqB K H b a vs ∧ RpAll K G vs ds := by
  obtain ⟨g, r⟩ := r
  cases x with
  | d y =>
    cases r with
    | d r =>
      cases y with
      | lst xs =>
        cases h
        obtain ⟨a, vs, e, h1, h2⟩ := rp_lst r
        exact ⟨a, vs, e, s _ _ h1, h2⟩
      | scr xs =>
        cases h
        obtain ⟨a, vs, e, h1, h2⟩ := rp_scr r
        exact ⟨a, vs, e, s.seq h1, h2⟩
      | tup xs =>
        cases h
        obtain ⟨a, vs, e, h1, h2⟩ := rp_tup r
        exact ⟨a, vs, e, sqT_mono s h1, h2⟩
      | _ => cases h
  | lD xs =>
    cases h
    cases r with
    | lD h1 h2 => exact ⟨_, _, rfl, h1, h2⟩
  | _ => cases h
theorem dqv_ok (s : Same G H) (r : VRx K G H v x) {ds : List (Key × D)} (h : dqv x = some ds) : ∃ a vs, v = .ref a ∧ H a = some (.dK vs) ∧ RpK K G vs ds := by
  obtain ⟨g, r⟩ := r
  cases x with
  | d y =>
    cases r with
    | d r =>
      cases y with
      | dct xs =>
        cases h
        obtain ⟨a, vs, e, h1, h2⟩ := rp_dct r
        exact ⟨a, vs, e, s _ _ h1, h2⟩
      | _ => cases h
  | dD xs =>
    cases h
    cases r with
    | dD h1 h2 => exact ⟨_, _, rfl, h1, h2⟩
  | _ => cases h
theorem snap_ok (s : Same G H) (r : VRx K G H v x) {d : D} (h : snap x = some d) : Rp K H v d := by
  obtain ⟨g, r⟩ := r
  exact r.look s h
/-- what comes of data that stands still -/
theorem NewQ.old {Q : Val → Prop} {d : D} (s : Same G H) (r : Rp K G v d) (q : Q (.d d)) : NewQ K G H Q v H := ⟨_, _, _, .old s r, q⟩
theorem NewQ.lD {Q : Val → Prop} {p : Addr} {vs : List V} {ds : List D} (s : Same G H) (hp : H p = none) (r : RpAll K G vs ds) (q : Q (.lD ds)) : NewQ K G H Q (.ref p) (upd H p (.lst vs)) :=
  ⟨_, _, _, .alloc s hp (.lD upd_same r), q⟩
theorem NewQ.dD {Q : Val → Prop} {p : Addr} {vs : List (Key × V)} {ds : List (Key × D)} (s : Same G H) (hp : H p = none) (r : RpK K G vs ds) (q : Q (.dD ds)) : NewQ K G H Q (.ref p) (upd H p (.dK vs)) :=
  ⟨_, _, _, .alloc s hp (.dD upd_same r), q⟩
theorem g_none' (s : Same G H) {p : Addr} (hp : H p = none) : G p = none := by
  cases e : G p with
  | none => rfl
  | some q => rw [s p q e] at hp; cases hp
theorem NewQ.tup {Q : Val → Prop} {p : Addr} {vs : List V} {ds : List D} (s : Same G H) (hp : H p = none) (r : RpAll K G vs ds) (q : Q (.d (.tup ds))) : NewQ K G H Q (.ref p) (upd H p (.tup vs)) :=
  ⟨_, _, _, .grow s hp (.tup (SqT.of upd_same) (r.mono (Sy.same_new (g_none' s hp)))), q⟩
/-! ### whole numbers -/
def oInt (C : Int → Int → Prop) (g : Int → Int → D) : OV2 := fun x y Q => both x.int? y.int? (fun i j => C i j ∧ Q (.d (g i j))) False
theorem opv_int {f : Value → Value → Sem Value} {C : Int → Int → Prop} {g : Int → Int → V} {g' : Int → Int → D} (h : OpR X f (rI C g)) (hg : ∀ i j G, Rp X.K G (g i j) (g' i j)) : OpV X f (oInt C g') :=
  ⟨fun G H v u x y Q s r1 r2 q => by
    rcases both_cases q with ⟨i, j, e1, e2, q⟩ | q
    · rw [vx_int r1 e1, vx_int r2 e2]
      exact rSem_of h ⟨i, j, rfl, rfl, q.1, .old s (hg i j G) q.2⟩
    · exact q.elim⟩
theorem opv_int0 {f : Value → Value → Sem Value} {g : Int → Int → V} {g' : Int → Int → D} (h : OpR X f (rI0 g)) (hg : ∀ i j G, Rp X.K G (g i j) (g' i j)) : OpV X f (oInt (fun _ _ => True) g') :=
  ⟨fun G H v u x y Q s r1 r2 q => by
    rcases both_cases q with ⟨i, j, e1, e2, q⟩ | q
    · rw [vx_int r1 e1, vx_int r2 e2]
      exact rSem_of h ⟨i, j, rfl, rfl, .old s (hg i j G) q.2⟩
    · exact q.elim⟩
theorem ov_sub : OpV X (binaryOp .Sub) (oInt (fun _ _ => True) fun i j => .int (i - j)) := opv_int0 op_sub fun _ _ _ => .int _
theorem ov_mod : OpV X (binaryOp .Mod) (oInt (fun _ j => 0 < j) fun i j => .int (i % j)) := opv_int op_mod fun _ _ _ => .int _
theorem ov_fdiv : OpV X (binaryOp .FloorDiv) (oInt CDivW fun i j => .int (i / j)) := opv_int op_fdivW fun _ _ _ => .int _
theorem ov_pow : OpV X (binaryOp .Pow) (oInt CPow fun i j => .int (i ^ j.toNat)) := opv_int op_pow fun _ _ _ => .int _
theorem ov_lt : OpV X (compareOp .Lt) (oInt (fun _ _ => True) fun i j => .bl (decide (i < j))) := opv_int0 op_lt fun _ _ _ => .bl _
theorem ov_le : OpV X (compareOp .LtE) (oInt (fun _ _ => True) fun i j => .bl (decide (i ≤ j))) := opv_int0 op_le fun _ _ _ => .bl _
theorem ov_gt : OpV X (compareOp .Gt) (oInt (fun _ _ => True) fun i j => .bl (decide (j < i))) := opv_int0 op_gt fun _ _ _ => .bl _
theorem ov_ge : OpV X (compareOp .GtE) (oInt (fun _ _ => True) fun i j => .bl (decide (j ≤ i))) := opv_int0 op_ge fun _ _ _ => .bl _
/-- + -/
def oAddS (x y : Val) (Q : Val → Prop) : Prop := both (sqv x) (sqv y) (fun p q => match p.1, q.1 with
  | .l, .l => p.2.length + q.2.length ≤ sizeLine ∧ Q (.lD (p.2 ++ q.2))
  | .t, .t => p.2.length + q.2.length ≤ sizeLine ∧ Q (.d (.tup (p.2 ++ q.2)))
  | _, _ => False) False
def oAdd : OV2 := fun x y Q => both x.int? y.int? (fun i j => Q (.d (.int (i + j))))
  (both x.str? y.str? (fun a b => a.length + b.length ≤ sizeLine ∧ Q (.d (.str (a ++ b)))) (oAddS x y Q))
theorem sq_tup {ds : List D} (s : Same G H) (r : VRx K G H v x) (h : sqv x = some (.t, ds)) : Rp K G v (.tup ds) := by
  cases x with
  | d y =>
    cases y with
    | tup xs => cases h; exact vrx_d r
    | _ => cases h
  | lD xs => cases h
  | _ => cases h
theorem ov_add : OpV X (binaryOp .Add) oAdd := ⟨fun G H v u x y Q s r1 r2 q => by
  have qq := both_cases q
  clear q
  rcases qq with ⟨i, j, e1, e2, q⟩ | q
  · rw [vx_int r1 e1, vx_int r2 e2]
    exact rSem_of op_add ⟨_, _, rfl, rfl, .old s (.int _) q⟩
  have qq := both_cases q
  clear q
  rcases qq with ⟨a, b, e1, e2, q⟩ | q
  · rw [vx_str r1 e1, vx_str r2 e2]
    exact rSem_of op_add_str ⟨_, _, rfl, rfl, q.1, .old s (.str _) q.2⟩
  have qq := both_cases q
  clear q
  rcases qq with ⟨⟨b1, xs⟩, ⟨b2, ys⟩, e1, e2, q⟩ | q
  · obtain ⟨a, vs, ev, h1, s1⟩ := sqv_ok s r1 e1
    obtain ⟨b, us, eu, h2, s2⟩ := sqv_ok s r2 e2
    cases b1 <;> cases b2 <;> first | exact q.elim | skip
    · exact rSem_of op_cat ⟨a, b, vs, us, ev, eu, h1, h2, by rw [rpAll_len s1, rpAll_len s2]; exact q.1, fun p hp => .lD s hp (rpAll_app s1 s2) q.2⟩
    · refine rSem_of op_catA ⟨a, b, vs, us, ev, eu, h1, h2, by rw [rpAll_len s1, rpAll_len s2]; exact q.1, fun e => ?_, fun e e' => ?_, fun e e' p hp => .tup s hp (rpAll_app s1 s2) q.2⟩
      · have : xs = [] := (rpAll_nil s1).mp e
        subst this
        rw [← eu]
        exact .old s (sq_tup s r2 e2) q.2
      · have : ys = [] := (rpAll_nil s2).mp e'
        subst this
        have q2 := q.2
        rw [List.append_nil] at q2
        rw [← ev]
        exact .old s (sq_tup s r1 e1) q2
  · exact q.elim⟩
/-- * of numbers, one of them below 2^64; of a text and a number -/
def oMulI : OV2 := oInt CMul fun i j => .int (i * j)
def oMul : OV2 := fun x y Q => both x.int? y.int? (fun i j => CMul i j ∧ Q (.d (.int (i * j)))) (both x.str? y.int? (fun a n => Sy.RepC a n ∧ Q (.d (.str (Sy.repS a n)))) False)
theorem ov_mulI : OpV X (binaryOp .Mult) oMulI := opv_int op_mul fun _ _ _ => .int _
theorem mul_text {a : Str} {n : Int} {Q : VK} (hc : Sy.RepC a n) (q : Q (.str (Sy.repS a n)) H) : rSem X (binaryOp .Mult) (.str a) (.int n) H Q := by
  intro pins s σ' va vn I rv rn
  obtain ⟨t, rfl⟩ := rv
  obtain ⟨t', rfl⟩ := rn
  have h1 := hc.lo
  have h2 := hc.hi
  have h3 := hc.ln
  have h4 := hc.tot
  refine PySem.P.mul_str (by rw [decide_eq_false (by omega), decide_eq_false (by omega)]; rfl) (fun hn _ => ?_) (fun hn _ => ?_) ?_
  · have hm : ((a.length : Int)) * n ≤ 16777216 := by
      have e : ((n.toNat : Nat) : Int) = n := Int.toNat_of_nonneg (by omega)
      have h5 : ((a.length * n.toNat : Nat) : Int) ≤ 16777216 := Int.ofNat_le.mpr h4
      rw [Int.natCast_mul, e] at h5
      exact h5
    have := Int.le_ediv_of_mul_le (a := (a.length : Int)) (b := 2 ^ 63 - 1) (c := n) (by omega) (by omega)
    omega
  · show decide (a.length * n.toNat > sizeLine) = false
    refine decide_eq_false ?_
    rw [sizeLine_eq]
    omega
  · have fin : ∀ (k : Nat) (z : Str) (tz : Tok), Sy.repS a n = z → EP X pins σ' Q (.str z tz) { s with toks := k } := fun k z tz e => ⟨.str z, H, I.tok k, ⟨tz, rfl⟩, by rw [← e]; exact q⟩
    by_cases hn : n < 1
    · rw [if_pos hn]
      exact ⟨by decide, fin _ _ _ (by unfold Sy.repS; rw [if_pos hn])⟩
    · rw [if_neg hn]
      by_cases hn2 : (n == 1 || a.length == 0) = true
      · rw [if_pos hn2]
        exact fin _ _ _ (by unfold Sy.repS; rw [if_neg hn, if_pos hn2])
      · rw [if_neg hn2]
        refine ⟨?_, fin _ _ _ (by unfold Sy.repS; rw [if_neg hn, if_neg hn2])⟩
        show ((List.replicate n.toNat a.cps).foldl (· ++ ·) #[]).size ≤ sizeLine
        rw [Sy.fold_size, sizeLine_eq]
        have : a.cps.size = a.length := rfl
        rw [this, Nat.mul_comm]
        show 0 + _ ≤ _
        omega
theorem ov_mul : OpV X (binaryOp .Mult) oMul := ⟨fun G H v u x y Q s r1 r2 q => by
  have qq := both_cases q
  clear q
  rcases qq with ⟨i, j, e1, e2, q⟩ | q
  · exact ov_mulI.run G H v u x y Q s r1 r2 (both.yes e1 e2 q)
  have qq := both_cases q
  clear q
  rcases qq with ⟨a, n, e1, e2, hc, q⟩ | q
  · rw [vx_str r1 e1, vx_int r2 e2]
    exact mul_text hc (.old s (.str _) q)
  · exact q.elim⟩
theorem uv_neg : UnV X (unaryOp .USub) (fun x Q => one? x.int? fun i => Q (.d (.int (-i)))) := ⟨fun G H v x Q s r q => by
  obtain ⟨i, e, q⟩ := one_cases q
  rw [vx_int r e]
  exact uSem_of un_neg ⟨i, rfl, .old s (.int _) q⟩⟩
/-! ### == -/
def eqGen (a b : D) (k : Bool → Prop) : Prop := a.pl = true ∧ b.pl = true ∧ SeqAt.shaped a.py = true ∧ SeqAt.shaped b.py = true ∧ k (PyData.eqv a.py b.py)
/-- scalars by what they are; else told by their data -/
inductive eqOp (a b : D) (k : Bool → Prop) : Prop
  | sc {v u : V} : a.sc = some v → b.sc = some u → scal v u = true → k (decide (v = u)) → eqOp a b k
  | gen : eqGen a b k → eqOp a b k
def oEq : OV2 := fun x y Q => both (snap x) (snap y) (fun a b => eqOp a b fun c => Q (.d (.bl c))) False
def oNe : OV2 := fun x y Q => both (snap x) (snap y) (fun a b => eqOp a b fun c => Q (.d (.bl (!c)))) False
theorem ov_eq (hu : X.A.units + 64 < cLine) : OpV X (compareOp .Eq) oEq := ⟨fun G H v u x y Q s r1 r2 q => by
  have qq := both_cases q
  clear q
  rcases qq with ⟨a, b, e1, e2, q⟩ | q
  · have p1 := snap_ok s r1 e1
    have p2 := snap_ok s r2 e2
    cases q with
    | sc f1 f2 z q =>
      cases D.sc_eq p1 f1
      cases D.sc_eq p2 f2
      exact rSem_of op_eq ⟨z, .old s (.bl _) q⟩
    | gen q =>
      obtain ⟨l1, l2, s1, s2, q⟩ := q
      exact rSem_of (op_eqD hu) ⟨a.py, b.py, p1.dp l1, p2.dp l2, s1, s2, .old s (.bl _) q⟩
  · exact q.elim⟩
theorem ov_ne (hu : X.A.units + 64 < cLine) : OpV X (compareOp .NotEq) oNe := ⟨fun G H v u x y Q s r1 r2 q => by
  have qq := both_cases q
  clear q
  rcases qq with ⟨a, b, e1, e2, q⟩ | q
  · have p1 := snap_ok s r1 e1
    have p2 := snap_ok s r2 e2
    cases q with
    | sc f1 f2 z q =>
      cases D.sc_eq p1 f1
      cases D.sc_eq p2 f2
      exact rSem_of op_ne ⟨z, .old s (.bl _) q⟩
    | gen q =>
      obtain ⟨l1, l2, s1, s2, q⟩ := q
      exact rSem_of (op_neD hu) ⟨a.py, b.py, p1.dp l1, p2.dp l2, s1, s2, .old s (.bl _) q⟩
  · exact q.elim⟩
/-! ### is None -/
def isN : Val → Option Bool
  | .no => none
  | .d .non => some true
  | .d (.v w) => some (decide (w = .non))
  | _ => some false
theorem isN_ok {b : Bool} (r : VRx K G H v x) (h : isN x = some b) : decide (v = .non) = b := by
  obtain ⟨g, r⟩ := r
  cases x with
  | no => cases h
  | d y =>
    cases r with
    | d r => cases r <;> first | (cases h; rfl) | (cases h; done)
  | lD _ => cases r; cases h; rfl
  | ls _ => cases r; cases h; rfl
  | tp _ => cases r; cases h; rfl
  | dD _ => cases r; cases h; rfl
  | di _ => cases r; cases h; rfl
  | ob _ _ => cases r; cases h; rfl
  | dl => cases r; cases h; rfl
def oIsN : OV2 := fun x y Q => both (isN x) (isN y) (fun a b => b = true ∧ Q (.d (.bl a))) False
def oNotN : OV2 := fun x y Q => both (isN x) (isN y) (fun a b => b = true ∧ Q (.d (.bl (!a)))) False
theorem ov_isN : OpV X (compareOp .Is) oIsN := ⟨fun G H v u x y Q s r1 r2 q => by
  have qq := both_cases q
  clear q
  rcases qq with ⟨a, b, e1, e2, z, q⟩ | q
  · have h := isN_ok r2 e2
    rw [z] at h
    cases of_decide_eq_true h
    exact rSem_of op_isN ⟨rfl, by rw [isN_ok r1 e1]; exact .old s (.bl _) q⟩
  · exact q.elim⟩
theorem ov_notN : OpV X (compareOp .IsNot) oNotN := ⟨fun G H v u x y Q s r1 r2 q => by
  have qq := both_cases q
  clear q
  rcases qq with ⟨a, b, e1, e2, z, q⟩ | q
  · have h := isN_ok r2 e2
    rw [z] at h
    cases of_decide_eq_true h
    exact rSem_of op_notN ⟨rfl, by rw [isN_ok r1 e1]; exact .old s (.bl _) q⟩
  · exact q.elim⟩
/-! ### in -/
def keyV : Val → Option Key
  | .d (.int i) => some (.inl i)
  | .d (.str x) => some (.inr x)
  | _ => none
theorem keyV_ok {k : Key} (r : VRx K G H v x) (h : keyV x = some k) : v = kV k := by
  cases x with
  | d y =>
    have r := vrx_d r
    cases r <;> first | (cases h; rfl) | (cases h; done)
  | _ => cases h
theorem getK_ok : ∀ {vs : List (Key × V)} {xs : List (Key × D)}, RpK K G vs xs → ∀ k : Key, (Sy.getK xs k = none → valV vs k = none) ∧ (∀ x, Sy.getK xs k = some x → ∃ v, valV vs k = some v ∧ Rp K G v x)
  | _, _, .nil, k => ⟨fun _ => rfl, fun _ h => nomatch h⟩
  | (k1, v1) :: vs, (_, x2) :: xs, .cons h r, k => by
    have ih := getK_ok r k
    by_cases q : k1 = k
    · subst q
      refine ⟨fun z => ?_, fun x z => ?_⟩
      · unfold Sy.getK at z; rw [if_pos rfl] at z; cases z
      · unfold Sy.getK at z; rw [if_pos rfl] at z; cases z
        exact ⟨v1, valV_pos rfl, h⟩
    · refine ⟨fun z => ?_, fun x z => ?_⟩
      · unfold Sy.getK at z; rw [if_neg q] at z
        rw [valV_neg q]; exact ih.1 z
      · unfold Sy.getK at z; rw [if_neg q] at z
        rw [valV_neg q]; exact ih.2 x z
theorem rpk_isSome {vs : List (Key × V)} {xs : List (Key × D)} (h : RpK K G vs xs) (k : Key) : (valV vs k).isSome = (Sy.getK xs k).isSome := by
  obtain ⟨h1, h2⟩ := getK_ok h k
  cases e : Sy.getK xs k with
  | none => rw [h1 e]; rfl
  | some x =>
    obtain ⟨v, e2, _⟩ := h2 x e
    rw [e2]; rfl
def inA (neg : Bool) (b : Bool) (Q : Val → Prop) : Prop := Q (.d (.bl (if neg then !b else b)))
def dOf : Val → Option D
  | .d x => some x
  | _ => none
def oInS (neg : Bool) : OV2 := fun x y Q => both (dOf x) (sqv y) (fun d p => Sy.flatD d = true ∧ p.2.all Sy.flatD = true ∧ inA neg (Sy.inD d p.2) Q) False
def oInK (neg : Bool) : OV2 := fun x y Q => both (keyV x) (dqv y) (fun k xs => inA neg (Sy.getK xs k).isSome Q) (oInS neg x y Q)
def oIn (neg : Bool) : OV2 := fun x y Q => both x.str? y.str? (fun a b => inA neg (!(Builtin.Str.occurrences b a 0 b.length 1).isEmpty) Q) (oInK neg x y Q)
theorem ov_in (hu : X.A.units + 1 < cLine) : OpV X (compareOp .In) (oIn false) := ⟨fun G H v u x y Q s r1 r2 q => by
  have qq := both_cases q
  clear q
  rcases qq with ⟨a, b, e1, e2, q⟩ | q
  · rw [vx_str r1 e1, vx_str r2 e2]
    exact rSem_of op_in_str ⟨_, _, rfl, rfl, .old s (.bl _) q⟩
  have qq := both_cases q
  clear q
  rcases qq with ⟨k, xs, e1, e2, q⟩ | q
  · obtain ⟨a, vs, eu, h1, s1⟩ := dqv_ok s r2 e2
    rw [keyV_ok r1 e1, eu]
    exact rSem_of (Sy.op_inD hu) ⟨a, _, rfl, DGet.k h1, by rw [rpk_isSome s1]; exact .old s (.bl _) q⟩
  have qq := both_cases q
  clear q
  rcases qq with ⟨d, ⟨b, ds⟩, e1, e2, f1, f2, q⟩ | q
  · obtain ⟨a, vs, eu, h1, s1⟩ := sqv_ok s r2 e2
    cases x with
    | d y =>
      cases e1
      obtain ⟨g1, g2⟩ := Sy.inD_ok (vrx_d r1) f1 s1 f2
      rw [eu]
      exact rSem_of op_in_seq ⟨a, vs, rfl, sqB_any h1, Sy.flatD_ok (vrx_d r1) f1, g1, by rw [g2]; exact .old s (.bl _) q⟩
    | _ => cases e1
  · exact q.elim⟩
theorem ov_notIn (hu : X.A.units + 1 < cLine) : OpV X (compareOp .NotIn) (oIn true) := ⟨fun G H v u x y Q s r1 r2 q => by
  have qq := both_cases q
  clear q
  rcases qq with ⟨a, b, e1, e2, q⟩ | q
  · rw [vx_str r1 e1, vx_str r2 e2]
    exact rSem_of op_notIn_str ⟨_, _, rfl, rfl, .old s (.bl _) q⟩
  have qq := both_cases q
  clear q
  rcases qq with ⟨k, xs, e1, e2, q⟩ | q
  · obtain ⟨a, vs, eu, h1, s1⟩ := dqv_ok s r2 e2
    rw [keyV_ok r1 e1, eu]
    exact rSem_of (Sy.op_notInD hu) ⟨a, _, rfl, DGet.k h1, by rw [rpk_isSome s1]; exact .old s (.bl _) q⟩
  have qq := both_cases q
  clear q
  rcases qq with ⟨d, ⟨b, ds⟩, e1, e2, f1, f2, q⟩ | q
  · obtain ⟨a, vs, eu, h1, s1⟩ := sqv_ok s r2 e2
    cases x with
    | d y =>
      cases e1
      obtain ⟨g1, g2⟩ := Sy.inD_ok (vrx_d r1) f1 s1 f2
      rw [eu]
      exact rSem_of op_notIn_seq ⟨a, vs, rfl, sqB_any h1, Sy.flatD_ok (vrx_d r1) f1, g1, by rw [g2]; exact .old s (.bl _) q⟩
    | _ => cases e1
  · exact q.elim⟩
end
/-! ### chains -/
section
variable {X : Cx} {Ex : EX} {a b c : Expr} {ta tb tc : TV} {pos : Pos} {op op' : CmpOp} {o o' : OV2}
def eChain (o o' : OV2) (ta tb tc : TV) : TV := fun en Q => ta en fun r1 en1 => tb en1 fun r2 en2 => o (vof en2 r1) (vof en2 r2) fun z => one? z.bl? fun k => IfB k (tc en2 fun r3 en3 => o' (vof en3 r2) (vof en3 r3) fun z => Q (.tmp z) en3) (Q (.tmp (.d (.bl false))) en2)
theorem chain_run {G H : Hp} {σ : L2.St} {pn : List (Nat × V)} {en : En} {fr : List (V × Val)} {fp : List Addr} {Q : SK} (ho : OpV X (compareOp op) o) (ho' : OpV X (compareOp op') o') (ha : VE X Ex a ta) (hb : VE X Ex b tb) (hc : VE X Ex c tc) (ok : OkV X.K G H σ pn en fr fp) (tk : Tk X pn fr Ex G H fp) (q : eChain o o' ta tb tc en Q) :
    tChain (rSem X (compareOp op)) (rSem X (compareOp op')) (tSem X a) (tSem X b) (tSem X c) σ H (OnR X.K σ G H pn fr fp Q) := by
  refine tSem_mono (ha.run G H σ pn en fr fp _ ok tk q) fun v H1 ⟨G1, en1, r1, fp1, st1, ok1, p1, q1⟩ => ?_
  refine tSem_mono (hb.run G1 H1 σ pn en1 _ fp1 _ ok1 (tk.step st1).push q1) fun u H2 ⟨G2, en2, r2, fp2, st2, ok2, p2, q2⟩ => ?_
  rw [List.append_assoc] at ok2
  have x1 := ok2.val p1
  have x2 := OkV.val (fr := fr ++ tmpF v r1) (rest := []) (r := r2) (v := u) (by rw [List.append_nil, List.append_assoc]; exact ok2) p2
  refine rSem_mono (fun z H3 ⟨zv, G3, g, n, q3⟩ => ?_) (ho.run G2 H2 v u _ _ _ ok2.same x1 x2 q2)
  obtain ⟨k, ek, q4⟩ := one_cases q3
  have hz : z = .bl k := by have r := n.r; rw [Val.bl_eq ek] at r; cases r with | d r => exact rp_bl r
  refine ⟨k, hz, ?_⟩
  have ok2' : OkV X.K G2 H2 σ pn en2 (fr ++ (tmpF v r1 ++ tmpF u r2)) fp2 := ok2
  obtain ⟨st3, ok3⟩ := ok2'.new n
  have st := (st1.trans st2).trans st3
  cases k with
  | false => exact iteF (OnR.from st (OnR.old (rest := tmpF v r1 ++ tmpF u r2 ++ [(z, zv)]) (by rw [← List.append_assoc]; exact ok3) (.bl false) (IfB.ff q4)))
  | true =>
    refine iteT ?_
    refine tSem_mono (hc.run G3 H3 σ pn en2 _ _ _ ok3 (tk.step st).push.push (IfB.tt q4)) fun w' H4 ⟨G4, en4, r4, fp4, st4, ok4, p4, q5⟩ => ?_
    rw [List.append_assoc, List.append_assoc, List.append_assoc] at ok4
    have y2 := OkV.val (fr := fr ++ tmpF v r1) (rest := [(z, zv)] ++ tmpF w' r4) (r := r2) (v := u) (by rw [List.append_assoc]; exact ok4) p2
    have y3 := OkV.val (fr := fr ++ tmpF v r1 ++ tmpF u r2 ++ [(z, zv)]) (rest := []) (r := r4) (v := w') (by rw [List.append_nil, List.append_assoc, List.append_assoc, List.append_assoc]; exact ok4) p4
    exact rSem_mono (fun z5 H5 ⟨zw, G5, g5, n5, q6⟩ => OnR.from (st.trans st4) (OnR.new ok4 n5 q6)) (ho'.run G4 H4 u w' _ _ _ ok4.same y2 y3 q5)
theorem ve_chain (ho : OpV X (compareOp op) o) (ho' : OpV X (compareOp op') o') (ha : VE X Ex a ta) (hb : VE X Ex b tb) (hc : VE X Ex c tc) (hm : lastMarks [op, op'] [b, c] = false := by with_unfolding_all rfl) : VE X Ex (.Compare a [op, op'] [b, c] pos) (eChain o o' ta tb tc) :=
  ⟨fun G H σ pn en fr fp Q ok tk q => tSem_of (pe_chain (op_sem X _) (op_sem X _) (pe_sem X a) (pe_sem X b) (pe_sem X c) hm) (chain_run ho ho' ha hb hc ok tk q)⟩
theorem vt_chain (ho : OpV X (compareOp op) o) (ho' : OpV X (compareOp op') o') (ha : VE X Ex a ta) (hb : VE X Ex b tb) (hc : VE X Ex c tc) (hm : lastMarks [op, op'] [b, c] = false := by with_unfolding_all rfl) : VT X Ex (.Compare a [op, op'] [b, c] pos) (eT (eChain o o' ta tb tc)) :=
  ⟨fun G H σ pn en fr fp Q ok tk q => qSem_of (pt_chain (op_sem X _) (op_sem X _) (pe_sem X a) (pe_sem X b) (pe_sem X c) hm) (by
    refine Sy.tChain_mono (fun _ _ _ _ _ k h => rSem_mono k h) (fun _ _ _ _ _ k h => rSem_mono k h) (fun z H3 h3 => ?_) (chain_run ho ho' ha hb hc ok tk q)
    obtain ⟨b, e, h4⟩ := onR_bl h3
    exact ⟨b, e, h4⟩)⟩
end
end Vy
namespace Vy
open PySem PySem.Spec PyProof.Rows L2
open Sy (D Rp RpAll RpK RpF tSem tSem_mono tSem_of pe_sem qSem qSem_mono qSem_of pt_sem wSem wSem_of wSem_mono pw_sem aSem aSem_mono aSem_of pa_sem sSem sSem_of sSem_mono ps_sem bSem bSem_of bSem_mono pss_sem dealK sqT_mono one? one_cases both both_cases IfB rSem rSem_of rSem_mono op_sem uSem uSem_of uSem_mono un_sem cSem cSem_of cSem_mono call_sem rp_int rp_str rp_bl rp_non rp_v rp_tup rp_lst rp_scr rp_dct Sk SqB sqB_any cutL rpAll_len rpAll_app rpAll_nil rpAll_cut cutL_whole iSem iSem_of iSem_mono ix_sem slSem slSem_of slSem_mono sl_sem poSem poSem_of poSem_mono po_sem)
/-! ### what is handed on stands still -/
/-- one result: owned data at hand is handed on, what a name owns stands still from now on -/
def esc (r : Rv) (en : En) (k : Val → En → Prop) : Prop := match r with
  | .tmp x => k x en
  | .pl i => one? (snap (en.getD i .no)) fun d => setK en i (.d d) fun en' => k (.d d) en'
def escs : List Rv → En → (List Val → En → Prop) → Prop
  | [], en, k => k [] en
  | r :: rs, en, k => esc r en fun x en1 => escs rs en1 fun xs en2 => k (x :: xs) en2
section
variable {X : Cx} {K : PySem.W.Frag} {G H : Hp} {σ : L2.St} {pn : List (Nat × V)} {en : En} {fr rest : List (V × Val)} {fp : List Addr} {v : V} {r : Rv}
theorem esc_ok {k : Val → En → Prop} (ok : OkV K G H σ pn en (fr ++ (tmpF v r ++ rest)) fp) (p : plO σ v r) (q : esc r en k) : ∃ G' fp' en' x, StepV G H fp G' H fp' ∧ OkV K G' H σ pn en' (fr ++ (v, x) :: rest) fp' ∧ k x en' := by
  cases r with
  | tmp x => exact ⟨G, fp, en, x, StepV.refl .., ok, q⟩
  | pl i =>
    obtain ⟨d, e, q⟩ := one_cases q
    have q := (setK_eq _ _ _ _).mp q
    have hx : en[i]? = some (en.getD i .no) := by
      rw [List.getD_eq_getElem?_getD] at e ⊢
      cases h : en[i]? with
      | none => rw [h] at e; cases e
      | some y => rfl
    obtain ⟨G', fp', st, ok', v', hv, rp⟩ := OkV.still (show OkV K G H σ pn en (fr ++ rest) fp from ok) hx e
    have ev : v' = v := by
      have p : σ[i]? = some (some v) := p
      rw [p] at hv; cases hv; rfl
    subst ev
    exact ⟨G', fp', _, .d d, st, ok'.putD rp, q⟩
theorem escs_ok : ∀ {rs : List Rv} {vs : List V} {G : Hp} {en : En} {fr : List (V × Val)} {fp : List Addr} {k : List Val → En → Prop}, OkV K G H σ pn en (fr ++ tmpFs vs rs) fp → plOs σ vs rs → escs rs en k →
    ∃ G' fp' en' xs, StepV G H fp G' H fp' ∧ OkV K G' H σ pn en' (fr ++ vs.zip xs) fp' ∧ vs.length = xs.length ∧ k xs en'
  | [], _, G, en, fr, fp, k, ok, .nil, q => ⟨G, fp, en, [], StepV.refl .., ok, rfl, q⟩
  | r :: rs, v :: vs, G, en, fr, fp, k, ok, .cons p ps, q => by
    obtain ⟨G1, fp1, en1, x, st1, ok1, q1⟩ := esc_ok (rest := tmpFs vs rs) ok p q
    obtain ⟨G2, fp2, en2, xs, st2, ok2, hl, q2⟩ := escs_ok (fr := fr ++ [(v, x)]) (by rw [List.append_assoc]; exact ok1) ps q1
    refine ⟨G2, fp2, en2, x :: xs, st1.trans st2, ?_, by rw [List.length_cons, List.length_cons, hl], q2⟩
    rw [List.append_assoc] at ok2
    exact ok2
/-- all of it data that stands still -/
def allDV : List Val → Option (List D)
  | [] => some []
  | .d x :: r => match allDV r with
    | some ds => some (x :: ds)
    | none => none
  | _ :: _ => none
theorem allDV_ok : ∀ {xs : List Val} {vs : List V} {g : List Addr} {ds : List D}, VRs K G H vs xs g → allDV xs = some ds → RpAll K G vs ds
  | [], _, _, ds, .nil, h => by cases h; exact .nil
  | .d x :: r, _, _, ds, .cons q t, h => by
    unfold allDV at h
    cases e : allDV r with
    | none => rw [e] at h; cases h
    | some d0 =>
      rw [e] at h
      cases h
      cases q with
      | d q => exact .cons q (allDV_ok t e)
  | .no :: _, _, _, _, _, h => by cases h
  | .lD _ :: _, _, _, _, _, h => by cases h
  | .ls _ :: _, _, _, _, _, h => by cases h
  | .tp _ :: _, _, _, _, _, h => by cases h
  | .dD _ :: _, _, _, _, _, h => by cases h
  | .di _ :: _, _, _, _, _, h => by cases h
  | .ob _ _ :: _, _, _, _, _, h => by cases h
  | .dl :: _, _, _, _, _, h => by cases h
/-- what stands in the last frames goes into a new object -/
theorem OkV.wrap {vs : List V} {xs : List Val} {p : Addr} {o : HO} {z : Val} (ok : OkV K G H σ pn en (fr ++ vs.zip xs) fp) (hl : vs.length = xs.length) (hp : H p = none) (hz : ∀ g, VRs K G (upd H p o) vs xs g → VR K G (upd H p o) (.ref p) z (p :: g)) :
    ∃ fp', StepV G H fp G (upd H p o) fp' ∧ OkV K G (upd H p o) σ pn en (fr ++ [(.ref p, z)]) fp' := by
  obtain ⟨f, ok1, sub, g, r, e⟩ := ok.drops
  have e1 : (vs.zip xs).map (·.1) = vs := List.map_fst_zip (by omega)
  have e2 : (vs.zip xs).map (·.2) = xs := List.map_snd_zip (by omega)
  rw [e1, e2] at r
  have alv := ok.alive
  have keepAll : ∀ {l : List Addr}, Kept H (upd H p o) l := fun b q hb _ => Sy.same_new hp b q hb
  have r' := r.frame (Same.refl G) (keepAll (l := g))
  have nd := ok.nd
  rw [e] at nd
  have nd1 := List.nodup_append.mp nd
  have out := ok.out
  rw [e] at out
  have pg : p ∉ g := fun m => alv p (by rw [e]; simp [m]) hp
  have st : StepV G H f G (upd H p o) (f ++ (p :: g)) → True := fun _ => trivial
  have same' : Same G (upd H p o) := fun b q hb => Sy.same_new hp b q (ok.same b q hb)
  refine ⟨f ++ (p :: g), ⟨Same.refl G, fun b hb => Sy.dom_upd b hb, fun b q hb _ => Sy.same_new hp b q hb, fun b m => ?_, fun b hb => .inl hb⟩, ?_⟩
  · rcases List.mem_append.mp m with q | q
    · exact .inl (sub b q)
    · rcases List.mem_cons.mp q with q | q
      · exact .inr (by rw [q]; exact hp)
      · exact .inl (by rw [e]; simp [q])
  · obtain ⟨ve, hl1, hs, r0⟩ := ok1.rel
    refine ⟨same', ⟨ve, hl1, hs, ?_⟩, ok1.el, ?_, fun a m => ?_, ok1.pin⟩
    · rw [List.map_append, List.map_append, ← List.append_assoc, ← List.append_assoc]
      exact (r0.frame (Same.refl G) keepAll).app (VRs.one (hz g r'))
    · rw [List.nodup_append]
      refine ⟨nd1.1, List.nodup_cons.mpr ⟨pg, nd1.2.1⟩, fun a m b n => ?_⟩
      rcases List.mem_cons.mp n with q | q
      · intro z; subst z; subst q
        exact ok1.alive _ m hp
      · exact nd1.2.2 a m b q
    · rcases List.mem_append.mp m with q | q
      · exact ok1.out a q
      · rcases List.mem_cons.mp q with q | q
        · rw [q]; exact g_none' ok.same hp
        · exact out a (by simp [q])
end
/-! ### displays -/
/-- a tuple stands still where all in it does -/
inductive mkT (xs : List Val) (Q : Val → Prop) : Prop
  | yes {ds : List D} : allDV xs = some ds → Q (.d (.tup ds)) → mkT xs Q
  | els : Q (.tp xs) → mkT xs Q
inductive mkL (xs : List Val) (Q : Val → Prop) : Prop
  | yes {ds : List D} : allDV xs = some ds → Q (.lD ds) → mkL xs Q
  | els : Q (.ls xs) → mkL xs Q
def eTup (t : AV) : TV := fun en Q => t en fun rs en1 => rs.length ≤ sizeLine ∧ escs rs en1 fun xs en2 => mkT xs fun z => Q (.tmp z) en2
def eLst (t : AV) : TV := fun en Q => t en fun rs en1 => rs.length ≤ sizeLine ∧ escs rs en1 fun xs en2 => mkL xs fun z => Q (.tmp z) en2
section
variable {X : Cx} {Ex : EX} {pos : Pos} {a b c : Expr} {ta tb tc : TV}
theorem ve_tup {es : List Expr} {t : AV} {k} (h : VA X Ex es t) : VE X Ex (.Tuple es k pos) (eTup t) :=
  ⟨fun G H σ pn en fr fp Q ok tk q => tSem_of (pe_tup (pa_sem X es)) (by
    refine aSem_mono (h.run G H σ pn en fr fp _ ok tk q) fun vs H1 ⟨G1, en1, rs, fp1, st1, ok1, p1, hz, q1⟩ => ⟨by rw [p1.len]; exact hz, fun p hp => ?_⟩
    obtain ⟨G2, fp2, en2, xs, st2, ok2, hl, q2⟩ := escs_ok ok1 p1 q1
    refine OnR.from (st1.trans st2) ?_
    cases q2 with
    | @yes ds e q2 =>
      obtain ⟨f, ok3, sub, g, r, _⟩ := ok2.drops
      rw [List.map_fst_zip (by omega), List.map_snd_zip (by omega)] at r
      exact OnR.new ok2 (.grow ok2.same hp (.tup (SqT.of upd_same) ((allDV_ok r e).mono (Sy.same_new (g_none' ok2.same hp))))) q2
    | els q2 =>
      obtain ⟨fp3, st3, ok3⟩ := ok2.wrap (o := .tup vs) hl hp fun g r => .tp upd_same r
      exact ⟨_, _, .tmp (.tp xs), _, st3, ok3, trivial, q2⟩)⟩
theorem ve_lst {es : List Expr} {t : AV} (h : VA X Ex es t) : VE X Ex (.List es pos) (eLst t) :=
  ⟨fun G H σ pn en fr fp Q ok tk q => tSem_of (pe_lst (pa_sem X es)) (by
    refine aSem_mono (h.run G H σ pn en fr fp _ ok tk q) fun vs H1 ⟨G1, en1, rs, fp1, st1, ok1, p1, hz, q1⟩ => ⟨by rw [p1.len]; exact hz, fun p hp => ?_⟩
    obtain ⟨G2, fp2, en2, xs, st2, ok2, hl, q2⟩ := escs_ok ok1 p1 q1
    refine OnR.from (st1.trans st2) ?_
    cases q2 with
    | @yes ds e q2 =>
      obtain ⟨f, ok3, sub, g, r, _⟩ := ok2.drops
      rw [List.map_fst_zip (by omega), List.map_snd_zip (by omega)] at r
      exact OnR.new ok2 (.alloc ok2.same hp (.lD upd_same (allDV_ok r e))) q2
    | els q2 =>
      obtain ⟨fp3, st3, ok3⟩ := ok2.wrap (o := .lst vs) hl hp fun g r => .ls upd_same r
      exact ⟨_, _, .tmp (.ls xs), _, st3, ok3, trivial, q2⟩)⟩
/-! ### subscripts -/
/-- what is found under a key -/
inductive Got : List (Key × D) → Key → (D → Prop) → Prop
  | here {k k' : Key} {x : D} {r : List (Key × D)} {f : D → Prop} : k' = k → f x → Got ((k', x) :: r) k f
  | next {k k' : Key} {x : D} {r : List (Key × D)} {f : D → Prop} : k' ≠ k → Got r k f → Got ((k', x) :: r) k f
  | any {k : Key} {x : D} {r : List (Key × D)} {f : D → Prop} : Sy.getK r k = some x → f x → Got r k f
theorem got_cases {xs : List (Key × D)} {k : Key} {f : D → Prop} (h : Got xs k f) : ∃ x, Sy.getK xs k = some x ∧ f x := by
  induction h with
  | here e h => exact ⟨_, by unfold Sy.getK; rw [if_pos e], h⟩
  | next e _ ih =>
    obtain ⟨x, e1, h⟩ := ih
    exact ⟨x, by unfold Sy.getK; rw [if_neg e]; exact e1, h⟩
  | any e h => exact ⟨_, e, h⟩
def oIxK : OV2 := fun x y Q => both (dqv x) (keyV y) (fun xs k => Got xs k fun z => Q (.d z)) False
def oIxS : OV2 := fun x y Q => both x.str? y.int? (fun a i => a.length ≤ sizeLine ∧ one? (atI a.cps.toList i) fun c => Q (.d (.str ⟨#[c]⟩))) (oIxK x y Q)
def oIx : OV2 := fun x y Q => both (sqv x) y.int? (fun p i => one? (atI p.2 i) fun z => Q (.d z)) (oIxS x y Q)
theorem rp_get {K : PySem.W.Frag} {G : Hp} : ∀ {vs : List V} {xs : List D} {j : Nat} {z : D}, RpAll K G vs xs → xs[j]? = some z → ∃ v, vs[j]? = some v ∧ Rp K G v z
  | _, _, _, _, .nil, e => by cases e
  | _, _, 0, _, .cons q _, e => by cases e; exact ⟨_, rfl, q⟩
  | _, _, j + 1, _, .cons _ t, e => rp_get (j := j) t e
theorem rp_at {K : PySem.W.Frag} {G : Hp} {vs : List V} {xs : List D} (h : RpAll K G vs xs) {i : Int} {z : D} (e : atI xs i = some z) : ∃ v, atI vs i = some v ∧ Rp K G v z := by
  unfold atI at e ⊢
  rw [rpAll_len h]
  obtain ⟨j, e1, e2⟩ := Option.bind_eq_some_iff.mp e
  rw [e1]
  exact rp_get h e2
theorem oIx_ok {K : PySem.W.Frag} {G H : Hp} {v u : V} {x y : Val} {Q : Val → Prop} (hu : X.A.units + 1 < cLine) (s : Same G H) (r1 : VRx X.K G H v x) (r2 : VRx X.K G H u y) (q0 : oIx x y Q) : iSem X v u H (NewQ X.K G H Q) := by
  have qq := both_cases q0
  clear q0
  rcases qq with ⟨⟨b, xs⟩, i, e1, e2, q1⟩ | q1
  · rw [vx_int r2 e2]
    obtain ⟨a, vs, ev, h1, s1⟩ := sqv_ok s r1 e1
    obtain ⟨z, e3, q2⟩ := one_cases q1
    obtain ⟨w, e4, r⟩ := rp_at s1 e3
    cases b with
    | l => exact iSem_of ix_list ⟨a, vs, i, w, ev, rfl, SqL.of h1, e4, .old s r q2⟩
    | s => exact iSem_of ix_list ⟨a, vs, i, w, ev, rfl, h1, e4, .old s r q2⟩
    | t => exact iSem_of ix_tup ⟨a, vs, i, w, ev, rfl, h1, e4, .old s r q2⟩
  have qq := both_cases q1
  clear q1
  rcases qq with ⟨a, i, e1, e2, hl, q2⟩ | q2
  · rw [vx_str r1 e1, vx_int r2 e2]
    obtain ⟨c, e3, q3⟩ := one_cases q2
    exact iSem_of ix_str ⟨a, i, c, rfl, rfl, hl, e3, .old s (.str _) q3⟩
  have qq := both_cases q2
  clear q2
  rcases qq with ⟨xs, k, e1, e2, q3⟩ | q3
  · obtain ⟨a, vs, ev, h1, s1⟩ := dqv_ok s r1 e1
    obtain ⟨z, e3, q4⟩ := got_cases q3
    obtain ⟨w, e4, r⟩ := (getK_ok s1 k).2 z e3
    rw [keyV_ok r2 e2]
    exact iSem_of (Sy.ix_dict hu) ⟨a, w, ev, by rw [← e4]; exact DGet.k h1, .old s r q4⟩
  · exact q3.elim
theorem ve_ix (hu : X.A.units + 1 < cLine) (ha : VE X Ex a ta) (hb : VE X Ex b tb) (hs : PlainIx b) : VE X Ex (.Subscript a b pos) (eB oIx ta tb) :=
  ⟨fun G H σ pn en fr fp Q ok tk q => tSem_of (pe_ix (ix_sem X) (pe_sem X a) (pe_sem X b) hs) (two ha hb ok tk q (fun G H v u x y Q s r1 r2 q => oIx_ok (K := X.K) hu s r1 r2 q) fun _ _ _ _ _ k h => iSem_mono k h)⟩
/-! ### slices -/
abbrev PV := En → (Option Int → En → Prop) → Prop
structure VO (X : Cx) (Ex : EX) (e : Option Expr) (t : PV) : Prop where
  run : ∀ (G H : Hp) (σ : L2.St) (pn : List (Nat × V)) (en : En) (fr : List (V × Val)) (fp : List Addr) (Q : Option Int → En → Prop), OkV X.K G H σ pn en fr fp → Tk X pn fr Ex G H fp → t en Q → poSem X e σ H (fun o => OnB X.K σ G H pn fr fp (Q o))
def oNone : PV := fun en Q => Q none en
def oSome (t : TV) : PV := fun en Q => t en fun r en1 => one? (vof en1 r).int? fun i => Q (some i) en1
theorem vo_none : VO X Ex none oNone := ⟨fun G H σ pn en fr fp Q ok tk q => poSem_of po_none ⟨G, en, fp, StepV.refl .., ok, q⟩⟩
theorem vo_some (h : VE X Ex a ta) : VO X Ex (some a) (oSome ta) := ⟨fun G H σ pn en fr fp Q ok tk q => poSem_of (po_some (pe_sem X a)) (by
  refine tSem_mono (h.run G H σ pn en fr fp _ ok tk q) fun v H1 ⟨G1, en1, r1, fp1, st1, ok1, p1, q1⟩ => ?_
  obtain ⟨i, e, q⟩ := one_cases q1
  have x1 := OkV.val (rest := []) (by rw [List.append_nil]; exact ok1) p1
  obtain ⟨f, ok2, sub, _⟩ := ok1.drops
  exact ⟨i, vx_int x1 e, G1, en1, f, st1.less sub, ok2, q⟩)⟩
def oSlS (x : Val) (lo hi : Option Int) (Q : Val → Prop) : Prop := one? x.str? fun a => a.length ≤ sizeLine ∧ Q (.d (.str (cutS a lo hi)))
/-- x[lo:hi]: a tuple, a list, a text -/
def oSl (x : Val) (lo hi : Option Int) (Q : Val → Prop) : Prop := match sqv x with
  | some (.l, xs) => Q (.lD (cutL xs lo hi))
  | some (.s, xs) => Q (.lD (cutL xs lo hi))
  | some (.t, xs) => Q (.d (.tup (cutL xs lo hi)))
  | none => oSlS x lo hi Q
theorem oSl_ok {G H : Hp} {v : V} {x : Val} {lo hi : Option Int} {Q : Val → Prop} (s : Same G H) (r1 : VRx X.K G H v x) (q0 : oSl x lo hi Q) : slSem X v lo hi H (NewQ X.K G H Q) := by
  unfold oSl at q0
  cases e2 : sqv x with
  | none =>
    rw [e2] at q0
    obtain ⟨a, e, hl, q3⟩ := one_cases (show oSlS x lo hi Q from q0)
    rw [vx_str r1 e]
    exact slSem_of sl_str ⟨a, rfl, hl, .old s (.str _) q3⟩
  | some p =>
    obtain ⟨b, xs⟩ := p
    obtain ⟨a, vs, ev, h1, h2⟩ := sqv_ok s r1 e2
    rw [e2] at q0
    cases b with
    | l => exact slSem_of sl_list ⟨a, vs, ev, SqL.of h1, fun p hp => .lD s hp (rpAll_cut lo hi h2) q0⟩
    | s => exact slSem_of sl_list ⟨a, vs, ev, h1, fun p hp => .lD s hp (rpAll_cut lo hi h2) q0⟩
    | t =>
      have q0 : Q (.d (.tup (cutL xs lo hi))) := q0
      refine slSem_of sl_tupA ⟨a, vs, ev, h1, fun hw => ?_, fun hw p hp => .tup s hp (rpAll_cut lo hi h2) q0⟩
      rw [rpAll_len h2] at hw
      rw [cutL_whole hw] at q0
      rw [← ev]
      exact .old s (sq_tup s r1 e2) q0
def eSl (ta : TV) (tl th : PV) : TV := fun en Q => ta en fun r en1 => tl en1 fun lo en2 => th en2 fun hi en3 => oSl (vof en3 r) lo hi fun z => Q (.tmp z) en3
theorem ve_slice {lo hi : Option Expr} {tl th : PV} {p2 : Pos} (ha : VE X Ex a ta) (hl : VO X Ex lo tl) (hh : VO X Ex hi th) : VE X Ex (.Subscript a (.Slice lo hi none p2) pos) (eSl ta tl th) :=
  ⟨fun G H σ pn en fr fp Q ok tk q => tSem_of (pe_slice (sl_sem X) (pe_sem X a) (po_sem X lo) (po_sem X hi)) (by
    refine tSem_mono (ha.run G H σ pn en fr fp _ ok tk q) fun v H1 ⟨G1, en1, r1, fp1, st1, ok1, p1, q1⟩ => ?_
    refine poSem_mono (hl.run G1 H1 σ pn en1 _ fp1 _ ok1 (tk.step st1).push q1) fun l H2 ⟨G2, en2, fp2, st2, ok2, q2⟩ => ?_
    refine poSem_mono (hh.run G2 H2 σ pn en2 _ fp2 _ ok2 (tk.step (st1.trans st2)).push q2) fun h H3 ⟨G3, en3, fp3, st3, ok3, q3⟩ => ?_
    have st := (st1.trans st2).trans st3
    have x1 := OkV.val (rest := []) (by rw [List.append_nil]; exact ok3) p1
    exact slSem_mono (fun w H4 ⟨z, G4, g, n, q4⟩ => OnR.from st (OnR.new ok3 n q4)) (oSl_ok ok3.same x1 q3))⟩
end
/-! ### built-ins -/
def Val.len? : Val → Option Nat
  | .lD xs => some xs.length
  | .ls xs => some xs.length
  | .tp xs => some xs.length
  | .dD xs => some xs.length
  | .di xs => some xs.length
  | .d (.lst xs) => some xs.length
  | .d (.scr xs) => some xs.length
  | .d (.tup xs) => some xs.length
  | .d (.dct xs) => some xs.length
  | _ => none
def oLen : OVC := fun xs Q => match xs with
  | [x] => match x.str? with
    | some a => a.length ≤ sizeLine ∧ Q (.d (.int a.length))
    | none => one? x.len? fun n => Q (.d (.int n))
  | _ => False
section
variable {X : Cx} {K : PySem.W.Frag} {G H : Hp} {v u : V} {x y : Val}
theorem vrl1 {vs : List V} (h : VRl K G H vs [x]) : ∃ v, vs = [v] ∧ VRx K G H v x := by
  cases h with
  | cons a t => cases t; exact ⟨_, rfl, a⟩
theorem vrl2 {vs : List V} (h : VRl K G H vs [x, y]) : ∃ v u, vs = [v, u] ∧ VRx K G H v x ∧ VRx K G H u y := by
  cases h with
  | cons a t =>
    cases t with
    | cons b t => cases t; exact ⟨_, _, rfl, a, b⟩
theorem rpK_len : ∀ {a : List (Key × V)} {b : List (Key × D)}, RpK K G a b → a.length = b.length
  | _, _, .nil => rfl
  | _, _, .cons _ t => by rw [List.length_cons, List.length_cons, rpK_len t]
theorem map_len {α β γ : Type} {f : α → γ} {g : β → γ} {a : List α} {b : List β} (h : a.map f = b.map g) : a.length = b.length := by
  have := congrArg List.length h
  rwa [List.length_map, List.length_map] at this
theorem len_ok (s : Same G H) (r : VRx K G H v x) {n : Nat} (h : x.len? = some n) : (∃ a vs, v = .ref a ∧ (SqL K H a vs ∨ SqT K H a vs) ∧ vs.length = n) ∨ ∃ a kvs, v = .ref a ∧ H a = some (.dK kvs) ∧ kvs.length = n := by
  obtain ⟨g, r⟩ := r
  cases x with
  | lD xs => cases h; cases r with | lD h1 h2 => exact .inl ⟨_, _, rfl, .inl (SqL.of h1), rpAll_len h2⟩
  | ls xs => cases h; cases r with | ls h1 h2 => exact .inl ⟨_, _, rfl, .inl (SqL.of h1), h2.len⟩
  | tp xs => cases h; cases r with | tp h1 h2 => exact .inl ⟨_, _, rfl, .inr (SqT.of h1), h2.len⟩
  | dD xs => cases h; cases r with | dD h1 h2 => exact .inr ⟨_, _, rfl, h1, rpK_len h2⟩
  | di xs => cases h; cases r with | di h1 h2 h3 => exact .inr ⟨_, _, rfl, h1, map_len h2⟩
  | d y =>
    cases r with
    | d r =>
      cases y with
      | lst xs => cases h; obtain ⟨a, vs, e, h1, h2⟩ := rp_lst r; exact .inl ⟨a, vs, e, .inl (SqL.of (s _ _ h1)), rpAll_len h2⟩
      | scr xs => cases h; obtain ⟨a, vs, e, h1, h2⟩ := rp_scr r; exact .inl ⟨a, vs, e, .inl (s.seq h1), rpAll_len h2⟩
      | tup xs => cases h; obtain ⟨a, vs, e, h1, h2⟩ := rp_tup r; exact .inl ⟨a, vs, e, .inr (sqT_mono s h1), rpAll_len h2⟩
      | dct xs => cases h; obtain ⟨a, vs, e, h1, h2⟩ := rp_dct r; exact .inr ⟨a, vs, e, s _ _ h1, rpK_len h2⟩
      | _ => cases h
  | _ => cases h
theorem cv_len : CallV X (.builtin "len") oLen := ⟨fun G H vs xs Q s r q0 => by
  unfold oLen at q0
  match xs, r, q0 with
  | [x], r, q0 =>
    obtain ⟨v, rfl, r1⟩ := vrl1 r
    cases e1 : x.str? with
    | some a =>
      simp only [e1] at q0
      rw [vx_str r1 e1]
      exact cSem_of call_len_str ⟨a, rfl, q0.1, .old s (.int _) q0.2⟩
    | none =>
      simp only [e1] at q0
      obtain ⟨n, e2, q1⟩ := one_cases q0
      rcases len_ok s r1 e2 with ⟨a, us, ev, h1, hl⟩ | ⟨a, us, ev, h1, hl⟩
      · exact cSem_of call_len_seq ⟨a, us, by rw [ev], h1, by rw [hl]; exact .old s (.int _) q1⟩
      · exact cSem_of call_lenD ⟨a, us, by rw [ev], h1, by rw [hl]; exact .old s (.int _) q1⟩⟩
/-- int of a number, of a truth, of figures -/
def oIntC : OVC := fun xs Q => match xs with
  | [x] => match x.int? with
    | some i => Q (.d (.int i))
    | none => match x.bl? with
      | some b => Q (.d (.int (if b then 1 else 0)))
      | none => one? x.str? fun a => one? (intText? a) fun n => a.length ≤ 640 ∧ Q (.d (.int n))
  | _ => False
theorem cv_int : CallV X (.type "int") oIntC := ⟨fun G H vs xs Q s r q0 => by
  unfold oIntC at q0
  match xs, r, q0 with
  | [x], r, q0 =>
    obtain ⟨v, rfl, r1⟩ := vrl1 r
    cases e1 : x.int? with
    | some a =>
      simp only [e1] at q0
      exact cSem_of call_int1 (.inl ⟨a, by rw [vx_int r1 e1], .old s (.int _) q0⟩)
    | none =>
      simp only [e1] at q0
      cases e2 : x.bl? with
      | some b =>
        simp only [e2] at q0
        exact cSem_of call_int1 (.inr ⟨b, by rw [vx_bl r1 e2], .old s (.int _) q0⟩)
      | none =>
        simp only [e2] at q0
        obtain ⟨a, e3, q1⟩ := one_cases q0
        obtain ⟨n, e4, hl, q2⟩ := one_cases q1
        exact cSem_of call_int_str ⟨a, n, by rw [vx_str r1 e3], e4, hl, .old s (.int _) q2⟩⟩
def oStrC : OVC := fun xs Q => match xs with
  | [x] => match x.str? with
    | some a => Q (.d (.str a))
    | none => one? x.int? fun i => (-1000000000000000000 ≤ i ∧ i ≤ 1000000000000000000) ∧ Q (.d (.str (toString i)))
  | _ => False
def oI2 (g : Int → Int → Int) : OVC := fun xs Q => match xs with
  | [x, y] => both x.int? y.int? (fun i j => Q (.d (.int (g i j)))) False
  | _ => False
theorem cv_max2 (hc : X.calm = true) : CallV X (.builtin "max") (oI2 fun i j => if j > i then j else i) := ⟨fun G H vs xs Q s r q0 => by
  unfold oI2 at q0
  match xs, r, q0 with
  | [x, y], r, q0 =>
    obtain ⟨v, u, rfl, r1, r2⟩ := vrl2 r
    rcases both_cases q0 with ⟨i, j, e1, e2, q1⟩ | q1
    · exact cSem_of (call_max2 hc) ⟨i, j, by rw [vx_int r1 e1, vx_int r2 e2], .old s (.int _) q1⟩
    · exact q1.elim⟩
theorem cv_min2 (hc : X.calm = true) : CallV X (.builtin "min") (oI2 fun i j => if j < i then j else i) := ⟨fun G H vs xs Q s r q0 => by
  unfold oI2 at q0
  match xs, r, q0 with
  | [x, y], r, q0 =>
    obtain ⟨v, u, rfl, r1, r2⟩ := vrl2 r
    rcases both_cases q0 with ⟨i, j, e1, e2, q1⟩ | q1
    · exact cSem_of (call_min2 hc) ⟨i, j, by rw [vx_int r1 e1, vx_int r2 e2], .old s (.int _) q1⟩
    · exact q1.elim⟩
/-- tuple(xs), list(xs) -/
def oTuple : OVC := fun xs Q => match xs with
  | [x] => one? (sqv x) fun p => Q (.d (.tup p.2))
  | _ => False
theorem cv_tuple : CallV X (.type "tuple") oTuple := ⟨fun G H vs xs Q s r q0 => by
  unfold oTuple at q0
  match xs, r, q0 with
  | [x], r, q0 =>
    obtain ⟨v, rfl, r1⟩ := vrl1 r
    obtain ⟨⟨b, ys⟩, e2, q1⟩ := one_cases q0
    obtain ⟨a, us, ev, h1, h2⟩ := sqv_ok s r1 e2
    cases b with
    | t => exact cSem_of call_tupleT ⟨a, us, by rw [ev], h1, by rw [← ev]; exact .old s (sq_tup s r1 e2) q1⟩
    | l => exact cSem_of call_tuple_of ⟨a, us, by rw [ev], .inl ⟨SqL.of h1, fun l hl => .tup s hl h2 q1⟩⟩
    | s => exact cSem_of call_tuple_of ⟨a, us, by rw [ev], .inl ⟨h1, fun l hl => .tup s hl h2 q1⟩⟩⟩
def oList : OVC := fun xs Q => match xs with
  | [x] => one? (sqv x) fun p => Q (.lD p.2)
  | _ => False
theorem cv_list : CallV X (.type "list") oList := ⟨fun G H vs xs Q s r q0 => by
  unfold oList at q0
  match xs, r, q0 with
  | [x], r, q0 =>
    obtain ⟨v, rfl, r1⟩ := vrl1 r
    obtain ⟨⟨b, ys⟩, e3, q1⟩ := one_cases q0
    obtain ⟨a, us, ev, h1, h2⟩ := sqv_ok s r1 e3
    exact cSem_of call_list_of ⟨a, us, by rw [ev], sqB_any h1, fun l hl => .lD s hl h2 q1⟩⟩
/-- all, any of a list of truths -/
def oBls (f : List Bool → Bool) : OVC := fun xs Q => match xs with
  | [x] => match sqv x with
    | some (.l, ys) => one? (Sy.blsD ys) fun bs => Q (.d (.bl (f bs)))
    | _ => False
  | _ => False
theorem oBls_ok {f : List Bool → Bool} {vs : List V} {xs : List Val} {Q : Val → Prop} (s : Same G H) (r : VRl K G H vs xs) (q0 : oBls f xs Q) : ∃ a bs, vs = [.ref a] ∧ SqL K H a (bs.map V.bl) ∧ NewQ K G H Q (.bl (f bs)) H := by
  unfold oBls at q0
  match xs, r, q0 with
  | [x], r, q0 =>
    obtain ⟨v, rfl, r1⟩ := vrl1 r
    cases e2 : sqv x with
    | none => simp only [e2] at q0
    | some p =>
      obtain ⟨b, ys⟩ := p
      obtain ⟨a, us, ev, h1, h2⟩ := sqv_ok s r1 e2
      cases b with
      | t => simp only [e2] at q0
      | s => simp only [e2] at q0
      | l =>
        simp only [e2] at q0
        obtain ⟨bs, e3, q1⟩ := one_cases q0
        have hh := Sy.blsD_ok h2 e3
        exact ⟨a, bs, by rw [ev], by rw [← hh]; exact SqL.of h1, .old s (.bl _) q1⟩
theorem cv_all (hc : X.calm = true) : CallV X (.builtin "all") (oBls fun bs => bs.all id) := ⟨fun G H vs xs Q s r q0 => by
  obtain ⟨a, bs, rfl, h1, q⟩ := oBls_ok s r q0
  exact cSem_of (cr_all hc) ⟨a, bs, rfl, h1, q⟩⟩
theorem cv_any (hc : X.calm = true) : CallV X (.builtin "any") (oBls fun bs => bs.any id) := ⟨fun G H vs xs Q s r q0 => by
  obtain ⟨a, bs, rfl, h1, q⟩ := oBls_ok s r q0
  exact cSem_of (cr_any hc) ⟨a, bs, rfl, h1, q⟩⟩
/-- isinstance -/
def tyV : Val → Option String
  | .d x => Sy.tyD x
  | .lD _ => some "list"
  | .ls _ => some "list"
  | .tp _ => some "tuple"
  | .dD _ => some "dict"
  | .di _ => some "dict"
  | _ => none
def Val.ty? : Val → Option String
  | .d (.v (.ty T)) => some T
  | _ => none
theorem ty_ok {T : String} (r : VRx K G H v x) (h : x.ty? = some T) : v = .ty T := by
  cases x with
  | d y =>
    cases y with
    | v w => cases w <;> first | (cases h; done) | (cases h; exact rp_v (vrx_d r))
    | _ => cases h
  | _ => cases h
def oIsi : OVC := fun xs Q => match xs with
  | [x, c] => both ((snap x).bind Sy.tyD) c.ty? (fun t T => one? (kitB t T) fun b => Q (.d (.bl b))) False
  | _ => False
theorem cv_isi : CallV X (.builtin "isinstance") oIsi := ⟨fun G H vs xs Q s r q0 => by
  unfold oIsi at q0
  match xs, r, q0 with
  | [x, c], r, q0 =>
    obtain ⟨v, u, rfl, r1, r2⟩ := vrl2 r
    rcases both_cases q0 with ⟨t, T, e1, e2, q1⟩ | q1
    · obtain ⟨b, e3, q2⟩ := one_cases q1
      obtain ⟨d, e4, e5⟩ := Option.bind_eq_some_iff.mp e1
      cases ty_ok r2 e2
      exact cSem_of call_isi ⟨v, .ty T, .type t, .type T, b, rfl, .ty T, Sy.tyD_ok (snap_ok s r1 e4) e5, kit_ty e3, .old s (.bl _) q2⟩
    · exact q1.elim⟩
theorem cv_abs : CallV X (.builtin "abs") (fun xs Q => match xs with
  | [x] => one? x.int? fun i => Q (.d (.int (if i < 0 then -i else i)))
  | _ => False) := ⟨fun G H vs xs Q s r q0 => by
  match xs, r, q0 with
  | [x], r, q0 =>
    obtain ⟨v, rfl, r1⟩ := vrl1 r
    obtain ⟨i, e, q⟩ := one_cases q0
    exact cSem_of call_abs ⟨i, by rw [vx_int r1 e], .old s (.int _) q⟩⟩
theorem cv_str : CallV X (.type "str") (fun xs Q => match xs with
  | [x] => one? x.int? fun i => (-1000000000000000000 ≤ i ∧ i ≤ 1000000000000000000) ∧ Q (.d (.str (toString i)))
  | _ => False) := ⟨fun G H vs xs Q s r q0 => by
  match xs, r, q0 with
  | [x], r, q0 =>
    obtain ⟨v, rfl, r1⟩ := vrl1 r
    obtain ⟨i, e1, ⟨h1, h2⟩, q⟩ := one_cases q0
    have hl : i.natAbs.log2 < 1920 := by
      by_cases h0 : i.natAbs = 0
      · rw [h0]; decide
      · have h3 : i.natAbs < 2 ^ 60 := by omega
        have h4 := (Nat.log2_lt h0).mpr h3
        omega
    exact cSem_of call_str_int ⟨i, by rw [vx_int r1 e1], hl, .old s (.str _) q⟩⟩
/-- repr of data -/
structure ReprC (d : D) : Prop where
  pl : d.pl = true
  sh : d.py.showable = true
  dp : d.py.depth ≤ 60
  ln : d.py.shown.length ≤ sizeLine
def oRepr : OVC := fun xs Q => match xs with
  | [x] => one? (snap x) fun d => ReprC d ∧ Q (.d (.str d.py.shown))
  | _ => False
theorem cv_repr (hu : X.A.units + 64 < cLine) (free : X.A.guards = some []) : CallV X (.builtin "repr") oRepr := ⟨fun G H vs xs Q s r q0 => by
  unfold oRepr at q0
  match xs, r, q0 with
  | [x], r, q0 =>
    obtain ⟨v, rfl, r1⟩ := vrl1 r
    obtain ⟨d, e1, ⟨h1, h2, h3, h4⟩, q⟩ := one_cases q0
    have rp := snap_ok s r1 e1
    have dp := rp.dp h1
    intro pins s' σ' us I rel
    cases rel with
    | @cons _ u _ _ rel t =>
      cases t
      obtain ⟨bs, rd⟩ := Dp.reads I _ _ _ dp rel
      have fin : ∀ h' tu tk, (∀ b o, s'.heap.get? b = some o → h'.get? b = some o) → EP X pins σ' (NewQ X.K G H Q) (.str d.py.shown tu) { s' with heap := h', toks := tk } := fun h' tu tk hk =>
        ⟨.str d.py.shown, H, I.kept (t' := tk) hk, ⟨tu, rfl⟩, .old s (.str _) q⟩
      cases hs : d.isSq with
      | true =>
        obtain ⟨a, rfl⟩ := Sy.sq_ref hs rp
        cases rel
        exact repr_of_reads' rd h2 (PyData.noDict_hsm (Sy.noDict_py d)) free (by omega) (fun _ _ e => e) fin h4
      | false =>
        have here := fin s'.heap s'.toks (s'.toks + 1) (fun _ _ e => e)
        cases rp <;> first | (cases hs; done) | (cases h1; done) | skip
        · cases rel; exact PySem.P.repr_of_none here
        · cases rel; exact PySem.P.repr_of_bool here
        · obtain ⟨t, rfl⟩ := rel; exact PySem.P.repr_of_int (of_decide_eq_true h2) here
        · obtain ⟨t, rfl⟩ := rel; exact PySem.P.repr_of_str here h4⟩
end
end Vy
namespace Vy
open PySem PySem.Spec PyProof.Rows L2
open Sy (D Rp RpAll RpK RpF tSem tSem_mono tSem_of pe_sem qSem qSem_mono qSem_of pt_sem wSem wSem_of wSem_mono pw_sem aSem aSem_mono aSem_of pa_sem sSem sSem_of sSem_mono ps_sem bSem bSem_of bSem_mono pss_sem dealK sqT_mono one? one_cases both both_cases IfB rSem rSem_of rSem_mono op_sem uSem uSem_of uSem_mono un_sem cSem cSem_of cSem_mono call_sem rp_int rp_str rp_bl rp_non rp_v rp_tup rp_lst rp_scr rp_dct Sk SqB sqB_any cutL rpAll_len rpAll_app rpAll_nil rpAll_cut cutL_whole gSem gSem_of gSem_mono pg_sem gsSem gsSem_of gsSem_mono pgs_sem Bt iSemT iSemT_of iSemT_mono pi_sem)
/-! ### statements -/
structure EndsV where
  nx : En → Prop
  rt : Rv → En → Prop
  bk : En → Prop := fun _ => False
  ct : En → Prop := fun _ => False
abbrev SV := EndsV → En → Prop
def OnE (K : PySem.W.Frag) (G H : Hp) (pn : List (Nat × V)) (fr : List (V × Val)) (fp : List Addr) (D : EndsV) : Ends where
  nx := fun σ' => OnB K σ' G H pn fr fp D.nx
  rt := fun v H' => ∃ σ', OnR K σ' G H pn fr fp D.rt v H'
  bk := fun σ' => OnB K σ' G H pn fr fp D.bk
  ct := fun σ' => OnB K σ' G H pn fr fp D.ct
/-- ws: the slots that must not be stored to -/
structure VS (X : Cx) (Ex : EX) (ws : List Nat) (st : Stmt) (t : SV) : Prop where
  run : ∀ (G H : Hp) (σ : L2.St) (pn : List (Nat × V)) (en : En) (fr : List (V × Val)) (fp : List Addr) (D : EndsV), OkV X.K G H σ pn en fr fp → (∀ p ∈ pn, p.1 ∈ ws) → Tk X pn fr Ex G H fp → t D en → sSem X st (OnE X.K G H pn fr fp D) σ H
structure VB (X : Cx) (Ex : EX) (ws : List Nat) (st : List Stmt) (t : SV) : Prop where
  run : ∀ (G H : Hp) (σ : L2.St) (pn : List (Nat × V)) (en : En) (fr : List (V × Val)) (fp : List Addr) (D : EndsV), OkV X.K G H σ pn en fr fp → (∀ p ∈ pn, p.1 ∈ ws) → Tk X pn fr Ex G H fp → t D en → bSem X st (OnE X.K G H pn fr fp D) σ H
section
variable {K : PySem.W.Frag} {σ : L2.St} {G H G1 H1 : Hp} {pn : List (Nat × V)} {en : En} {fr : List (V × Val)} {fp fp1 : List Addr}
theorem onE_from (s : StepV G H fp G1 H1 fp1) {X : Cx} {st : Stmt} {D : EndsV} {σ1 : L2.St} (h : sSem X st (OnE K G1 H1 pn fr fp1 D) σ1 H1) : sSem X st (OnE K G H pn fr fp D) σ1 H1 :=
  sSem_mono h (fun _ _ q => OnB.from s q) (fun _ _ ⟨σ', q⟩ => ⟨σ', OnR.from s q⟩) (fun _ _ q => OnB.from s q) (fun _ _ q => OnB.from s q)
theorem onEb_from (s : StepV G H fp G1 H1 fp1) {X : Cx} {st : List Stmt} {D : EndsV} {σ1 : L2.St} (h : bSem X st (OnE K G1 H1 pn fr fp1 D) σ1 H1) : bSem X st (OnE K G H pn fr fp D) σ1 H1 :=
  bSem_mono h (fun _ _ q => OnB.from s q) (fun _ _ ⟨σ', q⟩ => ⟨σ', OnR.from s q⟩) (fun _ _ q => OnB.from s q) (fun _ _ q => OnB.from s q)
/-- a slot takes what the last frame holds -/
theorem OkV.asg {v : V} {x : Val} {i : Nat} (ok : OkV K G H σ pn en (fr ++ [(v, x)]) fp) (hi : ∀ p ∈ pn, p.1 ≠ i) : ∃ fp', StepV G H fp G H fp' ∧ OkV K G H (σ.set i (some v)) pn (en.set i x) fr fp' := by
  obtain ⟨f, g, e, ok1, r⟩ := ok.drop
  subst e
  obtain ⟨ve, hl, hs, r0⟩ := ok1.rel
  have hpin : ∀ (j : Nat) (u : V), (j, u) ∈ pn → (σ.set i (some v))[j]? = some (some u) := fun j u m => by
    have : i ≠ j := fun z => hi _ m z.symm
    rw [List.getElem?_set_ne this]
    exact ok1.pin j u m
  by_cases hlt : i < en.length
  · have hx : (en ++ fr.map (·.2))[i]? = some en[i] := by rw [List.getElem?_append_left hlt]; exact List.getElem?_eq_getElem hlt
    obtain ⟨u, f1, f2, f3, hv, ef, r1, r2, r3⟩ := VRs.at r0 hx
    subst ef
    have nd := List.nodup_append.mp ok.nd
    have nd1 := List.nodup_append.mp nd.1
    have nd2 := List.nodup_append.mp nd1.2.1
    refine ⟨f1 ++ (g ++ f3), (StepV.refl _ _ _).less (fun a m => ?_), ok1.same, ⟨ve.set i v, by rw [List.length_set, List.length_set]; exact hl, fun j w y hw hy => ?_, ?_⟩, by rw [List.length_set, List.length_set]; exact ok1.el, ?_, fun a m => ok.out a ?_, hpin⟩
    · rcases List.mem_append.mp m with q | q
      · simp [q]
      · rcases List.mem_append.mp q with q | q <;> simp [q]
    · by_cases e : i = j
      · subst e
        rw [List.getElem?_set_self (by omega)] at hw
        cases hw
        exact .inr (List.getElem?_set_self (by have := ok1.el; omega))
      · rw [List.getElem?_set_ne e] at hw hy
        rw [List.getElem?_set_ne e]
        exact hs j w y hw hy
    · have hiv : i < ve.length := by omega
      have e1 : en.set i x ++ fr.map (·.2) = (en ++ fr.map (·.2)).set i x := by rw [List.set_append_left _ _ hlt]
      have e2 : ve.set i v ++ fr.map (·.1) = (ve ++ fr.map (·.1)).set i v := by rw [List.set_append_left _ _ hiv]
      rw [e1, e2, set_take (by rw [List.length_append]; omega), set_take (by rw [List.length_append]; omega)]
      exact r2.app (.cons r r3)
    · rw [List.nodup_append, List.nodup_append]
      refine ⟨nd1.1, ⟨nd.2.1, nd2.2.1, fun a m b n e => ?_⟩, fun a m b n e => ?_⟩
      · subst e; exact nd.2.2 a (by simp [n]) a m rfl
      · subst e
        rcases List.mem_append.mp n with n | n
        · exact nd.2.2 a (by simp [m]) a n rfl
        · exact nd1.2.2 a m a (List.mem_append_right _ n) rfl
    · rcases List.mem_append.mp m with q | q
      · simp [q]
      · rcases List.mem_append.mp q with q | q <;> simp [q]
  · rw [show en.set i x = en from List.set_eq_of_length_le (by omega)]
    refine ⟨f, (StepV.refl _ _ _).less (fun a m => by simp [m]), ok1.same, ⟨ve, hl, fun j w y hw hy => ?_, r0⟩, by rw [List.length_set]; exact ok1.el, ok1.nd, ok1.out, hpin⟩
    have hj := (List.getElem?_eq_some_iff.mp hy).1
    rw [List.getElem?_set_ne (by omega)]
    exact hs j w y hw hy
end
section
variable {X : Cx} {Ex : EX} {ws : List Nat} {st : Stmt} {rest : List Stmt} {t u : SV} {e : Expr} {te : TV} {pos : Pos}
def sNext : SV := fun D en => D.nx en
def sSeq (t u : SV) : SV := fun D en => t { D with nx := u D } en
theorem OnB.here {K : PySem.W.Frag} {σ : L2.St} {G H : Hp} {pn : List (Nat × V)} {en : En} {fr : List (V × Val)} {fp : List Addr} {Q : En → Prop} (ok : OkV K G H σ pn en fr fp) (q : Q en) : OnB K σ G H pn fr fp Q H := ⟨G, en, fp, StepV.refl .., ok, q⟩
theorem vb_nil : VB X Ex ws [] sNext := ⟨fun G H σ pn en fr fp D ok hp tk q => bSem_of pss_nil (OnB.here ok q)⟩
theorem vb_cons (h1 : VS X Ex ws st t) (h2 : VB X Ex ws rest u) : VB X Ex ws (st :: rest) (sSeq t u) := ⟨fun G H σ pn en fr fp D ok hp tk q => bSem_of (pss_cons (ps_sem X st) (pss_sem X rest)) (by
  refine sSem_mono (h1.run G H σ pn en fr fp { D with nx := u D } ok hp tk q) (fun σ1 H1 ⟨G1, en1, fp1, st1, ok1, q1⟩ => ?_) (fun _ _ q => q) (fun _ _ q => q) (fun _ _ q => q)
  exact onEb_from st1 (h2.run G1 H1 σ1 pn en1 fr fp1 D ok1 hp (tk.step st1) q1))⟩
theorem vb_one (h1 : VS X Ex ws st t) : VB X Ex ws [st] t := ⟨fun G H σ pn en fr fp D ok hp tk q => bSem_of (pss_one (ps_sem X st)) (h1.run G H σ pn en fr fp D ok hp tk q)⟩
theorem vs_pass : VS X Ex ws (.Pass pos) sNext := ⟨fun G H σ pn en fr fp D ok hp tk q => sSem_of ps_pass (OnB.here ok q)⟩
def sBrk : SV := fun D en => D.bk en
def sCt : SV := fun D en => D.ct en
theorem vs_break : VS X Ex ws (.Break pos) sBrk := ⟨fun G H σ pn en fr fp D ok hp tk q => sSem_of ps_break (OnB.here ok q)⟩
theorem vs_continue : VS X Ex ws (.Continue pos) sCt := ⟨fun G H σ pn en fr fp D ok hp tk q => sSem_of ps_continue (OnB.here ok q)⟩
def sDrop (te : TV) : SV := fun D en => te en fun _ en1 => D.nx en1
theorem vs_expr (he : VE X Ex e te) (hs : swapsWith e none pos.line X.env = pure false := by rfl) : VS X Ex ws (.Expr e pos) (sDrop te) := ⟨fun G H σ pn en fr fp D ok hp tk q => sSem_of (ps_expr (pe_sem X e) hs) (by
  refine tSem_mono (he.run G H σ pn en fr fp _ ok tk q) fun v H1 ⟨G1, en1, r1, fp1, st1, ok1, p1, q1⟩ => ?_
  obtain ⟨f, ok2, sub, _⟩ := ok1.drops
  exact ⟨G1, en1, f, st1.less sub, ok2, q1⟩)⟩
def sRet (te : TV) : SV := fun D en => te en D.rt
theorem vs_ret (he : VE X Ex e te) : VS X Ex ws (.Return (some e) pos) (sRet te) := ⟨fun G H σ pn en fr fp D ok hp tk q => sSem_of (ps_ret (pe_sem X e)) (by
  refine tSem_mono (he.run G H σ pn en fr fp _ ok tk q) fun v H1 h => ⟨σ, h⟩)⟩
def sRetN : SV := fun D en => D.rt (.tmp (.d .non)) en
theorem vs_retN : VS X Ex ws (.Return none pos) sRetN := ⟨fun G H σ pn en fr fp D ok hp tk q => sSem_of ps_retN ⟨σ, OnR.here ok .non q⟩⟩
def sIf (c : QV) (t u : SV) : SV := fun D en => c en fun b en1 => IfB b (t D en1) (u D en1)
theorem vs_if {c : Expr} {a b : List Stmt} {tc : QV} (hc : VT X Ex c tc) (ha : VB X Ex ws a t) (hb : VB X Ex ws b u) : VS X Ex ws (.If c a b pos) (sIf tc t u) := ⟨fun G H σ pn en fr fp D ok hp tk q => sSem_of (ps_if (pt_sem X c) (pss_sem X a) (pss_sem X b)) (by
  refine qSem_mono (hc.run G H σ pn en fr fp _ ok tk q) fun d H1 ⟨G1, en1, fp1, st1, ok1, q1⟩ => ?_
  cases d with
  | true => exact iteT (onEb_from st1 (ha.run G1 H1 σ pn en1 fr fp1 D ok1 hp (tk.step st1) (IfB.tt q1)))
  | false => exact iteF (onEb_from st1 (hb.run G1 H1 σ pn en1 fr fp1 D ok1 hp (tk.step st1) (IfB.ff q1))))⟩
/-! ### targets -/
abbrev GV := Val → En → (En → Prop) → Prop
abbrev GVs := List D → En → (En → Prop) → Prop
/-- the slots of is alone change -/
structure VG (X : Cx) (Ex : EX) (ws : List Nat) (tg : Expr) (is : List Nat) (t : GV) : Prop where
  run : ∀ (G H : Hp) (σ : L2.St) (pn : List (Nat × V)) (en : En) (fr : List (V × Val)) (fp : List Addr) (v : V) (x : Val) (Q : En → Prop), OkV X.K G H σ pn en (fr ++ [(v, x)]) fp → (∀ p ∈ pn, p.1 ∈ ws) → Tk X pn fr Ex G H fp → t x en Q → gSem X tg v σ H (fun σ' H' => Bt is σ σ' ∧ OnB X.K σ' G H pn fr fp Q H')
structure VGs (X : Cx) (Ex : EX) (ws : List Nat) (ts : List Expr) (is : List Nat) (t : GVs) : Prop where
  run : ∀ (G H : Hp) (σ : L2.St) (pn : List (Nat × V)) (en : En) (fr : List (V × Val)) (fp : List Addr) (vs : List V) (xs : List D) (Q : En → Prop), OkV X.K G H σ pn en fr fp → RpAll X.K G vs xs → (∀ p ∈ pn, p.1 ∈ ws) → Tk X pn fr Ex G H fp → t xs en Q → gsSem X ts vs σ H (fun σ' H' => Bt is σ σ' ∧ OnB X.K σ' G H pn fr fp Q H')
def gN (i : Nat) : GV := fun x en Q => setK en i x Q
theorem vg_name {i : Nat} {x : Str} (hN : X.N.Nodup) (hi : X.N[i]? = some x) (hx : Loc X.env.scope x) (hw : ws.contains i = false) (hf : X.fn x = true ∨ X.env.scope.names.lookup x = some .local := by first | exact .inl rfl | exact .inr rfl | assumption) : VG X Ex ws (.Name x pos) [i] (gN i) :=
  ⟨fun G H σ pn en fr fp v y Q ok hp tk q => gSem_of (pg_name hN hi hx hf) (by
    obtain ⟨fp', st1, ok1⟩ := ok.asg (i := i) (fun p m z => by
      have := hp p m
      rw [z] at this
      rw [List.contains_iff_mem.mpr this] at hw
      cases hw)
    exact ⟨Bt.set i σ _, G, _, fp', st1, ok1, (setK_eq _ _ _ _).mp q⟩)⟩
def gsN : GVs := fun xs en Q => xs = [] ∧ Q en
def gsC (t : GV) (u : GVs) : GVs := fun xs en Q => match xs with
  | x :: r => t (.d x) en fun en1 => u r en1 Q
  | [] => False
theorem vgs_nil : VGs X Ex ws [] [] gsN := ⟨fun G H σ pn en fr fp vs xs Q ok r hp tk q => gsSem_of pgs_nil (by
  obtain ⟨rfl, q⟩ := q
  cases r
  exact ⟨rfl, Bt.refl _ _, OnB.here ok q⟩)⟩
theorem vgs_cons {es : List Expr} {is js : List Nat} {t : GV} {u : GVs} (h1 : VG X Ex ws e is t) (h2 : VGs X Ex ws es js u) (hs : (assignEach (e :: es) X.env).map (·.2) = assign e X.env :: (assignEach es X.env).map (·.2) := by rfl) : VGs X Ex ws (e :: es) (is ++ js) (gsC t u) :=
  ⟨fun G H σ pn en fr fp vs xs Q ok r hp tk q => gsSem_of (pgs_cons (pg_sem X e) (pgs_sem X es) hs) (by
    cases r with
    | nil => exact q.elim
    | cons r1 r2 =>
      refine ⟨_, _, rfl, gSem_mono (h1.run G H σ pn en fr fp _ _ _ (ok.frameD r1) hp tk q) fun σ1 H1 ⟨b1, G1, en1, fp1, st1, ok1, q1⟩ => ?_⟩
      exact gsSem_mono (h2.run G1 H1 σ1 pn en1 fr fp1 _ _ Q ok1 (r2.mono st1.g) hp (tk.step st1) q1) fun σ2 H2 ⟨b2, h⟩ => ⟨b1.trans b2, OnB.from st1 h⟩)⟩
/-- (a, b, ..) = a tuple, a list of that length -/
def gT (n : Nat) (t : GVs) : GV := fun x en Q => one? (sqv x) fun p => p.2.length = n ∧ t p.2 en Q
theorem vg_tup {es : List Expr} {is : List Nat} {k : Nat} {t : GVs} {n : Nat} (hc : X.calm = true) (h : VGs X Ex ws es is t) (hn : (assignEach es X.env).length = n := by rfl) (hst : (assignEach es X.env).findIdx? (·.1) = none := by rfl) : VG X Ex ws (.Tuple es k pos) is (gT n t) :=
  ⟨fun G H σ pn en fr fp v x Q ok hp tk q => by
    obtain ⟨⟨b, xs⟩, e, hl, q1⟩ := one_cases q
    have x1 : VRx X.K G H v x := OkV.frameV (rest := []) ok
    obtain ⟨a, vs, ev, h1, h2⟩ := sqv_ok ok.same x1 e
    obtain ⟨f, ok2, sub, _⟩ := ok.drops
    have st0 : StepV G H fp G H f := (StepV.refl G H fp).less sub
    refine Sy.pg_both hc (pgs_sem X es) hn hst ⟨a, vs, ev, sqB_any h1, by rw [rpAll_len h2]; exact hl, ?_⟩
    exact gsSem_mono (h.run G H σ pn en fr f vs xs Q ok2 h2 hp (tk.step st0) q1) fun σ2 H2 ⟨b2, h⟩ => ⟨b2, OnB.from st0 h⟩⟩
/-- x = e -/
def sAsg (te : TV) (g : GV) : SV := fun D en => te en fun r en1 => esc r en1 fun x en2 => g x en2 D.nx
theorem vs_asg {tg : Expr} {is : List Nat} {g : GV} (he : VE X Ex e te) (hg : VG X Ex ws tg is g) (hs : swapsWithSole [tg] e pos.line X.env = pure false := by rfl) (hw : swappedStores [tg] e X.env = pure none := by rfl)
    (h1 : (assignEach [tg] X.env).map (·.2) = [assign tg X.env] := by rfl) : VS X Ex ws (.Assign [tg] e pos) (sAsg te g) := ⟨fun G H σ pn en fr fp D ok hp tk q => sSem_of (ps_asg (pe_sem X e) (pg_sem X tg) hs hw h1) (by
  refine tSem_mono (he.run G H σ pn en fr fp _ ok tk q) fun v H1 ⟨G1, en1, r1, fp1, st1, ok1, p1, q1⟩ => ?_
  obtain ⟨G2, fp2, en2, x, st2, ok2, q2⟩ := esc_ok (rest := []) (by rw [List.append_nil]; exact ok1) p1 q1
  have st := st1.trans st2
  exact gSem_mono (hg.run G2 H1 σ pn en2 fr fp2 v x _ ok2 hp (tk.step st) q2) fun σ2 H2 ⟨_, h⟩ => OnB.from st h)⟩
theorem vs_set {i : Nat} {x : Str} {pos' : Pos} (hN : X.N.Nodup) (hi : X.N[i]? = some x) (hx : Loc X.env.scope x) (hw : ws.contains i = false) (he : VE X Ex e te) (hs : swapsWith e (some (.Name x pos')) pos.line X.env = pure false := by rfl) (hf : X.fn x = true ∨ X.env.scope.names.lookup x = some .local := by first | exact .inl rfl | exact .inr rfl | assumption) :
    VS X Ex ws (.Assign [.Name x pos'] e pos) (sAsg te (gN i)) := ⟨fun G H σ pn en fr fp D ok hp tk q => sSem_of (ps_set hN hi hx (pe_sem X e) hs hf) (by
  refine tSem_mono (he.run G H σ pn en fr fp _ ok tk q) fun v H1 ⟨G1, en1, r1, fp1, st1, ok1, p1, q1⟩ => ?_
  obtain ⟨G2, fp2, en2, y, st2, ok2, q2⟩ := esc_ok (rest := []) (by rw [List.append_nil]; exact ok1) p1 q1
  obtain ⟨fp3, st3, ok3⟩ := ok2.asg (i := i) (fun p m z => by
    have := hp p m
    rw [z] at this
    rw [List.contains_iff_mem.mpr this] at hw
    cases hw)
  exact ⟨G2, _, fp3, (st1.trans st2).trans st3, ok3, (setK_eq _ _ _ _).mp q2⟩)⟩
/-- a, b = x, y stored without a tuple -/
def sPar (i j : Nat) (ta : AV) : SV := fun D en => ta en fun rs en1 => escs rs en1 fun xs en2 => match xs with
  | [x, y] => setK en2 j y fun en3 => setK en3 i x D.nx
  | _ => False
theorem vs_par {i j : Nat} {x y : Str} {a b : Expr} {ta : AV} {px py pt : Pos} {kt k2 pt2} (hc : X.calm = true) (hN : X.N.Nodup) (hi : X.N[i]? = some x) (hj : X.N[j]? = some y) (hij : i ≠ j)
    (hx : X.env.scope.names.lookup x = some .local) (hy : X.env.scope.names.lookup y = some .local) (hwi : ws.contains i = false) (hwj : ws.contains j = false) (ha : VA X Ex [a, b] ta)
    (hw : swappedStores [.Tuple [.Name x px, .Name y py] kt pt] (.Tuple [a, b] k2 pt2) X.env = pure (some [x, y]))
    (hs : swapsWithSole [.Tuple [.Name x px, .Name y py] kt pt] (.Tuple [a, b] k2 pt2) pos.line X.env = pure false := by rfl) :
    VS X Ex ws (.Assign [.Tuple [.Name x px, .Name y py] kt pt] (.Tuple [a, b] k2 pt2) pos) (sPar i j ta) := ⟨fun G H σ pn en fr fp D ok hp tk q => sSem_of (ps_par hc hN hi hj hij hx hy (pa_sem X [a, b]) hw hs) (by
  refine aSem_mono (ha.run G H σ pn en fr fp _ ok tk q) fun vs H1 ⟨G1, en1, rs, fp1, st1, ok1, p1, q1⟩ => ?_
  obtain ⟨G2, fp2, en2, xs, st2, ok2, hl, q2⟩ := escs_ok ok1 p1 q1
  match xs, q2 with
  | [x, y], q2 =>
    match vs, hl with
    | [v, w], _ =>
      have no : ∀ {l : Nat}, ws.contains l = false → ∀ p ∈ pn, p.1 ≠ l := fun hw p m z => by
        have := hp p m
        rw [z] at this
        rw [List.contains_iff_mem.mpr this] at hw
        cases hw
      have ok2' : OkV X.K G2 H1 σ pn en2 ((fr ++ [(v, x)]) ++ [(w, y)]) fp2 := by rw [List.append_assoc]; exact ok2
      obtain ⟨fp3, st3, ok3⟩ := ok2'.asg (i := j) (no hwj)
      obtain ⟨fp4, st4, ok4⟩ := ok3.asg (i := i) (no hwi)
      refine ⟨v, w, rfl, G2, _, fp4, ((st1.trans st2).trans st3).trans st4, ?_, (setK_eq _ _ _ _).mp ((setK_eq _ _ _ _).mp q2)⟩
      rw [List.set_comm _ _ hij]
      exact ok4)⟩
end
/-! ### what is walked: data -/
structure ItV (K : PySem.W.Frag) (J : It) (xs : List D) (G0 : Hp) : Prop where
  go : ∀ (i : Nat) (d : D) (G H : Hp), xs[i]? = some d → Same G0 G → Same G H → J.go i H ∧ ∀ v H', J.yld i H v H' → ∃ G', NewV K G H v (.d d) G' H' []
  stop : ∀ (G H : Hp), Same G0 G → Same G H → J.stop xs.length H
abbrev IV := En → (List D → En → Prop) → Prop
structure VI (X : Cx) (Ex : EX) (tg iter : Expr) (ti : IV) : Prop where
  run : ∀ (G H : Hp) (σ : L2.St) (pn : List (Nat × V)) (en : En) (fr : List (V × Val)) (fp : List Addr) (R : List D → En → Prop), OkV X.K G H σ pn en fr fp → Tk X pn fr Ex G H fp → ti en R →
    iSemT X tg iter σ H (fun J H' => ∃ G' en' fp' xs, StepV G H fp G' H' fp' ∧ OkV X.K G' H' σ pn en' fr fp' ∧ ItV X.K J xs G' ∧ R xs en')
/-- data made of a result, what is owned standing still from now on -/
def frz (r : Rv) (en : En) (k : D → En → Prop) : Prop := match r with
  | .tmp x => one? (snap x) fun d => k d en
  | .pl i => one? (snap (en.getD i .no)) fun d => setK en i (.d d) fun en' => k d en'
section
variable {X : Cx} {K : PySem.W.Frag} {G H : Hp} {σ : L2.St} {pn : List (Nat × V)} {en : En} {fr rest : List (V × Val)} {fp : List Addr} {v : V} {r : Rv}
theorem frz_ok {k : D → En → Prop} (ok : OkV K G H σ pn en (fr ++ tmpF v r) fp) (p : plO σ v r) (q : frz r en k) : ∃ G' fp' en' d, StepV G H fp G' H fp' ∧ OkV K G' H σ pn en' fr fp' ∧ Rp K G' v d ∧ k d en' := by
  cases r with
  | tmp x =>
    obtain ⟨d, e, q⟩ := one_cases q
    obtain ⟨G', fp', st, ok'⟩ := OkV.stillF (rest := []) ok e
    have x1 := OkV.frameV (rest := []) ok'
    obtain ⟨f, ok2, sub, _⟩ := ok'.drops
    exact ⟨G', f, en, d, st.less sub, ok2, vrx_d x1, q⟩
  | pl i =>
    obtain ⟨d, e, q⟩ := one_cases q
    obtain ⟨G', fp', en', x, st, ok', q'⟩ := esc_ok (rest := []) (k := fun x en' => x = .d d ∧ k d en') (r := .pl i) (v := v) (by rw [List.append_nil]; exact ok) p (one?.yes e ((setK_eq _ _ _ _).mpr ⟨rfl, (setK_eq _ _ _ _).mp q⟩))
    obtain ⟨rfl, q'⟩ := q'
    have x1 := OkV.frameV (rest := []) ok'
    obtain ⟨f, ok2, sub, _⟩ := ok'.drops
    exact ⟨G', f, en', d, st.less sub, ok2, vrx_d x1, q'⟩
end
def seqD : D → Option (Sk × List D)
  | .lst xs => some (.l, xs)
  | .scr xs => some (.s, xs)
  | .tup xs => some (.t, xs)
  | _ => none
def strD : D → Option Str
  | .str a => some a
  | _ => none
theorem seqD_ok {K : PySem.W.Frag} {G : Hp} {v : V} {d : D} (r : Rp K G v d) {b : Sk} {ds : List D} (h : seqD d = some (b, ds)) : ∃ a vs, v = .ref a ∧ SqB K G b a vs ∧ RpAll K G vs ds := by
  cases d with
  | lst xs => cases h; obtain ⟨a, vs, e, h1, h2⟩ := rp_lst r; exact ⟨a, vs, e, h1, h2⟩
  | scr xs => cases h; obtain ⟨a, vs, e, h1, h2⟩ := rp_scr r; exact ⟨a, vs, e, h1, h2⟩
  | tup xs => cases h; obtain ⟨a, vs, e, h1, h2⟩ := rp_tup r; exact ⟨a, vs, e, h1, h2⟩
  | _ => cases h
theorem sqB_mono {K : PySem.W.Frag} {G H : Hp} (s : Same G H) {b : Sk} {a : Addr} {vs : List V} (h : SqB K G b a vs) : SqB K H b a vs := by
  cases b with
  | l => exact s _ _ h
  | s => exact s.seq h
  | t => exact sqT_mono s h
theorem itV_sq {K : PySem.W.Frag} {b : Sk} {a : Addr} {vs : List V} {xs : List D} {G0 : Hp} (h1 : SqB K G0 b a vs) (h2 : RpAll K G0 vs xs) : ItV K (Sy.Itb K b a) xs G0 where
  go := fun i d G H hi sg sh => by
    have h1 := sqB_mono (sg.trans sh) h1
    have h2 := h2.mono sg
    obtain ⟨v, e1, r1⟩ := rp_get h2 hi
    cases b with
    | l =>
      refine ⟨⟨vs, v, SqL.of h1, e1⟩, fun w H' ⟨eH, hw⟩ => ?_⟩
      subst eH
      have ew := hw vs (SqL.of h1)
      rw [e1] at ew; cases ew
      exact ⟨G, .old sh r1⟩
    | s =>
      refine ⟨⟨vs, v, h1, e1⟩, fun w H' ⟨eH, hw⟩ => ?_⟩
      subst eH
      have ew := hw vs h1
      rw [e1] at ew; cases ew
      exact ⟨G, .old sh r1⟩
    | t =>
      refine ⟨⟨vs, v, h1, e1⟩, fun w H' ⟨eH, hw⟩ => ?_⟩
      subst eH
      have ew := hw vs h1
      rw [e1] at ew; cases ew
      exact ⟨G, .old sh r1⟩
  stop := fun G H sg sh => by
    have h1 := sqB_mono (sg.trans sh) h1
    have hl : vs.length ≤ xs.length := Nat.le_of_eq (rpAll_len h2)
    cases b with
    | l => exact ⟨vs, SqL.of h1, hl⟩
    | s => exact ⟨vs, h1, hl⟩
    | t => exact ⟨vs, h1, hl⟩
/-- a text, sign by sign -/
def signs (a : Str) : List D := a.cps.toList.map fun c => .str ⟨#[c]⟩
theorem itV_str {K : PySem.W.Frag} {a : Str} {G0 : Hp} : ItV K (Its a) (signs a) G0 where
  go := fun i y G H hi sg sh => by
    unfold signs at hi
    rw [List.getElem?_map] at hi
    obtain ⟨c, e, rfl⟩ := Option.map_eq_some_iff.mp hi
    have hs : a.cps[i]? = some c := by rw [← e]; simp
    refine ⟨(Array.getElem?_eq_some_iff.mp hs).1, fun w H' ⟨eH, c', h1, h2⟩ => ?_⟩
    subst eH
    rw [hs] at h1; cases h1
    rw [h2]
    exact ⟨G, .old sh (.str _)⟩
  stop := fun G H sg sh => by
    show a.cps.size ≤ _
    unfold signs
    rw [List.length_map, Array.length_toList]
    exact Nat.le_refl _
def iSeq (te : TV) : IV := fun en R => te en fun r en1 => frz r en1 fun d en2 => match strD d with
  | some a => R (signs a) en2
  | none => one? (seqD d) fun p => R p.2 en2
section
variable {X : Cx} {Ex : EX} {tg e : Expr} {te : TV} {pos : Pos}
theorem vi_seq (he : VE X Ex e te) : VI X Ex tg e (iSeq te) := ⟨fun G H σ pn en fr fp R ok tk q pins s I => by
  refine thn (he.run G H σ pn en fr fp _ ok tk q pins s I) fun v s1 ⟨x, H1, I1, r1, G1, en1, rv, fp1, st1, ok1, p1, q1⟩ => ?_
  obtain ⟨G2, fp2, en2, d, st2, ok2, rp, q2⟩ := frz_ok ok1 p1 q1
  have st := st1.trans st2
  cases e1 : strD d with
  | some a =>
    simp only [e1] at q2
    have ed : d = .str a := by cases d <;> first | (cases e1; done) | (cases e1; rfl)
    subst ed
    cases rp_str rp
    obtain ⟨t, rfl⟩ := r1
    exact Sy.iter_str I1 ⟨G2, en2, fp2, _, st, ok2, itV_str, q2⟩
  | none =>
    simp only [e1] at q2
    obtain ⟨⟨b, xs⟩, e2, q3⟩ := one_cases q2
    obtain ⟨a, vs, ev, h1, h2⟩ := seqD_ok rp e2
    subst ev
    cases r1
    exact Sy.iter_sq I1 (sqB_mono ok2.same h1) ⟨G2, en2, fp2, _, st, ok2, itV_sq h1 h2, q3⟩⟩
def rng (lo : Int) (n : Nat) : List D := (List.range n).map fun i => .int (lo + (i : Nat))
theorem itV_rng {K : PySem.W.Frag} {lo : Int} {n : Nat} {G0 : Hp} : ItV K (Itr lo n) (rng lo n) G0 where
  go := fun i y G H hi sg sh => by
    unfold rng at hi
    rw [List.getElem?_map] at hi
    obtain ⟨c, e, rfl⟩ := Option.map_eq_some_iff.mp hi
    have hl : i < n := by have := (List.getElem?_eq_some_iff.mp e).1; simpa using this
    rw [List.getElem?_range hl] at e
    cases e
    refine ⟨hl, fun w H' ⟨eH, h1⟩ => ?_⟩
    subst eH h1
    exact ⟨G, .old sh (.int _)⟩
  stop := fun G H sg sh => by
    show n ≤ _
    unfold rng
    rw [List.length_map, List.length_range]
    exact Nat.le_refl _
def rg1 (xs : List Val) (R : List D → Prop) : Prop := match xs with
  | [x] => one? x.int? fun j => Sy.sml j ∧ R (rng 0 j.toNat)
  | _ => False
def rg2 (xs : List Val) (R : List D → Prop) : Prop := match xs with
  | [x, y] => both x.int? y.int? (fun i j => Sy.sml i ∧ Sy.sml j ∧ R (rng i (j - i).toNat)) False
  | _ => False
def iRange1 (t : AV) : IV := fun en R => t en fun rs en1 => rg1 (rs.map (vof en1)) fun xs => R xs en1
def iRange2 (t : AV) : IV := fun en R => t en fun rs en1 => rg2 (rs.map (vof en1)) fun xs => R xs en1
theorem vi_range1 {a : Expr} {ta : AV} {p pos : Pos} (hg : Gl X "range") (hm : X.mg "range" = none) (ha : VA X Ex [a] ta) (hs : starEach [a] X.env = [(false, eval a X.env)] := by rfl) : VI X Ex tg (.Call (.Name "range" p) [a] [] pos) (iRange1 ta) := ⟨fun G H σ pn en fr fp R ok tk q =>
  iSemT_of (pi_range1 hg hm (pa_sem X [a]) hs) (by
    refine aSem_mono (ha.run G H σ pn en fr fp _ ok tk q) fun vs H1 ⟨G1, en1, rs, fp1, st1, ok1, p1, q1⟩ => ?_
    have hv := ok1.vals p1
    obtain ⟨f, ok2, sub, _⟩ := ok1.drops
    have q1 : rg1 (rs.map (vof en1)) fun xs => R xs en1 := q1
    generalize rs.map (vof en1) = xs at hv q1
    match xs, hv, q1 with
    | [x], hv, q1 =>
      obtain ⟨v, rfl, r2⟩ := vrl1 hv
      obtain ⟨j, e, ⟨h1, h2⟩, q2⟩ := one_cases q1
      exact ⟨j, by rw [vx_int r2 e], h1, h2, G1, en1, f, _, st1.less sub, ok2, itV_rng, q2⟩)⟩
theorem vi_range2 {a b : Expr} {ta : AV} {p pos : Pos} (hg : Gl X "range") (hm : X.mg "range" = none) (ha : VA X Ex [a, b] ta) (hs : starEach [a, b] X.env = [(false, eval a X.env), (false, eval b X.env)] := by rfl) (hs2 : starEach [b] X.env = [(false, eval b X.env)] := by rfl) :
    VI X Ex tg (.Call (.Name "range" p) [a, b] [] pos) (iRange2 ta) := ⟨fun G H σ pn en fr fp R ok tk q =>
  iSemT_of (pi_range2 hg hm (pa_sem X [a, b]) hs hs2) (by
    refine aSem_mono (ha.run G H σ pn en fr fp _ ok tk q) fun vs H1 ⟨G1, en1, rs, fp1, st1, ok1, p1, q1⟩ => ?_
    have hv := ok1.vals p1
    obtain ⟨f, ok2, sub, _⟩ := ok1.drops
    have q1 : rg2 (rs.map (vof en1)) fun xs => R xs en1 := q1
    generalize rs.map (vof en1) = xs at hv q1
    match xs, hv, q1 with
    | [x, y], hv, q1 =>
      obtain ⟨v, u, rfl, r2, r3⟩ := vrl2 hv
      rcases both_cases q1 with ⟨i, j, e1, e2, ⟨h1, h2⟩, ⟨h3, h4⟩, q2⟩ | q2
      · exact ⟨i, j, by rw [vx_int r2 e1, vx_int r3 e2], ⟨h1, h2, h3, h4⟩, G1, en1, f, _, st1.less sub, ok2, itV_rng, q2⟩
      · exact q2.elim)⟩
end
/-! ### for, while -/
/-- so it is, once some of what is owned stands still -/
inductive Wk (P : En → Prop) : En → Prop
  | now {e : En} : P e → Wk P e
  | fz {e : En} (i : Nat) {x : Val} {d : D} : e[i]? = some x → snap x = some d → Wk P (e.set i (.d d)) → Wk P e
theorem Wk.ok {K : PySem.W.Frag} {σ : L2.St} {H : Hp} {pn : List (Nat × V)} {fr : List (V × Val)} {P : En → Prop} {e : En} (w : Wk P e) : ∀ {G : Hp} {fp : List Addr}, OkV K G H σ pn e fr fp → OnB K σ G H pn fr fp P H := by
  induction w with
  | now h => exact fun ok => OnB.here ok h
  | fz i h1 h2 _ ih =>
    intro G fp ok
    obtain ⟨G', fp', st, ok', _⟩ := ok.still h1 h2
    exact OnB.from st (ih ok')
def sFor (ti : IV) (g : GV) (tb : SV) : SV := fun D en => ti en fun xs en1 => ∃ Iv : Nat → En → Prop, Wk (Iv 0) en1 ∧
  (∀ (i : Nat) (x : Sy.D) (en2 : En), xs[i]? = some x → Iv i en2 → g (.d x) en2 fun en3 => tb { D with nx := Wk (Iv (i + 1)), ct := Wk (Iv (i + 1)), bk := D.nx } en3) ∧
  ∀ en2, Iv xs.length en2 → D.nx en2
section
variable {X : Cx} {Ex : EX} {ws : List Nat} {tg iter e : Expr} {pos : Pos}
theorem vs_for {is : List Nat} {body : List Stmt} {ti : IV} {g : GV} {tb : SV} (hp : PassesOwn (model X.prog X.w) X.A X.env X.xe) (hc : X.calm = true) (hi : VI X Ex tg iter ti) (hg : VG X Ex ws tg is g) (hb : VB X Ex ws body tb)
    (hs : ∀ x, foldedSetIterable iter X.env x = pure x := by intro _; rfl) : VS X Ex ws (.For tg iter body [] pos) (sFor ti g tb) := ⟨fun G H σ pn en fr fp D ok hpn tk q => sSem_of (ps_for hp hc (pi_sem X tg iter) (pg_sem X tg) (pss_sem X body) hs) (by
  refine iSemT_mono (hi.run G H σ pn en fr fp _ ok tk q) fun J H1 ⟨G1, en1, fp1, xs, st1, ok1, iv, Iv, w0, turn, fin⟩ => ?_
  obtain ⟨G2, en2, fp2, st2, ok2, w0⟩ := w0.ok ok1
  refine ⟨fun i k σ' H' => k = xs.length - i ∧ i ≤ xs.length ∧ ∃ G3 en3 fp3, StepV G2 H1 fp2 G3 H' fp3 ∧ OkV X.K G3 H' σ' pn en3 fr fp3 ∧ Iv i en3, ⟨xs.length, by simp, Nat.zero_le _, G2, en2, fp2, StepV.refl .., ok2, w0⟩, ?_⟩
  rintro i k σ' H' ⟨rfl, hle, G3, en3, fp3, st3, ok3, w3⟩
  have st13 := (st1.trans st2).trans st3
  by_cases hlt : i < xs.length
  · obtain ⟨g1, g2⟩ := iv.go i xs[i] G3 H' (List.getElem?_eq_getElem hlt) (st2.trans st3).g ok3.same
    refine .inr ⟨g1, fun σ3 H3 => ∃ G4 en4 fp4, StepV G2 H1 fp2 G4 H3 fp4 ∧ OkV X.K G4 H3 σ3 pn en4 fr fp4 ∧ Iv (i + 1) en4, fun σ3 H3 h3 => ⟨xs.length - (i + 1), by omega, rfl, hlt, h3⟩, fun v H3 hy => ?_⟩
    obtain ⟨G4, nv⟩ := g2 v H3 hy
    obtain ⟨st4, ok4⟩ := ok3.new nv
    have st14 := st13.trans st4
    refine gSem_mono (hg.run G4 H3 σ' pn en3 fr _ v _ _ ok4 hpn (tk.step st14) (turn i xs[i] en3 (List.getElem?_eq_getElem hlt) w3)) fun σ4 H4 ⟨_, G5, en5, fp5, st5, ok5, q5⟩ => ?_
    have st15 := st14.trans st5
    have nxt : ∀ σ5 H5, OnB X.K σ5 G5 H4 pn fr fp5 (Wk (Iv (i + 1))) H5 → ∃ G4 en4 fp4, StepV G2 H1 fp2 G4 H5 fp4 ∧ OkV X.K G4 H5 σ5 pn en4 fr fp4 ∧ Iv (i + 1) en4 := fun σ5 H5 ⟨G6, en6, fp6, st6, ok6, q6⟩ => by
      obtain ⟨G7, en7, fp7, st7, ok7, q7⟩ := q6.ok ok6
      exact ⟨G7, en7, fp7, (((st3.trans st4).trans st5).trans st6).trans st7, ok7, q7⟩
    refine bSem_mono (hb.run G5 H4 σ4 pn en5 fr fp5 _ ok5 hpn (tk.step st15) q5) nxt (fun v' H5 ⟨σ5, h⟩ => ⟨σ5, OnR.from st15 h⟩) (fun σ5 H5 h => OnB.from st15 h) nxt
  · have e : i = xs.length := by omega
    subst e
    exact .inl ⟨iv.stop G3 H' (st2.trans st3).g ok3.same, G3, en3, fp3, st13, ok3, fin en3 w3⟩)⟩
def sWhile (tc : QV) (tb : SV) : SV := fun D en => ∃ Iv : Nat → En → Prop, (∃ k, Wk (Iv k) en) ∧ ∀ k en2, Iv k en2 → tc en2 fun b en3 => IfB b
    (tb { D with nx := Wk (fun e => ∃ k', k' < k ∧ Iv k' e), ct := Wk (fun e => ∃ k', k' < k ∧ Iv k' e), bk := D.nx } en3) (D.nx en3)
theorem vs_while {c : Expr} {body : List Stmt} {tc : QV} {tb : SV} (hp : PassesOwn (model X.prog X.w) X.A X.env X.xe) (hc : VT X Ex c tc) (hb : VB X Ex ws body tb) : VS X Ex ws (.While c body [] pos) (sWhile tc tb) := ⟨fun G H σ pn en fr fp D ok hpn tk q => sSem_of (ps_while hp (pt_sem X c) (pss_sem X body)) (by
  obtain ⟨Iv, ⟨k0, w0⟩, turn⟩ := q
  obtain ⟨G1, en1, fp1, st1, ok1, w0⟩ := w0.ok ok
  refine ⟨fun k σ' H' => ∃ G2 en2 fp2, StepV G1 H fp1 G2 H' fp2 ∧ OkV X.K G2 H' σ' pn en2 fr fp2 ∧ Iv k en2, ⟨k0, G1, en1, fp1, StepV.refl .., ok1, w0⟩, ?_⟩
  rintro k σ' H' ⟨G2, en2, fp2, st2, ok2, w2⟩
  have st12 := st1.trans st2
  refine qSem_mono (hc.run G2 H' σ' pn en2 fr fp2 _ ok2 (tk.step st12) (turn k en2 w2)) fun b H3 ⟨G3, en3, fp3, st3, ok3, q3⟩ => ?_
  have st13 := st12.trans st3
  cases b with
  | false => exact iteF ⟨G3, en3, fp3, st13, ok3, IfB.ff q3⟩
  | true =>
    refine iteT ⟨fun σ4 H4 => ∃ k', k' < k ∧ ∃ G2 en2 fp2, StepV G1 H fp1 G2 H4 fp2 ∧ OkV X.K G2 H4 σ4 pn en2 fr fp2 ∧ Iv k' en2, fun σ4 H4 h => h, ?_⟩
    have nxt : ∀ σ5 H5, OnB X.K σ5 G3 H3 pn fr fp3 (Wk (fun e => ∃ k', k' < k ∧ Iv k' e)) H5 → ∃ k', k' < k ∧ ∃ G2 en2 fp2, StepV G1 H fp1 G2 H5 fp2 ∧ OkV X.K G2 H5 σ5 pn en2 fr fp2 ∧ Iv k' en2 := fun σ5 H5 ⟨G5, en5, fp5, st5, ok5, q5⟩ => by
      obtain ⟨G6, en6, fp6, st6, ok6, k', hk, q6⟩ := q5.ok ok5
      exact ⟨k', hk, G6, en6, fp6, ((st2.trans st3).trans st5).trans st6, ok6, q6⟩
    refine bSem_mono (hb.run G3 H3 σ' pn en3 fr fp3 _ ok3 hpn (tk.step st13) (IfB.tt q3)) nxt (fun v' H5 ⟨σ5, h⟩ => ⟨σ5, OnR.from st13 h⟩) (fun σ5 H5 h => OnB.from st13 h) nxt)⟩
end
end Vy
namespace Vy
open PySem PySem.Spec PyProof.Rows L2
open Sy (D Rp RpAll RpK RpF tSem tSem_mono tSem_of pe_sem qSem qSem_mono qSem_of pt_sem wSem wSem_of wSem_mono pw_sem aSem aSem_mono aSem_of pa_sem sSem sSem_of sSem_mono ps_sem bSem bSem_of bSem_mono pss_sem dealK sqT_mono one? one_cases both both_cases IfB rSem rSem_of rSem_mono op_sem uSem uSem_of uSem_mono un_sem cSem cSem_of cSem_mono call_sem rp_int rp_str rp_bl rp_non rp_v rp_tup rp_lst rp_scr rp_dct Sk SqB sqB_any cutL rpAll_len rpAll_app rpAll_nil rpAll_cut cutL_whole gSem gSem_of gSem_mono pg_sem gsSem gsSem_of gsSem_mono pgs_sem Bt iSemT iSemT_of iSemT_mono pi_sem stSem stSem_of stSem_mono st_sem tsSem tsSem_mono pts_sem)
/-! ### what is changed in place -/
def lAt (r : Rv) (en : En) (k : Nat → List D → Prop) : Prop := match r with
  | .pl i => match en.getD i .no with
    | .lD ds => k i ds
    | _ => False
  | _ => False
def dAt (r : Rv) (en : En) (k : Nat → List (Key × D) → Prop) : Prop := match r with
  | .pl i => match en.getD i .no with
    | .dD ds => k i ds
    | _ => False
  | _ => False
section
variable {X : Cx} {K : PySem.W.Frag} {G H : Hp} {σ : L2.St} {pn : List (Nat × V)} {en : En} {fr rest : List (V × Val)} {fp : List Addr} {v : V} {r : Rv}
theorem lAt_cases {k : Nat → List D → Prop} (h : lAt r en k) : ∃ i ds, r = .pl i ∧ en[i]? = some (.lD ds) ∧ k i ds := by
  cases r with
  | tmp x => exact h.elim
  | pl i =>
    unfold lAt at h
    dsimp only at h
    split at h
    · rename_i ds e
      refine ⟨i, ds, rfl, ?_, h⟩
      rw [List.getD_eq_getElem?_getD] at e
      cases q : en[i]? with
      | none => rw [q] at e; cases e
      | some y => rw [q] at e; exact congrArg some e
    · exact h.elim
theorem dAt_cases {k : Nat → List (Key × D) → Prop} (h : dAt r en k) : ∃ i ds, r = .pl i ∧ en[i]? = some (.dD ds) ∧ k i ds := by
  cases r with
  | tmp x => exact h.elim
  | pl i =>
    unfold dAt at h
    dsimp only at h
    split at h
    · rename_i ds e
      refine ⟨i, ds, rfl, ?_, h⟩
      rw [List.getD_eq_getElem?_getD] at e
      cases q : en[i]? with
      | none => rw [q] at e; cases e
      | some y => rw [q] at e; exact congrArg some e
    · exact h.elim
theorem upd_other {a b : Addr} {o q : HO} (h : H b = some q) (n : b ∉ [a]) : upd H a o b = some q := by
  rw [upd_ne (fun e => n (by rw [e]; simp))]; exact h
theorem upd_domx {a : Addr} {o : HO} : ∀ b, H b ≠ none → upd H a o b ≠ none := fun b h => by
  by_cases e : b = a
  · rw [e, upd_same]; intro z; cases z
  · rw [upd_ne e]; exact h
/-- a list in a slot is set -/
theorem OkV.putL {i : Nat} {ds : List D} (ok : OkV K G H σ pn en fr fp) (hx : en[i]? = some (.lD ds)) (hv : σ[i]? = some (some v)) : ∃ a vs, v = .ref a ∧ H a = some (.lst vs) ∧ RpAll K G vs ds ∧
    ∀ vs' ds', RpAll K G vs' ds' → ∃ fp', StepV G H fp G (upd H a (.lst vs')) fp' ∧ OkV K G (upd H a (.lst vs')) σ pn (en.set i (.lD ds')) fr fp' := by
  obtain ⟨u, g, hu, r, ndg, sub, go⟩ := ok.focus hx (fun z => by cases z)
  rw [hv] at hu
  cases hu
  cases r with
  | @lD a vs _ h1 h2 =>
    have ga : G a = none := ok.out a (sub a (by simp))
    refine ⟨a, vs, rfl, h1, h2, fun vs' ds' h => go G _ (.lD ds') [a] (Same.refl G) (fun b q e => ?_) upd_domx (fun b q e n => upd_other e n) (.lD upd_same h) ndg (fun b m => .inl m) (fun b m => by rw [List.mem_singleton.mp m]; exact ga) (fun b e => .inl e)⟩
    have : b ≠ a := fun z => by rw [z, ga] at e; cases e
    rw [upd_ne this]
    exact ok.same b q e
theorem OkV.putD' {i : Nat} {ds : List (Key × D)} (ok : OkV K G H σ pn en fr fp) (hx : en[i]? = some (.dD ds)) (hv : σ[i]? = some (some v)) : ∃ a vs, v = .ref a ∧ H a = some (.dK vs) ∧ RpK K G vs ds ∧
    ∀ vs' ds', RpK K G vs' ds' → ∃ fp', StepV G H fp G (upd H a (.dK vs')) fp' ∧ OkV K G (upd H a (.dK vs')) σ pn (en.set i (.dD ds')) fr fp' := by
  obtain ⟨u, g, hu, r, ndg, sub, go⟩ := ok.focus hx (fun z => by cases z)
  rw [hv] at hu
  cases hu
  cases r with
  | @dD a vs _ h1 h2 =>
    have ga : G a = none := ok.out a (sub a (by simp))
    refine ⟨a, vs, rfl, h1, h2, fun vs' ds' h => go G _ (.dD ds') [a] (Same.refl G) (fun b q e => ?_) upd_domx (fun b q e n => upd_other e n) (.dD upd_same h) ndg (fun b m => .inl m) (fun b m => by rw [List.mem_singleton.mp m]; exact ga) (fun b e => .inl e)⟩
    have : b ≠ a := fun z => by rw [z, ga] at e; cases e
    rw [upd_ne this]
    exact ok.same b q e
theorem slot_list {i : Nat} {ds : List D} (ok : OkV K G H σ pn en fr fp) (hx : en[i]? = some (.lD ds)) (hv : σ[i]? = some (some v)) : ∃ a vs, v = .ref a ∧ SqL K H a vs := by
  obtain ⟨a, vs, e, h1, _⟩ := ok.putL hx hv
  exact ⟨a, vs, e, SqL.of h1⟩
end
section
variable {X : Cx} {Ex : EX} {ws : List Nat} {o e : Expr} {to te : TV} {apos cpos : Pos}
def eApp (to te : TV) : TV := fun en Q => to en fun r1 en1 => lAt r1 en1 fun _ _ => te en1 fun r2 en2 => frz r2 en2 fun d en3 => lAt r1 en3 fun i ds => ds.length < sizeLine ∧ setK en3 i (.lD (ds ++ [d])) fun en4 => Q (.tmp (.d .non)) en4
theorem ve_append (ho : VE X Ex o to) (ha : VE X Ex e te) (hbase : attributeBase o "append" X.env (eval o X.env) = eval o X.env := by rfl)
    (hfew : ((backTo cpos (starEach [e] X.env)).all (fun x => !x.1) && (backToKw cpos (keywordEach [] X.env)).all (fun x => x.1.isSome)
      && decide (([e] : List Expr).length + ([] : List Keyword).length + (if ([] : List Keyword).isEmpty then 0 else 1) < 30)) = true := by rfl)
    (hline : (apos.endLine == cpos.line) = true := by rfl) (hs : starEach [e] X.env = (false, eval e X.env) :: starEach [] X.env := by rfl) (hplain : (backTo cpos (starEach [] X.env)).any (·.1) = false := by rfl) :
    VE X Ex (.Call (.Attribute o "append" apos) [e] [] cpos) (eApp to te) := ⟨fun G H σ pn en fr fp Q ok tk q =>
  tSem_of (pe_bm PySem.F.plainAttrs_list PySem.F.slot_list_append PySem.F.type_list_append mt_append (pe_sem X o) (pa_cons (pe_sem X e) pa_nil hs) hbase hfew hline hs hplain) (by
    refine tSem_mono (ho.run G H σ pn en fr fp _ ok tk q) fun v H1 ⟨G1, en1, r1, fp1, st1, ok1, p1, q1⟩ => ?_
    obtain ⟨i0, ds0, rfl, hx0, q2⟩ := lAt_cases q1
    replace ok1 : OkV X.K G1 H1 σ pn en1 fr fp1 := by rw [show fr ++ tmpF v (.pl i0) = fr from List.append_nil _] at ok1; exact ok1
    obtain ⟨a0, vs0, ev, h0⟩ := slot_list ok1 hx0 p1
    subst ev
    refine ⟨.inl ⟨rfl, vs0, h0⟩, ?_⟩
    refine tSem_mono (ha.run G1 H1 σ pn en1 fr fp1 _ ok1 (tk.step st1) q2) fun u H2 ⟨G2, en2, r2, fp2, st2, ok2, p2, q3⟩ => ?_
    obtain ⟨G3, fp3, en3, d, st3, ok3, rp, q4⟩ := frz_ok ok2 p2 q3
    obtain ⟨i, ds, e1, hx, hl, q5⟩ := lAt_cases q4
    cases e1
    obtain ⟨a, vs, ev, h1, h2, put⟩ := ok3.putL hx p1
    cases ev
    obtain ⟨fp4, st4, ok4⟩ := put (vs ++ [u]) (ds ++ [d]) (rpAll_app h2 (.cons rp .nil))
    exact ⟨a0, vs, u, rfl, rfl, h1, by rw [rpAll_len h2]; exact hl, OnR.from (((st1.trans st2).trans st3).trans st4) (OnR.here ok4 .non ((setK_eq _ _ _ _).mp q5))⟩)⟩
def eExt (to te : TV) : TV := fun en Q => to en fun r1 en1 => lAt r1 en1 fun _ _ => te en1 fun r2 en2 => one? (sqv (vof en2 r2)) fun p2 => lAt r1 en2 fun i ds => p2.1 = .l ∧ ds.length + p2.2.length ≤ sizeLine ∧ setK en2 i (.lD (ds ++ p2.2)) fun en4 => Q (.tmp (.d .non)) en4
theorem ve_extend (ho : VE X Ex o to) (ha : VE X Ex e te) (hbase : attributeBase o "extend" X.env (eval o X.env) = eval o X.env := by rfl)
    (hfew : ((backTo cpos (starEach [e] X.env)).all (fun x => !x.1) && (backToKw cpos (keywordEach [] X.env)).all (fun x => x.1.isSome)
      && decide (([e] : List Expr).length + ([] : List Keyword).length + (if ([] : List Keyword).isEmpty then 0 else 1) < 30)) = true := by rfl)
    (hline : (apos.endLine == cpos.line) = true := by rfl) (hs : starEach [e] X.env = (false, eval e X.env) :: starEach [] X.env := by rfl) (hplain : (backTo cpos (starEach [] X.env)).any (·.1) = false := by rfl) :
    VE X Ex (.Call (.Attribute o "extend" apos) [e] [] cpos) (eExt to te) := ⟨fun G H σ pn en fr fp Q ok tk q =>
  tSem_of (pe_bm PySem.F.plainAttrs_list PySem.F.slot_list_extend PySem.F.type_list_extend mt_extend (pe_sem X o) (pa_cons (pe_sem X e) pa_nil hs) hbase hfew hline hs hplain) (by
    refine tSem_mono (ho.run G H σ pn en fr fp _ ok tk q) fun v H1 ⟨G1, en1, r1, fp1, st1, ok1, p1, q1⟩ => ?_
    obtain ⟨i0, ds0, rfl, hx0, q2⟩ := lAt_cases q1
    replace ok1 : OkV X.K G1 H1 σ pn en1 fr fp1 := by rw [show fr ++ tmpF v (.pl i0) = fr from List.append_nil _] at ok1; exact ok1
    obtain ⟨a0, vs0, ev, h0⟩ := slot_list ok1 hx0 p1
    subst ev
    refine ⟨.inl ⟨rfl, vs0, h0⟩, ?_⟩
    refine tSem_mono (ha.run G1 H1 σ pn en1 fr fp1 _ ok1 (tk.step st1) q2) fun u H2 ⟨G2, en2, r2, fp2, st2, ok2, p2, q3⟩ => ?_
    obtain ⟨⟨b, ys⟩, e2, q4⟩ := one_cases q3
    obtain ⟨i, ds, e1, hx, hb, hl, q5⟩ := lAt_cases q4
    cases e1
    cases hb
    have x2 := OkV.val (rest := []) (by rw [List.append_nil]; exact ok2) p2
    obtain ⟨a2, us, ev2, h3, h4⟩ := sqv_ok ok2.same x2 e2
    obtain ⟨f, ok3, sub, _⟩ := ok2.drops
    obtain ⟨a, vs, ev, h1, h2, put⟩ := ok3.putL hx p1
    cases ev
    obtain ⟨fp4, st4, ok4⟩ := put (vs ++ us) (ds ++ ys) (rpAll_app h2 h4)
    exact ⟨a0, a2, vs, us, rfl, by rw [ev2], h1, h3, by rw [rpAll_len h2, rpAll_len h4]; exact hl, OnR.from (((st1.trans st2).less sub).trans st4) (OnR.here ok4 .non ((setK_eq _ _ _ _).mp q5))⟩)⟩
def ePop (to : TV) : TV := fun en Q => to en fun r1 en1 => lAt r1 en1 fun i ds => one? (ds[ds.length - 1]?) fun d => setK en1 i (.lD ds.dropLast) fun en4 => Q (.tmp (.d d)) en4
theorem rpAll_dropLast {K : PySem.W.Frag} {G : Hp} {a : List V} {b : List D} (h : RpAll K G a b) : RpAll K G a.dropLast b.dropLast := by
  rw [List.dropLast_eq_take, List.dropLast_eq_take, rpAll_len h]
  exact Sy.rpAll_take _ h
theorem ve_pop (ho : VE X Ex o to) (hbase : attributeBase o "pop" X.env (eval o X.env) = eval o X.env := by rfl) (hline : (apos.endLine == cpos.line) = true := by rfl) :
    VE X Ex (.Call (.Attribute o "pop" apos) [] [] cpos) (ePop to) := ⟨fun G H σ pn en fr fp Q ok tk q =>
  tSem_of (pe_bm0 PySem.F.plainAttrs_list PySem.F.slot_list_pop PySem.F.type_list_pop mt_pop (pe_sem X o) hbase hline) (by
    refine tSem_mono (ho.run G H σ pn en fr fp _ ok tk q) fun v H1 ⟨G1, en1, r1, fp1, st1, ok1, p1, q1⟩ => ?_
    obtain ⟨i, ds, rfl, hx, q2⟩ := lAt_cases q1
    obtain ⟨d, e2, q3⟩ := one_cases q2
    replace ok1 : OkV X.K G1 H1 σ pn en1 fr fp1 := by rw [show fr ++ tmpF v (.pl i) = fr from List.append_nil _] at ok1; exact ok1
    obtain ⟨a, vs, ev, h1, h2, put⟩ := ok1.putL hx p1
    subst ev
    obtain ⟨w, e3, r3⟩ := rp_get h2 e2
    obtain ⟨fp4, st4, ok4⟩ := put vs.dropLast ds.dropLast (rpAll_dropLast h2)
    exact ⟨.inl ⟨rfl, vs, SqL.of h1⟩, a, vs, w, rfl, rfl, h1, by rw [rpAll_len h2]; exact e3, OnR.from (st1.trans st4) (OnR.here ok4 r3 ((setK_eq _ _ _ _).mp q3))⟩)⟩
/-! ### xs[i] = e, d[k] = e -/
def putKD (kvs : List (Key × D)) (k : Key) (x : D) : List (Key × D) :=
  if (kvs.any fun kv => decide (kv.1 = k)) = true then kvs.map fun kv => if kv.1 = k then (kv.1, x) else kv else kvs ++ [(k, x)]
theorem rpk_any {K : PySem.W.Frag} {G : Hp} (k : Key) : ∀ {vs : List (Key × V)} {xs : List (Key × D)}, RpK K G vs xs → (vs.any fun kv => decide (kv.1 = k)) = (xs.any fun kv => decide (kv.1 = k))
  | _, _, .nil => rfl
  | _, _, .cons h r => by rw [List.any_cons, List.any_cons, rpk_any k r]
theorem rpk_map {K : PySem.W.Frag} {G : Hp} {v : V} {x : D} (k : Key) (q : Rp K G v x) : ∀ {vs : List (Key × V)} {xs : List (Key × D)}, RpK K G vs xs → RpK K G (vs.map fun kv => if kv.1 = k then (kv.1, v) else kv) (xs.map fun kv => if kv.1 = k then (kv.1, x) else kv)
  | _, _, .nil => .nil
  | (k1, w) :: vs, (_, y) :: xs, .cons h r => by
    rw [List.map_cons, List.map_cons]
    by_cases e : k1 = k
    · rw [if_pos e, if_pos e]; exact .cons q (rpk_map k q r)
    · rw [if_neg e, if_neg e]; exact .cons h (rpk_map k q r)
theorem rpk_app {K : PySem.W.Frag} {G : Hp} : ∀ {a c : List (Key × V)} {b d : List (Key × D)}, RpK K G a b → RpK K G c d → RpK K G (a ++ c) (b ++ d)
  | _, _, _, _, .nil, h => h
  | _, _, _, _, .cons r t, h => .cons r (rpk_app t h)
theorem rpk_put {K : PySem.W.Frag} {G : Hp} {v : V} {x : D} {vs : List (Key × V)} {xs : List (Key × D)} (h : RpK K G vs xs) (k : Key) (r : Rp K G v x) : RpK K G (putK vs k v) (putKD xs k x) := by
  unfold putK putKD
  rw [rpk_any k h]
  split
  · exact rpk_map k r h
  · exact rpk_app h (.cons r .nil)
theorem rpAll_set {K : PySem.W.Frag} {G : Hp} {v : V} {x : D} (h : Rp K G v x) : ∀ {a : List V} {b : List D} (j : Nat), RpAll K G a b → RpAll K G (a.set j v) (b.set j x)
  | _, _, _, .nil => .nil
  | _, _, 0, .cons r t => .cons h t
  | _, _, j + 1, .cons r t => .cons r (rpAll_set h j t)
/-- stored: what is at the place i of env -/
inductive SetAt (r1 : Rv) (k : Val) (d : D) (en : En) (Q : En → Prop) : Prop
  | di : (dAt r1 en fun i kvs => one? (keyV k) fun key => kvs.length < sizeLine ∧ setK en i (.dD (putKD kvs key d)) Q) → SetAt r1 k d en Q
  | ls : (lAt r1 en fun i ds => one? k.int? fun j => one? (ixN ds.length j) fun n => setK en i (.lD (ds.set n d)) Q) → SetAt r1 k d en Q
def gSub (to ti : TV) : GV := fun x en Q => one? (snap x) fun d => to en fun r1 en1 => ti en1 fun r2 en2 => SetAt r1 (vof en2 r2) d en2 Q
theorem vg_sub {o i : Expr} {to ti : TV} {pos : Pos} (hu : X.A.units + 1 < cLine) (ho : VE X Ex o to) (hi : VE X Ex i ti)
    (ha : ∀ v, assign (.Subscript o i pos) X.env v = (do
      let ov ← holding [v] (eval o X.env)
      let iv ← holding [v, ov] (eval i X.env)
      standAt pos
      holding [v, ov, iv] (setItem ov iv v)
      release [v, ov, iv] []) := by intro _; rfl) : VG X Ex ws (.Subscript o i pos) [] (gSub to ti) := ⟨fun G H σ pn en fr fp v x Q ok hp tk q => gSem_of (pg_sub (pe_sem X o) (pe_sem X i) (st_sem X) ha) (by
  obtain ⟨d, e1, q1⟩ := one_cases q
  obtain ⟨G0, fp0, st0, ok0⟩ := OkV.stillF (rest := []) ok e1
  have rv0 := vrx_d (OkV.frameV (rest := []) ok0)
  obtain ⟨f, ok0', sub0, _⟩ := ok0.drops
  have st0' := st0.less sub0
  refine tSem_mono (ho.run G0 H σ pn en fr f _ ok0' (tk.step st0') q1) fun ov H1 ⟨G1, en1, r1, fp1, st1, ok1, p1, q2⟩ => ?_
  refine tSem_mono (hi.run G1 H1 σ pn en1 _ fp1 _ ok1 (tk.step (st0'.trans st1)).push q2) fun iv H2 ⟨G2, en2, r2, fp2, st2, ok2, p2, q3⟩ => ?_
  have x2 := OkV.val (rest := []) (by rw [List.append_nil]; exact ok2) p2
  have st := (st0'.trans st1).trans st2
  have rv2 := rv0.mono (st1.trans st2).g
  rw [List.append_assoc] at ok2
  obtain ⟨f2, ok3, sub, _⟩ := ok2.drops
  cases q3 with
  | di q3 =>
    obtain ⟨j, kvs, e, hx, q4⟩ := dAt_cases q3
    subst e
    obtain ⟨key, e2, hl, q5⟩ := one_cases q4
    obtain ⟨a, vs, rfl, h1, h2, put⟩ := ok3.putD' hx p1
    have ei := keyV_ok x2 e2
    refine stSem_of (set_dict hu) ⟨a, _, rfl, by rw [ei]; exact DPut.k h1 (by rw [rpK_len h2]; exact hl), Bt.refl _ _, ?_⟩
    obtain ⟨fp4, st4, ok4⟩ := put (putK vs key v) (putKD kvs key d) (rpk_put h2 _ rv2)
    exact OnB.from ((st.less sub).trans st4) (OnB.here ok4 ((setK_eq _ _ _ _).mp q5))
  | ls q3 =>
    obtain ⟨j, ds, e, hx, q4⟩ := lAt_cases q3
    subst e
    obtain ⟨n, e2, q5⟩ := one_cases q4
    obtain ⟨m, e3, q6⟩ := one_cases q5
    obtain ⟨a, vs, rfl, h1, h2, put⟩ := ok3.putL hx p1
    refine stSem_of set_list ⟨a, vs, n, m, rfl, vx_int x2 e2, h1, by rw [rpAll_len h2]; exact e3, Bt.refl _ _, ?_⟩
    obtain ⟨fp4, st4, ok4⟩ := put (vs.set m v) (ds.set m d) (rpAll_set rv2 m h2)
    exact OnB.from ((st.less sub).trans st4) (OnB.here ok4 ((setK_eq _ _ _ _).mp q6)))⟩
/-! ### name += e of numbers -/
abbrev IpV (X : Cx) (op : Operator) (o : OV2) := OpV X (inplaceOp op) o
def sAug (i : Nat) (te : TV) (o : OV2) : SV := fun D en => one? (en[i]?.bind dOf) fun d => te en fun r en1 => o (.d d) (vof en1 r) fun z => setK en1 i z D.nx
theorem vs_aug {i : Nat} {y : Str} {op : Operator} {o : OV2} {pos pos' : Pos} (hN : X.N.Nodup) (hi : X.N[i]? = some y) (hx : Loc X.env.scope y) (hw : ws.contains i = false) (he : VE X Ex e te) (ho : IpV X op o) (hf : X.fn y = true ∨ X.env.scope.names.lookup y = some .local := by first | exact .inl rfl | exact .inr rfl | assumption) :
    VS X Ex ws (.AugAssign (.Name y pos') op e pos) (sAug i te o) := ⟨fun G H σ pn en fr fp D ok hp tk q => sSem_of (ps_aug hN hi hx (pe_sem X e) (op_sem X _) hf) (by
  obtain ⟨d, e1, q1⟩ := one_cases q
  obtain ⟨x, e2, e3⟩ := Option.bind_eq_some_iff.mp e1
  have hxd : x = .d d := by cases x <;> first | (cases e3; done) | (cases e3; rfl)
  subst hxd
  obtain ⟨v, g, hv, r, _⟩ := ok.focus e2 (fun z => by cases z)
  have rp : Rp X.K G v d := by cases r with | d r => exact r
  refine ⟨v, hv, tSem_mono (he.run G H σ pn en fr fp _ ok tk q1) fun w H1 ⟨G1, en1, r1, fp1, st1, ok1, p1, q2⟩ => ?_⟩
  have x2 := OkV.val (rest := []) (by rw [List.append_nil]; exact ok1) p1
  refine rSem_mono (fun z H2 ⟨zv, G2, gz, n, q3⟩ => ?_) (ho.run G1 H1 v w (.d d) _ _ ok1.same ⟨[], .d (rp.mono st1.g)⟩ x2 q2)
  obtain ⟨f, ok2, sub, _⟩ := ok1.drops
  obtain ⟨st3, ok3⟩ := ok2.new n
  obtain ⟨fp4, st4, ok4⟩ := ok3.asg (i := i) (fun p m z => by
    have := hp p m
    rw [z] at this
    rw [List.contains_iff_mem.mpr this] at hw
    cases hw)
  exact ⟨G2, _, fp4, ((st1.less sub).trans st3).trans st4, ok4, (setK_eq _ _ _ _).mp q3⟩)⟩
theorem iv_add : IpV X .Add (oInt (fun _ _ => True) fun i j => .int (i + j)) := ⟨fun G H v u x y Q s r1 r2 q => by
  rcases both_cases q with ⟨i, j, e1, e2, q⟩ | q
  · exact rSem_of ip_add ⟨i, j, vx_int r1 e1, vx_int r2 e2, .old s (.int _) q.2⟩
  · exact q.elim⟩
theorem iv_sub : IpV X .Sub (oInt (fun _ _ => True) fun i j => .int (i - j)) := ⟨fun G H v u x y Q s r1 r2 q => by
  rcases both_cases q with ⟨i, j, e1, e2, q⟩ | q
  · exact rSem_of ip_sub ⟨i, j, vx_int r1 e1, vx_int r2 e2, .old s (.int _) q.2⟩
  · exact q.elim⟩
end
/-! ### the frames' last -/
section
variable {K : PySem.W.Frag} {G H : Hp} {σ : L2.St} {pn : List (Nat × V)} {en : En} {fr : List (V × Val)} {fp : List Addr}
theorem OkV.top {a : Addr} {x x' : Val} {o : HO} (ok : OkV K G H σ pn en (fr ++ [(.ref a, x)]) fp) (hx : ∀ g, VR K G H (.ref a) x g → g = [a]) (r : VR K G (upd H a o) (.ref a) x' [a]) :
    StepV G H fp G (upd H a o) fp ∧ OkV K G (upd H a o) σ pn en (fr ++ [(.ref a, x')]) fp := by
  obtain ⟨f, g, e, ok1, r1⟩ := ok.drop
  have eg := hx g r1
  subst eg e
  have ga : G a = none := ok.out a (by simp)
  have nd := List.nodup_append.mp ok.nd
  have na : a ∉ f := fun m => nd.2.2 a m a (by simp) rfl
  have k : Kept H (upd H a o) f := fun b q hb m => by rw [upd_ne (fun z => na (by rw [← z]; exact m))]; exact hb
  obtain ⟨ve, hl, hs, r0⟩ := ok1.rel
  refine ⟨⟨Same.refl G, upd_domx, fun b q hb n => by rw [upd_ne (fun z => n (by rw [z]; simp))]; exact hb, fun b m => .inl m, fun b h => .inl h⟩, ?_, ⟨ve, hl, hs, ?_⟩, ok1.el, ok.nd, ok.out, ok1.pin⟩
  · intro b q hb
    rw [upd_ne (fun z => by rw [z, ga] at hb; cases hb)]
    exact ok.same b q hb
  · rw [List.map_append, List.map_append, ← List.append_assoc, ← List.append_assoc]
    exact (r0.frame (Same.refl G) k).app (VRs.one r)
theorem lD_fp {a : Addr} {ds : List D} : ∀ g, VR K G H (.ref a) (.lD ds) g → g = [a] := fun g h => by cases h; rfl
theorem dD_fp {a : Addr} {ds : List (Key × D)} : ∀ g, VR K G H (.ref a) (.dD ds) g → g = [a] := fun g h => by cases h; rfl
end
/-! ### dicts written out -/
abbrev PrV := En → (List (D × D) → En → Prop) → Prop
abbrev RpP (K : PySem.W.Frag) (G : Hp) : List (V × V) → List (D × D) → Prop := Paired fun p q => Rp K G p.1 q.1 ∧ Rp K G p.2 q.2
structure VPs (X : Cx) (Ex : EX) (pos : Pos) (keys : List (Option Expr)) (values : List Expr) (t : PrV) : Prop where
  run : ∃ trs, PPs X pos keys values trs ∧ (∀ (σ : L2.St) (H : Hp) (Q Q' : List (V × V) → Hp → Prop), tPairs trs σ H Q → (∀ ps H', Q ps H' → Q' ps H') → tPairs trs σ H Q') ∧
    ∀ (G H : Hp) (σ : L2.St) (pn : List (Nat × V)) (en : En) (fr : List (V × Val)) (fp : List Addr) (Q : List (D × D) → En → Prop), OkV X.K G H σ pn en fr fp → Tk X pn fr Ex G H fp → t en Q → tPairs trs σ H (fun ps H' => ∃ G' en' fp' xs, StepV G H fp G' H' fp' ∧ OkV X.K G' H' σ pn en' fr fp' ∧ RpP X.K G' ps xs ∧ Q xs en')
def prN : PrV := fun en Q => Q [] en
def prC (tk tv : TV) (tr : PrV) : PrV := fun en Q => tk en fun r1 en1 => frz r1 en1 fun d1 en2 => tv en2 fun r2 en3 => frz r2 en3 fun d2 en4 => tr en4 fun ps en5 => Q ((d1, d2) :: ps) en5
section
variable {X : Cx} {Ex : EX} {pos : Pos}
theorem vps_nil : VPs X Ex pos [] [] prN := ⟨[], pps_nil, fun σ H Q Q' h k => k _ _ h, fun G H σ pn en fr fp Q ok tk q => ⟨G, en, fp, [], StepV.refl .., ok, .nil, q⟩⟩
theorem vps_cons {k v : Expr} {ks : List (Option Expr)} {vs : List Expr} {tk tv : TV} {tr : PrV} (hk : VE X Ex k tk) (hv : VE X Ex v tv) (hr : VPs X Ex pos ks vs tr) : VPs X Ex pos (some k :: ks) (v :: vs) (prC tk tv tr) := by
  obtain ⟨trs, h1, h2, h3⟩ := hr
  refine ⟨(tSem X k, tSem X v) :: trs, pps_cons (pe_sem X k) (pe_sem X v) h1, fun σ H Q Q' h kk => ?_, fun G H σ pn en fr fp Q ok tk q => ?_⟩
  · exact tSem_mono h fun _ _ h => tSem_mono h fun _ _ h => h2 _ _ _ _ h fun _ _ h => kk _ _ h
  · refine tSem_mono (hk.run G H σ pn en fr fp _ ok tk q) fun x H1 ⟨G1, en1, r1, fp1, st1, ok1, p1, q1⟩ => ?_
    obtain ⟨G2, fp2, en2, d1, st2, ok2, rp1, q2⟩ := frz_ok ok1 p1 q1
    refine tSem_mono (hv.run G2 H1 σ pn en2 fr fp2 _ ok2 (tk.step (st1.trans st2)) q2) fun y H2 ⟨G3, en3, r3, fp3, st3, ok3, p3, q3⟩ => ?_
    obtain ⟨G4, fp4, en4, d2, st4, ok4, rp2, q4⟩ := frz_ok ok3 p3 q3
    have st := ((st1.trans st2).trans st3).trans st4
    refine h2 _ _ _ _ (h3 G4 H2 σ pn en4 fr fp4 _ ok4 (tk.step st) q4) fun ps H3 ⟨G5, en5, fp5, xs, st5, ok5, rp5, q5⟩ => ?_
    exact ⟨G5, en5, fp5, (d1, d2) :: xs, st.trans st5, ok5, .cons ⟨rp1.mono (st3.g.trans (st4.g.trans st5.g)), rp2.mono st5.g⟩ rp5, q5⟩
def keysD : List (D × D) → Option (List (Key × D))
  | [] => some []
  | (k, x) :: r => match Sy.keyD k, keysD r with
    | some k, some r => some ((k, x) :: r)
    | _, _ => none
theorem ve_dict0 : VE X Ex (.Dict [] [] pos) (fun en Q => Q (.tmp (.dD [])) en) := ⟨fun G H σ pn en fr fp Q ok tk q => tSem_of pe_dnewK fun p hp => OnR.new (rest := []) (by rw [List.append_nil]; exact ok) (.alloc ok.same hp (.dD upd_same .nil)) q⟩
theorem keysD_ok {K : PySem.W.Frag} {G : Hp} : ∀ {ps : List (V × V)} {xs : List (D × D)} {kvs : List (Key × D)}, RpP K G ps xs → keysD xs = some kvs → ∃ us : List (Key × V), ps = us.map (fun kv => (kV kv.1, kv.2)) ∧ RpK K G us kvs
  | _, _, kvs, .nil, h => by cases h; exact ⟨[], rfl, .nil⟩
  | (a, b) :: ps, (k, x) :: xs, kvs, .cons h r, e => by
    unfold keysD at e
    cases e1 : Sy.keyD k with
    | none => rw [e1] at e; cases e
    | some k' =>
      cases e2 : keysD xs with
      | none => rw [e1, e2] at e; cases e
      | some r' =>
        rw [e1, e2] at e
        cases e
        obtain ⟨us, rfl, ru⟩ := keysD_ok r e2
        have ea : a = kV k' := Sy.keyD_ok h.1 e1
        exact ⟨(k', b) :: us, by rw [ea]; rfl, .cons h.2 ru⟩
def mergeD (kvs more : List (Key × D)) : List (Key × D) := more.foldl (fun acc kv => putKD acc kv.1 kv.2) kvs
theorem rpk_merge {K : PySem.W.Frag} {G : Hp} : ∀ {more : List (Key × V)} {xs : List (Key × D)} {vs : List (Key × V)} {ys : List (Key × D)}, RpK K G more xs → RpK K G vs ys → RpK K G (mergeK vs more) (mergeD ys xs)
  | [], [], _, _, .nil, h => h
  | (k, v) :: us, (_, x) :: xs, vs, ys, .cons r t, h => rpk_merge (more := us) (xs := xs) (vs := putK vs k v) (ys := putKD ys k x) t (rpk_put h k r)
def eDisp (t : PrV) : TV := fun en Q => t en fun ps en1 => one? (keysD ps) fun kvs => kvs.length ≤ 15 ∧ Q (.tmp (.dD (mergeD [] kvs))) en1
theorem ve_disp {keys : List (Option Expr)} {values : List Expr} {t : PrV} (h : VPs X Ex pos keys values t) (hall : keys.all (·.isSome) = true) (hl : keys.length = values.length) (h0 : keys ≠ []) (h15 : keys.length ≤ 15) : VE X Ex (.Dict keys values pos) (eDisp t) := by
  obtain ⟨trs, h1, h2, h3⟩ := h
  refine ⟨fun G H σ pn en fr fp Q ok tk q => tSem_of (pe_disp h1 hall hl h0 h15) fun p hp => ?_⟩
  obtain ⟨st0, ok0⟩ := ok.new (.alloc (x := .dD []) (o := .dK []) ok.same hp (.dD upd_same .nil))
  refine h2 _ _ _ _ (h3 G _ σ pn en _ _ _ ok0 (tk.step st0).push q) fun ps H2 ⟨G2, en2, fp2, xs, st2, ok2, rp, q2⟩ => ?_
  obtain ⟨kvs, e1, hn, q3⟩ := one_cases q2
  obtain ⟨us, rfl, ru⟩ := keysD_ok rp e1
  have hH : H2 p = some (.dK []) := by
    obtain ⟨g, r⟩ := OkV.frameV (rest := []) ok2
    cases r with
    | dD z t => cases t; exact z
  refine ⟨hH, us, rfl, by rw [rpK_len ru]; exact hn, ?_⟩
  obtain ⟨st3, ok3⟩ := ok2.top (x' := .dD (mergeD [] kvs)) (o := .dK (mergeK [] us)) dD_fp (.dD upd_same (rpk_merge ru .nil))
  exact ⟨G2, en2, .tmp _, fp2, (st0.trans st2).trans st3, ok3, trivial, q3⟩
end
end Vy
namespace Vy
open PySem PySem.Spec PyProof.Rows L2
open Sy (D Rp RpAll RpK RpF tSem tSem_mono tSem_of pe_sem qSem qSem_mono qSem_of pt_sem wSem wSem_of wSem_mono pw_sem aSem aSem_mono aSem_of pa_sem sSem sSem_of sSem_mono ps_sem bSem bSem_of bSem_mono pss_sem dealK sqT_mono one? one_cases both both_cases IfB rSem rSem_of rSem_mono op_sem uSem uSem_of uSem_mono un_sem cSem cSem_of cSem_mono call_sem rp_int rp_str rp_bl rp_non rp_v rp_tup rp_lst rp_scr rp_dct Sk SqB sqB_any cutL rpAll_len rpAll_app rpAll_nil rpAll_cut cutL_whole gSem gSem_of gSem_mono pg_sem gsSem gsSem_of gsSem_mono pgs_sem Bt iSemT iSemT_of iSemT_mono pi_sem tsSem tsSem_mono pts_sem)
/-! ### a comprehension's own names -/
def wipeV (en : En) : List Nat → En
  | [] => en
  | i :: r => (wipeV en r).set i .no
def backV (en1 en : En) : List Nat → En
  | [] => en
  | i :: r => match en1[i]? with
    | some (.d x) => (backV en1 en r).set i (.d x)
    | _ => (backV en1 en r).set i .no
section
variable {K : PySem.W.Frag} {G H : Hp} {σ σ' : L2.St} {pn : List (Nat × V)} {en : En} {fr : List (V × Val)} {fp : List Addr}
theorem OkV.forget (ok : OkV K G H σ pn en fr fp) (i : Nat) : ∃ fp', (∀ a ∈ fp', a ∈ fp) ∧ OkV K G H σ pn (en.set i .no) fr fp' := by
  by_cases hlt : i < en.length
  · obtain ⟨ve, hl, hs, r⟩ := ok.rel
    have hx : (en ++ fr.map (·.2))[i]? = some en[i] := by rw [List.getElem?_append_left hlt]; exact List.getElem?_eq_getElem hlt
    obtain ⟨u, f1, f2, f3, hv, ef, r1, r2, r3⟩ := VRs.at r hx
    subst ef
    have nd := List.nodup_append.mp ok.nd
    have nd2 := List.nodup_append.mp nd.2.1
    refine ⟨f1 ++ f3, fun a m => ?_, ok.same, ⟨ve, by rw [List.length_set]; exact hl, fun j w y hw hy => ?_, ?_⟩, by rw [List.length_set]; exact ok.el, ?_, fun a m => ok.out a ?_, ok.pin⟩
    · rcases List.mem_append.mp m with q | q <;> simp [q]
    · by_cases e : i = j
      · subst e
        rw [List.getElem?_set_self hlt] at hy
        cases hy
        exact .inl rfl
      · rw [List.getElem?_set_ne e] at hy
        exact hs j w y hw hy
    · have e1 : en.set i .no ++ fr.map (·.2) = (en ++ fr.map (·.2)).set i .no := by rw [List.set_append_left _ _ hlt]
      rw [e1, set_take (by rw [List.length_append]; omega), take_mid hv]
      exact r2.app (.cons (.no u) r3)
    · rw [List.nodup_append]
      exact ⟨nd.1, nd2.2.1, fun a m b n => nd.2.2 a m b (List.mem_append_right _ n)⟩
    · rcases List.mem_append.mp m with q | q <;> simp [q]
  · rw [show en.set i .no = en from List.set_eq_of_length_le (by omega)]
    exact ⟨fp, fun a m => m, ok⟩
theorem OkV.wipe (ok : OkV K G H σ pn en fr fp) : ∀ (own : List Nat), ∃ fp', (∀ a ∈ fp', a ∈ fp) ∧ OkV K G H σ pn (wipeV en own) fr fp'
  | [] => ⟨fp, fun a m => m, ok⟩
  | i :: r => by
    obtain ⟨f1, s1, ok1⟩ := ok.wipe r
    obtain ⟨f2, s2, ok2⟩ := ok1.forget i
    exact ⟨f2, fun a m => s1 a (s2 a m), ok2⟩
/-- other names, that agree where something is known -/
theorem OkV.other (ok : OkV K G H σ pn en fr fp) (hl : en.length ≤ σ'.length) (h : ∀ (i : Nat) (x : Val), en[i]? = some x → x ≠ .no → σ'[i]? = σ[i]?) (hp : ∀ (i : Nat) (v : V), (i, v) ∈ pn → σ'[i]? = some (some v)) : OkV K G H σ' pn en fr fp := by
  obtain ⟨ve, hl1, hs, r⟩ := ok.rel
  refine ⟨ok.same, ⟨ve, hl1, fun i v x hv hx => ?_, r⟩, hl, ok.nd, ok.out, hp⟩
  by_cases e : x = .no
  · exact .inl e
  · exact .inr (by rw [h i x hx e]; exact (hs i v x hv hx).resolve_left e)
theorem OkV.data (ok : OkV K G H σ pn en fr fp) {i : Nat} {v : V} {d : D} (hv : σ[i]? = some (some v)) (r : Rp K G v d) (hn : en[i]? = some .no ∨ en[i]? = none) : OkV K G H σ pn (en.set i (.d d)) fr fp := by
  by_cases hlt : i < en.length
  · obtain ⟨ve, hl, hs, r0⟩ := ok.rel
    have hx : (en ++ fr.map (·.2))[i]? = some en[i] := by rw [List.getElem?_append_left hlt]; exact List.getElem?_eq_getElem hlt
    have hno : en[i] = .no := by
      rcases hn with q | q
      · rw [List.getElem?_eq_getElem hlt] at q; exact Option.some.inj q
      · rw [List.getElem?_eq_getElem hlt] at q; cases q
    obtain ⟨u, f1, f2, f3, hu, ef, r1, r2, r3⟩ := VRs.at r0 hx
    rw [hno] at r1
    have e2 : f2 = [] := by cases r1; rfl
    subst e2 ef
    refine ⟨ok.same, ⟨ve.set i v, by rw [List.length_set, List.length_set]; exact hl, fun j w y hw hy => ?_, ?_⟩, by rw [List.length_set]; exact ok.el, ok.nd, ok.out, ok.pin⟩
    · by_cases e : i = j
      · subst e
        rw [List.getElem?_set_self (by omega)] at hw
        cases hw
        exact .inr hv
      · rw [List.getElem?_set_ne e] at hw hy
        exact hs j w y hw hy
    · have e1 : en.set i (.d d) ++ fr.map (·.2) = (en ++ fr.map (·.2)).set i (.d d) := by rw [List.set_append_left _ _ hlt]
      have e2 : ve.set i v ++ fr.map (·.1) = (ve ++ fr.map (·.1)).set i v := by rw [List.set_append_left _ _ (by omega)]
      rw [e1, e2, set_take (by rw [List.length_append]; omega), set_take (by rw [List.length_append]; omega)]
      exact r2.app (.cons (.d r) r3)
  · rw [show en.set i (.d d) = en from List.set_eq_of_length_le (by omega)]
    exact ok
theorem wipeV_in {en : En} {i : Nat} : ∀ {own : List Nat}, i ∈ own → (wipeV en own)[i]? = some .no ∨ (wipeV en own)[i]? = none
  | j :: r, h => by
    unfold wipeV
    by_cases e : j = i
    · subst e
      by_cases hl : j < (wipeV en r).length
      · exact .inl (List.getElem?_set_self hl)
      · exact .inr (by rw [List.getElem?_eq_none]; rw [List.length_set]; omega)
    · rw [List.getElem?_set_ne e]
      rcases List.mem_cons.mp h with z | z
      · exact absurd z.symm e
      · exact wipeV_in z
theorem wipeV_len {en : En} : ∀ {own : List Nat}, (wipeV en own).length = en.length
  | [] => rfl
  | i :: r => by unfold wipeV; rw [List.length_set, wipeV_len]
theorem wipe_no {en : En} {own : List Nat} {j : Nat} {x : Val} (h : (wipeV en own)[j]? = some x) (hn : x ≠ .no) : j ∉ own := fun m => by
  rcases wipeV_in (en := en) m with z | z
  · rw [z] at h; exact hn (by cases h; rfl)
  · rw [z] at h; cases h
theorem OkV.repin {pn' : List (Nat × V)} (ok : OkV K G H σ pn' en fr fp) (h : ∀ (i : Nat) (v : V), (i, v) ∈ pn → σ[i]? = some (some v)) : OkV K G H σ pn en fr fp := ⟨ok.same, ok.rel, ok.el, ok.nd, ok.out, h⟩
/-- the names as they were, and what they held if it stands still -/
theorem OkV.back {en1 : En} {own : List Nat} {G1 H1 : Hp} {fp1 : List Addr} {fr1 : List (V × Val)} {pn' : List (Nat × V)} (ok1 : OkV K G1 H1 σ pn en1 fr1 fp1) (sg : Same G1 G) (ok : OkV K G H σ' pn' en fr fp) (hel : en.length ≤ σ.length)
    (h : ∀ i, i ∉ own → σ'[i]? = σ[i]?) : ∃ fp', (∀ a ∈ fp', a ∈ fp) ∧ OkV K G H σ pn (backV en1 en own) fr fp' := by
  obtain ⟨f, sub, ok2⟩ := ok.wipe own
  have ok3 : OkV K G H σ pn (wipeV en own) fr f := ((ok2.repin (pn := []) (fun _ _ m => nomatch m)).other (by rw [wipeV_len]; exact hel) (fun i x hx hn => (h i (wipe_no hx hn)).symm) (fun _ _ m => nomatch m)).repin ok1.pin
  have step : ∀ (r : List Nat) (e : En), (∀ i ∈ r, e[i]? = some .no ∨ e[i]? = none) → OkV K G H σ pn e fr f → OkV K G H σ pn (backV en1 e r) fr f ∧ (∀ i, (e[i]? = some .no ∨ e[i]? = none) → i ∉ r → ((backV en1 e r)[i]? = some .no ∨ (backV en1 e r)[i]? = none)) := by
    intro r
    induction r with
    | nil => exact fun e _ ok => ⟨ok, fun i h _ => h⟩
    | cons i r ih =>
      intro e hno ok
      obtain ⟨ok', hk⟩ := ih e (fun j m => hno j (List.mem_cons_of_mem _ m)) ok
      have noset : ∀ (y : Val) (j : Nat), (e[j]? = some .no ∨ e[j]? = none) → j ∉ i :: r → (((backV en1 e r).set i y)[j]? = some .no ∨ ((backV en1 e r).set i y)[j]? = none) := fun y j hj hm => by
        have h1 : i ≠ j := fun z => hm (by simp [z])
        rw [List.getElem?_set_ne h1]
        exact hk j hj fun z => hm (List.mem_cons_of_mem _ z)
      have noCase : OkV K G H σ pn ((backV en1 e r).set i .no) fr f := by
        by_cases hm : i ∈ r
        · obtain ⟨ve, hl, hs, r0⟩ := ok'.rel
          -- forget keeps the footprint only when it is data; data has none
          obtain ⟨f', s', ok''⟩ := ok'.forget i
          have : VRs K G H (ve ++ fr.map (·.1)) ((backV en1 e r).set i .no ++ fr.map (·.2)) f := by
            by_cases hlt : i < (backV en1 e r).length
            · have hx : ((backV en1 e r) ++ fr.map (·.2))[i]? = some (backV en1 e r)[i] := by rw [List.getElem?_append_left hlt]; exact List.getElem?_eq_getElem hlt
              obtain ⟨u, f1, f2, f3, hv, ef, r1, r2, r3⟩ := VRs.at r0 hx
              have hd : f2 = [] := by
                have shape : ∀ (q : List Nat), i ∈ q → ∀ x, (backV en1 e q)[i]? = some x → x = .no ∨ ∃ d, x = .d d := by
                  intro q
                  induction q with
                  | nil => intro m; cases m
                  | cons j q ihq =>
                    intro m x hx
                    unfold backV at hx
                    by_cases ej : j = i
                    · subst ej
                      split at hx
                      · by_cases hl2 : j < (backV en1 e q).length
                        · rw [List.getElem?_set_self hl2] at hx; cases hx; exact .inr ⟨_, rfl⟩
                        · rw [List.getElem?_eq_none (by rw [List.length_set]; omega)] at hx; cases hx
                      · by_cases hl2 : j < (backV en1 e q).length
                        · rw [List.getElem?_set_self hl2] at hx; cases hx; exact .inl rfl
                        · rw [List.getElem?_eq_none (by rw [List.length_set]; omega)] at hx; cases hx
                    · have m' : i ∈ q := by
                        rcases List.mem_cons.mp m with z | z
                        · exact absurd z.symm ej
                        · exact z
                      split at hx
                      · rw [List.getElem?_set_ne ej] at hx; exact ihq m' x hx
                      · rw [List.getElem?_set_ne ej] at hx; exact ihq m' x hx
                rcases shape r hm _ (List.getElem?_eq_getElem hlt) with z | ⟨d, z⟩
                · rw [z] at r1; cases r1; rfl
                · rw [z] at r1; cases r1; rfl
              subst hd ef
              have e1 : (backV en1 e r).set i .no ++ fr.map (·.2) = ((backV en1 e r) ++ fr.map (·.2)).set i .no := by rw [List.set_append_left _ _ hlt]
              rw [e1, set_take (by rw [List.length_append]; omega), take_mid hv]
              exact r2.app (.cons (.no u) r3)
            · rw [show (backV en1 e r).set i .no = backV en1 e r from List.set_eq_of_length_le (by omega)]
              exact r0
          obtain ⟨ve2, hl2, hs2, _⟩ := ok''.rel
          refine ⟨ok'.same, ⟨ve, by rw [List.length_set]; exact hl, fun j w y hw hy => ?_, this⟩, by rw [List.length_set]; exact ok'.el, ok'.nd, ok'.out, ok'.pin⟩
          by_cases ej : i = j
          · subst ej
            have hj := (List.getElem?_eq_some_iff.mp hy).1
            rw [List.length_set] at hj
            rw [List.getElem?_set_self hj] at hy
            cases hy
            exact .inl rfl
          · rw [List.getElem?_set_ne ej] at hy
            exact hs j w y hw hy
        · rcases hk i (hno i (by simp)) hm with z | z
          · have : (backV en1 e r).set i .no = backV en1 e r := by
              refine List.ext_getElem? fun j => ?_
              by_cases ej : i = j
              · subst ej
                have := (List.getElem?_eq_some_iff.mp z).1
                rw [List.getElem?_set_self this, z]
              · rw [List.getElem?_set_ne ej]
            rw [this]; exact ok'
          · have := List.getElem?_eq_none_iff.mp z
            rw [show (backV en1 e r).set i .no = backV en1 e r from List.set_eq_of_length_le (by omega)]
            exact ok'
      unfold backV
      cases q : en1[i]? with
      | none => exact ⟨noCase, fun j hj hm => noset .no j hj hm⟩
      | some y =>
        cases y with
        | d x =>
          obtain ⟨v, g, hv, rr, _⟩ := ok1.focus q (fun z => by cases z)
          have rp : Rp K G v x := by cases rr with | d h => exact h.mono sg
          refine ⟨?_, fun j hj hm => noset (.d x) j hj hm⟩
          have hset : ((backV en1 e r).set i .no).set i (.d x) = (backV en1 e r).set i (.d x) := List.set_set _
          show OkV K G H σ pn ((backV en1 e r).set i (.d x)) fr f
          rw [← hset]
          refine noCase.data hv rp ?_
          by_cases hl : i < (backV en1 e r).length
          · exact .inl (List.getElem?_set_self hl)
          · exact .inr (List.getElem?_eq_none (by rw [List.length_set]; omega))
        | no => exact ⟨noCase, fun j hj hm => noset .no j hj hm⟩
        | lD _ => exact ⟨noCase, fun j hj hm => noset .no j hj hm⟩
        | ls _ => exact ⟨noCase, fun j hj hm => noset .no j hj hm⟩
        | tp _ => exact ⟨noCase, fun j hj hm => noset .no j hj hm⟩
        | dD _ => exact ⟨noCase, fun j hj hm => noset .no j hj hm⟩
        | di _ => exact ⟨noCase, fun j hj hm => noset .no j hj hm⟩
        | ob _ _ => exact ⟨noCase, fun j hj hm => noset .no j hj hm⟩
        | dl => exact ⟨noCase, fun j hj hm => noset .no j hj hm⟩
  obtain ⟨ok4, _⟩ := step own (wipeV en own) (fun i m => wipeV_in m) ok3
  refine ⟨f, sub, ?_⟩
  have e : backV en1 (wipeV en own) own = backV en1 en own := by
    refine List.ext_getElem? fun j => ?_
    have go : ∀ (q : List Nat) (a b : En), a.length = b.length → (∀ j : Nat, j ∉ q → a[j]? = b[j]?) → ∀ j : Nat, (backV en1 a q)[j]? = (backV en1 b q)[j]? := by
      intro q
      induction q with
      | nil => exact fun a b _ h j => h j (by simp)
      | cons i q ih =>
        intro a b hl h j
        have len : ∀ (c : En) (q : List Nat), (backV en1 c q).length = c.length := by
          intro c q
          induction q with
          | nil => rfl
          | cons k q ihk => unfold backV; split <;> rw [List.length_set, ihk]
        -- compare as if i were the same
        have ih' := ih (a.set i .no) (b.set i .no) (by rw [List.length_set, List.length_set]; exact hl) (fun k hk => by
          by_cases ek : i = k
          · subst ek
            by_cases hl2 : i < a.length
            · rw [List.getElem?_set_self hl2, List.getElem?_set_self (by omega)]
            · rw [List.getElem?_eq_none (by rw [List.length_set]; omega), List.getElem?_eq_none (by rw [List.length_set]; omega)]
          · rw [List.getElem?_set_ne ek, List.getElem?_set_ne ek]
            exact h k (fun z => by rcases List.mem_cons.mp z with z | z; exact ek z.symm; exact hk z)) j
        have pull : ∀ (c : En) (q : List Nat) (j : Nat), i ≠ j → (backV en1 (c.set i .no) q)[j]? = (backV en1 c q)[j]? := by
          intro c q
          induction q with
          | nil => intro j hj; exact List.getElem?_set_ne hj
          | cons k q ihk =>
            intro j hj
            unfold backV
            split
            · by_cases ek : k = j
              · subst ek
                by_cases hl2 : k < (backV en1 c q).length
                · rw [List.getElem?_set_self (by rw [len, List.length_set]; rw [len] at hl2; exact hl2), List.getElem?_set_self hl2]
                · rw [List.getElem?_eq_none (by rw [List.length_set, len, List.length_set]; rw [len] at hl2; omega), List.getElem?_eq_none (by rw [List.length_set]; omega)]
              · rw [List.getElem?_set_ne ek, List.getElem?_set_ne ek]; exact ihk j hj
            · by_cases ek : k = j
              · subst ek
                by_cases hl2 : k < (backV en1 c q).length
                · rw [List.getElem?_set_self (by rw [len, List.length_set]; rw [len] at hl2; exact hl2), List.getElem?_set_self hl2]
                · rw [List.getElem?_eq_none (by rw [List.length_set, len, List.length_set]; rw [len] at hl2; omega), List.getElem?_eq_none (by rw [List.length_set]; omega)]
              · rw [List.getElem?_set_ne ek, List.getElem?_set_ne ek]; exact ihk j hj
        unfold backV
        have fin : ∀ y : Val, ((backV en1 a q).set i y)[j]? = ((backV en1 b q).set i y)[j]? := fun y => by
          by_cases ej : i = j
          · subst ej
            by_cases hl2 : i < (backV en1 a q).length
            · rw [List.getElem?_set_self hl2, List.getElem?_set_self (by rw [len] at hl2 ⊢; omega)]
            · rw [List.getElem?_eq_none (by rw [List.length_set]; omega), List.getElem?_eq_none (by rw [List.length_set, len]; rw [len] at hl2; omega)]
          · rw [List.getElem?_set_ne ej, List.getElem?_set_ne ej, ← pull a q j ej, ← pull b q j ej]
            exact ih'
        split
        · exact fin _
        · exact fin _
    refine go own _ _ (wipeV_len) (fun k hk => ?_) j
    have : ∀ (q : List Nat), k ∉ q → (wipeV en q)[k]? = en[k]? := by
      intro q
      induction q with
      | nil => exact fun _ => rfl
      | cons i q ih =>
        intro h
        unfold wipeV
        rw [List.getElem?_set_ne (fun z => h (by simp [z]))]
        exact ih fun z => h (List.mem_cons_of_mem _ z)
    exact this own hk
  rw [← e]
  exact ok4
end
end Vy
namespace Vy
open PySem PySem.Spec PyProof.Rows L2
open Sy (D Rp RpAll RpK RpF tSem tSem_mono tSem_of pe_sem qSem qSem_mono qSem_of pt_sem wSem wSem_of wSem_mono pw_sem aSem aSem_mono aSem_of pa_sem sSem sSem_of sSem_mono ps_sem bSem bSem_of bSem_mono pss_sem dealK sqT_mono one? one_cases both both_cases IfB rSem rSem_of rSem_mono op_sem uSem uSem_of uSem_mono un_sem cSem cSem_of cSem_mono call_sem rp_int rp_str rp_bl rp_non rp_v rp_tup rp_lst rp_scr rp_dct Sk SqB sqB_any cutL rpAll_len rpAll_app rpAll_nil rpAll_cut cutL_whole gSem gSem_of gSem_mono pg_sem gsSem gsSem_of gsSem_mono pgs_sem Bt iSemT iSemT_of iSemT_mono pi_sem tsSem tsSem_mono pts_sem)
/-! ### comprehensions -/
theorem tk_no {X : Cx} {pn : List (Nat × V)} {fr : List (V × Val)} {G H : Hp} {fp : List Addr} : Tk X pn fr noEx G H fp := fun u s' x => by
  obtain ⟨a, B, sI, pins, σ, H', cls, d, _, _, _, _, _, _, _, _, w⟩ := x
  obtain ⟨_, _, _, _, _, _, _, w⟩ := w
  exact w.elim
structure VTs (X : Cx) (Ex : EX) (ifs : List Expr) (t : QV) : Prop where
  run : ∀ (G H : Hp) (σ : L2.St) (pn : List (Nat × V)) (en : En) (fr : List (V × Val)) (fp : List Addr) (Q : Bool → En → Prop), OkV X.K G H σ pn en fr fp → Tk X pn fr Ex G H fp → t en Q → tsSem X ifs σ H (fun b => OnB X.K σ G H pn fr fp (Q b))
def qYes : QV := fun en Q => Q true en
theorem vts_nil {X : Cx} {Ex : EX} : VTs X Ex [] qYes := ⟨fun G H σ pn en fr fp Q ok tk q => ⟨tYes, fun b => OnB X.K σ G H pn fr fp (Q b), pts_nil, OnB.here ok q, fun _ _ h => h⟩⟩
theorem vts_one {X : Cx} {Ex : EX} {c : Expr} {t : QV} (h : VT X Ex c t) : VTs X Ex [c] t := ⟨fun G H σ pn en fr fp Q ok tk q => ⟨_, _, pts_one (pt_sem X c), h.run G H σ pn en fr fp Q ok tk q, fun _ _ h => h⟩⟩
def eLc (ti : IV) (g : GV) (tt : QV) (te : TV) (own : List Nat) : TV := fun en Q => ti en fun xs en1 => ∃ Iv : Nat → List Sy.D → En → Prop, Wk (Iv 0 []) en1 ∧
  (∀ (i : Nat) (x : Sy.D) (acc : List Sy.D) (en2 : En), xs[i]? = some x → Iv i acc en2 → g (.d x) (wipeV en2 own) fun en3 => tt en3 fun b en4 => IfB b
      (te en4 fun r en5 => frz r en5 fun d en6 => acc.length < sizeLine ∧ Wk (Iv (i + 1) (acc ++ [d])) (backV en2 en6 own))
      (Wk (Iv (i + 1) acc) (backV en2 en4 own))) ∧
  ∀ acc en2, Iv xs.length acc en2 → Q (.tmp (.lD acc)) en2
section
variable {X : Cx} {Ex : EX} {tg iter elt : Expr} {ifs : List Expr} {pos : Pos} {scope : Scope} {own : List (Str × Nat)} {ti : IV} {g : GV} {tt : QV} {te : TV} {is : List Nat}
theorem lc_ok {Q : SK} {σ : L2.St} {G H : Hp} {pn : List (Nat × V)} {en : En} {fr : List (V × Val)} {fp : List Addr} (hi : VI X Ex tg iter ti) (his : ∀ i ∈ is, i ∈ own.map (·.2)) {ι : Type} {Y : ι → Cx} (hY : ∀ y, (Y y).K = X.K)
    (hg : ∀ y, VG (Y y) noEx [] tg is g) (ht : ∀ y, VTs (Y y) noEx ifs tt) (he : ∀ y, VE (Y y) noEx elt te) (ok : OkV X.K G H σ pn en fr fp) (tk : Tk X pn fr Ex G H fp) (q : eLc ti g tt te (own.map (·.2)) en Q) :
    tLc (iSemT X tg iter) (fun v σ H Q => ∀ y, gSem (Y y) tg v σ H Q) (fun σ H Q => ∀ y, tsSem (Y y) ifs σ H Q) (fun σ H Q => ∀ y, tSem (Y y) elt σ H Q) (own.map (·.2)) σ H (OnR X.K σ G H pn fr fp Q) := by
  refine iSemT_mono (hi.run G H σ pn en fr fp _ ok tk q) fun J H1 ⟨G1, en1, fp1, xs, st1, ok1, iv, Iv, w0, turn, fin⟩ => ?_
  obtain ⟨Ga, ena, fpa, sta, oka, w0⟩ := w0.ok ok1
  intro L hL
  -- the new list is a frame
  obtain ⟨stL, okL⟩ := oka.new (.alloc (x := .lD []) (o := .lst []) oka.same hL (.lD upd_same .nil))
  have sub0 : Same G1 Ga := sta.g
  refine ⟨fun i k H' => k = xs.length - i ∧ i ≤ xs.length ∧ ∃ G2 en2 fp2 acc, StepV Ga (upd H1 L (.lst [])) (fpa ++ [L]) G2 H' fp2 ∧ OkV X.K G2 H' σ pn en2 (fr ++ [(.ref L, .lD acc)]) fp2 ∧ Iv i acc en2,
    ⟨xs.length, by simp, Nat.zero_le _, Ga, ena, fpa ++ [L], [], StepV.refl .., okL, w0⟩, ?_⟩
  rintro i k H' ⟨rfl, hle, G2, en2, fp2, acc, st2, ok2, w2⟩
  have stA : StepV G H fp G2 H' fp2 := ((st1.trans sta).trans stL).trans st2
  by_cases hlt : i < xs.length
  · have hx := List.getElem?_eq_getElem hlt
    obtain ⟨g1, g2⟩ := iv.go i xs[i] G2 H' hx ((sta.trans stL).trans st2).g ok2.same
    have t2 := turn i xs[i] acc en2 hx w2
    refine .inr ⟨g1, fun H3 => ∃ G2 en2 fp2 acc, StepV Ga (upd H1 L (.lst [])) (fpa ++ [L]) G2 H3 fp2 ∧ OkV X.K G2 H3 σ pn en2 (fr ++ [(.ref L, .lD acc)]) fp2 ∧ Iv (i + 1) acc en2,
      fun H3 h3 => ⟨xs.length - (i + 1), by omega, rfl, hlt, h3⟩, fun v H3 hy => ?_⟩
    obtain ⟨G3, nv⟩ := g2 v H3 hy
    obtain ⟨fw, sw, okw⟩ := ok2.wipe (own.map (·.2))
    have okw' : OkV X.K G2 H' (wipe σ (own.map (·.2))) [] (wipeV en2 (own.map (·.2))) (fr ++ [(.ref L, .lD acc)]) fw := by
      have ok0 : OkV X.K G2 H' σ [] (wipeV en2 (own.map (·.2))) (fr ++ [(.ref L, .lD acc)]) fw := ⟨okw.same, okw.rel, okw.el, okw.nd, okw.out, fun _ _ h => nomatch h⟩
      exact ok0.other (by rw [Sy.wipe_len]; exact ok0.el) (fun j x hj hn => Sy.wipe_out' (wipe_no hj hn)) (fun _ _ h => nomatch h)
    obtain ⟨st3, ok3⟩ := okw'.new nv
    have st2w : StepV Ga (upd H1 L (.lst [])) (fpa ++ [L]) G2 H' fw := st2.less sw
    have st3' : StepV G2 H' fp2 G3 H3 (fw ++ []) := ((StepV.refl G2 H' fp2).less sw).trans st3
    intro y1
    refine gSem_mono ((hg y1).run G3 H3 (wipe σ (own.map (·.2))) [] (wipeV en2 (own.map (·.2))) (fr ++ [(.ref L, .lD acc)]) (fw ++ []) v (.d xs[i]) _ (by rw [hY]; exact ok3) (fun p h => nomatch h) tk_no t2) fun σ4 H4 ⟨bt, G4, en4, fp4, st4, ok4, q4⟩ => ⟨Sy.wipe_bt bt his, ?_⟩
    rw [hY] at ok4
    have agree : ∀ j, j ∉ own.map (·.2) → σ4[j]? = σ[j]? := fun j hj => by
      rw [bt.2 j (fun z => hj (his j z)), Sy.wipe_out' hj]
    have el4 : ∀ {e : En} {f : List Addr} {Gx Hx : Hp}, OkV X.K Gx Hx σ4 [] e (fr ++ [(.ref L, .lD acc)]) f → e.length ≤ σ.length := fun ok => by
      have := ok.el
      rw [bt.1, Sy.wipe_len] at this
      exact this
    intro y2
    refine tsSem_mono ((ht y2).run G4 H4 σ4 [] en4 (fr ++ [(.ref L, .lD acc)]) fp4 _ (by rw [hY]; exact ok4) tk_no q4) fun b H5 ⟨G5, en5, fp5, st5, ok5, q5⟩ => ?_
    rw [hY] at ok5
    have st25 := (st3'.trans st4).trans st5
    cases b with
    | false =>
      refine iteF ?_
      obtain ⟨fb, sb, okb⟩ := OkV.back ok2 st25.g ok5 (el4 ok5) agree
      obtain ⟨G6, en6, fp6, st6, ok6, q6⟩ := (IfB.ff q5).ok okb
      exact ⟨G6, en6, fp6, acc, ((st2.trans st25).less sb).trans st6, ok6, q6⟩
    | true =>
      refine iteT ?_
      have q6 := IfB.tt q5
      intro y3
      refine tSem_mono ((he y3).run G5 H5 σ4 [] en5 (fr ++ [(.ref L, .lD acc)]) fp5 _ (by rw [hY]; exact ok5) tk_no q6) fun y H6 ⟨G6, en6, r6, fp6, st6, ok6, p6, q7⟩ => ?_
      rw [hY] at ok6
      obtain ⟨G7, fp7, en7, d, st7, ok7, rp, hz, q8⟩ := frz_ok ok6 p6 q7
      have st27 := (st25.trans st6).trans st7
      obtain ⟨gg, rr⟩ := OkV.frameV (rest := []) ok7
      cases rr with
      | @lD _ vs _ h1 h2 =>
        refine ⟨vs, h1, by rw [rpAll_len h2]; exact hz, ?_⟩
        obtain ⟨fb, sb, okb⟩ := OkV.back ok2 st27.g ok7 (el4 ok7) agree
        obtain ⟨st8, ok8⟩ := okb.top (x' := .lD (acc ++ [d])) (o := .lst (vs ++ [y])) lD_fp (.lD upd_same (rpAll_app h2 (.cons rp .nil)))
        obtain ⟨G9, en9, fp9, st9, ok9, q9⟩ := q8.ok ok8
        exact ⟨G9, en9, fp9, acc ++ [d], (((st2.trans st27).less sb).trans st8).trans st9, ok9, q9⟩
  · have e : i = xs.length := by omega
    subst e
    refine .inl ⟨iv.stop G2 H' ((sta.trans stL).trans st2).g ok2.same, ?_⟩
    exact ⟨G2, en2, .tmp (.lD acc), fp2, stA, ok2, trivial, fin acc en2 w2⟩
theorem ve_lc (hc : X.calm = true) (hN : X.N.Nodup) (hi : VI X Ex tg iter ti) (okb : BlkOk X.N X.env.scope scope own) (his : ∀ i ∈ is, i ∈ own.map (·.2))
    (hg : ∀ (s : Shared) (H : Hp) (C : Addr) (cl : List (Str × Addr)) (fp : List Addr), VG (X.blk s H scope (compEnvC scope cl C X.env) fp) noEx [] tg is g)
    (ht : ∀ (s : Shared) (H : Hp) (C : Addr) (cl : List (Str × Addr)) (fp : List Addr), VTs (X.blk s H scope (compEnvC scope cl C X.env) fp) noEx ifs tt)
    (he : ∀ (s : Shared) (H : Hp) (C : Addr) (cl : List (Str × Addr)) (fp : List Addr), VE (X.blk s H scope (compEnvC scope cl C X.env) fp) noEx elt te)
    (hs : ∀ x, foldedSetIterable iter X.env x = pure x := by intro _; rfl) : VE X Ex (.ListComp elt [⟨tg, iter, ifs, 0⟩] scope pos) (eLc ti g tt te (own.map (·.2))) := ⟨fun G H σ pn en fr fp Q ok tk q pins s0 I => by
  let Y : Shared × Hp × Addr × List (Str × Addr) × List Addr → Cx := fun p => X.blk p.1 p.2.1 scope (compEnvC scope p.2.2.2.1 p.2.2.1 X.env) p.2.2.2.2
  refine tSem_of (pe_lc (g := fun v σ H Q => ∀ y, gSem (Y y) tg v σ H Q) (tt := fun σ H Q => ∀ y, tsSem (Y y) ifs σ H Q) (te := fun σ H Q => ∀ y, tSem (Y y) elt σ H Q) hc hN (pi_sem X tg iter) okb ?_ ?_ ?_ hs) ?_ pins s0 I
  · exact fun s H C cl fp => ⟨fun pins s' σ H' v u Q I r h => (pg_sem _ tg).run pins s' σ H' v u Q I r (h (s, H, C, cl, fp))⟩
  · exact fun s H C cl fp => ⟨fun pins s' σ H' Q I h => (pts_sem _ ifs).run pins s' σ H' Q I (h (s, H, C, cl, fp))⟩
  · exact fun s H C cl fp => ⟨fun pins s' σ H' Q I h => (pe_sem _ elt).run pins s' σ H' Q I (h (s, H, C, cl, fp))⟩
  · exact lc_ok hi his (Y := Y) (fun _ => rfl) (fun y => hg _ _ _ _ _) (fun y => ht _ _ _ _ _) (fun y => he _ _ _ _ _) ok tk q⟩
/-- name = [..] -/
theorem vs_setLc {ws : List Nat} {i : Nat} {y : Str} {py spos : Pos} (hc : X.calm = true) (hN : X.N.Nodup) (hy : X.N[i]? = some y) (hyl : X.env.scope.names.lookup y = some .local) (hw : ws.contains i = false)
    (hsw : swapsWith (.ListComp elt [⟨tg, iter, ifs, 0⟩] scope pos) (some (.Name y py)) spos.line X.env = pure true) (hi : VI X Ex tg iter ti) (okb : BlkOk X.N X.env.scope scope own) (his : ∀ i ∈ is, i ∈ own.map (·.2))
    (hg : ∀ (s : Shared) (H : Hp) (C : Addr) (cl : List (Str × Addr)) (fp : List Addr), VG (X.blk s H scope (compEnvC scope cl C X.env) fp) noEx [] tg is g)
    (ht : ∀ (s : Shared) (H : Hp) (C : Addr) (cl : List (Str × Addr)) (fp : List Addr), VTs (X.blk s H scope (compEnvC scope cl C X.env) fp) noEx ifs tt)
    (he : ∀ (s : Shared) (H : Hp) (C : Addr) (cl : List (Str × Addr)) (fp : List Addr), VE (X.blk s H scope (compEnvC scope cl C X.env) fp) noEx elt te)
    (hs : ∀ x, foldedSetIterable iter X.env x = pure x := by intro _; rfl) : VS X Ex ws (.Assign [.Name y py] (.ListComp elt [⟨tg, iter, ifs, 0⟩] scope pos) spos) (sAsg (eLc ti g tt te (own.map (·.2))) (gN i)) := ⟨fun G H σ pn en fr fp D ok hp tk q pins s0 I => by
  let Y : Shared × Hp × Addr × List (Str × Addr) × List Addr → Cx := fun p => X.blk p.1 p.2.1 scope (compEnvC scope p.2.2.2.1 p.2.2.1 X.env) p.2.2.2.2
  refine sSem_of (ps_setLc (g := fun v σ H Q => ∀ y, gSem (Y y) tg v σ H Q) (tt := fun σ H Q => ∀ y, tsSem (Y y) ifs σ H Q) (te := fun σ H Q => ∀ y, tSem (Y y) elt σ H Q) hc hN hy hyl hsw (pi_sem X tg iter) okb ?_ ?_ ?_ hs) ?_ pins s0 I
  · exact fun s H C cl fp => ⟨fun pins s' σ H' v u Q I r h => (pg_sem _ tg).run pins s' σ H' v u Q I r (h (s, H, C, cl, fp))⟩
  · exact fun s H C cl fp => ⟨fun pins s' σ H' Q I h => (pts_sem _ ifs).run pins s' σ H' Q I (h (s, H, C, cl, fp))⟩
  · exact fun s H C cl fp => ⟨fun pins s' σ H' Q I h => (pe_sem _ elt).run pins s' σ H' Q I (h (s, H, C, cl, fp))⟩
  · have h := lc_ok hi his (Y := Y) (fun _ => rfl) (fun y => hg _ _ _ _ _) (fun y => ht _ _ _ _ _) (fun y => he _ _ _ _ _) ok tk q
    refine iSemT_mono h fun J H1 h1 Dl hD => ?_
    obtain ⟨W, w0, t⟩ := h1 Dl hD
    refine ⟨W, w0, fun i' k H' w => ?_⟩
    rcases t i' k H' w with ⟨h2, G2, en2, r2, fp2, st2, ok2, p2, q2⟩ | h2
    · obtain ⟨G3, fp3, en3, x, st3, ok3, q3⟩ := esc_ok (rest := []) (by rw [List.append_nil]; exact ok2) p2 q2
      obtain ⟨fp4, st4, ok4⟩ := ok3.asg (i := i) (fun p m z => by
        have := hp p m
        rw [z] at this
        rw [List.contains_iff_mem.mpr this] at hw
        cases hw)
      exact .inl ⟨h2, G3, _, fp4, (st2.trans st3).trans st4, ok4, (setK_eq _ _ _ _).mp q3⟩
    · exact .inr h2⟩
end
end Vy
namespace Vy
open PySem PySem.Spec PyProof.Rows L2
open Sy (D Rp RpAll RpK RpF tSem tSem_mono tSem_of pe_sem qSem qSem_mono qSem_of pt_sem wSem wSem_of wSem_mono pw_sem aSem aSem_mono aSem_of pa_sem sSem sSem_of sSem_mono ps_sem bSem bSem_of bSem_mono pss_sem dealK sqT_mono one? one_cases both both_cases IfB rSem rSem_of rSem_mono op_sem uSem uSem_of uSem_mono un_sem cSem cSem_of cSem_mono call_sem rp_int rp_str rp_bl rp_non rp_v rp_tup rp_lst rp_scr rp_dct Sk SqB sqB_any cutL rpAll_len rpAll_app rpAll_nil rpAll_cut cutL_whole gSem gSem_of gSem_mono pg_sem gsSem gsSem_of gsSem_mono pgs_sem Bt iSemT iSemT_of iSemT_mono pi_sem tsSem tsSem_mono pts_sem)
/-! ### promises -/
structure FnV (P : Program) (w : World) (K : PySem.W.Frag) (mg : Str → Option Value) (base : Heap) (k : Nat) (f : Addr) (fd : FuncData) (ps : List Str) (sp : Sp) : Prop where
  arity : ∀ vs H Q E, sp vs H Q E → vs.length = ps.length
  go : ∀ {A : Around} {outer : List Env} {s : Shared} {H : Hp} {args : Args} {us : List Value} {vs : List V} {Q : VK} {E : XK}, Room k A → A.guards = some [] → Env0 P w K mg base A outer s H → BindsTo s fd args (ps.zip us) → Vals vs us → sp vs H Q E →
    codeAny (model P w) A (.call (.ref f) args) (CR (L2.CX P w) outer P w H s Q E) s
theorem FnV.mono {P : Program} {w : World} {K : PySem.W.Frag} {mg : Str → Option Value} {base : Heap} {j k : Nat} {f : Addr} {fd : FuncData} {ps : List Str} {sp : Sp} (F : FnV P w K mg base j f fd ps sp) (h : j ≤ k) : FnV P w K mg base k f fd ps sp :=
  ⟨F.arity, fun hr => F.go (hr.mono h)⟩
section
variable {P : Program} {w : World} {K : PySem.W.Frag} {mg : Str → Option Value} {base : Heap}
theorem Fun.okV {x qual : Str} {st : Stmt} {f : Addr} {fd : FuncData} {N ps : List Str} {k : Nat} {sp : Sp} (F : Fun K x qual st f fd) (Sc : FnScope N ps (defScope st)) (ar : ∀ vs H Q E, sp vs H Q E → vs.length = ps.length)
    (bd : ∀ (cdv : Value) (A : Around) (outer : List Env) (s : Shared) (H : Hp) (vs : List V) (Q : VK) (E : XK), Room k (A.deeper (envOfC qual (defScope st) s.heap.objs.size f cdv)) → A.guards = some [] → sp vs H Q E →
      ∃ t, PSs (cxOf (L2.CX P w) P w K mg base N qual (defScope st) f cdv A outer s H E) (defBody st) t ∧ t { nx := fun _ H' => Q .non H', rt := Q } (start N vs) H) : FnV P w K mg base (k + 1) f fd ps sp := by
  obtain ⟨oc, od, kV, doc, pm, an, cdv, ct, osl, rfl, at_, code⟩ := F.ex
  refine ⟨ar, fun {A outer s H args us vs Q E} room free e0 bnd rel hsp => ?_⟩
  have inK : K.In s.heap := e0.mod.kin.keeps fun b o z => (e0.bs b o z).1
  have noLim := e0.mod.nolimit.keeps (fun b o z => (e0.bs b o z).1 : ∀ b o, base.get? b = some o → s.heap.get? b = some o)
  refine codeAny_call_function room.depth (inK _ _ at_) rfl Sc.co Sc.gen rfl (PySem.W.codeRec_of inK code) (bnd _ _ _ _ ?_)
  refine wpAny_newFunctionEnv_cells Sc.kind (fun ⟨n, v⟩ hy => (Sc.par n (List.of_mem_zip hy).1).imp id fun q => ⟨q, PySem.W.cellsFrom_some _ _ _ (.inl q)⟩) fun env he s1 x1 => ?_
  subst he
  refine ⟨noLim.keeps x1.toInCall.keep, codeAny_func ?_⟩
  obtain ⟨t, walk, q0⟩ := bd cdv A outer s H vs Q E (room.deeper _) free hsp
  have st0 : Inv (cxOf (L2.CX P w) P w K mg base N qual (defScope st) f cdv A outer s H E) [] (start N vs) H s1 := inv_start Sc room.hd e0 (ar _ _ _ _ hsp) rel x1
  refine wpAny_mono (walk.run [] s1 (start N vs) H _ st0 q0) (fun fl s2 z => ?_) fun e s2 z => z
  cases fl with
  | next => exact match z with | ⟨_, H2, J, q⟩ => ⟨V.non, H2, J.os, J.bare, J.base, J.hok, rfl, q⟩
  | ret u => exact match z with | ⟨v, _, H2, J, r2, q⟩ => ⟨v, H2, J.os, J.bare, J.base, J.hok, r2, q⟩
  | brk => exact match z with | ⟨_, _, _, q⟩ => q.elim
  | cont => exact match z with | ⟨_, _, _, q⟩ => q.elim
end
section
variable {X : Cx} {e : Expr} {es : List Expr} {x : Str} {p pos : Pos} {f : Addr} {fd : FuncData} {ps : List Str} {k : Nat} {sp : Sp}
theorem FnV.call {pins : List (Addr × Obj)} {σ : L2.St} {H : Hp} {s : Shared} {Q : VK} {us : List Value} {vs : List V} {W : L2.WX} {dvs : List V} {ds : List Value} (F : FnV X.prog X.w X.K X.mg X.base k f fd ps sp) (hr : Room k X.A) (free : X.A.guards = some []) (hb : Binds X.K fd ps ds) (hd : Vals dvs ds) (tk : Takes X W)
    (I : Inv X pins σ H s) (rel : Vals vs us) (h : sp (vs ++ dvs) H Q (fun cls d H' => W cls d σ H')) : wpAny (model X.prog X.w) X.A (PySem.call (.ref f) us) (EP X pins σ Q) X.xe s := by
  have r2 : Vals (vs ++ dvs) (us ++ ds) := rel.append hd
  have n : (us ++ ds).length = ps.length := by rw [← r2.length]; exact F.arity _ _ _ _ h
  refine wpAny_call (codeAny_mono (F.go hr free I.env0 (hb s us I.kIn n) r2 h) fun r s2 z => ?_)
  match r, z with
  | .ok (.ret u), z => exact I.after z
  | .error e, z => exact passAt tk σ pins H s e s2 I z
end
/-! ### contracts -/
abbrev ConV := List Val → (Val → List Val → Prop) → (ExcV → List Val → Prop) → Prop
def spV (K : PySem.W.Frag) (C : ConV) : Sp := fun vs H Q E => ∃ G xs fp Qc Ec, Same G H ∧ VRs K G H vs xs fp ∧ fp.Nodup ∧ (∀ a ∈ fp, G a = none) ∧ C xs Qc Ec ∧
  (∀ v r ys G' H' fp', StepV G H fp G' H' fp' → Same G' H' → VRs K G' H' (v :: vs) (r :: ys) fp' → fp'.Nodup → (∀ a ∈ fp', G' a = none) → Qc r ys → Q v H') ∧
  ∀ cls d x ys G' H' fp', StepV G H fp G' H' fp' → Same G' H' → VRs K G' H' vs ys fp' → fp'.Nodup → (∀ a ∈ fp', G' a = none) → ExcR K G' H' cls d x → Ec x ys → E cls d H'
/-- what the parameters hold at the end, if they were not stored to -/
def parsV (ws : List Nat) : Nat → Nat → En → List Val
  | 0, _, _ => []
  | n + 1, k, x :: en => (if ws.contains k = true then x else .no) :: parsV ws n (k + 1) en
  | n + 1, k, [] => .no :: parsV ws n (k + 1) []
section
variable {K : PySem.W.Frag} {G H : Hp}
theorem vrs_no : ∀ (vs : List V) (ws : List Nat) (k : Nat), VRs K G H vs (parsV ws vs.length k []) []
  | [], _, _ => .nil
  | v :: vs, ws, k => by
    have := VRs.cons (.no v) (vrs_no vs ws (k + 1))
    exact this
theorem pars_ok : ∀ {vs ve : List V} {en : En} {f : List Addr} {ws : List Nat} {k : Nat}, VRs K G H ve en f → (∀ (j : Nat) (v : V) (x : Val), vs[j]? = some v → en[j]? = some x → ws.contains (k + j) = true → x = .no ∨ ve[j]? = some v) →
    ∃ f1 f2 f3, f = f1 ++ f2 ∧ VRs K G H vs (parsV ws vs.length k en) f3 ∧ f3.Sublist f1 ∧ VRs K G H (ve.drop vs.length) (en.drop vs.length) f2
  | [], ve, en, f, ws, k, h, _ => ⟨[], f, [], rfl, .nil, List.Sublist.refl _, h⟩
  | v :: vs, _, _, _, ws, k, .nil, _ => ⟨[], [], [], rfl, vrs_no (v :: vs) ws k, List.Sublist.refl _, by simp; exact .nil⟩
  | v :: vs, _, _, _, ws, k, .cons (v := u) (x := x) (f := g) h r, hp => by
    obtain ⟨f1, f2, f3, e, r1, sl, r2⟩ := pars_ok (vs := vs) (ws := ws) (k := k + 1) r (fun j w y h1 h2 h3 => by
      have := hp (j + 1) w y h1 h2 (by rw [← h3]; congr 1; omega)
      exact this)
    by_cases hw : ws.contains k = true
    · rcases hp 0 v x rfl rfl (by rw [Nat.add_zero]; exact hw) with z | z
      · refine ⟨g ++ f1, f2, f3, by rw [e, List.append_assoc], ?_, sl.trans (List.sublist_append_right g f1), r2⟩
        show VRs K G H (v :: vs) ((if ws.contains k = true then x else .no) :: _) f3
        rw [if_pos hw, z]
        exact .cons (f := []) (.no v) r1
      · cases z
        refine ⟨g ++ f1, f2, g ++ f3, by rw [e, List.append_assoc], ?_, List.Sublist.append (List.Sublist.refl g) sl, r2⟩
        show VRs K G H (_ :: vs) ((if ws.contains k = true then x else .no) :: _) _
        rw [if_pos hw]
        exact .cons h r1
    · refine ⟨g ++ f1, f2, f3, by rw [e, List.append_assoc], ?_, sl.trans (List.sublist_append_right g f1), r2⟩
      show VRs K G H (v :: vs) ((if ws.contains k = true then x else .no) :: _) f3
      rw [if_neg hw]
      exact .cons (f := []) (.no v) r1
end
/-- what is handed back -/
abbrev RTV := List Nat → Nat → Rv → En → (Val → List Val → Prop) → Prop
/-- as it is: new, or a local's -/
def retO : RTV := fun ws n r en Q => match r with
  | .tmp x => Q x (parsV ws n 0 en)
  | .pl i => n ≤ i ∧ Q (en.getD i .no) (parsV ws n 0 en)
/-- standing still -/
def retF : RTV := fun ws n r en Q => frz r en fun d en1 => Q (.d d) (parsV ws n 0 en1)
/-- the state at a def's end -/
def RetOk (R : RTV) : Prop := ∀ {K : PySem.W.Frag} {σ : L2.St} {G H : Hp} {pn : List (Nat × V)} {en : En} {fp : List Addr} {v : V} {r : Rv} {vs : List V} {ws : List Nat} {Q : Val → List Val → Prop}, OkV K G H σ pn en (tmpF v r) fp → plO σ v r →
  (∀ i, ws.contains i = true → ∀ u, vs[i]? = some u → σ[i]? = some (some u)) → R ws vs.length r en Q → ∃ G' fp' z ys, StepV G H fp G' H fp' ∧ Same G' H ∧ VRs K G' H (v :: vs) (z :: ys) fp' ∧ fp'.Nodup ∧ (∀ a ∈ fp', G' a = none) ∧ Q z ys
section
variable {K : PySem.W.Frag} {σ : L2.St} {G H : Hp} {pn : List (Nat × V)} {en : En} {fp : List Addr} {v : V} {vs : List V} {ws : List Nat}
theorem ret_tmp {x : Val} (ok : OkV K G H σ pn en [(v, x)] fp) (hp : ∀ i, ws.contains i = true → ∀ u, vs[i]? = some u → σ[i]? = some (some u)) : ∃ fp', (∀ a ∈ fp', a ∈ fp) ∧ VRs K G H (v :: vs) (x :: parsV ws vs.length 0 en) fp' ∧ fp'.Nodup := by
  obtain ⟨f, g, e, ok1, r⟩ := OkV.drop (fr := []) ok
  obtain ⟨ve, hl, hs, r0⟩ := ok1.rel
  have r0 : VRs K G H ve en f := by
    have h := r0
    simp only [List.map_nil, List.append_nil] at h
    exact h
  obtain ⟨f1, f2, f3, e1, r1, sl, r2⟩ := pars_ok (vs := vs) (ws := ws) (k := 0) r0 (fun j u x h1 h2 h3 => by
    rw [Nat.zero_add] at h3
    have h4 := hp j h3 u h1
    have hj := (List.getElem?_eq_some_iff.mp h2).1
    have h5 : ve[j]? = some ve[j] := List.getElem?_eq_getElem (by omega)
    rcases hs j _ x h5 h2 with z | z
    · exact .inl z
    · rw [h4] at z; cases z; exact .inr h5)
  subst e e1
  have nd := List.nodup_append.mp ok.nd
  have nd1 := List.nodup_append.mp nd.1
  refine ⟨g ++ f3, fun a m => ?_, .cons r r1, ?_⟩
  · rcases List.mem_append.mp m with q | q
    · simp [q]
    · simp [sl.subset q]
  · rw [List.nodup_append]
    refine ⟨nd.2.1, nd1.1.sublist sl, fun a m b n e => ?_⟩
    subst e
    exact nd.2.2 a (by simp [sl.subset n]) a m rfl
theorem retF_ok : RetOk retF := fun {K σ G H pn en fp v r vs ws Q} ok p hp q => by
  obtain ⟨G', fp', en', d, st, ok', rp, q'⟩ := frz_ok (fr := []) (by rw [List.nil_append]; exact ok) p q
  obtain ⟨f, sub, r, nd⟩ := ret_tmp (ws := ws) (vs := vs) (OkV.frameD ok' rp) hp
  exact ⟨G', f, _, _, st.less sub, ok'.same, r, nd, fun a m => ok'.out a (sub a m), q'⟩
theorem retO_ok : RetOk retO := fun {K σ G H pn en fp v r vs ws Q} ok p hp q => by
  cases r with
  | tmp x =>
    obtain ⟨f, sub, r, nd⟩ := ret_tmp (ws := ws) (vs := vs) ok hp
    exact ⟨G, f, _, _, (StepV.refl G H fp).less sub, ok.same, r, nd, fun a m => ok.out a (sub a m), q⟩
  | pl i =>
    obtain ⟨hn, q⟩ := q
    have ok : OkV K G H σ pn en [] fp := ok
    obtain ⟨ve, hl, hs, r0⟩ := ok.rel
    have r0 : VRs K G H ve en fp := by
      have h := r0
      simp only [List.map_nil, List.append_nil] at h
      exact h
    obtain ⟨f1, f2, f3, e1, r1, sl, r2⟩ := pars_ok (vs := vs) (ws := ws) (k := 0) r0 (fun j u x h1 h2 h3 => by
      rw [Nat.zero_add] at h3
      have h4 := hp j h3 u h1
      have hj := (List.getElem?_eq_some_iff.mp h2).1
      have h5 : ve[j]? = some ve[j] := List.getElem?_eq_getElem (by omega)
      rcases hs j _ x h5 h2 with z | z
      · exact .inl z
      · rw [h4] at z; cases z; exact .inr h5)
    subst e1
    have nd := List.nodup_append.mp ok.nd
    have fin : ∀ {x : Val} {g : List Addr}, VR K G H v x g → g.Nodup → (∀ a ∈ g, a ∈ f2) → Q x (parsV ws vs.length 0 en) → ∃ G' fp' z ys, StepV G H (f1 ++ f2) G' H fp' ∧ Same G' H ∧ VRs K G' H (v :: vs) (z :: ys) fp' ∧ fp'.Nodup ∧ (∀ a ∈ fp', G' a = none) ∧ Q z ys := fun {x g} r ndg sub q => by
      have sub' : ∀ a ∈ g ++ f3, a ∈ f1 ++ f2 := fun a m => by
        rcases List.mem_append.mp m with z | z
        · simp [sub a z]
        · simp [sl.subset z]
      refine ⟨G, g ++ f3, x, _, (StepV.refl _ _ _).less sub', ok.same, .cons r r1, ?_, fun a m => ok.out a (sub' a m), q⟩
      rw [List.nodup_append]
      exact ⟨ndg, nd.1.sublist sl, fun a m b n e => by subst e; exact nd.2.2 a (sl.subset n) a (sub a m) rfl⟩
    cases e : en[i]? with
    | none =>
      rw [List.getD_eq_getElem?_getD, e] at q
      exact fin (.no v) List.nodup_nil (fun _ h => nomatch h) q
    | some x =>
      rw [List.getD_eq_getElem?_getD, e] at q
      have q : Q x (parsV ws vs.length 0 en) := q
      by_cases hx : x = .no
      · subst hx
        exact fin (.no v) List.nodup_nil (fun _ h => nomatch h) q
      · have hi := (List.getElem?_eq_some_iff.mp e).1
        have hd : (en.drop vs.length)[i - vs.length]? = some x := by rw [List.getElem?_drop, show vs.length + (i - vs.length) = i by omega]; exact e
        obtain ⟨u, g1, g2, g3, hu, eg, rg, _, _⟩ := VRs.at r2 hd
        rw [List.getElem?_drop, show vs.length + (i - vs.length) = i by omega] at hu
        have hσ := (hs i u x hu e).resolve_left hx
        have p : σ[i]? = some (some v) := p
        rw [p] at hσ
        have huv : v = u := by cases hσ; rfl
        subst huv
        have nd2 := List.nodup_append.mp (by have := nd.2.1; rw [eg] at this; exact this)
        exact fin rg (List.nodup_append.mp nd2.2.1).1 (fun a m => by rw [eg]; simp [m]) q
end
def begE (n : Nat) (xs : List Val) : En := xs ++ List.replicate (n - xs.length) .no
section
variable {P : Program} {w : World} {K : PySem.W.Frag} {mg : Str → Option Value} {base : Heap}
theorem vrs_start {G H : Hp} {vs : List V} {xs : List Val} {fp : List Addr} (r : VRs K G H vs xs fp) : ∀ m, VRs K G H (vs ++ List.replicate m .non) (xs ++ List.replicate m .no) fp := fun m => by
  have h : ∀ m, VRs K G H (List.replicate m .non) (List.replicate m .no) [] := fun m => by
    induction m with
    | zero => exact .nil
    | succ m ih => exact .cons (f := []) (.no _) ih
  have := r.app (h m)
  rwa [List.append_nil] at this
/-- a def keeps its promise: ws are the parameters that are lent -/
theorem fnV {R : RTV} (hR : RetOk R) (ws : List Nat) {x qual : Str} {st : Stmt} {f : Addr} {fd : FuncData} {N ps : List Str} {k : Nat} {C : ConV} (F : Fun K x qual st f fd) (Sc : FnScope N ps (defScope st)) (hC : ∀ xs Q E, C xs Q E → xs.length = ps.length)
    (hbody : ∀ (cdv : Value) (A : Around) (outer : List Env) (s : Shared) (H : Hp) (E : XK), Room k (A.deeper (envOfC qual (defScope st) s.heap.objs.size f cdv)) → A.guards = some [] → ∀ xs Q Ec, C xs Q Ec →
      ∃ t, VB (cxOf (L2.CX P w) P w K mg base N qual (defScope st) f cdv A outer s H E) (fun x en => Ec x (parsV ws ps.length 0 en)) ws (defBody st) t ∧ t { nx := fun en => R ws ps.length (.tmp (.d .non)) en Q, rt := fun r en => R ws ps.length r en Q } (begE N.length xs)) :
    FnV P w K mg base (k + 1) f fd ps (spV K C) := by
  refine Fun.okV F Sc (fun vs H Q E h => ?_) (fun cdv A outer s H vs Q E hr free h => ?_)
  · obtain ⟨G, xs, fp, Qc, Ec, _, r, _, _, hc, _⟩ := h
    rw [r.len]; exact hC xs Qc Ec hc
  · obtain ⟨G, xs, fp, Qc, Ec, sm, r, nd, out, hc, fin, finE⟩ := h
    obtain ⟨t, ht, q⟩ := hbody cdv A outer s H E hr free xs Qc Ec hc
    refine ⟨_, pss_sem _ _, ?_⟩
    have hpl : ps.length ≤ N.length := by have := congrArg List.length Sc.pre; rw [List.length_take] at this; omega
    have hxl : xs.length = ps.length := hC xs Qc Ec hc
    have hvl : vs.length = ps.length := by rw [r.len]; exact hxl
    have hsl : (start N vs).length = N.length := by
      show (vs.map some ++ List.replicate (N.length - vs.length) none).length = _
      rw [List.length_append, List.length_map, List.length_replicate]; omega
    have hst : ∀ i u, vs[i]? = some u → (start N vs)[i]? = some (some u) := fun i u h => by
      have hi := (List.getElem?_eq_some_iff.mp h).1
      show (vs.map some ++ _)[i]? = _
      rw [List.getElem?_append_left (by rw [List.length_map]; exact hi), List.getElem?_map, h]; rfl
    let pn : List (Nat × V) := ws.filterMap fun i => (vs[i]?).map fun u => (i, u)
    have hpn : ∀ i u, (i, u) ∈ pn → i ∈ ws ∧ vs[i]? = some u := fun i u m => by
      obtain ⟨j, hj, e⟩ := List.mem_filterMap.mp m
      obtain ⟨u', e1, e2⟩ := Option.map_eq_some_iff.mp e
      cases e2
      exact ⟨hj, e1⟩
    have hpn2 : ∀ i, i ∈ ws → ∀ u, vs[i]? = some u → (i, u) ∈ pn := fun i m u h => List.mem_filterMap.mpr ⟨i, m, by rw [h]; rfl⟩
    have ok0 : OkV K G H (start N vs) pn (begE N.length xs) [] fp := by
      refine ⟨sm, ⟨vs ++ List.replicate (N.length - xs.length) .non, ?_, fun i v x hv hx => ?_, ?_⟩, ?_, nd, out, fun i u m => hst i u (hpn i u m).2⟩
      · show _ = (xs ++ List.replicate (N.length - xs.length) Val.no).length
        rw [List.length_append, List.length_append, List.length_replicate, List.length_replicate, r.len]
      · by_cases hi : i < vs.length
        · rw [List.getElem?_append_left hi] at hv
          exact .inr (hst i v hv)
        · have hx : (xs ++ List.replicate (N.length - xs.length) Val.no)[i]? = some x := hx
          rw [List.getElem?_append_right (by rw [← r.len]; omega), List.getElem?_replicate] at hx
          split at hx
          · cases hx; exact .inl rfl
          · cases hx
      · simp only [List.map_nil, List.append_nil]
        exact vrs_start r _
      · rw [hsl]
        show (xs ++ List.replicate (N.length - xs.length) Val.no).length ≤ _
        rw [List.length_append, List.length_replicate]; omega
    have pinOf : ∀ {σ' : L2.St} {G' H' : Hp} {en' : En} {fr' : List (V × Val)} {fp' : List Addr}, OkV K G' H' σ' pn en' fr' fp' → ∀ i, ws.contains i = true → ∀ u, vs[i]? = some u → σ'[i]? = some (some u) := fun ok i hi u hu => ok.pin i u (hpn2 i (List.contains_iff_mem.mp hi) u hu)
    have tk : Tk (cxOf (L2.CX P w) P w K mg base N qual (defScope st) f cdv A outer s H E) pn [] (fun x en => Ec x (parsV ws ps.length 0 en)) G H fp := by
      refine (takes_of (X := cxOf (L2.CX P w) P w K mg base N qual (defScope st) f cdv A outer s H E) rfl rfl rfl rfl).imp fun cls d σ' H' ⟨G', en', fp', x, st', ok', er, hx⟩ => ?_
      obtain ⟨f, sub, r', nd'⟩ := ret_tmp (v := .non) (x := .d .non) (ws := ws) (vs := vs) (OkV.frameD (d := .non) ok' .non) (pinOf ok')
      rw [hvl] at r'
      cases r' with
      | cons a b =>
        cases a with
        | d _ => exact finE cls d x _ G' H' _ (st'.less sub) ok'.same b nd' (fun a m => ok'.out a (sub a m)) er hx
    have back : ∀ v H', (∃ σ', OnR K σ' G H pn [] fp (fun r en => R ws ps.length r en Qc) v H') → Q v H' := fun v H' ⟨σ', G', en', r', fp', st', ok', p', q'⟩ => by
      rw [← hvl] at q'
      obtain ⟨G2, fp2, z, ys, st2, sm2, r2, nd2, out2, q2⟩ := hR (show OkV K G' H' σ' pn en' (tmpF v r') fp' from ok') p' (pinOf ok') q'
      exact fin v z ys G2 H' fp2 (st'.trans st2) sm2 r2 nd2 out2 q2
    refine bSem_mono (ht.run G H _ pn _ [] fp _ ok0 (fun p m => (hpn p.1 p.2 m).1) tk q) (fun σ' H' ⟨G', en', fp', st', ok', q'⟩ => ?_) back (fun _ _ ⟨_, _, _, _, _, z⟩ => z.elim) (fun _ _ ⟨_, _, _, _, _, z⟩ => z.elim)
    exact back .non H' ⟨σ', G', en', .tmp (.d .non), fp', st', OkV.frameD (fr := []) ok' .non, trivial, q'⟩
end
/-! ### calls -/
def frzs : List Rv → En → (List D → En → Prop) → Prop
  | [], en, k => k [] en
  | r :: rs, en, k => frz r en fun d en1 => frzs rs en1 fun ds en2 => k (d :: ds) en2
theorem frzs_ok {K : PySem.W.Frag} {σ : L2.St} {H : Hp} {pn : List (Nat × V)} : ∀ {rs : List Rv} {vs : List V} {G : Hp} {en : En} {fr : List (V × Val)} {fp : List Addr} {k : List D → En → Prop}, OkV K G H σ pn en (fr ++ tmpFs vs rs) fp → plOs σ vs rs → frzs rs en k →
    ∃ G' fp' en' ds, StepV G H fp G' H fp' ∧ OkV K G' H σ pn en' fr fp' ∧ RpAll K G' vs ds ∧ k ds en'
  | [], _, G, en, fr, fp, k, ok, .nil, q => ⟨G, fp, en, [], StepV.refl .., by rw [show fr ++ tmpFs [] [] = fr from List.append_nil _] at ok; exact ok, .nil, q⟩
  | r :: rs, v :: vs, G, en, fr, fp, k, ok, .cons p ps, q => by
    -- the head's frame stands first: it stands still among the others
    have q : frz r en fun d en1 => frzs rs en1 fun ds en2 => k (d :: ds) en2 := q
    have head : ∃ G1 fp1 en1 d, StepV G H fp G1 H fp1 ∧ OkV K G1 H σ pn en1 ((fr ++ [(v, .d d)]) ++ tmpFs vs rs) fp1 ∧ frzs rs en1 fun ds en2 => k (d :: ds) en2 := by
      cases r with
      | tmp x =>
        obtain ⟨d, e, q⟩ := one_cases q
        obtain ⟨G1, fp1, st1, ok1⟩ := OkV.stillF (rest := tmpFs vs rs) ok e
        exact ⟨G1, fp1, en, d, st1, by rw [List.append_assoc]; exact ok1, q⟩
      | pl i =>
        obtain ⟨d, e, q⟩ := one_cases q
        obtain ⟨G', fp', en', x, st, ok', q'⟩ := esc_ok (rest := tmpFs vs rs) (k := fun x en' => x = .d d ∧ frzs rs en' fun ds en2 => k (d :: ds) en2) (r := .pl i) (v := v) ok p (one?.yes e ((setK_eq _ _ _ _).mpr ⟨rfl, (setK_eq _ _ _ _).mp q⟩))
        obtain ⟨rfl, q'⟩ := q'
        exact ⟨G', fp', en', d, st, by rw [List.append_assoc]; exact ok', q'⟩
    obtain ⟨G1, fp1, en1, d, st1, ok1, q1⟩ := head
    obtain ⟨G2, fp2, en2, ds, st2, ok2, r2, q2⟩ := frzs_ok (fr := fr ++ [(v, .d d)]) ok1 ps q1
    have rv := vrx_d (OkV.frameV (rest := []) ok2)
    obtain ⟨f, ok3, sub, _⟩ := ok2.drops
    exact ⟨G2, f, en2, d :: ds, (st1.trans st2).less sub, ok3, .cons rv r2, q2⟩
section
variable {X : Cx} {Ex : EX} {e : Expr} {es : List Expr} {ta : AV} {x : Str} {p pos : Pos} {f : Addr} {fd : FuncData} {ps : List Str} {k : Nat} {C : ConV}
theorem vrs_d {K : PySem.W.Frag} {G H : Hp} : ∀ {vs : List V} {ds : List D}, RpAll K G vs ds → VRs K G H vs (ds.map .d) []
  | _, _, .nil => .nil
  | _, _, .cons r t => .cons (f := []) (.d r) (vrs_d t)
theorem rpAll_of {K : PySem.W.Frag} {G H : Hp} : ∀ {vs : List V} {ds : List D} {f : List Addr}, VRs K G H vs (ds.map .d) f → RpAll K G vs ds
  | _, [], _, .nil => .nil
  | _, d :: ds, _, .cons (.d r) t => .cons r (rpAll_of t)
/-- nothing is lent -/
def eCall (C : ConV) (Ex : EX) (ta : AV) (dd : List D) : TV := fun en Q => ta en fun rs en1 => frzs rs en1 fun ds en2 => C ((ds ++ dd).map .d) (fun r _ => Q (.tmp r) en2) (fun x _ => Ex x en2)
theorem sp_data {σ : L2.St} {G H : Hp} {pn : List (Nat × V)} {en : En} {fr : List (V × Val)} {fp : List Addr} {Q : SK} {vs : List V} {ds : List D} (ok : OkV X.K G H σ pn en fr fp) (h : RpAll X.K G vs ds)
    (q : C (ds.map .d) (fun r _ => Q (.tmp r) en) (fun x _ => Ex x en)) : spV X.K C vs H (OnR X.K σ G H pn fr fp Q) (fun cls d H' => WV X.K G H fp pn fr Ex cls d σ H') := by
  have other : ∀ {G' H' : Hp} {fp' : List Addr}, StepV G H [] G' H' fp' → Kept H H' fp := fun st a o e m => st.fr a o e (fun z => nomatch z)
  have mk : ∀ {G' H' : Hp} {fp' : List Addr}, StepV G H [] G' H' fp' → Same G' H' → OkV X.K G' H' σ pn en fr fp := fun {G' H' fp'} st sm => by
    obtain ⟨ve, hl, hs, r⟩ := ok.rel
    refine ⟨sm, ⟨ve, hl, hs, r.frame st.g (other st)⟩, ok.el, ok.nd, fun a m => ?_, ok.pin⟩
    cases z : G' a with
    | none => rfl
    | some o =>
      rcases st.gd a (ne_none z) with y | y | y
      · exact absurd (ok.out a m) y
      · cases y
      · exact absurd y (ok.alive a m)
  have stp : ∀ {G' H' : Hp} {fp' g : List Addr}, StepV G H [] G' H' fp' → (∀ a ∈ g, a ∈ fp') → StepV G H fp G' H' (fp ++ g) := fun st sub => ⟨st.g, st.dom, fun a o e n => st.fr a o e (fun z => nomatch z), fun a m => by
    rcases List.mem_append.mp m with z | z
    · exact .inl z
    · rcases st.new a (sub a z) with y | y
      · cases y
      · exact .inr y, fun a h => by
    rcases st.gd a h with y | y | y
    · exact .inl y
    · cases y
    · exact .inr (.inr y)⟩
  refine ⟨G, ds.map .d, [], _, _, ok.same, vrs_d h, List.nodup_nil, (fun _ m => nomatch m), q, fun v r ys G' H' fp' st sm rr nd out q' => ?_, fun cls d x ys G' H' fp' st sm rr nd out er q' => ?_⟩
  · cases rr with
    | @cons _ _ _ _ g g2 r1 r2 =>
      have nd1 := List.nodup_append.mp nd
      have ok' := mk st sm
      have sub : ∀ a ∈ g, a ∈ g ++ g2 := fun a m => by simp [m]
      obtain ⟨ve, hl, hs, r0⟩ := ok'.rel
      refine ⟨G', en, .tmp r, fp ++ g, stp st sub, ⟨sm, ⟨ve, hl, hs, ?_⟩, ok.el, ?_, fun a m => ?_, ok.pin⟩, trivial, q'⟩
      · rw [show tmpF v (.tmp r) = [(v, r)] from rfl, List.map_append, List.map_append, ← List.append_assoc, ← List.append_assoc]
        exact r0.app (VRs.one r1)
      · rw [List.nodup_append]
        refine ⟨ok.nd, nd1.1, fun a m b n e => ?_⟩
        subst e
        rcases st.new a (sub a n) with y | y
        · cases y
        · exact ok.alive a m y
      · rcases List.mem_append.mp m with z | z
        · exact ok'.out a z
        · exact out a (sub a z)
  · exact ⟨G', en, fp, x, by have := stp (g := []) st (fun _ m => nomatch m); rwa [List.append_nil] at this, mk st sm, er, q'⟩
theorem ve_call {dd : List D} {dvs : List V} {dus : List Value} (F : FnV X.prog X.w X.K X.mg X.base k f fd ps (spV X.K C)) (hr : Room k X.A) (free : X.A.guards = some []) (hg : Gl X x) (hm : X.mg x = some (.ref f)) (hk : PySem.W.keepIn X.K (.ref f) = true) (hb : Binds X.K fd ps dus) (hdv : Vals dvs dus) (hdd : ∀ G, RpAll X.K G dvs dd)
    (ha : VA X Ex (e :: es) ta) (hdb : (x == ("__debug__" : Str)) = false := by decide) (he : starEach (e :: es) X.env = (false, eval e X.env) :: starEach es X.env := by rfl) (hpl : (backTo pos (starEach es X.env)).any (·.1) = false := by rfl) :
    VE X Ex (.Call (.Name x p) (e :: es) [] pos) (eCall C Ex ta dd) := ⟨fun G H σ pn en fr fp Q ok tk q pins s I =>
  wpAny_Call_Name_kw (ld_glob I hg hm (PySem.W.callWith_K (h₀ := X.base) I.ok.mod.kin hk (thn (ha.run G H σ pn en fr fp _ ok tk q pos pins s I) fun us s1 ⟨vs, H1, I1, r, G1, en1, rs, fp1, st1, ok1, p1, q1⟩ => ⟨I1.kIn, by
    obtain ⟨G2, fp2, en2, ds, st2, ok2, rd, q2⟩ := frzs_ok ok1 p1 q1
    have st := st1.trans st2
    have hsp := sp_data (C := C) (Ex := Ex) (Q := Q) ok2 (rpAll_app rd (hdd G2)) q2
    have h2 : spV X.K C (vs ++ dvs) H1 (OnR X.K σ G H pn fr fp Q) (fun cls d H' => WV X.K G2 H1 fp2 pn fr Ex cls d σ H') := by
      obtain ⟨Gc, xs, fc, Qc, Ec, a1, a2, a3, a4, a5, a6, a7⟩ := hsp
      exact ⟨Gc, xs, fc, Qc, Ec, a1, a2, a3, a4, a5, fun v r ys G' H' fp' b1 b2 b3 b4 b5 b6 => OnR.from st (a6 v r ys G' H' fp' b1 b2 b3 b4 b5 b6), a7⟩
    exact F.call hr free hb hdv (tk.step st) I1 r h2⟩) he hpl) hdb)⟩
/-- the first argument is lent -/
def lent (r : Rv) (Q : Nat → Prop) : Prop := match r with
  | .pl i => Q i
  | _ => False
def eCallS (C : ConV) (Ex : EX) (ta : AV) (dd : List D) : TV := fun en Q => ta en fun rs en1 => match rs with
  | r :: rs => lent r fun i => frzs rs en1 fun ds en2 => C (en2.getD i .no :: (ds ++ dd).map .d) (fun r ys => Q (.tmp r) (en2.set i (ys.headD .no))) (fun x ys => Ex x (en2.set i (ys.headD .no)))
  | [] => False
theorem sp_self {σ : L2.St} {G H : Hp} {pn : List (Nat × V)} {en : En} {fr : List (V × Val)} {fp : List Addr} {Q : SK} {v0 : V} {vs : List V} {ds : List D} {i : Nat} (ok : OkV X.K G H σ pn en fr fp) (hv : σ[i]? = some (some v0)) (h : RpAll X.K G vs ds)
    (q : C (en.getD i .no :: ds.map .d) (fun r ys => Q (.tmp r) (en.set i (ys.headD .no))) (fun x ys => Ex x (en.set i (ys.headD .no)))) (hne : en.getD i .no ≠ .no) : spV X.K C (v0 :: vs) H (OnR X.K σ G H pn fr fp Q) (fun cls d H' => WV X.K G H fp pn fr Ex cls d σ H') := by
  have hx : en[i]? = some (en.getD i .no) := by
    rw [List.getD_eq_getElem?_getD] at hne ⊢
    cases e : en[i]? with
    | none => rw [e] at hne; exact absurd rfl hne
    | some y => rfl
  obtain ⟨u, g, hu, r, ndg, sub, go⟩ := ok.focus hx hne
  rw [hv] at hu
  cases hu
  have outg : ∀ a ∈ g, G a = none := fun a m => ok.out a (sub a m)
  have key : ∀ {G' H' : Hp} {fp' : List Addr} {y : Val} {ys : List Val} {f0 : List Addr}, StepV G H g G' H' fp' → Same G' H' → VR X.K G' H' v0 y f0 → (∀ a ∈ f0, a ∈ fp') → f0.Nodup → (∀ a ∈ fp', G' a = none) →
      ∃ fp2, StepV G H fp G' H' fp2 ∧ OkV X.K G' H' σ pn (en.set i y) fr fp2 := fun {G' H' fp' y ys f0} st sm r0 s0 nd0 out0 =>
    go G' H' y f0 st.g sm st.dom (fun a o e n => st.fr a o e n) r0 nd0 (fun a m => st.new a (s0 a m)) (fun a m => out0 a (s0 a m)) (fun a h => st.gd a h)
  have notIn : ∀ {G' H' : Hp} {fp' : List Addr} {fp2 : List Addr}, True := trivial
  refine ⟨G, en.getD i .no :: ds.map .d, g, _, _, ok.same, by have := VRs.cons r (vrs_d (H := H) h); rwa [List.append_nil] at this, ndg, outg, q, fun v rv ys G' H' fp' st sm rr nd out q' => ?_, fun cls d x ys G' H' fp' st sm rr nd out er q' => ?_⟩
  · cases rr with
    | @cons _ _ _ _ gr g2 r1 r2 =>
      cases r2 with
      | @cons _ _ y ys' f0 f1 r2 r3 =>
        have nd1 := List.nodup_append.mp nd
        have nd2 := List.nodup_append.mp nd1.2.1
        -- the result is a frame of its own: put it there first, then the slot
        have disj : ∀ a ∈ gr, a ∈ g ∨ H a = none := fun a m => st.new a (by simp [m])
        obtain ⟨fp2, st2, ok2⟩ := key (ys := ys') st sm r2 (fun a m => by simp [m]) nd2.1 out
        -- footprint of the slot's state: from focus, apart from gr
        obtain ⟨ve, hl, hs, rel⟩ := ok.rel
        have hi := (List.getElem?_eq_some_iff.mp hx).1
        have hx2 : (en ++ fr.map (·.2))[i]? = some (en.getD i .no) := by rw [List.getElem?_append_left hi]; exact hx
        obtain ⟨u, p1, p2, p3, hvu, ep, q1, q2, q3⟩ := VRs.at rel hx2
        have hvi : ve[i]? = some v0 := by
          have h1 : ve[i]? = some ve[i] := List.getElem?_eq_getElem (by omega)
          have h2 := (hs i _ _ h1 hx).resolve_left hne
          rw [hv] at h2
          rw [h1]; cases h2; rfl
        have hu0 : u = v0 := by rw [List.getElem?_append_left (by omega), hvi] at hvu; cases hvu; rfl
        subst hu0
        have fpu : ∀ {v : V} {x : Val} {f f' : List Addr}, VR X.K G H v x f → VR X.K G H v x f' → f = f' := fun {v x f f'} a b => by
          have both : (∀ {v : V} {x : Val} {f : List Addr}, VR X.K G H v x f → ∀ {f'}, VR X.K G H v x f' → f = f') := by
            intro v x f a
            refine VR.rec (motive_1 := fun v x f _ => ∀ {f'}, VR X.K G H v x f' → f = f') (motive_2 := fun vs xs f _ => ∀ {f'}, VRs X.K G H vs xs f' → f = f') ?_ ?_ ?_ ?_ ?_ ?_ ?_ ?_ ?_ ?_ ?_ a
            · intro v f' b; cases b; rfl
            · intro v x h f' b; cases b; rfl
            · intro a vs ds h1 h2 f' b; cases b; rfl
            · intro a vs xs f h1 h2 ih f' b
              cases b with
              | ls k1 k2 => rw [h1] at k1; cases k1; rw [ih k2]
            · intro a vs xs f h1 h2 ih f' b
              cases b with
              | tp k1 k2 => rw [h1] at k1; cases k1; rw [ih k2]
            · intro a vs ds h1 h2 f' b; cases b; rfl
            · intro a vs xs f h1 h2 h3 ih f' b
              cases b with
              | di k1 k2 k3 => rw [h1] at k1; cases k1; rw [ih k3]
            · intro a C dx vs xs f h1 h2 h3 ih f' b
              cases b with
              | ob k1 k2 k3 => rw [h1] at k1; cases k1; rw [ih k3]
            · intro a l sd nm ns h1 h2 h3 h4 h5 h6 f' b
              cases b with
              | @dl _ l' _ _ _ k1 k2 k3 k4 k5 k6 =>
                rw [h1] at k1
                have := (HO.dK.inj (Option.some.inj k1))
                have hl : l = l' := by
                  have h7 := congrArg (fun z => z[2]?) this
                  simp [dealK] at h7
                  exact h7
                rw [hl]
            · intro f' b; cases b; rfl
            · intro v vs x xs f g h1 h2 ih1 ih2 f' b
              cases b with
              | cons k1 k2 => rw [ih1 k1, ih2 k2]
          exact both a b
        have e2 : p2 = g := fpu q1 r
        subst e2
        have ndF := ok.nd
        rw [ep] at ndF
        have nF1 := List.nodup_append.mp ndF
        have nF2 := List.nodup_append.mp nF1.2.1
        have alv := ok.alive
        rw [ep] at alv
        have k1 : Kept H H' p1 := fun a o e m => st.fr a o e fun z => nF1.2.2 a m a (List.mem_append_left _ z) rfl
        have k3 : Kept H H' p3 := fun a o e m => st.fr a o e fun z => nF2.2.2 a z a m rfl
        have sep : ∀ a, (a ∈ p1 ∨ a ∈ p3) → a ∉ gr ++ (f0 ++ f1) := fun a m n => by
          rcases st.new a n with z | z
          · rcases m with m | m
            · exact nF1.2.2 a m a (List.mem_append_left _ z) rfl
            · exact nF2.2.2 a z a m rfl
          · exact alv a (by rcases m with m | m <;> simp [m]) z
        refine ⟨G', en.set i y, .tmp rv, p1 ++ (f0 ++ p3) ++ gr, ⟨st.g, st.dom, fun a o e n => st.fr a o e fun z => n (by rw [ep]; simp [z]), fun a m => ?_, fun a h => ?_⟩, ⟨sm, ⟨ve, by rw [List.length_set]; exact hl, fun j w z hw hz => ?_, ?_⟩, by rw [List.length_set]; exact ok.el, ?_, fun a m => ?_, ok.pin⟩, trivial, q'⟩
        · rw [ep]
          rcases List.mem_append.mp m with m | m
          · rcases List.mem_append.mp m with m | m
            · exact .inl (by simp [m])
            · rcases List.mem_append.mp m with m | m
              · rcases st.new a (by simp [m]) with z | z
                · exact .inl (by simp [z])
                · exact .inr z
              · exact .inl (by simp [m])
          · rcases st.new a (by simp [m]) with z | z
            · exact .inl (by simp [z])
            · exact .inr z
        · rcases st.gd a h with z | z | z
          · exact .inl z
          · exact .inr (.inl (by rw [ep]; simp [z]))
          · exact .inr (.inr z)
        · by_cases e : i = j
          · subst e
            rw [hvi] at hw; cases hw
            exact .inr hv
          · rw [List.getElem?_set_ne e] at hz
            exact hs j w z hw hz
        · have e1 : en.set i y ++ (fr ++ tmpF v (.tmp rv)).map (·.2) = (en ++ fr.map (·.2)).set i y ++ [rv] := by
            rw [List.map_append, ← List.append_assoc, List.set_append_left _ _ hi]; rfl
          have e2 : ve ++ (fr ++ tmpF v (.tmp rv)).map (·.1) = (ve ++ fr.map (·.1)) ++ [v] := by rw [List.map_append, ← List.append_assoc]; rfl
          rw [e1, e2, set_take (by rw [List.length_append]; omega), take_mid hvu]
          exact ((q2.frame st.g k1).app (.cons r2 (q3.frame st.g k3))).app (VRs.one r1)
        · rw [List.nodup_append, List.nodup_append, List.nodup_append]
          refine ⟨⟨nF1.1, ⟨nd2.1, nF2.2.1, fun a m b n e => ?_⟩, fun a m b n e => ?_⟩, nd1.1, fun a m b n e => ?_⟩
          · subst e; exact sep a (.inr n) (by simp [m])
          · subst e
            rcases List.mem_append.mp n with n | n
            · exact sep a (.inl m) (by simp [n])
            · exact nF1.2.2 a m a (by simp [n]) rfl
          · subst e
            rcases List.mem_append.mp m with m | m
            · exact sep a (.inl m) (by simp [n])
            · rcases List.mem_append.mp m with m | m
              · exact nd1.2.2 a n a (by simp [m]) rfl
              · exact sep a (.inr m) (by simp [n])
        · have rest : (a ∈ p1 ∨ a ∈ p3) → G' a = none := fun m => by
            cases z : G' a with
            | none => rfl
            | some o =>
              have m1 : a ∈ fp := by rw [ep]; rcases m with m | m <;> simp [m]
              rcases st.gd a (ne_none z) with y | y | y
              · exact absurd (ok.out a m1) y
              · rcases m with m | m
                · exact absurd rfl (nF1.2.2 a m a (List.mem_append_left _ y))
                · exact absurd rfl (nF2.2.2 a y a m)
              · exact absurd y (ok.alive a m1)
          rcases List.mem_append.mp m with m | m
          · rcases List.mem_append.mp m with m | m
            · exact rest (.inl m)
            · rcases List.mem_append.mp m with m | m
              · exact out a (by simp [m])
              · exact rest (.inr m)
          · exact out a (by simp [m])
  · cases rr with
    | @cons _ _ y ys' f0 f1 r2 r3 =>
      have nd1 := List.nodup_append.mp nd
      obtain ⟨fp2, st2, ok2⟩ := key (ys := ys') st sm r2 (fun a m => by simp [m]) nd1.1 out
      exact ⟨G', _, fp2, x, st2, ok2, er, q'⟩
end
end Vy
namespace Vy
open PySem PySem.Spec PyProof.Rows L2
open Sy (D Rp RpAll RpK RpF rpAll_app rpAll_len tSem tSem_mono tSem_of pe_sem dealK one? one_cases both both_cases IfB rp_int rp_str rp_bl)
section
variable {X : Cx} {Ex : EX} {e : Expr} {es : List Expr} {ta : AV} {x : Str} {p pos : Pos} {f : Addr} {fd : FuncData} {ps : List Str} {k : Nat} {C : ConV}
theorem ve_callS {dd : List D} {dvs : List V} {dus : List Value} (hC : ∀ xs Q E, C xs Q E → xs.headD .no ≠ .no) (F : FnV X.prog X.w X.K X.mg X.base k f fd ps (spV X.K C)) (hr : Room k X.A) (free : X.A.guards = some []) (hg : Gl X x) (hm : X.mg x = some (.ref f)) (hk : PySem.W.keepIn X.K (.ref f) = true) (hb : Binds X.K fd ps dus) (hdv : Vals dvs dus) (hdd : ∀ G, RpAll X.K G dvs dd)
    (ha : VA X Ex (e :: es) ta) (hdb : (x == ("__debug__" : Str)) = false := by decide) (he : starEach (e :: es) X.env = (false, eval e X.env) :: starEach es X.env := by rfl) (hpl : (backTo pos (starEach es X.env)).any (·.1) = false := by rfl) :
    VE X Ex (.Call (.Name x p) (e :: es) [] pos) (eCallS C Ex ta dd) := ⟨fun G H σ pn en fr fp Q ok tk q pins s I =>
  wpAny_Call_Name_kw (ld_glob I hg hm (PySem.W.callWith_K (h₀ := X.base) I.ok.mod.kin hk (thn (ha.run G H σ pn en fr fp _ ok tk q pos pins s I) fun us s1 ⟨vs, H1, I1, r, G1, en1, rs, fp1, st1, ok1, p1, q1⟩ => ⟨I1.kIn, by
    match rs, vs, p1, q1, r with
    | r0 :: rs, v0 :: vs, .cons p0 p1, q1, r =>
      cases r0 with
      | tmp x => exact q1.elim
      | pl i =>
        have ok1 : OkV X.K G1 H1 σ pn en1 (fr ++ tmpFs vs rs) fp1 := ok1
        obtain ⟨G2, fp2, en2, ds, st2, ok2, rd, q2⟩ := frzs_ok ok1 p1 q1
        have st := st1.trans st2
        have hsp := sp_self (C := C) (Ex := Ex) (Q := Q) ok2 p0 (rpAll_app rd (hdd G2)) q2 (hC _ _ _ q2)
        have h2 : spV X.K C ((v0 :: vs) ++ dvs) H1 (OnR X.K σ G H pn fr fp Q) (fun cls d H' => WV X.K G2 H1 fp2 pn fr Ex cls d σ H') := by
          obtain ⟨Gc, xs, fc, Qc, Ec, a1, a2, a3, a4, a5, a6, a7⟩ := hsp
          exact ⟨Gc, xs, fc, Qc, Ec, a1, a2, a3, a4, a5, fun v r ys G' H' fp' b1 b2 b3 b4 b5 b6 => OnR.from st (a6 v r ys G' H' fp' b1 b2 b3 b4 b5 b6), a7⟩
        exact F.call hr free hb hdv (tk.step st) I1 r h2⟩) he hpl) hdb)⟩
end
/-! ### promises of data; with the deal ahead -/
abbrev PR := List D → (Val → Prop) → Prop
def cP (p : PR) : ConV := fun xs Q _ => ∃ ds Q0, xs = ds.map .d ∧ (∀ r ys, Q0 r → Q r ys) ∧ p ds Q0
def cDl (p : PR) : ConV := fun xs Q _ => ∃ ds Q0, xs = .dl :: ds.map .d ∧ (∀ r ys, ys.headD .no = .dl → Q0 r → Q r ys) ∧ p ds Q0
def eCallP (p : PR) (ta : AV) (dd : List D) : TV := fun en Q => ta en fun rs en1 => frzs rs en1 fun ds en2 => p (ds ++ dd) fun r => Q (.tmp r) en2
def eCallD (p : PR) (ta : AV) (dd : List D) : TV := fun en Q => ta en fun rs en1 => match rs with
  | r :: rs => lent r fun i => frzs rs en1 fun ds en2 => en2[i]? = some .dl ∧ p (ds ++ dd) fun r => Q (.tmp r) en2
  | [] => False
theorem frzs_mono {k k' : List D → En → Prop} (h : ∀ ds en, k ds en → k' ds en) : ∀ {rs : List Rv} {en : En}, frzs rs en k → frzs rs en k'
  | [], en, q => h _ _ q
  | r :: rs, en, q => by
    have q : frz r en fun d en1 => frzs rs en1 fun ds en2 => k (d :: ds) en2 := q
    show frz r en fun d en1 => frzs rs en1 fun ds en2 => k' (d :: ds) en2
    cases r with
    | tmp x =>
      obtain ⟨d, e, q⟩ := one_cases q
      exact one?.yes e (frzs_mono (fun ds en h' => h _ _ h') q)
    | pl i =>
      obtain ⟨d, e, q⟩ := one_cases q
      exact one?.yes e ((setK_eq _ _ _ _).mpr (frzs_mono (fun ds en h' => h _ _ h') ((setK_eq _ _ _ _).mp q)))
theorem VE.imp {X : Cx} {Ex : EX} {e : Expr} {t t' : TV} (h : VE X Ex e t) (m : ∀ en Q, t' en Q → t en Q) : VE X Ex e t' := ⟨fun G H σ pn en fr fp Q ok tk q => h.run G H σ pn en fr fp Q ok tk (m en Q q)⟩
theorem VA.mono {X : Cx} {Ex : EX} {es : List Expr} {ta : AV} (h : VA X Ex es ta) {en : En} {Q Q' : List Rv → En → Prop} : True := trivial
/-- args' readings carry what follows -/
structure MonoA (ta : AV) : Prop where
  go : ∀ en Q Q', (∀ rs en, Q rs en → Q' rs en) → ta en Q → ta en Q'
section
variable {X : Cx} {Ex : EX} {e : Expr} {es : List Expr} {ta : AV} {x : Str} {pp pos : Pos} {f : Addr} {fd : FuncData} {ps : List Str} {k : Nat} {p : PR}
/-- the arguments' reading, with something that implies what is wanted -/
def aImp (ta : AV) : AV := fun en Q => ∃ Q0, (∀ rs en, Q0 rs en → Q rs en) ∧ ta en Q0
theorem va_imp (h : VA X Ex es ta) : VA X Ex es (aImp ta) := ⟨fun G H σ pn en fr fp Q ok tk ⟨Q0, m, q⟩ => Sy.aSem_mono (h.run G H σ pn en fr fp Q0 ok tk q) fun vs H' ⟨G', en', rs, fp', st, ok', p', q'⟩ => ⟨G', en', rs, fp', st, ok', p', m _ _ q'⟩⟩
theorem ve_callP {dd : List D} {dvs : List V} {dus : List Value} (F : FnV X.prog X.w X.K X.mg X.base k f fd ps (spV X.K (cP p))) (hr : Room k X.A) (free : X.A.guards = some []) (hg : Gl X x) (hm : X.mg x = some (.ref f)) (hk : PySem.W.keepIn X.K (.ref f) = true) (hb : Binds X.K fd ps dus) (hdv : Vals dvs dus) (hdd : ∀ G, RpAll X.K G dvs dd)
    (ha : VA X Ex (e :: es) ta) (hdb : (x == ("__debug__" : Str)) = false := by decide) (he : starEach (e :: es) X.env = (false, eval e X.env) :: starEach es X.env := by rfl) (hpl : (backTo pos (starEach es X.env)).any (·.1) = false := by rfl) :
    VE X Ex (.Call (.Name x pp) (e :: es) [] pos) (eCallP p ta dd) :=
  (ve_call F hr free hg hm hk hb hdv hdd (va_imp ha) hdb he hpl).imp fun en Q q => ⟨_, fun rs en1 h => frzs_mono (fun ds en2 h' => ⟨ds ++ dd, fun r => Q (.tmp r) en2, rfl, fun r _ h => h, h'⟩) h, q⟩
theorem ve_callD {dd : List D} {dvs : List V} {dus : List Value} (F : FnV X.prog X.w X.K X.mg X.base k f fd ps (spV X.K (cDl p))) (hr : Room k X.A) (free : X.A.guards = some []) (hg : Gl X x) (hm : X.mg x = some (.ref f)) (hk : PySem.W.keepIn X.K (.ref f) = true) (hb : Binds X.K fd ps dus) (hdv : Vals dvs dus) (hdd : ∀ G, RpAll X.K G dvs dd)
    (ha : VA X Ex (e :: es) ta) (hdb : (x == ("__debug__" : Str)) = false := by decide) (he : starEach (e :: es) X.env = (false, eval e X.env) :: starEach es X.env := by rfl) (hpl : (backTo pos (starEach es X.env)).any (·.1) = false := by rfl) :
    VE X Ex (.Call (.Name x pp) (e :: es) [] pos) (eCallD p ta dd) :=
  (ve_callS (fun xs Q E ⟨ds, Q0, e, _⟩ => by rw [e]; intro z; cases z) F hr free hg hm hk hb hdv hdd (va_imp ha) hdb he hpl).imp fun en Q q => ⟨_, fun rs en1 h => by
    match rs, h with
    | r :: rs, h =>
      cases r with
      | tmp x => exact h.elim
      | pl i =>
        refine frzs_mono (fun ds en2 h' => ?_) (show frzs rs en1 _ from h)
        obtain ⟨h1, h2⟩ := h'
        have eg : en2.getD i .no = .dl := by rw [List.getD_eq_getElem?_getD, h1]; rfl
        refine ⟨ds ++ dd, fun r => Q (.tmp r) en2, by rw [eg], fun r ys hy hq => ?_, h2⟩
        have : en2.set i (ys.headD .no) = en2 := by
          rw [hy]
          refine List.ext_getElem? fun j => ?_
          by_cases ej : i = j
          · subst ej
            rw [List.getElem?_set_self (List.getElem?_eq_some_iff.mp h1).1, h1]
          · rw [List.getElem?_set_ne ej]
        show Q (.tmp r) (en2.set i (ys.headD .no))
        rw [this]; exact hq, q⟩
end
/-! ### a def's proof -/
/-- what comes back stands still; as it is -/
def retPF (_ : Nat) (r : Rv) (en : En) (Q : Val → En → Prop) : Prop := frz r en fun d en1 => Q (.d d) en1
def retPO (n : Nat) (r : Rv) (en : En) (Q : Val → En → Prop) : Prop := match r with
  | .tmp x => Q x en
  | .pl i => n ≤ i ∧ Q (en.getD i .no) en
abbrev RT1 := Nat → Rv → En → (Val → En → Prop) → Prop
def Ret1 (R : RT1) (R' : RTV) : Prop := RetOk R' ∧ ∀ ws n r en (Q : Val → List Val → Prop) (Q0 : Val → En → Prop), R n r en Q0 → (∀ x en, Q0 x en → Q x (parsV ws n 0 en)) → R' ws n r en Q
theorem ret1F : Ret1 retPF retF := ⟨retF_ok, fun ws n r en Q Q0 h m => by
  cases r with
  | tmp x =>
    obtain ⟨d, e, q⟩ := one_cases (show one? _ _ from h)
    exact one?.yes e (m _ _ q)
  | pl i =>
    obtain ⟨d, e, q⟩ := one_cases (show one? _ _ from h)
    exact one?.yes e ((setK_eq _ _ _ _).mpr (m _ _ ((setK_eq _ _ _ _).mp q)))⟩
theorem ret1O : Ret1 retPO retO := ⟨retO_ok, fun ws n r en Q Q0 h m => by
  cases r with
  | tmp x => exact m _ _ h
  | pl i => exact ⟨h.1, m _ _ h.2⟩⟩
section
variable {P : Program} {w : World} {K : PySem.W.Frag} {mg : Str → Option Value} {base : Heap} {R : RT1} {R' : RTV} {x qual : Str} {st : Stmt} {f : Addr} {fd : FuncData} {N ps : List Str} {k : Nat} {p : PR}
theorem VB.noX {X : Cx} {Ex : EX} {ws : List Nat} {b : List Stmt} {t : SV} (h : VB X noEx ws b t) : VB X Ex ws b t := ⟨fun G H σ pn en fr fp D ok hp tk q => h.run G H σ pn en fr fp D ok hp tk_no q⟩
theorem endsI {X : Cx} {Ex : EX} {ws : List Nat} {b : List Stmt} {t : SV} (ht : VB X noEx ws b t) : VB X Ex ws b (fun D en => ∃ D0 : EndsV, (∀ en, D0.nx en → D.nx en) ∧ (∀ r en, D0.rt r en → D.rt r en) ∧ (∀ en, D0.bk en → D.bk en) ∧ (∀ en, D0.ct en → D.ct en) ∧ t D0 en) :=
  ⟨fun G H σ pn en fr fp D ok hp tk ⟨D0, m1, m2, m3, m4, q⟩ => Sy.bSem_mono (ht.noX.run G H σ pn en fr fp D0 ok hp tk q) (fun σ' H' ⟨G', en', fp', a, b, c⟩ => ⟨G', en', fp', a, b, m1 _ c⟩) (fun v H' ⟨σ', G', en', r, fp', a, b, c, d⟩ => ⟨σ', G', en', r, fp', a, b, c, m2 _ _ d⟩) (fun σ' H' ⟨G', en', fp', a, b, c⟩ => ⟨G', en', fp', a, b, m3 _ c⟩) (fun σ' H' ⟨G', en', fp', a, b, c⟩ => ⟨G', en', fp', a, b, m4 _ c⟩)⟩
theorem fnP (hR : Ret1 R R') (F : Fun K x qual st f fd) (Sc : FnScope N ps (defScope st)) (hl : ∀ ds Q, p ds Q → ds.length = ps.length)
    (hbody : ∀ (cdv : Value) (A : Around) (outer : List Env) (s : Shared) (H : Hp) (E : XK), Room k (A.deeper (envOfC qual (defScope st) s.heap.objs.size f cdv)) → A.guards = some [] → ∀ ds Q, p ds Q →
      ∃ t, VB (cxOf (L2.CX P w) P w K mg base N qual (defScope st) f cdv A outer s H E) noEx [] (defBody st) t ∧ t { nx := fun en => R ps.length (.tmp (.d .non)) en fun x _ => Q x, rt := fun r en => R ps.length r en fun x _ => Q x } (begE N.length (ds.map .d))) :
    FnV P w K mg base (k + 1) f fd ps (spV K (cP p)) :=
  fnV hR.1 [] F Sc (fun xs Q E ⟨ds, Q0, e, _, h⟩ => by rw [e, List.length_map]; exact hl ds Q0 h) fun cdv A outer s H E hr free xs Q Ec ⟨ds, Q0, e, m, h⟩ => by
    obtain ⟨t, ht, q⟩ := hbody cdv A outer s H E hr free ds Q0 h
    subst e
    exact ⟨_, endsI ht, { nx := fun en => R ps.length (.tmp (.d .non)) en fun x _ => Q0 x, rt := fun r en => R ps.length r en fun x _ => Q0 x }, fun en h => hR.2 _ _ _ _ _ _ h fun x en hq => m _ _ hq, fun r en h => hR.2 _ _ _ _ _ _ h fun x en hq => m _ _ hq, fun en h => h, fun en h => h, q⟩
theorem pars0 {en : En} {n : Nat} (h : en[0]? = some .dl) (hn : 0 < n) : (parsV [0] n 0 en).headD .no = .dl := by
  match en, n, h, hn with
  | x :: en, n + 1, h, _ => cases h; rfl
theorem fnD (hR : Ret1 R R') (F : Fun K x qual st f fd) (Sc : FnScope N ps (defScope st)) (hl : ∀ ds Q, p ds Q → ds.length + 1 = ps.length)
    (hbody : ∀ (cdv : Value) (A : Around) (outer : List Env) (s : Shared) (H : Hp) (E : XK), Room k (A.deeper (envOfC qual (defScope st) s.heap.objs.size f cdv)) → A.guards = some [] → ∀ ds Q, p ds Q →
      ∃ t, VB (cxOf (L2.CX P w) P w K mg base N qual (defScope st) f cdv A outer s H E) noEx [0] (defBody st) t ∧ t { nx := fun en => R ps.length (.tmp (.d .non)) en fun x en => en[0]? = some .dl ∧ Q x, rt := fun r en => R ps.length r en fun x en => en[0]? = some .dl ∧ Q x } (begE N.length (.dl :: ds.map .d))) :
    FnV P w K mg base (k + 1) f fd ps (spV K (cDl p)) :=
  fnV hR.1 [0] F Sc (fun xs Q E ⟨ds, Q0, e, _, h⟩ => by rw [e, List.length_cons, List.length_map]; exact hl ds Q0 h) fun cdv A outer s H E hr free xs Q Ec ⟨ds, Q0, e, m, h⟩ => by
    obtain ⟨t, ht, q⟩ := hbody cdv A outer s H E hr free ds Q0 h
    have hn : 0 < ps.length := by have := hl ds Q0 h; omega
    subst e
    exact ⟨_, endsI ht, { nx := fun en => R ps.length (.tmp (.d .non)) en fun x en => en[0]? = some .dl ∧ Q0 x, rt := fun r en => R ps.length r en fun x en => en[0]? = some .dl ∧ Q0 x }, fun en h => hR.2 _ _ _ _ _ _ h fun x en hq => m _ _ (pars0 hq.1 hn) hq.2, fun r en h => hR.2 _ _ _ _ _ _ h fun x en hq => m _ _ (pars0 hq.1 hn) hq.2, fun en h => h, fun en h => h, q⟩
end
/-! ### from the other layer -/
section
variable {P : Program} {w : World} {K : PySem.W.Frag} {mg : Str → Option Value} {base : Heap} {f : Addr} {fd : FuncData} {ps : List Str} {k : Nat}
theorem FnV.ofG {sp sp' : Sp} (F : Sy.FnG P w K mg base k f fd ps sp) (h : ∀ vs H Q E, sp' vs H Q E → sp vs H Q (fun _ _ _ => False)) : FnV P w K mg base k f fd ps sp' :=
  ⟨fun vs H Q E q => F.arity _ _ _ _ (h _ _ _ _ q), fun hr free e0 b r q => codeAny_mono (F.go hr free e0 b r (h _ _ _ _ q)) fun res s' z => by
    match res, z with
    | .ok (.ret u), z => exact z
    | .ok .next, z => exact z
    | .ok .brk, z => exact z
    | .ok .cont, z => exact z
    | .error e, z => exact (show False from z).elim⟩
theorem FnV.toG {sp sp' : Sp} (F : FnV P w K mg base k f fd ps sp) (h : ∀ vs H Q E, sp' vs H Q E → sp vs H Q (fun _ _ _ => False)) : Sy.FnG P w K mg base k f fd ps sp' :=
  ⟨fun vs H Q E q => F.arity _ _ _ _ (h _ _ _ _ q), fun hr free e0 b r q => codeAny_mono (F.go hr free e0 b r (h _ _ _ _ q)) fun res s' z => by
    match res, z with
    | .ok (.ret u), z => exact z
    | .ok .next, z => exact z
    | .ok .brk, z => exact z
    | .ok .cont, z => exact z
    | .error e, z =>
      obtain ⟨_, _, _, _, _, _, _, _, _, _, _, _, q⟩ := z
      exact q.elim⟩
theorem rpAll_get {G : Hp} : ∀ {vs : List V} {ds : List D} {i : Nat} {d : D}, RpAll K G vs ds → ds[i]? = some d → ∃ v, vs[i]? = some v ∧ Rp K G v d := rp_get
/-- a drawing def -/
theorem draw_ofG {p : Sy.PR} (F : Sy.FnG P w K mg base k f fd ps (Sy.spD K (Sy.cDl p))) (h0 : ∀ {ds : List D} {Q0 : Val → Prop}, p ds (fun d => Q0 (.d d)) → p ds fun d => ∃ d', Sy.Sv.d d = .d d' ∧ [Sy.Cell.dl 1, .hid] = [.dl 1, .hid] ∧ Q0 (.d d')) : FnV P w K mg base k f fd ps (spV K (cDl fun ds Q => p ds fun d => Q (.d d))) :=
  FnV.ofG F fun vs H Q E ⟨G, xs, fp, Qc, Ec, sm, r, nd, out, ⟨ds, Q0, e, m, h⟩, fin, _⟩ => by
    subst e
    cases r with
    | @cons v0 vs _ _ g g2 r1 r2 =>
      have rd := rpAll_of r2
      have e2 : g2 = [] := by
        have : ∀ {vs : List V} {ds : List D} {f : List Addr}, VRs K G H vs (ds.map .d) f → f = [] := by
          intro vs ds
          induction ds generalizing vs with
          | nil => intro f h; cases h; rfl
          | cons d ds ih =>
            intro f h
            cases h with
            | cons a b => cases a; exact ih b
        exact this r2
      subst e2
      rw [List.append_nil] at nd out fin
      cases r1 with
      | @dl a l sd nm ns h1 h2 h3 h4 h5 h6 =>
        have hal : a ≠ l := fun z => by rw [z] at nd; simp at nd
        have sva : Sy.SvA K G [a, l] vs (ds.map .d) := Sy.rpAll_sv rd
        have hlen : vs.length = ds.length := rpAll_len rd
        have notLiv : ∀ {S : List Sy.Cell} {as : List Addr} {x : Addr}, as = [a, l] → x ∉ [a, l] → ¬ Sy.Liv S as x := fun {S as x} e n ⟨k, c, _, h2, _⟩ => by
          rw [e] at h2
          exact n (List.mem_of_getElem? h2)
        refine ⟨G, [a, l], .r 0 :: ds.map .d, [.dl 1, .hid], fun r S' => ∃ d, r = .d d ∧ S' = [.dl 1, .hid] ∧ Q0 (.d d), ⟨sm, rfl, by simp [hlen], ?_, ?_, ?_, ?_, ?_⟩, by simp [hlen], ⟨ds, rfl, rfl, ?_⟩, ?_⟩
        · intro i j b hi hj
          match i, j with
          | 0, 0 => rfl
          | 1, 1 => rfl
          | 0, 1 => cases hi; cases hj; exact absurd rfl hal
          | 1, 0 => cases hi; cases hj; exact absurd rfl hal
          | i + 2, _ => cases hi
          | 0, j + 2 => cases hj
          | 1, j + 2 => cases hj
        · intro i b hi
          match i with
          | 0 => cases hi; rw [h1]; intro z; cases z
          | 1 => cases hi; rw [h2]; intro z; cases z
          | i + 2 => cases hi
        · intro b ⟨i, c, _, hb, _⟩
          exact out b (List.mem_of_getElem? hb)
        · intro i y hy
          match i with
          | 0 => cases hy; exact .inr ⟨.ref a, rfl, .r rfl⟩
          | i + 1 =>
            have hy : (ds.map Sy.Sv.d)[i]? = some y := hy
            rw [List.getElem?_map] at hy
            obtain ⟨d, hd, rfl⟩ := Option.map_eq_some_iff.mp hy
            obtain ⟨v, hv, rv⟩ := rp_get rd hd
            refine .inr ⟨v, ?_, .d rv⟩
            show (vs.map some)[i]? = some (some v)
            rw [List.getElem?_map, hv]; rfl
        · intro i c b hc hb
          match i with
          | 0 => cases hc; cases hb; exact .dl (j := 1) rfl h1 h3 h4 h5
          | 1 => cases hc; cases hb; exact .hid h2 h6
          | i + 2 => cases hc
        · exact h0 h
        · intro v H' G' as' r S' st ok ⟨d, er, eS, hq⟩
          subst er eS
          have hl' : as'.length = 2 := ok.len
          have e0 : as' = [a, l] := by
            match as', hl' with
            | [b, c], _ =>
              have h7 := st.pre 0 a rfl
              have h8 := st.pre 1 l rfl
              cases h7; cases h8; rfl
          subst e0
          have rv : Rp K G' v d := by
            rcases ok.sv 0 (.d d) rfl with z | ⟨u, z, ru⟩
            · cases z
            · cases z; exact Sy.svd ru
          have c0 := ok.ce 0 (.dl 1) a rfl rfl
          have c1 := ok.ce 1 .hid l rfl rfl
          have vrdl : VR K G' H' (.ref a) .dl [a, l] := by
            cases c0 with
            | @dl _ l' sd' nm' k1 k2 k3 k4 k5 =>
              cases k1
              cases c1 with
              | hid k6 k7 => exact .dl k2 k6 k3 k4 k5 k7
          have rest := vrs_d (H := H') (rd.mono st.g)
          refine fin v (.d d) (.dl :: ds.map .d) G' H' ([] ++ ([a, l] ++ [])) ⟨st.g, st.dom, fun b o e n => st.fr b o e (notLiv rfl n), fun b m => .inl (by simpa using m), fun b e => ?_⟩ ok.same (.cons (.d rv) (.cons vrdl rest)) (by simpa using nd) (fun b m => ?_) (m _ _ rfl hq)
          · rcases st.gd b e with z | ⟨i, c, _, hb, _⟩ | z
            · exact .inl z
            · exact .inr (.inl (List.mem_of_getElem? hb))
            · exact .inr (.inr z)
          · have m : b ∈ [a, l] := by simpa using m
            rcases List.mem_cons.mp m with z | z
            · rw [z]; exact ok.out a ⟨0, .dl 1, rfl, rfl, rfl⟩
            · rw [List.mem_singleton.mp z]; exact ok.out l ⟨1, .hid, rfl, rfl, rfl⟩
end
end Vy
namespace Vy
open PySem PySem.Spec PyProof.Rows L2
open Sy (D Rp RpAll RpK RpF rpAll_app rpAll_len tSem tSem_mono tSem_of pe_sem aSem aSem_mono pa_sem dealK one? one_cases both both_cases IfB rp_int rp_str rp_bl iSemT iSemT_of iSemT_mono pi_sem Sk SqB sqB_any)
section
variable {P : Program} {w : World} {K : PySem.W.Frag} {mg : Str → Option Value} {base : Heap} {f : Addr} {fd : FuncData} {ps : List Str} {k : Nat}
def pDeal : PR := fun ds Q => ∃ (ns : List Int) (b : Int), ds = [.scr (ns.map .int), .int b] ∧ (ns.length ≤ 63 ∧ 0 ≤ b ∧ b ≤ 1000) ∧ Q .dl
theorem deal_ofG (F : Sy.FnG P w K mg base k f fd ps (Sy.spD K Sy.cDeal)) : FnV P w K mg base k f fd ps (spV K (cP pDeal)) :=
  FnV.ofG F fun vs H Q E ⟨G, xs, fp, Qc, Ec, sm, r, nd, out, ⟨ds, Q0, e, m, ns, b, e2, hb, hq⟩, fin, _⟩ => by
    subst e e2
    have rd := rpAll_of (ds := [.scr (ns.map .int), .int b]) r
    cases rd with
    | @cons v1 _ _ _ a1 rd =>
      cases rd with
      | @cons v2 _ _ _ a2 rd =>
        cases rd
        refine ⟨G, [], [.d (.scr (ns.map .int)), .d (.int b)], [], fun r S' => r = .r 0 ∧ S' = [.dl 1, .hid], ⟨sm, rfl, by simp, fun _ _ _ h => by simp at h, fun _ _ h => by simp at h, fun x ⟨_, _, h, _⟩ => by simp at h, fun i x hx => ?_, fun _ _ _ h => by simp at h⟩, rfl, ⟨ns, b, rfl, rfl, hb, rfl, rfl⟩, fun v H' G' as' r S' st ok ⟨er, eS⟩ => ?_⟩
        · match i with
          | 0 => cases hx; exact .inr ⟨v1, rfl, .d a1⟩
          | 1 => cases hx; exact .inr ⟨v2, rfl, .d a2⟩
          | i + 2 => cases hx
        · subst er eS
          have hl' : as'.length = 2 := ok.len
          obtain ⟨a, l, e0⟩ : ∃ a l, as' = [a, l] := by
            match as', hl' with
            | [b, c], _ => exact ⟨b, c, rfl⟩
          subst e0
          have ev : v = .ref a := by
            rcases ok.sv 0 (.r 0) rfl with z | ⟨u, z, ru⟩
            · cases z
            · cases z
              obtain ⟨b, hb, e⟩ := Sy.svr ru
              cases hb; exact e
          subst ev
          have c0 := ok.ce 0 (.dl 1) a rfl rfl
          have c1 := ok.ce 1 .hid l rfl rfl
          have vrdl : VR K G' H' (.ref a) .dl [a, l] := by
            cases c0 with
            | @dl _ l' sd' nm' k1 k2 k3 k4 k5 =>
              cases k1
              cases c1 with
              | hid k6 k7 => exact .dl k2 k6 k3 k4 k5 k7
          have rest : VRs K G' H' [v1, v2] ([D.scr (ns.map .int), .int b].map .d) [] := vrs_d (.cons (a1.mono st.g) (.cons (a2.mono st.g) .nil))
          have hal : a ≠ l := fun z => by
            have := ok.nd 0 1 a rfl (by rw [z]; rfl)
            cases this
          have hfp : fp = [] := by
            have : ∀ {vs : List V} {ds : List D} {f : List Addr}, VRs K G H vs (ds.map .d) f → f = [] := by
              intro vs ds
              induction ds generalizing vs with
              | nil => intro f h; cases h; rfl
              | cons d ds ih =>
                intro f h
                cases h with
                | cons a b => cases a; exact ih b
            exact this (ds := [.scr (ns.map .int), .int b]) r
          subst hfp
          have noLiv : ∀ x, ¬ Sy.Liv ([] : List Sy.Cell) [] x := fun x ⟨_, _, h, _⟩ => by simp at h
          refine fin (.ref a) .dl _ G' H' ([a, l] ++ []) ⟨st.g, st.dom, fun b o e n => st.fr b o e (noLiv b), fun b m => ?_, fun b e => ?_⟩ ok.same (.cons vrdl rest) (by simp [hal]) (fun b m => ?_) (m _ _ hq)
          · have m : b ∈ [a, l] := by simpa using m
            rcases List.mem_cons.mp m with z | z
            · rw [z]; exact .inr (st.new 0 a rfl (Nat.zero_le _))
            · rw [List.mem_singleton.mp z]; exact .inr (st.new 1 l rfl (Nat.zero_le _))
          · rcases st.gd b e with z | z | z
            · exact .inl z
            · exact absurd z (noLiv b)
            · exact .inr (.inr z)
          · have m : b ∈ [a, l] := by simpa using m
            rcases List.mem_cons.mp m with z | z
            · rw [z]; exact ok.out a ⟨0, .dl 1, rfl, rfl, rfl⟩
            · rw [List.mem_singleton.mp z]; exact ok.out l ⟨1, .hid, rfl, rfl, rfl⟩
/-! ### the law -/
def pLaw : PR := fun ds Q => ∃ ns : List Int, ds = [.scr (ns.map .int)] ∧ ns.length ≤ 63 ∧ Q (.d (.bl true))
theorem law_toG (F : FnV P w K mg base k f fd ps (spV K (cP pLaw))) : Sy.FnG P w K mg base k f fd ps (spV K (cP pLaw)) :=
  F.toG fun vs H Q E ⟨G, xs, fp, Qc, Ec, a1, a2, a3, a4, h, a5, a6⟩ => ⟨G, xs, fp, Qc, fun _ _ => False, a1, a2, a3, a4, h, a5, fun _ _ _ _ _ _ _ _ _ _ _ _ _ z => z⟩
theorem law_in {H : Hp} {a : Addr} {ns : List Int} {Q : VK} {E : XK} (hl : ns.length ≤ 63) (hS : SqL K H a (ns.map V.int)) (hQ : ∀ H', Q (.bl true) H') : spV K (cP pLaw) [.ref a] H Q E := by
  refine ⟨H, [.d (.scr (ns.map .int))], [], fun r _ => r = .d (.bl true), fun _ _ => False, Same.refl H, .cons (f := []) (.d (.scr hS (Sy.rp_ints ns))) .nil, List.nodup_nil, (fun _ m => nomatch m), ⟨_, fun r => r = .d (.bl true), rfl, fun r ys h => h, ns, rfl, hl, rfl⟩, fun v r ys G' H' fp' _ _ rr _ _ e => ?_, fun _ _ _ _ _ _ _ _ _ _ _ _ _ z => z.elim⟩
  subst e
  cases rr with
  | cons r1 _ =>
    cases r1 with
    | d r1 => rw [rp_bl r1]; exact hQ H'
end
/-! ### enumerate, zip, reversed -/
def numbered : Nat → List D → List D
  | _, [] => []
  | i, d :: r => .tup [.int (i : Nat), d] :: numbered (i + 1) r
theorem numbered_get : ∀ {ds : List D} {k i : Nat} {x : D}, (numbered k ds)[i]? = some x → ∃ d, ds[i]? = some d ∧ x = .tup [.int ((k + i : Nat) : Int), d]
  | [], k, i, x, h => by cases h
  | d :: r, k, 0, x, h => by cases h; exact ⟨d, rfl, rfl⟩
  | d :: r, k, i + 1, x, h => by
    obtain ⟨d', h1, h2⟩ := numbered_get (ds := r) (k := k + 1) (i := i) (show (numbered (k + 1) r)[i]? = some x from h)
    exact ⟨d', h1, by rw [h2]; congr 3; omega⟩
theorem numbered_len : ∀ (ds : List D) (k : Nat), (numbered k ds).length = ds.length
  | [], _ => rfl
  | d :: r, k => by show (numbered (k + 1) r).length + 1 = _; rw [numbered_len r]; rfl
section
variable {K : PySem.W.Frag}
theorem itV_enum {a : Addr} {vs : List V} {ds : List D} {G0 : Hp} (h1 : SqL K G0 a vs) (h2 : RpAll K G0 vs ds) : ItV K (Ite K a) (numbered 0 ds) G0 where
  go := fun i y G H hi sg sh => by
    have hL : SqL K H a vs := (sg.trans sh).seq h1
    obtain ⟨d, hd, rfl⟩ := numbered_get hi
    obtain ⟨v, e1, r1⟩ := rp_get (h2.mono sg) hd
    refine ⟨⟨vs, v, hL, e1⟩, fun w H' ⟨T, z, ew, hT, eH, hw⟩ => ?_⟩
    subst ew eH
    have ez := hw vs hL
    rw [e1] at ez
    cases ez
    refine ⟨_, .grow sh hT (.tup (SqT.of upd_same) (.cons ?_ (.cons (r1.mono (Sy.same_new (g_none' sh hT))) .nil)))⟩
    rw [Nat.zero_add]
    exact .int _
  stop := fun G H sg sh => by
    refine ⟨vs, (sg.trans sh).seq h1, ?_⟩
    rw [numbered_len, ← rpAll_len h2]
    exact Nat.le_refl _
theorem itV_enumT {a : Addr} {vs : List V} {ds : List D} {G0 : Hp} (h1 : SqT K G0 a vs) (h2 : RpAll K G0 vs ds) : ItV K (IteT K a) (numbered 0 ds) G0 where
  go := fun i y G H hi sg sh => by
    have hL : SqT K H a vs := Sy.sqT_mono (sg.trans sh) h1
    obtain ⟨d, hd, rfl⟩ := numbered_get hi
    obtain ⟨v, e1, r1⟩ := rp_get (h2.mono sg) hd
    refine ⟨⟨vs, v, hL, e1⟩, fun w H' ⟨T, z, ew, hT, eH, hw⟩ => ?_⟩
    subst ew eH
    have ez := hw vs hL
    rw [e1] at ez
    cases ez
    refine ⟨_, .grow sh hT (.tup (SqT.of upd_same) (.cons ?_ (.cons (r1.mono (Sy.same_new (g_none' sh hT))) .nil)))⟩
    rw [Nat.zero_add]
    exact .int _
  stop := fun G H sg sh => by
    refine ⟨vs, Sy.sqT_mono (sg.trans sh) h1, ?_⟩
    rw [numbered_len, ← rpAll_len h2]
    exact Nat.le_refl _
end
/-- enumerate of a list or a tuple: both made the same way -/
theorem pi_enumT {X : Cx} {e : Expr} {ta : TA} {p pos tpos : Pos} {elts : List Expr} {kk : Nat} (hg : Gl X "enumerate") (hm : X.mg "enumerate" = none) (ha : PA X [e] ta) (hs : starEach [e] X.env = [(false, eval e X.env)] := by rfl) :
    PI X (.Tuple elts kk tpos) (.Call (.Name "enumerate" p) [e] [] pos) (fun σ H R => ta σ H fun vs H1 => ∃ a xs, vs = [.ref a] ∧ ((SqL X.K H1 a xs ∧ R (Ite X.K a) H1) ∨ (SqT X.K H1 a xs ∧ R (IteT X.K a) H1))) := ⟨fun pins s σ H R I h => by
  refine Call_ (ld_blt I hg hm boot_enumerate (PyProof.Rows.callWith_type1 (thn (ha.run pos pins s σ H _ I h) fun us t ⟨vs, H1, I1, rel, q1⟩ => ?_) hs rfl))
  obtain ⟨a, xs, ex, q⟩ := q1
  subst ex
  cases rel with
  | @cons _ u _ us' r rest =>
    cases rest
    cases r
    rcases q with ⟨hq, q⟩ | ⟨hq, q⟩
    · obtain ⟨its, rv, p', hz⟩ := I1.list hq
      refine call_enumerate_list p'.isList fun h' he hit hsz hk => wpAny_pyIter_enum he ?_
      have I2 : Inv X pins σ H1 { t with heap := h' } := I1.kept (t' := t.toks) hk
      refine ⟨t.heap.objs.size + 1, [t.heap.objs.size + 1, t.heap.objs.size], _, _, H1, rfl, I2, turn_enum a (t.heap.objs.size + 1) t.heap.objs.size, ⟨⟨.none, he⟩, hit, Nat.succ_ne_self _⟩, fun b hb => ?_, q⟩
      have lb : t.heap.objs.size ≤ b := by
        rcases (show b = t.heap.objs.size + 1 ∨ b = t.heap.objs.size by simpa using hb) with z | z
        · rw [z]; exact Nat.le_add_right _ _
        · rw [z]; exact Nat.le_refl _
      exact I1.fpOk lb (I1.hok.fresh lb)
    · obtain ⟨ws, rv, p', _⟩ := I1.tuple hq
      refine enumT_make p' fun hp' he hit hk => wpAny_pyIter_enum he ?_
      have I2 : Inv X pins σ H1 { t with heap := hp' } := I1.kept (t' := t.toks) hk
      refine ⟨t.heap.objs.size + 1, [t.heap.objs.size + 1, t.heap.objs.size], _, _, H1, rfl, I2, turn_enumT a (t.heap.objs.size + 1) t.heap.objs.size, ⟨⟨.none, he⟩, hit, Nat.succ_ne_self _⟩, fun b hb => ?_, q⟩
      have lb : t.heap.objs.size ≤ b := by
        rcases (show b = t.heap.objs.size + 1 ∨ b = t.heap.objs.size by simpa using hb) with z | z
        · rw [z]; exact Nat.le_add_right _ _
        · rw [z]; exact Nat.le_refl _
      exact I1.fpOk lb (I1.hok.fresh lb)⟩
section
variable {X : Cx} {Ex : EX} {tg e e2 : Expr} {te : TV} {ta : AV} {p pos tpos : Pos}
/-- rows as they are handed to a built-in that walks them: they stand still -/
def iEnum (te : TV) : IV := fun en R => te en fun r en1 => frz r en1 fun d en2 => one? (seqD d) fun p => R (numbered 0 p.2) en2
theorem vi_enum {elts : List Expr} {kk : Nat} (hg : Gl X "enumerate") (hm : X.mg "enumerate" = none) (he : VE X Ex e te) (hs : starEach [e] X.env = [(false, eval e X.env)] := by rfl) :
    VI X Ex (.Tuple elts kk tpos) (.Call (.Name "enumerate" p) [e] [] pos) (iEnum te) := ⟨fun G H σ pn en fr fp R ok tk q =>
  iSemT_of (pi_enumT hg hm (pa_cons (pe_sem X e) pa_nil hs) hs) (by
    refine tSem_mono (he.run G H σ pn en fr fp _ ok tk q) fun v H1 ⟨G1, en1, r1, fp1, st1, ok1, p1, q1⟩ => ?_
    obtain ⟨G2, fp2, en2, d, st2, ok2, rp, q2⟩ := frz_ok ok1 p1 q1
    obtain ⟨⟨b, xs⟩, e1, q3⟩ := one_cases q2
    obtain ⟨a, vs, ev, h1, h2⟩ := seqD_ok rp e1
    subst ev
    have st := st1.trans st2
    cases b with
    | l => exact ⟨a, vs, rfl, .inl ⟨SqL.of (ok2.same _ _ h1), G2, en2, fp2, _, st, ok2, itV_enum (SqL.of h1) h2, q3⟩⟩
    | s => exact ⟨a, vs, rfl, .inl ⟨ok2.same.seq h1, G2, en2, fp2, _, st, ok2, itV_enum h1 h2, q3⟩⟩
    | t => exact ⟨a, vs, rfl, .inr ⟨Sy.sqT_mono ok2.same h1, G2, en2, fp2, _, st, ok2, itV_enumT h1 h2, q3⟩⟩)⟩
end
/-! ### methods of texts -/
section
variable {X : Cx} {Ex : EX} {o e : Expr} {to te : TV} {apos pos : Pos}
def eJoin (to te : TV) : TV := fun en Q => to en fun r1 en1 => one? (vof en1 r1).str? fun a => te en1 fun r2 en2 => one? ((sqv (vof en2 r2)).bind fun p => Sy.strsD p.2) fun ys => (ys.map (·.length)).sum + ys.length * a.length ≤ 16777216 ∧ Q (.tmp (.d (.str (Txt.join a ys)))) en2
theorem ve_m_join (ho : VE X Ex o to) (ha : VE X Ex e te) (hs : starEach [e] X.env = [(false, eval e X.env)] := by rfl) (hbase : attributeBase o "join" X.env (eval o X.env) = eval o X.env := by rfl) (hline : (apos.endLine == pos.line) = true := by rfl) :
    VE X Ex (.Call (.Attribute o "join" apos) [e] [] pos) (eJoin to te) := ⟨fun G H σ pn en fr fp Q ok tk q => tSem_of (pe_join (pe_sem X o) (pe_sem X e) hs hbase hline) (by
  refine tSem_mono (ho.run G H σ pn en fr fp _ ok tk q) fun v H1 ⟨G1, en1, r1, fp1, st1, ok1, p1, q1⟩ => ?_
  obtain ⟨a, ea, q2⟩ := one_cases q1
  have x1 := OkV.val (rest := []) (by rw [List.append_nil]; exact ok1) p1
  have ev := vx_str x1 ea
  refine ⟨⟨a, ev⟩, ?_⟩
  refine tSem_mono (ha.run G1 H1 σ pn en1 _ fp1 _ ok1 (tk.step st1).push q2) fun u H2 ⟨G2, en2, r2, fp2, st2, ok2, p2, q3⟩ => ?_
  obtain ⟨ys, ey, hz, q4⟩ := one_cases q3
  obtain ⟨⟨b, zs⟩, e1, e2⟩ := Option.bind_eq_some_iff.mp ey
  have x2 := OkV.val (rest := []) (by rw [List.append_nil]; exact ok2) p2
  obtain ⟨p, vs, eu, h1, h2⟩ := sqv_ok ok2.same x2 e1
  have e5 := Sy.strsD_ok h2 e2
  subst e5
  rw [List.append_assoc] at ok2
  exact ⟨a, p, ys, ev, by rw [eu], sqB_any h1, hz, OnR.from (st1.trans st2) (OnR.old ok2 (.str _) q4)⟩)⟩
/-- text.index(text), where it is found; list.index(text) likewise -/
def eIdx (to te : TV) : TV := fun en Q => to en fun r1 en1 => one? (vof en1 r1).str? fun a => te en1 fun r2 en2 => one? (vof en2 r2).str? fun b => one? (Builtin.Str.occurrences a b 0 a.length 1).head? fun i => Q (.tmp (.d (.int (i : Nat)))) en2
theorem ve_m_index (ho : VE X Ex o to) (ha : VE X Ex e te) (hs : starEach [e] X.env = [(false, eval e X.env)] := by rfl) (hbase : attributeBase o "index" X.env (eval o X.env) = eval o X.env := by rfl) (hline : (apos.endLine == pos.line) = true := by rfl) :
    VE X Ex (.Call (.Attribute o "index" apos) [e] [] pos) (eIdx to te) := ⟨fun G H σ pn en fr fp Q ok tk q => tSem_of (pe_m1 F.slot_str_index F.type_str_index mt_sindex (pe_sem X o) (pe_sem X e) hs hbase hline) (by
  refine tSem_mono (ho.run G H σ pn en fr fp _ ok tk q) fun v H1 ⟨G1, en1, r1, fp1, st1, ok1, p1, q1⟩ => ?_
  obtain ⟨a, ea, q2⟩ := one_cases q1
  have x1 := OkV.val (rest := []) (by rw [List.append_nil]; exact ok1) p1
  have ev := vx_str x1 ea
  refine ⟨⟨a, ev⟩, ?_⟩
  refine tSem_mono (ha.run G1 H1 σ pn en1 _ fp1 _ ok1 (tk.step st1).push q2) fun u H2 ⟨G2, en2, r2, fp2, st2, ok2, p2, q3⟩ => ?_
  obtain ⟨b, eb, q4⟩ := one_cases q3
  obtain ⟨i, ei, q5⟩ := one_cases q4
  have x2 := OkV.val (rest := []) (by rw [List.append_nil]; exact ok2) p2
  obtain ⟨rest, er⟩ : ∃ rest, Builtin.Str.occurrences a b 0 a.length 1 = i :: rest := by
    cases h : Builtin.Str.occurrences a b 0 a.length 1 with
    | nil => rw [h] at ei; cases ei
    | cons j r => rw [h] at ei; cases ei; exact ⟨r, rfl⟩
  rw [List.append_assoc] at ok2
  exact ⟨a, b, i, rest, ev, by rw [vx_str x2 eb], er, OnR.from (st1.trans st2) (OnR.old ok2 (.int _) q5)⟩)⟩
end
end Vy
namespace Vy
open PySem PySem.Spec PyProof.Rows L2
open RT
open Sy (D Rp RpAll RpK RpF rpAll_app rpAll_len tSem tSem_mono tSem_of pe_sem aSem aSem_mono pa_sem dealK one? one_cases both both_cases IfB rp_int rp_str rp_bl iSemT iSemT_of iSemT_mono pi_sem Sk SqB sqB_any)
section
variable {X : Cx} {Ex : EX} {o e : Expr} {to te : TV} {apos cpos pos : Pos}
/-- list.index(text) -/
def eIdxL (to te : TV) : TV := fun en Q => to en fun r1 en1 => te en1 fun r2 en2 => one? ((sqv (vof en2 r1)).bind fun p => match p.1 with
  | .l => Sy.strsD p.2
  | _ => none) fun ys => one? (vof en2 r2).str? fun b => one? (Sy.idxS b ys) fun j => Q (.tmp (.d (.int (j : Nat)))) en2
theorem lst_here {K : PySem.W.Frag} {G H : Hp} {v : V} {x : Val} {ds : List D} (s : Same G H) (r : VRx K G H v x) (h : sqv x = some (.l, ds)) : ∃ a vs, v = .ref a ∧ H a = some (.lst vs) ∧ RpAll K G vs ds := sqv_ok s r h
theorem ve_indexL (ho : VE X Ex o to) (ha : VE X Ex e te) (hbase : attributeBase o "index" X.env (eval o X.env) = eval o X.env := by rfl)
    (hfew : ((backTo cpos (starEach [e] X.env)).all (fun x => !x.1) && (backToKw cpos (keywordEach [] X.env)).all (fun x => x.1.isSome)
      && decide (([e] : List Expr).length + ([] : List Keyword).length + (if ([] : List Keyword).isEmpty then 0 else 1) < 30)) = true := by rfl)
    (hline : (apos.endLine == cpos.line) = true := by rfl) (hs : starEach [e] X.env = (false, eval e X.env) :: starEach [] X.env := by rfl) (hplain : (backTo cpos (starEach [] X.env)).any (·.1) = false := by rfl) :
    VE X Ex (.Call (.Attribute o "index" apos) [e] [] cpos) (fun en Q => to en fun r1 en1 => one? ((sqv (vof en1 r1)).bind fun p => match p.1 with
      | .l => some p.2
      | _ => none) fun _ => te en1 fun r2 en2 => one? ((sqv (vof en2 r1)).bind fun p => match p.1 with
      | .l => Sy.strsD p.2
      | _ => none) fun ys => one? (vof en2 r2).str? fun b => one? (Sy.idxS b ys) fun j => Q (.tmp (.d (.int (j : Nat)))) en2) := ⟨fun G H σ pn en fr fp Q ok tk q =>
  tSem_of (pe_bm PySem.F.plainAttrs_list PySem.F.slot_list_index PySem.F.type_list_index mt_index (pe_sem X o) (pa_cons (pe_sem X e) pa_nil hs) hbase hfew hline hs hplain) (by
    refine tSem_mono (ho.run G H σ pn en fr fp _ ok tk q) fun v H1 ⟨G1, en1, r1, fp1, st1, ok1, p1, q1⟩ => ?_
    obtain ⟨ds0, e0, q2⟩ := one_cases q1
    obtain ⟨⟨b0, zs0⟩, e01, e02⟩ := Option.bind_eq_some_iff.mp e0
    have x1 := OkV.val (rest := []) (by rw [List.append_nil]; exact ok1) p1
    cases b0 with
    | s => cases e02
    | t => cases e02
    | l =>
      obtain ⟨a0, vs0, ev, h0, _⟩ := lst_here ok1.same x1 e01
      subst ev
      refine ⟨.inl ⟨rfl, vs0, SqL.of h0⟩, ?_⟩
      refine tSem_mono (ha.run G1 H1 σ pn en1 _ fp1 _ ok1 (tk.step st1).push q2) fun u H2 ⟨G2, en2, r2, fp2, st2, ok2, p2, q3⟩ => ?_
      obtain ⟨ys, e2, q4⟩ := one_cases q3
      obtain ⟨b, e3, q5⟩ := one_cases q4
      obtain ⟨j, e4, q6⟩ := one_cases q5
      obtain ⟨⟨b1, zs⟩, e21, e22⟩ := Option.bind_eq_some_iff.mp e2
      have x2 := OkV.val (rest := []) (by rw [List.append_nil]; exact ok2) p2
      rw [List.append_assoc] at ok2
      have x1' := ok2.val p1
      cases b1 with
      | s => cases e22
      | t => cases e22
      | l =>
        obtain ⟨a, vs, ev, h1, h2⟩ := lst_here ok2.same x1' e21
        cases ev
        have e7 := Sy.strsD_ok h2 e22
        subst e7
        obtain ⟨⟨z, h3, h4⟩, h5⟩ := Sy.idxS_ok e4
        exact ⟨a0, ys.map V.str, .str b, j, z, rfl, by rw [vx_str x2 e3], SqL.of h1, rfl, Sy.flat_strs ys, h3, h4, h5, OnR.from (st1.trans st2) (OnR.old ok2 (.int _) q6)⟩)⟩
/-- text.split(text) -/
def eSplit (to te : TV) : TV := fun en Q => to en fun r1 en1 => one? (vof en1 r1).str? fun a => te en1 fun r2 en2 => one? (vof en2 r2).str? fun b => ((b.length == 0) = false ∧ a.length + 2 ≤ sizeLine) ∧ Q (.tmp (.lD ((Txt.split a b).map .str))) en2
theorem ve_m_split (ho : VE X Ex o to) (ha : VE X Ex e te) (hs : starEach [e] X.env = [(false, eval e X.env)] := by rfl) (hbase : attributeBase o "split" X.env (eval o X.env) = eval o X.env := by rfl) (hline : (apos.endLine == pos.line) = true := by rfl) :
    VE X Ex (.Call (.Attribute o "split" apos) [e] [] pos) (eSplit to te) := ⟨fun G H σ pn en fr fp Q ok tk q => tSem_of (pe_m1 F.slot_str_split F.type_str_split mt_split (pe_sem X o) (pe_sem X e) hs hbase hline) (by
  refine tSem_mono (ho.run G H σ pn en fr fp _ ok tk q) fun v H1 ⟨G1, en1, r1, fp1, st1, ok1, p1, q1⟩ => ?_
  obtain ⟨a, ea, q2⟩ := one_cases q1
  have x1 := OkV.val (rest := []) (by rw [List.append_nil]; exact ok1) p1
  have ev := vx_str x1 ea
  refine ⟨⟨a, ev⟩, ?_⟩
  refine tSem_mono (ha.run G1 H1 σ pn en1 _ fp1 _ ok1 (tk.step st1).push q2) fun u H2 ⟨G2, en2, r2, fp2, st2, ok2, p2, q3⟩ => ?_
  obtain ⟨b, eb, ⟨hb, hl⟩, q4⟩ := one_cases q3
  have x2 := OkV.val (rest := []) (by rw [List.append_nil]; exact ok2) p2
  rw [List.append_assoc] at ok2
  refine ⟨a, b, ev, by rw [vx_str x2 eb], hb, hl, fun p hp => OnR.from (st1.trans st2) (OnR.new ok2 (.alloc ok2.same hp (.lD upd_same (Sy.rp_strs _))) q4)⟩)⟩
end
/-! ### zip of lists, reversed -/
def zipD : List D → List D → List D
  | a :: as, b :: bs => .tup [a, b] :: zipD as bs
  | _, _ => []
theorem zipD_get : ∀ {as bs : List D} {i : Nat} {x : D}, (zipD as bs)[i]? = some x → ∃ a b, as[i]? = some a ∧ bs[i]? = some b ∧ x = .tup [a, b]
  | [], _, _, _, h => by cases h
  | _ :: _, [], _, _, h => by cases h
  | a :: as, b :: bs, 0, x, h => by cases h; exact ⟨a, b, rfl, rfl, rfl⟩
  | a :: as, b :: bs, i + 1, x, h => zipD_get (as := as) (bs := bs) (i := i) h
theorem zipD_len : ∀ (as bs : List D), (zipD as bs).length = min as.length bs.length
  | [], _ => by simp [zipD]
  | _ :: _, [] => by simp [zipD]
  | a :: as, b :: bs => by
    show (zipD as bs).length + 1 = _
    rw [zipD_len as bs, List.length_cons, List.length_cons]; omega
theorem itV_zip {K : PySem.W.Frag} {a b : Addr} {vs us : List V} {as bs : List D} {G0 : Hp} (h1 : SqL K G0 a vs) (h2 : RpAll K G0 vs as) (h3 : SqL K G0 b us) (h4 : RpAll K G0 us bs) : ItV K (Itz K a b) (zipD as bs) G0 where
  go := fun i y G H hi sg sh => by
    have hL : SqL K H a vs := (sg.trans sh).seq h1
    have hM : SqL K H b us := (sg.trans sh).seq h3
    obtain ⟨x1, x2, e1, e2, rfl⟩ := zipD_get hi
    obtain ⟨v, f1, r1⟩ := rp_get (h2.mono sg) e1
    obtain ⟨u, f2, r2⟩ := rp_get (h4.mono sg) e2
    refine ⟨⟨vs, us, v, u, hL, hM, f1, f2⟩, fun w H' ⟨T, z1, z2, ew, hT, eH, hw1, hw2⟩ => ?_⟩
    subst ew eH
    have g1 := hw1 vs hL
    have g2 := hw2 us hM
    rw [f1] at g1
    rw [f2] at g2
    cases g1; cases g2
    exact ⟨_, .grow sh hT (.tup (SqT.of upd_same) (.cons (r1.mono (Sy.same_new (g_none' sh hT))) (.cons (r2.mono (Sy.same_new (g_none' sh hT))) .nil)))⟩
  stop := fun G H sg sh => by
    refine ⟨vs, us, (sg.trans sh).seq h1, (sg.trans sh).seq h3, ?_⟩
    rw [zipD_len, ← rpAll_len h2, ← rpAll_len h4]; omega
theorem itV_rev {K : PySem.W.Frag} {a : Addr} {vs : List V} {ds : List D} {G0 : Hp} (h1 : SqL K G0 a vs) (h2 : RpAll K G0 vs ds) : ItV K (Itv K a vs.length) ds.reverse G0 where
  go := fun i y G H hi sg sh => by
    have hL : SqL K H a vs := (sg.trans sh).seq h1
    have hl := rpAll_len h2
    have hlt : i < ds.length := by have := (List.getElem?_eq_some_iff.mp hi).1; rwa [List.length_reverse] at this
    rw [List.getElem?_reverse hlt] at hi
    obtain ⟨v, e1, r1⟩ := rp_get (h2.mono sg) hi
    rw [← hl] at e1
    refine ⟨⟨by omega, vs, v, hL, e1⟩, fun w H' ⟨eH, hw⟩ => ?_⟩
    subst eH
    have := hw vs hL
    rw [e1] at this; cases this
    exact ⟨G, .old sh r1⟩
  stop := fun G H sg sh => by
    show vs.length ≤ _
    rw [List.length_reverse, rpAll_len h2]; exact Nat.le_refl _
theorem itV_revT {K : PySem.W.Frag} {a : Addr} {vs : List V} {ds : List D} {G0 : Hp} (h1 : SqT K G0 a vs) (h2 : RpAll K G0 vs ds) : ItV K (ItvT K a vs.length) ds.reverse G0 where
  go := fun i y G H hi sg sh => by
    have hL : SqT K H a vs := Sy.sqT_mono (sg.trans sh) h1
    have hl := rpAll_len h2
    have hlt : i < ds.length := by have := (List.getElem?_eq_some_iff.mp hi).1; rwa [List.length_reverse] at this
    rw [List.getElem?_reverse hlt] at hi
    obtain ⟨v, e1, r1⟩ := rp_get (h2.mono sg) hi
    rw [← hl] at e1
    refine ⟨⟨by omega, vs, v, hL, e1⟩, fun w H' ⟨eH, hw⟩ => ?_⟩
    subst eH
    have := hw vs hL
    rw [e1] at this; cases this
    exact ⟨G, .old sh r1⟩
  stop := fun G H sg sh => by
    show vs.length ≤ _
    rw [List.length_reverse, rpAll_len h2]; exact Nat.le_refl _
section
variable {X : Cx} {Ex : EX} {tg e e2 : Expr} {te : TV} {ta : AV} {p pos tpos : Pos}
def iRev (te : TV) : IV := fun en R => te en fun r en1 => frz r en1 fun d en2 => one? (seqD d) fun p => R p.2.reverse en2
theorem vi_rev (hg : Gl X "reversed") (hm : X.mg "reversed" = none) (he : VE X Ex e te) (hs : starEach [e] X.env = (false, eval e X.env) :: starEach [] X.env := by rfl) :
    VI X Ex tg (.Call (.Name "reversed" p) [e] [] pos) (iRev te) := ⟨fun G H σ pn en fr fp R ok tk q =>
  iSemT_of (pi_revA hg hm (pe_sem X e) hs) (by
    refine tSem_mono (he.run G H σ pn en fr fp _ ok tk q) fun v H1 ⟨G1, en1, r1, fp1, st1, ok1, p1, q1⟩ => ?_
    obtain ⟨G2, fp2, en2, d, st2, ok2, rp, q2⟩ := frz_ok ok1 p1 q1
    obtain ⟨⟨b, xs⟩, e1, q3⟩ := one_cases q2
    obtain ⟨a, vs, ev, h1, h2⟩ := seqD_ok rp e1
    subst ev
    have st := st1.trans st2
    cases b with
    | l => exact ⟨a, vs, rfl, .inl ⟨SqL.of (ok2.same _ _ h1), G2, en2, fp2, _, st, ok2, itV_rev (SqL.of h1) h2, q3⟩⟩
    | s => exact ⟨a, vs, rfl, .inl ⟨ok2.same.seq h1, G2, en2, fp2, _, st, ok2, itV_rev h1 h2, q3⟩⟩
    | t => exact ⟨a, vs, rfl, .inr ⟨Sy.sqT_mono ok2.same h1, G2, en2, fp2, _, st, ok2, itV_revT h1 h2, q3⟩⟩)⟩
def zipQ (ds : List D) (R : List D → Prop) : Prop := match ds with
  | [d, d2] => one? (seqD d) fun p => one? (seqD d2) fun p2 => p.1 ≠ .t ∧ p2.1 ≠ .t ∧ R (zipD p.2 p2.2)
  | _ => False
def iZip (ta : AV) : IV := fun en R => ta en fun rs en1 => frzs rs en1 fun ds en2 => zipQ ds fun xs => R xs en2
theorem vi_zip {elts : List Expr} {kk : Nat} (hg : Gl X "zip") (hm : X.mg "zip" = none) (ha : VA X Ex [e, e2] ta) (hs : starEach [e, e2] X.env = (false, eval e X.env) :: starEach [e2] X.env := by rfl) (hpl : (backTo pos (starEach [e2] X.env)).any (·.1) = false := by rfl) :
    VI X Ex (.Tuple elts kk tpos) (.Call (.Name "zip" p) [e, e2] [] pos) (iZip ta) := ⟨fun G H σ pn en fr fp R ok tk q =>
  iSemT_of (L2.pi_zip hg hm (pa_sem X [e, e2]) hs hpl) (by
    refine aSem_mono (ha.run G H σ pn en fr fp _ ok tk q) fun vs H1 ⟨G1, en1, rs, fp1, st1, ok1, p1, q1⟩ => ?_
    obtain ⟨G2, fp2, en2, ds, st2, ok2, rp, q2⟩ := frzs_ok ok1 p1 q1
    match ds, rp, q2 with
    | [d, d2], rp, q2 =>
      obtain ⟨⟨b, xs⟩, e1, q3⟩ := one_cases q2
      obtain ⟨⟨b2, ys⟩, e2, hb, hb2, q4⟩ := one_cases q3
      cases rp with
      | @cons v _ _ _ r1 rp =>
        cases rp with
        | @cons u _ _ _ r2 rp =>
          cases rp
          obtain ⟨a, vs, ev, h1, h2⟩ := seqD_ok r1 e1
          obtain ⟨a2, us, eu, h3, h4⟩ := seqD_ok r2 e2
          have l1 : SqL X.K G2 a vs := by
            cases b with
            | l => exact SqL.of h1
            | s => exact h1
            | t => exact absurd rfl hb
          have l2 : SqL X.K G2 a2 us := by
            cases b2 with
            | l => exact SqL.of h3
            | s => exact h3
            | t => exact absurd rfl hb2
          exact ⟨a, a2, vs, us, by rw [ev, eu], ok2.same.seq l1, ok2.same.seq l2, G2, en2, fp2, _, st1.trans st2, ok2, itV_zip l1 h2 l2 h4, q4⟩)⟩
/-- list(reversed(xs)) -/
def eLstRev (te : TV) : TV := fun en Q => te en fun r en1 => match sqv (vof en1 r) with
  | some (.l, xs) => Q (.tmp (.lD xs.reverse)) en1
  | some (.s, xs) => Q (.tmp (.lD xs.reverse)) en1
  | _ => False
end
end Vy
namespace Vy
open PySem PySem.Spec PyProof.Rows L2
open Sy (D)
/-! ### for use in laws' texts -/
def upds (E : En) : List (Nat × Val) → En
  | [] => E
  | (i, x) :: r => (upds E r).set i x
theorem loopI {E : En} {B : (Nat → En → Prop) → Prop} (S : En → Nat → En → Prop) (h : Wk (S E 0) E ∧ B (S E)) : ∃ Iv, Wk (Iv 0) E ∧ B Iv := ⟨S E, h⟩
theorem lcI {E : En} {B : (Nat → List D → En → Prop) → Prop} (S : En → Nat → List D → En → Prop) (h : Wk (S E 0 []) E ∧ B (S E)) : ∃ Iv, Wk (Iv 0 []) E ∧ B Iv := ⟨S E, h⟩
theorem whileI {E : En} {B : (Nat → En → Prop) → Prop} (S : En → Nat → En → Prop) (h : (∃ k, Wk (S E k) E) ∧ B (S E)) : ∃ Iv, (∃ k, Wk (Iv k) E) ∧ B Iv := ⟨S E, h⟩
/-- what a comprehension has made: each item is f of something of which P holds -/
def LcP {α : Type} (f : α → D) (P : Nat → α → Prop) (E : En) (i : Nat) (acc : List D) (en : En) : Prop := en = E ∧ ∃ as : List α, acc = as.map f ∧ as.length = i ∧ ∀ (j : Nat) (a : α), as[j]? = some a → P j a
theorem LcP.nil {α : Type} {f : α → D} {P : Nat → α → Prop} {E : En} : Wk (LcP f P E 0 []) E := .now ⟨rfl, [], rfl, rfl, fun j a h => by cases h⟩
theorem LcP.snoc {α : Type} {f : α → D} {P : Nat → α → Prop} {E en : En} {i : Nat} {as : List α} {d : D} (a : α) (hl : as.length = i) (hP : ∀ (j : Nat) (a : α), as[j]? = some a → P j a) (e : en = E) (hd : d = f a) (hp : P i a) : Wk (LcP f P E (i + 1) (as.map f ++ [d])) en :=
  .now ⟨e, as ++ [a], by rw [hd, List.map_append]; rfl, by rw [List.length_append, hl]; rfl, fun j b h => by
    by_cases hj : j < as.length
    · rw [List.getElem?_append_left hj] at h; exact hP j b h
    · rw [List.getElem?_append_right (by omega)] at h
      have : j = i := by
        have := (List.getElem?_eq_some_iff.mp h).1
        simp at this; omega
      subst this
      rw [hl, Nat.sub_self] at h
      cases h; exact hp⟩
theorem get_lt {α : Type} {l : List α} {i : Nat} {x : α} (h : l[i]? = some x) : i < l.length := (List.getElem?_eq_some_iff.mp h).1
theorem rng_get {lo : Int} {n i : Nat} {x : D} (h : (rng lo n)[i]? = some x) : x = .int (lo + (i : Nat)) ∧ i < n := by
  unfold rng at h
  rw [List.getElem?_map] at h
  obtain ⟨c, e, rfl⟩ := Option.map_eq_some_iff.mp h
  have hl : i < n := by have := (List.getElem?_eq_some_iff.mp e).1; simpa using this
  rw [List.getElem?_range hl] at e
  cases e
  exact ⟨rfl, hl⟩
theorem rng_len (lo : Int) (n : Nat) : (rng lo n).length = n := by unfold rng; rw [List.length_map, List.length_range]
theorem map_get {α : Type} {f : α → D} {ts : List α} {i : Nat} {x : D} (h : (ts.map f)[i]? = some x) : ∃ t, ts[i]? = some t ∧ x = f t ∧ t ∈ ts := by
  rw [List.getElem?_map] at h
  obtain ⟨t, e, rfl⟩ := Option.map_eq_some_iff.mp h
  exact ⟨t, e, rfl, List.mem_of_getElem? e⟩
theorem atI_map {α : Type} (f : α → D) (xs : List α) (i : Int) : atI (xs.map f) i = (atI xs i).map f := by
  unfold atI
  rw [List.length_map]
  cases ixN xs.length i with
  | none => rfl
  | some k => show (xs.map f)[k]? = _; rw [List.getElem?_map]; rfl
theorem atI_ge {α : Type} {xs : List α} {i : Int} (h0 : 0 ≤ i) (h1 : i < (xs.length : Int)) : ∃ x, xs[i.toNat]? = some x ∧ atI xs i = some x := by
  obtain ⟨x, hx, e⟩ := Sy.atI_in h0 h1
  refine ⟨x, ?_, e⟩
  have hn : i.toNat < xs.length := by omega
  have e2 : atI xs ((i.toNat : Nat) : Int) = some xs[i.toNat] := L2.atI_nat (List.getElem?_eq_getElem hn)
  rw [Int.toNat_of_nonneg h0] at e2
  rw [List.getElem?_eq_getElem hn, ← e2, e]
theorem blsD_rep (n : Nat) (b : Bool) : Sy.blsD (List.replicate n (D.bl b)) = some (List.replicate n b) := Sy.blsD_rep n b
/-- all in a list, from what is known by places -/
theorem all_of {α : Type} {P : α → Prop} {as : List α} (h : ∀ (j : Nat) (a : α), as[j]? = some a → P a) : ∀ a ∈ as, P a := fun a m => by
  obtain ⟨j, hj, e⟩ := List.mem_iff_getElem.mp m
  exact h j a (by rw [List.getElem?_eq_getElem hj, e])
theorem sum_le {ys : List Str} {k : Nat} (h : ∀ y ∈ ys, y.length ≤ k) : (ys.map (·.length)).sum ≤ ys.length * k := by
  induction ys with
  | nil => simp
  | cons a r ih =>
    rw [List.map_cons, List.sum_cons, List.length_cons, Nat.succ_mul]
    have := h a (by simp)
    have := ih fun y hy => h y (by simp [hy])
    omega
theorem join0_len : ∀ (ys : List Str), (Txt.join "" ys).length = (ys.map (·.length)).sum := fun ys => by
  rw [_root_.TL.join_eq]
  have e0 : ("" : Str).length = 0 := by decide +kernel
  induction ys with
  | nil => rfl
  | cons a r ih =>
    cases r with
    | nil => show a.length = _; simp
    | cons b r =>
      show ((a ++ "" ++ Str.join "" (b :: r)) : Str).length = _
      have e1 : ((a :: b :: r).map (fun x : Str => x.length)).sum = a.length + ((b :: r).map (fun x : Str => x.length)).sum := by rw [List.map_cons, List.sum_cons]
      rw [strLen_append, strLen_append, ih, e0, e1]; omega
/-- every sign of a text is such a one -/
def AllS (p : Nat → Prop) (s : Str) : Prop := ∀ c ∈ s.cps.toList, p c
section
variable {p q : Nat → Prop}
theorem AllS.app {a b : Str} (h : AllS p a) (h' : AllS p b) : AllS p (a ++ b) := fun c hc => by
  have e : (a ++ b).cps.toList = a.cps.toList ++ b.cps.toList := Array.toList_append
  rw [e] at hc
  rcases List.mem_append.mp hc with hc | hc
  · exact h c hc
  · exact h' c hc
theorem AllS.cut {s : Str} {lo hi : Option Int} (h : AllS p s) : AllS p (cutS s lo hi) := fun c hc => by
  unfold cutS at hc
  exact h c (List.mem_of_mem_drop (List.mem_of_mem_take hc))
theorem AllS.rep {x : Str} {n : Int} (h : AllS p x) : AllS p (Sy.repS x n) := fun c hc => by
  unfold Sy.repS at hc
  by_cases hn : n < 1
  · rw [if_pos hn] at hc
    exact absurd hc (by show c ∉ ([] : List Nat); exact List.not_mem_nil)
  · rw [if_neg hn] at hc
    by_cases h2 : (n == 1 || x.length == 0) = true
    · rw [if_pos h2] at hc; exact h c hc
    · rw [if_neg h2] at hc
      rcases Sy.fold_mem _ _ hc with z | z
      · exact absurd z (by show c ∉ ([] : List Nat); exact List.not_mem_nil)
      · exact h c z
theorem AllS.one {c : Nat} (h : p c) : AllS p ⟨#[c]⟩ := fun d hd => by
  have : d = c := by simpa using hd
  rw [this]; exact h
theorem AllS.join {a : Str} (ha : AllS p a) : ∀ {ys : List Str}, (∀ y ∈ ys, AllS p y) → AllS p (Str.join a ys)
  | [], _ => fun c hc => absurd hc (by show c ∉ ([] : List Nat); exact List.not_mem_nil)
  | [x], h => h x List.mem_cons_self
  | x :: z :: r, h => by
    show AllS p (x ++ a ++ Str.join a (z :: r))
    exact .app (.app (h x List.mem_cons_self) ha) (AllS.join ha fun y hy => h y (List.mem_cons_of_mem _ hy))
theorem AllS.joinT {a : Str} (ha : AllS p a) {ys : List Str} (h : ∀ y ∈ ys, AllS p y) : AllS p (Txt.join a ys) := by
  rw [_root_.TL.join_eq]
  exact .join ha h
theorem AllS.imp {s : Str} (h : AllS p s) (k : ∀ c, p c → q c) : AllS q s := fun c hc => k c (h c hc)
theorem AllS.dec [DecidablePred p] {s : Str} (h : s.cps.toList.all (fun c => decide (p c)) = true) : AllS p s := fun c hc => of_decide_eq_true (List.all_eq_true.mp h c hc)
theorem AllS.nil {s : Str} (h : s = "") : AllS p s := fun c hc => by rw [h] at hc; exact absurd hc (by show c ∉ ([] : List Nat); exact List.not_mem_nil)
end
theorem e_len : ("" : Str).length = 0 := by decide +kernel
theorem q_len : ("q" : Str).length = 1 := by decide +kernel
theorem x_len : ("x" : Str).length = 1 := by decide +kernel
theorem z_len : ("z" : Str).length = 1 := by decide +kernel
theorem one_len {c : Nat} : (⟨#[c]⟩ : Str).length = 1 := rfl
theorem szLe' {n : Nat} (h : n ≤ 1000000) : n ≤ sizeLine := Sy.szLe' h
theorem szLt' {n : Nat} (h : n ≤ 1000000) : n < sizeLine := Sy.szLt' h
/-- small letters -/
def lowC (c : Nat) : Prop := 97 ≤ c ∧ c ≤ 122
instance : DecidablePred lowC := fun c => inferInstanceAs (Decidable (97 ≤ c ∧ c ≤ 122))
theorem low_ok {s : Str} (h : AllS lowC s) : Sy.cOk s := fun c hc => by have := h c hc; unfold lowC at this; omega
theorem let_len : ("abcdefghijklmnopqrstuvwxyz" : Str).cps.toList.length = 26 := by decide +kernel
theorem let_low : AllS lowC ("abcdefghijklmnopqrstuvwxyz" : Str) := .dec (by decide +kernel)
def keptL : List Str := ["shape", "bead", "more", "last", "def", "case", "to", "num", "if", "let", "in", "line", "out"]
theorem kept_len {s : Str} (h : s ∈ keptL) : 1 ≤ s.length ∧ s.length ≤ 5 ∧ AllS lowC s := by
  unfold keptL at h
  simp only [List.mem_cons, List.not_mem_nil, or_false] at h
  rcases h with rfl | rfl | rfl | rfl | rfl | rfl | rfl | rfl | rfl | rfl | rfl | rfl | rfl
  all_goals exact ⟨by decide +kernel, by decide +kernel, .dec (by decide +kernel)⟩
theorem str_eq {a b : Str} (h : decide (V.str a = V.str b) = true) : a = b := V.str.inj (of_decide_eq_true h)
theorem str_ne {a b : Str} (h : decide (V.str a = V.str b) = false) : a ≠ b := fun e => of_decide_eq_false h (by rw [e])
theorem int_eq {a b : Int} (h : decide (V.int a = V.int b) = true) : a = b := V.int.inj (of_decide_eq_true h)
theorem int_ne {a b : Int} (h : decide (V.int a = V.int b) = false) : a ≠ b := fun e => of_decide_eq_false h (by rw [e])
/-- a drawn letter -/
theorem letter {r : Int} (h0 : 0 ≤ r) (h1 : r < 26) : ∃ c, atI ("abcdefghijklmnopqrstuvwxyz" : Str).cps.toList r = some c ∧ lowC c := by
  obtain ⟨c, hc, e⟩ := Sy.atI_in (xs := ("abcdefghijklmnopqrstuvwxyz" : Str).cps.toList) h0 (by rw [let_len]; exact h1)
  exact ⟨c, e, let_low c hc⟩
theorem eqV_str (a b : Str) : eqV (.str a) (.str b) = decide (a = b) := by
  unfold eqV
  first | rfl | simp
theorem inD_strs (s : Str) (l : List Str) : Sy.inD (.str s) (l.map .str) = decide (s ∈ l) := by
  unfold Sy.inD
  induction l with
  | nil => simp
  | cons a r ih =>
    rw [List.map_cons, List.any_cons, ih]
    have : Sy.eqf (.str a) (.str s) = decide (a = s) := by
      show eqV (.str a) (.str s) = _
      exact eqV_str a s
    rw [this]
    by_cases h : a = s
    · subst h; simp
    · have h' : s ≠ a := fun z => h z.symm
      simp [h, h']
theorem in_strs {s : Str} {l : List Str} (h : (if false = true then !Sy.inD (.str s) (l.map .str) else Sy.inD (.str s) (l.map .str)) = true) : s ∈ l := by
  rw [if_neg (by decide), inD_strs] at h; exact of_decide_eq_true h
theorem notin_strs {s : Str} {l : List Str} (h : (if false = true then !Sy.inD (.str s) (l.map .str) else Sy.inD (.str s) (l.map .str)) = false) : s ∉ l := by
  rw [if_neg (by decide), inD_strs] at h; exact of_decide_eq_false h
theorem cut_to {s : Str} {k : Int} (h : 0 ≤ k) : (cutS s none (some k)).length = min k.toNat s.length := by
  have e : HT.sIx s.length s.length (some k) = min k.toNat s.length := by
    show (if k < 0 then _ else _) = _
    rw [if_neg (by omega)]
  have e2 : (cutS s none (some k)).length = ((s.cps.toList.drop (HT.sIx s.length 0 none)).take (HT.sIx s.length s.length (some k) - HT.sIx s.length 0 none)).length := by
    show ((_ : List Nat).toArray).size = _
    rw [List.size_toArray]
  rw [e2, e]
  show ((s.cps.toList.drop 0).take (min k.toNat s.length - 0)).length = _
  have hl : s.cps.toList.length = s.length := rfl
  rw [List.drop_zero, List.length_take, hl]; omega
theorem cut_from {s : Str} {k : Int} (h : 0 ≤ k) : (cutS s (some k) none).length = s.length - k.toNat := by
  have e : HT.sIx s.length 0 (some k) = min k.toNat s.length := by
    show (if k < 0 then _ else _) = _
    rw [if_neg (by omega)]
  have e2 : (cutS s (some k) none).length = ((s.cps.toList.drop (HT.sIx s.length 0 (some k))).take (HT.sIx s.length s.length none - HT.sIx s.length 0 (some k))).length := by
    show ((_ : List Nat).toArray).size = _
    rw [List.size_toArray]
  rw [e2, e]
  show ((s.cps.toList.drop (min k.toNat s.length)).take (s.length - min k.toNat s.length)).length = _
  have hl : s.cps.toList.length = s.length := rfl
  rw [List.length_take, List.length_drop, hl]; omega
theorem cut_add {a : Str} {k n : Nat} {lo hi : Option Int} (h : a.length + n ≤ k) : (cutS a lo hi).length + n ≤ k := by
  have := cutS_length a lo hi
  omega
theorem add_cut {a : Str} {k n : Nat} {lo hi : Option Int} (h : n + a.length ≤ k) : n + (cutS a lo hi).length ≤ k := by
  have := cutS_length a lo hi
  omega
end Vy
namespace Vy
open PySem PySem.Spec PyProof.Rows L2
open Sy (D cOk)
/-! ### data that can be shown and compared: how deep, how long -/
mutual
inductive Wf : Nat → Nat → D → Prop
  | non {k n : Nat} : 4 ≤ n → Wf k n .non
  | bl {k n : Nat} {b : Bool} : 5 ≤ n → Wf k n (.bl b)
  | int {k n : Nat} {i : Int} : -1000000000000000000 ≤ i → i ≤ 1000000000000000000 → 25 ≤ n → Wf k n (.int i)
  | str {k n : Nat} {s : Str} : cOk s → 10 * s.length + 2 ≤ n → Wf k n (.str s)
  | tup {k m n : Nat} {ds : List D} : Wfs k m ds → m + 4 ≤ n → Wf (k + 1) n (.tup ds)
  | lst {k m n : Nat} {ds : List D} : Wfs k m ds → m + 4 ≤ n → Wf (k + 1) n (.lst ds)
inductive Wfs : Nat → Nat → List D → Prop
  | nil {k n : Nat} : Wfs k n []
  | cons {k a b n : Nat} {d : D} {ds : List D} : Wf k a d → Wfs k b ds → a + b + 2 ≤ n → Wfs k n (d :: ds)
end
mutual
theorem Wf.mono {k n k' n' : Nat} (hk : k ≤ k') (hn : n ≤ n') : ∀ {d : D}, Wf k n d → Wf k' n' d
  | _, .non h => .non (Nat.le_trans h hn)
  | _, .bl h => .bl (Nat.le_trans h hn)
  | _, .int a b h => .int a b (Nat.le_trans h hn)
  | _, .str a h => .str a (Nat.le_trans h hn)
  | _, .tup (k := j) h e => by
    obtain ⟨i, rfl⟩ : ∃ i, k' = i + 1 := ⟨k' - 1, by omega⟩
    exact .tup (Wfs.mono (by omega) (Nat.le_refl _) h) (Nat.le_trans e hn)
  | _, .lst (k := j) h e => by
    obtain ⟨i, rfl⟩ : ∃ i, k' = i + 1 := ⟨k' - 1, by omega⟩
    exact .lst (Wfs.mono (by omega) (Nat.le_refl _) h) (Nat.le_trans e hn)
theorem Wfs.mono {k n k' n' : Nat} (hk : k ≤ k') (hn : n ≤ n') : ∀ {d : List D}, Wfs k n d → Wfs k' n' d
  | _, .nil => .nil
  | _, .cons a b e => .cons (Wf.mono hk (Nat.le_refl _) a) (Wfs.mono hk (Nat.le_refl _) b) (Nat.le_trans e hn)
end
theorem Wfs.map {α : Type} {f : α → D} {k c : Nat} {as : List α} (h : ∀ a ∈ as, Wf k c (f a)) {m : Nat} (hm : as.length * (c + 2) ≤ m) : Wfs k m (as.map f) := by
  induction as generalizing m with
  | nil => exact .nil
  | cons a r ih =>
    rw [List.length_cons, Nat.succ_mul] at hm
    exact .cons (h a (by simp)) (ih (fun b hb => h b (by simp [hb])) (Nat.le_refl _)) (by omega)
theorem Wfs.app {k m n : Nat} : ∀ {ds es : List D}, Wfs k m ds → Wfs k n es → Wfs k (m + n) (ds ++ es)
  | _, _, .nil, h => h.mono (Nat.le_refl _) (by omega)
  | _, _, .cons a b e, h => .cons a (Wfs.app b h) (by omega)
/-- the texts of a row, with what parts them -/
def pl2 (ts : List Str) : Nat := (ts.map fun t => t.length + 2).sum
theorem join2 : ∀ ts : List Str, (Str.join ", " ts).length ≤ pl2 ts
  | [] => Nat.zero_le _
  | [x] => by show x.length ≤ _; simp [pl2]
  | x :: y :: r => by
    have ih := join2 (y :: r)
    show (x ++ ", " ++ Str.join ", " (y :: r)).length ≤ _
    have e2 : ((", " : String) : Str).length = 2 := rfl
    rw [strLen_append, strLen_append, e2]
    unfold pl2 at ih ⊢
    rw [List.map_cons, List.sum_cons]; omega
theorem tupT (ts : List Str) : (tupleText ts).length ≤ pl2 ts + 4 := by
  unfold tupleText
  rw [strLen_append, strLen_append]
  have e1 : ((("(" : String) : Str)).length = 1 := rfl
  have e2 : ((if ts.length == 1 then ",)" else ")" : String) : Str).length ≤ 2 := by split <;> decide +kernel
  have := join2 ts
  rw [e1]; omega
theorem textFrom_up : ∀ (ts : List Str) (k : Nat) (acc : Str), (textFrom k acc ts).length ≤ acc.length + pl2 ts
  | [], k, acc => by show acc.length ≤ _; omega
  | t :: r, k, acc => by
    show (textFrom (k + 1) (acc ++ (if k > 0 then ", " else "" : String) ++ t) r).length ≤ _
    have h := textFrom_up r (k + 1) (acc ++ (if k > 0 then ", " else "" : String) ++ t)
    have e : (acc ++ (if k > 0 then ", " else "" : String) ++ t).length ≤ acc.length + 2 + t.length := by
      rw [strLen_append, strLen_append]
      have : ((if k > 0 then ", " else "" : String) : Str).length ≤ 2 := by split <;> decide +kernel
      omega
    unfold pl2 at h ⊢
    rw [List.map_cons, List.sum_cons]; omega
theorem lstT (ts : List Str) : (listText ts).length ≤ pl2 ts + 4 := by
  unfold listText
  rw [strLen_append]
  have h := textFrom_up ts 0 "["
  have e1 : ((("[" : String) : Str)).length = 1 := rfl
  have e2 : ((("]" : String) : Str)).length = 1 := rfl
  rw [e1] at h
  rw [e2]; omega
theorem int_text {i : Int} (h1 : -1000000000000000000 ≤ i) (h2 : i ≤ 1000000000000000000) : ((toString i : String) : Str).length ≤ 25 := by
  have e : ((toString i : String) : Str) = Str.ofString (toString i) := rfl
  rw [e]
  by_cases h : 0 ≤ i
  · have := toString_length_le (v := i) h (k := 19) (by decide) (by omega)
    omega
  · have h3 := len_text_negI (n := i) (by omega)
    have := toString_length_le (v := 0 - i) (by omega) (k := 19) (by decide) (by omega)
    omega
mutual
theorem Wf.all {k n : Nat} : ∀ {d : D}, Wf k n d → d.pl = true ∧ d.py.canLay0 = true ∧ d.py.showable = true ∧ d.py.depth ≤ k ∧ d.py.shown.length ≤ n
  | _, .non h => ⟨rfl, rfl, rfl, Nat.zero_le _, by refine Nat.le_trans ?_ h; decide +kernel⟩
  | _, .bl (b := b) h => ⟨rfl, rfl, rfl, Nat.zero_le _, by refine Nat.le_trans ?_ h; cases b <;> decide +kernel⟩
  | _, .int (i := i) a b h => ⟨rfl, rfl, by
      show decide (i.natAbs.log2 < 1920) = true
      refine decide_eq_true ?_
      by_cases h0 : i.natAbs = 0
      · rw [h0]; decide
      · have h3 : i.natAbs < 2 ^ 60 := by omega
        have h4 := (Nat.log2_lt h0).mpr h3
        omega, Nat.zero_le _, Nat.le_trans (int_text a b) h⟩
  | _, .str (s := s) a h => ⟨rfl, Sy.strOk_c a, rfl, Nat.zero_le _, Nat.le_trans (StrLaws.reprText_len s fun c hc => Nat.lt_of_lt_of_le (a c hc) (by decide)) h⟩
  | _, .tup (ds := ds) h e => by
    obtain ⟨h1, h2, h3, h4, h5⟩ := Wfs.all h
    refine ⟨h1, h2, h3, ?_, ?_⟩
    · show PyData.depthAll (Sy.pyAll ds) + 1 ≤ _; omega
    · show (tupleText (PyData.shownAll (Sy.pyAll ds))).length ≤ n
      have := tupT (PyData.shownAll (Sy.pyAll ds)); omega
  | _, .lst (ds := ds) h e => by
    obtain ⟨h1, h2, h3, h4, h5⟩ := Wfs.all h
    refine ⟨h1, h2, h3, ?_, ?_⟩
    · show PyData.depthAll (Sy.pyAll ds) + 1 ≤ _; omega
    · show (listText (PyData.shownAll (Sy.pyAll ds))).length ≤ n
      have := lstT (PyData.shownAll (Sy.pyAll ds)); omega
theorem Wfs.all {k n : Nat} : ∀ {ds : List D}, Wfs k n ds → Sy.plAll ds = true ∧ PyData.canLayAll0 (Sy.pyAll ds) = true ∧ PyData.showableAll (Sy.pyAll ds) = true ∧ PyData.depthAll (Sy.pyAll ds) ≤ k ∧ pl2 (PyData.shownAll (Sy.pyAll ds)) ≤ n
  | _, .nil => ⟨rfl, rfl, rfl, Nat.zero_le _, Nat.zero_le _⟩
  | _, .cons (d := d) (ds := ds) a b e => by
    obtain ⟨h1, h2, h3, h4, h5⟩ := Wf.all a
    obtain ⟨g1, g2, g3, g4, g5⟩ := Wfs.all b
    refine ⟨?_, ?_, ?_, ?_, ?_⟩
    · show (d.pl && Sy.plAll ds) = true; rw [h1, g1]; rfl
    · show (PyData.canLay0 d.py && PyData.canLayAll0 (Sy.pyAll ds)) = true; rw [h2, g2]; rfl
    · show (PyData.showable d.py && PyData.showableAll (Sy.pyAll ds)) = true; rw [h3, g3]; rfl
    · show max (PyData.depth d.py) (PyData.depthAll (Sy.pyAll ds)) ≤ k; omega
    · show pl2 (PyData.shown d.py :: PyData.shownAll (Sy.pyAll ds)) ≤ n
      unfold pl2 at g5 ⊢
      rw [List.map_cons, List.sum_cons]; omega
end
theorem Wf.repr {k n : Nat} {d : D} (h : Wf k n d) (hk : k ≤ 60) (hn : n ≤ 16777216) : ReprC d := by
  obtain ⟨h1, h2, h3, h4, h5⟩ := h.all
  exact ⟨h1, h3, by omega, by rw [sizeLine_eq]; omega⟩
theorem Wf.shaped {k n : Nat} {d : D} (h : Wf k n d) (hk : k ≤ 64) : SeqAt.shaped d.py = true := by
  obtain ⟨h1, h2, h3, h4, h5⟩ := h.all
  show (d.py.canLay0 && decide (d.py.depth ≤ 64)) = true
  rw [h2, decide_eq_true (by omega)]; rfl
/-- == of data -/
theorem Wf.eq {k n k' n' : Nat} {a b : D} {q : Bool → Prop} (h : Wf k n a) (h' : Wf k' n' b) (hk : k ≤ 64) (hk' : k' ≤ 64) (hq : q (PyData.eqv a.py b.py)) : eqOp a b q := .gen ⟨h.all.1, h'.all.1, h.shaped hk, h'.shaped hk', hq⟩
theorem flat_strs (l : List Str) : (l.map D.str).all Sy.flatD = true := by
  induction l with
  | nil => rfl
  | cons a r ih => rw [List.map_cons, List.all_cons, ih]; rfl
end Vy
namespace K03
open PySem PySem.Spec PyProof.Rows L2
def topS (i : Nat) : Stmt := PySem.Challenge.pw_nomiddle_k03_beads_of_shapes.main.body.getD i (.Pass ⟨0, 0, 0, 0⟩)
abbrev s_bead_of : Stmt := topS 1
theorem sc_bead_of : FnScope ["shapes", "name", "shape", "beads", "place", "bead", "many", "is_open"] ["shapes", "name"] (defScope s_bead_of) := ⟨rfl, rfl, rfl, by decide +kernel, rfl, by decide +kernel, by decide +kernel⟩
abbrev s__law_deal : Stmt := topS 3
theorem sc__law_deal : FnScope ["_law_script", "_law_base", "_law_some", "_law_number", "_law_one"] ["_law_script", "_law_base"] (defScope s__law_deal) := ⟨rfl, rfl, rfl, by decide +kernel, rfl, by decide +kernel, by decide +kernel⟩
abbrev s__law_draw : Stmt := topS 4
theorem sc__law_draw : FnScope ["_law_deal_here", "_law_many", "_law_number", "_law_one", "_law_other"] ["_law_deal_here", "_law_many"] (defScope s__law_draw) := ⟨rfl, rfl, rfl, by decide +kernel, rfl, by decide +kernel, by decide +kernel⟩
abbrev s__law_name : Stmt := topS 5
theorem sc__law_name : FnScope ["_law_deal_here", "_law_letters", "_law_kept", "_law_name_here", "_law_near", "_law_at", "_law_k"] ["_law_deal_here"] (defScope s__law_name) := ⟨rfl, rfl, rfl, by decide +kernel, rfl, by decide +kernel, by decide +kernel⟩
abbrev s__law_unlike : Stmt := topS 6
theorem sc__law_unlike : FnScope ["_law_deal_here", "_law_many", "_law_letters", "_law_kept", "_law_stem", "_law_found", "_law_k", "_law_at", "_law_first", "_law_own", "_law_name_here"] ["_law_deal_here", "_law_many"] (defScope s__law_unlike) := ⟨rfl, rfl, rfl, by decide +kernel, rfl, by decide +kernel, by decide +kernel⟩
abbrev s__law_shapes : Stmt := topS 7
theorem sc__law_shapes : FnScope ["_law_deal_here", "_law_names", "_law_found", "_law_k", "_law_opens", "_law_turn", "_law_beads", "_law_j", "_law_one"] ["_law_deal_here", "_law_names"] (defScope s__law_shapes) := ⟨rfl, rfl, rfl, by decide +kernel, rfl, by decide +kernel, by decide +kernel⟩
abbrev s__law_due : Stmt := topS 8
theorem sc__law_due : FnScope ["_law_shapes_here", "_law_name_here", "_law_found", "_law_place", "_law_shape", "_law_beads", "_law_bead"] ["_law_shapes_here", "_law_name_here"] (defScope s__law_due) := ⟨rfl, rfl, rfl, by decide +kernel, rfl, by decide +kernel, by decide +kernel⟩
abbrev s_law : Stmt := topS 9
theorem sc_law : FnScope ["_law_script", "_law_deal_here", "_law_asked", "_law_turn", "_law_names", "_law_shapes_here", "_law_name_here"] ["_law_script"] (defScope s_law) := ⟨rfl, rfl, rfl, by decide +kernel, rfl, by decide +kernel, by decide +kernel⟩
structure Tx (K : PySem.W.Frag) (mg : Str → Option Value) where
  z_enumerate : mg "enumerate" = none
  z_len : mg "len" = none
  z_list : mg "list" = none
  z_max : mg "max" = none
  z_min : mg "min" = none
  z_range : mg "range" = none
  z_repr : mg "repr" = none
  z_reversed : mg "reversed" = none
  z_tuple : mg "tuple" = none
  bead_of_f : Addr
  bead_of_fd : FuncData
  bead_of_F : Fun K "bead_of" "bead_of" s_bead_of bead_of_f bead_of_fd
  bead_of_g : mg "bead_of" = some (.ref bead_of_f)
  bead_of_b : Binds K bead_of_fd ["shapes", "name"] []
  _law_deal_f : Addr
  _law_deal_fd : FuncData
  _law_deal_F : Fun K "_law_deal" "_law_deal" s__law_deal _law_deal_f _law_deal_fd
  _law_deal_g : mg "_law_deal" = some (.ref _law_deal_f)
  _law_deal_b : Binds K _law_deal_fd ["_law_script", "_law_base"] []
  _law_draw_f : Addr
  _law_draw_fd : FuncData
  _law_draw_F : Fun K "_law_draw" "_law_draw" s__law_draw _law_draw_f _law_draw_fd
  _law_draw_g : mg "_law_draw" = some (.ref _law_draw_f)
  _law_draw_b : Binds K _law_draw_fd ["_law_deal_here", "_law_many"] []
  _law_name_f : Addr
  _law_name_fd : FuncData
  _law_name_F : Fun K "_law_name" "_law_name" s__law_name _law_name_f _law_name_fd
  _law_name_g : mg "_law_name" = some (.ref _law_name_f)
  _law_name_b : Binds K _law_name_fd ["_law_deal_here"] []
  _law_unlike_f : Addr
  _law_unlike_fd : FuncData
  _law_unlike_F : Fun K "_law_unlike" "_law_unlike" s__law_unlike _law_unlike_f _law_unlike_fd
  _law_unlike_g : mg "_law_unlike" = some (.ref _law_unlike_f)
  _law_unlike_b : Binds K _law_unlike_fd ["_law_deal_here", "_law_many"] []
  _law_shapes_f : Addr
  _law_shapes_fd : FuncData
  _law_shapes_F : Fun K "_law_shapes" "_law_shapes" s__law_shapes _law_shapes_f _law_shapes_fd
  _law_shapes_g : mg "_law_shapes" = some (.ref _law_shapes_f)
  _law_shapes_b : Binds K _law_shapes_fd ["_law_deal_here", "_law_names"] []
  _law_due_f : Addr
  _law_due_fd : FuncData
  _law_due_F : Fun K "_law_due" "_law_due" s__law_due _law_due_f _law_due_fd
  _law_due_g : mg "_law_due" = some (.ref _law_due_f)
  _law_due_b : Binds K _law_due_fd ["_law_shapes_here", "_law_name_here"] []
  law_f : Addr
  law_fd : FuncData
  law_F : Fun K "law" "law" s_law law_f law_fd
  law_g : mg "law" = some (.ref law_f)
  law_b : Binds K law_fd ["_law_script"] []
section
open Sy
variable {P : Program} {w : World} {K : PySem.W.Frag} {mg : Str → Option Value} {base : Heap}
def pDraw : Sy.PR := fun ds Q => ∃ n : Int, ds = [.int n] ∧ (0 < n ∧ n < 4611686018427387904) ∧ ∀ r : Int, 0 ≤ r → r < n → Q (.int r)
theorem sok_draw (T : Tx K mg) : FnG P w K mg base 1 T._law_draw_f T._law_draw_fd ["_law_deal_here", "_law_many"] (spD K (cDl pDraw)) := by
  refine fnG retD_ok T._law_draw_F sc__law_draw (fun xs S Q ⟨ds, e, _, n, e2, _⟩ => by rw [e, e2]; rfl) fun cdv A outer sh H E hr free xs S Q hC => ?_
  have hu := hr.units
  have hu1 := hu_of hr
  refine ⟨_, db_shut 0 1 (db_open 0 1 (db_cons (ds_while PassesOwn.never (DW.dt (dw_and (dt_cmp (od_eq hu) (de_ix hu1 (de_var 0) de_str (fun _ _ => rfl)) de_int (nomark _)) (dw_and1 (dt_cmp od_gt (de_callB (cd_len) rfl T.z_len (by decide +kernel) (da_cons (de_ix hu1 (de_var 0) de_str (fun _ _ => rfl)) da_nil)) de_int (nomark _))))) (db_one (ds_asg (de_pop (de_ix hu1 (de_var 0) de_str (fun _ _ => rfl))) (dg_sub hu1 (de_var 0) de_str))))
  (db_cons (ds_set (i := 2) sc__law_draw.nd rfl (by first | exact Or.inl rfl | exact Or.inr rfl) (de_ix hu1 (de_var 0) de_str (fun _ _ => rfl)))
  (db_cons (ds_if (dt_cmp od_gt (de_var 2) de_int (nomark _)) (db_cons (ds_asg (de_bin od_fdiv (de_var 2) (de_var 1)) (dg_sub hu1 (de_var 0) de_str))
  (db_one (ds_ret (de_bin od_mod (de_var 2) (de_var 1))))) db_nil)
  (db_cons (ds_set (i := 3) sc__law_draw.nd rfl (by first | exact Or.inl rfl | exact Or.inr rfl) (de_bin od_mod (de_bin od_add (de_bin od_mulA (de_ix hu1 (de_var 0) de_str (fun _ _ => rfl)) de_int) de_int) de_int))
  (db_cons (ds_asg (de_bin od_mod (de_bin od_add (de_bin od_mulA (de_var 3) de_int) de_int) de_int) (dg_sub hu1 (de_var 0) de_str))
  (db_cons (ds_set (i := 4) sc__law_draw.nd rfl (by first | exact Or.inl rfl | exact Or.inr rfl) (de_bin od_mod (de_bin od_mulA (de_ix hu1 (de_var 0) de_str (fun _ _ => rfl)) (de_ix hu1 (de_var 0) de_str (fun _ _ => rfl))) de_int))
  (db_one (ds_ret (de_bin od_mod (de_bin od_add (de_bin od_mulA (de_bin od_mod (de_bin od_mulA (de_var 3) (de_var 3)) de_int) de_int) (de_var 4)) (de_var 1))))))))))), ?_⟩
  obtain ⟨ds, rfl, rfl, n, rfl, ⟨hn0, hn1⟩, hQ⟩ := hC
  refine ⟨rfl, rfl, fun sd nm ns hb => ?_⟩
  refine ⟨fun k m => ∃ nm ns, m = ⟨[.r 0, .d (.int n), .no, .no, .no], [dlC sd nm 1, intsL ns]⟩ ∧ DlB sd nm ns ∧ k = ns.length, ⟨_, nm, ns, rfl, hb, rfl⟩, ?_⟩
  clear hb
  rintro k m2 ⟨nm', ns', rfl, hb, rfl⟩
  have b0 := hb.s0
  have b1 := hb.s1
  have b2 := hb.n0
  repeat' ((conv => whnf); first | ((with_reducible apply Sy.one?.yes); (· exact rfl)) | ((with_reducible apply Sy.both.yes); (· exact rfl); (· exact rfl)) | (with_reducible apply Sy.both.els) | ((refine Sy.Got.here ?_ ?_); (· first | with_reducible rfl | decide +kernel)) | ((refine Sy.Got.next ?_ ?_); (· decide +kernel)) | ((with_reducible refine Sy.IfB.t ?_ ?_); (· first | with_reducible rfl | decide +kernel)) | ((with_reducible refine Sy.IfB.f ?_ ?_); (· first | with_reducible rfl | decide +kernel)) | (with_reducible refine Sy.IfB.mk (fun _ => ?_) (fun _ => ?_)) | ((with_reducible apply Sy.mkT.yes); (· exact rfl)) | (with_reducible apply Sy.mkT.els) | (with_reducible refine And.intro (Sy.Hold.out ?_) ?_))
  all_goals try (refine Sy.Hold.mk ?_; first | exact trivial | exact rfl | exact Sy.mulA (by omega) (by omega) | exact Sy.mulB (by omega) (by omega) | exact Sy.divA (by omega) (by omega) | exact Sy.smlA (by omega) (by omega) | exact Sy.szLt rfl | exact Sy.szLe rfl | exact Sy.szLe' (by omega) | exact ⟨by omega, by omega⟩ | (rw [List.length_map]; exact Sy.szLt' (by omega)) | (show (0 : Int) < _; first | omega | decide +kernel) | decide +kernel | (simp only [Vy.e_len, Vy.q_len, Vy.x_len, Vy.z_len, Vy.one_len, strLen_append, Sy.repS_len, List.length_map, List.length_append, List.length_cons, List.length_nil]; first | omega | exact Sy.szLe' (by omega) | exact Sy.szLt' (by omega) | exact Vy.cut_add (Sy.szLe' (by omega)) | exact Vy.add_cut (Sy.szLe' (by omega)) | exact Vy.cut_add (Vy.add_cut (Sy.szLe' (by omega)))) | exact ⟨by omega, by omega, by simp only [Vy.e_len, Vy.q_len, Vy.x_len, Vy.z_len, Vy.one_len]; omega, by simp only [Vy.e_len, Vy.q_len, Vy.x_len, Vy.z_len, Vy.one_len]; omega⟩ | exact Sy.szLe' (Nat.le_trans (Nat.add_le_add (Sy.cutL_le _ _ _) (Sy.cutL_le _ _ _)) (by simp only [List.length_map]; omega)) | exact Vy.flat_strs _ | exact Sy.szLe' (Nat.le_trans (Nat.add_le_add (Nat.le_refl _) (Sy.cutL_le _ _ _)) (by simp only [List.length_map, List.length_cons, List.length_nil]; omega)) | exact Sy.szLe' (Nat.le_trans (Nat.add_le_add (Sy.cutL_le _ _ _) (Nat.le_refl _)) (by simp only [List.length_map, List.length_cons, List.length_nil]; omega)) | exact ⟨rfl, Nat.le_of_ble_eq_true rfl, by decide +kernel⟩ | (refine ⟨?_, ?_, ?_⟩ <;> decide +kernel))
  all_goals try (refine ⟨sd, nm' / n, ns', rfl, rfl, ⟨hb.s0, hb.s1, Int.ediv_nonneg hb.n0 (by omega), hb.l0⟩, hQ _ (Int.emod_nonneg _ (by omega)) (Int.emod_lt_of_pos _ hn0)⟩)
  all_goals try (refine ⟨_, nm', ns', rfl, rfl, ⟨Int.emod_nonneg _ (by decide), Int.lt_trans (Int.emod_lt_of_pos _ (by decide)) (by decide), hb.n0, hb.l0⟩, hQ _ (Int.emod_nonneg _ (by omega)) (Int.emod_lt_of_pos _ hn0)⟩)
  rename_i h1 h2
  have hne : ns' ≠ [] := by
    rintro rfl
    exact absurd h2 (by decide)
  refine Sy.one?.yes (Sy.pop_get ns' hne) ?_
  repeat' ((conv => whnf); first | ((with_reducible apply Sy.one?.yes); (· exact rfl)) | ((with_reducible apply Sy.both.yes); (· exact rfl); (· exact rfl)) | (with_reducible apply Sy.both.els) | ((refine Sy.Got.here ?_ ?_); (· first | with_reducible rfl | decide +kernel)) | ((refine Sy.Got.next ?_ ?_); (· decide +kernel)) | ((with_reducible refine Sy.IfB.t ?_ ?_); (· first | with_reducible rfl | decide +kernel)) | ((with_reducible refine Sy.IfB.f ?_ ?_); (· first | with_reducible rfl | decide +kernel)) | (with_reducible refine Sy.IfB.mk (fun _ => ?_) (fun _ => ?_)) | ((with_reducible apply Sy.mkT.yes); (· exact rfl)) | (with_reducible apply Sy.mkT.els) | (with_reducible refine And.intro (Sy.Hold.out ?_) ?_))
  all_goals try (refine Sy.Hold.mk ?_; first | exact trivial | exact rfl | exact Sy.mulA (by omega) (by omega) | exact Sy.mulB (by omega) (by omega) | exact Sy.divA (by omega) (by omega) | exact Sy.smlA (by omega) (by omega) | exact Sy.szLt rfl | exact Sy.szLe rfl | exact Sy.szLe' (by omega) | exact ⟨by omega, by omega⟩ | (rw [List.length_map]; exact Sy.szLt' (by omega)) | (show (0 : Int) < _; first | omega | decide +kernel) | decide +kernel | (simp only [Vy.e_len, Vy.q_len, Vy.x_len, Vy.z_len, Vy.one_len, strLen_append, Sy.repS_len, List.length_map, List.length_append, List.length_cons, List.length_nil]; first | omega | exact Sy.szLe' (by omega) | exact Sy.szLt' (by omega) | exact Vy.cut_add (Sy.szLe' (by omega)) | exact Vy.add_cut (Sy.szLe' (by omega)) | exact Vy.cut_add (Vy.add_cut (Sy.szLe' (by omega)))) | exact ⟨by omega, by omega, by simp only [Vy.e_len, Vy.q_len, Vy.x_len, Vy.z_len, Vy.one_len]; omega, by simp only [Vy.e_len, Vy.q_len, Vy.x_len, Vy.z_len, Vy.one_len]; omega⟩ | exact Sy.szLe' (Nat.le_trans (Nat.add_le_add (Sy.cutL_le _ _ _) (Sy.cutL_le _ _ _)) (by simp only [List.length_map]; omega)) | exact Vy.flat_strs _ | exact Sy.szLe' (Nat.le_trans (Nat.add_le_add (Nat.le_refl _) (Sy.cutL_le _ _ _)) (by simp only [List.length_map, List.length_cons, List.length_nil]; omega)) | exact Sy.szLe' (Nat.le_trans (Nat.add_le_add (Sy.cutL_le _ _ _) (Nat.le_refl _)) (by simp only [List.length_map, List.length_cons, List.length_nil]; omega)) | exact ⟨rfl, Nat.le_of_ble_eq_true rfl, by decide +kernel⟩ | (refine ⟨?_, ?_, ?_⟩ <;> decide +kernel))
  refine ⟨ns'.dropLast.length, ?_, ns'.getLast hne, ns'.dropLast, ?_, ⟨b0, b1, hb.l0 _ (List.getLast_mem hne), fun x hx => hb.l0 x ((List.dropLast_sublist _).subset hx)⟩, rfl⟩
  · have := List.length_pos_iff.mpr hne
    rw [List.length_dropLast]
    omega
  · exact congrArg (fun z => Ms.mk _ [_, Cell.ls z]) (Sy.cut_ints ns')
theorem sok_deal (T : Tx K mg) : FnG P w K mg base 1 T._law_deal_f T._law_deal_fd ["_law_script", "_law_base"] (spD K cDeal) := by
  refine fnG retDl_ok T._law_deal_F sc__law_deal (fun xs S Q ⟨ns, b, e, _⟩ => by rw [e]; rfl) fun cdv A outer sh H E hr free xs S Q hC => ?_
  have hu := hr.units
  have hu1 := hu_of hr
  refine ⟨_, (db_cons (ds_setLc (i := 2) (own := [("_law_one", 4)]) rfl sc__law_deal.nd rfl rfl (sw_true rfl rfl rfl (by decide +kernel)) (di_seq (de_slice (de_var 0) (do_some (de_var 1)) (do_some de_int))) (blkOk_by (N := ["_law_script", "_law_base", "_law_some", "_law_number", "_law_one"]) (sc := defScope s__law_deal) (by decide +kernel)) (by simp) (fun _ _ _ _ _ => (dg_name (i := 4) sc__law_deal.nd rfl (Or.inl rfl))) (fun _ _ _ _ _ => dts_nil) (fun _ _ _ _ _ => (de_callB (cd_max2 rfl) rfl T.z_max (by decide +kernel) (da_cons (de_var 4) (da_cons (de_bin od_sub de_int (de_var 4)) da_nil)))))
  (db_cons (ds_set (i := 3) sc__law_deal.nd rfl (by first | exact Or.inl rfl | exact Or.inr rfl) (de_bin od_add de_int (de_var 1)))
  (db_cons (ds_for PassesOwn.never rfl (di_seq (de_var 2)) (dg_name (i := 4) sc__law_deal.nd rfl (by first | exact Or.inl rfl | exact Or.inr rfl)) (db_one (ds_set (i := 3) sc__law_deal.nd rfl (by first | exact Or.inl rfl | exact Or.inr rfl) (de_bin od_mod (de_bin od_add (de_bin od_mulA (de_var 3) de_int) (de_bin od_mod (de_var 4) de_int)) de_int))))
  (db_one (ds_ret (de_disp (dps_cons de_str (de_var 3) (dps_cons de_str de_int (dps_cons de_str (de_lstRev rfl rfl T.z_list rfl T.z_reversed (de_lc (own := [("_law_one", 4)]) rfl sc__law_deal.nd (di_seq (de_var 2)) (blkOk_by (N := ["_law_script", "_law_base", "_law_some", "_law_number", "_law_one"]) (sc := defScope s__law_deal) (by decide +kernel)) (by simp) (fun _ _ _ _ _ => (dg_name (i := 4) sc__law_deal.nd rfl (Or.inl rfl))) (fun _ _ _ _ _ => (dts_one (dt_cmp od_ge (de_var 4) (de_bin od_pow de_int de_int) (nomark _)))) (fun _ _ _ _ _ => (de_var 4)))) dps_nil))) rfl rfl (fun z => by cases z) (by decide))))))), ?_⟩
  obtain ⟨ns, b, rfl, rfl, ⟨hl, hb0, hb1⟩, hQ⟩ := hC
  repeat' ((conv => whnf); first | ((with_reducible apply Sy.one?.yes); (· exact rfl)) | ((with_reducible apply Sy.both.yes); (· exact rfl); (· exact rfl)) | (with_reducible apply Sy.both.els) | ((refine Sy.Got.here ?_ ?_); (· first | with_reducible rfl | decide +kernel)) | ((refine Sy.Got.next ?_ ?_); (· decide +kernel)) | ((with_reducible refine Sy.IfB.t ?_ ?_); (· first | with_reducible rfl | decide +kernel)) | ((with_reducible refine Sy.IfB.f ?_ ?_); (· first | with_reducible rfl | decide +kernel)) | (with_reducible refine Sy.IfB.mk (fun _ => ?_) (fun _ => ?_)) | ((with_reducible apply Sy.mkT.yes); (· exact rfl)) | (with_reducible apply Sy.mkT.els) | (with_reducible refine And.intro (Sy.Hold.out ?_) ?_))
  have eL : cutL ((ns.map D.int).map Sv.d) (some b) (some 63) = iL (cutL ns (some b) (some 63)) := by rw [iL_d]; exact cutL_map _ _ _ _
  have hL : (cutL ns (some b) (some 63)).length ≤ 63 := Nat.le_trans (cutL_le _ _ _) hl
  refine ⟨fun i acc S => S = [.ls (iL (cutL ns (some b) (some 63)))] ∧ ∃ zs : List Int, acc = zs.map .int ∧ (∀ z ∈ zs, 0 ≤ z) ∧ zs.length = i, ⟨congrArg (fun z => [Cell.ls z]) eL, [], rfl, (fun _ h => by cases h), rfl⟩, fun i x acc S hx hI hS => ?_, fun acc S hI hS => ?_⟩
  · have hx : (cutL ((ns.map D.int).map Sv.d) (some b) (some 63))[i]? = some x := hx
    rw [eL] at hx
    obtain ⟨n, e, rfl, hn⟩ := iL_get hx
    have hi := get_lt e
    obtain ⟨rfl, zs, rfl, hz, rfl⟩ := hI
    refine ⟨congrArg (fun z => some (Sk.l, z)) eL.symm, ?_⟩
    repeat' ((conv => whnf); first | ((with_reducible apply Sy.one?.yes); (· exact rfl)) | ((with_reducible apply Sy.both.yes); (· exact rfl); (· exact rfl)) | (with_reducible apply Sy.both.els) | ((refine Sy.Got.here ?_ ?_); (· first | with_reducible rfl | decide +kernel)) | ((refine Sy.Got.next ?_ ?_); (· decide +kernel)) | ((with_reducible refine Sy.IfB.t ?_ ?_); (· first | with_reducible rfl | decide +kernel)) | ((with_reducible refine Sy.IfB.f ?_ ?_); (· first | with_reducible rfl | decide +kernel)) | (with_reducible refine Sy.IfB.mk (fun _ => ?_) (fun _ => ?_)) | ((with_reducible apply Sy.mkT.yes); (· exact rfl)) | (with_reducible apply Sy.mkT.els) | (with_reducible refine And.intro (Sy.Hold.out ?_) ?_))
    all_goals try (refine Sy.Hold.mk ?_; first | exact trivial | exact rfl | exact Sy.mulA (by omega) (by omega) | exact Sy.mulB (by omega) (by omega) | exact Sy.divA (by omega) (by omega) | exact Sy.smlA (by omega) (by omega) | exact Sy.szLt rfl | exact Sy.szLe rfl | exact Sy.szLe' (by omega) | exact ⟨by omega, by omega⟩ | (rw [List.length_map]; exact Sy.szLt' (by omega)) | (show (0 : Int) < _; first | omega | decide +kernel) | decide +kernel | (simp only [Vy.e_len, Vy.q_len, Vy.x_len, Vy.z_len, Vy.one_len, strLen_append, Sy.repS_len, List.length_map, List.length_append, List.length_cons, List.length_nil]; first | omega | exact Sy.szLe' (by omega) | exact Sy.szLt' (by omega) | exact Vy.cut_add (Sy.szLe' (by omega)) | exact Vy.add_cut (Sy.szLe' (by omega)) | exact Vy.cut_add (Vy.add_cut (Sy.szLe' (by omega)))) | exact ⟨by omega, by omega, by simp only [Vy.e_len, Vy.q_len, Vy.x_len, Vy.z_len, Vy.one_len]; omega, by simp only [Vy.e_len, Vy.q_len, Vy.x_len, Vy.z_len, Vy.one_len]; omega⟩ | exact Sy.szLe' (Nat.le_trans (Nat.add_le_add (Sy.cutL_le _ _ _) (Sy.cutL_le _ _ _)) (by simp only [List.length_map]; omega)) | exact Vy.flat_strs _ | exact Sy.szLe' (Nat.le_trans (Nat.add_le_add (Nat.le_refl _) (Sy.cutL_le _ _ _)) (by simp only [List.length_map, List.length_cons, List.length_nil]; omega)) | exact Sy.szLe' (Nat.le_trans (Nat.add_le_add (Sy.cutL_le _ _ _) (Nat.le_refl _)) (by simp only [List.length_map, List.length_cons, List.length_nil]; omega)) | exact ⟨rfl, Nat.le_of_ble_eq_true rfl, by decide +kernel⟩ | (refine ⟨?_, ?_, ?_⟩ <;> decide +kernel))
    · exact ⟨congrArg (fun z => [Cell.ls z]) (cut_iL _)⟩
    · exact ⟨zs ++ [_], snoc_int _ _, snoc_nn hz (max_neg n), snoc_len _ _⟩
  · obtain ⟨rfl, zs, rfl, hz, hl2⟩ := hI
    have hl3 : zs.length ≤ 63 := by
      have hl2 : zs.length = (cutL ((ns.map D.int).map Sv.d) (some b) (some 63)).length := hl2
      rw [hl2, eL]; unfold iL; rw [List.length_map]; exact hL
    refine ⟨congrArg (fun z => some (Sk.l, z)) eL.symm, ?_⟩
    repeat' ((conv => whnf); first | ((with_reducible apply Sy.one?.yes); (· exact rfl)) | ((with_reducible apply Sy.both.yes); (· exact rfl); (· exact rfl)) | (with_reducible apply Sy.both.els) | ((refine Sy.Got.here ?_ ?_); (· first | with_reducible rfl | decide +kernel)) | ((refine Sy.Got.next ?_ ?_); (· decide +kernel)) | ((with_reducible refine Sy.IfB.t ?_ ?_); (· first | with_reducible rfl | decide +kernel)) | ((with_reducible refine Sy.IfB.f ?_ ?_); (· first | with_reducible rfl | decide +kernel)) | (with_reducible refine Sy.IfB.mk (fun _ => ?_) (fun _ => ?_)) | ((with_reducible apply Sy.mkT.yes); (· exact rfl)) | (with_reducible apply Sy.mkT.els) | (with_reducible refine And.intro (Sy.Hold.out ?_) ?_))
    all_goals try (refine Sy.Hold.mk ?_; first | exact trivial | exact rfl | exact Sy.mulA (by omega) (by omega) | exact Sy.mulB (by omega) (by omega) | exact Sy.divA (by omega) (by omega) | exact Sy.smlA (by omega) (by omega) | exact Sy.szLt rfl | exact Sy.szLe rfl | exact Sy.szLe' (by omega) | exact ⟨by omega, by omega⟩ | (rw [List.length_map]; exact Sy.szLt' (by omega)) | (show (0 : Int) < _; first | omega | decide +kernel) | decide +kernel | (simp only [Vy.e_len, Vy.q_len, Vy.x_len, Vy.z_len, Vy.one_len, strLen_append, Sy.repS_len, List.length_map, List.length_append, List.length_cons, List.length_nil]; first | omega | exact Sy.szLe' (by omega) | exact Sy.szLt' (by omega) | exact Vy.cut_add (Sy.szLe' (by omega)) | exact Vy.add_cut (Sy.szLe' (by omega)) | exact Vy.cut_add (Vy.add_cut (Sy.szLe' (by omega)))) | exact ⟨by omega, by omega, by simp only [Vy.e_len, Vy.q_len, Vy.x_len, Vy.z_len, Vy.one_len]; omega, by simp only [Vy.e_len, Vy.q_len, Vy.x_len, Vy.z_len, Vy.one_len]; omega⟩ | exact Sy.szLe' (Nat.le_trans (Nat.add_le_add (Sy.cutL_le _ _ _) (Sy.cutL_le _ _ _)) (by simp only [List.length_map]; omega)) | exact Vy.flat_strs _ | exact Sy.szLe' (Nat.le_trans (Nat.add_le_add (Nat.le_refl _) (Sy.cutL_le _ _ _)) (by simp only [List.length_map, List.length_cons, List.length_nil]; omega)) | exact Sy.szLe' (Nat.le_trans (Nat.add_le_add (Sy.cutL_le _ _ _) (Nat.le_refl _)) (by simp only [List.length_map, List.length_cons, List.length_nil]; omega)) | exact ⟨rfl, Nat.le_of_ble_eq_true rfl, by decide +kernel⟩ | (refine ⟨?_, ?_, ?_⟩ <;> decide +kernel))
    refine ⟨fun i m => ∃ (q : Int) (y : Sv), m = ⟨[.d (.scr (ns.map .int)), .d (.int b), .r 1, .d (.int q), y], [.ls (iL (cutL ns (some b) (some 63))), .ls (iL zs)]⟩ ∧ 0 ≤ q ∧ q < 2147483648, ⟨7919 + b, .no, ?_, by omega, by omega⟩, fun i x m2 hx hI => ?_, fun m2 hI => ?_⟩
    · exact congrArg (fun z => Ms.mk _ [_, Cell.ls z]) (iL_d zs)
    · have hx : ((zs.map D.int).map Sv.d)[i]? = some x := hx
      rw [iL_d] at hx
      obtain ⟨n, e, rfl, hn⟩ := iL_get hx
      obtain ⟨q, y, rfl, hq0, hq1⟩ := hI
      refine ⟨congrArg (fun z => some (Sk.l, z)) (iL_d zs).symm, ?_⟩
      repeat' ((conv => whnf); first | ((with_reducible apply Sy.one?.yes); (· exact rfl)) | ((with_reducible apply Sy.both.yes); (· exact rfl); (· exact rfl)) | (with_reducible apply Sy.both.els) | ((refine Sy.Got.here ?_ ?_); (· first | with_reducible rfl | decide +kernel)) | ((refine Sy.Got.next ?_ ?_); (· decide +kernel)) | ((with_reducible refine Sy.IfB.t ?_ ?_); (· first | with_reducible rfl | decide +kernel)) | ((with_reducible refine Sy.IfB.f ?_ ?_); (· first | with_reducible rfl | decide +kernel)) | (with_reducible refine Sy.IfB.mk (fun _ => ?_) (fun _ => ?_)) | ((with_reducible apply Sy.mkT.yes); (· exact rfl)) | (with_reducible apply Sy.mkT.els) | (with_reducible refine And.intro (Sy.Hold.out ?_) ?_))
      all_goals try (refine Sy.Hold.mk ?_; first | exact trivial | exact rfl | exact Sy.mulA (by omega) (by omega) | exact Sy.mulB (by omega) (by omega) | exact Sy.divA (by omega) (by omega) | exact Sy.smlA (by omega) (by omega) | exact Sy.szLt rfl | exact Sy.szLe rfl | exact Sy.szLe' (by omega) | exact ⟨by omega, by omega⟩ | (rw [List.length_map]; exact Sy.szLt' (by omega)) | (show (0 : Int) < _; first | omega | decide +kernel) | decide +kernel | (simp only [Vy.e_len, Vy.q_len, Vy.x_len, Vy.z_len, Vy.one_len, strLen_append, Sy.repS_len, List.length_map, List.length_append, List.length_cons, List.length_nil]; first | omega | exact Sy.szLe' (by omega) | exact Sy.szLt' (by omega) | exact Vy.cut_add (Sy.szLe' (by omega)) | exact Vy.add_cut (Sy.szLe' (by omega)) | exact Vy.cut_add (Vy.add_cut (Sy.szLe' (by omega)))) | exact ⟨by omega, by omega, by simp only [Vy.e_len, Vy.q_len, Vy.x_len, Vy.z_len, Vy.one_len]; omega, by simp only [Vy.e_len, Vy.q_len, Vy.x_len, Vy.z_len, Vy.one_len]; omega⟩ | exact Sy.szLe' (Nat.le_trans (Nat.add_le_add (Sy.cutL_le _ _ _) (Sy.cutL_le _ _ _)) (by simp only [List.length_map]; omega)) | exact Vy.flat_strs _ | exact Sy.szLe' (Nat.le_trans (Nat.add_le_add (Nat.le_refl _) (Sy.cutL_le _ _ _)) (by simp only [List.length_map, List.length_cons, List.length_nil]; omega)) | exact Sy.szLe' (Nat.le_trans (Nat.add_le_add (Sy.cutL_le _ _ _) (Nat.le_refl _)) (by simp only [List.length_map, List.length_cons, List.length_nil]; omega)) | exact ⟨rfl, Nat.le_of_ble_eq_true rfl, by decide +kernel⟩ | (refine ⟨?_, ?_, ?_⟩ <;> decide +kernel))
      exact ⟨_, .d (.int n), ms2 (cut_iL _) (cut_iL _), Int.emod_nonneg _ (by decide), Int.lt_trans (Int.emod_lt_of_pos _ (by decide)) (by decide)⟩
    · obtain ⟨q, y, rfl, hq0, hq1⟩ := hI
      refine ⟨congrArg (fun z => some (Sk.l, z)) (iL_d zs).symm, ?_⟩
      repeat' ((conv => whnf); first | ((with_reducible apply Sy.one?.yes); (· exact rfl)) | ((with_reducible apply Sy.both.yes); (· exact rfl); (· exact rfl)) | (with_reducible apply Sy.both.els) | ((refine Sy.Got.here ?_ ?_); (· first | with_reducible rfl | decide +kernel)) | ((refine Sy.Got.next ?_ ?_); (· decide +kernel)) | ((with_reducible refine Sy.IfB.t ?_ ?_); (· first | with_reducible rfl | decide +kernel)) | ((with_reducible refine Sy.IfB.f ?_ ?_); (· first | with_reducible rfl | decide +kernel)) | (with_reducible refine Sy.IfB.mk (fun _ => ?_) (fun _ => ?_)) | ((with_reducible apply Sy.mkT.yes); (· exact rfl)) | (with_reducible apply Sy.mkT.els) | (with_reducible refine And.intro (Sy.Hold.out ?_) ?_))
      all_goals try (refine Sy.Hold.mk ?_; first | exact trivial | exact rfl | exact Sy.mulA (by omega) (by omega) | exact Sy.mulB (by omega) (by omega) | exact Sy.divA (by omega) (by omega) | exact Sy.smlA (by omega) (by omega) | exact Sy.szLt rfl | exact Sy.szLe rfl | exact Sy.szLe' (by omega) | exact ⟨by omega, by omega⟩ | (rw [List.length_map]; exact Sy.szLt' (by omega)) | (show (0 : Int) < _; first | omega | decide +kernel) | decide +kernel | (simp only [Vy.e_len, Vy.q_len, Vy.x_len, Vy.z_len, Vy.one_len, strLen_append, Sy.repS_len, List.length_map, List.length_append, List.length_cons, List.length_nil]; first | omega | exact Sy.szLe' (by omega) | exact Sy.szLt' (by omega) | exact Vy.cut_add (Sy.szLe' (by omega)) | exact Vy.add_cut (Sy.szLe' (by omega)) | exact Vy.cut_add (Vy.add_cut (Sy.szLe' (by omega)))) | exact ⟨by omega, by omega, by simp only [Vy.e_len, Vy.q_len, Vy.x_len, Vy.z_len, Vy.one_len]; omega, by simp only [Vy.e_len, Vy.q_len, Vy.x_len, Vy.z_len, Vy.one_len]; omega⟩ | exact Sy.szLe' (Nat.le_trans (Nat.add_le_add (Sy.cutL_le _ _ _) (Sy.cutL_le _ _ _)) (by simp only [List.length_map]; omega)) | exact Vy.flat_strs _ | exact Sy.szLe' (Nat.le_trans (Nat.add_le_add (Nat.le_refl _) (Sy.cutL_le _ _ _)) (by simp only [List.length_map, List.length_cons, List.length_nil]; omega)) | exact Sy.szLe' (Nat.le_trans (Nat.add_le_add (Sy.cutL_le _ _ _) (Nat.le_refl _)) (by simp only [List.length_map, List.length_cons, List.length_nil]; omega)) | exact ⟨rfl, Nat.le_of_ble_eq_true rfl, by decide +kernel⟩ | (refine ⟨?_, ?_, ?_⟩ <;> decide +kernel))
      refine ⟨fun i acc S => S = [.ls (iL (cutL ns (some b) (some 63))), .ls (iL zs), .di []] ∧ ∃ ws : List Int, acc = ws.map .int ∧ (∀ z ∈ ws, 0 ≤ z) ∧ ws.length ≤ i, ⟨rfl, [], rfl, (fun _ h => by cases h), Nat.le_refl _⟩, fun i x acc S hx hI hS => ?_, fun acc S hI hS => ?_⟩
      · obtain ⟨n, e, rfl, hn⟩ := iL_get (show (iL zs)[i]? = some x from hx)
        have hi := get_lt e
        have hn0 := hz n hn
        obtain ⟨rfl, ws, rfl, hw, hwl⟩ := hI
        refine ⟨rfl, ?_⟩
        repeat' ((conv => whnf); first | ((with_reducible apply Sy.one?.yes); (· exact rfl)) | ((with_reducible apply Sy.both.yes); (· exact rfl); (· exact rfl)) | (with_reducible apply Sy.both.els) | ((refine Sy.Got.here ?_ ?_); (· first | with_reducible rfl | decide +kernel)) | ((refine Sy.Got.next ?_ ?_); (· decide +kernel)) | ((with_reducible refine Sy.IfB.t ?_ ?_); (· first | with_reducible rfl | decide +kernel)) | ((with_reducible refine Sy.IfB.f ?_ ?_); (· first | with_reducible rfl | decide +kernel)) | (with_reducible refine Sy.IfB.mk (fun _ => ?_) (fun _ => ?_)) | ((with_reducible apply Sy.mkT.yes); (· exact rfl)) | (with_reducible apply Sy.mkT.els) | (with_reducible refine And.intro (Sy.Hold.out ?_) ?_))
        all_goals try (refine Sy.Hold.mk ?_; first | exact trivial | exact rfl | exact Sy.mulA (by omega) (by omega) | exact Sy.mulB (by omega) (by omega) | exact Sy.divA (by omega) (by omega) | exact Sy.smlA (by omega) (by omega) | exact Sy.szLt rfl | exact Sy.szLe rfl | exact Sy.szLe' (by omega) | exact ⟨by omega, by omega⟩ | (rw [List.length_map]; exact Sy.szLt' (by omega)) | (show (0 : Int) < _; first | omega | decide +kernel) | decide +kernel | (simp only [Vy.e_len, Vy.q_len, Vy.x_len, Vy.z_len, Vy.one_len, strLen_append, Sy.repS_len, List.length_map, List.length_append, List.length_cons, List.length_nil]; first | omega | exact Sy.szLe' (by omega) | exact Sy.szLt' (by omega) | exact Vy.cut_add (Sy.szLe' (by omega)) | exact Vy.add_cut (Sy.szLe' (by omega)) | exact Vy.cut_add (Vy.add_cut (Sy.szLe' (by omega)))) | exact ⟨by omega, by omega, by simp only [Vy.e_len, Vy.q_len, Vy.x_len, Vy.z_len, Vy.one_len]; omega, by simp only [Vy.e_len, Vy.q_len, Vy.x_len, Vy.z_len, Vy.one_len]; omega⟩ | exact Sy.szLe' (Nat.le_trans (Nat.add_le_add (Sy.cutL_le _ _ _) (Sy.cutL_le _ _ _)) (by simp only [List.length_map]; omega)) | exact Vy.flat_strs _ | exact Sy.szLe' (Nat.le_trans (Nat.add_le_add (Nat.le_refl _) (Sy.cutL_le _ _ _)) (by simp only [List.length_map, List.length_cons, List.length_nil]; omega)) | exact Sy.szLe' (Nat.le_trans (Nat.add_le_add (Sy.cutL_le _ _ _) (Nat.le_refl _)) (by simp only [List.length_map, List.length_cons, List.length_nil]; omega)) | exact ⟨rfl, Nat.le_of_ble_eq_true rfl, by decide +kernel⟩ | (refine ⟨?_, ?_, ?_⟩ <;> decide +kernel))
        all_goals first | exact ⟨lc2 (cut_iL _) (cut_iL _)⟩ | exact ⟨_, snoc_int _ _, snoc_nn hw hn0, by rw [snoc_len]; omega⟩ | exact ⟨ws, rfl, hw, by omega⟩
      · obtain ⟨rfl, ws, rfl, hw, hwl⟩ := hI
        refine ⟨rfl, ?_⟩
        repeat' ((conv => whnf); first | ((with_reducible apply Sy.one?.yes); (· exact rfl)) | ((with_reducible apply Sy.both.yes); (· exact rfl); (· exact rfl)) | (with_reducible apply Sy.both.els) | ((refine Sy.Got.here ?_ ?_); (· first | with_reducible rfl | decide +kernel)) | ((refine Sy.Got.next ?_ ?_); (· decide +kernel)) | ((with_reducible refine Sy.IfB.t ?_ ?_); (· first | with_reducible rfl | decide +kernel)) | ((with_reducible refine Sy.IfB.f ?_ ?_); (· first | with_reducible rfl | decide +kernel)) | (with_reducible refine Sy.IfB.mk (fun _ => ?_) (fun _ => ?_)) | ((with_reducible apply Sy.mkT.yes); (· exact rfl)) | (with_reducible apply Sy.mkT.els) | (with_reducible refine And.intro (Sy.Hold.out ?_) ?_))
        all_goals try (refine Sy.Hold.mk ?_; first | exact trivial | exact rfl | exact Sy.mulA (by omega) (by omega) | exact Sy.mulB (by omega) (by omega) | exact Sy.divA (by omega) (by omega) | exact Sy.smlA (by omega) (by omega) | exact Sy.szLt rfl | exact Sy.szLe rfl | exact Sy.szLe' (by omega) | exact ⟨by omega, by omega⟩ | (rw [List.length_map]; exact Sy.szLt' (by omega)) | (show (0 : Int) < _; first | omega | decide +kernel) | decide +kernel | (simp only [Vy.e_len, Vy.q_len, Vy.x_len, Vy.z_len, Vy.one_len, strLen_append, Sy.repS_len, List.length_map, List.length_append, List.length_cons, List.length_nil]; first | omega | exact Sy.szLe' (by omega) | exact Sy.szLt' (by omega) | exact Vy.cut_add (Sy.szLe' (by omega)) | exact Vy.add_cut (Sy.szLe' (by omega)) | exact Vy.cut_add (Vy.add_cut (Sy.szLe' (by omega)))) | exact ⟨by omega, by omega, by simp only [Vy.e_len, Vy.q_len, Vy.x_len, Vy.z_len, Vy.one_len]; omega, by simp only [Vy.e_len, Vy.q_len, Vy.x_len, Vy.z_len, Vy.one_len]; omega⟩ | exact Sy.szLe' (Nat.le_trans (Nat.add_le_add (Sy.cutL_le _ _ _) (Sy.cutL_le _ _ _)) (by simp only [List.length_map]; omega)) | exact Vy.flat_strs _ | exact Sy.szLe' (Nat.le_trans (Nat.add_le_add (Nat.le_refl _) (Sy.cutL_le _ _ _)) (by simp only [List.length_map, List.length_cons, List.length_nil]; omega)) | exact Sy.szLe' (Nat.le_trans (Nat.add_le_add (Sy.cutL_le _ _ _) (Nat.le_refl _)) (by simp only [List.length_map, List.length_cons, List.length_nil]; omega)) | exact ⟨rfl, Nat.le_of_ble_eq_true rfl, by decide +kernel⟩ | (refine ⟨?_, ?_, ?_⟩ <;> decide +kernel))
        exact ⟨2, 4, q, 0, ws.reverse, rfl, rfl, congrArg (fun z => some (Cell.ls z)) (rev_ints ws), ⟨hq0, hq1, Int.le_refl _, fun n hn => hw n (List.mem_reverse.mp hn)⟩, hQ⟩
end
section
open Vy
open Sy (D one? both IfB cOk cOk_cut cOk_app cOk_rep cOk_one cOk_joinT cOk_dec repS repS_len snoc_str cutL mem_cutL cutL_le cutL_map)
variable {P : Program} {w : World} {K : PySem.W.Frag} {mg : Str → Option Value} {base : Heap}
def vDraw : Vy.PR := fun ds Q => ∃ n : Int, ds = [.int n] ∧ (0 < n ∧ n < 4611686018427387904) ∧ ∀ r : Int, 0 ≤ r → r < n → Q (.d (.int r))
theorem ok_draw (T : Tx K mg) : FnV P w K mg base 1 T._law_draw_f T._law_draw_fd ["_law_deal_here", "_law_many"] (spV K (cDl vDraw)) := draw_ofG (sok_draw T) fun ⟨n, e, hn, h⟩ => ⟨n, e, hn, fun r h0 h1 => ⟨_, rfl, rfl, h r h0 h1⟩⟩
theorem ok_deal (T : Tx K mg) : FnV P w K mg base 1 T._law_deal_f T._law_deal_fd ["_law_script", "_law_base"] (spV K (cP pDeal)) := deal_ofG (sok_deal T)
end
end K03
namespace K03
open PySem PySem.Spec PyProof.Rows L2
section
open Vy
open Sy (D one? both IfB cOk cOk_cut cOk_app cOk_rep cOk_one cOk_joinT cOk_dec repS repS_len snoc_str cutL mem_cutL cutL_le cutL_map)
variable {P : Program} {w : World} {K : PySem.W.Frag} {mg : Str → Option Value} {base : Heap}
/-- a name: one to eight small letters, no kept word -/
def NameP (s : Str) : Prop := (1 ≤ s.length ∧ s.length ≤ 8) ∧ AllS lowC s ∧ s ∉ keptL
theorem low_q : AllS lowC ("q" : Str) := .dec (by decide +kernel)
/-- as the maker of names ends -/
theorem name_end {s : Str} (hl : s.length ≤ 8) (h : AllS lowC s) (he : s ≠ "") (hk : s ∉ keptL) : NameP s := ⟨⟨by
  by_cases q : s.length = 0
  · exfalso; apply he
    obtain ⟨a⟩ := s
    have : a = #[] := Array.eq_empty_of_size_eq_zero q
    subst this; rfl
  · omega, hl⟩, h, hk⟩
theorem name_endq {s : Str} (h : AllS lowC s) (hs : s = "" ∨ s ∈ keptL) : NameP (cutS s none (some 7) ++ ("q" : Str)) := by
  have hl := cutS_length s none (some 7)
  have h8 : (cutS s none (some 7) ++ ("q" : Str)).length ≤ 8 := by
    rw [strLen_append, q_len]
    rcases hs with rfl | hs
    · rw [e_len] at hl; omega
    · have := (kept_len hs).2.1; omega
  refine ⟨⟨by rw [strLen_append, q_len]; omega, h8⟩, .app (.cut h) low_q, ?_⟩
  rcases hs with rfl | hs
  · decide +kernel
  · unfold keptL at hs
    simp only [List.mem_cons, List.not_mem_nil, or_false] at hs
    rcases hs with rfl | rfl | rfl | rfl | rfl | rfl | rfl | rfl | rfl | rfl | rfl | rfl | rfl
    all_goals decide +kernel
def vName : Vy.PR := fun ds Q => ds = [] ∧ ∀ s : Str, NameP s → Q (.d (.str s))
theorem ok_name (T : Tx K mg) (G__law_draw : FnV P w K mg base 1 T._law_draw_f T._law_draw_fd ["_law_deal_here", "_law_many"] (spV K (cDl vDraw))) : FnV P w K mg base 2 T._law_name_f T._law_name_fd ["_law_deal_here"] (spV K (cDl vName)) := by
  refine fnD ret1F T._law_name_F sc__law_name (fun ds Q h => by first | (obtain ⟨rfl, _⟩ := h; rfl) | (obtain ⟨_, rfl, _⟩ := h; rfl) | (obtain ⟨_, _, rfl, _⟩ := h; rfl) | (obtain ⟨_, _, _, rfl, _⟩ := h; rfl) | (obtain ⟨_, _, _, _, rfl, _⟩ := h; rfl)) fun cdv A outer sh H E hr free ds Q hC => ?_
  have hu := hr.units
  have hu1 := hu_of hr
  refine ⟨_, (vb_cons (vs_set (i := 1) sc__law_name.nd rfl (by first | exact Or.inl rfl | exact Or.inr rfl) rfl ve_str)
  (vb_cons (vs_set (i := 2) sc__law_name.nd rfl (by first | exact Or.inl rfl | exact Or.inr rfl) rfl (ve_lst (va_cons ve_str (va_cons ve_str (va_cons ve_str (va_cons ve_str (va_cons ve_str (va_cons ve_str (va_cons ve_str (va_cons ve_str (va_cons ve_str (va_cons ve_str (va_cons ve_str (va_cons ve_str (va_cons ve_str va_nil)))))))))))))))
  (vb_cons (vs_set (i := 3) sc__law_name.nd rfl (by first | exact Or.inl rfl | exact Or.inr rfl) rfl (ve_m_join ve_str (ve_lc (own := [("_law_k", 6)]) rfl sc__law_name.nd (vi_range1 rfl T.z_range (va_cons (ve_bin ov_add ve_int (ve_callD G__law_draw (hr.mono (by first | decide | omega)) free rfl T._law_draw_g T._law_draw_F.kp T._law_draw_b .nil (fun _ => .nil) (va_cons (ve_var 0) (va_cons ve_int va_nil)))) va_nil)) (blkOk_by (N := ["_law_deal_here", "_law_letters", "_law_kept", "_law_name_here", "_law_near", "_law_at", "_law_k"]) (sc := defScope s__law_name) (by decide +kernel)) (by simp) (fun _ _ _ _ _ => (vg_name (i := 6) sc__law_name.nd rfl (Or.inl rfl) rfl)) (fun _ _ _ _ _ => vts_nil) (fun _ _ _ _ _ => (ve_ix hu1 (ve_var 1) (ve_callD G__law_draw (hr.mono (by first | decide | omega)) free rfl T._law_draw_g T._law_draw_F.kp T._law_draw_b .nil (fun _ => .nil) (va_cons (ve_var 0) (va_cons ve_int va_nil))) (fun _ _ => rfl))))))
  (vb_cons (vs_if (vt_cmp (ov_eq hu) (ve_callD G__law_draw (hr.mono (by first | decide | omega)) free rfl T._law_draw_g T._law_draw_F.kp T._law_draw_b .nil (fun _ => .nil) (va_cons (ve_var 0) (va_cons ve_int va_nil))) ve_int (nomark _)) (vb_cons (vs_set (i := 4) sc__law_name.nd rfl (by first | exact Or.inl rfl | exact Or.inr rfl) rfl (ve_ix hu1 (ve_var 2) (ve_callD G__law_draw (hr.mono (by first | decide | omega)) free rfl T._law_draw_g T._law_draw_F.kp T._law_draw_b .nil (fun _ => .nil) (va_cons (ve_var 0) (va_cons ve_int va_nil))) (fun _ _ => rfl)))
  (vb_cons (vs_set (i := 5) sc__law_name.nd rfl (by first | exact Or.inl rfl | exact Or.inr rfl) rfl (ve_callD G__law_draw (hr.mono (by first | decide | omega)) free rfl T._law_draw_g T._law_draw_F.kp T._law_draw_b .nil (fun _ => .nil) (va_cons (ve_var 0) (va_cons (ve_bin ov_add (ve_callB (cv_len) rfl T.z_len (by decide +kernel) (va_cons (ve_var 4) va_nil)) ve_int) va_nil))))
  (vb_one (vs_set (i := 3) sc__law_name.nd rfl (by first | exact Or.inl rfl | exact Or.inr rfl) rfl (ve_bin ov_add (ve_bin ov_add (ve_slice (ve_var 4) vo_none (vo_some (ve_var 5))) (ve_bin ov_mul (ve_ix hu1 (ve_var 1) (ve_callD G__law_draw (hr.mono (by first | decide | omega)) free rfl T._law_draw_g T._law_draw_F.kp T._law_draw_b .nil (fun _ => .nil) (va_cons (ve_var 0) (va_cons ve_int va_nil))) (fun _ _ => rfl)) (ve_callD G__law_draw (hr.mono (by first | decide | omega)) free rfl T._law_draw_g T._law_draw_F.kp T._law_draw_b .nil (fun _ => .nil) (va_cons (ve_var 0) (va_cons ve_int va_nil))))) (ve_slice (ve_var 4) (vo_some (ve_bin ov_add (ve_var 5) (ve_callD G__law_draw (hr.mono (by first | decide | omega)) free rfl T._law_draw_g T._law_draw_F.kp T._law_draw_b .nil (fun _ => .nil) (va_cons (ve_var 0) (va_cons ve_int va_nil))))) vo_none)))))) vb_nil)
  (vb_cons (vs_if (VW.vt (vw_or (vt_cmp (ov_eq hu) (ve_var 3) ve_str (nomark _)) (vw_or1 (vt_cmp (ov_in hu1) (ve_var 3) (ve_var 2) rfl)))) (vb_one (vs_set (i := 3) sc__law_name.nd rfl (by first | exact Or.inl rfl | exact Or.inr rfl) rfl (ve_bin ov_add (ve_slice (ve_var 3) vo_none (vo_some ve_int)) ve_str))) vb_nil)
  (vb_one (vs_ret (ve_var 3)))))))), ?_⟩
  obtain ⟨rfl, hQ⟩ := hC
  repeat' ((conv => whnf); first | ((with_reducible apply Sy.one?.yes); (· first | exact rfl | ((conv => lhs; whnf); first | with_reducible exact Sy.strsD_map _ | with_reducible exact Vy.blsD_rep _ _))) | ((with_reducible apply Sy.both.yes); (· exact rfl); (· exact rfl)) | (with_reducible apply Sy.both.els) | ((refine Vy.Got.here ?_ ?_); (· first | with_reducible rfl | decide +kernel)) | ((refine Vy.Got.next ?_ ?_); (· decide +kernel)) | ((with_reducible refine Sy.IfB.t ?_ ?_); (· first | with_reducible rfl | decide +kernel)) | ((with_reducible refine Sy.IfB.f ?_ ?_); (· first | with_reducible rfl | decide +kernel)) | (with_reducible refine Sy.IfB.mk (fun _ => ?_) (fun _ => ?_)) | ((with_reducible apply Vy.mkT.yes); (· exact rfl)) | (with_reducible apply Vy.mkT.els) | ((with_reducible apply Vy.mkL.yes); (· exact rfl)) | (with_reducible apply Vy.mkL.els) | ((with_reducible apply Vy.eqOp.sc); (· exact rfl); (· exact rfl); (· exact rfl)) | ((with_reducible refine Vy.SetAt.di ?_); show Sy.one? _ _) | ((with_reducible refine Vy.SetAt.ls ?_); show Sy.one? _ _) | (with_reducible refine And.intro (Sy.Hold.out ?_) ?_))
  all_goals try (refine Sy.Hold.mk ?_; first | exact trivial | exact rfl | exact Sy.mulA (by omega) (by omega) | exact Sy.mulB (by omega) (by omega) | exact Sy.divA (by omega) (by omega) | exact Sy.smlA (by omega) (by omega) | exact Sy.szLt rfl | exact Sy.szLe rfl | exact Sy.szLe' (by omega) | exact ⟨by omega, by omega⟩ | (rw [List.length_map]; exact Sy.szLt' (by omega)) | (show (0 : Int) < _; first | omega | decide +kernel) | decide +kernel | (simp only [Vy.e_len, Vy.q_len, Vy.x_len, Vy.z_len, Vy.one_len, strLen_append, Sy.repS_len, List.length_map, List.length_append, List.length_cons, List.length_nil]; first | omega | exact Sy.szLe' (by omega) | exact Sy.szLt' (by omega) | exact Vy.cut_add (Sy.szLe' (by omega)) | exact Vy.add_cut (Sy.szLe' (by omega)) | exact Vy.cut_add (Vy.add_cut (Sy.szLe' (by omega)))) | exact ⟨by omega, by omega, by simp only [Vy.e_len, Vy.q_len, Vy.x_len, Vy.z_len, Vy.one_len]; omega, by simp only [Vy.e_len, Vy.q_len, Vy.x_len, Vy.z_len, Vy.one_len]; omega⟩ | exact Sy.szLe' (Nat.le_trans (Nat.add_le_add (Sy.cutL_le _ _ _) (Sy.cutL_le _ _ _)) (by simp only [List.length_map]; omega)) | exact Vy.flat_strs _ | exact Sy.szLe' (Nat.le_trans (Nat.add_le_add (Nat.le_refl _) (Sy.cutL_le _ _ _)) (by simp only [List.length_map, List.length_cons, List.length_nil]; omega)) | exact Sy.szLe' (Nat.le_trans (Nat.add_le_add (Sy.cutL_le _ _ _) (Nat.le_refl _)) (by simp only [List.length_map, List.length_cons, List.length_nil]; omega)) | exact ⟨rfl, Nat.le_of_ble_eq_true rfl, by decide +kernel⟩ | (refine ⟨?_, ?_, ?_⟩ <;> decide +kernel))
  refine ⟨8, rfl, ⟨by omega, by omega⟩, fun r h0 h1 => ?_⟩
  repeat' ((conv => whnf); first | ((with_reducible apply Sy.one?.yes); (· first | exact rfl | ((conv => lhs; whnf); first | with_reducible exact Sy.strsD_map _ | with_reducible exact Vy.blsD_rep _ _))) | ((with_reducible apply Sy.both.yes); (· exact rfl); (· exact rfl)) | (with_reducible apply Sy.both.els) | ((refine Vy.Got.here ?_ ?_); (· first | with_reducible rfl | decide +kernel)) | ((refine Vy.Got.next ?_ ?_); (· decide +kernel)) | ((with_reducible refine Sy.IfB.t ?_ ?_); (· first | with_reducible rfl | decide +kernel)) | ((with_reducible refine Sy.IfB.f ?_ ?_); (· first | with_reducible rfl | decide +kernel)) | (with_reducible refine Sy.IfB.mk (fun _ => ?_) (fun _ => ?_)) | ((with_reducible apply Vy.mkT.yes); (· exact rfl)) | (with_reducible apply Vy.mkT.els) | ((with_reducible apply Vy.mkL.yes); (· exact rfl)) | (with_reducible apply Vy.mkL.els) | ((with_reducible apply Vy.eqOp.sc); (· exact rfl); (· exact rfl); (· exact rfl)) | ((with_reducible refine Vy.SetAt.di ?_); show Sy.one? _ _) | ((with_reducible refine Vy.SetAt.ls ?_); show Sy.one? _ _) | (with_reducible refine And.intro (Sy.Hold.out ?_) ?_))
  all_goals try (refine Sy.Hold.mk ?_; first | exact trivial | exact rfl | exact Sy.mulA (by omega) (by omega) | exact Sy.mulB (by omega) (by omega) | exact Sy.divA (by omega) (by omega) | exact Sy.smlA (by omega) (by omega) | exact Sy.szLt rfl | exact Sy.szLe rfl | exact Sy.szLe' (by omega) | exact ⟨by omega, by omega⟩ | (rw [List.length_map]; exact Sy.szLt' (by omega)) | (show (0 : Int) < _; first | omega | decide +kernel) | decide +kernel | (simp only [Vy.e_len, Vy.q_len, Vy.x_len, Vy.z_len, Vy.one_len, strLen_append, Sy.repS_len, List.length_map, List.length_append, List.length_cons, List.length_nil]; first | omega | exact Sy.szLe' (by omega) | exact Sy.szLt' (by omega) | exact Vy.cut_add (Sy.szLe' (by omega)) | exact Vy.add_cut (Sy.szLe' (by omega)) | exact Vy.cut_add (Vy.add_cut (Sy.szLe' (by omega)))) | exact ⟨by omega, by omega, by simp only [Vy.e_len, Vy.q_len, Vy.x_len, Vy.z_len, Vy.one_len]; omega, by simp only [Vy.e_len, Vy.q_len, Vy.x_len, Vy.z_len, Vy.one_len]; omega⟩ | exact Sy.szLe' (Nat.le_trans (Nat.add_le_add (Sy.cutL_le _ _ _) (Sy.cutL_le _ _ _)) (by simp only [List.length_map]; omega)) | exact Vy.flat_strs _ | exact Sy.szLe' (Nat.le_trans (Nat.add_le_add (Nat.le_refl _) (Sy.cutL_le _ _ _)) (by simp only [List.length_map, List.length_cons, List.length_nil]; omega)) | exact Sy.szLe' (Nat.le_trans (Nat.add_le_add (Sy.cutL_le _ _ _) (Nat.le_refl _)) (by simp only [List.length_map, List.length_cons, List.length_nil]; omega)) | exact ⟨rfl, Nat.le_of_ble_eq_true rfl, by decide +kernel⟩ | (refine ⟨?_, ?_, ?_⟩ <;> decide +kernel))
  refine lcI (fun E => LcP (D.str) (fun _ s => s.length = 1 ∧ AllS lowC s) E) ⟨LcP.nil, fun j y acc en2 hy hJ => ?_, fun acc en2 hJ => ?_⟩
  · obtain ⟨rfl, hj⟩ := rng_get hy
    obtain ⟨rfl, as, rfl, hl, hP⟩ := hJ
    repeat' ((conv => whnf); first | ((with_reducible apply Sy.one?.yes); (· first | exact rfl | ((conv => lhs; whnf); first | with_reducible exact Sy.strsD_map _ | with_reducible exact Vy.blsD_rep _ _))) | ((with_reducible apply Sy.both.yes); (· exact rfl); (· exact rfl)) | (with_reducible apply Sy.both.els) | ((refine Vy.Got.here ?_ ?_); (· first | with_reducible rfl | decide +kernel)) | ((refine Vy.Got.next ?_ ?_); (· decide +kernel)) | ((with_reducible refine Sy.IfB.t ?_ ?_); (· first | with_reducible rfl | decide +kernel)) | ((with_reducible refine Sy.IfB.f ?_ ?_); (· first | with_reducible rfl | decide +kernel)) | (with_reducible refine Sy.IfB.mk (fun _ => ?_) (fun _ => ?_)) | ((with_reducible apply Vy.mkT.yes); (· exact rfl)) | (with_reducible apply Vy.mkT.els) | ((with_reducible apply Vy.mkL.yes); (· exact rfl)) | (with_reducible apply Vy.mkL.els) | ((with_reducible apply Vy.eqOp.sc); (· exact rfl); (· exact rfl); (· exact rfl)) | ((with_reducible refine Vy.SetAt.di ?_); show Sy.one? _ _) | ((with_reducible refine Vy.SetAt.ls ?_); show Sy.one? _ _) | (with_reducible refine And.intro (Sy.Hold.out ?_) ?_))
    all_goals try (refine Sy.Hold.mk ?_; first | exact trivial | exact rfl | exact Sy.mulA (by omega) (by omega) | exact Sy.mulB (by omega) (by omega) | exact Sy.divA (by omega) (by omega) | exact Sy.smlA (by omega) (by omega) | exact Sy.szLt rfl | exact Sy.szLe rfl | exact Sy.szLe' (by omega) | exact ⟨by omega, by omega⟩ | (rw [List.length_map]; exact Sy.szLt' (by omega)) | (show (0 : Int) < _; first | omega | decide +kernel) | decide +kernel | (simp only [Vy.e_len, Vy.q_len, Vy.x_len, Vy.z_len, Vy.one_len, strLen_append, Sy.repS_len, List.length_map, List.length_append, List.length_cons, List.length_nil]; first | omega | exact Sy.szLe' (by omega) | exact Sy.szLt' (by omega) | exact Vy.cut_add (Sy.szLe' (by omega)) | exact Vy.add_cut (Sy.szLe' (by omega)) | exact Vy.cut_add (Vy.add_cut (Sy.szLe' (by omega)))) | exact ⟨by omega, by omega, by simp only [Vy.e_len, Vy.q_len, Vy.x_len, Vy.z_len, Vy.one_len]; omega, by simp only [Vy.e_len, Vy.q_len, Vy.x_len, Vy.z_len, Vy.one_len]; omega⟩ | exact Sy.szLe' (Nat.le_trans (Nat.add_le_add (Sy.cutL_le _ _ _) (Sy.cutL_le _ _ _)) (by simp only [List.length_map]; omega)) | exact Vy.flat_strs _ | exact Sy.szLe' (Nat.le_trans (Nat.add_le_add (Nat.le_refl _) (Sy.cutL_le _ _ _)) (by simp only [List.length_map, List.length_cons, List.length_nil]; omega)) | exact Sy.szLe' (Nat.le_trans (Nat.add_le_add (Sy.cutL_le _ _ _) (Nat.le_refl _)) (by simp only [List.length_map, List.length_cons, List.length_nil]; omega)) | exact ⟨rfl, Nat.le_of_ble_eq_true rfl, by decide +kernel⟩ | (refine ⟨?_, ?_, ?_⟩ <;> decide +kernel))
    refine ⟨26, rfl, ⟨by omega, by omega⟩, fun r2 h2 h3 => ?_⟩
    repeat' ((conv => whnf); first | ((with_reducible apply Sy.one?.yes); (· first | exact rfl | ((conv => lhs; whnf); first | with_reducible exact Sy.strsD_map _ | with_reducible exact Vy.blsD_rep _ _))) | ((with_reducible apply Sy.both.yes); (· exact rfl); (· exact rfl)) | (with_reducible apply Sy.both.els) | ((refine Vy.Got.here ?_ ?_); (· first | with_reducible rfl | decide +kernel)) | ((refine Vy.Got.next ?_ ?_); (· decide +kernel)) | ((with_reducible refine Sy.IfB.t ?_ ?_); (· first | with_reducible rfl | decide +kernel)) | ((with_reducible refine Sy.IfB.f ?_ ?_); (· first | with_reducible rfl | decide +kernel)) | (with_reducible refine Sy.IfB.mk (fun _ => ?_) (fun _ => ?_)) | ((with_reducible apply Vy.mkT.yes); (· exact rfl)) | (with_reducible apply Vy.mkT.els) | ((with_reducible apply Vy.mkL.yes); (· exact rfl)) | (with_reducible apply Vy.mkL.els) | ((with_reducible apply Vy.eqOp.sc); (· exact rfl); (· exact rfl); (· exact rfl)) | ((with_reducible refine Vy.SetAt.di ?_); show Sy.one? _ _) | ((with_reducible refine Vy.SetAt.ls ?_); show Sy.one? _ _) | (with_reducible refine And.intro (Sy.Hold.out ?_) ?_))
    all_goals try (refine Sy.Hold.mk ?_; first | exact trivial | exact rfl | exact Sy.mulA (by omega) (by omega) | exact Sy.mulB (by omega) (by omega) | exact Sy.divA (by omega) (by omega) | exact Sy.smlA (by omega) (by omega) | exact Sy.szLt rfl | exact Sy.szLe rfl | exact Sy.szLe' (by omega) | exact ⟨by omega, by omega⟩ | (rw [List.length_map]; exact Sy.szLt' (by omega)) | (show (0 : Int) < _; first | omega | decide +kernel) | decide +kernel | (simp only [Vy.e_len, Vy.q_len, Vy.x_len, Vy.z_len, Vy.one_len, strLen_append, Sy.repS_len, List.length_map, List.length_append, List.length_cons, List.length_nil]; first | omega | exact Sy.szLe' (by omega) | exact Sy.szLt' (by omega) | exact Vy.cut_add (Sy.szLe' (by omega)) | exact Vy.add_cut (Sy.szLe' (by omega)) | exact Vy.cut_add (Vy.add_cut (Sy.szLe' (by omega)))) | exact ⟨by omega, by omega, by simp only [Vy.e_len, Vy.q_len, Vy.x_len, Vy.z_len, Vy.one_len]; omega, by simp only [Vy.e_len, Vy.q_len, Vy.x_len, Vy.z_len, Vy.one_len]; omega⟩ | exact Sy.szLe' (Nat.le_trans (Nat.add_le_add (Sy.cutL_le _ _ _) (Sy.cutL_le _ _ _)) (by simp only [List.length_map]; omega)) | exact Vy.flat_strs _ | exact Sy.szLe' (Nat.le_trans (Nat.add_le_add (Nat.le_refl _) (Sy.cutL_le _ _ _)) (by simp only [List.length_map, List.length_cons, List.length_nil]; omega)) | exact Sy.szLe' (Nat.le_trans (Nat.add_le_add (Sy.cutL_le _ _ _) (Nat.le_refl _)) (by simp only [List.length_map, List.length_cons, List.length_nil]; omega)) | exact ⟨rfl, Nat.le_of_ble_eq_true rfl, by decide +kernel⟩ | (refine ⟨?_, ?_, ?_⟩ <;> decide +kernel))
    obtain ⟨c, e, hc⟩ := letter h2 h3
    refine one?.yes e ?_
    repeat' ((conv => whnf); first | ((with_reducible apply Sy.one?.yes); (· first | exact rfl | ((conv => lhs; whnf); first | with_reducible exact Sy.strsD_map _ | with_reducible exact Vy.blsD_rep _ _))) | ((with_reducible apply Sy.both.yes); (· exact rfl); (· exact rfl)) | (with_reducible apply Sy.both.els) | ((refine Vy.Got.here ?_ ?_); (· first | with_reducible rfl | decide +kernel)) | ((refine Vy.Got.next ?_ ?_); (· decide +kernel)) | ((with_reducible refine Sy.IfB.t ?_ ?_); (· first | with_reducible rfl | decide +kernel)) | ((with_reducible refine Sy.IfB.f ?_ ?_); (· first | with_reducible rfl | decide +kernel)) | (with_reducible refine Sy.IfB.mk (fun _ => ?_) (fun _ => ?_)) | ((with_reducible apply Vy.mkT.yes); (· exact rfl)) | (with_reducible apply Vy.mkT.els) | ((with_reducible apply Vy.mkL.yes); (· exact rfl)) | (with_reducible apply Vy.mkL.els) | ((with_reducible apply Vy.eqOp.sc); (· exact rfl); (· exact rfl); (· exact rfl)) | ((with_reducible refine Vy.SetAt.di ?_); show Sy.one? _ _) | ((with_reducible refine Vy.SetAt.ls ?_); show Sy.one? _ _) | (with_reducible refine And.intro (Sy.Hold.out ?_) ?_))
    all_goals try (refine Sy.Hold.mk ?_; first | exact trivial | exact rfl | exact Sy.mulA (by omega) (by omega) | exact Sy.mulB (by omega) (by omega) | exact Sy.divA (by omega) (by omega) | exact Sy.smlA (by omega) (by omega) | exact Sy.szLt rfl | exact Sy.szLe rfl | exact Sy.szLe' (by omega) | exact ⟨by omega, by omega⟩ | (rw [List.length_map]; exact Sy.szLt' (by omega)) | (show (0 : Int) < _; first | omega | decide +kernel) | decide +kernel | (simp only [Vy.e_len, Vy.q_len, Vy.x_len, Vy.z_len, Vy.one_len, strLen_append, Sy.repS_len, List.length_map, List.length_append, List.length_cons, List.length_nil]; first | omega | exact Sy.szLe' (by omega) | exact Sy.szLt' (by omega) | exact Vy.cut_add (Sy.szLe' (by omega)) | exact Vy.add_cut (Sy.szLe' (by omega)) | exact Vy.cut_add (Vy.add_cut (Sy.szLe' (by omega)))) | exact ⟨by omega, by omega, by simp only [Vy.e_len, Vy.q_len, Vy.x_len, Vy.z_len, Vy.one_len]; omega, by simp only [Vy.e_len, Vy.q_len, Vy.x_len, Vy.z_len, Vy.one_len]; omega⟩ | exact Sy.szLe' (Nat.le_trans (Nat.add_le_add (Sy.cutL_le _ _ _) (Sy.cutL_le _ _ _)) (by simp only [List.length_map]; omega)) | exact Vy.flat_strs _ | exact Sy.szLe' (Nat.le_trans (Nat.add_le_add (Nat.le_refl _) (Sy.cutL_le _ _ _)) (by simp only [List.length_map, List.length_cons, List.length_nil]; omega)) | exact Sy.szLe' (Nat.le_trans (Nat.add_le_add (Sy.cutL_le _ _ _) (Nat.le_refl _)) (by simp only [List.length_map, List.length_cons, List.length_nil]; omega)) | exact ⟨rfl, Nat.le_of_ble_eq_true rfl, by decide +kernel⟩ | (refine ⟨?_, ?_, ?_⟩ <;> decide +kernel))
    exact LcP.snoc ⟨#[c]⟩ hl hP rfl rfl ⟨rfl, .one hc⟩
  · obtain ⟨rfl, as, rfl, hl, hP⟩ := hJ
    rw [rng_len] at hl
    have hs := sum_le (k := 1) (all_of fun j a h => Nat.le_of_eq (hP j a h).1)
    have hj := join0_len as
    have hlow : AllS lowC (Txt.join "" as) := .joinT (.nil rfl) (all_of fun j a h => (hP j a h).2)
    repeat' ((conv => whnf); first | ((with_reducible apply Sy.one?.yes); (· first | exact rfl | ((conv => lhs; whnf); first | with_reducible exact Sy.strsD_map _ | with_reducible exact Vy.blsD_rep _ _))) | ((with_reducible apply Sy.both.yes); (· exact rfl); (· exact rfl)) | (with_reducible apply Sy.both.els) | ((refine Vy.Got.here ?_ ?_); (· first | with_reducible rfl | decide +kernel)) | ((refine Vy.Got.next ?_ ?_); (· decide +kernel)) | ((with_reducible refine Sy.IfB.t ?_ ?_); (· first | with_reducible rfl | decide +kernel)) | ((with_reducible refine Sy.IfB.f ?_ ?_); (· first | with_reducible rfl | decide +kernel)) | (with_reducible refine Sy.IfB.mk (fun _ => ?_) (fun _ => ?_)) | ((with_reducible apply Vy.mkT.yes); (· exact rfl)) | (with_reducible apply Vy.mkT.els) | ((with_reducible apply Vy.mkL.yes); (· exact rfl)) | (with_reducible apply Vy.mkL.els) | ((with_reducible apply Vy.eqOp.sc); (· exact rfl); (· exact rfl); (· exact rfl)) | ((with_reducible refine Vy.SetAt.di ?_); show Sy.one? _ _) | ((with_reducible refine Vy.SetAt.ls ?_); show Sy.one? _ _) | (with_reducible refine And.intro (Sy.Hold.out ?_) ?_))
    all_goals try (refine Sy.Hold.mk ?_; first | exact trivial | exact rfl | exact Sy.mulA (by omega) (by omega) | exact Sy.mulB (by omega) (by omega) | exact Sy.divA (by omega) (by omega) | exact Sy.smlA (by omega) (by omega) | exact Sy.szLt rfl | exact Sy.szLe rfl | exact Sy.szLe' (by omega) | exact ⟨by omega, by omega⟩ | (rw [List.length_map]; exact Sy.szLt' (by omega)) | (show (0 : Int) < _; first | omega | decide +kernel) | decide +kernel | (simp only [Vy.e_len, Vy.q_len, Vy.x_len, Vy.z_len, Vy.one_len, strLen_append, Sy.repS_len, List.length_map, List.length_append, List.length_cons, List.length_nil]; first | omega | exact Sy.szLe' (by omega) | exact Sy.szLt' (by omega) | exact Vy.cut_add (Sy.szLe' (by omega)) | exact Vy.add_cut (Sy.szLe' (by omega)) | exact Vy.cut_add (Vy.add_cut (Sy.szLe' (by omega)))) | exact ⟨by omega, by omega, by simp only [Vy.e_len, Vy.q_len, Vy.x_len, Vy.z_len, Vy.one_len]; omega, by simp only [Vy.e_len, Vy.q_len, Vy.x_len, Vy.z_len, Vy.one_len]; omega⟩ | exact Sy.szLe' (Nat.le_trans (Nat.add_le_add (Sy.cutL_le _ _ _) (Sy.cutL_le _ _ _)) (by simp only [List.length_map]; omega)) | exact Vy.flat_strs _ | exact Sy.szLe' (Nat.le_trans (Nat.add_le_add (Nat.le_refl _) (Sy.cutL_le _ _ _)) (by simp only [List.length_map, List.length_cons, List.length_nil]; omega)) | exact Sy.szLe' (Nat.le_trans (Nat.add_le_add (Sy.cutL_le _ _ _) (Nat.le_refl _)) (by simp only [List.length_map, List.length_cons, List.length_nil]; omega)) | exact ⟨rfl, Nat.le_of_ble_eq_true rfl, by decide +kernel⟩ | (refine ⟨?_, ?_, ?_⟩ <;> decide +kernel))
    generalize hnm : Txt.join "" as = nm at *
    have hnl : nm.length ≤ 8 := by omega
    have fin : ∀ s : Str, s.length ≤ 8 → AllS lowC s → decide (V.str s = V.str "") = false → (if false = true then !Sy.inD (.str s) (keptL.map .str) else Sy.inD (.str s) (keptL.map .str)) = false → Q (.d (.str s)) := fun s h1 h2 h3 h4 => hQ s (name_end h1 h2 (str_ne h3) (notin_strs h4))
    have fin1 : ∀ s : Str, AllS lowC s → decide (V.str s = V.str "") = true → Q (.d (.str (cutS s none (some 7) ++ ("q" : Str)))) := fun s h2 h3 => hQ _ (name_endq h2 (.inl (str_eq h3)))
    have fin2 : ∀ s : Str, AllS lowC s → (if false = true then !Sy.inD (.str s) (keptL.map .str) else Sy.inD (.str s) (keptL.map .str)) = true → Q (.d (.str (cutS s none (some 7) ++ ("q" : Str)))) := fun s h2 h3 => hQ _ (name_endq h2 (.inr (in_strs h3)))
    refine ⟨3, rfl, ⟨by omega, by omega⟩, fun r2 h2 h3 => ?_⟩
    repeat' ((conv => whnf); first | ((with_reducible apply Sy.one?.yes); (· first | exact rfl | ((conv => lhs; whnf); first | with_reducible exact Sy.strsD_map _ | with_reducible exact Vy.blsD_rep _ _))) | ((with_reducible apply Sy.both.yes); (· exact rfl); (· exact rfl)) | (with_reducible apply Sy.both.els) | ((refine Vy.Got.here ?_ ?_); (· first | with_reducible rfl | decide +kernel)) | ((refine Vy.Got.next ?_ ?_); (· decide +kernel)) | ((with_reducible refine Sy.IfB.t ?_ ?_); (· first | with_reducible rfl | decide +kernel)) | ((with_reducible refine Sy.IfB.f ?_ ?_); (· first | with_reducible rfl | decide +kernel)) | (with_reducible refine Sy.IfB.mk (fun _ => ?_) (fun _ => ?_)) | ((with_reducible apply Vy.mkT.yes); (· exact rfl)) | (with_reducible apply Vy.mkT.els) | ((with_reducible apply Vy.mkL.yes); (· exact rfl)) | (with_reducible apply Vy.mkL.els) | ((with_reducible apply Vy.eqOp.sc); (· exact rfl); (· exact rfl); (· exact rfl)) | ((with_reducible refine Vy.SetAt.di ?_); show Sy.one? _ _) | ((with_reducible refine Vy.SetAt.ls ?_); show Sy.one? _ _) | (with_reducible refine And.intro (Sy.Hold.out ?_) ?_))
    all_goals try (refine Sy.Hold.mk ?_; first | exact trivial | exact rfl | exact Sy.mulA (by omega) (by omega) | exact Sy.mulB (by omega) (by omega) | exact Sy.divA (by omega) (by omega) | exact Sy.smlA (by omega) (by omega) | exact Sy.szLt rfl | exact Sy.szLe rfl | exact Sy.szLe' (by omega) | exact ⟨by omega, by omega⟩ | (rw [List.length_map]; exact Sy.szLt' (by omega)) | (show (0 : Int) < _; first | omega | decide +kernel) | decide +kernel | (simp only [Vy.e_len, Vy.q_len, Vy.x_len, Vy.z_len, Vy.one_len, strLen_append, Sy.repS_len, List.length_map, List.length_append, List.length_cons, List.length_nil]; first | omega | exact Sy.szLe' (by omega) | exact Sy.szLt' (by omega) | exact Vy.cut_add (Sy.szLe' (by omega)) | exact Vy.add_cut (Sy.szLe' (by omega)) | exact Vy.cut_add (Vy.add_cut (Sy.szLe' (by omega)))) | exact ⟨by omega, by omega, by simp only [Vy.e_len, Vy.q_len, Vy.x_len, Vy.z_len, Vy.one_len]; omega, by simp only [Vy.e_len, Vy.q_len, Vy.x_len, Vy.z_len, Vy.one_len]; omega⟩ | exact Sy.szLe' (Nat.le_trans (Nat.add_le_add (Sy.cutL_le _ _ _) (Sy.cutL_le _ _ _)) (by simp only [List.length_map]; omega)) | exact Vy.flat_strs _ | exact Sy.szLe' (Nat.le_trans (Nat.add_le_add (Nat.le_refl _) (Sy.cutL_le _ _ _)) (by simp only [List.length_map, List.length_cons, List.length_nil]; omega)) | exact Sy.szLe' (Nat.le_trans (Nat.add_le_add (Sy.cutL_le _ _ _) (Nat.le_refl _)) (by simp only [List.length_map, List.length_cons, List.length_nil]; omega)) | exact ⟨rfl, Nat.le_of_ble_eq_true rfl, by decide +kernel⟩ | (refine ⟨?_, ?_, ?_⟩ <;> decide +kernel))
    · refine ⟨13, rfl, ⟨by omega, by omega⟩, fun r3 h4 h5 => ?_⟩
      repeat' ((conv => whnf); first | ((with_reducible apply Sy.one?.yes); (· first | exact rfl | ((conv => lhs; whnf); first | with_reducible exact Sy.strsD_map _ | with_reducible exact Vy.blsD_rep _ _))) | ((with_reducible apply Sy.both.yes); (· exact rfl); (· exact rfl)) | (with_reducible apply Sy.both.els) | ((refine Vy.Got.here ?_ ?_); (· first | with_reducible rfl | decide +kernel)) | ((refine Vy.Got.next ?_ ?_); (· decide +kernel)) | ((with_reducible refine Sy.IfB.t ?_ ?_); (· first | with_reducible rfl | decide +kernel)) | ((with_reducible refine Sy.IfB.f ?_ ?_); (· first | with_reducible rfl | decide +kernel)) | (with_reducible refine Sy.IfB.mk (fun _ => ?_) (fun _ => ?_)) | ((with_reducible apply Vy.mkT.yes); (· exact rfl)) | (with_reducible apply Vy.mkT.els) | ((with_reducible apply Vy.mkL.yes); (· exact rfl)) | (with_reducible apply Vy.mkL.els) | ((with_reducible apply Vy.eqOp.sc); (· exact rfl); (· exact rfl); (· exact rfl)) | ((with_reducible refine Vy.SetAt.di ?_); show Sy.one? _ _) | ((with_reducible refine Vy.SetAt.ls ?_); show Sy.one? _ _) | (with_reducible refine And.intro (Sy.Hold.out ?_) ?_))
      all_goals try (refine Sy.Hold.mk ?_; first | exact trivial | exact rfl | exact Sy.mulA (by omega) (by omega) | exact Sy.mulB (by omega) (by omega) | exact Sy.divA (by omega) (by omega) | exact Sy.smlA (by omega) (by omega) | exact Sy.szLt rfl | exact Sy.szLe rfl | exact Sy.szLe' (by omega) | exact ⟨by omega, by omega⟩ | (rw [List.length_map]; exact Sy.szLt' (by omega)) | (show (0 : Int) < _; first | omega | decide +kernel) | decide +kernel | (simp only [Vy.e_len, Vy.q_len, Vy.x_len, Vy.z_len, Vy.one_len, strLen_append, Sy.repS_len, List.length_map, List.length_append, List.length_cons, List.length_nil]; first | omega | exact Sy.szLe' (by omega) | exact Sy.szLt' (by omega) | exact Vy.cut_add (Sy.szLe' (by omega)) | exact Vy.add_cut (Sy.szLe' (by omega)) | exact Vy.cut_add (Vy.add_cut (Sy.szLe' (by omega)))) | exact ⟨by omega, by omega, by simp only [Vy.e_len, Vy.q_len, Vy.x_len, Vy.z_len, Vy.one_len]; omega, by simp only [Vy.e_len, Vy.q_len, Vy.x_len, Vy.z_len, Vy.one_len]; omega⟩ | exact Sy.szLe' (Nat.le_trans (Nat.add_le_add (Sy.cutL_le _ _ _) (Sy.cutL_le _ _ _)) (by simp only [List.length_map]; omega)) | exact Vy.flat_strs _ | exact Sy.szLe' (Nat.le_trans (Nat.add_le_add (Nat.le_refl _) (Sy.cutL_le _ _ _)) (by simp only [List.length_map, List.length_cons, List.length_nil]; omega)) | exact Sy.szLe' (Nat.le_trans (Nat.add_le_add (Sy.cutL_le _ _ _) (Nat.le_refl _)) (by simp only [List.length_map, List.length_cons, List.length_nil]; omega)) | exact ⟨rfl, Nat.le_of_ble_eq_true rfl, by decide +kernel⟩ | (refine ⟨?_, ?_, ?_⟩ <;> decide +kernel))
      obtain ⟨s, e, hs'⟩ := atI_ge (xs := keptL) h4 h5
      have hk := kept_len (List.mem_of_getElem? e)
      refine one?.yes ((atI_map D.str keptL r3).trans (congrArg _ hs')) ?_
      repeat' ((conv => whnf); first | ((with_reducible apply Sy.one?.yes); (· first | exact rfl | ((conv => lhs; whnf); first | with_reducible exact Sy.strsD_map _ | with_reducible exact Vy.blsD_rep _ _))) | ((with_reducible apply Sy.both.yes); (· exact rfl); (· exact rfl)) | (with_reducible apply Sy.both.els) | ((refine Vy.Got.here ?_ ?_); (· first | with_reducible rfl | decide +kernel)) | ((refine Vy.Got.next ?_ ?_); (· decide +kernel)) | ((with_reducible refine Sy.IfB.t ?_ ?_); (· first | with_reducible rfl | decide +kernel)) | ((with_reducible refine Sy.IfB.f ?_ ?_); (· first | with_reducible rfl | decide +kernel)) | (with_reducible refine Sy.IfB.mk (fun _ => ?_) (fun _ => ?_)) | ((with_reducible apply Vy.mkT.yes); (· exact rfl)) | (with_reducible apply Vy.mkT.els) | ((with_reducible apply Vy.mkL.yes); (· exact rfl)) | (with_reducible apply Vy.mkL.els) | ((with_reducible apply Vy.eqOp.sc); (· exact rfl); (· exact rfl); (· exact rfl)) | ((with_reducible refine Vy.SetAt.di ?_); show Sy.one? _ _) | ((with_reducible refine Vy.SetAt.ls ?_); show Sy.one? _ _) | (with_reducible refine And.intro (Sy.Hold.out ?_) ?_))
      all_goals try (refine Sy.Hold.mk ?_; first | exact trivial | exact rfl | exact Sy.mulA (by omega) (by omega) | exact Sy.mulB (by omega) (by omega) | exact Sy.divA (by omega) (by omega) | exact Sy.smlA (by omega) (by omega) | exact Sy.szLt rfl | exact Sy.szLe rfl | exact Sy.szLe' (by omega) | exact ⟨by omega, by omega⟩ | (rw [List.length_map]; exact Sy.szLt' (by omega)) | (show (0 : Int) < _; first | omega | decide +kernel) | decide +kernel | (simp only [Vy.e_len, Vy.q_len, Vy.x_len, Vy.z_len, Vy.one_len, strLen_append, Sy.repS_len, List.length_map, List.length_append, List.length_cons, List.length_nil]; first | omega | exact Sy.szLe' (by omega) | exact Sy.szLt' (by omega) | exact Vy.cut_add (Sy.szLe' (by omega)) | exact Vy.add_cut (Sy.szLe' (by omega)) | exact Vy.cut_add (Vy.add_cut (Sy.szLe' (by omega)))) | exact ⟨by omega, by omega, by simp only [Vy.e_len, Vy.q_len, Vy.x_len, Vy.z_len, Vy.one_len]; omega, by simp only [Vy.e_len, Vy.q_len, Vy.x_len, Vy.z_len, Vy.one_len]; omega⟩ | exact Sy.szLe' (Nat.le_trans (Nat.add_le_add (Sy.cutL_le _ _ _) (Sy.cutL_le _ _ _)) (by simp only [List.length_map]; omega)) | exact Vy.flat_strs _ | exact Sy.szLe' (Nat.le_trans (Nat.add_le_add (Nat.le_refl _) (Sy.cutL_le _ _ _)) (by simp only [List.length_map, List.length_cons, List.length_nil]; omega)) | exact Sy.szLe' (Nat.le_trans (Nat.add_le_add (Sy.cutL_le _ _ _) (Nat.le_refl _)) (by simp only [List.length_map, List.length_cons, List.length_nil]; omega)) | exact ⟨rfl, Nat.le_of_ble_eq_true rfl, by decide +kernel⟩ | (refine ⟨?_, ?_, ?_⟩ <;> decide +kernel))
      refine ⟨(s.length : Int) + 1, rfl, ⟨by omega, by omega⟩, fun r4 h6 h7 => ?_⟩
      repeat' ((conv => whnf); first | ((with_reducible apply Sy.one?.yes); (· first | exact rfl | ((conv => lhs; whnf); first | with_reducible exact Sy.strsD_map _ | with_reducible exact Vy.blsD_rep _ _))) | ((with_reducible apply Sy.both.yes); (· exact rfl); (· exact rfl)) | (with_reducible apply Sy.both.els) | ((refine Vy.Got.here ?_ ?_); (· first | with_reducible rfl | decide +kernel)) | ((refine Vy.Got.next ?_ ?_); (· decide +kernel)) | ((with_reducible refine Sy.IfB.t ?_ ?_); (· first | with_reducible rfl | decide +kernel)) | ((with_reducible refine Sy.IfB.f ?_ ?_); (· first | with_reducible rfl | decide +kernel)) | (with_reducible refine Sy.IfB.mk (fun _ => ?_) (fun _ => ?_)) | ((with_reducible apply Vy.mkT.yes); (· exact rfl)) | (with_reducible apply Vy.mkT.els) | ((with_reducible apply Vy.mkL.yes); (· exact rfl)) | (with_reducible apply Vy.mkL.els) | ((with_reducible apply Vy.eqOp.sc); (· exact rfl); (· exact rfl); (· exact rfl)) | ((with_reducible refine Vy.SetAt.di ?_); show Sy.one? _ _) | ((with_reducible refine Vy.SetAt.ls ?_); show Sy.one? _ _) | (with_reducible refine And.intro (Sy.Hold.out ?_) ?_))
      all_goals try (refine Sy.Hold.mk ?_; first | exact trivial | exact rfl | exact Sy.mulA (by omega) (by omega) | exact Sy.mulB (by omega) (by omega) | exact Sy.divA (by omega) (by omega) | exact Sy.smlA (by omega) (by omega) | exact Sy.szLt rfl | exact Sy.szLe rfl | exact Sy.szLe' (by omega) | exact ⟨by omega, by omega⟩ | (rw [List.length_map]; exact Sy.szLt' (by omega)) | (show (0 : Int) < _; first | omega | decide +kernel) | decide +kernel | (simp only [Vy.e_len, Vy.q_len, Vy.x_len, Vy.z_len, Vy.one_len, strLen_append, Sy.repS_len, List.length_map, List.length_append, List.length_cons, List.length_nil]; first | omega | exact Sy.szLe' (by omega) | exact Sy.szLt' (by omega) | exact Vy.cut_add (Sy.szLe' (by omega)) | exact Vy.add_cut (Sy.szLe' (by omega)) | exact Vy.cut_add (Vy.add_cut (Sy.szLe' (by omega)))) | exact ⟨by omega, by omega, by simp only [Vy.e_len, Vy.q_len, Vy.x_len, Vy.z_len, Vy.one_len]; omega, by simp only [Vy.e_len, Vy.q_len, Vy.x_len, Vy.z_len, Vy.one_len]; omega⟩ | exact Sy.szLe' (Nat.le_trans (Nat.add_le_add (Sy.cutL_le _ _ _) (Sy.cutL_le _ _ _)) (by simp only [List.length_map]; omega)) | exact Vy.flat_strs _ | exact Sy.szLe' (Nat.le_trans (Nat.add_le_add (Nat.le_refl _) (Sy.cutL_le _ _ _)) (by simp only [List.length_map, List.length_cons, List.length_nil]; omega)) | exact Sy.szLe' (Nat.le_trans (Nat.add_le_add (Sy.cutL_le _ _ _) (Nat.le_refl _)) (by simp only [List.length_map, List.length_cons, List.length_nil]; omega)) | exact ⟨rfl, Nat.le_of_ble_eq_true rfl, by decide +kernel⟩ | (refine ⟨?_, ?_, ?_⟩ <;> decide +kernel))
      refine ⟨26, rfl, ⟨by omega, by omega⟩, fun r5 h8 h9 => ?_⟩
      repeat' ((conv => whnf); first | ((with_reducible apply Sy.one?.yes); (· first | exact rfl | ((conv => lhs; whnf); first | with_reducible exact Sy.strsD_map _ | with_reducible exact Vy.blsD_rep _ _))) | ((with_reducible apply Sy.both.yes); (· exact rfl); (· exact rfl)) | (with_reducible apply Sy.both.els) | ((refine Vy.Got.here ?_ ?_); (· first | with_reducible rfl | decide +kernel)) | ((refine Vy.Got.next ?_ ?_); (· decide +kernel)) | ((with_reducible refine Sy.IfB.t ?_ ?_); (· first | with_reducible rfl | decide +kernel)) | ((with_reducible refine Sy.IfB.f ?_ ?_); (· first | with_reducible rfl | decide +kernel)) | (with_reducible refine Sy.IfB.mk (fun _ => ?_) (fun _ => ?_)) | ((with_reducible apply Vy.mkT.yes); (· exact rfl)) | (with_reducible apply Vy.mkT.els) | ((with_reducible apply Vy.mkL.yes); (· exact rfl)) | (with_reducible apply Vy.mkL.els) | ((with_reducible apply Vy.eqOp.sc); (· exact rfl); (· exact rfl); (· exact rfl)) | ((with_reducible refine Vy.SetAt.di ?_); show Sy.one? _ _) | ((with_reducible refine Vy.SetAt.ls ?_); show Sy.one? _ _) | (with_reducible refine And.intro (Sy.Hold.out ?_) ?_))
      all_goals try (refine Sy.Hold.mk ?_; first | exact trivial | exact rfl | exact Sy.mulA (by omega) (by omega) | exact Sy.mulB (by omega) (by omega) | exact Sy.divA (by omega) (by omega) | exact Sy.smlA (by omega) (by omega) | exact Sy.szLt rfl | exact Sy.szLe rfl | exact Sy.szLe' (by omega) | exact ⟨by omega, by omega⟩ | (rw [List.length_map]; exact Sy.szLt' (by omega)) | (show (0 : Int) < _; first | omega | decide +kernel) | decide +kernel | (simp only [Vy.e_len, Vy.q_len, Vy.x_len, Vy.z_len, Vy.one_len, strLen_append, Sy.repS_len, List.length_map, List.length_append, List.length_cons, List.length_nil]; first | omega | exact Sy.szLe' (by omega) | exact Sy.szLt' (by omega) | exact Vy.cut_add (Sy.szLe' (by omega)) | exact Vy.add_cut (Sy.szLe' (by omega)) | exact Vy.cut_add (Vy.add_cut (Sy.szLe' (by omega)))) | exact ⟨by omega, by omega, by simp only [Vy.e_len, Vy.q_len, Vy.x_len, Vy.z_len, Vy.one_len]; omega, by simp only [Vy.e_len, Vy.q_len, Vy.x_len, Vy.z_len, Vy.one_len]; omega⟩ | exact Sy.szLe' (Nat.le_trans (Nat.add_le_add (Sy.cutL_le _ _ _) (Sy.cutL_le _ _ _)) (by simp only [List.length_map]; omega)) | exact Vy.flat_strs _ | exact Sy.szLe' (Nat.le_trans (Nat.add_le_add (Nat.le_refl _) (Sy.cutL_le _ _ _)) (by simp only [List.length_map, List.length_cons, List.length_nil]; omega)) | exact Sy.szLe' (Nat.le_trans (Nat.add_le_add (Sy.cutL_le _ _ _) (Nat.le_refl _)) (by simp only [List.length_map, List.length_cons, List.length_nil]; omega)) | exact ⟨rfl, Nat.le_of_ble_eq_true rfl, by decide +kernel⟩ | (refine ⟨?_, ?_, ?_⟩ <;> decide +kernel))
      obtain ⟨c, e2, hc⟩ := letter h8 h9
      refine one?.yes e2 ?_
      repeat' ((conv => whnf); first | ((with_reducible apply Sy.one?.yes); (· first | exact rfl | ((conv => lhs; whnf); first | with_reducible exact Sy.strsD_map _ | with_reducible exact Vy.blsD_rep _ _))) | ((with_reducible apply Sy.both.yes); (· exact rfl); (· exact rfl)) | (with_reducible apply Sy.both.els) | ((refine Vy.Got.here ?_ ?_); (· first | with_reducible rfl | decide +kernel)) | ((refine Vy.Got.next ?_ ?_); (· decide +kernel)) | ((with_reducible refine Sy.IfB.t ?_ ?_); (· first | with_reducible rfl | decide +kernel)) | ((with_reducible refine Sy.IfB.f ?_ ?_); (· first | with_reducible rfl | decide +kernel)) | (with_reducible refine Sy.IfB.mk (fun _ => ?_) (fun _ => ?_)) | ((with_reducible apply Vy.mkT.yes); (· exact rfl)) | (with_reducible apply Vy.mkT.els) | ((with_reducible apply Vy.mkL.yes); (· exact rfl)) | (with_reducible apply Vy.mkL.els) | ((with_reducible apply Vy.eqOp.sc); (· exact rfl); (· exact rfl); (· exact rfl)) | ((with_reducible refine Vy.SetAt.di ?_); show Sy.one? _ _) | ((with_reducible refine Vy.SetAt.ls ?_); show Sy.one? _ _) | (with_reducible refine And.intro (Sy.Hold.out ?_) ?_))
      all_goals try (refine Sy.Hold.mk ?_; first | exact trivial | exact rfl | exact Sy.mulA (by omega) (by omega) | exact Sy.mulB (by omega) (by omega) | exact Sy.divA (by omega) (by omega) | exact Sy.smlA (by omega) (by omega) | exact Sy.szLt rfl | exact Sy.szLe rfl | exact Sy.szLe' (by omega) | exact ⟨by omega, by omega⟩ | (rw [List.length_map]; exact Sy.szLt' (by omega)) | (show (0 : Int) < _; first | omega | decide +kernel) | decide +kernel | (simp only [Vy.e_len, Vy.q_len, Vy.x_len, Vy.z_len, Vy.one_len, strLen_append, Sy.repS_len, List.length_map, List.length_append, List.length_cons, List.length_nil]; first | omega | exact Sy.szLe' (by omega) | exact Sy.szLt' (by omega) | exact Vy.cut_add (Sy.szLe' (by omega)) | exact Vy.add_cut (Sy.szLe' (by omega)) | exact Vy.cut_add (Vy.add_cut (Sy.szLe' (by omega)))) | exact ⟨by omega, by omega, by simp only [Vy.e_len, Vy.q_len, Vy.x_len, Vy.z_len, Vy.one_len]; omega, by simp only [Vy.e_len, Vy.q_len, Vy.x_len, Vy.z_len, Vy.one_len]; omega⟩ | exact Sy.szLe' (Nat.le_trans (Nat.add_le_add (Sy.cutL_le _ _ _) (Sy.cutL_le _ _ _)) (by simp only [List.length_map]; omega)) | exact Vy.flat_strs _ | exact Sy.szLe' (Nat.le_trans (Nat.add_le_add (Nat.le_refl _) (Sy.cutL_le _ _ _)) (by simp only [List.length_map, List.length_cons, List.length_nil]; omega)) | exact Sy.szLe' (Nat.le_trans (Nat.add_le_add (Sy.cutL_le _ _ _) (Nat.le_refl _)) (by simp only [List.length_map, List.length_cons, List.length_nil]; omega)) | exact ⟨rfl, Nat.le_of_ble_eq_true rfl, by decide +kernel⟩ | (refine ⟨?_, ?_, ?_⟩ <;> decide +kernel))
      refine ⟨2, rfl, ⟨by omega, by omega⟩, fun r6 h10 h11 => ?_⟩
      repeat' ((conv => whnf); first | ((with_reducible apply Sy.one?.yes); (· first | exact rfl | ((conv => lhs; whnf); first | with_reducible exact Sy.strsD_map _ | with_reducible exact Vy.blsD_rep _ _))) | ((with_reducible apply Sy.both.yes); (· exact rfl); (· exact rfl)) | (with_reducible apply Sy.both.els) | ((refine Vy.Got.here ?_ ?_); (· first | with_reducible rfl | decide +kernel)) | ((refine Vy.Got.next ?_ ?_); (· decide +kernel)) | ((with_reducible refine Sy.IfB.t ?_ ?_); (· first | with_reducible rfl | decide +kernel)) | ((with_reducible refine Sy.IfB.f ?_ ?_); (· first | with_reducible rfl | decide +kernel)) | (with_reducible refine Sy.IfB.mk (fun _ => ?_) (fun _ => ?_)) | ((with_reducible apply Vy.mkT.yes); (· exact rfl)) | (with_reducible apply Vy.mkT.els) | ((with_reducible apply Vy.mkL.yes); (· exact rfl)) | (with_reducible apply Vy.mkL.els) | ((with_reducible apply Vy.eqOp.sc); (· exact rfl); (· exact rfl); (· exact rfl)) | ((with_reducible refine Vy.SetAt.di ?_); show Sy.one? _ _) | ((with_reducible refine Vy.SetAt.ls ?_); show Sy.one? _ _) | (with_reducible refine And.intro (Sy.Hold.out ?_) ?_))
      all_goals try (refine Sy.Hold.mk ?_; first | exact trivial | exact rfl | exact Sy.mulA (by omega) (by omega) | exact Sy.mulB (by omega) (by omega) | exact Sy.divA (by omega) (by omega) | exact Sy.smlA (by omega) (by omega) | exact Sy.szLt rfl | exact Sy.szLe rfl | exact Sy.szLe' (by omega) | exact ⟨by omega, by omega⟩ | (rw [List.length_map]; exact Sy.szLt' (by omega)) | (show (0 : Int) < _; first | omega | decide +kernel) | decide +kernel | (simp only [Vy.e_len, Vy.q_len, Vy.x_len, Vy.z_len, Vy.one_len, strLen_append, Sy.repS_len, List.length_map, List.length_append, List.length_cons, List.length_nil]; first | omega | exact Sy.szLe' (by omega) | exact Sy.szLt' (by omega) | exact Vy.cut_add (Sy.szLe' (by omega)) | exact Vy.add_cut (Sy.szLe' (by omega)) | exact Vy.cut_add (Vy.add_cut (Sy.szLe' (by omega)))) | exact ⟨by omega, by omega, by simp only [Vy.e_len, Vy.q_len, Vy.x_len, Vy.z_len, Vy.one_len]; omega, by simp only [Vy.e_len, Vy.q_len, Vy.x_len, Vy.z_len, Vy.one_len]; omega⟩ | exact Sy.szLe' (Nat.le_trans (Nat.add_le_add (Sy.cutL_le _ _ _) (Sy.cutL_le _ _ _)) (by simp only [List.length_map]; omega)) | exact Vy.flat_strs _ | exact Sy.szLe' (Nat.le_trans (Nat.add_le_add (Nat.le_refl _) (Sy.cutL_le _ _ _)) (by simp only [List.length_map, List.length_cons, List.length_nil]; omega)) | exact Sy.szLe' (Nat.le_trans (Nat.add_le_add (Sy.cutL_le _ _ _) (Nat.le_refl _)) (by simp only [List.length_map, List.length_cons, List.length_nil]; omega)) | exact ⟨rfl, Nat.le_of_ble_eq_true rfl, by decide +kernel⟩ | (refine ⟨?_, ?_, ?_⟩ <;> decide +kernel))
      have hmc : AllS lowC (cutS s none (some r4) ++ repS ⟨#[c]⟩ r6) := .app (.cut hk.2.2) (.rep (.one hc))
      refine ⟨2, rfl, ⟨by omega, by omega⟩, fun r7 h12 h13 => ?_⟩
      repeat' ((conv => whnf); first | ((with_reducible apply Sy.one?.yes); (· first | exact rfl | ((conv => lhs; whnf); first | with_reducible exact Sy.strsD_map _ | with_reducible exact Vy.blsD_rep _ _))) | ((with_reducible apply Sy.both.yes); (· exact rfl); (· exact rfl)) | (with_reducible apply Sy.both.els) | ((refine Vy.Got.here ?_ ?_); (· first | with_reducible rfl | decide +kernel)) | ((refine Vy.Got.next ?_ ?_); (· decide +kernel)) | ((with_reducible refine Sy.IfB.t ?_ ?_); (· first | with_reducible rfl | decide +kernel)) | ((with_reducible refine Sy.IfB.f ?_ ?_); (· first | with_reducible rfl | decide +kernel)) | (with_reducible refine Sy.IfB.mk (fun _ => ?_) (fun _ => ?_)) | ((with_reducible apply Vy.mkT.yes); (· exact rfl)) | (with_reducible apply Vy.mkT.els) | ((with_reducible apply Vy.mkL.yes); (· exact rfl)) | (with_reducible apply Vy.mkL.els) | ((with_reducible apply Vy.eqOp.sc); (· exact rfl); (· exact rfl); (· exact rfl)) | ((with_reducible refine Vy.SetAt.di ?_); show Sy.one? _ _) | ((with_reducible refine Vy.SetAt.ls ?_); show Sy.one? _ _) | (with_reducible refine And.intro (Sy.Hold.out ?_) ?_))
      all_goals try (refine Sy.Hold.mk ?_; first | exact trivial | exact rfl | exact Sy.mulA (by omega) (by omega) | exact Sy.mulB (by omega) (by omega) | exact Sy.divA (by omega) (by omega) | exact Sy.smlA (by omega) (by omega) | exact Sy.szLt rfl | exact Sy.szLe rfl | exact Sy.szLe' (by omega) | exact ⟨by omega, by omega⟩ | (rw [List.length_map]; exact Sy.szLt' (by omega)) | (show (0 : Int) < _; first | omega | decide +kernel) | decide +kernel | (simp only [Vy.e_len, Vy.q_len, Vy.x_len, Vy.z_len, Vy.one_len, strLen_append, Sy.repS_len, List.length_map, List.length_append, List.length_cons, List.length_nil]; first | omega | exact Sy.szLe' (by omega) | exact Sy.szLt' (by omega) | exact Vy.cut_add (Sy.szLe' (by omega)) | exact Vy.add_cut (Sy.szLe' (by omega)) | exact Vy.cut_add (Vy.add_cut (Sy.szLe' (by omega)))) | exact ⟨by omega, by omega, by simp only [Vy.e_len, Vy.q_len, Vy.x_len, Vy.z_len, Vy.one_len]; omega, by simp only [Vy.e_len, Vy.q_len, Vy.x_len, Vy.z_len, Vy.one_len]; omega⟩ | exact Sy.szLe' (Nat.le_trans (Nat.add_le_add (Sy.cutL_le _ _ _) (Sy.cutL_le _ _ _)) (by simp only [List.length_map]; omega)) | exact Vy.flat_strs _ | exact Sy.szLe' (Nat.le_trans (Nat.add_le_add (Nat.le_refl _) (Sy.cutL_le _ _ _)) (by simp only [List.length_map, List.length_cons, List.length_nil]; omega)) | exact Sy.szLe' (Nat.le_trans (Nat.add_le_add (Sy.cutL_le _ _ _) (Nat.le_refl _)) (by simp only [List.length_map, List.length_cons, List.length_nil]; omega)) | exact ⟨rfl, Nat.le_of_ble_eq_true rfl, by decide +kernel⟩ | (refine ⟨?_, ?_, ?_⟩ <;> decide +kernel))
      all_goals have hW : (cutS s none (some r4) ++ repS ⟨#[c]⟩ r6 ++ cutS s (some (r4 + r7)) none).length ≤ 8 := by (rw [strLen_append, strLen_append, repS_len, one_len, cut_to h6, cut_from (by omega)]; have := hk.2.1; omega)
      all_goals have hWl : AllS lowC (cutS s none (some r4) ++ repS ⟨#[c]⟩ r6 ++ cutS s (some (r4 + r7)) none) := .app hmc (.cut hk.2.2)
      all_goals first | exact ⟨szLe' (Nat.le_trans hW (by decide))⟩ | exact ⟨by have h := hW; rw [strLen_append] at h; exact szLe' (by omega)⟩ | exact ⟨cut_add (szLe' (by rw [q_len]; exact Nat.le_trans (Nat.add_le_add_right hW 1) (by decide)))⟩ | exact fin1 _ hWl (by assumption) | exact fin2 _ hWl (by assumption) | exact fin _ hW hWl (by assumption) (by assumption)
    all_goals first | exact fin1 _ hlow (by assumption) | exact fin2 _ hlow (by assumption) | exact fin _ hnl hlow (by assumption) (by assumption)
end
end K03
namespace K03
open PySem PySem.Spec PyProof.Rows L2
section
open Vy
open Sy (D one? both IfB cOk cOk_cut cOk_app cOk_rep cOk_one cOk_joinT cOk_dec repS repS_len snoc_str cutL mem_cutL cutL_le cutL_map)
variable {P : Program} {w : World} {K : PySem.W.Frag} {mg : Str → Option Value} {base : Heap}
def vUnlike : Vy.PR := fun ds Q => ∃ n : Int, ds = [.int n] ∧ (0 ≤ n ∧ n ≤ 40) ∧ ∀ ys : List Str, (ys.length : Int) = n → (∀ y ∈ ys, NameP y) → Q (.d (.lst (ys.map .str)))
theorem low_x : AllS lowC ("x" : Str) := .dec (by decide +kernel)
theorem low_z : AllS lowC ("z" : Str) := .dec (by decide +kernel)
theorem nm_z {s : Str} (hs : s ∈ keptL) : NameP (s ++ ("z" : Str)) := by
  have hk := kept_len hs
  refine ⟨⟨by rw [strLen_append, z_len]; omega, by rw [strLen_append, z_len]; omega⟩, .app hk.2.2 low_z, ?_⟩
  unfold keptL at hs
  simp only [List.mem_cons, List.not_mem_nil, or_false] at hs
  rcases hs with rfl | rfl | rfl | rfl | rfl | rfl | rfl | rfl | rfl | rfl | rfl | rfl | rfl
  all_goals decide +kernel
theorem nm_len {s : Str} (h1 : 1 ≤ s.length) (h8 : s.length ≤ 8) (h : AllS lowC s) (hk : s ∉ keptL) : NameP s := ⟨⟨h1, h8⟩, h, hk⟩
theorem snoc_all {α : Type} {p : α → Prop} {zs : List α} {z : α} (h : ∀ x ∈ zs, p x) (h' : p z) : ∀ x ∈ zs ++ [z], p x := fun x hx => by
  rcases List.mem_append.mp hx with hx | hx
  · exact h x hx
  · rw [List.mem_singleton.mp hx]; exact h'
theorem ok_unlike (T : Tx K mg) (G__law_draw : FnV P w K mg base 1 T._law_draw_f T._law_draw_fd ["_law_deal_here", "_law_many"] (spV K (cDl vDraw))) : FnV P w K mg base 2 T._law_unlike_f T._law_unlike_fd ["_law_deal_here", "_law_many"] (spV K (cDl vUnlike)) := by
  refine fnD ret1F T._law_unlike_F sc__law_unlike (fun ds Q h => by first | (obtain ⟨rfl, _⟩ := h; rfl) | (obtain ⟨_, rfl, _⟩ := h; rfl) | (obtain ⟨_, _, rfl, _⟩ := h; rfl) | (obtain ⟨_, _, _, rfl, _⟩ := h; rfl) | (obtain ⟨_, _, _, _, rfl, _⟩ := h; rfl)) fun cdv A outer sh H E hr free ds Q hC => ?_
  have hu := hr.units
  have hu1 := hu_of hr
  refine ⟨_, (vb_cons (vs_set (i := 2) sc__law_unlike.nd rfl (by first | exact Or.inl rfl | exact Or.inr rfl) rfl ve_str)
  (vb_cons (vs_set (i := 3) sc__law_unlike.nd rfl (by first | exact Or.inl rfl | exact Or.inr rfl) rfl (ve_lst (va_cons ve_str (va_cons ve_str (va_cons ve_str (va_cons ve_str (va_cons ve_str (va_cons ve_str (va_cons ve_str (va_cons ve_str (va_cons ve_str (va_cons ve_str (va_cons ve_str (va_cons ve_str (va_cons ve_str va_nil)))))))))))))))
  (vb_cons (vs_set (i := 4) sc__law_unlike.nd rfl (by first | exact Or.inl rfl | exact Or.inr rfl) rfl (ve_m_join ve_str (ve_lc (own := [("_law_k", 6)]) rfl sc__law_unlike.nd (vi_range1 rfl T.z_range (va_cons (ve_callD G__law_draw (hr.mono (by first | decide | omega)) free rfl T._law_draw_g T._law_draw_F.kp T._law_draw_b .nil (fun _ => .nil) (va_cons (ve_var 0) (va_cons ve_int va_nil))) va_nil)) (blkOk_by (N := ["_law_deal_here", "_law_many", "_law_letters", "_law_kept", "_law_stem", "_law_found", "_law_k", "_law_at", "_law_first", "_law_own", "_law_name_here"]) (sc := defScope s__law_unlike) (by decide +kernel)) (by simp) (fun _ _ _ _ _ => (vg_name (i := 6) sc__law_unlike.nd rfl (Or.inl rfl) rfl)) (fun _ _ _ _ _ => vts_nil) (fun _ _ _ _ _ => (ve_ix hu1 (ve_var 2) (ve_callD G__law_draw (hr.mono (by first | decide | omega)) free rfl T._law_draw_g T._law_draw_F.kp T._law_draw_b .nil (fun _ => .nil) (va_cons (ve_var 0) (va_cons ve_int va_nil))) (fun _ _ => rfl))))))
  (vb_cons (vs_par (i := 7) (j := 8) rfl sc__law_unlike.nd rfl rfl (by decide) rfl rfl rfl rfl (va_cons (ve_callD G__law_draw (hr.mono (by first | decide | omega)) free rfl T._law_draw_g T._law_draw_F.kp T._law_draw_b .nil (fun _ => .nil) (va_cons (ve_var 0) (va_cons (ve_bin ov_add (ve_callB (cv_len) rfl T.z_len (by decide +kernel) (va_cons (ve_var 4) va_nil)) ve_int) va_nil))) (va_cons (ve_callD G__law_draw (hr.mono (by first | decide | omega)) free rfl T._law_draw_g T._law_draw_F.kp T._law_draw_b .nil (fun _ => .nil) (va_cons (ve_var 0) (va_cons ve_int va_nil))) va_nil)) (by rfl))
  (vb_cons (vs_set (i := 5) sc__law_unlike.nd rfl (by first | exact Or.inl rfl | exact Or.inr rfl) rfl (ve_lst va_nil))
  (vb_cons (vs_for (passes_of rfl) rfl (vi_range1 rfl T.z_range (va_cons (ve_var 1) va_nil)) (vg_name (i := 6) sc__law_unlike.nd rfl (by first | exact Or.inl rfl | exact Or.inr rfl) rfl) (vb_cons (vs_set (i := 9) sc__law_unlike.nd rfl (by first | exact Or.inl rfl | exact Or.inr rfl) rfl (ve_ix hu1 (ve_var 2) (ve_bin ov_mod (ve_bin ov_add (ve_var 8) (ve_bin ov_mul ve_int (ve_var 6))) ve_int) (fun _ _ => rfl)))
  (vb_cons (vs_set (i := 10) sc__law_unlike.nd rfl (by first | exact Or.inl rfl | exact Or.inr rfl) rfl (ve_bin ov_add (ve_bin ov_add (ve_bin ov_add (ve_slice (ve_var 4) vo_none (vo_some (ve_var 7))) (ve_var 9)) (ve_slice (ve_var 4) (vo_some (ve_var 7)) vo_none)) (ve_bin ov_mul ve_str (ve_bin ov_mod (ve_var 6) ve_int))))
  (vb_cons (vs_if (vt_cmp (ov_in hu1) (ve_var 10) (ve_var 3) rfl) (vb_one (vs_set (i := 10) sc__law_unlike.nd rfl (by first | exact Or.inl rfl | exact Or.inr rfl) rfl (ve_bin ov_add (ve_var 10) ve_str))) vb_nil)
  (vb_one (vs_expr (ve_append (ve_var 5) (ve_var 10))))))))
  (vb_one (vs_ret (ve_var 5))))))))), ?_⟩
  obtain ⟨n, rfl, hn, hQ⟩ := hC
  repeat' ((conv => whnf); first | ((with_reducible apply Sy.one?.yes); (· first | exact rfl | ((conv => lhs; whnf); first | with_reducible exact Sy.strsD_map _ | with_reducible exact Vy.blsD_rep _ _))) | ((with_reducible apply Sy.both.yes); (· exact rfl); (· exact rfl)) | (with_reducible apply Sy.both.els) | ((refine Vy.Got.here ?_ ?_); (· first | with_reducible rfl | decide +kernel)) | ((refine Vy.Got.next ?_ ?_); (· decide +kernel)) | ((with_reducible refine Sy.IfB.t ?_ ?_); (· first | with_reducible rfl | decide +kernel)) | ((with_reducible refine Sy.IfB.f ?_ ?_); (· first | with_reducible rfl | decide +kernel)) | (with_reducible refine Sy.IfB.mk (fun _ => ?_) (fun _ => ?_)) | ((with_reducible apply Vy.mkT.yes); (· exact rfl)) | (with_reducible apply Vy.mkT.els) | ((with_reducible apply Vy.mkL.yes); (· exact rfl)) | (with_reducible apply Vy.mkL.els) | ((with_reducible apply Vy.eqOp.sc); (· exact rfl); (· exact rfl); (· exact rfl)) | ((with_reducible refine Vy.SetAt.di ?_); show Sy.one? _ _) | ((with_reducible refine Vy.SetAt.ls ?_); show Sy.one? _ _) | (with_reducible refine And.intro (Sy.Hold.out ?_) ?_))
  all_goals try (refine Sy.Hold.mk ?_; first | exact trivial | exact rfl | exact Sy.mulA (by omega) (by omega) | exact Sy.mulB (by omega) (by omega) | exact Sy.divA (by omega) (by omega) | exact Sy.smlA (by omega) (by omega) | exact Sy.szLt rfl | exact Sy.szLe rfl | exact Sy.szLe' (by omega) | exact ⟨by omega, by omega⟩ | (rw [List.length_map]; exact Sy.szLt' (by omega)) | (show (0 : Int) < _; first | omega | decide +kernel) | decide +kernel | (simp only [Vy.e_len, Vy.q_len, Vy.x_len, Vy.z_len, Vy.one_len, strLen_append, Sy.repS_len, List.length_map, List.length_append, List.length_cons, List.length_nil]; first | omega | exact Sy.szLe' (by omega) | exact Sy.szLt' (by omega) | exact Vy.cut_add (Sy.szLe' (by omega)) | exact Vy.add_cut (Sy.szLe' (by omega)) | exact Vy.cut_add (Vy.add_cut (Sy.szLe' (by omega)))) | exact ⟨by omega, by omega, by simp only [Vy.e_len, Vy.q_len, Vy.x_len, Vy.z_len, Vy.one_len]; omega, by simp only [Vy.e_len, Vy.q_len, Vy.x_len, Vy.z_len, Vy.one_len]; omega⟩ | exact Sy.szLe' (Nat.le_trans (Nat.add_le_add (Sy.cutL_le _ _ _) (Sy.cutL_le _ _ _)) (by simp only [List.length_map]; omega)) | exact Vy.flat_strs _ | exact Sy.szLe' (Nat.le_trans (Nat.add_le_add (Nat.le_refl _) (Sy.cutL_le _ _ _)) (by simp only [List.length_map, List.length_cons, List.length_nil]; omega)) | exact Sy.szLe' (Nat.le_trans (Nat.add_le_add (Sy.cutL_le _ _ _) (Nat.le_refl _)) (by simp only [List.length_map, List.length_cons, List.length_nil]; omega)) | exact ⟨rfl, Nat.le_of_ble_eq_true rfl, by decide +kernel⟩ | (refine ⟨?_, ?_, ?_⟩ <;> decide +kernel))
  refine ⟨6, rfl, ⟨by omega, by omega⟩, fun r h0 h1 => ?_⟩
  repeat' ((conv => whnf); first | ((with_reducible apply Sy.one?.yes); (· first | exact rfl | ((conv => lhs; whnf); first | with_reducible exact Sy.strsD_map _ | with_reducible exact Vy.blsD_rep _ _))) | ((with_reducible apply Sy.both.yes); (· exact rfl); (· exact rfl)) | (with_reducible apply Sy.both.els) | ((refine Vy.Got.here ?_ ?_); (· first | with_reducible rfl | decide +kernel)) | ((refine Vy.Got.next ?_ ?_); (· decide +kernel)) | ((with_reducible refine Sy.IfB.t ?_ ?_); (· first | with_reducible rfl | decide +kernel)) | ((with_reducible refine Sy.IfB.f ?_ ?_); (· first | with_reducible rfl | decide +kernel)) | (with_reducible refine Sy.IfB.mk (fun _ => ?_) (fun _ => ?_)) | ((with_reducible apply Vy.mkT.yes); (· exact rfl)) | (with_reducible apply Vy.mkT.els) | ((with_reducible apply Vy.mkL.yes); (· exact rfl)) | (with_reducible apply Vy.mkL.els) | ((with_reducible apply Vy.eqOp.sc); (· exact rfl); (· exact rfl); (· exact rfl)) | ((with_reducible refine Vy.SetAt.di ?_); show Sy.one? _ _) | ((with_reducible refine Vy.SetAt.ls ?_); show Sy.one? _ _) | (with_reducible refine And.intro (Sy.Hold.out ?_) ?_))
  all_goals try (refine Sy.Hold.mk ?_; first | exact trivial | exact rfl | exact Sy.mulA (by omega) (by omega) | exact Sy.mulB (by omega) (by omega) | exact Sy.divA (by omega) (by omega) | exact Sy.smlA (by omega) (by omega) | exact Sy.szLt rfl | exact Sy.szLe rfl | exact Sy.szLe' (by omega) | exact ⟨by omega, by omega⟩ | (rw [List.length_map]; exact Sy.szLt' (by omega)) | (show (0 : Int) < _; first | omega | decide +kernel) | decide +kernel | (simp only [Vy.e_len, Vy.q_len, Vy.x_len, Vy.z_len, Vy.one_len, strLen_append, Sy.repS_len, List.length_map, List.length_append, List.length_cons, List.length_nil]; first | omega | exact Sy.szLe' (by omega) | exact Sy.szLt' (by omega) | exact Vy.cut_add (Sy.szLe' (by omega)) | exact Vy.add_cut (Sy.szLe' (by omega)) | exact Vy.cut_add (Vy.add_cut (Sy.szLe' (by omega)))) | exact ⟨by omega, by omega, by simp only [Vy.e_len, Vy.q_len, Vy.x_len, Vy.z_len, Vy.one_len]; omega, by simp only [Vy.e_len, Vy.q_len, Vy.x_len, Vy.z_len, Vy.one_len]; omega⟩ | exact Sy.szLe' (Nat.le_trans (Nat.add_le_add (Sy.cutL_le _ _ _) (Sy.cutL_le _ _ _)) (by simp only [List.length_map]; omega)) | exact Vy.flat_strs _ | exact Sy.szLe' (Nat.le_trans (Nat.add_le_add (Nat.le_refl _) (Sy.cutL_le _ _ _)) (by simp only [List.length_map, List.length_cons, List.length_nil]; omega)) | exact Sy.szLe' (Nat.le_trans (Nat.add_le_add (Sy.cutL_le _ _ _) (Nat.le_refl _)) (by simp only [List.length_map, List.length_cons, List.length_nil]; omega)) | exact ⟨rfl, Nat.le_of_ble_eq_true rfl, by decide +kernel⟩ | (refine ⟨?_, ?_, ?_⟩ <;> decide +kernel))
  refine lcI (fun E => LcP (D.str) (fun _ s => s.length = 1 ∧ AllS lowC s) E) ⟨LcP.nil, fun j y acc en2 hy hJ => ?_, fun acc en2 hJ => ?_⟩
  · obtain ⟨rfl, hj⟩ := rng_get hy
    obtain ⟨rfl, as, rfl, hl, hP⟩ := hJ
    repeat' ((conv => whnf); first | ((with_reducible apply Sy.one?.yes); (· first | exact rfl | ((conv => lhs; whnf); first | with_reducible exact Sy.strsD_map _ | with_reducible exact Vy.blsD_rep _ _))) | ((with_reducible apply Sy.both.yes); (· exact rfl); (· exact rfl)) | (with_reducible apply Sy.both.els) | ((refine Vy.Got.here ?_ ?_); (· first | with_reducible rfl | decide +kernel)) | ((refine Vy.Got.next ?_ ?_); (· decide +kernel)) | ((with_reducible refine Sy.IfB.t ?_ ?_); (· first | with_reducible rfl | decide +kernel)) | ((with_reducible refine Sy.IfB.f ?_ ?_); (· first | with_reducible rfl | decide +kernel)) | (with_reducible refine Sy.IfB.mk (fun _ => ?_) (fun _ => ?_)) | ((with_reducible apply Vy.mkT.yes); (· exact rfl)) | (with_reducible apply Vy.mkT.els) | ((with_reducible apply Vy.mkL.yes); (· exact rfl)) | (with_reducible apply Vy.mkL.els) | ((with_reducible apply Vy.eqOp.sc); (· exact rfl); (· exact rfl); (· exact rfl)) | ((with_reducible refine Vy.SetAt.di ?_); show Sy.one? _ _) | ((with_reducible refine Vy.SetAt.ls ?_); show Sy.one? _ _) | (with_reducible refine And.intro (Sy.Hold.out ?_) ?_))
    all_goals try (refine Sy.Hold.mk ?_; first | exact trivial | exact rfl | exact Sy.mulA (by omega) (by omega) | exact Sy.mulB (by omega) (by omega) | exact Sy.divA (by omega) (by omega) | exact Sy.smlA (by omega) (by omega) | exact Sy.szLt rfl | exact Sy.szLe rfl | exact Sy.szLe' (by omega) | exact ⟨by omega, by omega⟩ | (rw [List.length_map]; exact Sy.szLt' (by omega)) | (show (0 : Int) < _; first | omega | decide +kernel) | decide +kernel | (simp only [Vy.e_len, Vy.q_len, Vy.x_len, Vy.z_len, Vy.one_len, strLen_append, Sy.repS_len, List.length_map, List.length_append, List.length_cons, List.length_nil]; first | omega | exact Sy.szLe' (by omega) | exact Sy.szLt' (by omega) | exact Vy.cut_add (Sy.szLe' (by omega)) | exact Vy.add_cut (Sy.szLe' (by omega)) | exact Vy.cut_add (Vy.add_cut (Sy.szLe' (by omega)))) | exact ⟨by omega, by omega, by simp only [Vy.e_len, Vy.q_len, Vy.x_len, Vy.z_len, Vy.one_len]; omega, by simp only [Vy.e_len, Vy.q_len, Vy.x_len, Vy.z_len, Vy.one_len]; omega⟩ | exact Sy.szLe' (Nat.le_trans (Nat.add_le_add (Sy.cutL_le _ _ _) (Sy.cutL_le _ _ _)) (by simp only [List.length_map]; omega)) | exact Vy.flat_strs _ | exact Sy.szLe' (Nat.le_trans (Nat.add_le_add (Nat.le_refl _) (Sy.cutL_le _ _ _)) (by simp only [List.length_map, List.length_cons, List.length_nil]; omega)) | exact Sy.szLe' (Nat.le_trans (Nat.add_le_add (Sy.cutL_le _ _ _) (Nat.le_refl _)) (by simp only [List.length_map, List.length_cons, List.length_nil]; omega)) | exact ⟨rfl, Nat.le_of_ble_eq_true rfl, by decide +kernel⟩ | (refine ⟨?_, ?_, ?_⟩ <;> decide +kernel))
    refine ⟨26, rfl, ⟨by omega, by omega⟩, fun r2 h2 h3 => ?_⟩
    repeat' ((conv => whnf); first | ((with_reducible apply Sy.one?.yes); (· first | exact rfl | ((conv => lhs; whnf); first | with_reducible exact Sy.strsD_map _ | with_reducible exact Vy.blsD_rep _ _))) | ((with_reducible apply Sy.both.yes); (· exact rfl); (· exact rfl)) | (with_reducible apply Sy.both.els) | ((refine Vy.Got.here ?_ ?_); (· first | with_reducible rfl | decide +kernel)) | ((refine Vy.Got.next ?_ ?_); (· decide +kernel)) | ((with_reducible refine Sy.IfB.t ?_ ?_); (· first | with_reducible rfl | decide +kernel)) | ((with_reducible refine Sy.IfB.f ?_ ?_); (· first | with_reducible rfl | decide +kernel)) | (with_reducible refine Sy.IfB.mk (fun _ => ?_) (fun _ => ?_)) | ((with_reducible apply Vy.mkT.yes); (· exact rfl)) | (with_reducible apply Vy.mkT.els) | ((with_reducible apply Vy.mkL.yes); (· exact rfl)) | (with_reducible apply Vy.mkL.els) | ((with_reducible apply Vy.eqOp.sc); (· exact rfl); (· exact rfl); (· exact rfl)) | ((with_reducible refine Vy.SetAt.di ?_); show Sy.one? _ _) | ((with_reducible refine Vy.SetAt.ls ?_); show Sy.one? _ _) | (with_reducible refine And.intro (Sy.Hold.out ?_) ?_))
    all_goals try (refine Sy.Hold.mk ?_; first | exact trivial | exact rfl | exact Sy.mulA (by omega) (by omega) | exact Sy.mulB (by omega) (by omega) | exact Sy.divA (by omega) (by omega) | exact Sy.smlA (by omega) (by omega) | exact Sy.szLt rfl | exact Sy.szLe rfl | exact Sy.szLe' (by omega) | exact ⟨by omega, by omega⟩ | (rw [List.length_map]; exact Sy.szLt' (by omega)) | (show (0 : Int) < _; first | omega | decide +kernel) | decide +kernel | (simp only [Vy.e_len, Vy.q_len, Vy.x_len, Vy.z_len, Vy.one_len, strLen_append, Sy.repS_len, List.length_map, List.length_append, List.length_cons, List.length_nil]; first | omega | exact Sy.szLe' (by omega) | exact Sy.szLt' (by omega) | exact Vy.cut_add (Sy.szLe' (by omega)) | exact Vy.add_cut (Sy.szLe' (by omega)) | exact Vy.cut_add (Vy.add_cut (Sy.szLe' (by omega)))) | exact ⟨by omega, by omega, by simp only [Vy.e_len, Vy.q_len, Vy.x_len, Vy.z_len, Vy.one_len]; omega, by simp only [Vy.e_len, Vy.q_len, Vy.x_len, Vy.z_len, Vy.one_len]; omega⟩ | exact Sy.szLe' (Nat.le_trans (Nat.add_le_add (Sy.cutL_le _ _ _) (Sy.cutL_le _ _ _)) (by simp only [List.length_map]; omega)) | exact Vy.flat_strs _ | exact Sy.szLe' (Nat.le_trans (Nat.add_le_add (Nat.le_refl _) (Sy.cutL_le _ _ _)) (by simp only [List.length_map, List.length_cons, List.length_nil]; omega)) | exact Sy.szLe' (Nat.le_trans (Nat.add_le_add (Sy.cutL_le _ _ _) (Nat.le_refl _)) (by simp only [List.length_map, List.length_cons, List.length_nil]; omega)) | exact ⟨rfl, Nat.le_of_ble_eq_true rfl, by decide +kernel⟩ | (refine ⟨?_, ?_, ?_⟩ <;> decide +kernel))
    obtain ⟨c, e, hc⟩ := letter h2 h3
    refine one?.yes e ?_
    repeat' ((conv => whnf); first | ((with_reducible apply Sy.one?.yes); (· first | exact rfl | ((conv => lhs; whnf); first | with_reducible exact Sy.strsD_map _ | with_reducible exact Vy.blsD_rep _ _))) | ((with_reducible apply Sy.both.yes); (· exact rfl); (· exact rfl)) | (with_reducible apply Sy.both.els) | ((refine Vy.Got.here ?_ ?_); (· first | with_reducible rfl | decide +kernel)) | ((refine Vy.Got.next ?_ ?_); (· decide +kernel)) | ((with_reducible refine Sy.IfB.t ?_ ?_); (· first | with_reducible rfl | decide +kernel)) | ((with_reducible refine Sy.IfB.f ?_ ?_); (· first | with_reducible rfl | decide +kernel)) | (with_reducible refine Sy.IfB.mk (fun _ => ?_) (fun _ => ?_)) | ((with_reducible apply Vy.mkT.yes); (· exact rfl)) | (with_reducible apply Vy.mkT.els) | ((with_reducible apply Vy.mkL.yes); (· exact rfl)) | (with_reducible apply Vy.mkL.els) | ((with_reducible apply Vy.eqOp.sc); (· exact rfl); (· exact rfl); (· exact rfl)) | ((with_reducible refine Vy.SetAt.di ?_); show Sy.one? _ _) | ((with_reducible refine Vy.SetAt.ls ?_); show Sy.one? _ _) | (with_reducible refine And.intro (Sy.Hold.out ?_) ?_))
    all_goals try (refine Sy.Hold.mk ?_; first | exact trivial | exact rfl | exact Sy.mulA (by omega) (by omega) | exact Sy.mulB (by omega) (by omega) | exact Sy.divA (by omega) (by omega) | exact Sy.smlA (by omega) (by omega) | exact Sy.szLt rfl | exact Sy.szLe rfl | exact Sy.szLe' (by omega) | exact ⟨by omega, by omega⟩ | (rw [List.length_map]; exact Sy.szLt' (by omega)) | (show (0 : Int) < _; first | omega | decide +kernel) | decide +kernel | (simp only [Vy.e_len, Vy.q_len, Vy.x_len, Vy.z_len, Vy.one_len, strLen_append, Sy.repS_len, List.length_map, List.length_append, List.length_cons, List.length_nil]; first | omega | exact Sy.szLe' (by omega) | exact Sy.szLt' (by omega) | exact Vy.cut_add (Sy.szLe' (by omega)) | exact Vy.add_cut (Sy.szLe' (by omega)) | exact Vy.cut_add (Vy.add_cut (Sy.szLe' (by omega)))) | exact ⟨by omega, by omega, by simp only [Vy.e_len, Vy.q_len, Vy.x_len, Vy.z_len, Vy.one_len]; omega, by simp only [Vy.e_len, Vy.q_len, Vy.x_len, Vy.z_len, Vy.one_len]; omega⟩ | exact Sy.szLe' (Nat.le_trans (Nat.add_le_add (Sy.cutL_le _ _ _) (Sy.cutL_le _ _ _)) (by simp only [List.length_map]; omega)) | exact Vy.flat_strs _ | exact Sy.szLe' (Nat.le_trans (Nat.add_le_add (Nat.le_refl _) (Sy.cutL_le _ _ _)) (by simp only [List.length_map, List.length_cons, List.length_nil]; omega)) | exact Sy.szLe' (Nat.le_trans (Nat.add_le_add (Sy.cutL_le _ _ _) (Nat.le_refl _)) (by simp only [List.length_map, List.length_cons, List.length_nil]; omega)) | exact ⟨rfl, Nat.le_of_ble_eq_true rfl, by decide +kernel⟩ | (refine ⟨?_, ?_, ?_⟩ <;> decide +kernel))
    exact LcP.snoc ⟨#[c]⟩ hl hP rfl rfl ⟨rfl, .one hc⟩
  · obtain ⟨rfl, as, rfl, hl, hP⟩ := hJ
    rw [rng_len] at hl
    have hs := sum_le (k := 1) (all_of fun j a h => Nat.le_of_eq (hP j a h).1)
    have hj := join0_len as
    have hlow : AllS lowC (Txt.join "" as) := .joinT (.nil rfl) (all_of fun j a h => (hP j a h).2)
    repeat' ((conv => whnf); first | ((with_reducible apply Sy.one?.yes); (· first | exact rfl | ((conv => lhs; whnf); first | with_reducible exact Sy.strsD_map _ | with_reducible exact Vy.blsD_rep _ _))) | ((with_reducible apply Sy.both.yes); (· exact rfl); (· exact rfl)) | (with_reducible apply Sy.both.els) | ((refine Vy.Got.here ?_ ?_); (· first | with_reducible rfl | decide +kernel)) | ((refine Vy.Got.next ?_ ?_); (· decide +kernel)) | ((with_reducible refine Sy.IfB.t ?_ ?_); (· first | with_reducible rfl | decide +kernel)) | ((with_reducible refine Sy.IfB.f ?_ ?_); (· first | with_reducible rfl | decide +kernel)) | (with_reducible refine Sy.IfB.mk (fun _ => ?_) (fun _ => ?_)) | ((with_reducible apply Vy.mkT.yes); (· exact rfl)) | (with_reducible apply Vy.mkT.els) | ((with_reducible apply Vy.mkL.yes); (· exact rfl)) | (with_reducible apply Vy.mkL.els) | ((with_reducible apply Vy.eqOp.sc); (· exact rfl); (· exact rfl); (· exact rfl)) | ((with_reducible refine Vy.SetAt.di ?_); show Sy.one? _ _) | ((with_reducible refine Vy.SetAt.ls ?_); show Sy.one? _ _) | (with_reducible refine And.intro (Sy.Hold.out ?_) ?_))
    all_goals try (refine Sy.Hold.mk ?_; first | exact trivial | exact rfl | exact Sy.mulA (by omega) (by omega) | exact Sy.mulB (by omega) (by omega) | exact Sy.divA (by omega) (by omega) | exact Sy.smlA (by omega) (by omega) | exact Sy.szLt rfl | exact Sy.szLe rfl | exact Sy.szLe' (by omega) | exact ⟨by omega, by omega⟩ | (rw [List.length_map]; exact Sy.szLt' (by omega)) | (show (0 : Int) < _; first | omega | decide +kernel) | decide +kernel | (simp only [Vy.e_len, Vy.q_len, Vy.x_len, Vy.z_len, Vy.one_len, strLen_append, Sy.repS_len, List.length_map, List.length_append, List.length_cons, List.length_nil]; first | omega | exact Sy.szLe' (by omega) | exact Sy.szLt' (by omega) | exact Vy.cut_add (Sy.szLe' (by omega)) | exact Vy.add_cut (Sy.szLe' (by omega)) | exact Vy.cut_add (Vy.add_cut (Sy.szLe' (by omega)))) | exact ⟨by omega, by omega, by simp only [Vy.e_len, Vy.q_len, Vy.x_len, Vy.z_len, Vy.one_len]; omega, by simp only [Vy.e_len, Vy.q_len, Vy.x_len, Vy.z_len, Vy.one_len]; omega⟩ | exact Sy.szLe' (Nat.le_trans (Nat.add_le_add (Sy.cutL_le _ _ _) (Sy.cutL_le _ _ _)) (by simp only [List.length_map]; omega)) | exact Vy.flat_strs _ | exact Sy.szLe' (Nat.le_trans (Nat.add_le_add (Nat.le_refl _) (Sy.cutL_le _ _ _)) (by simp only [List.length_map, List.length_cons, List.length_nil]; omega)) | exact Sy.szLe' (Nat.le_trans (Nat.add_le_add (Sy.cutL_le _ _ _) (Nat.le_refl _)) (by simp only [List.length_map, List.length_cons, List.length_nil]; omega)) | exact ⟨rfl, Nat.le_of_ble_eq_true rfl, by decide +kernel⟩ | (refine ⟨?_, ?_, ?_⟩ <;> decide +kernel))
    generalize hnm : Txt.join "" as = st at *
    have hsl : st.length ≤ 5 := by omega
    refine ⟨(st.length : Int) + 1, rfl, ⟨by omega, by omega⟩, fun at_ ha0 ha1 => ?_⟩
    repeat' ((conv => whnf); first | ((with_reducible apply Sy.one?.yes); (· first | exact rfl | ((conv => lhs; whnf); first | with_reducible exact Sy.strsD_map _ | with_reducible exact Vy.blsD_rep _ _))) | ((with_reducible apply Sy.both.yes); (· exact rfl); (· exact rfl)) | (with_reducible apply Sy.both.els) | ((refine Vy.Got.here ?_ ?_); (· first | with_reducible rfl | decide +kernel)) | ((refine Vy.Got.next ?_ ?_); (· decide +kernel)) | ((with_reducible refine Sy.IfB.t ?_ ?_); (· first | with_reducible rfl | decide +kernel)) | ((with_reducible refine Sy.IfB.f ?_ ?_); (· first | with_reducible rfl | decide +kernel)) | (with_reducible refine Sy.IfB.mk (fun _ => ?_) (fun _ => ?_)) | ((with_reducible apply Vy.mkT.yes); (· exact rfl)) | (with_reducible apply Vy.mkT.els) | ((with_reducible apply Vy.mkL.yes); (· exact rfl)) | (with_reducible apply Vy.mkL.els) | ((with_reducible apply Vy.eqOp.sc); (· exact rfl); (· exact rfl); (· exact rfl)) | ((with_reducible refine Vy.SetAt.di ?_); show Sy.one? _ _) | ((with_reducible refine Vy.SetAt.ls ?_); show Sy.one? _ _) | (with_reducible refine And.intro (Sy.Hold.out ?_) ?_))
    all_goals try (refine Sy.Hold.mk ?_; first | exact trivial | exact rfl | exact Sy.mulA (by omega) (by omega) | exact Sy.mulB (by omega) (by omega) | exact Sy.divA (by omega) (by omega) | exact Sy.smlA (by omega) (by omega) | exact Sy.szLt rfl | exact Sy.szLe rfl | exact Sy.szLe' (by omega) | exact ⟨by omega, by omega⟩ | (rw [List.length_map]; exact Sy.szLt' (by omega)) | (show (0 : Int) < _; first | omega | decide +kernel) | decide +kernel | (simp only [Vy.e_len, Vy.q_len, Vy.x_len, Vy.z_len, Vy.one_len, strLen_append, Sy.repS_len, List.length_map, List.length_append, List.length_cons, List.length_nil]; first | omega | exact Sy.szLe' (by omega) | exact Sy.szLt' (by omega) | exact Vy.cut_add (Sy.szLe' (by omega)) | exact Vy.add_cut (Sy.szLe' (by omega)) | exact Vy.cut_add (Vy.add_cut (Sy.szLe' (by omega)))) | exact ⟨by omega, by omega, by simp only [Vy.e_len, Vy.q_len, Vy.x_len, Vy.z_len, Vy.one_len]; omega, by simp only [Vy.e_len, Vy.q_len, Vy.x_len, Vy.z_len, Vy.one_len]; omega⟩ | exact Sy.szLe' (Nat.le_trans (Nat.add_le_add (Sy.cutL_le _ _ _) (Sy.cutL_le _ _ _)) (by simp only [List.length_map]; omega)) | exact Vy.flat_strs _ | exact Sy.szLe' (Nat.le_trans (Nat.add_le_add (Nat.le_refl _) (Sy.cutL_le _ _ _)) (by simp only [List.length_map, List.length_cons, List.length_nil]; omega)) | exact Sy.szLe' (Nat.le_trans (Nat.add_le_add (Sy.cutL_le _ _ _) (Nat.le_refl _)) (by simp only [List.length_map, List.length_cons, List.length_nil]; omega)) | exact ⟨rfl, Nat.le_of_ble_eq_true rfl, by decide +kernel⟩ | (refine ⟨?_, ?_, ?_⟩ <;> decide +kernel))
    refine ⟨26, rfl, ⟨by omega, by omega⟩, fun fi hf0 hf1 => ?_⟩
    repeat' ((conv => whnf); first | ((with_reducible apply Sy.one?.yes); (· first | exact rfl | ((conv => lhs; whnf); first | with_reducible exact Sy.strsD_map _ | with_reducible exact Vy.blsD_rep _ _))) | ((with_reducible apply Sy.both.yes); (· exact rfl); (· exact rfl)) | (with_reducible apply Sy.both.els) | ((refine Vy.Got.here ?_ ?_); (· first | with_reducible rfl | decide +kernel)) | ((refine Vy.Got.next ?_ ?_); (· decide +kernel)) | ((with_reducible refine Sy.IfB.t ?_ ?_); (· first | with_reducible rfl | decide +kernel)) | ((with_reducible refine Sy.IfB.f ?_ ?_); (· first | with_reducible rfl | decide +kernel)) | (with_reducible refine Sy.IfB.mk (fun _ => ?_) (fun _ => ?_)) | ((with_reducible apply Vy.mkT.yes); (· exact rfl)) | (with_reducible apply Vy.mkT.els) | ((with_reducible apply Vy.mkL.yes); (· exact rfl)) | (with_reducible apply Vy.mkL.els) | ((with_reducible apply Vy.eqOp.sc); (· exact rfl); (· exact rfl); (· exact rfl)) | ((with_reducible refine Vy.SetAt.di ?_); show Sy.one? _ _) | ((with_reducible refine Vy.SetAt.ls ?_); show Sy.one? _ _) | (with_reducible refine And.intro (Sy.Hold.out ?_) ?_))
    all_goals try (refine Sy.Hold.mk ?_; first | exact trivial | exact rfl | exact Sy.mulA (by omega) (by omega) | exact Sy.mulB (by omega) (by omega) | exact Sy.divA (by omega) (by omega) | exact Sy.smlA (by omega) (by omega) | exact Sy.szLt rfl | exact Sy.szLe rfl | exact Sy.szLe' (by omega) | exact ⟨by omega, by omega⟩ | (rw [List.length_map]; exact Sy.szLt' (by omega)) | (show (0 : Int) < _; first | omega | decide +kernel) | decide +kernel | (simp only [Vy.e_len, Vy.q_len, Vy.x_len, Vy.z_len, Vy.one_len, strLen_append, Sy.repS_len, List.length_map, List.length_append, List.length_cons, List.length_nil]; first | omega | exact Sy.szLe' (by omega) | exact Sy.szLt' (by omega) | exact Vy.cut_add (Sy.szLe' (by omega)) | exact Vy.add_cut (Sy.szLe' (by omega)) | exact Vy.cut_add (Vy.add_cut (Sy.szLe' (by omega)))) | exact ⟨by omega, by omega, by simp only [Vy.e_len, Vy.q_len, Vy.x_len, Vy.z_len, Vy.one_len]; omega, by simp only [Vy.e_len, Vy.q_len, Vy.x_len, Vy.z_len, Vy.one_len]; omega⟩ | exact Sy.szLe' (Nat.le_trans (Nat.add_le_add (Sy.cutL_le _ _ _) (Sy.cutL_le _ _ _)) (by simp only [List.length_map]; omega)) | exact Vy.flat_strs _ | exact Sy.szLe' (Nat.le_trans (Nat.add_le_add (Nat.le_refl _) (Sy.cutL_le _ _ _)) (by simp only [List.length_map, List.length_cons, List.length_nil]; omega)) | exact Sy.szLe' (Nat.le_trans (Nat.add_le_add (Sy.cutL_le _ _ _) (Nat.le_refl _)) (by simp only [List.length_map, List.length_cons, List.length_nil]; omega)) | exact ⟨rfl, Nat.le_of_ble_eq_true rfl, by decide +kernel⟩ | (refine ⟨?_, ?_, ?_⟩ <;> decide +kernel))
    refine loopI (fun E i en => ∃ (us : List Str) (u_own : Val) (u_name_here : Val) (u_k : Val), en = upds E [(5, .lD (us.map .str)), (9, u_own), (10, u_name_here), (6, u_k)] ∧ (us.length = i ∧ ∀ y ∈ us, NameP y)) ⟨?_, fun i x en2 hx hI => ?_, fun en2 hI => ?_⟩
    · exact .now ⟨[], _, _, _, rfl, rfl, fun _ h => nomatch h⟩
    · obtain ⟨us, u1, u2, u3, rfl, hul, hus⟩ := hI
      obtain ⟨rfl, hi⟩ := rng_get hx
      repeat' ((conv => whnf); first | ((with_reducible apply Sy.one?.yes); (· first | exact rfl | ((conv => lhs; whnf); first | with_reducible exact Sy.strsD_map _ | with_reducible exact Vy.blsD_rep _ _))) | ((with_reducible apply Sy.both.yes); (· exact rfl); (· exact rfl)) | (with_reducible apply Sy.both.els) | ((refine Vy.Got.here ?_ ?_); (· first | with_reducible rfl | decide +kernel)) | ((refine Vy.Got.next ?_ ?_); (· decide +kernel)) | ((with_reducible refine Sy.IfB.t ?_ ?_); (· first | with_reducible rfl | decide +kernel)) | ((with_reducible refine Sy.IfB.f ?_ ?_); (· first | with_reducible rfl | decide +kernel)) | (with_reducible refine Sy.IfB.mk (fun _ => ?_) (fun _ => ?_)) | ((with_reducible apply Vy.mkT.yes); (· exact rfl)) | (with_reducible apply Vy.mkT.els) | ((with_reducible apply Vy.mkL.yes); (· exact rfl)) | (with_reducible apply Vy.mkL.els) | ((with_reducible apply Vy.eqOp.sc); (· exact rfl); (· exact rfl); (· exact rfl)) | ((with_reducible refine Vy.SetAt.di ?_); show Sy.one? _ _) | ((with_reducible refine Vy.SetAt.ls ?_); show Sy.one? _ _) | (with_reducible refine And.intro (Sy.Hold.out ?_) ?_))
      all_goals try (refine Sy.Hold.mk ?_; first | exact trivial | exact rfl | exact Sy.mulA (by omega) (by omega) | exact Sy.mulB (by omega) (by omega) | exact Sy.divA (by omega) (by omega) | exact Sy.smlA (by omega) (by omega) | exact Sy.szLt rfl | exact Sy.szLe rfl | exact Sy.szLe' (by omega) | exact ⟨by omega, by omega⟩ | (rw [List.length_map]; exact Sy.szLt' (by omega)) | (show (0 : Int) < _; first | omega | decide +kernel) | decide +kernel | (simp only [Vy.e_len, Vy.q_len, Vy.x_len, Vy.z_len, Vy.one_len, strLen_append, Sy.repS_len, List.length_map, List.length_append, List.length_cons, List.length_nil]; first | omega | exact Sy.szLe' (by omega) | exact Sy.szLt' (by omega) | exact Vy.cut_add (Sy.szLe' (by omega)) | exact Vy.add_cut (Sy.szLe' (by omega)) | exact Vy.cut_add (Vy.add_cut (Sy.szLe' (by omega)))) | exact ⟨by omega, by omega, by simp only [Vy.e_len, Vy.q_len, Vy.x_len, Vy.z_len, Vy.one_len]; omega, by simp only [Vy.e_len, Vy.q_len, Vy.x_len, Vy.z_len, Vy.one_len]; omega⟩ | exact Sy.szLe' (Nat.le_trans (Nat.add_le_add (Sy.cutL_le _ _ _) (Sy.cutL_le _ _ _)) (by simp only [List.length_map]; omega)) | exact Vy.flat_strs _ | exact Sy.szLe' (Nat.le_trans (Nat.add_le_add (Nat.le_refl _) (Sy.cutL_le _ _ _)) (by simp only [List.length_map, List.length_cons, List.length_nil]; omega)) | exact Sy.szLe' (Nat.le_trans (Nat.add_le_add (Sy.cutL_le _ _ _) (Nat.le_refl _)) (by simp only [List.length_map, List.length_cons, List.length_nil]; omega)) | exact ⟨rfl, Nat.le_of_ble_eq_true rfl, by decide +kernel⟩ | (refine ⟨?_, ?_, ?_⟩ <;> decide +kernel))
      obtain ⟨c, e, hc⟩ := letter (r := (fi + 7 * (0 + (i : Int))) % 26) (Int.emod_nonneg _ (by decide)) (Int.emod_lt_of_pos _ (by decide))
      have hul' : us.length < 41 := by omega
      have k1 := cutS_length st none (some at_)
      have k2 := cutS_length st (some at_) none
      have hW : (cutS st none (some at_) ++ (⟨#[c]⟩ : Str) ++ cutS st (some at_) none ++ repS "x" ((0 + (i : Int)) % 2)).length ≤ 7 := by
        rw [strLen_append, strLen_append, strLen_append, cut_to ha0, cut_from ha0, one_len, repS_len, x_len]; omega
      have hW1 : 1 ≤ (cutS st none (some at_) ++ (⟨#[c]⟩ : Str) ++ cutS st (some at_) none ++ repS "x" ((0 + (i : Int)) % 2)).length := by
        rw [strLen_append, strLen_append, strLen_append, one_len]; omega
      have hWl : AllS lowC (cutS st none (some at_) ++ (⟨#[c]⟩ : Str) ++ cutS st (some at_) none ++ repS "x" ((0 + (i : Int)) % 2)) := .app (.app (.app (.cut hlow) (.one hc)) (.cut hlow)) (.rep low_x)
      refine one?.yes e ?_
      repeat' ((conv => whnf); first | ((with_reducible apply Sy.one?.yes); (· first | exact rfl | ((conv => lhs; whnf); first | with_reducible exact Sy.strsD_map _ | with_reducible exact Vy.blsD_rep _ _))) | ((with_reducible apply Sy.both.yes); (· exact rfl); (· exact rfl)) | (with_reducible apply Sy.both.els) | ((refine Vy.Got.here ?_ ?_); (· first | with_reducible rfl | decide +kernel)) | ((refine Vy.Got.next ?_ ?_); (· decide +kernel)) | ((with_reducible refine Sy.IfB.t ?_ ?_); (· first | with_reducible rfl | decide +kernel)) | ((with_reducible refine Sy.IfB.f ?_ ?_); (· first | with_reducible rfl | decide +kernel)) | (with_reducible refine Sy.IfB.mk (fun _ => ?_) (fun _ => ?_)) | ((with_reducible apply Vy.mkT.yes); (· exact rfl)) | (with_reducible apply Vy.mkT.els) | ((with_reducible apply Vy.mkL.yes); (· exact rfl)) | (with_reducible apply Vy.mkL.els) | ((with_reducible apply Vy.eqOp.sc); (· exact rfl); (· exact rfl); (· exact rfl)) | ((with_reducible refine Vy.SetAt.di ?_); show Sy.one? _ _) | ((with_reducible refine Vy.SetAt.ls ?_); show Sy.one? _ _) | (with_reducible refine And.intro (Sy.Hold.out ?_) ?_))
      all_goals try (refine Sy.Hold.mk ?_; first | exact trivial | exact rfl | exact Sy.mulA (by omega) (by omega) | exact Sy.mulB (by omega) (by omega) | exact Sy.divA (by omega) (by omega) | exact Sy.smlA (by omega) (by omega) | exact Sy.szLt rfl | exact Sy.szLe rfl | exact Sy.szLe' (by omega) | exact ⟨by omega, by omega⟩ | (rw [List.length_map]; exact Sy.szLt' (by omega)) | (show (0 : Int) < _; first | omega | decide +kernel) | decide +kernel | (simp only [Vy.e_len, Vy.q_len, Vy.x_len, Vy.z_len, Vy.one_len, strLen_append, Sy.repS_len, List.length_map, List.length_append, List.length_cons, List.length_nil]; first | omega | exact Sy.szLe' (by omega) | exact Sy.szLt' (by omega) | exact Vy.cut_add (Sy.szLe' (by omega)) | exact Vy.add_cut (Sy.szLe' (by omega)) | exact Vy.cut_add (Vy.add_cut (Sy.szLe' (by omega)))) | exact ⟨by omega, by omega, by simp only [Vy.e_len, Vy.q_len, Vy.x_len, Vy.z_len, Vy.one_len]; omega, by simp only [Vy.e_len, Vy.q_len, Vy.x_len, Vy.z_len, Vy.one_len]; omega⟩ | exact Sy.szLe' (Nat.le_trans (Nat.add_le_add (Sy.cutL_le _ _ _) (Sy.cutL_le _ _ _)) (by simp only [List.length_map]; omega)) | exact Vy.flat_strs _ | exact Sy.szLe' (Nat.le_trans (Nat.add_le_add (Nat.le_refl _) (Sy.cutL_le _ _ _)) (by simp only [List.length_map, List.length_cons, List.length_nil]; omega)) | exact Sy.szLe' (Nat.le_trans (Nat.add_le_add (Sy.cutL_le _ _ _) (Nat.le_refl _)) (by simp only [List.length_map, List.length_cons, List.length_nil]; omega)) | exact ⟨rfl, Nat.le_of_ble_eq_true rfl, by decide +kernel⟩ | (refine ⟨?_, ?_, ?_⟩ <;> decide +kernel))
      · exact .now ⟨us ++ [_], _, _, _, by rw [List.map_append]; rfl, by rw [List.length_append, hul]; rfl, snoc_all hus (nm_z (in_strs (by assumption)))⟩
      · exact .now ⟨us ++ [_], _, _, _, by rw [List.map_append]; rfl, by rw [List.length_append, hul]; rfl, snoc_all hus (nm_len hW1 (Nat.le_trans hW (by decide)) hWl (notin_strs (by assumption)))⟩
    · obtain ⟨us, u1, u2, u3, rfl, hul, hus⟩ := hI
      repeat' ((conv => whnf); first | ((with_reducible apply Sy.one?.yes); (· first | exact rfl | ((conv => lhs; whnf); first | with_reducible exact Sy.strsD_map _ | with_reducible exact Vy.blsD_rep _ _))) | ((with_reducible apply Sy.both.yes); (· exact rfl); (· exact rfl)) | (with_reducible apply Sy.both.els) | ((refine Vy.Got.here ?_ ?_); (· first | with_reducible rfl | decide +kernel)) | ((refine Vy.Got.next ?_ ?_); (· decide +kernel)) | ((with_reducible refine Sy.IfB.t ?_ ?_); (· first | with_reducible rfl | decide +kernel)) | ((with_reducible refine Sy.IfB.f ?_ ?_); (· first | with_reducible rfl | decide +kernel)) | (with_reducible refine Sy.IfB.mk (fun _ => ?_) (fun _ => ?_)) | ((with_reducible apply Vy.mkT.yes); (· exact rfl)) | (with_reducible apply Vy.mkT.els) | ((with_reducible apply Vy.mkL.yes); (· exact rfl)) | (with_reducible apply Vy.mkL.els) | ((with_reducible apply Vy.eqOp.sc); (· exact rfl); (· exact rfl); (· exact rfl)) | ((with_reducible refine Vy.SetAt.di ?_); show Sy.one? _ _) | ((with_reducible refine Vy.SetAt.ls ?_); show Sy.one? _ _) | (with_reducible refine And.intro (Sy.Hold.out ?_) ?_))
      all_goals try (refine Sy.Hold.mk ?_; first | exact trivial | exact rfl | exact Sy.mulA (by omega) (by omega) | exact Sy.mulB (by omega) (by omega) | exact Sy.divA (by omega) (by omega) | exact Sy.smlA (by omega) (by omega) | exact Sy.szLt rfl | exact Sy.szLe rfl | exact Sy.szLe' (by omega) | exact ⟨by omega, by omega⟩ | (rw [List.length_map]; exact Sy.szLt' (by omega)) | (show (0 : Int) < _; first | omega | decide +kernel) | decide +kernel | (simp only [Vy.e_len, Vy.q_len, Vy.x_len, Vy.z_len, Vy.one_len, strLen_append, Sy.repS_len, List.length_map, List.length_append, List.length_cons, List.length_nil]; first | omega | exact Sy.szLe' (by omega) | exact Sy.szLt' (by omega) | exact Vy.cut_add (Sy.szLe' (by omega)) | exact Vy.add_cut (Sy.szLe' (by omega)) | exact Vy.cut_add (Vy.add_cut (Sy.szLe' (by omega)))) | exact ⟨by omega, by omega, by simp only [Vy.e_len, Vy.q_len, Vy.x_len, Vy.z_len, Vy.one_len]; omega, by simp only [Vy.e_len, Vy.q_len, Vy.x_len, Vy.z_len, Vy.one_len]; omega⟩ | exact Sy.szLe' (Nat.le_trans (Nat.add_le_add (Sy.cutL_le _ _ _) (Sy.cutL_le _ _ _)) (by simp only [List.length_map]; omega)) | exact Vy.flat_strs _ | exact Sy.szLe' (Nat.le_trans (Nat.add_le_add (Nat.le_refl _) (Sy.cutL_le _ _ _)) (by simp only [List.length_map, List.length_cons, List.length_nil]; omega)) | exact Sy.szLe' (Nat.le_trans (Nat.add_le_add (Sy.cutL_le _ _ _) (Nat.le_refl _)) (by simp only [List.length_map, List.length_cons, List.length_nil]; omega)) | exact ⟨rfl, Nat.le_of_ble_eq_true rfl, by decide +kernel⟩ | (refine ⟨?_, ?_, ?_⟩ <;> decide +kernel))
      rw [rng_len] at hul
      exact hQ us (by omega) hus
end
end K03
namespace K03
open PySem PySem.Spec PyProof.Rows L2
section
open Vy
open Sy (D one? both IfB cOk cOk_cut cOk_app cOk_rep cOk_one cOk_joinT cOk_dec repS repS_len snoc_str cutL mem_cutL cutL_le cutL_map)
variable {P : Program} {w : World} {K : PySem.W.Frag} {mg : Str → Option Value} {base : Heap}
abbrev Bead := Str × Int × Bool
abbrev Shape := Str × List Bead
def bD (b : Bead) : D := .tup [.str b.1, .int b.2.1, .bl b.2.2]
def shD (s : Shape) : D := .tup [.str s.1, .tup (s.2.map bD)]
def BeadP (b : Bead) : Prop := NameP b.1 ∧ 0 ≤ b.2.1 ∧ b.2.1 ≤ 3
def ShapeP (s : Shape) : Prop := NameP s.1 ∧ (2 ≤ s.2.length ∧ s.2.length ≤ 4) ∧ ∀ b ∈ s.2, BeadP b
def vShapes : Vy.PR := fun ds Q => ∃ ns : List Str, ds = [.lst (ns.map .str)] ∧ (ns.length = 18 ∧ ∀ y ∈ ns, NameP y) ∧ ∀ shs : List Shape, 1 ≤ shs.length → shs.length ≤ 3 → (∀ s ∈ shs, ShapeP s) → Q (.d (.tup (shs.map shD)))
theorem cut_parts (os : List Bool) (t : Int) : cutL (os.map D.bl) (some t) none ++ cutL (os.map D.bl) none (some t) = (cutL os (some t) none ++ cutL os none (some t)).map D.bl := by rw [cutL_map, cutL_map, List.map_append]
theorem cut_parts_len {os : List Bool} {t : Int} (h0 : 0 ≤ t) (h1 : t < os.length) : (cutL os (some t) none ++ cutL os none (some t)).length = os.length := by
  have e1 : HT.sIx os.length 0 (some t) = t.toNat := by
    show (if t < 0 then _ else _) = _
    rw [if_neg (by omega)]; omega
  have e2 : HT.sIx os.length os.length (some t) = t.toNat := by
    show (if t < 0 then _ else _) = _
    rw [if_neg (by omega)]; omega
  unfold cutL
  rw [e1, e2]
  simp only [HT.sIx, List.length_append, List.length_take, List.length_drop]
  omega
theorem ok_shapes (T : Tx K mg) (G__law_draw : FnV P w K mg base 1 T._law_draw_f T._law_draw_fd ["_law_deal_here", "_law_many"] (spV K (cDl vDraw))) : FnV P w K mg base 2 T._law_shapes_f T._law_shapes_fd ["_law_deal_here", "_law_names"] (spV K (cDl vShapes)) := by
  refine fnD ret1F T._law_shapes_F sc__law_shapes (fun ds Q h => by first | (obtain ⟨rfl, _⟩ := h; rfl) | (obtain ⟨_, rfl, _⟩ := h; rfl) | (obtain ⟨_, _, rfl, _⟩ := h; rfl) | (obtain ⟨_, _, _, rfl, _⟩ := h; rfl) | (obtain ⟨_, _, _, _, rfl, _⟩ := h; rfl)) fun cdv A outer sh H E hr free ds Q hC => ?_
  have hu := hr.units
  have hu1 := hu_of hr
  refine ⟨_, (vb_cons (vs_set (i := 2) sc__law_shapes.nd rfl (by first | exact Or.inl rfl | exact Or.inr rfl) rfl (ve_lst va_nil))
  (vb_cons (vs_for (passes_of rfl) rfl (vi_range1 rfl T.z_range (va_cons (ve_bin ov_add ve_int (ve_callD G__law_draw (hr.mono (by first | decide | omega)) free rfl T._law_draw_g T._law_draw_F.kp T._law_draw_b .nil (fun _ => .nil) (va_cons (ve_var 0) (va_cons ve_int va_nil)))) va_nil)) (vg_name (i := 3) sc__law_shapes.nd rfl (by first | exact Or.inl rfl | exact Or.inr rfl) rfl) (vb_cons (vs_set (i := 4) sc__law_shapes.nd rfl (by first | exact Or.inl rfl | exact Or.inr rfl) rfl (ve_bin ov_add (ve_lst (va_cons ve_bl (va_cons ve_bl va_nil))) (ve_lc (own := [("_law_j", 7)]) rfl sc__law_shapes.nd (vi_range1 rfl T.z_range (va_cons (ve_callD G__law_draw (hr.mono (by first | decide | omega)) free rfl T._law_draw_g T._law_draw_F.kp T._law_draw_b .nil (fun _ => .nil) (va_cons (ve_var 0) (va_cons ve_int va_nil))) va_nil)) (blkOk_by (N := ["_law_deal_here", "_law_names", "_law_found", "_law_k", "_law_opens", "_law_turn", "_law_beads", "_law_j", "_law_one"]) (sc := defScope s__law_shapes) (by decide +kernel)) (by simp) (fun _ _ _ _ _ => (vg_name (i := 7) sc__law_shapes.nd rfl (Or.inl rfl) rfl)) (fun _ _ _ _ _ => vts_nil) (fun _ _ _ _ _ => (ve_cmp (ov_eq hu) (ve_callD G__law_draw (hr.mono (by first | decide | omega)) free rfl T._law_draw_g T._law_draw_F.kp T._law_draw_b .nil (fun _ => .nil) (va_cons (ve_var 0) (va_cons ve_int va_nil))) ve_int (nomark _))))))
  (vb_cons (vs_set (i := 5) sc__law_shapes.nd rfl (by first | exact Or.inl rfl | exact Or.inr rfl) rfl (ve_callD G__law_draw (hr.mono (by first | decide | omega)) free rfl T._law_draw_g T._law_draw_F.kp T._law_draw_b .nil (fun _ => .nil) (va_cons (ve_var 0) (va_cons (ve_callB (cv_len) rfl T.z_len (by decide +kernel) (va_cons (ve_var 4) va_nil)) va_nil))))
  (vb_cons (vs_set (i := 4) sc__law_shapes.nd rfl (by first | exact Or.inl rfl | exact Or.inr rfl) rfl (ve_bin ov_add (ve_slice (ve_var 4) (vo_some (ve_var 5)) vo_none) (ve_slice (ve_var 4) vo_none (vo_some (ve_var 5)))))
  (vb_cons (vs_setLc (i := 6) (own := [("_law_j", 7), ("_law_one", 8)]) rfl sc__law_shapes.nd rfl rfl rfl (sw_true rfl rfl rfl (by decide +kernel)) (vi_enum rfl T.z_enumerate (ve_var 4)) (blkOk_by (N := ["_law_deal_here", "_law_names", "_law_found", "_law_k", "_law_opens", "_law_turn", "_law_beads", "_law_j", "_law_one"]) (sc := defScope s__law_shapes) (by decide +kernel)) (by simp) (fun _ _ _ _ _ => (vg_tup (n := 2) rfl (vgs_cons (vg_name (i := 7) sc__law_shapes.nd rfl (Or.inl rfl) rfl) (vgs_cons (vg_name (i := 8) sc__law_shapes.nd rfl (Or.inl rfl) rfl) vgs_nil)))) (fun _ _ _ _ _ => vts_nil) (fun _ _ _ _ _ => (ve_tup (va_cons (ve_ix hu1 (ve_var 1) (ve_bin ov_add (ve_bin ov_add ve_int (ve_bin ov_mul ve_int (ve_var 3))) (ve_var 7)) (fun _ _ => rfl)) (va_cons (ve_callD G__law_draw (hr.mono (by first | decide | omega)) free rfl T._law_draw_g T._law_draw_F.kp T._law_draw_b .nil (fun _ => .nil) (va_cons (ve_var 0) (va_cons ve_int va_nil))) (va_cons (ve_var 8) va_nil))))))
  (vb_one (vs_expr (ve_append (ve_var 2) (ve_tup (va_cons (ve_ix hu1 (ve_var 1) (ve_var 3) (fun _ _ => rfl)) (va_cons (ve_callTy (cv_tuple) rfl T.z_tuple (by decide +kernel) (va_cons (ve_var 6) va_nil)) va_nil)))))))))))
  (vb_one (vs_ret (ve_callTy (cv_tuple) rfl T.z_tuple (by decide +kernel) (va_cons (ve_var 2) va_nil)))))), ?_⟩
  obtain ⟨ns, rfl, ⟨hnl, hns⟩, hQ⟩ := hC
  repeat' ((conv => whnf); first | ((with_reducible apply Sy.one?.yes); (· first | exact rfl | ((conv => lhs; whnf); first | with_reducible exact Sy.strsD_map _ | with_reducible exact Vy.blsD_rep _ _))) | ((with_reducible apply Sy.both.yes); (· exact rfl); (· exact rfl)) | (with_reducible apply Sy.both.els) | ((refine Vy.Got.here ?_ ?_); (· first | with_reducible rfl | decide +kernel)) | ((refine Vy.Got.next ?_ ?_); (· decide +kernel)) | ((with_reducible refine Sy.IfB.t ?_ ?_); (· first | with_reducible rfl | decide +kernel)) | ((with_reducible refine Sy.IfB.f ?_ ?_); (· first | with_reducible rfl | decide +kernel)) | (with_reducible refine Sy.IfB.mk (fun _ => ?_) (fun _ => ?_)) | ((with_reducible apply Vy.mkT.yes); (· exact rfl)) | (with_reducible apply Vy.mkT.els) | ((with_reducible apply Vy.mkL.yes); (· exact rfl)) | (with_reducible apply Vy.mkL.els) | ((with_reducible apply Vy.eqOp.sc); (· exact rfl); (· exact rfl); (· exact rfl)) | ((with_reducible refine Vy.SetAt.di ?_); show Sy.one? _ _) | ((with_reducible refine Vy.SetAt.ls ?_); show Sy.one? _ _) | (with_reducible refine And.intro (Sy.Hold.out ?_) ?_))
  all_goals try (refine Sy.Hold.mk ?_; first | exact trivial | exact rfl | exact Sy.mulA (by omega) (by omega) | exact Sy.mulB (by omega) (by omega) | exact Sy.divA (by omega) (by omega) | exact Sy.smlA (by omega) (by omega) | exact Sy.szLt rfl | exact Sy.szLe rfl | exact Sy.szLe' (by omega) | exact ⟨by omega, by omega⟩ | (rw [List.length_map]; exact Sy.szLt' (by omega)) | (show (0 : Int) < _; first | omega | decide +kernel) | decide +kernel | (simp only [Vy.e_len, Vy.q_len, Vy.x_len, Vy.z_len, Vy.one_len, strLen_append, Sy.repS_len, List.length_map, List.length_append, List.length_cons, List.length_nil]; first | omega | exact Sy.szLe' (by omega) | exact Sy.szLt' (by omega) | exact Vy.cut_add (Sy.szLe' (by omega)) | exact Vy.add_cut (Sy.szLe' (by omega)) | exact Vy.cut_add (Vy.add_cut (Sy.szLe' (by omega)))) | exact ⟨by omega, by omega, by simp only [Vy.e_len, Vy.q_len, Vy.x_len, Vy.z_len, Vy.one_len]; omega, by simp only [Vy.e_len, Vy.q_len, Vy.x_len, Vy.z_len, Vy.one_len]; omega⟩ | exact Sy.szLe' (Nat.le_trans (Nat.add_le_add (Sy.cutL_le _ _ _) (Sy.cutL_le _ _ _)) (by simp only [List.length_map]; omega)) | exact Vy.flat_strs _ | exact Sy.szLe' (Nat.le_trans (Nat.add_le_add (Nat.le_refl _) (Sy.cutL_le _ _ _)) (by simp only [List.length_map, List.length_cons, List.length_nil]; omega)) | exact Sy.szLe' (Nat.le_trans (Nat.add_le_add (Sy.cutL_le _ _ _) (Nat.le_refl _)) (by simp only [List.length_map, List.length_cons, List.length_nil]; omega)) | exact ⟨rfl, Nat.le_of_ble_eq_true rfl, by decide +kernel⟩ | (refine ⟨?_, ?_, ?_⟩ <;> decide +kernel))
  refine ⟨3, rfl, ⟨by omega, by omega⟩, fun r h0 h1 => ?_⟩
  repeat' ((conv => whnf); first | ((with_reducible apply Sy.one?.yes); (· first | exact rfl | ((conv => lhs; whnf); first | with_reducible exact Sy.strsD_map _ | with_reducible exact Vy.blsD_rep _ _))) | ((with_reducible apply Sy.both.yes); (· exact rfl); (· exact rfl)) | (with_reducible apply Sy.both.els) | ((refine Vy.Got.here ?_ ?_); (· first | with_reducible rfl | decide +kernel)) | ((refine Vy.Got.next ?_ ?_); (· decide +kernel)) | ((with_reducible refine Sy.IfB.t ?_ ?_); (· first | with_reducible rfl | decide +kernel)) | ((with_reducible refine Sy.IfB.f ?_ ?_); (· first | with_reducible rfl | decide +kernel)) | (with_reducible refine Sy.IfB.mk (fun _ => ?_) (fun _ => ?_)) | ((with_reducible apply Vy.mkT.yes); (· exact rfl)) | (with_reducible apply Vy.mkT.els) | ((with_reducible apply Vy.mkL.yes); (· exact rfl)) | (with_reducible apply Vy.mkL.els) | ((with_reducible apply Vy.eqOp.sc); (· exact rfl); (· exact rfl); (· exact rfl)) | ((with_reducible refine Vy.SetAt.di ?_); show Sy.one? _ _) | ((with_reducible refine Vy.SetAt.ls ?_); show Sy.one? _ _) | (with_reducible refine And.intro (Sy.Hold.out ?_) ?_))
  all_goals try (refine Sy.Hold.mk ?_; first | exact trivial | exact rfl | exact Sy.mulA (by omega) (by omega) | exact Sy.mulB (by omega) (by omega) | exact Sy.divA (by omega) (by omega) | exact Sy.smlA (by omega) (by omega) | exact Sy.szLt rfl | exact Sy.szLe rfl | exact Sy.szLe' (by omega) | exact ⟨by omega, by omega⟩ | (rw [List.length_map]; exact Sy.szLt' (by omega)) | (show (0 : Int) < _; first | omega | decide +kernel) | decide +kernel | (simp only [Vy.e_len, Vy.q_len, Vy.x_len, Vy.z_len, Vy.one_len, strLen_append, Sy.repS_len, List.length_map, List.length_append, List.length_cons, List.length_nil]; first | omega | exact Sy.szLe' (by omega) | exact Sy.szLt' (by omega) | exact Vy.cut_add (Sy.szLe' (by omega)) | exact Vy.add_cut (Sy.szLe' (by omega)) | exact Vy.cut_add (Vy.add_cut (Sy.szLe' (by omega)))) | exact ⟨by omega, by omega, by simp only [Vy.e_len, Vy.q_len, Vy.x_len, Vy.z_len, Vy.one_len]; omega, by simp only [Vy.e_len, Vy.q_len, Vy.x_len, Vy.z_len, Vy.one_len]; omega⟩ | exact Sy.szLe' (Nat.le_trans (Nat.add_le_add (Sy.cutL_le _ _ _) (Sy.cutL_le _ _ _)) (by simp only [List.length_map]; omega)) | exact Vy.flat_strs _ | exact Sy.szLe' (Nat.le_trans (Nat.add_le_add (Nat.le_refl _) (Sy.cutL_le _ _ _)) (by simp only [List.length_map, List.length_cons, List.length_nil]; omega)) | exact Sy.szLe' (Nat.le_trans (Nat.add_le_add (Sy.cutL_le _ _ _) (Nat.le_refl _)) (by simp only [List.length_map, List.length_cons, List.length_nil]; omega)) | exact ⟨rfl, Nat.le_of_ble_eq_true rfl, by decide +kernel⟩ | (refine ⟨?_, ?_, ?_⟩ <;> decide +kernel))
  refine loopI (fun E i en => ∃ (shs : List Shape) (u_k : Val) (u_opens : Val) (u_turn : Val) (u_beads : Val), en = upds E [(2, .lD (shs.map shD)), (3, u_k), (4, u_opens), (5, u_turn), (6, u_beads)] ∧ (shs.length = i ∧ ∀ s ∈ shs, ShapeP s)) ⟨?_, fun i x en2 hx hI => ?_, fun en2 hI => ?_⟩
  · exact .now ⟨[], _, _, _, _, rfl, rfl, fun _ h => nomatch h⟩
  · obtain ⟨shs, u1, u2, u3, u4, rfl, hul, hus⟩ := hI
    obtain ⟨rfl, hi⟩ := rng_get hx
    repeat' ((conv => whnf); first | ((with_reducible apply Sy.one?.yes); (· first | exact rfl | ((conv => lhs; whnf); first | with_reducible exact Sy.strsD_map _ | with_reducible exact Vy.blsD_rep _ _))) | ((with_reducible apply Sy.both.yes); (· exact rfl); (· exact rfl)) | (with_reducible apply Sy.both.els) | ((refine Vy.Got.here ?_ ?_); (· first | with_reducible rfl | decide +kernel)) | ((refine Vy.Got.next ?_ ?_); (· decide +kernel)) | ((with_reducible refine Sy.IfB.t ?_ ?_); (· first | with_reducible rfl | decide +kernel)) | ((with_reducible refine Sy.IfB.f ?_ ?_); (· first | with_reducible rfl | decide +kernel)) | (with_reducible refine Sy.IfB.mk (fun _ => ?_) (fun _ => ?_)) | ((with_reducible apply Vy.mkT.yes); (· exact rfl)) | (with_reducible apply Vy.mkT.els) | ((with_reducible apply Vy.mkL.yes); (· exact rfl)) | (with_reducible apply Vy.mkL.els) | ((with_reducible apply Vy.eqOp.sc); (· exact rfl); (· exact rfl); (· exact rfl)) | ((with_reducible refine Vy.SetAt.di ?_); show Sy.one? _ _) | ((with_reducible refine Vy.SetAt.ls ?_); show Sy.one? _ _) | (with_reducible refine And.intro (Sy.Hold.out ?_) ?_))
    all_goals try (refine Sy.Hold.mk ?_; first | exact trivial | exact rfl | exact Sy.mulA (by omega) (by omega) | exact Sy.mulB (by omega) (by omega) | exact Sy.divA (by omega) (by omega) | exact Sy.smlA (by omega) (by omega) | exact Sy.szLt rfl | exact Sy.szLe rfl | exact Sy.szLe' (by omega) | exact ⟨by omega, by omega⟩ | (rw [List.length_map]; exact Sy.szLt' (by omega)) | (show (0 : Int) < _; first | omega | decide +kernel) | decide +kernel | (simp only [Vy.e_len, Vy.q_len, Vy.x_len, Vy.z_len, Vy.one_len, strLen_append, Sy.repS_len, List.length_map, List.length_append, List.length_cons, List.length_nil]; first | omega | exact Sy.szLe' (by omega) | exact Sy.szLt' (by omega) | exact Vy.cut_add (Sy.szLe' (by omega)) | exact Vy.add_cut (Sy.szLe' (by omega)) | exact Vy.cut_add (Vy.add_cut (Sy.szLe' (by omega)))) | exact ⟨by omega, by omega, by simp only [Vy.e_len, Vy.q_len, Vy.x_len, Vy.z_len, Vy.one_len]; omega, by simp only [Vy.e_len, Vy.q_len, Vy.x_len, Vy.z_len, Vy.one_len]; omega⟩ | exact Sy.szLe' (Nat.le_trans (Nat.add_le_add (Sy.cutL_le _ _ _) (Sy.cutL_le _ _ _)) (by simp only [List.length_map]; omega)) | exact Vy.flat_strs _ | exact Sy.szLe' (Nat.le_trans (Nat.add_le_add (Nat.le_refl _) (Sy.cutL_le _ _ _)) (by simp only [List.length_map, List.length_cons, List.length_nil]; omega)) | exact Sy.szLe' (Nat.le_trans (Nat.add_le_add (Sy.cutL_le _ _ _) (Nat.le_refl _)) (by simp only [List.length_map, List.length_cons, List.length_nil]; omega)) | exact ⟨rfl, Nat.le_of_ble_eq_true rfl, by decide +kernel⟩ | (refine ⟨?_, ?_, ?_⟩ <;> decide +kernel))
    refine ⟨3, rfl, ⟨by omega, by omega⟩, fun r2 h2 h3 => ?_⟩
    repeat' ((conv => whnf); first | ((with_reducible apply Sy.one?.yes); (· first | exact rfl | ((conv => lhs; whnf); first | with_reducible exact Sy.strsD_map _ | with_reducible exact Vy.blsD_rep _ _))) | ((with_reducible apply Sy.both.yes); (· exact rfl); (· exact rfl)) | (with_reducible apply Sy.both.els) | ((refine Vy.Got.here ?_ ?_); (· first | with_reducible rfl | decide +kernel)) | ((refine Vy.Got.next ?_ ?_); (· decide +kernel)) | ((with_reducible refine Sy.IfB.t ?_ ?_); (· first | with_reducible rfl | decide +kernel)) | ((with_reducible refine Sy.IfB.f ?_ ?_); (· first | with_reducible rfl | decide +kernel)) | (with_reducible refine Sy.IfB.mk (fun _ => ?_) (fun _ => ?_)) | ((with_reducible apply Vy.mkT.yes); (· exact rfl)) | (with_reducible apply Vy.mkT.els) | ((with_reducible apply Vy.mkL.yes); (· exact rfl)) | (with_reducible apply Vy.mkL.els) | ((with_reducible apply Vy.eqOp.sc); (· exact rfl); (· exact rfl); (· exact rfl)) | ((with_reducible refine Vy.SetAt.di ?_); show Sy.one? _ _) | ((with_reducible refine Vy.SetAt.ls ?_); show Sy.one? _ _) | (with_reducible refine And.intro (Sy.Hold.out ?_) ?_))
    all_goals try (refine Sy.Hold.mk ?_; first | exact trivial | exact rfl | exact Sy.mulA (by omega) (by omega) | exact Sy.mulB (by omega) (by omega) | exact Sy.divA (by omega) (by omega) | exact Sy.smlA (by omega) (by omega) | exact Sy.szLt rfl | exact Sy.szLe rfl | exact Sy.szLe' (by omega) | exact ⟨by omega, by omega⟩ | (rw [List.length_map]; exact Sy.szLt' (by omega)) | (show (0 : Int) < _; first | omega | decide +kernel) | decide +kernel | (simp only [Vy.e_len, Vy.q_len, Vy.x_len, Vy.z_len, Vy.one_len, strLen_append, Sy.repS_len, List.length_map, List.length_append, List.length_cons, List.length_nil]; first | omega | exact Sy.szLe' (by omega) | exact Sy.szLt' (by omega) | exact Vy.cut_add (Sy.szLe' (by omega)) | exact Vy.add_cut (Sy.szLe' (by omega)) | exact Vy.cut_add (Vy.add_cut (Sy.szLe' (by omega)))) | exact ⟨by omega, by omega, by simp only [Vy.e_len, Vy.q_len, Vy.x_len, Vy.z_len, Vy.one_len]; omega, by simp only [Vy.e_len, Vy.q_len, Vy.x_len, Vy.z_len, Vy.one_len]; omega⟩ | exact Sy.szLe' (Nat.le_trans (Nat.add_le_add (Sy.cutL_le _ _ _) (Sy.cutL_le _ _ _)) (by simp only [List.length_map]; omega)) | exact Vy.flat_strs _ | exact Sy.szLe' (Nat.le_trans (Nat.add_le_add (Nat.le_refl _) (Sy.cutL_le _ _ _)) (by simp only [List.length_map, List.length_cons, List.length_nil]; omega)) | exact Sy.szLe' (Nat.le_trans (Nat.add_le_add (Sy.cutL_le _ _ _) (Nat.le_refl _)) (by simp only [List.length_map, List.length_cons, List.length_nil]; omega)) | exact ⟨rfl, Nat.le_of_ble_eq_true rfl, by decide +kernel⟩ | (refine ⟨?_, ?_, ?_⟩ <;> decide +kernel))
    refine lcI (fun E => LcP (D.bl) (fun _ _ => True) E) ⟨LcP.nil, fun j y acc en2 hy hJ => ?_, fun acc en2 hJ => ?_⟩
    · obtain ⟨rfl, hj⟩ := rng_get hy
      obtain ⟨rfl, as, rfl, hl, hP⟩ := hJ
      repeat' ((conv => whnf); first | ((with_reducible apply Sy.one?.yes); (· first | exact rfl | ((conv => lhs; whnf); first | with_reducible exact Sy.strsD_map _ | with_reducible exact Vy.blsD_rep _ _))) | ((with_reducible apply Sy.both.yes); (· exact rfl); (· exact rfl)) | (with_reducible apply Sy.both.els) | ((refine Vy.Got.here ?_ ?_); (· first | with_reducible rfl | decide +kernel)) | ((refine Vy.Got.next ?_ ?_); (· decide +kernel)) | ((with_reducible refine Sy.IfB.t ?_ ?_); (· first | with_reducible rfl | decide +kernel)) | ((with_reducible refine Sy.IfB.f ?_ ?_); (· first | with_reducible rfl | decide +kernel)) | (with_reducible refine Sy.IfB.mk (fun _ => ?_) (fun _ => ?_)) | ((with_reducible apply Vy.mkT.yes); (· exact rfl)) | (with_reducible apply Vy.mkT.els) | ((with_reducible apply Vy.mkL.yes); (· exact rfl)) | (with_reducible apply Vy.mkL.els) | ((with_reducible apply Vy.eqOp.sc); (· exact rfl); (· exact rfl); (· exact rfl)) | ((with_reducible refine Vy.SetAt.di ?_); show Sy.one? _ _) | ((with_reducible refine Vy.SetAt.ls ?_); show Sy.one? _ _) | (with_reducible refine And.intro (Sy.Hold.out ?_) ?_))
      all_goals try (refine Sy.Hold.mk ?_; first | exact trivial | exact rfl | exact Sy.mulA (by omega) (by omega) | exact Sy.mulB (by omega) (by omega) | exact Sy.divA (by omega) (by omega) | exact Sy.smlA (by omega) (by omega) | exact Sy.szLt rfl | exact Sy.szLe rfl | exact Sy.szLe' (by omega) | exact ⟨by omega, by omega⟩ | (rw [List.length_map]; exact Sy.szLt' (by omega)) | (show (0 : Int) < _; first | omega | decide +kernel) | decide +kernel | (simp only [Vy.e_len, Vy.q_len, Vy.x_len, Vy.z_len, Vy.one_len, strLen_append, Sy.repS_len, List.length_map, List.length_append, List.length_cons, List.length_nil]; first | omega | exact Sy.szLe' (by omega) | exact Sy.szLt' (by omega) | exact Vy.cut_add (Sy.szLe' (by omega)) | exact Vy.add_cut (Sy.szLe' (by omega)) | exact Vy.cut_add (Vy.add_cut (Sy.szLe' (by omega)))) | exact ⟨by omega, by omega, by simp only [Vy.e_len, Vy.q_len, Vy.x_len, Vy.z_len, Vy.one_len]; omega, by simp only [Vy.e_len, Vy.q_len, Vy.x_len, Vy.z_len, Vy.one_len]; omega⟩ | exact Sy.szLe' (Nat.le_trans (Nat.add_le_add (Sy.cutL_le _ _ _) (Sy.cutL_le _ _ _)) (by simp only [List.length_map]; omega)) | exact Vy.flat_strs _ | exact Sy.szLe' (Nat.le_trans (Nat.add_le_add (Nat.le_refl _) (Sy.cutL_le _ _ _)) (by simp only [List.length_map, List.length_cons, List.length_nil]; omega)) | exact Sy.szLe' (Nat.le_trans (Nat.add_le_add (Sy.cutL_le _ _ _) (Nat.le_refl _)) (by simp only [List.length_map, List.length_cons, List.length_nil]; omega)) | exact ⟨rfl, Nat.le_of_ble_eq_true rfl, by decide +kernel⟩ | (refine ⟨?_, ?_, ?_⟩ <;> decide +kernel))
      refine ⟨2, rfl, ⟨by omega, by omega⟩, fun r3 h4 h5 => ?_⟩
      repeat' ((conv => whnf); first | ((with_reducible apply Sy.one?.yes); (· first | exact rfl | ((conv => lhs; whnf); first | with_reducible exact Sy.strsD_map _ | with_reducible exact Vy.blsD_rep _ _))) | ((with_reducible apply Sy.both.yes); (· exact rfl); (· exact rfl)) | (with_reducible apply Sy.both.els) | ((refine Vy.Got.here ?_ ?_); (· first | with_reducible rfl | decide +kernel)) | ((refine Vy.Got.next ?_ ?_); (· decide +kernel)) | ((with_reducible refine Sy.IfB.t ?_ ?_); (· first | with_reducible rfl | decide +kernel)) | ((with_reducible refine Sy.IfB.f ?_ ?_); (· first | with_reducible rfl | decide +kernel)) | (with_reducible refine Sy.IfB.mk (fun _ => ?_) (fun _ => ?_)) | ((with_reducible apply Vy.mkT.yes); (· exact rfl)) | (with_reducible apply Vy.mkT.els) | ((with_reducible apply Vy.mkL.yes); (· exact rfl)) | (with_reducible apply Vy.mkL.els) | ((with_reducible apply Vy.eqOp.sc); (· exact rfl); (· exact rfl); (· exact rfl)) | ((with_reducible refine Vy.SetAt.di ?_); show Sy.one? _ _) | ((with_reducible refine Vy.SetAt.ls ?_); show Sy.one? _ _) | (with_reducible refine And.intro (Sy.Hold.out ?_) ?_))
      all_goals try (refine Sy.Hold.mk ?_; first | exact trivial | exact rfl | exact Sy.mulA (by omega) (by omega) | exact Sy.mulB (by omega) (by omega) | exact Sy.divA (by omega) (by omega) | exact Sy.smlA (by omega) (by omega) | exact Sy.szLt rfl | exact Sy.szLe rfl | exact Sy.szLe' (by omega) | exact ⟨by omega, by omega⟩ | (rw [List.length_map]; exact Sy.szLt' (by omega)) | (show (0 : Int) < _; first | omega | decide +kernel) | decide +kernel | (simp only [Vy.e_len, Vy.q_len, Vy.x_len, Vy.z_len, Vy.one_len, strLen_append, Sy.repS_len, List.length_map, List.length_append, List.length_cons, List.length_nil]; first | omega | exact Sy.szLe' (by omega) | exact Sy.szLt' (by omega) | exact Vy.cut_add (Sy.szLe' (by omega)) | exact Vy.add_cut (Sy.szLe' (by omega)) | exact Vy.cut_add (Vy.add_cut (Sy.szLe' (by omega)))) | exact ⟨by omega, by omega, by simp only [Vy.e_len, Vy.q_len, Vy.x_len, Vy.z_len, Vy.one_len]; omega, by simp only [Vy.e_len, Vy.q_len, Vy.x_len, Vy.z_len, Vy.one_len]; omega⟩ | exact Sy.szLe' (Nat.le_trans (Nat.add_le_add (Sy.cutL_le _ _ _) (Sy.cutL_le _ _ _)) (by simp only [List.length_map]; omega)) | exact Vy.flat_strs _ | exact Sy.szLe' (Nat.le_trans (Nat.add_le_add (Nat.le_refl _) (Sy.cutL_le _ _ _)) (by simp only [List.length_map, List.length_cons, List.length_nil]; omega)) | exact Sy.szLe' (Nat.le_trans (Nat.add_le_add (Sy.cutL_le _ _ _) (Nat.le_refl _)) (by simp only [List.length_map, List.length_cons, List.length_nil]; omega)) | exact ⟨rfl, Nat.le_of_ble_eq_true rfl, by decide +kernel⟩ | (refine ⟨?_, ?_, ?_⟩ <;> decide +kernel))
      exact LcP.snoc (decide (V.int r3 = V.int 0)) hl hP rfl rfl trivial
    · obtain ⟨rfl, as, rfl, hl, hP⟩ := hJ
      rw [rng_len] at hl
      repeat' ((conv => whnf); first | ((with_reducible apply Sy.one?.yes); (· first | exact rfl | ((conv => lhs; whnf); first | with_reducible exact Sy.strsD_map _ | with_reducible exact Vy.blsD_rep _ _))) | ((with_reducible apply Sy.both.yes); (· exact rfl); (· exact rfl)) | (with_reducible apply Sy.both.els) | ((refine Vy.Got.here ?_ ?_); (· first | with_reducible rfl | decide +kernel)) | ((refine Vy.Got.next ?_ ?_); (· decide +kernel)) | ((with_reducible refine Sy.IfB.t ?_ ?_); (· first | with_reducible rfl | decide +kernel)) | ((with_reducible refine Sy.IfB.f ?_ ?_); (· first | with_reducible rfl | decide +kernel)) | (with_reducible refine Sy.IfB.mk (fun _ => ?_) (fun _ => ?_)) | ((with_reducible apply Vy.mkT.yes); (· exact rfl)) | (with_reducible apply Vy.mkT.els) | ((with_reducible apply Vy.mkL.yes); (· exact rfl)) | (with_reducible apply Vy.mkL.els) | ((with_reducible apply Vy.eqOp.sc); (· exact rfl); (· exact rfl); (· exact rfl)) | ((with_reducible refine Vy.SetAt.di ?_); show Sy.one? _ _) | ((with_reducible refine Vy.SetAt.ls ?_); show Sy.one? _ _) | (with_reducible refine And.intro (Sy.Hold.out ?_) ?_))
      all_goals try (refine Sy.Hold.mk ?_; first | exact trivial | exact rfl | exact Sy.mulA (by omega) (by omega) | exact Sy.mulB (by omega) (by omega) | exact Sy.divA (by omega) (by omega) | exact Sy.smlA (by omega) (by omega) | exact Sy.szLt rfl | exact Sy.szLe rfl | exact Sy.szLe' (by omega) | exact ⟨by omega, by omega⟩ | (rw [List.length_map]; exact Sy.szLt' (by omega)) | (show (0 : Int) < _; first | omega | decide +kernel) | decide +kernel | (simp only [Vy.e_len, Vy.q_len, Vy.x_len, Vy.z_len, Vy.one_len, strLen_append, Sy.repS_len, List.length_map, List.length_append, List.length_cons, List.length_nil]; first | omega | exact Sy.szLe' (by omega) | exact Sy.szLt' (by omega) | exact Vy.cut_add (Sy.szLe' (by omega)) | exact Vy.add_cut (Sy.szLe' (by omega)) | exact Vy.cut_add (Vy.add_cut (Sy.szLe' (by omega)))) | exact ⟨by omega, by omega, by simp only [Vy.e_len, Vy.q_len, Vy.x_len, Vy.z_len, Vy.one_len]; omega, by simp only [Vy.e_len, Vy.q_len, Vy.x_len, Vy.z_len, Vy.one_len]; omega⟩ | exact Sy.szLe' (Nat.le_trans (Nat.add_le_add (Sy.cutL_le _ _ _) (Sy.cutL_le _ _ _)) (by simp only [List.length_map]; omega)) | exact Vy.flat_strs _ | exact Sy.szLe' (Nat.le_trans (Nat.add_le_add (Nat.le_refl _) (Sy.cutL_le _ _ _)) (by simp only [List.length_map, List.length_cons, List.length_nil]; omega)) | exact Sy.szLe' (Nat.le_trans (Nat.add_le_add (Sy.cutL_le _ _ _) (Nat.le_refl _)) (by simp only [List.length_map, List.length_cons, List.length_nil]; omega)) | exact ⟨rfl, Nat.le_of_ble_eq_true rfl, by decide +kernel⟩ | (refine ⟨?_, ?_, ?_⟩ <;> decide +kernel))
      rw [show [D.bl false, D.bl true] ++ List.map D.bl as = List.map D.bl ([false, true] ++ as) from rfl]
      have hol : ([false, true] ++ as).length ≤ 4 ∧ 2 ≤ ([false, true] ++ as).length := by simp only [List.length_append, List.length_cons, List.length_nil]; omega
      generalize [false, true] ++ as = os at *
      repeat' ((conv => whnf); first | ((with_reducible apply Sy.one?.yes); (· first | exact rfl | ((conv => lhs; whnf); first | with_reducible exact Sy.strsD_map _ | with_reducible exact Vy.blsD_rep _ _))) | ((with_reducible apply Sy.both.yes); (· exact rfl); (· exact rfl)) | (with_reducible apply Sy.both.els) | ((refine Vy.Got.here ?_ ?_); (· first | with_reducible rfl | decide +kernel)) | ((refine Vy.Got.next ?_ ?_); (· decide +kernel)) | ((with_reducible refine Sy.IfB.t ?_ ?_); (· first | with_reducible rfl | decide +kernel)) | ((with_reducible refine Sy.IfB.f ?_ ?_); (· first | with_reducible rfl | decide +kernel)) | (with_reducible refine Sy.IfB.mk (fun _ => ?_) (fun _ => ?_)) | ((with_reducible apply Vy.mkT.yes); (· exact rfl)) | (with_reducible apply Vy.mkT.els) | ((with_reducible apply Vy.mkL.yes); (· exact rfl)) | (with_reducible apply Vy.mkL.els) | ((with_reducible apply Vy.eqOp.sc); (· exact rfl); (· exact rfl); (· exact rfl)) | ((with_reducible refine Vy.SetAt.di ?_); show Sy.one? _ _) | ((with_reducible refine Vy.SetAt.ls ?_); show Sy.one? _ _) | (with_reducible refine And.intro (Sy.Hold.out ?_) ?_))
      all_goals try (refine Sy.Hold.mk ?_; first | exact trivial | exact rfl | exact Sy.mulA (by omega) (by omega) | exact Sy.mulB (by omega) (by omega) | exact Sy.divA (by omega) (by omega) | exact Sy.smlA (by omega) (by omega) | exact Sy.szLt rfl | exact Sy.szLe rfl | exact Sy.szLe' (by omega) | exact ⟨by omega, by omega⟩ | (rw [List.length_map]; exact Sy.szLt' (by omega)) | (show (0 : Int) < _; first | omega | decide +kernel) | decide +kernel | (simp only [Vy.e_len, Vy.q_len, Vy.x_len, Vy.z_len, Vy.one_len, strLen_append, Sy.repS_len, List.length_map, List.length_append, List.length_cons, List.length_nil]; first | omega | exact Sy.szLe' (by omega) | exact Sy.szLt' (by omega) | exact Vy.cut_add (Sy.szLe' (by omega)) | exact Vy.add_cut (Sy.szLe' (by omega)) | exact Vy.cut_add (Vy.add_cut (Sy.szLe' (by omega)))) | exact ⟨by omega, by omega, by simp only [Vy.e_len, Vy.q_len, Vy.x_len, Vy.z_len, Vy.one_len]; omega, by simp only [Vy.e_len, Vy.q_len, Vy.x_len, Vy.z_len, Vy.one_len]; omega⟩ | exact Sy.szLe' (Nat.le_trans (Nat.add_le_add (Sy.cutL_le _ _ _) (Sy.cutL_le _ _ _)) (by simp only [List.length_map]; omega)) | exact Vy.flat_strs _ | exact Sy.szLe' (Nat.le_trans (Nat.add_le_add (Nat.le_refl _) (Sy.cutL_le _ _ _)) (by simp only [List.length_map, List.length_cons, List.length_nil]; omega)) | exact Sy.szLe' (Nat.le_trans (Nat.add_le_add (Sy.cutL_le _ _ _) (Nat.le_refl _)) (by simp only [List.length_map, List.length_cons, List.length_nil]; omega)) | exact ⟨rfl, Nat.le_of_ble_eq_true rfl, by decide +kernel⟩ | (refine ⟨?_, ?_, ?_⟩ <;> decide +kernel))
      refine ⟨os.length, by rw [List.length_map]; rfl, ⟨by omega, by omega⟩, fun t h6 h7 => ?_⟩
      repeat' ((conv => whnf); first | ((with_reducible apply Sy.one?.yes); (· first | exact rfl | ((conv => lhs; whnf); first | with_reducible exact Sy.strsD_map _ | with_reducible exact Vy.blsD_rep _ _))) | ((with_reducible apply Sy.both.yes); (· exact rfl); (· exact rfl)) | (with_reducible apply Sy.both.els) | ((refine Vy.Got.here ?_ ?_); (· first | with_reducible rfl | decide +kernel)) | ((refine Vy.Got.next ?_ ?_); (· decide +kernel)) | ((with_reducible refine Sy.IfB.t ?_ ?_); (· first | with_reducible rfl | decide +kernel)) | ((with_reducible refine Sy.IfB.f ?_ ?_); (· first | with_reducible rfl | decide +kernel)) | (with_reducible refine Sy.IfB.mk (fun _ => ?_) (fun _ => ?_)) | ((with_reducible apply Vy.mkT.yes); (· exact rfl)) | (with_reducible apply Vy.mkT.els) | ((with_reducible apply Vy.mkL.yes); (· exact rfl)) | (with_reducible apply Vy.mkL.els) | ((with_reducible apply Vy.eqOp.sc); (· exact rfl); (· exact rfl); (· exact rfl)) | ((with_reducible refine Vy.SetAt.di ?_); show Sy.one? _ _) | ((with_reducible refine Vy.SetAt.ls ?_); show Sy.one? _ _) | (with_reducible refine And.intro (Sy.Hold.out ?_) ?_))
      all_goals try (refine Sy.Hold.mk ?_; first | exact trivial | exact rfl | exact Sy.mulA (by omega) (by omega) | exact Sy.mulB (by omega) (by omega) | exact Sy.divA (by omega) (by omega) | exact Sy.smlA (by omega) (by omega) | exact Sy.szLt rfl | exact Sy.szLe rfl | exact Sy.szLe' (by omega) | exact ⟨by omega, by omega⟩ | (rw [List.length_map]; exact Sy.szLt' (by omega)) | (show (0 : Int) < _; first | omega | decide +kernel) | decide +kernel | (simp only [Vy.e_len, Vy.q_len, Vy.x_len, Vy.z_len, Vy.one_len, strLen_append, Sy.repS_len, List.length_map, List.length_append, List.length_cons, List.length_nil]; first | omega | exact Sy.szLe' (by omega) | exact Sy.szLt' (by omega) | exact Vy.cut_add (Sy.szLe' (by omega)) | exact Vy.add_cut (Sy.szLe' (by omega)) | exact Vy.cut_add (Vy.add_cut (Sy.szLe' (by omega)))) | exact ⟨by omega, by omega, by simp only [Vy.e_len, Vy.q_len, Vy.x_len, Vy.z_len, Vy.one_len]; omega, by simp only [Vy.e_len, Vy.q_len, Vy.x_len, Vy.z_len, Vy.one_len]; omega⟩ | exact Sy.szLe' (Nat.le_trans (Nat.add_le_add (Sy.cutL_le _ _ _) (Sy.cutL_le _ _ _)) (by simp only [List.length_map]; omega)) | exact Vy.flat_strs _ | exact Sy.szLe' (Nat.le_trans (Nat.add_le_add (Nat.le_refl _) (Sy.cutL_le _ _ _)) (by simp only [List.length_map, List.length_cons, List.length_nil]; omega)) | exact Sy.szLe' (Nat.le_trans (Nat.add_le_add (Sy.cutL_le _ _ _) (Nat.le_refl _)) (by simp only [List.length_map, List.length_cons, List.length_nil]; omega)) | exact ⟨rfl, Nat.le_of_ble_eq_true rfl, by decide +kernel⟩ | (refine ⟨?_, ?_, ?_⟩ <;> decide +kernel))
      simp only [cut_parts]
      have hpl := cut_parts_len h6 h7
      generalize cutL os (some t) none ++ cutL os none (some t) = ps at *
      refine lcI (fun E => LcP (bD) (fun _ b => BeadP b) E) ⟨LcP.nil, fun j y acc en2 hy hJ => ?_, fun acc en2 hJ => ?_⟩
      · obtain ⟨o', ho, rfl⟩ := numbered_get hy
        obtain ⟨o, ho', rfl, _⟩ := map_get ho
        have hjl := get_lt ho'
        obtain ⟨rfl, bs, rfl, hl2, hP2⟩ := hJ
        repeat' ((conv => whnf); first | ((with_reducible apply Sy.one?.yes); (· first | exact rfl | ((conv => lhs; whnf); first | with_reducible exact Sy.strsD_map _ | with_reducible exact Vy.blsD_rep _ _))) | ((with_reducible apply Sy.both.yes); (· exact rfl); (· exact rfl)) | (with_reducible apply Sy.both.els) | ((refine Vy.Got.here ?_ ?_); (· first | with_reducible rfl | decide +kernel)) | ((refine Vy.Got.next ?_ ?_); (· decide +kernel)) | ((with_reducible refine Sy.IfB.t ?_ ?_); (· first | with_reducible rfl | decide +kernel)) | ((with_reducible refine Sy.IfB.f ?_ ?_); (· first | with_reducible rfl | decide +kernel)) | (with_reducible refine Sy.IfB.mk (fun _ => ?_) (fun _ => ?_)) | ((with_reducible apply Vy.mkT.yes); (· exact rfl)) | (with_reducible apply Vy.mkT.els) | ((with_reducible apply Vy.mkL.yes); (· exact rfl)) | (with_reducible apply Vy.mkL.els) | ((with_reducible apply Vy.eqOp.sc); (· exact rfl); (· exact rfl); (· exact rfl)) | ((with_reducible refine Vy.SetAt.di ?_); show Sy.one? _ _) | ((with_reducible refine Vy.SetAt.ls ?_); show Sy.one? _ _) | (with_reducible refine And.intro (Sy.Hold.out ?_) ?_))
        all_goals try (refine Sy.Hold.mk ?_; first | exact trivial | exact rfl | exact Sy.mulA (by omega) (by omega) | exact Sy.mulB (by omega) (by omega) | exact Sy.divA (by omega) (by omega) | exact Sy.smlA (by omega) (by omega) | exact Sy.szLt rfl | exact Sy.szLe rfl | exact Sy.szLe' (by omega) | exact ⟨by omega, by omega⟩ | (rw [List.length_map]; exact Sy.szLt' (by omega)) | (show (0 : Int) < _; first | omega | decide +kernel) | decide +kernel | (simp only [Vy.e_len, Vy.q_len, Vy.x_len, Vy.z_len, Vy.one_len, strLen_append, Sy.repS_len, List.length_map, List.length_append, List.length_cons, List.length_nil]; first | omega | exact Sy.szLe' (by omega) | exact Sy.szLt' (by omega) | exact Vy.cut_add (Sy.szLe' (by omega)) | exact Vy.add_cut (Sy.szLe' (by omega)) | exact Vy.cut_add (Vy.add_cut (Sy.szLe' (by omega)))) | exact ⟨by omega, by omega, by simp only [Vy.e_len, Vy.q_len, Vy.x_len, Vy.z_len, Vy.one_len]; omega, by simp only [Vy.e_len, Vy.q_len, Vy.x_len, Vy.z_len, Vy.one_len]; omega⟩ | exact Sy.szLe' (Nat.le_trans (Nat.add_le_add (Sy.cutL_le _ _ _) (Sy.cutL_le _ _ _)) (by simp only [List.length_map]; omega)) | exact Vy.flat_strs _ | exact Sy.szLe' (Nat.le_trans (Nat.add_le_add (Nat.le_refl _) (Sy.cutL_le _ _ _)) (by simp only [List.length_map, List.length_cons, List.length_nil]; omega)) | exact Sy.szLe' (Nat.le_trans (Nat.add_le_add (Sy.cutL_le _ _ _) (Nat.le_refl _)) (by simp only [List.length_map, List.length_cons, List.length_nil]; omega)) | exact ⟨rfl, Nat.le_of_ble_eq_true rfl, by decide +kernel⟩ | (refine ⟨?_, ?_, ?_⟩ <;> decide +kernel))
        obtain ⟨nm, hnm, e⟩ := atI_ge (xs := ns) (i := 3 + 4 * (0 + (i : Int)) + ((0 + j : Nat) : Int)) (by omega) (by omega)
        refine one?.yes ((atI_map D.str ns _).trans (congrArg _ e)) ?_
        repeat' ((conv => whnf); first | ((with_reducible apply Sy.one?.yes); (· first | exact rfl | ((conv => lhs; whnf); first | with_reducible exact Sy.strsD_map _ | with_reducible exact Vy.blsD_rep _ _))) | ((with_reducible apply Sy.both.yes); (· exact rfl); (· exact rfl)) | (with_reducible apply Sy.both.els) | ((refine Vy.Got.here ?_ ?_); (· first | with_reducible rfl | decide +kernel)) | ((refine Vy.Got.next ?_ ?_); (· decide +kernel)) | ((with_reducible refine Sy.IfB.t ?_ ?_); (· first | with_reducible rfl | decide +kernel)) | ((with_reducible refine Sy.IfB.f ?_ ?_); (· first | with_reducible rfl | decide +kernel)) | (with_reducible refine Sy.IfB.mk (fun _ => ?_) (fun _ => ?_)) | ((with_reducible apply Vy.mkT.yes); (· exact rfl)) | (with_reducible apply Vy.mkT.els) | ((with_reducible apply Vy.mkL.yes); (· exact rfl)) | (with_reducible apply Vy.mkL.els) | ((with_reducible apply Vy.eqOp.sc); (· exact rfl); (· exact rfl); (· exact rfl)) | ((with_reducible refine Vy.SetAt.di ?_); show Sy.one? _ _) | ((with_reducible refine Vy.SetAt.ls ?_); show Sy.one? _ _) | (with_reducible refine And.intro (Sy.Hold.out ?_) ?_))
        all_goals try (refine Sy.Hold.mk ?_; first | exact trivial | exact rfl | exact Sy.mulA (by omega) (by omega) | exact Sy.mulB (by omega) (by omega) | exact Sy.divA (by omega) (by omega) | exact Sy.smlA (by omega) (by omega) | exact Sy.szLt rfl | exact Sy.szLe rfl | exact Sy.szLe' (by omega) | exact ⟨by omega, by omega⟩ | (rw [List.length_map]; exact Sy.szLt' (by omega)) | (show (0 : Int) < _; first | omega | decide +kernel) | decide +kernel | (simp only [Vy.e_len, Vy.q_len, Vy.x_len, Vy.z_len, Vy.one_len, strLen_append, Sy.repS_len, List.length_map, List.length_append, List.length_cons, List.length_nil]; first | omega | exact Sy.szLe' (by omega) | exact Sy.szLt' (by omega) | exact Vy.cut_add (Sy.szLe' (by omega)) | exact Vy.add_cut (Sy.szLe' (by omega)) | exact Vy.cut_add (Vy.add_cut (Sy.szLe' (by omega)))) | exact ⟨by omega, by omega, by simp only [Vy.e_len, Vy.q_len, Vy.x_len, Vy.z_len, Vy.one_len]; omega, by simp only [Vy.e_len, Vy.q_len, Vy.x_len, Vy.z_len, Vy.one_len]; omega⟩ | exact Sy.szLe' (Nat.le_trans (Nat.add_le_add (Sy.cutL_le _ _ _) (Sy.cutL_le _ _ _)) (by simp only [List.length_map]; omega)) | exact Vy.flat_strs _ | exact Sy.szLe' (Nat.le_trans (Nat.add_le_add (Nat.le_refl _) (Sy.cutL_le _ _ _)) (by simp only [List.length_map, List.length_cons, List.length_nil]; omega)) | exact Sy.szLe' (Nat.le_trans (Nat.add_le_add (Sy.cutL_le _ _ _) (Nat.le_refl _)) (by simp only [List.length_map, List.length_cons, List.length_nil]; omega)) | exact ⟨rfl, Nat.le_of_ble_eq_true rfl, by decide +kernel⟩ | (refine ⟨?_, ?_, ?_⟩ <;> decide +kernel))
        refine ⟨4, rfl, ⟨by omega, by omega⟩, fun r3 h8 h9 => ?_⟩
        repeat' ((conv => whnf); first | ((with_reducible apply Sy.one?.yes); (· first | exact rfl | ((conv => lhs; whnf); first | with_reducible exact Sy.strsD_map _ | with_reducible exact Vy.blsD_rep _ _))) | ((with_reducible apply Sy.both.yes); (· exact rfl); (· exact rfl)) | (with_reducible apply Sy.both.els) | ((refine Vy.Got.here ?_ ?_); (· first | with_reducible rfl | decide +kernel)) | ((refine Vy.Got.next ?_ ?_); (· decide +kernel)) | ((with_reducible refine Sy.IfB.t ?_ ?_); (· first | with_reducible rfl | decide +kernel)) | ((with_reducible refine Sy.IfB.f ?_ ?_); (· first | with_reducible rfl | decide +kernel)) | (with_reducible refine Sy.IfB.mk (fun _ => ?_) (fun _ => ?_)) | ((with_reducible apply Vy.mkT.yes); (· exact rfl)) | (with_reducible apply Vy.mkT.els) | ((with_reducible apply Vy.mkL.yes); (· exact rfl)) | (with_reducible apply Vy.mkL.els) | ((with_reducible apply Vy.eqOp.sc); (· exact rfl); (· exact rfl); (· exact rfl)) | ((with_reducible refine Vy.SetAt.di ?_); show Sy.one? _ _) | ((with_reducible refine Vy.SetAt.ls ?_); show Sy.one? _ _) | (with_reducible refine And.intro (Sy.Hold.out ?_) ?_))
        all_goals try (refine Sy.Hold.mk ?_; first | exact trivial | exact rfl | exact Sy.mulA (by omega) (by omega) | exact Sy.mulB (by omega) (by omega) | exact Sy.divA (by omega) (by omega) | exact Sy.smlA (by omega) (by omega) | exact Sy.szLt rfl | exact Sy.szLe rfl | exact Sy.szLe' (by omega) | exact ⟨by omega, by omega⟩ | (rw [List.length_map]; exact Sy.szLt' (by omega)) | (show (0 : Int) < _; first | omega | decide +kernel) | decide +kernel | (simp only [Vy.e_len, Vy.q_len, Vy.x_len, Vy.z_len, Vy.one_len, strLen_append, Sy.repS_len, List.length_map, List.length_append, List.length_cons, List.length_nil]; first | omega | exact Sy.szLe' (by omega) | exact Sy.szLt' (by omega) | exact Vy.cut_add (Sy.szLe' (by omega)) | exact Vy.add_cut (Sy.szLe' (by omega)) | exact Vy.cut_add (Vy.add_cut (Sy.szLe' (by omega)))) | exact ⟨by omega, by omega, by simp only [Vy.e_len, Vy.q_len, Vy.x_len, Vy.z_len, Vy.one_len]; omega, by simp only [Vy.e_len, Vy.q_len, Vy.x_len, Vy.z_len, Vy.one_len]; omega⟩ | exact Sy.szLe' (Nat.le_trans (Nat.add_le_add (Sy.cutL_le _ _ _) (Sy.cutL_le _ _ _)) (by simp only [List.length_map]; omega)) | exact Vy.flat_strs _ | exact Sy.szLe' (Nat.le_trans (Nat.add_le_add (Nat.le_refl _) (Sy.cutL_le _ _ _)) (by simp only [List.length_map, List.length_cons, List.length_nil]; omega)) | exact Sy.szLe' (Nat.le_trans (Nat.add_le_add (Sy.cutL_le _ _ _) (Nat.le_refl _)) (by simp only [List.length_map, List.length_cons, List.length_nil]; omega)) | exact ⟨rfl, Nat.le_of_ble_eq_true rfl, by decide +kernel⟩ | (refine ⟨?_, ?_, ?_⟩ <;> decide +kernel))
        exact LcP.snoc (nm, r3, o) hl2 hP2 rfl rfl ⟨hns _ (List.mem_of_getElem? hnm), h8, by show r3 ≤ 3; omega⟩
      · obtain ⟨rfl, bs, rfl, hl2, hP2⟩ := hJ
        rw [numbered_len, List.length_map] at hl2
        obtain ⟨nm, hnm, e⟩ := atI_ge (xs := ns) (i := 0 + (i : Int)) (by omega) (by omega)
        repeat' ((conv => whnf); first | ((with_reducible apply Sy.one?.yes); (· first | exact rfl | ((conv => lhs; whnf); first | with_reducible exact Sy.strsD_map _ | with_reducible exact Vy.blsD_rep _ _))) | ((with_reducible apply Sy.both.yes); (· exact rfl); (· exact rfl)) | (with_reducible apply Sy.both.els) | ((refine Vy.Got.here ?_ ?_); (· first | with_reducible rfl | decide +kernel)) | ((refine Vy.Got.next ?_ ?_); (· decide +kernel)) | ((with_reducible refine Sy.IfB.t ?_ ?_); (· first | with_reducible rfl | decide +kernel)) | ((with_reducible refine Sy.IfB.f ?_ ?_); (· first | with_reducible rfl | decide +kernel)) | (with_reducible refine Sy.IfB.mk (fun _ => ?_) (fun _ => ?_)) | ((with_reducible apply Vy.mkT.yes); (· exact rfl)) | (with_reducible apply Vy.mkT.els) | ((with_reducible apply Vy.mkL.yes); (· exact rfl)) | (with_reducible apply Vy.mkL.els) | ((with_reducible apply Vy.eqOp.sc); (· exact rfl); (· exact rfl); (· exact rfl)) | ((with_reducible refine Vy.SetAt.di ?_); show Sy.one? _ _) | ((with_reducible refine Vy.SetAt.ls ?_); show Sy.one? _ _) | (with_reducible refine And.intro (Sy.Hold.out ?_) ?_))
        all_goals try (refine Sy.Hold.mk ?_; first | exact trivial | exact rfl | exact Sy.mulA (by omega) (by omega) | exact Sy.mulB (by omega) (by omega) | exact Sy.divA (by omega) (by omega) | exact Sy.smlA (by omega) (by omega) | exact Sy.szLt rfl | exact Sy.szLe rfl | exact Sy.szLe' (by omega) | exact ⟨by omega, by omega⟩ | (rw [List.length_map]; exact Sy.szLt' (by omega)) | (show (0 : Int) < _; first | omega | decide +kernel) | decide +kernel | (simp only [Vy.e_len, Vy.q_len, Vy.x_len, Vy.z_len, Vy.one_len, strLen_append, Sy.repS_len, List.length_map, List.length_append, List.length_cons, List.length_nil]; first | omega | exact Sy.szLe' (by omega) | exact Sy.szLt' (by omega) | exact Vy.cut_add (Sy.szLe' (by omega)) | exact Vy.add_cut (Sy.szLe' (by omega)) | exact Vy.cut_add (Vy.add_cut (Sy.szLe' (by omega)))) | exact ⟨by omega, by omega, by simp only [Vy.e_len, Vy.q_len, Vy.x_len, Vy.z_len, Vy.one_len]; omega, by simp only [Vy.e_len, Vy.q_len, Vy.x_len, Vy.z_len, Vy.one_len]; omega⟩ | exact Sy.szLe' (Nat.le_trans (Nat.add_le_add (Sy.cutL_le _ _ _) (Sy.cutL_le _ _ _)) (by simp only [List.length_map]; omega)) | exact Vy.flat_strs _ | exact Sy.szLe' (Nat.le_trans (Nat.add_le_add (Nat.le_refl _) (Sy.cutL_le _ _ _)) (by simp only [List.length_map, List.length_cons, List.length_nil]; omega)) | exact Sy.szLe' (Nat.le_trans (Nat.add_le_add (Sy.cutL_le _ _ _) (Nat.le_refl _)) (by simp only [List.length_map, List.length_cons, List.length_nil]; omega)) | exact ⟨rfl, Nat.le_of_ble_eq_true rfl, by decide +kernel⟩ | (refine ⟨?_, ?_, ?_⟩ <;> decide +kernel))
        refine one?.yes ((atI_map D.str ns _).trans (congrArg _ e)) ?_
        repeat' ((conv => whnf); first | ((with_reducible apply Sy.one?.yes); (· first | exact rfl | ((conv => lhs; whnf); first | with_reducible exact Sy.strsD_map _ | with_reducible exact Vy.blsD_rep _ _))) | ((with_reducible apply Sy.both.yes); (· exact rfl); (· exact rfl)) | (with_reducible apply Sy.both.els) | ((refine Vy.Got.here ?_ ?_); (· first | with_reducible rfl | decide +kernel)) | ((refine Vy.Got.next ?_ ?_); (· decide +kernel)) | ((with_reducible refine Sy.IfB.t ?_ ?_); (· first | with_reducible rfl | decide +kernel)) | ((with_reducible refine Sy.IfB.f ?_ ?_); (· first | with_reducible rfl | decide +kernel)) | (with_reducible refine Sy.IfB.mk (fun _ => ?_) (fun _ => ?_)) | ((with_reducible apply Vy.mkT.yes); (· exact rfl)) | (with_reducible apply Vy.mkT.els) | ((with_reducible apply Vy.mkL.yes); (· exact rfl)) | (with_reducible apply Vy.mkL.els) | ((with_reducible apply Vy.eqOp.sc); (· exact rfl); (· exact rfl); (· exact rfl)) | ((with_reducible refine Vy.SetAt.di ?_); show Sy.one? _ _) | ((with_reducible refine Vy.SetAt.ls ?_); show Sy.one? _ _) | (with_reducible refine And.intro (Sy.Hold.out ?_) ?_))
        all_goals try (refine Sy.Hold.mk ?_; first | exact trivial | exact rfl | exact Sy.mulA (by omega) (by omega) | exact Sy.mulB (by omega) (by omega) | exact Sy.divA (by omega) (by omega) | exact Sy.smlA (by omega) (by omega) | exact Sy.szLt rfl | exact Sy.szLe rfl | exact Sy.szLe' (by omega) | exact ⟨by omega, by omega⟩ | (rw [List.length_map]; exact Sy.szLt' (by omega)) | (show (0 : Int) < _; first | omega | decide +kernel) | decide +kernel | (simp only [Vy.e_len, Vy.q_len, Vy.x_len, Vy.z_len, Vy.one_len, strLen_append, Sy.repS_len, List.length_map, List.length_append, List.length_cons, List.length_nil]; first | omega | exact Sy.szLe' (by omega) | exact Sy.szLt' (by omega) | exact Vy.cut_add (Sy.szLe' (by omega)) | exact Vy.add_cut (Sy.szLe' (by omega)) | exact Vy.cut_add (Vy.add_cut (Sy.szLe' (by omega)))) | exact ⟨by omega, by omega, by simp only [Vy.e_len, Vy.q_len, Vy.x_len, Vy.z_len, Vy.one_len]; omega, by simp only [Vy.e_len, Vy.q_len, Vy.x_len, Vy.z_len, Vy.one_len]; omega⟩ | exact Sy.szLe' (Nat.le_trans (Nat.add_le_add (Sy.cutL_le _ _ _) (Sy.cutL_le _ _ _)) (by simp only [List.length_map]; omega)) | exact Vy.flat_strs _ | exact Sy.szLe' (Nat.le_trans (Nat.add_le_add (Nat.le_refl _) (Sy.cutL_le _ _ _)) (by simp only [List.length_map, List.length_cons, List.length_nil]; omega)) | exact Sy.szLe' (Nat.le_trans (Nat.add_le_add (Sy.cutL_le _ _ _) (Nat.le_refl _)) (by simp only [List.length_map, List.length_cons, List.length_nil]; omega)) | exact ⟨rfl, Nat.le_of_ble_eq_true rfl, by decide +kernel⟩ | (refine ⟨?_, ?_, ?_⟩ <;> decide +kernel))
        exact .now ⟨shs ++ [(nm, bs)], _, _, _, _, by rw [List.map_append]; rfl, by rw [List.length_append, hul]; rfl, snoc_all hus ⟨hns _ (List.mem_of_getElem? hnm), ⟨by show 2 ≤ bs.length; omega, by show bs.length ≤ 4; omega⟩, all_of hP2⟩⟩
  · obtain ⟨shs, u1, u2, u3, u4, rfl, hul, hus⟩ := hI
    rw [rng_len] at hul
    repeat' ((conv => whnf); first | ((with_reducible apply Sy.one?.yes); (· first | exact rfl | ((conv => lhs; whnf); first | with_reducible exact Sy.strsD_map _ | with_reducible exact Vy.blsD_rep _ _))) | ((with_reducible apply Sy.both.yes); (· exact rfl); (· exact rfl)) | (with_reducible apply Sy.both.els) | ((refine Vy.Got.here ?_ ?_); (· first | with_reducible rfl | decide +kernel)) | ((refine Vy.Got.next ?_ ?_); (· decide +kernel)) | ((with_reducible refine Sy.IfB.t ?_ ?_); (· first | with_reducible rfl | decide +kernel)) | ((with_reducible refine Sy.IfB.f ?_ ?_); (· first | with_reducible rfl | decide +kernel)) | (with_reducible refine Sy.IfB.mk (fun _ => ?_) (fun _ => ?_)) | ((with_reducible apply Vy.mkT.yes); (· exact rfl)) | (with_reducible apply Vy.mkT.els) | ((with_reducible apply Vy.mkL.yes); (· exact rfl)) | (with_reducible apply Vy.mkL.els) | ((with_reducible apply Vy.eqOp.sc); (· exact rfl); (· exact rfl); (· exact rfl)) | ((with_reducible refine Vy.SetAt.di ?_); show Sy.one? _ _) | ((with_reducible refine Vy.SetAt.ls ?_); show Sy.one? _ _) | (with_reducible refine And.intro (Sy.Hold.out ?_) ?_))
    all_goals try (refine Sy.Hold.mk ?_; first | exact trivial | exact rfl | exact Sy.mulA (by omega) (by omega) | exact Sy.mulB (by omega) (by omega) | exact Sy.divA (by omega) (by omega) | exact Sy.smlA (by omega) (by omega) | exact Sy.szLt rfl | exact Sy.szLe rfl | exact Sy.szLe' (by omega) | exact ⟨by omega, by omega⟩ | (rw [List.length_map]; exact Sy.szLt' (by omega)) | (show (0 : Int) < _; first | omega | decide +kernel) | decide +kernel | (simp only [Vy.e_len, Vy.q_len, Vy.x_len, Vy.z_len, Vy.one_len, strLen_append, Sy.repS_len, List.length_map, List.length_append, List.length_cons, List.length_nil]; first | omega | exact Sy.szLe' (by omega) | exact Sy.szLt' (by omega) | exact Vy.cut_add (Sy.szLe' (by omega)) | exact Vy.add_cut (Sy.szLe' (by omega)) | exact Vy.cut_add (Vy.add_cut (Sy.szLe' (by omega)))) | exact ⟨by omega, by omega, by simp only [Vy.e_len, Vy.q_len, Vy.x_len, Vy.z_len, Vy.one_len]; omega, by simp only [Vy.e_len, Vy.q_len, Vy.x_len, Vy.z_len, Vy.one_len]; omega⟩ | exact Sy.szLe' (Nat.le_trans (Nat.add_le_add (Sy.cutL_le _ _ _) (Sy.cutL_le _ _ _)) (by simp only [List.length_map]; omega)) | exact Vy.flat_strs _ | exact Sy.szLe' (Nat.le_trans (Nat.add_le_add (Nat.le_refl _) (Sy.cutL_le _ _ _)) (by simp only [List.length_map, List.length_cons, List.length_nil]; omega)) | exact Sy.szLe' (Nat.le_trans (Nat.add_le_add (Sy.cutL_le _ _ _) (Nat.le_refl _)) (by simp only [List.length_map, List.length_cons, List.length_nil]; omega)) | exact ⟨rfl, Nat.le_of_ble_eq_true rfl, by decide +kernel⟩ | (refine ⟨?_, ?_, ?_⟩ <;> decide +kernel))
    exact hQ shs (by omega) (by omega) hus
end
end K03
namespace K03
open PySem PySem.Spec PyProof.Rows L2
section
open Vy
open Sy (D one? both IfB cOk cOk_cut cOk_app cOk_rep cOk_one cOk_joinT cOk_dec repS repS_len snoc_str cutL mem_cutL cutL_le cutL_map)
variable {P : Program} {w : World} {K : PySem.W.Frag} {mg : Str → Option Value} {base : Heap}
def findB : Nat → List Bead → Str → Option (Nat × Bead)
  | _, [], _ => none
  | k, b :: r, nm => if b.1 = nm then some (k, b) else findB (k + 1) r nm
def beadT (s : Str) (k : Nat) (b : Bead) : D := .tup [.str s, .int (k : Int), .int b.2.1, .bl b.2.2]
def beadOf : List Shape → Str → D
  | [], _ => .non
  | s :: r, nm => match findB 0 s.2 nm with
    | some p => beadT s.1 p.1 p.2
    | none => beadOf r nm
theorem drop_at {α : Type} {xs : List α} {i : Nat} {x : α} (h : xs[i]? = some x) : xs.drop i = x :: xs.drop (i + 1) := by
  obtain ⟨hl, rfl⟩ := List.getElem?_eq_some_iff.mp h
  exact List.drop_eq_getElem_cons hl
theorem beadOf_some {s : Shape} {r : List Shape} {nm : Str} {p : Nat × Bead} (h : findB 0 s.2 nm = some p) : beadOf (s :: r) nm = beadT s.1 p.1 p.2 := by
  unfold beadOf; rw [h]
theorem beadOf_none {s : Shape} {r : List Shape} {nm : Str} (h : findB 0 s.2 nm = none) : beadOf (s :: r) nm = beadOf r nm := by
  conv => lhs; unfold beadOf
  rw [h]
def vBeadOf : Vy.PR := fun ds Q => ∃ (shs : List Shape) (nm : Str), ds = [.tup (shs.map shD), .str nm] ∧ Q (.d (beadOf shs nm))
theorem ok_beadof (T : Tx K mg) : FnV P w K mg base 1 T.bead_of_f T.bead_of_fd ["shapes", "name"] (spV K (cP vBeadOf)) := by
  refine fnP ret1F T.bead_of_F sc_bead_of (fun ds Q h => by first | (obtain ⟨rfl, _⟩ := h; rfl) | (obtain ⟨_, rfl, _⟩ := h; rfl) | (obtain ⟨_, _, rfl, _⟩ := h; rfl) | (obtain ⟨_, _, _, rfl, _⟩ := h; rfl) | (obtain ⟨_, _, _, _, rfl, _⟩ := h; rfl)) fun cdv A outer sh H E hr free ds Q hC => ?_
  have hu := hr.units
  have hu1 := hu_of hr
  refine ⟨_, (vb_cons (vs_for (passes_of rfl) rfl (vi_seq (ve_var 0)) (vg_tup (n := 2) rfl (vgs_cons (vg_name (i := 2) sc_bead_of.nd rfl (by first | exact Or.inl rfl | exact Or.inr rfl) rfl) (vgs_cons (vg_name (i := 3) sc_bead_of.nd rfl (by first | exact Or.inl rfl | exact Or.inr rfl) rfl) vgs_nil))) (vb_one (vs_for (passes_of rfl) rfl (vi_enum rfl T.z_enumerate (ve_var 3)) (vg_tup (n := 2) rfl (vgs_cons (vg_name (i := 4) sc_bead_of.nd rfl (by first | exact Or.inl rfl | exact Or.inr rfl) rfl) (vgs_cons (vg_tup (n := 3) rfl (vgs_cons (vg_name (i := 5) sc_bead_of.nd rfl (by first | exact Or.inl rfl | exact Or.inr rfl) rfl) (vgs_cons (vg_name (i := 6) sc_bead_of.nd rfl (by first | exact Or.inl rfl | exact Or.inr rfl) rfl) (vgs_cons (vg_name (i := 7) sc_bead_of.nd rfl (by first | exact Or.inl rfl | exact Or.inr rfl) rfl) vgs_nil)))) vgs_nil))) (vb_one (vs_if (vt_cmp (ov_eq hu) (ve_var 5) (ve_var 1) (nomark _)) (vb_one (vs_ret (ve_tup (va_cons (ve_var 2) (va_cons (ve_var 4) (va_cons (ve_var 6) (va_cons (ve_var 7) va_nil))))))) vb_nil)))))
  (vb_one (vs_ret ve_non))), ?_⟩
  obtain ⟨shs, nm, rfl, hQ⟩ := hC
  repeat' ((conv => whnf); first | ((with_reducible apply Sy.one?.yes); (· first | exact rfl | ((conv => lhs; whnf); first | with_reducible exact Sy.strsD_map _ | with_reducible exact Vy.blsD_rep _ _))) | ((with_reducible apply Sy.both.yes); (· exact rfl); (· exact rfl)) | (with_reducible apply Sy.both.els) | ((refine Vy.Got.here ?_ ?_); (· first | with_reducible rfl | decide +kernel)) | ((refine Vy.Got.next ?_ ?_); (· decide +kernel)) | ((with_reducible refine Sy.IfB.t ?_ ?_); (· first | with_reducible rfl | decide +kernel)) | ((with_reducible refine Sy.IfB.f ?_ ?_); (· first | with_reducible rfl | decide +kernel)) | (with_reducible refine Sy.IfB.mk (fun _ => ?_) (fun _ => ?_)) | ((with_reducible apply Vy.mkT.yes); (· exact rfl)) | (with_reducible apply Vy.mkT.els) | ((with_reducible apply Vy.mkL.yes); (· exact rfl)) | (with_reducible apply Vy.mkL.els) | ((with_reducible apply Vy.eqOp.sc); (· exact rfl); (· exact rfl); (· exact rfl)) | ((with_reducible refine Vy.SetAt.di ?_); show Sy.one? _ _) | ((with_reducible refine Vy.SetAt.ls ?_); show Sy.one? _ _) | (with_reducible refine And.intro (Sy.Hold.out ?_) ?_))
  all_goals try (refine Sy.Hold.mk ?_; first | exact trivial | exact rfl | exact Sy.mulA (by omega) (by omega) | exact Sy.mulB (by omega) (by omega) | exact Sy.divA (by omega) (by omega) | exact Sy.smlA (by omega) (by omega) | exact Sy.szLt rfl | exact Sy.szLe rfl | exact Sy.szLe' (by omega) | exact ⟨by omega, by omega⟩ | (rw [List.length_map]; exact Sy.szLt' (by omega)) | (show (0 : Int) < _; first | omega | decide +kernel) | decide +kernel | (simp only [Vy.e_len, Vy.q_len, Vy.x_len, Vy.z_len, Vy.one_len, strLen_append, Sy.repS_len, List.length_map, List.length_append, List.length_cons, List.length_nil]; first | omega | exact Sy.szLe' (by omega) | exact Sy.szLt' (by omega) | exact Vy.cut_add (Sy.szLe' (by omega)) | exact Vy.add_cut (Sy.szLe' (by omega)) | exact Vy.cut_add (Vy.add_cut (Sy.szLe' (by omega)))) | exact ⟨by omega, by omega, by simp only [Vy.e_len, Vy.q_len, Vy.x_len, Vy.z_len, Vy.one_len]; omega, by simp only [Vy.e_len, Vy.q_len, Vy.x_len, Vy.z_len, Vy.one_len]; omega⟩ | exact Sy.szLe' (Nat.le_trans (Nat.add_le_add (Sy.cutL_le _ _ _) (Sy.cutL_le _ _ _)) (by simp only [List.length_map]; omega)) | exact Vy.flat_strs _ | exact Sy.szLe' (Nat.le_trans (Nat.add_le_add (Nat.le_refl _) (Sy.cutL_le _ _ _)) (by simp only [List.length_map, List.length_cons, List.length_nil]; omega)) | exact Sy.szLe' (Nat.le_trans (Nat.add_le_add (Sy.cutL_le _ _ _) (Nat.le_refl _)) (by simp only [List.length_map, List.length_cons, List.length_nil]; omega)) | exact ⟨rfl, Nat.le_of_ble_eq_true rfl, by decide +kernel⟩ | (refine ⟨?_, ?_, ?_⟩ <;> decide +kernel))
  refine loopI (fun E i en => ∃ (u_shape : Val) (u_beads : Val) (u_place : Val) (u_bead : Val) (u_many : Val) (u_is_open : Val), en = upds E [(2, u_shape), (3, u_beads), (4, u_place), (5, u_bead), (6, u_many), (7, u_is_open)] ∧ (beadOf (shs.drop i) nm = beadOf shs nm)) ⟨?_, fun i x en2 hx hI => ?_, fun en2 hI => ?_⟩
  · exact .now ⟨_, _, _, _, _, _, rfl, rfl⟩
  · obtain ⟨u1, u2, u3, u4, u5, u6, rfl, hb⟩ := hI
    obtain ⟨s, hs, rfl, _⟩ := map_get hx
    rw [drop_at hs] at hb
    repeat' ((conv => whnf); first | ((with_reducible apply Sy.one?.yes); (· first | exact rfl | ((conv => lhs; whnf); first | with_reducible exact Sy.strsD_map _ | with_reducible exact Vy.blsD_rep _ _))) | ((with_reducible apply Sy.both.yes); (· exact rfl); (· exact rfl)) | (with_reducible apply Sy.both.els) | ((refine Vy.Got.here ?_ ?_); (· first | with_reducible rfl | decide +kernel)) | ((refine Vy.Got.next ?_ ?_); (· decide +kernel)) | ((with_reducible refine Sy.IfB.t ?_ ?_); (· first | with_reducible rfl | decide +kernel)) | ((with_reducible refine Sy.IfB.f ?_ ?_); (· first | with_reducible rfl | decide +kernel)) | (with_reducible refine Sy.IfB.mk (fun _ => ?_) (fun _ => ?_)) | ((with_reducible apply Vy.mkT.yes); (· exact rfl)) | (with_reducible apply Vy.mkT.els) | ((with_reducible apply Vy.mkL.yes); (· exact rfl)) | (with_reducible apply Vy.mkL.els) | ((with_reducible apply Vy.eqOp.sc); (· exact rfl); (· exact rfl); (· exact rfl)) | ((with_reducible refine Vy.SetAt.di ?_); show Sy.one? _ _) | ((with_reducible refine Vy.SetAt.ls ?_); show Sy.one? _ _) | (with_reducible refine And.intro (Sy.Hold.out ?_) ?_))
    all_goals try (refine Sy.Hold.mk ?_; first | exact trivial | exact rfl | exact Sy.mulA (by omega) (by omega) | exact Sy.mulB (by omega) (by omega) | exact Sy.divA (by omega) (by omega) | exact Sy.smlA (by omega) (by omega) | exact Sy.szLt rfl | exact Sy.szLe rfl | exact Sy.szLe' (by omega) | exact ⟨by omega, by omega⟩ | (rw [List.length_map]; exact Sy.szLt' (by omega)) | (show (0 : Int) < _; first | omega | decide +kernel) | decide +kernel | (simp only [Vy.e_len, Vy.q_len, Vy.x_len, Vy.z_len, Vy.one_len, strLen_append, Sy.repS_len, List.length_map, List.length_append, List.length_cons, List.length_nil]; first | omega | exact Sy.szLe' (by omega) | exact Sy.szLt' (by omega) | exact Vy.cut_add (Sy.szLe' (by omega)) | exact Vy.add_cut (Sy.szLe' (by omega)) | exact Vy.cut_add (Vy.add_cut (Sy.szLe' (by omega)))) | exact ⟨by omega, by omega, by simp only [Vy.e_len, Vy.q_len, Vy.x_len, Vy.z_len, Vy.one_len]; omega, by simp only [Vy.e_len, Vy.q_len, Vy.x_len, Vy.z_len, Vy.one_len]; omega⟩ | exact Sy.szLe' (Nat.le_trans (Nat.add_le_add (Sy.cutL_le _ _ _) (Sy.cutL_le _ _ _)) (by simp only [List.length_map]; omega)) | exact Vy.flat_strs _ | exact Sy.szLe' (Nat.le_trans (Nat.add_le_add (Nat.le_refl _) (Sy.cutL_le _ _ _)) (by simp only [List.length_map, List.length_cons, List.length_nil]; omega)) | exact Sy.szLe' (Nat.le_trans (Nat.add_le_add (Sy.cutL_le _ _ _) (Nat.le_refl _)) (by simp only [List.length_map, List.length_cons, List.length_nil]; omega)) | exact ⟨rfl, Nat.le_of_ble_eq_true rfl, by decide +kernel⟩ | (refine ⟨?_, ?_, ?_⟩ <;> decide +kernel))
    refine loopI (fun E j en => ∃ (u_place : Val) (u_bead : Val) (u_many : Val) (u_is_open : Val), en = upds E [(4, u_place), (5, u_bead), (6, u_many), (7, u_is_open)] ∧ (findB j (s.2.drop j) nm = findB 0 s.2 nm)) ⟨?_, fun j y en3 hy hJ => ?_, fun en3 hJ => ?_⟩
    · exact .now ⟨_, _, _, _, rfl, rfl⟩
    · obtain ⟨v3, v4, v5, v6, rfl, hf⟩ := hJ
      obtain ⟨d, hd, rfl⟩ := numbered_get hy
      obtain ⟨b, hb', rfl, _⟩ := map_get hd
      rw [drop_at hb', Nat.zero_add] at *
      repeat' ((conv => whnf); first | ((with_reducible apply Sy.one?.yes); (· first | exact rfl | ((conv => lhs; whnf); first | with_reducible exact Sy.strsD_map _ | with_reducible exact Vy.blsD_rep _ _))) | ((with_reducible apply Sy.both.yes); (· exact rfl); (· exact rfl)) | (with_reducible apply Sy.both.els) | ((refine Vy.Got.here ?_ ?_); (· first | with_reducible rfl | decide +kernel)) | ((refine Vy.Got.next ?_ ?_); (· decide +kernel)) | ((with_reducible refine Sy.IfB.t ?_ ?_); (· first | with_reducible rfl | decide +kernel)) | ((with_reducible refine Sy.IfB.f ?_ ?_); (· first | with_reducible rfl | decide +kernel)) | (with_reducible refine Sy.IfB.mk (fun _ => ?_) (fun _ => ?_)) | ((with_reducible apply Vy.mkT.yes); (· exact rfl)) | (with_reducible apply Vy.mkT.els) | ((with_reducible apply Vy.mkL.yes); (· exact rfl)) | (with_reducible apply Vy.mkL.els) | ((with_reducible apply Vy.eqOp.sc); (· exact rfl); (· exact rfl); (· exact rfl)) | ((with_reducible refine Vy.SetAt.di ?_); show Sy.one? _ _) | ((with_reducible refine Vy.SetAt.ls ?_); show Sy.one? _ _) | (with_reducible refine And.intro (Sy.Hold.out ?_) ?_))
      all_goals try (refine Sy.Hold.mk ?_; first | exact trivial | exact rfl | exact Sy.mulA (by omega) (by omega) | exact Sy.mulB (by omega) (by omega) | exact Sy.divA (by omega) (by omega) | exact Sy.smlA (by omega) (by omega) | exact Sy.szLt rfl | exact Sy.szLe rfl | exact Sy.szLe' (by omega) | exact ⟨by omega, by omega⟩ | (rw [List.length_map]; exact Sy.szLt' (by omega)) | (show (0 : Int) < _; first | omega | decide +kernel) | decide +kernel | (simp only [Vy.e_len, Vy.q_len, Vy.x_len, Vy.z_len, Vy.one_len, strLen_append, Sy.repS_len, List.length_map, List.length_append, List.length_cons, List.length_nil]; first | omega | exact Sy.szLe' (by omega) | exact Sy.szLt' (by omega) | exact Vy.cut_add (Sy.szLe' (by omega)) | exact Vy.add_cut (Sy.szLe' (by omega)) | exact Vy.cut_add (Vy.add_cut (Sy.szLe' (by omega)))) | exact ⟨by omega, by omega, by simp only [Vy.e_len, Vy.q_len, Vy.x_len, Vy.z_len, Vy.one_len]; omega, by simp only [Vy.e_len, Vy.q_len, Vy.x_len, Vy.z_len, Vy.one_len]; omega⟩ | exact Sy.szLe' (Nat.le_trans (Nat.add_le_add (Sy.cutL_le _ _ _) (Sy.cutL_le _ _ _)) (by simp only [List.length_map]; omega)) | exact Vy.flat_strs _ | exact Sy.szLe' (Nat.le_trans (Nat.add_le_add (Nat.le_refl _) (Sy.cutL_le _ _ _)) (by simp only [List.length_map, List.length_cons, List.length_nil]; omega)) | exact Sy.szLe' (Nat.le_trans (Nat.add_le_add (Sy.cutL_le _ _ _) (Nat.le_refl _)) (by simp only [List.length_map, List.length_cons, List.length_nil]; omega)) | exact ⟨rfl, Nat.le_of_ble_eq_true rfl, by decide +kernel⟩ | (refine ⟨?_, ?_, ?_⟩ <;> decide +kernel))
      · rename_i he
        have he' := str_eq he
        rw [findB, if_pos he'] at hf
        rw [beadOf_some hf.symm] at hb
        rw [← hb] at hQ
        exact hQ
      · rename_i he
        have he' := str_ne he
        rw [findB, if_neg he'] at hf
        exact .now ⟨_, _, _, _, rfl, hf⟩
    · obtain ⟨v3, v4, v5, v6, rfl, hf⟩ := hJ
      rw [numbered_len, List.length_map, List.drop_length] at hf
      rw [beadOf_none hf.symm] at hb
      exact .now ⟨_, _, _, _, _, _, rfl, hb⟩
  · obtain ⟨u1, u2, u3, u4, u5, u6, rfl, hb⟩ := hI
    rw [List.length_map, List.drop_length] at hb
    repeat' ((conv => whnf); first | ((with_reducible apply Sy.one?.yes); (· first | exact rfl | ((conv => lhs; whnf); first | with_reducible exact Sy.strsD_map _ | with_reducible exact Vy.blsD_rep _ _))) | ((with_reducible apply Sy.both.yes); (· exact rfl); (· exact rfl)) | (with_reducible apply Sy.both.els) | ((refine Vy.Got.here ?_ ?_); (· first | with_reducible rfl | decide +kernel)) | ((refine Vy.Got.next ?_ ?_); (· decide +kernel)) | ((with_reducible refine Sy.IfB.t ?_ ?_); (· first | with_reducible rfl | decide +kernel)) | ((with_reducible refine Sy.IfB.f ?_ ?_); (· first | with_reducible rfl | decide +kernel)) | (with_reducible refine Sy.IfB.mk (fun _ => ?_) (fun _ => ?_)) | ((with_reducible apply Vy.mkT.yes); (· exact rfl)) | (with_reducible apply Vy.mkT.els) | ((with_reducible apply Vy.mkL.yes); (· exact rfl)) | (with_reducible apply Vy.mkL.els) | ((with_reducible apply Vy.eqOp.sc); (· exact rfl); (· exact rfl); (· exact rfl)) | ((with_reducible refine Vy.SetAt.di ?_); show Sy.one? _ _) | ((with_reducible refine Vy.SetAt.ls ?_); show Sy.one? _ _) | (with_reducible refine And.intro (Sy.Hold.out ?_) ?_))
    all_goals try (refine Sy.Hold.mk ?_; first | exact trivial | exact rfl | exact Sy.mulA (by omega) (by omega) | exact Sy.mulB (by omega) (by omega) | exact Sy.divA (by omega) (by omega) | exact Sy.smlA (by omega) (by omega) | exact Sy.szLt rfl | exact Sy.szLe rfl | exact Sy.szLe' (by omega) | exact ⟨by omega, by omega⟩ | (rw [List.length_map]; exact Sy.szLt' (by omega)) | (show (0 : Int) < _; first | omega | decide +kernel) | decide +kernel | (simp only [Vy.e_len, Vy.q_len, Vy.x_len, Vy.z_len, Vy.one_len, strLen_append, Sy.repS_len, List.length_map, List.length_append, List.length_cons, List.length_nil]; first | omega | exact Sy.szLe' (by omega) | exact Sy.szLt' (by omega) | exact Vy.cut_add (Sy.szLe' (by omega)) | exact Vy.add_cut (Sy.szLe' (by omega)) | exact Vy.cut_add (Vy.add_cut (Sy.szLe' (by omega)))) | exact ⟨by omega, by omega, by simp only [Vy.e_len, Vy.q_len, Vy.x_len, Vy.z_len, Vy.one_len]; omega, by simp only [Vy.e_len, Vy.q_len, Vy.x_len, Vy.z_len, Vy.one_len]; omega⟩ | exact Sy.szLe' (Nat.le_trans (Nat.add_le_add (Sy.cutL_le _ _ _) (Sy.cutL_le _ _ _)) (by simp only [List.length_map]; omega)) | exact Vy.flat_strs _ | exact Sy.szLe' (Nat.le_trans (Nat.add_le_add (Nat.le_refl _) (Sy.cutL_le _ _ _)) (by simp only [List.length_map, List.length_cons, List.length_nil]; omega)) | exact Sy.szLe' (Nat.le_trans (Nat.add_le_add (Sy.cutL_le _ _ _) (Nat.le_refl _)) (by simp only [List.length_map, List.length_cons, List.length_nil]; omega)) | exact ⟨rfl, Nat.le_of_ble_eq_true rfl, by decide +kernel⟩ | (refine ⟨?_, ?_, ?_⟩ <;> decide +kernel))
    rw [← hb] at hQ
    exact hQ
end
end K03
namespace K03
open PySem PySem.Spec PyProof.Rows L2
section
open Vy
open Sy (D one? both IfB cOk cOk_cut cOk_app cOk_rep cOk_one cOk_joinT cOk_dec repS repS_len snoc_str cutL mem_cutL cutL_le cutL_map)
variable {P : Program} {w : World} {K : PySem.W.Frag} {mg : Str → Option Value} {base : Heap}
theorem bD_wf {b : Bead} (h : BeadP b) : Wf 1 150 (bD b) := by
  obtain ⟨⟨⟨_, h8⟩, hl, _⟩, h0, h3⟩ := h
  exact .tup (m := 82 + (25 + (5 + 0 + 2) + 2) + 2) (.cons (a := 82) (.str (low_ok hl) (by omega)) (.cons (a := 25) (.int (by omega) (by omega) (by omega)) (.cons (a := 5) (.bl (by omega)) .nil (Nat.le_refl _)) (Nat.le_refl _)) (Nat.le_refl _)) (by omega)
theorem shD_wf {s : Shape} (h : ShapeP s) : Wf 3 1000 (shD s) := by
  obtain ⟨⟨⟨_, h8⟩, hl, _⟩, ⟨h2, h4⟩, hb⟩ := h
  exact .tup (k := 2) (m := 82 + (700 + 0 + 2) + 2) (.cons (a := 82) (.str (low_ok hl) (by omega)) (.cons (a := 700) (.tup (k := 1) (m := 608) (.map (c := 150) (fun b m => bD_wf (hb b m)) (by omega)) (by omega)) .nil (Nat.le_refl _)) (Nat.le_refl _)) (by omega)
theorem beadT_wf {s : Str} {k : Nat} {b : Bead} (hs : NameP s) (hk : k ≤ 1000) (h : BeadP b) : Wf 1 300 (beadT s k b) := by
  obtain ⟨⟨_, h8⟩, hl, _⟩ := hs
  obtain ⟨_, h0, h3⟩ := h
  exact .tup (m := 82 + (25 + (25 + (5 + 0 + 2) + 2) + 2) + 2) (.cons (a := 82) (.str (low_ok hl) (by omega)) (.cons (a := 25) (.int (by omega) (by omega) (by omega)) (.cons (a := 25) (.int (by omega) (by omega) (by omega)) (.cons (a := 5) (.bl (by omega)) .nil (Nat.le_refl _)) (Nat.le_refl _)) (Nat.le_refl _)) (Nat.le_refl _)) (by omega)
theorem findB_mem : ∀ {bs : List Bead} {k : Nat} {nm : Str} {p : Nat × Bead}, findB k bs nm = some p → p.2 ∈ bs ∧ p.1 < k + bs.length ∧ k ≤ p.1 ∧ bs[p.1 - k]? = some p.2 ∧ p.2.1 = nm
  | [], k, nm, p, h => by cases h
  | b :: r, k, nm, p, h => by
    unfold findB at h
    by_cases e : b.1 = nm
    · rw [if_pos e] at h; cases h
      exact ⟨by simp, by simp, Nat.le_refl _, by simp, e⟩
    · rw [if_neg e] at h
      obtain ⟨h1, h2, h3, h4, h5⟩ := findB_mem h
      refine ⟨by simp [h1], by rw [List.length_cons]; omega, by omega, ?_, h5⟩
      rw [show p.1 - k = (p.1 - (k + 1)) + 1 by omega]
      exact h4
theorem findB_none {bs : List Bead} {k : Nat} {nm : Str} : findB k bs nm = none ↔ nm ∉ bs.map (·.1) := by
  induction bs generalizing k with
  | nil => simp [findB]
  | cons b r ih =>
    unfold findB
    by_cases e : b.1 = nm
    · rw [if_pos e]; simp [e]
    · rw [if_neg e, ih]
      simp only [List.map_cons, List.mem_cons, not_or]
      exact ⟨fun h => ⟨fun z => e z.symm, h⟩, fun h => h.2⟩
theorem idx_find : ∀ {bs : List Bead} {k : Nat} {nm : Str} {p : Nat × Bead}, findB k bs nm = some p → Sy.idxS nm (bs.map (·.1)) = some (p.1 - k)
  | [], k, nm, p, h => by cases h
  | b :: r, k, nm, p, h => by
    have hm := findB_mem h
    unfold findB at h
    rw [List.map_cons]
    unfold Sy.idxS
    by_cases e : b.1 = nm
    · rw [if_pos e] at h; cases h
      rw [eqV_str, if_pos (decide_eq_true e), Nat.sub_self]
    · rw [if_neg e] at h
      rw [eqV_str, if_neg (by simp [e]), idx_find h]
      have := findB_mem h
      show some (p.1 - (k + 1) + 1) = _
      congr 1; omega
def vDue : Vy.PR := fun ds Q => ∃ (shs : List Shape) (nm : Str), ds = [.tup (shs.map shD), .str nm] ∧ (shs.length ≤ 3 ∧ ∀ s ∈ shs, ShapeP s) ∧ Q (.d (beadOf shs nm))
abbrev hasB (nm : Str) (s : Shape) : Bool := decide (nm ∈ s.2.map (·.1))
theorem beadOf_filter : ∀ {shs : List Shape} {nm : Str}, (shs.filter (hasB nm) = [] → beadOf shs nm = .non) ∧ ∀ f r, shs.filter (hasB nm) = f :: r → f ∈ shs ∧ ∃ p, findB 0 f.2 nm = some p ∧ beadOf shs nm = beadT f.1 p.1 p.2
  | [], nm => ⟨fun _ => rfl, (fun f r h => nomatch h)⟩
  | s :: r, nm => by
    obtain ⟨ih1, ih2⟩ := @beadOf_filter r nm
    by_cases h : nm ∈ s.2.map (·.1)
    · have e : (s :: r).filter (hasB nm) = s :: r.filter (hasB nm) := List.filter_cons_of_pos (by simpa [hasB] using h)
      rw [e]
      refine ⟨(fun z => nomatch z), fun f q z => ?_⟩
      cases z
      cases hf : findB 0 s.2 nm with
      | none => exact absurd h (findB_none.mp hf)
      | some p => exact ⟨by simp, p, rfl, beadOf_some hf⟩
    · have e : (s :: r).filter (hasB nm) = r.filter (hasB nm) := List.filter_cons_of_neg (by simpa [hasB] using h)
      rw [e, beadOf_none (findB_none.mpr h)]
      exact ⟨ih1, fun f q z => ⟨List.mem_cons_of_mem _ (ih2 f q z).1, (ih2 f q z).2⟩⟩
theorem take_at {α : Type} {xs : List α} {i : Nat} {x : α} (h : xs[i]? = some x) : xs.take (i + 1) = xs.take i ++ [x] := by
  rw [List.take_succ, h]; rfl
theorem filt_t {shs : List Shape} {i : Nat} {s : Shape} {nm : Str} (h : shs[i]? = some s) (hm : nm ∈ s.2.map (·.1)) : ((shs.take (i + 1)).filter (hasB nm)).map shD = ((shs.take i).filter (hasB nm)).map shD ++ [shD s] := by
  rw [take_at h, List.filter_append, List.map_append]
  have : [s].filter (hasB nm) = [s] := List.filter_cons_of_pos (by simpa [hasB] using hm)
  rw [this]; rfl
theorem filt_f {shs : List Shape} {i : Nat} {s : Shape} {nm : Str} (h : shs[i]? = some s) (hm : nm ∉ s.2.map (·.1)) : ((shs.take (i + 1)).filter (hasB nm)).map shD = ((shs.take i).filter (hasB nm)).map shD := by
  rw [take_at h, List.filter_append, List.map_append]
  have : [s].filter (hasB nm) = [] := List.filter_cons_of_neg (by simpa [hasB] using hm)
  rw [this]; simp
theorem ext_of {α : Type} {as l : List α} (hl : as.length = l.length) (h : ∀ (j : Nat) (a : α), as[j]? = some a → l[j]? = some a) : as = l := by
  refine List.ext_getElem? fun j => ?_
  by_cases hj : j < as.length
  · have e := List.getElem?_eq_getElem hj
    rw [h j _ e, e]
  · rw [List.getElem?_eq_none (by omega), List.getElem?_eq_none (by omega)]
theorem ok_due (T : Tx K mg) : FnV P w K mg base 1 T._law_due_f T._law_due_fd ["_law_shapes_here", "_law_name_here"] (spV K (cP vDue)) := by
  refine fnP ret1F T._law_due_F sc__law_due (fun ds Q h => by first | (obtain ⟨rfl, _⟩ := h; rfl) | (obtain ⟨_, rfl, _⟩ := h; rfl) | (obtain ⟨_, _, rfl, _⟩ := h; rfl) | (obtain ⟨_, _, _, rfl, _⟩ := h; rfl) | (obtain ⟨_, _, _, _, rfl, _⟩ := h; rfl)) fun cdv A outer sh H E hr free ds Q hC => ?_
  have hu := hr.units
  have hu1 := hu_of hr
  refine ⟨_, (vb_cons (vs_setLc (i := 2) (own := [("_law_shape", 4), ("_law_beads", 5)]) rfl sc__law_due.nd rfl rfl rfl (sw_true rfl rfl rfl (by decide +kernel)) (vi_seq (ve_var 0)) (blkOk_by (N := ["_law_shapes_here", "_law_name_here", "_law_found", "_law_place", "_law_shape", "_law_beads", "_law_bead"]) (sc := defScope s__law_due) (by decide +kernel)) (by simp) (fun _ _ _ _ _ => (vg_tup (n := 2) rfl (vgs_cons (vg_name (i := 4) sc__law_due.nd rfl (Or.inl rfl) rfl) (vgs_cons (vg_name (i := 5) sc__law_due.nd rfl (Or.inl rfl) rfl) vgs_nil)))) (fun _ _ _ _ _ => (vts_one (vt_cmp (ov_in hu1) (ve_var 1) (ve_lc (own := [("_law_bead", 6)]) rfl sc__law_due.nd (vi_seq (ve_var 5)) (blkOk_by (by rfl)) (by simp) (fun _ _ _ _ _ => (vg_name (i := 6) sc__law_due.nd rfl (Or.inl rfl) rfl)) (fun _ _ _ _ _ => vts_nil) (fun _ _ _ _ _ => (ve_ix hu1 (ve_var 6) ve_int (fun _ _ => rfl)))) rfl))) (fun _ _ _ _ _ => (ve_tup (va_cons (ve_var 4) (va_cons (ve_var 5) va_nil)))))
  (vb_cons (vs_if (vt_cmp (ov_eq hu) (ve_var 2) (ve_lst va_nil) (nomark _)) (vb_one (vs_ret ve_non)) vb_nil)
  (vb_cons (vs_asg (ve_ix hu1 (ve_var 2) ve_int (fun _ _ => rfl)) (vg_tup (n := 2) rfl (vgs_cons (vg_name (i := 4) sc__law_due.nd rfl (by first | exact Or.inl rfl | exact Or.inr rfl) rfl) (vgs_cons (vg_name (i := 5) sc__law_due.nd rfl (by first | exact Or.inl rfl | exact Or.inr rfl) rfl) vgs_nil))))
  (vb_cons (vs_set (i := 3) sc__law_due.nd rfl (by first | exact Or.inl rfl | exact Or.inr rfl) rfl (ve_indexL (ve_lc (own := [("_law_bead", 6)]) rfl sc__law_due.nd (vi_seq (ve_var 5)) (blkOk_by (N := ["_law_shapes_here", "_law_name_here", "_law_found", "_law_place", "_law_shape", "_law_beads", "_law_bead"]) (sc := defScope s__law_due) (by decide +kernel)) (by simp) (fun _ _ _ _ _ => (vg_name (i := 6) sc__law_due.nd rfl (Or.inl rfl) rfl)) (fun _ _ _ _ _ => vts_nil) (fun _ _ _ _ _ => (ve_ix hu1 (ve_var 6) ve_int (fun _ _ => rfl)))) (ve_var 1)))
  (vb_one (vs_ret (ve_tup (va_cons (ve_var 4) (va_cons (ve_var 3) (va_cons (ve_ix hu1 (ve_ix hu1 (ve_var 5) (ve_var 3) (fun _ _ => rfl)) ve_int (fun _ _ => rfl)) (va_cons (ve_ix hu1 (ve_ix hu1 (ve_var 5) (ve_var 3) (fun _ _ => rfl)) ve_int (fun _ _ => rfl)) va_nil))))))))))), ?_⟩
  obtain ⟨shs, nm, rfl, ⟨hsl, hsp⟩, hQ⟩ := hC
  repeat' ((conv => whnf); first | ((with_reducible apply Sy.one?.yes); (· first | exact rfl | ((conv => lhs; whnf); first | with_reducible exact Sy.strsD_map _ | with_reducible exact Vy.blsD_rep _ _))) | ((with_reducible apply Sy.both.yes); (· exact rfl); (· exact rfl)) | (with_reducible apply Sy.both.els) | ((refine Vy.Got.here ?_ ?_); (· first | with_reducible rfl | decide +kernel)) | ((refine Vy.Got.next ?_ ?_); (· decide +kernel)) | ((with_reducible refine Sy.IfB.t ?_ ?_); (· first | with_reducible rfl | decide +kernel)) | ((with_reducible refine Sy.IfB.f ?_ ?_); (· first | with_reducible rfl | decide +kernel)) | (with_reducible refine Sy.IfB.mk (fun _ => ?_) (fun _ => ?_)) | ((with_reducible apply Vy.mkT.yes); (· exact rfl)) | (with_reducible apply Vy.mkT.els) | ((with_reducible apply Vy.mkL.yes); (· exact rfl)) | (with_reducible apply Vy.mkL.els) | ((with_reducible apply Vy.eqOp.sc); (· exact rfl); (· exact rfl); (· exact rfl)) | ((with_reducible refine Vy.SetAt.di ?_); show Sy.one? _ _) | ((with_reducible refine Vy.SetAt.ls ?_); show Sy.one? _ _) | (with_reducible refine And.intro (Sy.Hold.out ?_) ?_))
  all_goals try (refine Sy.Hold.mk ?_; first | exact trivial | exact rfl | exact Sy.mulA (by omega) (by omega) | exact Sy.mulB (by omega) (by omega) | exact Sy.divA (by omega) (by omega) | exact Sy.smlA (by omega) (by omega) | exact Sy.szLt rfl | exact Sy.szLe rfl | exact Sy.szLe' (by omega) | exact ⟨by omega, by omega⟩ | (rw [List.length_map]; exact Sy.szLt' (by omega)) | (show (0 : Int) < _; first | omega | decide +kernel) | decide +kernel | (simp only [Vy.e_len, Vy.q_len, Vy.x_len, Vy.z_len, Vy.one_len, strLen_append, Sy.repS_len, List.length_map, List.length_append, List.length_cons, List.length_nil]; first | omega | exact Sy.szLe' (by omega) | exact Sy.szLt' (by omega) | exact Vy.cut_add (Sy.szLe' (by omega)) | exact Vy.add_cut (Sy.szLe' (by omega)) | exact Vy.cut_add (Vy.add_cut (Sy.szLe' (by omega)))) | exact ⟨by omega, by omega, by simp only [Vy.e_len, Vy.q_len, Vy.x_len, Vy.z_len, Vy.one_len]; omega, by simp only [Vy.e_len, Vy.q_len, Vy.x_len, Vy.z_len, Vy.one_len]; omega⟩ | exact Sy.szLe' (Nat.le_trans (Nat.add_le_add (Sy.cutL_le _ _ _) (Sy.cutL_le _ _ _)) (by simp only [List.length_map]; omega)) | exact Vy.flat_strs _ | exact Sy.szLe' (Nat.le_trans (Nat.add_le_add (Nat.le_refl _) (Sy.cutL_le _ _ _)) (by simp only [List.length_map, List.length_cons, List.length_nil]; omega)) | exact Sy.szLe' (Nat.le_trans (Nat.add_le_add (Sy.cutL_le _ _ _) (Nat.le_refl _)) (by simp only [List.length_map, List.length_cons, List.length_nil]; omega)) | exact ⟨rfl, Nat.le_of_ble_eq_true rfl, by decide +kernel⟩ | (refine ⟨?_, ?_, ?_⟩ <;> decide +kernel))
  refine lcI (fun E i acc en => en = E ∧ acc = ((shs.take i).filter (hasB nm)).map shD) ⟨.now ⟨rfl, rfl⟩, fun i x acc en2 hx hI => ?_, fun acc en2 hI => ?_⟩
  · obtain ⟨rfl, rfl⟩ := hI
    obtain ⟨s, hs, rfl, hm⟩ := map_get hx
    have hsz := (hsp s hm).2.1
    have hfl : (((shs.take i).filter (hasB nm)).map shD).length ≤ 3 := by
      rw [List.length_map]
      exact Nat.le_trans (List.length_filter_le _ _) (by rw [List.length_take]; omega)
    repeat' ((conv => whnf); first | ((with_reducible apply Sy.one?.yes); (· first | exact rfl | ((conv => lhs; whnf); first | with_reducible exact Sy.strsD_map _ | with_reducible exact Vy.blsD_rep _ _))) | ((with_reducible apply Sy.both.yes); (· exact rfl); (· exact rfl)) | (with_reducible apply Sy.both.els) | ((refine Vy.Got.here ?_ ?_); (· first | with_reducible rfl | decide +kernel)) | ((refine Vy.Got.next ?_ ?_); (· decide +kernel)) | ((with_reducible refine Sy.IfB.t ?_ ?_); (· first | with_reducible rfl | decide +kernel)) | ((with_reducible refine Sy.IfB.f ?_ ?_); (· first | with_reducible rfl | decide +kernel)) | (with_reducible refine Sy.IfB.mk (fun _ => ?_) (fun _ => ?_)) | ((with_reducible apply Vy.mkT.yes); (· exact rfl)) | (with_reducible apply Vy.mkT.els) | ((with_reducible apply Vy.mkL.yes); (· exact rfl)) | (with_reducible apply Vy.mkL.els) | ((with_reducible apply Vy.eqOp.sc); (· exact rfl); (· exact rfl); (· exact rfl)) | ((with_reducible refine Vy.SetAt.di ?_); show Sy.one? _ _) | ((with_reducible refine Vy.SetAt.ls ?_); show Sy.one? _ _) | (with_reducible refine And.intro (Sy.Hold.out ?_) ?_))
    all_goals try (refine Sy.Hold.mk ?_; first | exact trivial | exact rfl | exact Sy.mulA (by omega) (by omega) | exact Sy.mulB (by omega) (by omega) | exact Sy.divA (by omega) (by omega) | exact Sy.smlA (by omega) (by omega) | exact Sy.szLt rfl | exact Sy.szLe rfl | exact Sy.szLe' (by omega) | exact ⟨by omega, by omega⟩ | (rw [List.length_map]; exact Sy.szLt' (by omega)) | (show (0 : Int) < _; first | omega | decide +kernel) | decide +kernel | (simp only [Vy.e_len, Vy.q_len, Vy.x_len, Vy.z_len, Vy.one_len, strLen_append, Sy.repS_len, List.length_map, List.length_append, List.length_cons, List.length_nil]; first | omega | exact Sy.szLe' (by omega) | exact Sy.szLt' (by omega) | exact Vy.cut_add (Sy.szLe' (by omega)) | exact Vy.add_cut (Sy.szLe' (by omega)) | exact Vy.cut_add (Vy.add_cut (Sy.szLe' (by omega)))) | exact ⟨by omega, by omega, by simp only [Vy.e_len, Vy.q_len, Vy.x_len, Vy.z_len, Vy.one_len]; omega, by simp only [Vy.e_len, Vy.q_len, Vy.x_len, Vy.z_len, Vy.one_len]; omega⟩ | exact Sy.szLe' (Nat.le_trans (Nat.add_le_add (Sy.cutL_le _ _ _) (Sy.cutL_le _ _ _)) (by simp only [List.length_map]; omega)) | exact Vy.flat_strs _ | exact Sy.szLe' (Nat.le_trans (Nat.add_le_add (Nat.le_refl _) (Sy.cutL_le _ _ _)) (by simp only [List.length_map, List.length_cons, List.length_nil]; omega)) | exact Sy.szLe' (Nat.le_trans (Nat.add_le_add (Sy.cutL_le _ _ _) (Nat.le_refl _)) (by simp only [List.length_map, List.length_cons, List.length_nil]; omega)) | exact ⟨rfl, Nat.le_of_ble_eq_true rfl, by decide +kernel⟩ | (refine ⟨?_, ?_, ?_⟩ <;> decide +kernel))
    refine lcI (fun E => LcP (D.str) (fun j a => (s.2.map (·.1))[j]? = some a) E) ⟨LcP.nil, fun j y acc en2 hy hJ => ?_, fun acc en2 hJ => ?_⟩
    · obtain ⟨b, hb, rfl, _⟩ := map_get hy
      obtain ⟨rfl, as, rfl, hl, hP⟩ := hJ
      have hjl := get_lt hb
      repeat' ((conv => whnf); first | ((with_reducible apply Sy.one?.yes); (· first | exact rfl | ((conv => lhs; whnf); first | with_reducible exact Sy.strsD_map _ | with_reducible exact Vy.blsD_rep _ _))) | ((with_reducible apply Sy.both.yes); (· exact rfl); (· exact rfl)) | (with_reducible apply Sy.both.els) | ((refine Vy.Got.here ?_ ?_); (· first | with_reducible rfl | decide +kernel)) | ((refine Vy.Got.next ?_ ?_); (· decide +kernel)) | ((with_reducible refine Sy.IfB.t ?_ ?_); (· first | with_reducible rfl | decide +kernel)) | ((with_reducible refine Sy.IfB.f ?_ ?_); (· first | with_reducible rfl | decide +kernel)) | (with_reducible refine Sy.IfB.mk (fun _ => ?_) (fun _ => ?_)) | ((with_reducible apply Vy.mkT.yes); (· exact rfl)) | (with_reducible apply Vy.mkT.els) | ((with_reducible apply Vy.mkL.yes); (· exact rfl)) | (with_reducible apply Vy.mkL.els) | ((with_reducible apply Vy.eqOp.sc); (· exact rfl); (· exact rfl); (· exact rfl)) | ((with_reducible refine Vy.SetAt.di ?_); show Sy.one? _ _) | ((with_reducible refine Vy.SetAt.ls ?_); show Sy.one? _ _) | (with_reducible refine And.intro (Sy.Hold.out ?_) ?_))
      all_goals try (refine Sy.Hold.mk ?_; first | exact trivial | exact rfl | exact Sy.mulA (by omega) (by omega) | exact Sy.mulB (by omega) (by omega) | exact Sy.divA (by omega) (by omega) | exact Sy.smlA (by omega) (by omega) | exact Sy.szLt rfl | exact Sy.szLe rfl | exact Sy.szLe' (by omega) | exact ⟨by omega, by omega⟩ | (rw [List.length_map]; exact Sy.szLt' (by omega)) | (show (0 : Int) < _; first | omega | decide +kernel) | decide +kernel | (simp only [Vy.e_len, Vy.q_len, Vy.x_len, Vy.z_len, Vy.one_len, strLen_append, Sy.repS_len, List.length_map, List.length_append, List.length_cons, List.length_nil]; first | omega | exact Sy.szLe' (by omega) | exact Sy.szLt' (by omega) | exact Vy.cut_add (Sy.szLe' (by omega)) | exact Vy.add_cut (Sy.szLe' (by omega)) | exact Vy.cut_add (Vy.add_cut (Sy.szLe' (by omega)))) | exact ⟨by omega, by omega, by simp only [Vy.e_len, Vy.q_len, Vy.x_len, Vy.z_len, Vy.one_len]; omega, by simp only [Vy.e_len, Vy.q_len, Vy.x_len, Vy.z_len, Vy.one_len]; omega⟩ | exact Sy.szLe' (Nat.le_trans (Nat.add_le_add (Sy.cutL_le _ _ _) (Sy.cutL_le _ _ _)) (by simp only [List.length_map]; omega)) | exact Vy.flat_strs _ | exact Sy.szLe' (Nat.le_trans (Nat.add_le_add (Nat.le_refl _) (Sy.cutL_le _ _ _)) (by simp only [List.length_map, List.length_cons, List.length_nil]; omega)) | exact Sy.szLe' (Nat.le_trans (Nat.add_le_add (Sy.cutL_le _ _ _) (Nat.le_refl _)) (by simp only [List.length_map, List.length_cons, List.length_nil]; omega)) | exact ⟨rfl, Nat.le_of_ble_eq_true rfl, by decide +kernel⟩ | (refine ⟨?_, ?_, ?_⟩ <;> decide +kernel))
      exact LcP.snoc b.1 hl hP rfl rfl (by rw [List.getElem?_map, hb]; rfl)
    · obtain ⟨rfl, as, rfl, hl, hP⟩ := hJ
      have hl' : as.length = (s.2.map (·.1)).length := by rw [hl, List.length_map, List.length_map]
      cases ext_of hl' hP
      repeat' ((conv => whnf); first | ((with_reducible apply Sy.one?.yes); (· first | exact rfl | ((conv => lhs; whnf); first | with_reducible exact Sy.strsD_map _ | with_reducible exact Vy.blsD_rep _ _))) | ((with_reducible apply Sy.both.yes); (· exact rfl); (· exact rfl)) | (with_reducible apply Sy.both.els) | ((refine Vy.Got.here ?_ ?_); (· first | with_reducible rfl | decide +kernel)) | ((refine Vy.Got.next ?_ ?_); (· decide +kernel)) | ((with_reducible refine Sy.IfB.t ?_ ?_); (· first | with_reducible rfl | decide +kernel)) | ((with_reducible refine Sy.IfB.f ?_ ?_); (· first | with_reducible rfl | decide +kernel)) | (with_reducible refine Sy.IfB.mk (fun _ => ?_) (fun _ => ?_)) | ((with_reducible apply Vy.mkT.yes); (· exact rfl)) | (with_reducible apply Vy.mkT.els) | ((with_reducible apply Vy.mkL.yes); (· exact rfl)) | (with_reducible apply Vy.mkL.els) | ((with_reducible apply Vy.eqOp.sc); (· exact rfl); (· exact rfl); (· exact rfl)) | ((with_reducible refine Vy.SetAt.di ?_); show Sy.one? _ _) | ((with_reducible refine Vy.SetAt.ls ?_); show Sy.one? _ _) | (with_reducible refine And.intro (Sy.Hold.out ?_) ?_))
      all_goals try (refine Sy.Hold.mk ?_; first | exact trivial | exact rfl | exact Sy.mulA (by omega) (by omega) | exact Sy.mulB (by omega) (by omega) | exact Sy.divA (by omega) (by omega) | exact Sy.smlA (by omega) (by omega) | exact Sy.szLt rfl | exact Sy.szLe rfl | exact Sy.szLe' (by omega) | exact ⟨by omega, by omega⟩ | (rw [List.length_map]; exact Sy.szLt' (by omega)) | (show (0 : Int) < _; first | omega | decide +kernel) | decide +kernel | (simp only [Vy.e_len, Vy.q_len, Vy.x_len, Vy.z_len, Vy.one_len, strLen_append, Sy.repS_len, List.length_map, List.length_append, List.length_cons, List.length_nil]; first | omega | exact Sy.szLe' (by omega) | exact Sy.szLt' (by omega) | exact Vy.cut_add (Sy.szLe' (by omega)) | exact Vy.add_cut (Sy.szLe' (by omega)) | exact Vy.cut_add (Vy.add_cut (Sy.szLe' (by omega)))) | exact ⟨by omega, by omega, by simp only [Vy.e_len, Vy.q_len, Vy.x_len, Vy.z_len, Vy.one_len]; omega, by simp only [Vy.e_len, Vy.q_len, Vy.x_len, Vy.z_len, Vy.one_len]; omega⟩ | exact Sy.szLe' (Nat.le_trans (Nat.add_le_add (Sy.cutL_le _ _ _) (Sy.cutL_le _ _ _)) (by simp only [List.length_map]; omega)) | exact Vy.flat_strs _ | exact Sy.szLe' (Nat.le_trans (Nat.add_le_add (Nat.le_refl _) (Sy.cutL_le _ _ _)) (by simp only [List.length_map, List.length_cons, List.length_nil]; omega)) | exact Sy.szLe' (Nat.le_trans (Nat.add_le_add (Sy.cutL_le _ _ _) (Nat.le_refl _)) (by simp only [List.length_map, List.length_cons, List.length_nil]; omega)) | exact ⟨rfl, Nat.le_of_ble_eq_true rfl, by decide +kernel⟩ | (refine ⟨?_, ?_, ?_⟩ <;> decide +kernel))
      all_goals first | exact ⟨Nat.lt_of_le_of_lt hfl (by decide)⟩ | exact .now ⟨rfl, (filt_t hs (in_strs (by assumption))).symm⟩ | exact .now ⟨rfl, (filt_f hs (notin_strs (by assumption))).symm⟩
  · obtain ⟨rfl, rfl⟩ := hI
    rw [List.length_map, List.take_length]
    have hb := @beadOf_filter shs nm
    have hfw : ∀ f ∈ shs.filter (hasB nm), Wf 3 1000 (shD f) := fun f h => shD_wf (hsp f (List.mem_filter.mp h).1)
    have hfl : (shs.filter (hasB nm)).length ≤ 3 := Nat.le_trans (List.length_filter_le _ _) hsl
    cases hfs : shs.filter (hasB nm) with
    | nil =>
      rw [hb.1 hfs] at hQ
      repeat' ((conv => whnf); first | ((with_reducible apply Sy.one?.yes); (· first | exact rfl | ((conv => lhs; whnf); first | with_reducible exact Sy.strsD_map _ | with_reducible exact Vy.blsD_rep _ _))) | ((with_reducible apply Sy.both.yes); (· exact rfl); (· exact rfl)) | (with_reducible apply Sy.both.els) | ((refine Vy.Got.here ?_ ?_); (· first | with_reducible rfl | decide +kernel)) | ((refine Vy.Got.next ?_ ?_); (· decide +kernel)) | ((with_reducible refine Sy.IfB.t ?_ ?_); (· first | with_reducible rfl | decide +kernel)) | ((with_reducible refine Sy.IfB.f ?_ ?_); (· first | with_reducible rfl | decide +kernel)) | (with_reducible refine Sy.IfB.mk (fun _ => ?_) (fun _ => ?_)) | ((with_reducible apply Vy.mkT.yes); (· exact rfl)) | (with_reducible apply Vy.mkT.els) | ((with_reducible apply Vy.mkL.yes); (· exact rfl)) | (with_reducible apply Vy.mkL.els) | ((with_reducible apply Vy.eqOp.sc); (· exact rfl); (· exact rfl); (· exact rfl)) | ((with_reducible refine Vy.SetAt.di ?_); show Sy.one? _ _) | ((with_reducible refine Vy.SetAt.ls ?_); show Sy.one? _ _) | (with_reducible refine And.intro (Sy.Hold.out ?_) ?_))
      all_goals try (refine Sy.Hold.mk ?_; first | exact trivial | exact rfl | exact Sy.mulA (by omega) (by omega) | exact Sy.mulB (by omega) (by omega) | exact Sy.divA (by omega) (by omega) | exact Sy.smlA (by omega) (by omega) | exact Sy.szLt rfl | exact Sy.szLe rfl | exact Sy.szLe' (by omega) | exact ⟨by omega, by omega⟩ | (rw [List.length_map]; exact Sy.szLt' (by omega)) | (show (0 : Int) < _; first | omega | decide +kernel) | decide +kernel | (simp only [Vy.e_len, Vy.q_len, Vy.x_len, Vy.z_len, Vy.one_len, strLen_append, Sy.repS_len, List.length_map, List.length_append, List.length_cons, List.length_nil]; first | omega | exact Sy.szLe' (by omega) | exact Sy.szLt' (by omega) | exact Vy.cut_add (Sy.szLe' (by omega)) | exact Vy.add_cut (Sy.szLe' (by omega)) | exact Vy.cut_add (Vy.add_cut (Sy.szLe' (by omega)))) | exact ⟨by omega, by omega, by simp only [Vy.e_len, Vy.q_len, Vy.x_len, Vy.z_len, Vy.one_len]; omega, by simp only [Vy.e_len, Vy.q_len, Vy.x_len, Vy.z_len, Vy.one_len]; omega⟩ | exact Sy.szLe' (Nat.le_trans (Nat.add_le_add (Sy.cutL_le _ _ _) (Sy.cutL_le _ _ _)) (by simp only [List.length_map]; omega)) | exact Vy.flat_strs _ | exact Sy.szLe' (Nat.le_trans (Nat.add_le_add (Nat.le_refl _) (Sy.cutL_le _ _ _)) (by simp only [List.length_map, List.length_cons, List.length_nil]; omega)) | exact Sy.szLe' (Nat.le_trans (Nat.add_le_add (Sy.cutL_le _ _ _) (Nat.le_refl _)) (by simp only [List.length_map, List.length_cons, List.length_nil]; omega)) | exact ⟨rfl, Nat.le_of_ble_eq_true rfl, by decide +kernel⟩ | (refine ⟨?_, ?_, ?_⟩ <;> decide +kernel))
      refine Wf.eq (k := 4) (n := 4) (k' := 4) (n' := 4) (.lst (m := 0) .nil (by omega)) (.lst (m := 0) .nil (by omega)) (by omega) (by omega) ?_
      repeat' ((conv => whnf); first | ((with_reducible apply Sy.one?.yes); (· first | exact rfl | ((conv => lhs; whnf); first | with_reducible exact Sy.strsD_map _ | with_reducible exact Vy.blsD_rep _ _))) | ((with_reducible apply Sy.both.yes); (· exact rfl); (· exact rfl)) | (with_reducible apply Sy.both.els) | ((refine Vy.Got.here ?_ ?_); (· first | with_reducible rfl | decide +kernel)) | ((refine Vy.Got.next ?_ ?_); (· decide +kernel)) | ((with_reducible refine Sy.IfB.t ?_ ?_); (· first | with_reducible rfl | decide +kernel)) | ((with_reducible refine Sy.IfB.f ?_ ?_); (· first | with_reducible rfl | decide +kernel)) | (with_reducible refine Sy.IfB.mk (fun _ => ?_) (fun _ => ?_)) | ((with_reducible apply Vy.mkT.yes); (· exact rfl)) | (with_reducible apply Vy.mkT.els) | ((with_reducible apply Vy.mkL.yes); (· exact rfl)) | (with_reducible apply Vy.mkL.els) | ((with_reducible apply Vy.eqOp.sc); (· exact rfl); (· exact rfl); (· exact rfl)) | ((with_reducible refine Vy.SetAt.di ?_); show Sy.one? _ _) | ((with_reducible refine Vy.SetAt.ls ?_); show Sy.one? _ _) | (with_reducible refine And.intro (Sy.Hold.out ?_) ?_))
      all_goals try (refine Sy.Hold.mk ?_; first | exact trivial | exact rfl | exact Sy.mulA (by omega) (by omega) | exact Sy.mulB (by omega) (by omega) | exact Sy.divA (by omega) (by omega) | exact Sy.smlA (by omega) (by omega) | exact Sy.szLt rfl | exact Sy.szLe rfl | exact Sy.szLe' (by omega) | exact ⟨by omega, by omega⟩ | (rw [List.length_map]; exact Sy.szLt' (by omega)) | (show (0 : Int) < _; first | omega | decide +kernel) | decide +kernel | (simp only [Vy.e_len, Vy.q_len, Vy.x_len, Vy.z_len, Vy.one_len, strLen_append, Sy.repS_len, List.length_map, List.length_append, List.length_cons, List.length_nil]; first | omega | exact Sy.szLe' (by omega) | exact Sy.szLt' (by omega) | exact Vy.cut_add (Sy.szLe' (by omega)) | exact Vy.add_cut (Sy.szLe' (by omega)) | exact Vy.cut_add (Vy.add_cut (Sy.szLe' (by omega)))) | exact ⟨by omega, by omega, by simp only [Vy.e_len, Vy.q_len, Vy.x_len, Vy.z_len, Vy.one_len]; omega, by simp only [Vy.e_len, Vy.q_len, Vy.x_len, Vy.z_len, Vy.one_len]; omega⟩ | exact Sy.szLe' (Nat.le_trans (Nat.add_le_add (Sy.cutL_le _ _ _) (Sy.cutL_le _ _ _)) (by simp only [List.length_map]; omega)) | exact Vy.flat_strs _ | exact Sy.szLe' (Nat.le_trans (Nat.add_le_add (Nat.le_refl _) (Sy.cutL_le _ _ _)) (by simp only [List.length_map, List.length_cons, List.length_nil]; omega)) | exact Sy.szLe' (Nat.le_trans (Nat.add_le_add (Sy.cutL_le _ _ _) (Nat.le_refl _)) (by simp only [List.length_map, List.length_cons, List.length_nil]; omega)) | exact ⟨rfl, Nat.le_of_ble_eq_true rfl, by decide +kernel⟩ | (refine ⟨?_, ?_, ?_⟩ <;> decide +kernel))
      exact hQ
    | cons f r =>
      obtain ⟨hfm, p, hp, e⟩ := hb.2 f r hfs
      rw [e] at hQ
      rw [hfs] at hfw hfl
      have hpm := findB_mem hp
      have hpx := idx_find hp
      have hsz := (hsp f hfm).2.1
      rw [Nat.sub_zero] at hpx hpm
      repeat' ((conv => whnf); first | ((with_reducible apply Sy.one?.yes); (· first | exact rfl | ((conv => lhs; whnf); first | with_reducible exact Sy.strsD_map _ | with_reducible exact Vy.blsD_rep _ _))) | ((with_reducible apply Sy.both.yes); (· exact rfl); (· exact rfl)) | (with_reducible apply Sy.both.els) | ((refine Vy.Got.here ?_ ?_); (· first | with_reducible rfl | decide +kernel)) | ((refine Vy.Got.next ?_ ?_); (· decide +kernel)) | ((with_reducible refine Sy.IfB.t ?_ ?_); (· first | with_reducible rfl | decide +kernel)) | ((with_reducible refine Sy.IfB.f ?_ ?_); (· first | with_reducible rfl | decide +kernel)) | (with_reducible refine Sy.IfB.mk (fun _ => ?_) (fun _ => ?_)) | ((with_reducible apply Vy.mkT.yes); (· exact rfl)) | (with_reducible apply Vy.mkT.els) | ((with_reducible apply Vy.mkL.yes); (· exact rfl)) | (with_reducible apply Vy.mkL.els) | ((with_reducible apply Vy.eqOp.sc); (· exact rfl); (· exact rfl); (· exact rfl)) | ((with_reducible refine Vy.SetAt.di ?_); show Sy.one? _ _) | ((with_reducible refine Vy.SetAt.ls ?_); show Sy.one? _ _) | (with_reducible refine And.intro (Sy.Hold.out ?_) ?_))
      all_goals try (refine Sy.Hold.mk ?_; first | exact trivial | exact rfl | exact Sy.mulA (by omega) (by omega) | exact Sy.mulB (by omega) (by omega) | exact Sy.divA (by omega) (by omega) | exact Sy.smlA (by omega) (by omega) | exact Sy.szLt rfl | exact Sy.szLe rfl | exact Sy.szLe' (by omega) | exact ⟨by omega, by omega⟩ | (rw [List.length_map]; exact Sy.szLt' (by omega)) | (show (0 : Int) < _; first | omega | decide +kernel) | decide +kernel | (simp only [Vy.e_len, Vy.q_len, Vy.x_len, Vy.z_len, Vy.one_len, strLen_append, Sy.repS_len, List.length_map, List.length_append, List.length_cons, List.length_nil]; first | omega | exact Sy.szLe' (by omega) | exact Sy.szLt' (by omega) | exact Vy.cut_add (Sy.szLe' (by omega)) | exact Vy.add_cut (Sy.szLe' (by omega)) | exact Vy.cut_add (Vy.add_cut (Sy.szLe' (by omega)))) | exact ⟨by omega, by omega, by simp only [Vy.e_len, Vy.q_len, Vy.x_len, Vy.z_len, Vy.one_len]; omega, by simp only [Vy.e_len, Vy.q_len, Vy.x_len, Vy.z_len, Vy.one_len]; omega⟩ | exact Sy.szLe' (Nat.le_trans (Nat.add_le_add (Sy.cutL_le _ _ _) (Sy.cutL_le _ _ _)) (by simp only [List.length_map]; omega)) | exact Vy.flat_strs _ | exact Sy.szLe' (Nat.le_trans (Nat.add_le_add (Nat.le_refl _) (Sy.cutL_le _ _ _)) (by simp only [List.length_map, List.length_cons, List.length_nil]; omega)) | exact Sy.szLe' (Nat.le_trans (Nat.add_le_add (Sy.cutL_le _ _ _) (Nat.le_refl _)) (by simp only [List.length_map, List.length_cons, List.length_nil]; omega)) | exact ⟨rfl, Nat.le_of_ble_eq_true rfl, by decide +kernel⟩ | (refine ⟨?_, ?_, ?_⟩ <;> decide +kernel))
      refine Wf.eq (k := 4) (n := 10000) (k' := 4) (n' := 4) (.lst (m := 9000) (.map (c := 1000) hfw (by omega)) (by omega)) (.lst (m := 0) .nil (by omega)) (by omega) (by omega) ?_
      repeat' ((conv => whnf); first | ((with_reducible apply Sy.one?.yes); (· first | exact rfl | ((conv => lhs; whnf); first | with_reducible exact Sy.strsD_map _ | with_reducible exact Vy.blsD_rep _ _))) | ((with_reducible apply Sy.both.yes); (· exact rfl); (· exact rfl)) | (with_reducible apply Sy.both.els) | ((refine Vy.Got.here ?_ ?_); (· first | with_reducible rfl | decide +kernel)) | ((refine Vy.Got.next ?_ ?_); (· decide +kernel)) | ((with_reducible refine Sy.IfB.t ?_ ?_); (· first | with_reducible rfl | decide +kernel)) | ((with_reducible refine Sy.IfB.f ?_ ?_); (· first | with_reducible rfl | decide +kernel)) | (with_reducible refine Sy.IfB.mk (fun _ => ?_) (fun _ => ?_)) | ((with_reducible apply Vy.mkT.yes); (· exact rfl)) | (with_reducible apply Vy.mkT.els) | ((with_reducible apply Vy.mkL.yes); (· exact rfl)) | (with_reducible apply Vy.mkL.els) | ((with_reducible apply Vy.eqOp.sc); (· exact rfl); (· exact rfl); (· exact rfl)) | ((with_reducible refine Vy.SetAt.di ?_); show Sy.one? _ _) | ((with_reducible refine Vy.SetAt.ls ?_); show Sy.one? _ _) | (with_reducible refine And.intro (Sy.Hold.out ?_) ?_))
      all_goals try (refine Sy.Hold.mk ?_; first | exact trivial | exact rfl | exact Sy.mulA (by omega) (by omega) | exact Sy.mulB (by omega) (by omega) | exact Sy.divA (by omega) (by omega) | exact Sy.smlA (by omega) (by omega) | exact Sy.szLt rfl | exact Sy.szLe rfl | exact Sy.szLe' (by omega) | exact ⟨by omega, by omega⟩ | (rw [List.length_map]; exact Sy.szLt' (by omega)) | (show (0 : Int) < _; first | omega | decide +kernel) | decide +kernel | (simp only [Vy.e_len, Vy.q_len, Vy.x_len, Vy.z_len, Vy.one_len, strLen_append, Sy.repS_len, List.length_map, List.length_append, List.length_cons, List.length_nil]; first | omega | exact Sy.szLe' (by omega) | exact Sy.szLt' (by omega) | exact Vy.cut_add (Sy.szLe' (by omega)) | exact Vy.add_cut (Sy.szLe' (by omega)) | exact Vy.cut_add (Vy.add_cut (Sy.szLe' (by omega)))) | exact ⟨by omega, by omega, by simp only [Vy.e_len, Vy.q_len, Vy.x_len, Vy.z_len, Vy.one_len]; omega, by simp only [Vy.e_len, Vy.q_len, Vy.x_len, Vy.z_len, Vy.one_len]; omega⟩ | exact Sy.szLe' (Nat.le_trans (Nat.add_le_add (Sy.cutL_le _ _ _) (Sy.cutL_le _ _ _)) (by simp only [List.length_map]; omega)) | exact Vy.flat_strs _ | exact Sy.szLe' (Nat.le_trans (Nat.add_le_add (Nat.le_refl _) (Sy.cutL_le _ _ _)) (by simp only [List.length_map, List.length_cons, List.length_nil]; omega)) | exact Sy.szLe' (Nat.le_trans (Nat.add_le_add (Sy.cutL_le _ _ _) (Nat.le_refl _)) (by simp only [List.length_map, List.length_cons, List.length_nil]; omega)) | exact ⟨rfl, Nat.le_of_ble_eq_true rfl, by decide +kernel⟩ | (refine ⟨?_, ?_, ?_⟩ <;> decide +kernel))
      · rename_i h
        exact absurd (show false = true from h) (by decide)
      refine one?.yes (L2.atI_nat (j := 0) rfl) ?_
      repeat' ((conv => whnf); first | ((with_reducible apply Sy.one?.yes); (· first | exact rfl | ((conv => lhs; whnf); first | with_reducible exact Sy.strsD_map _ | with_reducible exact Vy.blsD_rep _ _))) | ((with_reducible apply Sy.both.yes); (· exact rfl); (· exact rfl)) | (with_reducible apply Sy.both.els) | ((refine Vy.Got.here ?_ ?_); (· first | with_reducible rfl | decide +kernel)) | ((refine Vy.Got.next ?_ ?_); (· decide +kernel)) | ((with_reducible refine Sy.IfB.t ?_ ?_); (· first | with_reducible rfl | decide +kernel)) | ((with_reducible refine Sy.IfB.f ?_ ?_); (· first | with_reducible rfl | decide +kernel)) | (with_reducible refine Sy.IfB.mk (fun _ => ?_) (fun _ => ?_)) | ((with_reducible apply Vy.mkT.yes); (· exact rfl)) | (with_reducible apply Vy.mkT.els) | ((with_reducible apply Vy.mkL.yes); (· exact rfl)) | (with_reducible apply Vy.mkL.els) | ((with_reducible apply Vy.eqOp.sc); (· exact rfl); (· exact rfl); (· exact rfl)) | ((with_reducible refine Vy.SetAt.di ?_); show Sy.one? _ _) | ((with_reducible refine Vy.SetAt.ls ?_); show Sy.one? _ _) | (with_reducible refine And.intro (Sy.Hold.out ?_) ?_))
      all_goals try (refine Sy.Hold.mk ?_; first | exact trivial | exact rfl | exact Sy.mulA (by omega) (by omega) | exact Sy.mulB (by omega) (by omega) | exact Sy.divA (by omega) (by omega) | exact Sy.smlA (by omega) (by omega) | exact Sy.szLt rfl | exact Sy.szLe rfl | exact Sy.szLe' (by omega) | exact ⟨by omega, by omega⟩ | (rw [List.length_map]; exact Sy.szLt' (by omega)) | (show (0 : Int) < _; first | omega | decide +kernel) | decide +kernel | (simp only [Vy.e_len, Vy.q_len, Vy.x_len, Vy.z_len, Vy.one_len, strLen_append, Sy.repS_len, List.length_map, List.length_append, List.length_cons, List.length_nil]; first | omega | exact Sy.szLe' (by omega) | exact Sy.szLt' (by omega) | exact Vy.cut_add (Sy.szLe' (by omega)) | exact Vy.add_cut (Sy.szLe' (by omega)) | exact Vy.cut_add (Vy.add_cut (Sy.szLe' (by omega)))) | exact ⟨by omega, by omega, by simp only [Vy.e_len, Vy.q_len, Vy.x_len, Vy.z_len, Vy.one_len]; omega, by simp only [Vy.e_len, Vy.q_len, Vy.x_len, Vy.z_len, Vy.one_len]; omega⟩ | exact Sy.szLe' (Nat.le_trans (Nat.add_le_add (Sy.cutL_le _ _ _) (Sy.cutL_le _ _ _)) (by simp only [List.length_map]; omega)) | exact Vy.flat_strs _ | exact Sy.szLe' (Nat.le_trans (Nat.add_le_add (Nat.le_refl _) (Sy.cutL_le _ _ _)) (by simp only [List.length_map, List.length_cons, List.length_nil]; omega)) | exact Sy.szLe' (Nat.le_trans (Nat.add_le_add (Sy.cutL_le _ _ _) (Nat.le_refl _)) (by simp only [List.length_map, List.length_cons, List.length_nil]; omega)) | exact ⟨rfl, Nat.le_of_ble_eq_true rfl, by decide +kernel⟩ | (refine ⟨?_, ?_, ?_⟩ <;> decide +kernel))
      refine lcI (fun E => LcP (D.str) (fun j a => (f.2.map (·.1))[j]? = some a) E) ⟨LcP.nil, fun j y acc en2 hy hJ => ?_, fun acc en2 hJ => ?_⟩
      · obtain ⟨b, hb, rfl, _⟩ := map_get hy
        obtain ⟨rfl, as, rfl, hl, hP⟩ := hJ
        have hjl := get_lt hb
        repeat' ((conv => whnf); first | ((with_reducible apply Sy.one?.yes); (· first | exact rfl | ((conv => lhs; whnf); first | with_reducible exact Sy.strsD_map _ | with_reducible exact Vy.blsD_rep _ _))) | ((with_reducible apply Sy.both.yes); (· exact rfl); (· exact rfl)) | (with_reducible apply Sy.both.els) | ((refine Vy.Got.here ?_ ?_); (· first | with_reducible rfl | decide +kernel)) | ((refine Vy.Got.next ?_ ?_); (· decide +kernel)) | ((with_reducible refine Sy.IfB.t ?_ ?_); (· first | with_reducible rfl | decide +kernel)) | ((with_reducible refine Sy.IfB.f ?_ ?_); (· first | with_reducible rfl | decide +kernel)) | (with_reducible refine Sy.IfB.mk (fun _ => ?_) (fun _ => ?_)) | ((with_reducible apply Vy.mkT.yes); (· exact rfl)) | (with_reducible apply Vy.mkT.els) | ((with_reducible apply Vy.mkL.yes); (· exact rfl)) | (with_reducible apply Vy.mkL.els) | ((with_reducible apply Vy.eqOp.sc); (· exact rfl); (· exact rfl); (· exact rfl)) | ((with_reducible refine Vy.SetAt.di ?_); show Sy.one? _ _) | ((with_reducible refine Vy.SetAt.ls ?_); show Sy.one? _ _) | (with_reducible refine And.intro (Sy.Hold.out ?_) ?_))
        all_goals try (refine Sy.Hold.mk ?_; first | exact trivial | exact rfl | exact Sy.mulA (by omega) (by omega) | exact Sy.mulB (by omega) (by omega) | exact Sy.divA (by omega) (by omega) | exact Sy.smlA (by omega) (by omega) | exact Sy.szLt rfl | exact Sy.szLe rfl | exact Sy.szLe' (by omega) | exact ⟨by omega, by omega⟩ | (rw [List.length_map]; exact Sy.szLt' (by omega)) | (show (0 : Int) < _; first | omega | decide +kernel) | decide +kernel | (simp only [Vy.e_len, Vy.q_len, Vy.x_len, Vy.z_len, Vy.one_len, strLen_append, Sy.repS_len, List.length_map, List.length_append, List.length_cons, List.length_nil]; first | omega | exact Sy.szLe' (by omega) | exact Sy.szLt' (by omega) | exact Vy.cut_add (Sy.szLe' (by omega)) | exact Vy.add_cut (Sy.szLe' (by omega)) | exact Vy.cut_add (Vy.add_cut (Sy.szLe' (by omega)))) | exact ⟨by omega, by omega, by simp only [Vy.e_len, Vy.q_len, Vy.x_len, Vy.z_len, Vy.one_len]; omega, by simp only [Vy.e_len, Vy.q_len, Vy.x_len, Vy.z_len, Vy.one_len]; omega⟩ | exact Sy.szLe' (Nat.le_trans (Nat.add_le_add (Sy.cutL_le _ _ _) (Sy.cutL_le _ _ _)) (by simp only [List.length_map]; omega)) | exact Vy.flat_strs _ | exact Sy.szLe' (Nat.le_trans (Nat.add_le_add (Nat.le_refl _) (Sy.cutL_le _ _ _)) (by simp only [List.length_map, List.length_cons, List.length_nil]; omega)) | exact Sy.szLe' (Nat.le_trans (Nat.add_le_add (Sy.cutL_le _ _ _) (Nat.le_refl _)) (by simp only [List.length_map, List.length_cons, List.length_nil]; omega)) | exact ⟨rfl, Nat.le_of_ble_eq_true rfl, by decide +kernel⟩ | (refine ⟨?_, ?_, ?_⟩ <;> decide +kernel))
        exact LcP.snoc b.1 hl hP rfl rfl (by rw [List.getElem?_map, hb]; rfl)
      · obtain ⟨rfl, as, rfl, hl, hP⟩ := hJ
        have hl' : as.length = (f.2.map (·.1)).length := by rw [hl, List.length_map, List.length_map]
        cases ext_of hl' hP
        repeat' ((conv => whnf); first | ((with_reducible apply Sy.one?.yes); (· first | exact rfl | ((conv => lhs; whnf); first | with_reducible exact Sy.strsD_map _ | with_reducible exact Vy.blsD_rep _ _))) | ((with_reducible apply Sy.both.yes); (· exact rfl); (· exact rfl)) | (with_reducible apply Sy.both.els) | ((refine Vy.Got.here ?_ ?_); (· first | with_reducible rfl | decide +kernel)) | ((refine Vy.Got.next ?_ ?_); (· decide +kernel)) | ((with_reducible refine Sy.IfB.t ?_ ?_); (· first | with_reducible rfl | decide +kernel)) | ((with_reducible refine Sy.IfB.f ?_ ?_); (· first | with_reducible rfl | decide +kernel)) | (with_reducible refine Sy.IfB.mk (fun _ => ?_) (fun _ => ?_)) | ((with_reducible apply Vy.mkT.yes); (· exact rfl)) | (with_reducible apply Vy.mkT.els) | ((with_reducible apply Vy.mkL.yes); (· exact rfl)) | (with_reducible apply Vy.mkL.els) | ((with_reducible apply Vy.eqOp.sc); (· exact rfl); (· exact rfl); (· exact rfl)) | ((with_reducible refine Vy.SetAt.di ?_); show Sy.one? _ _) | ((with_reducible refine Vy.SetAt.ls ?_); show Sy.one? _ _) | (with_reducible refine And.intro (Sy.Hold.out ?_) ?_))
        all_goals try (refine Sy.Hold.mk ?_; first | exact trivial | exact rfl | exact Sy.mulA (by omega) (by omega) | exact Sy.mulB (by omega) (by omega) | exact Sy.divA (by omega) (by omega) | exact Sy.smlA (by omega) (by omega) | exact Sy.szLt rfl | exact Sy.szLe rfl | exact Sy.szLe' (by omega) | exact ⟨by omega, by omega⟩ | (rw [List.length_map]; exact Sy.szLt' (by omega)) | (show (0 : Int) < _; first | omega | decide +kernel) | decide +kernel | (simp only [Vy.e_len, Vy.q_len, Vy.x_len, Vy.z_len, Vy.one_len, strLen_append, Sy.repS_len, List.length_map, List.length_append, List.length_cons, List.length_nil]; first | omega | exact Sy.szLe' (by omega) | exact Sy.szLt' (by omega) | exact Vy.cut_add (Sy.szLe' (by omega)) | exact Vy.add_cut (Sy.szLe' (by omega)) | exact Vy.cut_add (Vy.add_cut (Sy.szLe' (by omega)))) | exact ⟨by omega, by omega, by simp only [Vy.e_len, Vy.q_len, Vy.x_len, Vy.z_len, Vy.one_len]; omega, by simp only [Vy.e_len, Vy.q_len, Vy.x_len, Vy.z_len, Vy.one_len]; omega⟩ | exact Sy.szLe' (Nat.le_trans (Nat.add_le_add (Sy.cutL_le _ _ _) (Sy.cutL_le _ _ _)) (by simp only [List.length_map]; omega)) | exact Vy.flat_strs _ | exact Sy.szLe' (Nat.le_trans (Nat.add_le_add (Nat.le_refl _) (Sy.cutL_le _ _ _)) (by simp only [List.length_map, List.length_cons, List.length_nil]; omega)) | exact Sy.szLe' (Nat.le_trans (Nat.add_le_add (Sy.cutL_le _ _ _) (Nat.le_refl _)) (by simp only [List.length_map, List.length_cons, List.length_nil]; omega)) | exact ⟨rfl, Nat.le_of_ble_eq_true rfl, by decide +kernel⟩ | (refine ⟨?_, ?_, ?_⟩ <;> decide +kernel))
        refine one?.yes hpx ?_
        have ha : atI (f.2.map bD) ((p.1 : Nat) : Int) = some (bD p.2) := L2.atI_nat (by rw [List.getElem?_map, hpm.2.2.2.1]; rfl)
        repeat' ((conv => whnf); first | ((with_reducible apply Sy.one?.yes); (· first | exact rfl | ((conv => lhs; whnf); first | with_reducible exact Sy.strsD_map _ | with_reducible exact Vy.blsD_rep _ _))) | ((with_reducible apply Sy.both.yes); (· exact rfl); (· exact rfl)) | (with_reducible apply Sy.both.els) | ((refine Vy.Got.here ?_ ?_); (· first | with_reducible rfl | decide +kernel)) | ((refine Vy.Got.next ?_ ?_); (· decide +kernel)) | ((with_reducible refine Sy.IfB.t ?_ ?_); (· first | with_reducible rfl | decide +kernel)) | ((with_reducible refine Sy.IfB.f ?_ ?_); (· first | with_reducible rfl | decide +kernel)) | (with_reducible refine Sy.IfB.mk (fun _ => ?_) (fun _ => ?_)) | ((with_reducible apply Vy.mkT.yes); (· exact rfl)) | (with_reducible apply Vy.mkT.els) | ((with_reducible apply Vy.mkL.yes); (· exact rfl)) | (with_reducible apply Vy.mkL.els) | ((with_reducible apply Vy.eqOp.sc); (· exact rfl); (· exact rfl); (· exact rfl)) | ((with_reducible refine Vy.SetAt.di ?_); show Sy.one? _ _) | ((with_reducible refine Vy.SetAt.ls ?_); show Sy.one? _ _) | (with_reducible refine And.intro (Sy.Hold.out ?_) ?_))
        all_goals try (refine Sy.Hold.mk ?_; first | exact trivial | exact rfl | exact Sy.mulA (by omega) (by omega) | exact Sy.mulB (by omega) (by omega) | exact Sy.divA (by omega) (by omega) | exact Sy.smlA (by omega) (by omega) | exact Sy.szLt rfl | exact Sy.szLe rfl | exact Sy.szLe' (by omega) | exact ⟨by omega, by omega⟩ | (rw [List.length_map]; exact Sy.szLt' (by omega)) | (show (0 : Int) < _; first | omega | decide +kernel) | decide +kernel | (simp only [Vy.e_len, Vy.q_len, Vy.x_len, Vy.z_len, Vy.one_len, strLen_append, Sy.repS_len, List.length_map, List.length_append, List.length_cons, List.length_nil]; first | omega | exact Sy.szLe' (by omega) | exact Sy.szLt' (by omega) | exact Vy.cut_add (Sy.szLe' (by omega)) | exact Vy.add_cut (Sy.szLe' (by omega)) | exact Vy.cut_add (Vy.add_cut (Sy.szLe' (by omega)))) | exact ⟨by omega, by omega, by simp only [Vy.e_len, Vy.q_len, Vy.x_len, Vy.z_len, Vy.one_len]; omega, by simp only [Vy.e_len, Vy.q_len, Vy.x_len, Vy.z_len, Vy.one_len]; omega⟩ | exact Sy.szLe' (Nat.le_trans (Nat.add_le_add (Sy.cutL_le _ _ _) (Sy.cutL_le _ _ _)) (by simp only [List.length_map]; omega)) | exact Vy.flat_strs _ | exact Sy.szLe' (Nat.le_trans (Nat.add_le_add (Nat.le_refl _) (Sy.cutL_le _ _ _)) (by simp only [List.length_map, List.length_cons, List.length_nil]; omega)) | exact Sy.szLe' (Nat.le_trans (Nat.add_le_add (Sy.cutL_le _ _ _) (Nat.le_refl _)) (by simp only [List.length_map, List.length_cons, List.length_nil]; omega)) | exact ⟨rfl, Nat.le_of_ble_eq_true rfl, by decide +kernel⟩ | (refine ⟨?_, ?_, ?_⟩ <;> decide +kernel))
        refine one?.yes ha ?_
        repeat' ((conv => whnf); first | ((with_reducible apply Sy.one?.yes); (· first | exact rfl | ((conv => lhs; whnf); first | with_reducible exact Sy.strsD_map _ | with_reducible exact Vy.blsD_rep _ _))) | ((with_reducible apply Sy.both.yes); (· exact rfl); (· exact rfl)) | (with_reducible apply Sy.both.els) | ((refine Vy.Got.here ?_ ?_); (· first | with_reducible rfl | decide +kernel)) | ((refine Vy.Got.next ?_ ?_); (· decide +kernel)) | ((with_reducible refine Sy.IfB.t ?_ ?_); (· first | with_reducible rfl | decide +kernel)) | ((with_reducible refine Sy.IfB.f ?_ ?_); (· first | with_reducible rfl | decide +kernel)) | (with_reducible refine Sy.IfB.mk (fun _ => ?_) (fun _ => ?_)) | ((with_reducible apply Vy.mkT.yes); (· exact rfl)) | (with_reducible apply Vy.mkT.els) | ((with_reducible apply Vy.mkL.yes); (· exact rfl)) | (with_reducible apply Vy.mkL.els) | ((with_reducible apply Vy.eqOp.sc); (· exact rfl); (· exact rfl); (· exact rfl)) | ((with_reducible refine Vy.SetAt.di ?_); show Sy.one? _ _) | ((with_reducible refine Vy.SetAt.ls ?_); show Sy.one? _ _) | (with_reducible refine And.intro (Sy.Hold.out ?_) ?_))
        all_goals try (refine Sy.Hold.mk ?_; first | exact trivial | exact rfl | exact Sy.mulA (by omega) (by omega) | exact Sy.mulB (by omega) (by omega) | exact Sy.divA (by omega) (by omega) | exact Sy.smlA (by omega) (by omega) | exact Sy.szLt rfl | exact Sy.szLe rfl | exact Sy.szLe' (by omega) | exact ⟨by omega, by omega⟩ | (rw [List.length_map]; exact Sy.szLt' (by omega)) | (show (0 : Int) < _; first | omega | decide +kernel) | decide +kernel | (simp only [Vy.e_len, Vy.q_len, Vy.x_len, Vy.z_len, Vy.one_len, strLen_append, Sy.repS_len, List.length_map, List.length_append, List.length_cons, List.length_nil]; first | omega | exact Sy.szLe' (by omega) | exact Sy.szLt' (by omega) | exact Vy.cut_add (Sy.szLe' (by omega)) | exact Vy.add_cut (Sy.szLe' (by omega)) | exact Vy.cut_add (Vy.add_cut (Sy.szLe' (by omega)))) | exact ⟨by omega, by omega, by simp only [Vy.e_len, Vy.q_len, Vy.x_len, Vy.z_len, Vy.one_len]; omega, by simp only [Vy.e_len, Vy.q_len, Vy.x_len, Vy.z_len, Vy.one_len]; omega⟩ | exact Sy.szLe' (Nat.le_trans (Nat.add_le_add (Sy.cutL_le _ _ _) (Sy.cutL_le _ _ _)) (by simp only [List.length_map]; omega)) | exact Vy.flat_strs _ | exact Sy.szLe' (Nat.le_trans (Nat.add_le_add (Nat.le_refl _) (Sy.cutL_le _ _ _)) (by simp only [List.length_map, List.length_cons, List.length_nil]; omega)) | exact Sy.szLe' (Nat.le_trans (Nat.add_le_add (Sy.cutL_le _ _ _) (Nat.le_refl _)) (by simp only [List.length_map, List.length_cons, List.length_nil]; omega)) | exact ⟨rfl, Nat.le_of_ble_eq_true rfl, by decide +kernel⟩ | (refine ⟨?_, ?_, ?_⟩ <;> decide +kernel))
        refine one?.yes ha ?_
        repeat' ((conv => whnf); first | ((with_reducible apply Sy.one?.yes); (· first | exact rfl | ((conv => lhs; whnf); first | with_reducible exact Sy.strsD_map _ | with_reducible exact Vy.blsD_rep _ _))) | ((with_reducible apply Sy.both.yes); (· exact rfl); (· exact rfl)) | (with_reducible apply Sy.both.els) | ((refine Vy.Got.here ?_ ?_); (· first | with_reducible rfl | decide +kernel)) | ((refine Vy.Got.next ?_ ?_); (· decide +kernel)) | ((with_reducible refine Sy.IfB.t ?_ ?_); (· first | with_reducible rfl | decide +kernel)) | ((with_reducible refine Sy.IfB.f ?_ ?_); (· first | with_reducible rfl | decide +kernel)) | (with_reducible refine Sy.IfB.mk (fun _ => ?_) (fun _ => ?_)) | ((with_reducible apply Vy.mkT.yes); (· exact rfl)) | (with_reducible apply Vy.mkT.els) | ((with_reducible apply Vy.mkL.yes); (· exact rfl)) | (with_reducible apply Vy.mkL.els) | ((with_reducible apply Vy.eqOp.sc); (· exact rfl); (· exact rfl); (· exact rfl)) | ((with_reducible refine Vy.SetAt.di ?_); show Sy.one? _ _) | ((with_reducible refine Vy.SetAt.ls ?_); show Sy.one? _ _) | (with_reducible refine And.intro (Sy.Hold.out ?_) ?_))
        all_goals try (refine Sy.Hold.mk ?_; first | exact trivial | exact rfl | exact Sy.mulA (by omega) (by omega) | exact Sy.mulB (by omega) (by omega) | exact Sy.divA (by omega) (by omega) | exact Sy.smlA (by omega) (by omega) | exact Sy.szLt rfl | exact Sy.szLe rfl | exact Sy.szLe' (by omega) | exact ⟨by omega, by omega⟩ | (rw [List.length_map]; exact Sy.szLt' (by omega)) | (show (0 : Int) < _; first | omega | decide +kernel) | decide +kernel | (simp only [Vy.e_len, Vy.q_len, Vy.x_len, Vy.z_len, Vy.one_len, strLen_append, Sy.repS_len, List.length_map, List.length_append, List.length_cons, List.length_nil]; first | omega | exact Sy.szLe' (by omega) | exact Sy.szLt' (by omega) | exact Vy.cut_add (Sy.szLe' (by omega)) | exact Vy.add_cut (Sy.szLe' (by omega)) | exact Vy.cut_add (Vy.add_cut (Sy.szLe' (by omega)))) | exact ⟨by omega, by omega, by simp only [Vy.e_len, Vy.q_len, Vy.x_len, Vy.z_len, Vy.one_len]; omega, by simp only [Vy.e_len, Vy.q_len, Vy.x_len, Vy.z_len, Vy.one_len]; omega⟩ | exact Sy.szLe' (Nat.le_trans (Nat.add_le_add (Sy.cutL_le _ _ _) (Sy.cutL_le _ _ _)) (by simp only [List.length_map]; omega)) | exact Vy.flat_strs _ | exact Sy.szLe' (Nat.le_trans (Nat.add_le_add (Nat.le_refl _) (Sy.cutL_le _ _ _)) (by simp only [List.length_map, List.length_cons, List.length_nil]; omega)) | exact Sy.szLe' (Nat.le_trans (Nat.add_le_add (Sy.cutL_le _ _ _) (Nat.le_refl _)) (by simp only [List.length_map, List.length_cons, List.length_nil]; omega)) | exact ⟨rfl, Nat.le_of_ble_eq_true rfl, by decide +kernel⟩ | (refine ⟨?_, ?_, ?_⟩ <;> decide +kernel))
        exact hQ
end
end K03
namespace K03
open PySem PySem.Spec PyProof.Rows L2
section
open Vy
open Sy (D one? both IfB cOk cOk_cut cOk_app cOk_rep cOk_one cOk_joinT cOk_dec repS repS_len snoc_str cutL mem_cutL cutL_le cutL_map)
variable {P : Program} {w : World} {K : PySem.W.Frag} {mg : Str → Option Value} {base : Heap}
def askD (q : List Shape × Str) : D := .tup [.tup (q.1.map shD), .str q.2]
def AskP (q : List Shape × Str) : Prop := (q.1.length ≤ 3 ∧ ∀ s ∈ q.1, ShapeP s) ∧ q.2.length ≤ 20 ∧ cOk q.2
theorem atI_neg1 {α : Type} {xs : List α} (h : 0 < xs.length) : ∃ x, x ∈ xs ∧ atI xs (-1) = some x := by
  refine ⟨xs[xs.length - 1], List.getElem_mem _, ?_⟩
  have e : ixN xs.length (-1) = some (xs.length - 1) := by
    unfold ixN
    rw [if_neg (by omega), if_pos (by omega)]
    congr 1; omega
  unfold atI
  rw [e]
  show xs[xs.length - 1]? = _
  exact List.getElem?_eq_getElem _
theorem beadOf_wf {shs : List Shape} {nm : Str} (h : ∀ s ∈ shs, ShapeP s) : Wf 1 300 (beadOf shs nm) := by
  have hb := @beadOf_filter shs nm
  cases hfs : shs.filter (hasB nm) with
  | nil => rw [hb.1 hfs]; exact .non (by omega)
  | cons f r =>
    obtain ⟨hfm, p, hp, e⟩ := hb.2 f r hfs
    have hpm := findB_mem hp
    have hs := h f hfm
    rw [e]
    exact beadT_wf hs.1 (by have := hs.2.1; omega) (hs.2.2 _ hpm.1)
theorem ok_law (T : Tx K mg) (G__law_deal : FnV P w K mg base 1 T._law_deal_f T._law_deal_fd ["_law_script", "_law_base"] (spV K (cP pDeal))) (G__law_draw : FnV P w K mg base 1 T._law_draw_f T._law_draw_fd ["_law_deal_here", "_law_many"] (spV K (cDl vDraw))) (G__law_name : FnV P w K mg base 2 T._law_name_f T._law_name_fd ["_law_deal_here"] (spV K (cDl vName))) (G__law_unlike : FnV P w K mg base 2 T._law_unlike_f T._law_unlike_fd ["_law_deal_here", "_law_many"] (spV K (cDl vUnlike))) (G__law_shapes : FnV P w K mg base 2 T._law_shapes_f T._law_shapes_fd ["_law_deal_here", "_law_names"] (spV K (cDl vShapes))) (G_bead_of : FnV P w K mg base 1 T.bead_of_f T.bead_of_fd ["shapes", "name"] (spV K (cP vBeadOf))) (G__law_due : FnV P w K mg base 1 T._law_due_f T._law_due_fd ["_law_shapes_here", "_law_name_here"] (spV K (cP vDue))) : FnV P w K mg base 3 T.law_f T.law_fd ["_law_script"] (spV K (cP pLaw)) := by
  refine fnP ret1F T.law_F sc_law (fun ds Q h => by first | (obtain ⟨rfl, _⟩ := h; rfl) | (obtain ⟨_, rfl, _⟩ := h; rfl) | (obtain ⟨_, _, rfl, _⟩ := h; rfl) | (obtain ⟨_, _, _, rfl, _⟩ := h; rfl) | (obtain ⟨_, _, _, _, rfl, _⟩ := h; rfl)) fun cdv A outer sh H E hr free ds Q hC => ?_
  have hu := hr.units
  have hu1 := hu_of hr
  refine ⟨_, (vb_cons (vs_set (i := 1) sc_law.nd rfl (by first | exact Or.inl rfl | exact Or.inr rfl) rfl (ve_callP G__law_deal (hr.mono (by first | decide | omega)) free rfl T._law_deal_g T._law_deal_F.kp T._law_deal_b .nil (fun _ => .nil) (va_cons (ve_var 0) (va_cons ve_int va_nil))))
  (vb_cons (vs_set (i := 2) sc_law.nd rfl (by first | exact Or.inl rfl | exact Or.inr rfl) rfl (ve_lst va_nil))
  (vb_cons (vs_for (passes_of rfl) rfl (vi_range1 rfl T.z_range (va_cons (ve_callB (cv_max2 rfl) rfl T.z_max (by decide +kernel) (va_cons ve_int (va_cons (ve_callB (cv_min2 rfl) rfl T.z_min (by decide +kernel) (va_cons ve_int (va_cons (ve_callB (cv_len) rfl T.z_len (by decide +kernel) (va_cons (ve_var 0) va_nil)) va_nil))) va_nil))) va_nil)) (vg_name (i := 3) sc_law.nd rfl (by first | exact Or.inl rfl | exact Or.inr rfl) rfl) (vb_cons (vs_set (i := 4) sc_law.nd rfl (by first | exact Or.inl rfl | exact Or.inr rfl) rfl (ve_callD G__law_unlike (hr.mono (by first | decide | omega)) free rfl T._law_unlike_g T._law_unlike_F.kp T._law_unlike_b .nil (fun _ => .nil) (va_cons (ve_var 1) (va_cons ve_int va_nil))))
  (vb_cons (vs_set (i := 5) sc_law.nd rfl (by first | exact Or.inl rfl | exact Or.inr rfl) rfl (ve_callD G__law_shapes (hr.mono (by first | decide | omega)) free rfl T._law_shapes_g T._law_shapes_F.kp T._law_shapes_b .nil (fun _ => .nil) (va_cons (ve_var 1) (va_cons (ve_var 4) va_nil))))
  (vb_cons (vs_if (vt_cmp (ov_eq hu) (ve_callD G__law_draw (hr.mono (by first | decide | omega)) free rfl T._law_draw_g T._law_draw_F.kp T._law_draw_b .nil (fun _ => .nil) (va_cons (ve_var 1) (va_cons ve_int va_nil))) ve_int (nomark _)) (vb_one (vs_set (i := 5) sc_law.nd rfl (by first | exact Or.inl rfl | exact Or.inr rfl) rfl (ve_bin ov_add (ve_tup (va_cons (ve_tup (va_cons (ve_ix hu1 (ve_ix hu1 (ve_ix hu1 (ve_ix hu1 (ve_var 5) (ve_un uv_neg ve_int) (fun _ _ => rfl)) ve_int (fun _ _ => rfl)) (ve_callD G__law_draw (hr.mono (by first | decide | omega)) free rfl T._law_draw_g T._law_draw_F.kp T._law_draw_b .nil (fun _ => .nil) (va_cons (ve_var 1) (va_cons ve_int va_nil))) (fun _ _ => rfl)) ve_int (fun _ _ => rfl)) (va_cons (ve_ix hu1 (ve_ix hu1 (ve_var 5) ve_int (fun _ _ => rfl)) ve_int (fun _ _ => rfl)) va_nil))) va_nil)) (ve_slice (ve_var 5) (vo_some ve_int) vo_none)))) vb_nil)
  (vb_one (vs_expr (ve_extend (ve_var 2) (ve_lc (own := [("_law_name_here", 6)]) rfl sc_law.nd (vi_seq (ve_bin ov_add (ve_var 4) (ve_lst (va_cons (ve_callD G__law_name (hr.mono (by first | decide | omega)) free rfl T._law_name_g T._law_name_F.kp T._law_name_b .nil (fun _ => .nil) (va_cons (ve_var 1) va_nil)) (va_cons (ve_slice (ve_ix hu1 (ve_var 4) ve_int (fun _ _ => rfl)) (vo_some ve_int) vo_none) (va_cons (ve_bin ov_add (ve_ix hu1 (ve_var 4) ve_int (fun _ _ => rfl)) ve_str) (va_cons ve_str va_nil))))))) (blkOk_by (N := ["_law_script", "_law_deal_here", "_law_asked", "_law_turn", "_law_names", "_law_shapes_here", "_law_name_here"]) (sc := defScope s_law) (by decide +kernel)) (by simp) (fun _ _ _ _ _ => (vg_name (i := 6) sc_law.nd rfl (Or.inl rfl) rfl)) (fun _ _ _ _ _ => vts_nil) (fun _ _ _ _ _ => (ve_tup (va_cons (ve_var 5) (va_cons (ve_var 6) va_nil))))))))))))
  (vb_cons (vs_for (passes_of rfl) rfl (vi_seq (ve_bin ov_add (ve_var 2) (ve_slice (ve_var 2) vo_none (vo_some ve_int)))) (vg_tup (n := 2) rfl (vgs_cons (vg_name (i := 5) sc_law.nd rfl (by first | exact Or.inl rfl | exact Or.inr rfl) rfl) (vgs_cons (vg_name (i := 6) sc_law.nd rfl (by first | exact Or.inl rfl | exact Or.inr rfl) rfl) vgs_nil))) (vb_one (vs_if (VW.vt (vw_or (vt_cmp (ov_ne hu) (ve_callB (cv_repr hu free) rfl T.z_repr (by decide +kernel) (va_cons (ve_callP G_bead_of (hr.mono (by first | decide | omega)) free rfl T.bead_of_g T.bead_of_F.kp T.bead_of_b .nil (fun _ => .nil) (va_cons (ve_var 5) (va_cons (ve_var 6) va_nil))) va_nil)) (ve_callB (cv_repr hu free) rfl T.z_repr (by decide +kernel) (va_cons (ve_callP G__law_due (hr.mono (by first | decide | omega)) free rfl T._law_due_g T._law_due_F.kp T._law_due_b .nil (fun _ => .nil) (va_cons (ve_var 5) (va_cons (ve_var 6) va_nil))) va_nil)) (nomark _)) (vw_or1 (vt_cmp ov_notN (ve_callP G_bead_of (hr.mono (by first | decide | omega)) free rfl T.bead_of_g T.bead_of_F.kp T.bead_of_b .nil (fun _ => .nil) (va_cons (ve_tup va_nil) (va_cons (ve_var 6) va_nil))) ve_non (nomark _))))) (vb_one (vs_ret ve_bl)) vb_nil)))
  (vb_one (vs_ret ve_bl)))))), ?_⟩
  obtain ⟨ns, rfl, hl, hQ⟩ := hC
  repeat' ((conv => whnf); first | ((with_reducible apply Sy.one?.yes); (· first | exact rfl | ((conv => lhs; whnf); first | with_reducible exact Sy.strsD_map _ | with_reducible exact Vy.blsD_rep _ _))) | ((with_reducible apply Sy.both.yes); (· exact rfl); (· exact rfl)) | (with_reducible apply Sy.both.els) | ((refine Vy.Got.here ?_ ?_); (· first | with_reducible rfl | decide +kernel)) | ((refine Vy.Got.next ?_ ?_); (· decide +kernel)) | ((with_reducible refine Sy.IfB.t ?_ ?_); (· first | with_reducible rfl | decide +kernel)) | ((with_reducible refine Sy.IfB.f ?_ ?_); (· first | with_reducible rfl | decide +kernel)) | (with_reducible refine Sy.IfB.mk (fun _ => ?_) (fun _ => ?_)) | ((with_reducible apply Vy.mkT.yes); (· exact rfl)) | (with_reducible apply Vy.mkT.els) | ((with_reducible apply Vy.mkL.yes); (· exact rfl)) | (with_reducible apply Vy.mkL.els) | ((with_reducible apply Vy.eqOp.sc); (· exact rfl); (· exact rfl); (· exact rfl)) | ((with_reducible refine Vy.SetAt.di ?_); show Sy.one? _ _) | ((with_reducible refine Vy.SetAt.ls ?_); show Sy.one? _ _) | (with_reducible refine And.intro (Sy.Hold.out ?_) ?_))
  all_goals try (refine Sy.Hold.mk ?_; first | exact trivial | exact rfl | exact Sy.mulA (by omega) (by omega) | exact Sy.mulB (by omega) (by omega) | exact Sy.divA (by omega) (by omega) | exact Sy.smlA (by omega) (by omega) | exact Sy.szLt rfl | exact Sy.szLe rfl | exact Sy.szLe' (by omega) | exact ⟨by omega, by omega⟩ | (rw [List.length_map]; exact Sy.szLt' (by omega)) | (show (0 : Int) < _; first | omega | decide +kernel) | decide +kernel | (simp only [Vy.e_len, Vy.q_len, Vy.x_len, Vy.z_len, Vy.one_len, strLen_append, Sy.repS_len, List.length_map, List.length_append, List.length_cons, List.length_nil]; first | omega | exact Sy.szLe' (by omega) | exact Sy.szLt' (by omega) | exact Vy.cut_add (Sy.szLe' (by omega)) | exact Vy.add_cut (Sy.szLe' (by omega)) | exact Vy.cut_add (Vy.add_cut (Sy.szLe' (by omega)))) | exact ⟨by omega, by omega, by simp only [Vy.e_len, Vy.q_len, Vy.x_len, Vy.z_len, Vy.one_len]; omega, by simp only [Vy.e_len, Vy.q_len, Vy.x_len, Vy.z_len, Vy.one_len]; omega⟩ | exact Sy.szLe' (Nat.le_trans (Nat.add_le_add (Sy.cutL_le _ _ _) (Sy.cutL_le _ _ _)) (by simp only [List.length_map]; omega)) | exact Vy.flat_strs _ | exact Sy.szLe' (Nat.le_trans (Nat.add_le_add (Nat.le_refl _) (Sy.cutL_le _ _ _)) (by simp only [List.length_map, List.length_cons, List.length_nil]; omega)) | exact Sy.szLe' (Nat.le_trans (Nat.add_le_add (Sy.cutL_le _ _ _) (Nat.le_refl _)) (by simp only [List.length_map, List.length_cons, List.length_nil]; omega)) | exact ⟨rfl, Nat.le_of_ble_eq_true rfl, by decide +kernel⟩ | (refine ⟨?_, ?_, ?_⟩ <;> decide +kernel))
  refine ⟨ns, 0, rfl, ⟨hl, by decide, by decide⟩, ?_⟩
  repeat' ((conv => whnf); first | ((with_reducible apply Sy.one?.yes); (· first | exact rfl | ((conv => lhs; whnf); first | with_reducible exact Sy.strsD_map _ | with_reducible exact Vy.blsD_rep _ _))) | ((with_reducible apply Sy.both.yes); (· exact rfl); (· exact rfl)) | (with_reducible apply Sy.both.els) | ((refine Vy.Got.here ?_ ?_); (· first | with_reducible rfl | decide +kernel)) | ((refine Vy.Got.next ?_ ?_); (· decide +kernel)) | ((with_reducible refine Sy.IfB.t ?_ ?_); (· first | with_reducible rfl | decide +kernel)) | ((with_reducible refine Sy.IfB.f ?_ ?_); (· first | with_reducible rfl | decide +kernel)) | (with_reducible refine Sy.IfB.mk (fun _ => ?_) (fun _ => ?_)) | ((with_reducible apply Vy.mkT.yes); (· exact rfl)) | (with_reducible apply Vy.mkT.els) | ((with_reducible apply Vy.mkL.yes); (· exact rfl)) | (with_reducible apply Vy.mkL.els) | ((with_reducible apply Vy.eqOp.sc); (· exact rfl); (· exact rfl); (· exact rfl)) | ((with_reducible refine Vy.SetAt.di ?_); show Sy.one? _ _) | ((with_reducible refine Vy.SetAt.ls ?_); show Sy.one? _ _) | (with_reducible refine And.intro (Sy.Hold.out ?_) ?_))
  all_goals try (refine Sy.Hold.mk ?_; first | exact trivial | exact rfl | exact Sy.mulA (by omega) (by omega) | exact Sy.mulB (by omega) (by omega) | exact Sy.divA (by omega) (by omega) | exact Sy.smlA (by omega) (by omega) | exact Sy.szLt rfl | exact Sy.szLe rfl | exact Sy.szLe' (by omega) | exact ⟨by omega, by omega⟩ | (rw [List.length_map]; exact Sy.szLt' (by omega)) | (show (0 : Int) < _; first | omega | decide +kernel) | decide +kernel | (simp only [Vy.e_len, Vy.q_len, Vy.x_len, Vy.z_len, Vy.one_len, strLen_append, Sy.repS_len, List.length_map, List.length_append, List.length_cons, List.length_nil]; first | omega | exact Sy.szLe' (by omega) | exact Sy.szLt' (by omega) | exact Vy.cut_add (Sy.szLe' (by omega)) | exact Vy.add_cut (Sy.szLe' (by omega)) | exact Vy.cut_add (Vy.add_cut (Sy.szLe' (by omega)))) | exact ⟨by omega, by omega, by simp only [Vy.e_len, Vy.q_len, Vy.x_len, Vy.z_len, Vy.one_len]; omega, by simp only [Vy.e_len, Vy.q_len, Vy.x_len, Vy.z_len, Vy.one_len]; omega⟩ | exact Sy.szLe' (Nat.le_trans (Nat.add_le_add (Sy.cutL_le _ _ _) (Sy.cutL_le _ _ _)) (by simp only [List.length_map]; omega)) | exact Vy.flat_strs _ | exact Sy.szLe' (Nat.le_trans (Nat.add_le_add (Nat.le_refl _) (Sy.cutL_le _ _ _)) (by simp only [List.length_map, List.length_cons, List.length_nil]; omega)) | exact Sy.szLe' (Nat.le_trans (Nat.add_le_add (Sy.cutL_le _ _ _) (Nat.le_refl _)) (by simp only [List.length_map, List.length_cons, List.length_nil]; omega)) | exact ⟨rfl, Nat.le_of_ble_eq_true rfl, by decide +kernel⟩ | (refine ⟨?_, ?_, ?_⟩ <;> decide +kernel))
  · refine ⟨?_⟩
    show -(2 ^ 62) ≤ _ ∧ _ < _
    simp only [List.length_map]
    constructor <;> (repeat' split) <;> omega
  refine loopI (fun E i en => ∃ (qs : List (List Shape × Str)) (u_turn : Val) (u_names : Val) (u_shapes_here : Val), en = upds E [(2, .lD (qs.map askD)), (3, u_turn), (4, u_names), (5, u_shapes_here)] ∧ (qs.length ≤ 22 * i ∧ ∀ q ∈ qs, AskP q)) ⟨?_, fun i x en2 hx hI => ?_, fun en2 hI => ?_⟩
  · exact .now ⟨[], _, _, _, rfl, Nat.le_refl _, fun _ h => nomatch h⟩
  · obtain ⟨qs, u1, u2, u3, rfl, hql, hqs⟩ := hI
    obtain ⟨rfl, hi⟩ := rng_get hx
    have hi3 : i < 3 := by
      simp only [List.length_map] at hi
      revert hi
      (repeat' split) <;> omega
    repeat' ((conv => whnf); first | ((with_reducible apply Sy.one?.yes); (· first | exact rfl | ((conv => lhs; whnf); first | with_reducible exact Sy.strsD_map _ | with_reducible exact Vy.blsD_rep _ _))) | ((with_reducible apply Sy.both.yes); (· exact rfl); (· exact rfl)) | (with_reducible apply Sy.both.els) | ((refine Vy.Got.here ?_ ?_); (· first | with_reducible rfl | decide +kernel)) | ((refine Vy.Got.next ?_ ?_); (· decide +kernel)) | ((with_reducible refine Sy.IfB.t ?_ ?_); (· first | with_reducible rfl | decide +kernel)) | ((with_reducible refine Sy.IfB.f ?_ ?_); (· first | with_reducible rfl | decide +kernel)) | (with_reducible refine Sy.IfB.mk (fun _ => ?_) (fun _ => ?_)) | ((with_reducible apply Vy.mkT.yes); (· exact rfl)) | (with_reducible apply Vy.mkT.els) | ((with_reducible apply Vy.mkL.yes); (· exact rfl)) | (with_reducible apply Vy.mkL.els) | ((with_reducible apply Vy.eqOp.sc); (· exact rfl); (· exact rfl); (· exact rfl)) | ((with_reducible refine Vy.SetAt.di ?_); show Sy.one? _ _) | ((with_reducible refine Vy.SetAt.ls ?_); show Sy.one? _ _) | (with_reducible refine And.intro (Sy.Hold.out ?_) ?_))
    all_goals try (refine Sy.Hold.mk ?_; first | exact trivial | exact rfl | exact Sy.mulA (by omega) (by omega) | exact Sy.mulB (by omega) (by omega) | exact Sy.divA (by omega) (by omega) | exact Sy.smlA (by omega) (by omega) | exact Sy.szLt rfl | exact Sy.szLe rfl | exact Sy.szLe' (by omega) | exact ⟨by omega, by omega⟩ | (rw [List.length_map]; exact Sy.szLt' (by omega)) | (show (0 : Int) < _; first | omega | decide +kernel) | decide +kernel | (simp only [Vy.e_len, Vy.q_len, Vy.x_len, Vy.z_len, Vy.one_len, strLen_append, Sy.repS_len, List.length_map, List.length_append, List.length_cons, List.length_nil]; first | omega | exact Sy.szLe' (by omega) | exact Sy.szLt' (by omega) | exact Vy.cut_add (Sy.szLe' (by omega)) | exact Vy.add_cut (Sy.szLe' (by omega)) | exact Vy.cut_add (Vy.add_cut (Sy.szLe' (by omega)))) | exact ⟨by omega, by omega, by simp only [Vy.e_len, Vy.q_len, Vy.x_len, Vy.z_len, Vy.one_len]; omega, by simp only [Vy.e_len, Vy.q_len, Vy.x_len, Vy.z_len, Vy.one_len]; omega⟩ | exact Sy.szLe' (Nat.le_trans (Nat.add_le_add (Sy.cutL_le _ _ _) (Sy.cutL_le _ _ _)) (by simp only [List.length_map]; omega)) | exact Vy.flat_strs _ | exact Sy.szLe' (Nat.le_trans (Nat.add_le_add (Nat.le_refl _) (Sy.cutL_le _ _ _)) (by simp only [List.length_map, List.length_cons, List.length_nil]; omega)) | exact Sy.szLe' (Nat.le_trans (Nat.add_le_add (Sy.cutL_le _ _ _) (Nat.le_refl _)) (by simp only [List.length_map, List.length_cons, List.length_nil]; omega)) | exact ⟨rfl, Nat.le_of_ble_eq_true rfl, by decide +kernel⟩ | (refine ⟨?_, ?_, ?_⟩ <;> decide +kernel))
    refine ⟨18, rfl, ⟨by decide, by decide⟩, fun nms hnl hnm => ?_⟩
    have hnl' : nms.length = 18 := by omega
    repeat' ((conv => whnf); first | ((with_reducible apply Sy.one?.yes); (· first | exact rfl | ((conv => lhs; whnf); first | with_reducible exact Sy.strsD_map _ | with_reducible exact Vy.blsD_rep _ _))) | ((with_reducible apply Sy.both.yes); (· exact rfl); (· exact rfl)) | (with_reducible apply Sy.both.els) | ((refine Vy.Got.here ?_ ?_); (· first | with_reducible rfl | decide +kernel)) | ((refine Vy.Got.next ?_ ?_); (· decide +kernel)) | ((with_reducible refine Sy.IfB.t ?_ ?_); (· first | with_reducible rfl | decide +kernel)) | ((with_reducible refine Sy.IfB.f ?_ ?_); (· first | with_reducible rfl | decide +kernel)) | (with_reducible refine Sy.IfB.mk (fun _ => ?_) (fun _ => ?_)) | ((with_reducible apply Vy.mkT.yes); (· exact rfl)) | (with_reducible apply Vy.mkT.els) | ((with_reducible apply Vy.mkL.yes); (· exact rfl)) | (with_reducible apply Vy.mkL.els) | ((with_reducible apply Vy.eqOp.sc); (· exact rfl); (· exact rfl); (· exact rfl)) | ((with_reducible refine Vy.SetAt.di ?_); show Sy.one? _ _) | ((with_reducible refine Vy.SetAt.ls ?_); show Sy.one? _ _) | (with_reducible refine And.intro (Sy.Hold.out ?_) ?_))
    all_goals try (refine Sy.Hold.mk ?_; first | exact trivial | exact rfl | exact Sy.mulA (by omega) (by omega) | exact Sy.mulB (by omega) (by omega) | exact Sy.divA (by omega) (by omega) | exact Sy.smlA (by omega) (by omega) | exact Sy.szLt rfl | exact Sy.szLe rfl | exact Sy.szLe' (by omega) | exact ⟨by omega, by omega⟩ | (rw [List.length_map]; exact Sy.szLt' (by omega)) | (show (0 : Int) < _; first | omega | decide +kernel) | decide +kernel | (simp only [Vy.e_len, Vy.q_len, Vy.x_len, Vy.z_len, Vy.one_len, strLen_append, Sy.repS_len, List.length_map, List.length_append, List.length_cons, List.length_nil]; first | omega | exact Sy.szLe' (by omega) | exact Sy.szLt' (by omega) | exact Vy.cut_add (Sy.szLe' (by omega)) | exact Vy.add_cut (Sy.szLe' (by omega)) | exact Vy.cut_add (Vy.add_cut (Sy.szLe' (by omega)))) | exact ⟨by omega, by omega, by simp only [Vy.e_len, Vy.q_len, Vy.x_len, Vy.z_len, Vy.one_len]; omega, by simp only [Vy.e_len, Vy.q_len, Vy.x_len, Vy.z_len, Vy.one_len]; omega⟩ | exact Sy.szLe' (Nat.le_trans (Nat.add_le_add (Sy.cutL_le _ _ _) (Sy.cutL_le _ _ _)) (by simp only [List.length_map]; omega)) | exact Vy.flat_strs _ | exact Sy.szLe' (Nat.le_trans (Nat.add_le_add (Nat.le_refl _) (Sy.cutL_le _ _ _)) (by simp only [List.length_map, List.length_cons, List.length_nil]; omega)) | exact Sy.szLe' (Nat.le_trans (Nat.add_le_add (Sy.cutL_le _ _ _) (Nat.le_refl _)) (by simp only [List.length_map, List.length_cons, List.length_nil]; omega)) | exact ⟨rfl, Nat.le_of_ble_eq_true rfl, by decide +kernel⟩ | (refine ⟨?_, ?_, ?_⟩ <;> decide +kernel))
    refine ⟨nms, rfl, ⟨hnl', hnm⟩, fun shs h1 h3 hsp => ?_⟩
    repeat' ((conv => whnf); first | ((with_reducible apply Sy.one?.yes); (· first | exact rfl | ((conv => lhs; whnf); first | with_reducible exact Sy.strsD_map _ | with_reducible exact Vy.blsD_rep _ _))) | ((with_reducible apply Sy.both.yes); (· exact rfl); (· exact rfl)) | (with_reducible apply Sy.both.els) | ((refine Vy.Got.here ?_ ?_); (· first | with_reducible rfl | decide +kernel)) | ((refine Vy.Got.next ?_ ?_); (· decide +kernel)) | ((with_reducible refine Sy.IfB.t ?_ ?_); (· first | with_reducible rfl | decide +kernel)) | ((with_reducible refine Sy.IfB.f ?_ ?_); (· first | with_reducible rfl | decide +kernel)) | (with_reducible refine Sy.IfB.mk (fun _ => ?_) (fun _ => ?_)) | ((with_reducible apply Vy.mkT.yes); (· exact rfl)) | (with_reducible apply Vy.mkT.els) | ((with_reducible apply Vy.mkL.yes); (· exact rfl)) | (with_reducible apply Vy.mkL.els) | ((with_reducible apply Vy.eqOp.sc); (· exact rfl); (· exact rfl); (· exact rfl)) | ((with_reducible refine Vy.SetAt.di ?_); show Sy.one? _ _) | ((with_reducible refine Vy.SetAt.ls ?_); show Sy.one? _ _) | (with_reducible refine And.intro (Sy.Hold.out ?_) ?_))
    all_goals try (refine Sy.Hold.mk ?_; first | exact trivial | exact rfl | exact Sy.mulA (by omega) (by omega) | exact Sy.mulB (by omega) (by omega) | exact Sy.divA (by omega) (by omega) | exact Sy.smlA (by omega) (by omega) | exact Sy.szLt rfl | exact Sy.szLe rfl | exact Sy.szLe' (by omega) | exact ⟨by omega, by omega⟩ | (rw [List.length_map]; exact Sy.szLt' (by omega)) | (show (0 : Int) < _; first | omega | decide +kernel) | decide +kernel | (simp only [Vy.e_len, Vy.q_len, Vy.x_len, Vy.z_len, Vy.one_len, strLen_append, Sy.repS_len, List.length_map, List.length_append, List.length_cons, List.length_nil]; first | omega | exact Sy.szLe' (by omega) | exact Sy.szLt' (by omega) | exact Vy.cut_add (Sy.szLe' (by omega)) | exact Vy.add_cut (Sy.szLe' (by omega)) | exact Vy.cut_add (Vy.add_cut (Sy.szLe' (by omega)))) | exact ⟨by omega, by omega, by simp only [Vy.e_len, Vy.q_len, Vy.x_len, Vy.z_len, Vy.one_len]; omega, by simp only [Vy.e_len, Vy.q_len, Vy.x_len, Vy.z_len, Vy.one_len]; omega⟩ | exact Sy.szLe' (Nat.le_trans (Nat.add_le_add (Sy.cutL_le _ _ _) (Sy.cutL_le _ _ _)) (by simp only [List.length_map]; omega)) | exact Vy.flat_strs _ | exact Sy.szLe' (Nat.le_trans (Nat.add_le_add (Nat.le_refl _) (Sy.cutL_le _ _ _)) (by simp only [List.length_map, List.length_cons, List.length_nil]; omega)) | exact Sy.szLe' (Nat.le_trans (Nat.add_le_add (Sy.cutL_le _ _ _) (Nat.le_refl _)) (by simp only [List.length_map, List.length_cons, List.length_nil]; omega)) | exact ⟨rfl, Nat.le_of_ble_eq_true rfl, by decide +kernel⟩ | (refine ⟨?_, ?_, ?_⟩ <;> decide +kernel))
    refine ⟨3, rfl, ⟨by omega, by omega⟩, fun r h4 h5 => ?_⟩
    repeat' ((conv => whnf); first | ((with_reducible apply Sy.one?.yes); (· first | exact rfl | ((conv => lhs; whnf); first | with_reducible exact Sy.strsD_map _ | with_reducible exact Vy.blsD_rep _ _))) | ((with_reducible apply Sy.both.yes); (· exact rfl); (· exact rfl)) | (with_reducible apply Sy.both.els) | ((refine Vy.Got.here ?_ ?_); (· first | with_reducible rfl | decide +kernel)) | ((refine Vy.Got.next ?_ ?_); (· decide +kernel)) | ((with_reducible refine Sy.IfB.t ?_ ?_); (· first | with_reducible rfl | decide +kernel)) | ((with_reducible refine Sy.IfB.f ?_ ?_); (· first | with_reducible rfl | decide +kernel)) | (with_reducible refine Sy.IfB.mk (fun _ => ?_) (fun _ => ?_)) | ((with_reducible apply Vy.mkT.yes); (· exact rfl)) | (with_reducible apply Vy.mkT.els) | ((with_reducible apply Vy.mkL.yes); (· exact rfl)) | (with_reducible apply Vy.mkL.els) | ((with_reducible apply Vy.eqOp.sc); (· exact rfl); (· exact rfl); (· exact rfl)) | ((with_reducible refine Vy.SetAt.di ?_); show Sy.one? _ _) | ((with_reducible refine Vy.SetAt.ls ?_); show Sy.one? _ _) | (with_reducible refine And.intro (Sy.Hold.out ?_) ?_))
    all_goals try (refine Sy.Hold.mk ?_; first | exact trivial | exact rfl | exact Sy.mulA (by omega) (by omega) | exact Sy.mulB (by omega) (by omega) | exact Sy.divA (by omega) (by omega) | exact Sy.smlA (by omega) (by omega) | exact Sy.szLt rfl | exact Sy.szLe rfl | exact Sy.szLe' (by omega) | exact ⟨by omega, by omega⟩ | (rw [List.length_map]; exact Sy.szLt' (by omega)) | (show (0 : Int) < _; first | omega | decide +kernel) | decide +kernel | (simp only [Vy.e_len, Vy.q_len, Vy.x_len, Vy.z_len, Vy.one_len, strLen_append, Sy.repS_len, List.length_map, List.length_append, List.length_cons, List.length_nil]; first | omega | exact Sy.szLe' (by omega) | exact Sy.szLt' (by omega) | exact Vy.cut_add (Sy.szLe' (by omega)) | exact Vy.add_cut (Sy.szLe' (by omega)) | exact Vy.cut_add (Vy.add_cut (Sy.szLe' (by omega)))) | exact ⟨by omega, by omega, by simp only [Vy.e_len, Vy.q_len, Vy.x_len, Vy.z_len, Vy.one_len]; omega, by simp only [Vy.e_len, Vy.q_len, Vy.x_len, Vy.z_len, Vy.one_len]; omega⟩ | exact Sy.szLe' (Nat.le_trans (Nat.add_le_add (Sy.cutL_le _ _ _) (Sy.cutL_le _ _ _)) (by simp only [List.length_map]; omega)) | exact Vy.flat_strs _ | exact Sy.szLe' (Nat.le_trans (Nat.add_le_add (Nat.le_refl _) (Sy.cutL_le _ _ _)) (by simp only [List.length_map, List.length_cons, List.length_nil]; omega)) | exact Sy.szLe' (Nat.le_trans (Nat.add_le_add (Sy.cutL_le _ _ _) (Nat.le_refl _)) (by simp only [List.length_map, List.length_cons, List.length_nil]; omega)) | exact ⟨rfl, Nat.le_of_ble_eq_true rfl, by decide +kernel⟩ | (refine ⟨?_, ?_, ?_⟩ <;> decide +kernel))
    · obtain ⟨sl, hslm, hsl⟩ := atI_neg1 (xs := shs) (by omega)
      obtain ⟨s0, hs0m, hs0⟩ := atI_ge (xs := shs) (i := 0) (by omega) (by omega)
      refine one?.yes ((atI_map shD shs _).trans (congrArg _ hsl)) ?_
      repeat' ((conv => whnf); first | ((with_reducible apply Sy.one?.yes); (· first | exact rfl | ((conv => lhs; whnf); first | with_reducible exact Sy.strsD_map _ | with_reducible exact Vy.blsD_rep _ _))) | ((with_reducible apply Sy.both.yes); (· exact rfl); (· exact rfl)) | (with_reducible apply Sy.both.els) | ((refine Vy.Got.here ?_ ?_); (· first | with_reducible rfl | decide +kernel)) | ((refine Vy.Got.next ?_ ?_); (· decide +kernel)) | ((with_reducible refine Sy.IfB.t ?_ ?_); (· first | with_reducible rfl | decide +kernel)) | ((with_reducible refine Sy.IfB.f ?_ ?_); (· first | with_reducible rfl | decide +kernel)) | (with_reducible refine Sy.IfB.mk (fun _ => ?_) (fun _ => ?_)) | ((with_reducible apply Vy.mkT.yes); (· exact rfl)) | (with_reducible apply Vy.mkT.els) | ((with_reducible apply Vy.mkL.yes); (· exact rfl)) | (with_reducible apply Vy.mkL.els) | ((with_reducible apply Vy.eqOp.sc); (· exact rfl); (· exact rfl); (· exact rfl)) | ((with_reducible refine Vy.SetAt.di ?_); show Sy.one? _ _) | ((with_reducible refine Vy.SetAt.ls ?_); show Sy.one? _ _) | (with_reducible refine And.intro (Sy.Hold.out ?_) ?_))
      all_goals try (refine Sy.Hold.mk ?_; first | exact trivial | exact rfl | exact Sy.mulA (by omega) (by omega) | exact Sy.mulB (by omega) (by omega) | exact Sy.divA (by omega) (by omega) | exact Sy.smlA (by omega) (by omega) | exact Sy.szLt rfl | exact Sy.szLe rfl | exact Sy.szLe' (by omega) | exact ⟨by omega, by omega⟩ | (rw [List.length_map]; exact Sy.szLt' (by omega)) | (show (0 : Int) < _; first | omega | decide +kernel) | decide +kernel | (simp only [Vy.e_len, Vy.q_len, Vy.x_len, Vy.z_len, Vy.one_len, strLen_append, Sy.repS_len, List.length_map, List.length_append, List.length_cons, List.length_nil]; first | omega | exact Sy.szLe' (by omega) | exact Sy.szLt' (by omega) | exact Vy.cut_add (Sy.szLe' (by omega)) | exact Vy.add_cut (Sy.szLe' (by omega)) | exact Vy.cut_add (Vy.add_cut (Sy.szLe' (by omega)))) | exact ⟨by omega, by omega, by simp only [Vy.e_len, Vy.q_len, Vy.x_len, Vy.z_len, Vy.one_len]; omega, by simp only [Vy.e_len, Vy.q_len, Vy.x_len, Vy.z_len, Vy.one_len]; omega⟩ | exact Sy.szLe' (Nat.le_trans (Nat.add_le_add (Sy.cutL_le _ _ _) (Sy.cutL_le _ _ _)) (by simp only [List.length_map]; omega)) | exact Vy.flat_strs _ | exact Sy.szLe' (Nat.le_trans (Nat.add_le_add (Nat.le_refl _) (Sy.cutL_le _ _ _)) (by simp only [List.length_map, List.length_cons, List.length_nil]; omega)) | exact Sy.szLe' (Nat.le_trans (Nat.add_le_add (Sy.cutL_le _ _ _) (Nat.le_refl _)) (by simp only [List.length_map, List.length_cons, List.length_nil]; omega)) | exact ⟨rfl, Nat.le_of_ble_eq_true rfl, by decide +kernel⟩ | (refine ⟨?_, ?_, ?_⟩ <;> decide +kernel))
      refine ⟨2, rfl, ⟨by omega, by omega⟩, fun r2 h6 h7 => ?_⟩
      repeat' ((conv => whnf); first | ((with_reducible apply Sy.one?.yes); (· first | exact rfl | ((conv => lhs; whnf); first | with_reducible exact Sy.strsD_map _ | with_reducible exact Vy.blsD_rep _ _))) | ((with_reducible apply Sy.both.yes); (· exact rfl); (· exact rfl)) | (with_reducible apply Sy.both.els) | ((refine Vy.Got.here ?_ ?_); (· first | with_reducible rfl | decide +kernel)) | ((refine Vy.Got.next ?_ ?_); (· decide +kernel)) | ((with_reducible refine Sy.IfB.t ?_ ?_); (· first | with_reducible rfl | decide +kernel)) | ((with_reducible refine Sy.IfB.f ?_ ?_); (· first | with_reducible rfl | decide +kernel)) | (with_reducible refine Sy.IfB.mk (fun _ => ?_) (fun _ => ?_)) | ((with_reducible apply Vy.mkT.yes); (· exact rfl)) | (with_reducible apply Vy.mkT.els) | ((with_reducible apply Vy.mkL.yes); (· exact rfl)) | (with_reducible apply Vy.mkL.els) | ((with_reducible apply Vy.eqOp.sc); (· exact rfl); (· exact rfl); (· exact rfl)) | ((with_reducible refine Vy.SetAt.di ?_); show Sy.one? _ _) | ((with_reducible refine Vy.SetAt.ls ?_); show Sy.one? _ _) | (with_reducible refine And.intro (Sy.Hold.out ?_) ?_))
      all_goals try (refine Sy.Hold.mk ?_; first | exact trivial | exact rfl | exact Sy.mulA (by omega) (by omega) | exact Sy.mulB (by omega) (by omega) | exact Sy.divA (by omega) (by omega) | exact Sy.smlA (by omega) (by omega) | exact Sy.szLt rfl | exact Sy.szLe rfl | exact Sy.szLe' (by omega) | exact ⟨by omega, by omega⟩ | (rw [List.length_map]; exact Sy.szLt' (by omega)) | (show (0 : Int) < _; first | omega | decide +kernel) | decide +kernel | (simp only [Vy.e_len, Vy.q_len, Vy.x_len, Vy.z_len, Vy.one_len, strLen_append, Sy.repS_len, List.length_map, List.length_append, List.length_cons, List.length_nil]; first | omega | exact Sy.szLe' (by omega) | exact Sy.szLt' (by omega) | exact Vy.cut_add (Sy.szLe' (by omega)) | exact Vy.add_cut (Sy.szLe' (by omega)) | exact Vy.cut_add (Vy.add_cut (Sy.szLe' (by omega)))) | exact ⟨by omega, by omega, by simp only [Vy.e_len, Vy.q_len, Vy.x_len, Vy.z_len, Vy.one_len]; omega, by simp only [Vy.e_len, Vy.q_len, Vy.x_len, Vy.z_len, Vy.one_len]; omega⟩ | exact Sy.szLe' (Nat.le_trans (Nat.add_le_add (Sy.cutL_le _ _ _) (Sy.cutL_le _ _ _)) (by simp only [List.length_map]; omega)) | exact Vy.flat_strs _ | exact Sy.szLe' (Nat.le_trans (Nat.add_le_add (Nat.le_refl _) (Sy.cutL_le _ _ _)) (by simp only [List.length_map, List.length_cons, List.length_nil]; omega)) | exact Sy.szLe' (Nat.le_trans (Nat.add_le_add (Sy.cutL_le _ _ _) (Nat.le_refl _)) (by simp only [List.length_map, List.length_cons, List.length_nil]; omega)) | exact ⟨rfl, Nat.le_of_ble_eq_true rfl, by decide +kernel⟩ | (refine ⟨?_, ?_, ?_⟩ <;> decide +kernel))
      have hbl := (hsp sl hslm).2.1
      obtain ⟨b, hbm, hb⟩ := atI_ge (xs := sl.2) (i := r2) h6 (by omega)
      refine one?.yes ((atI_map bD sl.2 _).trans (congrArg _ hb)) ?_
      repeat' ((conv => whnf); first | ((with_reducible apply Sy.one?.yes); (· first | exact rfl | ((conv => lhs; whnf); first | with_reducible exact Sy.strsD_map _ | with_reducible exact Vy.blsD_rep _ _))) | ((with_reducible apply Sy.both.yes); (· exact rfl); (· exact rfl)) | (with_reducible apply Sy.both.els) | ((refine Vy.Got.here ?_ ?_); (· first | with_reducible rfl | decide +kernel)) | ((refine Vy.Got.next ?_ ?_); (· decide +kernel)) | ((with_reducible refine Sy.IfB.t ?_ ?_); (· first | with_reducible rfl | decide +kernel)) | ((with_reducible refine Sy.IfB.f ?_ ?_); (· first | with_reducible rfl | decide +kernel)) | (with_reducible refine Sy.IfB.mk (fun _ => ?_) (fun _ => ?_)) | ((with_reducible apply Vy.mkT.yes); (· exact rfl)) | (with_reducible apply Vy.mkT.els) | ((with_reducible apply Vy.mkL.yes); (· exact rfl)) | (with_reducible apply Vy.mkL.els) | ((with_reducible apply Vy.eqOp.sc); (· exact rfl); (· exact rfl); (· exact rfl)) | ((with_reducible refine Vy.SetAt.di ?_); show Sy.one? _ _) | ((with_reducible refine Vy.SetAt.ls ?_); show Sy.one? _ _) | (with_reducible refine And.intro (Sy.Hold.out ?_) ?_))
      all_goals try (refine Sy.Hold.mk ?_; first | exact trivial | exact rfl | exact Sy.mulA (by omega) (by omega) | exact Sy.mulB (by omega) (by omega) | exact Sy.divA (by omega) (by omega) | exact Sy.smlA (by omega) (by omega) | exact Sy.szLt rfl | exact Sy.szLe rfl | exact Sy.szLe' (by omega) | exact ⟨by omega, by omega⟩ | (rw [List.length_map]; exact Sy.szLt' (by omega)) | (show (0 : Int) < _; first | omega | decide +kernel) | decide +kernel | (simp only [Vy.e_len, Vy.q_len, Vy.x_len, Vy.z_len, Vy.one_len, strLen_append, Sy.repS_len, List.length_map, List.length_append, List.length_cons, List.length_nil]; first | omega | exact Sy.szLe' (by omega) | exact Sy.szLt' (by omega) | exact Vy.cut_add (Sy.szLe' (by omega)) | exact Vy.add_cut (Sy.szLe' (by omega)) | exact Vy.cut_add (Vy.add_cut (Sy.szLe' (by omega)))) | exact ⟨by omega, by omega, by simp only [Vy.e_len, Vy.q_len, Vy.x_len, Vy.z_len, Vy.one_len]; omega, by simp only [Vy.e_len, Vy.q_len, Vy.x_len, Vy.z_len, Vy.one_len]; omega⟩ | exact Sy.szLe' (Nat.le_trans (Nat.add_le_add (Sy.cutL_le _ _ _) (Sy.cutL_le _ _ _)) (by simp only [List.length_map]; omega)) | exact Vy.flat_strs _ | exact Sy.szLe' (Nat.le_trans (Nat.add_le_add (Nat.le_refl _) (Sy.cutL_le _ _ _)) (by simp only [List.length_map, List.length_cons, List.length_nil]; omega)) | exact Sy.szLe' (Nat.le_trans (Nat.add_le_add (Sy.cutL_le _ _ _) (Nat.le_refl _)) (by simp only [List.length_map, List.length_cons, List.length_nil]; omega)) | exact ⟨rfl, Nat.le_of_ble_eq_true rfl, by decide +kernel⟩ | (refine ⟨?_, ?_, ?_⟩ <;> decide +kernel))
      refine one?.yes ((atI_map shD shs _).trans (congrArg _ hs0)) ?_
      repeat' ((conv => whnf); first | ((with_reducible apply Sy.one?.yes); (· first | exact rfl | ((conv => lhs; whnf); first | with_reducible exact Sy.strsD_map _ | with_reducible exact Vy.blsD_rep _ _))) | ((with_reducible apply Sy.both.yes); (· exact rfl); (· exact rfl)) | (with_reducible apply Sy.both.els) | ((refine Vy.Got.here ?_ ?_); (· first | with_reducible rfl | decide +kernel)) | ((refine Vy.Got.next ?_ ?_); (· decide +kernel)) | ((with_reducible refine Sy.IfB.t ?_ ?_); (· first | with_reducible rfl | decide +kernel)) | ((with_reducible refine Sy.IfB.f ?_ ?_); (· first | with_reducible rfl | decide +kernel)) | (with_reducible refine Sy.IfB.mk (fun _ => ?_) (fun _ => ?_)) | ((with_reducible apply Vy.mkT.yes); (· exact rfl)) | (with_reducible apply Vy.mkT.els) | ((with_reducible apply Vy.mkL.yes); (· exact rfl)) | (with_reducible apply Vy.mkL.els) | ((with_reducible apply Vy.eqOp.sc); (· exact rfl); (· exact rfl); (· exact rfl)) | ((with_reducible refine Vy.SetAt.di ?_); show Sy.one? _ _) | ((with_reducible refine Vy.SetAt.ls ?_); show Sy.one? _ _) | (with_reducible refine And.intro (Sy.Hold.out ?_) ?_))
      all_goals try (refine Sy.Hold.mk ?_; first | exact trivial | exact rfl | exact Sy.mulA (by omega) (by omega) | exact Sy.mulB (by omega) (by omega) | exact Sy.divA (by omega) (by omega) | exact Sy.smlA (by omega) (by omega) | exact Sy.szLt rfl | exact Sy.szLe rfl | exact Sy.szLe' (by omega) | exact ⟨by omega, by omega⟩ | (rw [List.length_map]; exact Sy.szLt' (by omega)) | (show (0 : Int) < _; first | omega | decide +kernel) | decide +kernel | (simp only [Vy.e_len, Vy.q_len, Vy.x_len, Vy.z_len, Vy.one_len, strLen_append, Sy.repS_len, List.length_map, List.length_append, List.length_cons, List.length_nil]; first | omega | exact Sy.szLe' (by omega) | exact Sy.szLt' (by omega) | exact Vy.cut_add (Sy.szLe' (by omega)) | exact Vy.add_cut (Sy.szLe' (by omega)) | exact Vy.cut_add (Vy.add_cut (Sy.szLe' (by omega)))) | exact ⟨by omega, by omega, by simp only [Vy.e_len, Vy.q_len, Vy.x_len, Vy.z_len, Vy.one_len]; omega, by simp only [Vy.e_len, Vy.q_len, Vy.x_len, Vy.z_len, Vy.one_len]; omega⟩ | exact Sy.szLe' (Nat.le_trans (Nat.add_le_add (Sy.cutL_le _ _ _) (Sy.cutL_le _ _ _)) (by simp only [List.length_map]; omega)) | exact Vy.flat_strs _ | exact Sy.szLe' (Nat.le_trans (Nat.add_le_add (Nat.le_refl _) (Sy.cutL_le _ _ _)) (by simp only [List.length_map, List.length_cons, List.length_nil]; omega)) | exact Sy.szLe' (Nat.le_trans (Nat.add_le_add (Sy.cutL_le _ _ _) (Nat.le_refl _)) (by simp only [List.length_map, List.length_cons, List.length_nil]; omega)) | exact ⟨rfl, Nat.le_of_ble_eq_true rfl, by decide +kernel⟩ | (refine ⟨?_, ?_, ?_⟩ <;> decide +kernel))
      rw [cutL_map, show [D.tup [D.str b.1, D.tup (List.map bD s0.2)]] ++ List.map shD (cutL shs (some 1) none) = List.map shD ((b.1, s0.2) :: cutL shs (some 1) none) from rfl]
      have hu1 : ((b.1, s0.2) :: cutL shs (some 1) none).length ≤ 3 := by
        unfold cutL
        have e1 : HT.sIx shs.length 0 (some 1) = 1 := by
          rw [show (1 : Int) = ((1 : Nat) : Int) from rfl, HT.sIx_nat]; omega
        rw [e1]
        simp only [List.length_cons, List.length_take, List.length_drop]
        omega
      have hu2 : ∀ s ∈ (b.1, s0.2) :: cutL shs (some 1) none, ShapeP s := fun s hs => by
        rcases List.mem_cons.mp hs with rfl | hs
        · have h8 := hsp s0 (List.mem_of_getElem? hs0m)
          exact ⟨((hsp sl hslm).2.2 b (List.mem_of_getElem? hbm)).1, h8.2⟩
        · exact hsp s (mem_cutL hs)
      generalize ((b.1, s0.2) :: cutL shs (some 1) none) = us at *
      have hn0 := atI_ge (xs := nms) (i := 0) (by omega) (by omega)
      obtain ⟨a0, ha0m, ha0⟩ := hn0
      obtain ⟨a4, ha4m, ha4⟩ := atI_ge (xs := nms) (i := 4) (by omega) (by omega)
      have na0 := hnm _ (List.mem_of_getElem? ha0m)
      have na4 := hnm _ (List.mem_of_getElem? ha4m)
      have kc := cutS_length a0 (some 1) none
      have q0 := na0.1
      have q4 := na4.1
      intro s hs
      repeat' ((conv => whnf); first | ((with_reducible apply Sy.one?.yes); (· first | exact rfl | ((conv => lhs; whnf); first | with_reducible exact Sy.strsD_map _ | with_reducible exact Vy.blsD_rep _ _))) | ((with_reducible apply Sy.both.yes); (· exact rfl); (· exact rfl)) | (with_reducible apply Sy.both.els) | ((refine Vy.Got.here ?_ ?_); (· first | with_reducible rfl | decide +kernel)) | ((refine Vy.Got.next ?_ ?_); (· decide +kernel)) | ((with_reducible refine Sy.IfB.t ?_ ?_); (· first | with_reducible rfl | decide +kernel)) | ((with_reducible refine Sy.IfB.f ?_ ?_); (· first | with_reducible rfl | decide +kernel)) | (with_reducible refine Sy.IfB.mk (fun _ => ?_) (fun _ => ?_)) | ((with_reducible apply Vy.mkT.yes); (· exact rfl)) | (with_reducible apply Vy.mkT.els) | ((with_reducible apply Vy.mkL.yes); (· exact rfl)) | (with_reducible apply Vy.mkL.els) | ((with_reducible apply Vy.eqOp.sc); (· exact rfl); (· exact rfl); (· exact rfl)) | ((with_reducible refine Vy.SetAt.di ?_); show Sy.one? _ _) | ((with_reducible refine Vy.SetAt.ls ?_); show Sy.one? _ _) | (with_reducible refine And.intro (Sy.Hold.out ?_) ?_))
      all_goals try (refine Sy.Hold.mk ?_; first | exact trivial | exact rfl | exact Sy.mulA (by omega) (by omega) | exact Sy.mulB (by omega) (by omega) | exact Sy.divA (by omega) (by omega) | exact Sy.smlA (by omega) (by omega) | exact Sy.szLt rfl | exact Sy.szLe rfl | exact Sy.szLe' (by omega) | exact ⟨by omega, by omega⟩ | (rw [List.length_map]; exact Sy.szLt' (by omega)) | (show (0 : Int) < _; first | omega | decide +kernel) | decide +kernel | (simp only [Vy.e_len, Vy.q_len, Vy.x_len, Vy.z_len, Vy.one_len, strLen_append, Sy.repS_len, List.length_map, List.length_append, List.length_cons, List.length_nil]; first | omega | exact Sy.szLe' (by omega) | exact Sy.szLt' (by omega) | exact Vy.cut_add (Sy.szLe' (by omega)) | exact Vy.add_cut (Sy.szLe' (by omega)) | exact Vy.cut_add (Vy.add_cut (Sy.szLe' (by omega)))) | exact ⟨by omega, by omega, by simp only [Vy.e_len, Vy.q_len, Vy.x_len, Vy.z_len, Vy.one_len]; omega, by simp only [Vy.e_len, Vy.q_len, Vy.x_len, Vy.z_len, Vy.one_len]; omega⟩ | exact Sy.szLe' (Nat.le_trans (Nat.add_le_add (Sy.cutL_le _ _ _) (Sy.cutL_le _ _ _)) (by simp only [List.length_map]; omega)) | exact Vy.flat_strs _ | exact Sy.szLe' (Nat.le_trans (Nat.add_le_add (Nat.le_refl _) (Sy.cutL_le _ _ _)) (by simp only [List.length_map, List.length_cons, List.length_nil]; omega)) | exact Sy.szLe' (Nat.le_trans (Nat.add_le_add (Sy.cutL_le _ _ _) (Nat.le_refl _)) (by simp only [List.length_map, List.length_cons, List.length_nil]; omega)) | exact ⟨rfl, Nat.le_of_ble_eq_true rfl, by decide +kernel⟩ | (refine ⟨?_, ?_, ?_⟩ <;> decide +kernel))
      refine one?.yes ((atI_map D.str nms _).trans (congrArg _ ha0)) ?_
      repeat' ((conv => whnf); first | ((with_reducible apply Sy.one?.yes); (· first | exact rfl | ((conv => lhs; whnf); first | with_reducible exact Sy.strsD_map _ | with_reducible exact Vy.blsD_rep _ _))) | ((with_reducible apply Sy.both.yes); (· exact rfl); (· exact rfl)) | (with_reducible apply Sy.both.els) | ((refine Vy.Got.here ?_ ?_); (· first | with_reducible rfl | decide +kernel)) | ((refine Vy.Got.next ?_ ?_); (· decide +kernel)) | ((with_reducible refine Sy.IfB.t ?_ ?_); (· first | with_reducible rfl | decide +kernel)) | ((with_reducible refine Sy.IfB.f ?_ ?_); (· first | with_reducible rfl | decide +kernel)) | (with_reducible refine Sy.IfB.mk (fun _ => ?_) (fun _ => ?_)) | ((with_reducible apply Vy.mkT.yes); (· exact rfl)) | (with_reducible apply Vy.mkT.els) | ((with_reducible apply Vy.mkL.yes); (· exact rfl)) | (with_reducible apply Vy.mkL.els) | ((with_reducible apply Vy.eqOp.sc); (· exact rfl); (· exact rfl); (· exact rfl)) | ((with_reducible refine Vy.SetAt.di ?_); show Sy.one? _ _) | ((with_reducible refine Vy.SetAt.ls ?_); show Sy.one? _ _) | (with_reducible refine And.intro (Sy.Hold.out ?_) ?_))
      all_goals try (refine Sy.Hold.mk ?_; first | exact trivial | exact rfl | exact Sy.mulA (by omega) (by omega) | exact Sy.mulB (by omega) (by omega) | exact Sy.divA (by omega) (by omega) | exact Sy.smlA (by omega) (by omega) | exact Sy.szLt rfl | exact Sy.szLe rfl | exact Sy.szLe' (by omega) | exact ⟨by omega, by omega⟩ | (rw [List.length_map]; exact Sy.szLt' (by omega)) | (show (0 : Int) < _; first | omega | decide +kernel) | decide +kernel | (simp only [Vy.e_len, Vy.q_len, Vy.x_len, Vy.z_len, Vy.one_len, strLen_append, Sy.repS_len, List.length_map, List.length_append, List.length_cons, List.length_nil]; first | omega | exact Sy.szLe' (by omega) | exact Sy.szLt' (by omega) | exact Vy.cut_add (Sy.szLe' (by omega)) | exact Vy.add_cut (Sy.szLe' (by omega)) | exact Vy.cut_add (Vy.add_cut (Sy.szLe' (by omega)))) | exact ⟨by omega, by omega, by simp only [Vy.e_len, Vy.q_len, Vy.x_len, Vy.z_len, Vy.one_len]; omega, by simp only [Vy.e_len, Vy.q_len, Vy.x_len, Vy.z_len, Vy.one_len]; omega⟩ | exact Sy.szLe' (Nat.le_trans (Nat.add_le_add (Sy.cutL_le _ _ _) (Sy.cutL_le _ _ _)) (by simp only [List.length_map]; omega)) | exact Vy.flat_strs _ | exact Sy.szLe' (Nat.le_trans (Nat.add_le_add (Nat.le_refl _) (Sy.cutL_le _ _ _)) (by simp only [List.length_map, List.length_cons, List.length_nil]; omega)) | exact Sy.szLe' (Nat.le_trans (Nat.add_le_add (Sy.cutL_le _ _ _) (Nat.le_refl _)) (by simp only [List.length_map, List.length_cons, List.length_nil]; omega)) | exact ⟨rfl, Nat.le_of_ble_eq_true rfl, by decide +kernel⟩ | (refine ⟨?_, ?_, ?_⟩ <;> decide +kernel))
      refine one?.yes ((atI_map D.str nms _).trans (congrArg _ ha4)) ?_
      repeat' ((conv => whnf); first | ((with_reducible apply Sy.one?.yes); (· first | exact rfl | ((conv => lhs; whnf); first | with_reducible exact Sy.strsD_map _ | with_reducible exact Vy.blsD_rep _ _))) | ((with_reducible apply Sy.both.yes); (· exact rfl); (· exact rfl)) | (with_reducible apply Sy.both.els) | ((refine Vy.Got.here ?_ ?_); (· first | with_reducible rfl | decide +kernel)) | ((refine Vy.Got.next ?_ ?_); (· decide +kernel)) | ((with_reducible refine Sy.IfB.t ?_ ?_); (· first | with_reducible rfl | decide +kernel)) | ((with_reducible refine Sy.IfB.f ?_ ?_); (· first | with_reducible rfl | decide +kernel)) | (with_reducible refine Sy.IfB.mk (fun _ => ?_) (fun _ => ?_)) | ((with_reducible apply Vy.mkT.yes); (· exact rfl)) | (with_reducible apply Vy.mkT.els) | ((with_reducible apply Vy.mkL.yes); (· exact rfl)) | (with_reducible apply Vy.mkL.els) | ((with_reducible apply Vy.eqOp.sc); (· exact rfl); (· exact rfl); (· exact rfl)) | ((with_reducible refine Vy.SetAt.di ?_); show Sy.one? _ _) | ((with_reducible refine Vy.SetAt.ls ?_); show Sy.one? _ _) | (with_reducible refine And.intro (Sy.Hold.out ?_) ?_))
      all_goals try (refine Sy.Hold.mk ?_; first | exact trivial | exact rfl | exact Sy.mulA (by omega) (by omega) | exact Sy.mulB (by omega) (by omega) | exact Sy.divA (by omega) (by omega) | exact Sy.smlA (by omega) (by omega) | exact Sy.szLt rfl | exact Sy.szLe rfl | exact Sy.szLe' (by omega) | exact ⟨by omega, by omega⟩ | (rw [List.length_map]; exact Sy.szLt' (by omega)) | (show (0 : Int) < _; first | omega | decide +kernel) | decide +kernel | (simp only [Vy.e_len, Vy.q_len, Vy.x_len, Vy.z_len, Vy.one_len, strLen_append, Sy.repS_len, List.length_map, List.length_append, List.length_cons, List.length_nil]; first | omega | exact Sy.szLe' (by omega) | exact Sy.szLt' (by omega) | exact Vy.cut_add (Sy.szLe' (by omega)) | exact Vy.add_cut (Sy.szLe' (by omega)) | exact Vy.cut_add (Vy.add_cut (Sy.szLe' (by omega)))) | exact ⟨by omega, by omega, by simp only [Vy.e_len, Vy.q_len, Vy.x_len, Vy.z_len, Vy.one_len]; omega, by simp only [Vy.e_len, Vy.q_len, Vy.x_len, Vy.z_len, Vy.one_len]; omega⟩ | exact Sy.szLe' (Nat.le_trans (Nat.add_le_add (Sy.cutL_le _ _ _) (Sy.cutL_le _ _ _)) (by simp only [List.length_map]; omega)) | exact Vy.flat_strs _ | exact Sy.szLe' (Nat.le_trans (Nat.add_le_add (Nat.le_refl _) (Sy.cutL_le _ _ _)) (by simp only [List.length_map, List.length_cons, List.length_nil]; omega)) | exact Sy.szLe' (Nat.le_trans (Nat.add_le_add (Sy.cutL_le _ _ _) (Nat.le_refl _)) (by simp only [List.length_map, List.length_cons, List.length_nil]; omega)) | exact ⟨rfl, Nat.le_of_ble_eq_true rfl, by decide +kernel⟩ | (refine ⟨?_, ?_, ?_⟩ <;> decide +kernel))
      rw [show List.map D.str nms ++ [D.str s, D.str (cutS a0 (some 1) none), D.str (a4 ++ ("x" : Str)), D.str ""] = List.map D.str (nms ++ [s, cutS a0 (some 1) none, a4 ++ ("x" : Str), ""]) from by rw [List.map_append]; rfl]
      have hal : ∀ t ∈ nms ++ [s, cutS a0 (some 1) none, a4 ++ ("x" : Str), ""], t.length ≤ 20 ∧ cOk t := fun t ht => by
        rcases List.mem_append.mp ht with ht | ht
        · have := hnm t ht; exact ⟨by have := this.1; omega, low_ok this.2.1⟩
        · simp only [List.mem_cons, List.not_mem_nil, or_false] at ht
          rcases ht with rfl | rfl | rfl | rfl
          · exact ⟨by have := hs.1; omega, low_ok hs.2.1⟩
          · exact ⟨by have := na0.1; omega, cOk_cut (low_ok na0.2.1)⟩
          · exact ⟨by rw [strLen_append, x_len]; have := na4.1; omega, low_ok (.app na4.2.1 low_x)⟩
          · exact ⟨by rw [e_len]; omega, low_ok (.nil rfl)⟩
      have hll : (nms ++ [s, cutS a0 (some 1) none, a4 ++ ("x" : Str), ""]).length = 22 := by rw [List.length_append, hnl']; rfl
      generalize nms ++ [s, cutS a0 (some 1) none, a4 ++ ("x" : Str), ""] = ts at *
      refine lcI (fun E => LcP (fun t : Str => askD (us, t)) (fun _ t => t.length ≤ 20 ∧ cOk t) E) ⟨LcP.nil, fun j y acc en2 hy hJ => ?_, fun acc en2 hJ => ?_⟩
      · obtain ⟨t, ht, rfl, htm⟩ := map_get hy
        obtain ⟨rfl, as, rfl, hl2, hP⟩ := hJ
        have hjl := get_lt ht
        repeat' ((conv => whnf); first | ((with_reducible apply Sy.one?.yes); (· first | exact rfl | ((conv => lhs; whnf); first | with_reducible exact Sy.strsD_map _ | with_reducible exact Vy.blsD_rep _ _))) | ((with_reducible apply Sy.both.yes); (· exact rfl); (· exact rfl)) | (with_reducible apply Sy.both.els) | ((refine Vy.Got.here ?_ ?_); (· first | with_reducible rfl | decide +kernel)) | ((refine Vy.Got.next ?_ ?_); (· decide +kernel)) | ((with_reducible refine Sy.IfB.t ?_ ?_); (· first | with_reducible rfl | decide +kernel)) | ((with_reducible refine Sy.IfB.f ?_ ?_); (· first | with_reducible rfl | decide +kernel)) | (with_reducible refine Sy.IfB.mk (fun _ => ?_) (fun _ => ?_)) | ((with_reducible apply Vy.mkT.yes); (· exact rfl)) | (with_reducible apply Vy.mkT.els) | ((with_reducible apply Vy.mkL.yes); (· exact rfl)) | (with_reducible apply Vy.mkL.els) | ((with_reducible apply Vy.eqOp.sc); (· exact rfl); (· exact rfl); (· exact rfl)) | ((with_reducible refine Vy.SetAt.di ?_); show Sy.one? _ _) | ((with_reducible refine Vy.SetAt.ls ?_); show Sy.one? _ _) | (with_reducible refine And.intro (Sy.Hold.out ?_) ?_))
        all_goals try (refine Sy.Hold.mk ?_; first | exact trivial | exact rfl | exact Sy.mulA (by omega) (by omega) | exact Sy.mulB (by omega) (by omega) | exact Sy.divA (by omega) (by omega) | exact Sy.smlA (by omega) (by omega) | exact Sy.szLt rfl | exact Sy.szLe rfl | exact Sy.szLe' (by omega) | exact ⟨by omega, by omega⟩ | (rw [List.length_map]; exact Sy.szLt' (by omega)) | (show (0 : Int) < _; first | omega | decide +kernel) | decide +kernel | (simp only [Vy.e_len, Vy.q_len, Vy.x_len, Vy.z_len, Vy.one_len, strLen_append, Sy.repS_len, List.length_map, List.length_append, List.length_cons, List.length_nil]; first | omega | exact Sy.szLe' (by omega) | exact Sy.szLt' (by omega) | exact Vy.cut_add (Sy.szLe' (by omega)) | exact Vy.add_cut (Sy.szLe' (by omega)) | exact Vy.cut_add (Vy.add_cut (Sy.szLe' (by omega)))) | exact ⟨by omega, by omega, by simp only [Vy.e_len, Vy.q_len, Vy.x_len, Vy.z_len, Vy.one_len]; omega, by simp only [Vy.e_len, Vy.q_len, Vy.x_len, Vy.z_len, Vy.one_len]; omega⟩ | exact Sy.szLe' (Nat.le_trans (Nat.add_le_add (Sy.cutL_le _ _ _) (Sy.cutL_le _ _ _)) (by simp only [List.length_map]; omega)) | exact Vy.flat_strs _ | exact Sy.szLe' (Nat.le_trans (Nat.add_le_add (Nat.le_refl _) (Sy.cutL_le _ _ _)) (by simp only [List.length_map, List.length_cons, List.length_nil]; omega)) | exact Sy.szLe' (Nat.le_trans (Nat.add_le_add (Sy.cutL_le _ _ _) (Nat.le_refl _)) (by simp only [List.length_map, List.length_cons, List.length_nil]; omega)) | exact ⟨rfl, Nat.le_of_ble_eq_true rfl, by decide +kernel⟩ | (refine ⟨?_, ?_, ?_⟩ <;> decide +kernel))
        exact LcP.snoc t hl2 hP rfl rfl (hal t htm)
      · obtain ⟨rfl, as, rfl, hl2, hP⟩ := hJ
        rw [List.length_map] at hl2
        repeat' ((conv => whnf); first | ((with_reducible apply Sy.one?.yes); (· first | exact rfl | ((conv => lhs; whnf); first | with_reducible exact Sy.strsD_map _ | with_reducible exact Vy.blsD_rep _ _))) | ((with_reducible apply Sy.both.yes); (· exact rfl); (· exact rfl)) | (with_reducible apply Sy.both.els) | ((refine Vy.Got.here ?_ ?_); (· first | with_reducible rfl | decide +kernel)) | ((refine Vy.Got.next ?_ ?_); (· decide +kernel)) | ((with_reducible refine Sy.IfB.t ?_ ?_); (· first | with_reducible rfl | decide +kernel)) | ((with_reducible refine Sy.IfB.f ?_ ?_); (· first | with_reducible rfl | decide +kernel)) | (with_reducible refine Sy.IfB.mk (fun _ => ?_) (fun _ => ?_)) | ((with_reducible apply Vy.mkT.yes); (· exact rfl)) | (with_reducible apply Vy.mkT.els) | ((with_reducible apply Vy.mkL.yes); (· exact rfl)) | (with_reducible apply Vy.mkL.els) | ((with_reducible apply Vy.eqOp.sc); (· exact rfl); (· exact rfl); (· exact rfl)) | ((with_reducible refine Vy.SetAt.di ?_); show Sy.one? _ _) | ((with_reducible refine Vy.SetAt.ls ?_); show Sy.one? _ _) | (with_reducible refine And.intro (Sy.Hold.out ?_) ?_))
        all_goals try (refine Sy.Hold.mk ?_; first | exact trivial | exact rfl | exact Sy.mulA (by omega) (by omega) | exact Sy.mulB (by omega) (by omega) | exact Sy.divA (by omega) (by omega) | exact Sy.smlA (by omega) (by omega) | exact Sy.szLt rfl | exact Sy.szLe rfl | exact Sy.szLe' (by omega) | exact ⟨by omega, by omega⟩ | (rw [List.length_map]; exact Sy.szLt' (by omega)) | (show (0 : Int) < _; first | omega | decide +kernel) | decide +kernel | (simp only [Vy.e_len, Vy.q_len, Vy.x_len, Vy.z_len, Vy.one_len, strLen_append, Sy.repS_len, List.length_map, List.length_append, List.length_cons, List.length_nil]; first | omega | exact Sy.szLe' (by omega) | exact Sy.szLt' (by omega) | exact Vy.cut_add (Sy.szLe' (by omega)) | exact Vy.add_cut (Sy.szLe' (by omega)) | exact Vy.cut_add (Vy.add_cut (Sy.szLe' (by omega)))) | exact ⟨by omega, by omega, by simp only [Vy.e_len, Vy.q_len, Vy.x_len, Vy.z_len, Vy.one_len]; omega, by simp only [Vy.e_len, Vy.q_len, Vy.x_len, Vy.z_len, Vy.one_len]; omega⟩ | exact Sy.szLe' (Nat.le_trans (Nat.add_le_add (Sy.cutL_le _ _ _) (Sy.cutL_le _ _ _)) (by simp only [List.length_map]; omega)) | exact Vy.flat_strs _ | exact Sy.szLe' (Nat.le_trans (Nat.add_le_add (Nat.le_refl _) (Sy.cutL_le _ _ _)) (by simp only [List.length_map, List.length_cons, List.length_nil]; omega)) | exact Sy.szLe' (Nat.le_trans (Nat.add_le_add (Sy.cutL_le _ _ _) (Nat.le_refl _)) (by simp only [List.length_map, List.length_cons, List.length_nil]; omega)) | exact ⟨rfl, Nat.le_of_ble_eq_true rfl, by decide +kernel⟩ | (refine ⟨?_, ?_, ?_⟩ <;> decide +kernel))
        exact .now ⟨qs ++ as.map (fun t => (us, t)), _, _, _, by rw [List.map_append, List.map_map]; rfl, by rw [List.length_append, List.length_map]; omega, fun q hq => by
          rcases List.mem_append.mp hq with hq | hq
          · exact hqs q hq
          · obtain ⟨t, ht, rfl⟩ := List.mem_map.mp hq
            obtain ⟨h1, h2⟩ := all_of hP t ht
            exact ⟨⟨hu1, hu2⟩, h1, h2⟩⟩
    · skip
      have hn0 := atI_ge (xs := nms) (i := 0) (by omega) (by omega)
      obtain ⟨a0, ha0m, ha0⟩ := hn0
      obtain ⟨a4, ha4m, ha4⟩ := atI_ge (xs := nms) (i := 4) (by omega) (by omega)
      have na0 := hnm _ (List.mem_of_getElem? ha0m)
      have na4 := hnm _ (List.mem_of_getElem? ha4m)
      have kc := cutS_length a0 (some 1) none
      have q0 := na0.1
      have q4 := na4.1
      intro s hs
      repeat' ((conv => whnf); first | ((with_reducible apply Sy.one?.yes); (· first | exact rfl | ((conv => lhs; whnf); first | with_reducible exact Sy.strsD_map _ | with_reducible exact Vy.blsD_rep _ _))) | ((with_reducible apply Sy.both.yes); (· exact rfl); (· exact rfl)) | (with_reducible apply Sy.both.els) | ((refine Vy.Got.here ?_ ?_); (· first | with_reducible rfl | decide +kernel)) | ((refine Vy.Got.next ?_ ?_); (· decide +kernel)) | ((with_reducible refine Sy.IfB.t ?_ ?_); (· first | with_reducible rfl | decide +kernel)) | ((with_reducible refine Sy.IfB.f ?_ ?_); (· first | with_reducible rfl | decide +kernel)) | (with_reducible refine Sy.IfB.mk (fun _ => ?_) (fun _ => ?_)) | ((with_reducible apply Vy.mkT.yes); (· exact rfl)) | (with_reducible apply Vy.mkT.els) | ((with_reducible apply Vy.mkL.yes); (· exact rfl)) | (with_reducible apply Vy.mkL.els) | ((with_reducible apply Vy.eqOp.sc); (· exact rfl); (· exact rfl); (· exact rfl)) | ((with_reducible refine Vy.SetAt.di ?_); show Sy.one? _ _) | ((with_reducible refine Vy.SetAt.ls ?_); show Sy.one? _ _) | (with_reducible refine And.intro (Sy.Hold.out ?_) ?_))
      all_goals try (refine Sy.Hold.mk ?_; first | exact trivial | exact rfl | exact Sy.mulA (by omega) (by omega) | exact Sy.mulB (by omega) (by omega) | exact Sy.divA (by omega) (by omega) | exact Sy.smlA (by omega) (by omega) | exact Sy.szLt rfl | exact Sy.szLe rfl | exact Sy.szLe' (by omega) | exact ⟨by omega, by omega⟩ | (rw [List.length_map]; exact Sy.szLt' (by omega)) | (show (0 : Int) < _; first | omega | decide +kernel) | decide +kernel | (simp only [Vy.e_len, Vy.q_len, Vy.x_len, Vy.z_len, Vy.one_len, strLen_append, Sy.repS_len, List.length_map, List.length_append, List.length_cons, List.length_nil]; first | omega | exact Sy.szLe' (by omega) | exact Sy.szLt' (by omega) | exact Vy.cut_add (Sy.szLe' (by omega)) | exact Vy.add_cut (Sy.szLe' (by omega)) | exact Vy.cut_add (Vy.add_cut (Sy.szLe' (by omega)))) | exact ⟨by omega, by omega, by simp only [Vy.e_len, Vy.q_len, Vy.x_len, Vy.z_len, Vy.one_len]; omega, by simp only [Vy.e_len, Vy.q_len, Vy.x_len, Vy.z_len, Vy.one_len]; omega⟩ | exact Sy.szLe' (Nat.le_trans (Nat.add_le_add (Sy.cutL_le _ _ _) (Sy.cutL_le _ _ _)) (by simp only [List.length_map]; omega)) | exact Vy.flat_strs _ | exact Sy.szLe' (Nat.le_trans (Nat.add_le_add (Nat.le_refl _) (Sy.cutL_le _ _ _)) (by simp only [List.length_map, List.length_cons, List.length_nil]; omega)) | exact Sy.szLe' (Nat.le_trans (Nat.add_le_add (Sy.cutL_le _ _ _) (Nat.le_refl _)) (by simp only [List.length_map, List.length_cons, List.length_nil]; omega)) | exact ⟨rfl, Nat.le_of_ble_eq_true rfl, by decide +kernel⟩ | (refine ⟨?_, ?_, ?_⟩ <;> decide +kernel))
      refine one?.yes ((atI_map D.str nms _).trans (congrArg _ ha0)) ?_
      repeat' ((conv => whnf); first | ((with_reducible apply Sy.one?.yes); (· first | exact rfl | ((conv => lhs; whnf); first | with_reducible exact Sy.strsD_map _ | with_reducible exact Vy.blsD_rep _ _))) | ((with_reducible apply Sy.both.yes); (· exact rfl); (· exact rfl)) | (with_reducible apply Sy.both.els) | ((refine Vy.Got.here ?_ ?_); (· first | with_reducible rfl | decide +kernel)) | ((refine Vy.Got.next ?_ ?_); (· decide +kernel)) | ((with_reducible refine Sy.IfB.t ?_ ?_); (· first | with_reducible rfl | decide +kernel)) | ((with_reducible refine Sy.IfB.f ?_ ?_); (· first | with_reducible rfl | decide +kernel)) | (with_reducible refine Sy.IfB.mk (fun _ => ?_) (fun _ => ?_)) | ((with_reducible apply Vy.mkT.yes); (· exact rfl)) | (with_reducible apply Vy.mkT.els) | ((with_reducible apply Vy.mkL.yes); (· exact rfl)) | (with_reducible apply Vy.mkL.els) | ((with_reducible apply Vy.eqOp.sc); (· exact rfl); (· exact rfl); (· exact rfl)) | ((with_reducible refine Vy.SetAt.di ?_); show Sy.one? _ _) | ((with_reducible refine Vy.SetAt.ls ?_); show Sy.one? _ _) | (with_reducible refine And.intro (Sy.Hold.out ?_) ?_))
      all_goals try (refine Sy.Hold.mk ?_; first | exact trivial | exact rfl | exact Sy.mulA (by omega) (by omega) | exact Sy.mulB (by omega) (by omega) | exact Sy.divA (by omega) (by omega) | exact Sy.smlA (by omega) (by omega) | exact Sy.szLt rfl | exact Sy.szLe rfl | exact Sy.szLe' (by omega) | exact ⟨by omega, by omega⟩ | (rw [List.length_map]; exact Sy.szLt' (by omega)) | (show (0 : Int) < _; first | omega | decide +kernel) | decide +kernel | (simp only [Vy.e_len, Vy.q_len, Vy.x_len, Vy.z_len, Vy.one_len, strLen_append, Sy.repS_len, List.length_map, List.length_append, List.length_cons, List.length_nil]; first | omega | exact Sy.szLe' (by omega) | exact Sy.szLt' (by omega) | exact Vy.cut_add (Sy.szLe' (by omega)) | exact Vy.add_cut (Sy.szLe' (by omega)) | exact Vy.cut_add (Vy.add_cut (Sy.szLe' (by omega)))) | exact ⟨by omega, by omega, by simp only [Vy.e_len, Vy.q_len, Vy.x_len, Vy.z_len, Vy.one_len]; omega, by simp only [Vy.e_len, Vy.q_len, Vy.x_len, Vy.z_len, Vy.one_len]; omega⟩ | exact Sy.szLe' (Nat.le_trans (Nat.add_le_add (Sy.cutL_le _ _ _) (Sy.cutL_le _ _ _)) (by simp only [List.length_map]; omega)) | exact Vy.flat_strs _ | exact Sy.szLe' (Nat.le_trans (Nat.add_le_add (Nat.le_refl _) (Sy.cutL_le _ _ _)) (by simp only [List.length_map, List.length_cons, List.length_nil]; omega)) | exact Sy.szLe' (Nat.le_trans (Nat.add_le_add (Sy.cutL_le _ _ _) (Nat.le_refl _)) (by simp only [List.length_map, List.length_cons, List.length_nil]; omega)) | exact ⟨rfl, Nat.le_of_ble_eq_true rfl, by decide +kernel⟩ | (refine ⟨?_, ?_, ?_⟩ <;> decide +kernel))
      refine one?.yes ((atI_map D.str nms _).trans (congrArg _ ha4)) ?_
      repeat' ((conv => whnf); first | ((with_reducible apply Sy.one?.yes); (· first | exact rfl | ((conv => lhs; whnf); first | with_reducible exact Sy.strsD_map _ | with_reducible exact Vy.blsD_rep _ _))) | ((with_reducible apply Sy.both.yes); (· exact rfl); (· exact rfl)) | (with_reducible apply Sy.both.els) | ((refine Vy.Got.here ?_ ?_); (· first | with_reducible rfl | decide +kernel)) | ((refine Vy.Got.next ?_ ?_); (· decide +kernel)) | ((with_reducible refine Sy.IfB.t ?_ ?_); (· first | with_reducible rfl | decide +kernel)) | ((with_reducible refine Sy.IfB.f ?_ ?_); (· first | with_reducible rfl | decide +kernel)) | (with_reducible refine Sy.IfB.mk (fun _ => ?_) (fun _ => ?_)) | ((with_reducible apply Vy.mkT.yes); (· exact rfl)) | (with_reducible apply Vy.mkT.els) | ((with_reducible apply Vy.mkL.yes); (· exact rfl)) | (with_reducible apply Vy.mkL.els) | ((with_reducible apply Vy.eqOp.sc); (· exact rfl); (· exact rfl); (· exact rfl)) | ((with_reducible refine Vy.SetAt.di ?_); show Sy.one? _ _) | ((with_reducible refine Vy.SetAt.ls ?_); show Sy.one? _ _) | (with_reducible refine And.intro (Sy.Hold.out ?_) ?_))
      all_goals try (refine Sy.Hold.mk ?_; first | exact trivial | exact rfl | exact Sy.mulA (by omega) (by omega) | exact Sy.mulB (by omega) (by omega) | exact Sy.divA (by omega) (by omega) | exact Sy.smlA (by omega) (by omega) | exact Sy.szLt rfl | exact Sy.szLe rfl | exact Sy.szLe' (by omega) | exact ⟨by omega, by omega⟩ | (rw [List.length_map]; exact Sy.szLt' (by omega)) | (show (0 : Int) < _; first | omega | decide +kernel) | decide +kernel | (simp only [Vy.e_len, Vy.q_len, Vy.x_len, Vy.z_len, Vy.one_len, strLen_append, Sy.repS_len, List.length_map, List.length_append, List.length_cons, List.length_nil]; first | omega | exact Sy.szLe' (by omega) | exact Sy.szLt' (by omega) | exact Vy.cut_add (Sy.szLe' (by omega)) | exact Vy.add_cut (Sy.szLe' (by omega)) | exact Vy.cut_add (Vy.add_cut (Sy.szLe' (by omega)))) | exact ⟨by omega, by omega, by simp only [Vy.e_len, Vy.q_len, Vy.x_len, Vy.z_len, Vy.one_len]; omega, by simp only [Vy.e_len, Vy.q_len, Vy.x_len, Vy.z_len, Vy.one_len]; omega⟩ | exact Sy.szLe' (Nat.le_trans (Nat.add_le_add (Sy.cutL_le _ _ _) (Sy.cutL_le _ _ _)) (by simp only [List.length_map]; omega)) | exact Vy.flat_strs _ | exact Sy.szLe' (Nat.le_trans (Nat.add_le_add (Nat.le_refl _) (Sy.cutL_le _ _ _)) (by simp only [List.length_map, List.length_cons, List.length_nil]; omega)) | exact Sy.szLe' (Nat.le_trans (Nat.add_le_add (Sy.cutL_le _ _ _) (Nat.le_refl _)) (by simp only [List.length_map, List.length_cons, List.length_nil]; omega)) | exact ⟨rfl, Nat.le_of_ble_eq_true rfl, by decide +kernel⟩ | (refine ⟨?_, ?_, ?_⟩ <;> decide +kernel))
      rw [show List.map D.str nms ++ [D.str s, D.str (cutS a0 (some 1) none), D.str (a4 ++ ("x" : Str)), D.str ""] = List.map D.str (nms ++ [s, cutS a0 (some 1) none, a4 ++ ("x" : Str), ""]) from by rw [List.map_append]; rfl]
      have hal : ∀ t ∈ nms ++ [s, cutS a0 (some 1) none, a4 ++ ("x" : Str), ""], t.length ≤ 20 ∧ cOk t := fun t ht => by
        rcases List.mem_append.mp ht with ht | ht
        · have := hnm t ht; exact ⟨by have := this.1; omega, low_ok this.2.1⟩
        · simp only [List.mem_cons, List.not_mem_nil, or_false] at ht
          rcases ht with rfl | rfl | rfl | rfl
          · exact ⟨by have := hs.1; omega, low_ok hs.2.1⟩
          · exact ⟨by have := na0.1; omega, cOk_cut (low_ok na0.2.1)⟩
          · exact ⟨by rw [strLen_append, x_len]; have := na4.1; omega, low_ok (.app na4.2.1 low_x)⟩
          · exact ⟨by rw [e_len]; omega, low_ok (.nil rfl)⟩
      have hll : (nms ++ [s, cutS a0 (some 1) none, a4 ++ ("x" : Str), ""]).length = 22 := by rw [List.length_append, hnl']; rfl
      generalize nms ++ [s, cutS a0 (some 1) none, a4 ++ ("x" : Str), ""] = ts at *
      refine lcI (fun E => LcP (fun t : Str => askD (shs, t)) (fun _ t => t.length ≤ 20 ∧ cOk t) E) ⟨LcP.nil, fun j y acc en2 hy hJ => ?_, fun acc en2 hJ => ?_⟩
      · obtain ⟨t, ht, rfl, htm⟩ := map_get hy
        obtain ⟨rfl, as, rfl, hl2, hP⟩ := hJ
        have hjl := get_lt ht
        repeat' ((conv => whnf); first | ((with_reducible apply Sy.one?.yes); (· first | exact rfl | ((conv => lhs; whnf); first | with_reducible exact Sy.strsD_map _ | with_reducible exact Vy.blsD_rep _ _))) | ((with_reducible apply Sy.both.yes); (· exact rfl); (· exact rfl)) | (with_reducible apply Sy.both.els) | ((refine Vy.Got.here ?_ ?_); (· first | with_reducible rfl | decide +kernel)) | ((refine Vy.Got.next ?_ ?_); (· decide +kernel)) | ((with_reducible refine Sy.IfB.t ?_ ?_); (· first | with_reducible rfl | decide +kernel)) | ((with_reducible refine Sy.IfB.f ?_ ?_); (· first | with_reducible rfl | decide +kernel)) | (with_reducible refine Sy.IfB.mk (fun _ => ?_) (fun _ => ?_)) | ((with_reducible apply Vy.mkT.yes); (· exact rfl)) | (with_reducible apply Vy.mkT.els) | ((with_reducible apply Vy.mkL.yes); (· exact rfl)) | (with_reducible apply Vy.mkL.els) | ((with_reducible apply Vy.eqOp.sc); (· exact rfl); (· exact rfl); (· exact rfl)) | ((with_reducible refine Vy.SetAt.di ?_); show Sy.one? _ _) | ((with_reducible refine Vy.SetAt.ls ?_); show Sy.one? _ _) | (with_reducible refine And.intro (Sy.Hold.out ?_) ?_))
        all_goals try (refine Sy.Hold.mk ?_; first | exact trivial | exact rfl | exact Sy.mulA (by omega) (by omega) | exact Sy.mulB (by omega) (by omega) | exact Sy.divA (by omega) (by omega) | exact Sy.smlA (by omega) (by omega) | exact Sy.szLt rfl | exact Sy.szLe rfl | exact Sy.szLe' (by omega) | exact ⟨by omega, by omega⟩ | (rw [List.length_map]; exact Sy.szLt' (by omega)) | (show (0 : Int) < _; first | omega | decide +kernel) | decide +kernel | (simp only [Vy.e_len, Vy.q_len, Vy.x_len, Vy.z_len, Vy.one_len, strLen_append, Sy.repS_len, List.length_map, List.length_append, List.length_cons, List.length_nil]; first | omega | exact Sy.szLe' (by omega) | exact Sy.szLt' (by omega) | exact Vy.cut_add (Sy.szLe' (by omega)) | exact Vy.add_cut (Sy.szLe' (by omega)) | exact Vy.cut_add (Vy.add_cut (Sy.szLe' (by omega)))) | exact ⟨by omega, by omega, by simp only [Vy.e_len, Vy.q_len, Vy.x_len, Vy.z_len, Vy.one_len]; omega, by simp only [Vy.e_len, Vy.q_len, Vy.x_len, Vy.z_len, Vy.one_len]; omega⟩ | exact Sy.szLe' (Nat.le_trans (Nat.add_le_add (Sy.cutL_le _ _ _) (Sy.cutL_le _ _ _)) (by simp only [List.length_map]; omega)) | exact Vy.flat_strs _ | exact Sy.szLe' (Nat.le_trans (Nat.add_le_add (Nat.le_refl _) (Sy.cutL_le _ _ _)) (by simp only [List.length_map, List.length_cons, List.length_nil]; omega)) | exact Sy.szLe' (Nat.le_trans (Nat.add_le_add (Sy.cutL_le _ _ _) (Nat.le_refl _)) (by simp only [List.length_map, List.length_cons, List.length_nil]; omega)) | exact ⟨rfl, Nat.le_of_ble_eq_true rfl, by decide +kernel⟩ | (refine ⟨?_, ?_, ?_⟩ <;> decide +kernel))
        exact LcP.snoc t hl2 hP rfl rfl (hal t htm)
      · obtain ⟨rfl, as, rfl, hl2, hP⟩ := hJ
        rw [List.length_map] at hl2
        repeat' ((conv => whnf); first | ((with_reducible apply Sy.one?.yes); (· first | exact rfl | ((conv => lhs; whnf); first | with_reducible exact Sy.strsD_map _ | with_reducible exact Vy.blsD_rep _ _))) | ((with_reducible apply Sy.both.yes); (· exact rfl); (· exact rfl)) | (with_reducible apply Sy.both.els) | ((refine Vy.Got.here ?_ ?_); (· first | with_reducible rfl | decide +kernel)) | ((refine Vy.Got.next ?_ ?_); (· decide +kernel)) | ((with_reducible refine Sy.IfB.t ?_ ?_); (· first | with_reducible rfl | decide +kernel)) | ((with_reducible refine Sy.IfB.f ?_ ?_); (· first | with_reducible rfl | decide +kernel)) | (with_reducible refine Sy.IfB.mk (fun _ => ?_) (fun _ => ?_)) | ((with_reducible apply Vy.mkT.yes); (· exact rfl)) | (with_reducible apply Vy.mkT.els) | ((with_reducible apply Vy.mkL.yes); (· exact rfl)) | (with_reducible apply Vy.mkL.els) | ((with_reducible apply Vy.eqOp.sc); (· exact rfl); (· exact rfl); (· exact rfl)) | ((with_reducible refine Vy.SetAt.di ?_); show Sy.one? _ _) | ((with_reducible refine Vy.SetAt.ls ?_); show Sy.one? _ _) | (with_reducible refine And.intro (Sy.Hold.out ?_) ?_))
        all_goals try (refine Sy.Hold.mk ?_; first | exact trivial | exact rfl | exact Sy.mulA (by omega) (by omega) | exact Sy.mulB (by omega) (by omega) | exact Sy.divA (by omega) (by omega) | exact Sy.smlA (by omega) (by omega) | exact Sy.szLt rfl | exact Sy.szLe rfl | exact Sy.szLe' (by omega) | exact ⟨by omega, by omega⟩ | (rw [List.length_map]; exact Sy.szLt' (by omega)) | (show (0 : Int) < _; first | omega | decide +kernel) | decide +kernel | (simp only [Vy.e_len, Vy.q_len, Vy.x_len, Vy.z_len, Vy.one_len, strLen_append, Sy.repS_len, List.length_map, List.length_append, List.length_cons, List.length_nil]; first | omega | exact Sy.szLe' (by omega) | exact Sy.szLt' (by omega) | exact Vy.cut_add (Sy.szLe' (by omega)) | exact Vy.add_cut (Sy.szLe' (by omega)) | exact Vy.cut_add (Vy.add_cut (Sy.szLe' (by omega)))) | exact ⟨by omega, by omega, by simp only [Vy.e_len, Vy.q_len, Vy.x_len, Vy.z_len, Vy.one_len]; omega, by simp only [Vy.e_len, Vy.q_len, Vy.x_len, Vy.z_len, Vy.one_len]; omega⟩ | exact Sy.szLe' (Nat.le_trans (Nat.add_le_add (Sy.cutL_le _ _ _) (Sy.cutL_le _ _ _)) (by simp only [List.length_map]; omega)) | exact Vy.flat_strs _ | exact Sy.szLe' (Nat.le_trans (Nat.add_le_add (Nat.le_refl _) (Sy.cutL_le _ _ _)) (by simp only [List.length_map, List.length_cons, List.length_nil]; omega)) | exact Sy.szLe' (Nat.le_trans (Nat.add_le_add (Sy.cutL_le _ _ _) (Nat.le_refl _)) (by simp only [List.length_map, List.length_cons, List.length_nil]; omega)) | exact ⟨rfl, Nat.le_of_ble_eq_true rfl, by decide +kernel⟩ | (refine ⟨?_, ?_, ?_⟩ <;> decide +kernel))
        exact .now ⟨qs ++ as.map (fun t => (shs, t)), _, _, _, by rw [List.map_append, List.map_map]; rfl, by rw [List.length_append, List.length_map]; omega, fun q hq => by
          rcases List.mem_append.mp hq with hq | hq
          · exact hqs q hq
          · obtain ⟨t, ht, rfl⟩ := List.mem_map.mp hq
            obtain ⟨h1, h2⟩ := all_of hP t ht
            exact ⟨⟨h3, hsp⟩, h1, h2⟩⟩
  · obtain ⟨qs, u1, u2, u3, rfl, hql, hqs⟩ := hI
    have hq66 : qs.length ≤ 66 := by
      rw [rng_len] at hql
      simp only [List.length_map] at hql
      revert hql
      (repeat' split) <;> intro hql <;> omega
    repeat' ((conv => whnf); first | ((with_reducible apply Sy.one?.yes); (· first | exact rfl | ((conv => lhs; whnf); first | with_reducible exact Sy.strsD_map _ | with_reducible exact Vy.blsD_rep _ _))) | ((with_reducible apply Sy.both.yes); (· exact rfl); (· exact rfl)) | (with_reducible apply Sy.both.els) | ((refine Vy.Got.here ?_ ?_); (· first | with_reducible rfl | decide +kernel)) | ((refine Vy.Got.next ?_ ?_); (· decide +kernel)) | ((with_reducible refine Sy.IfB.t ?_ ?_); (· first | with_reducible rfl | decide +kernel)) | ((with_reducible refine Sy.IfB.f ?_ ?_); (· first | with_reducible rfl | decide +kernel)) | (with_reducible refine Sy.IfB.mk (fun _ => ?_) (fun _ => ?_)) | ((with_reducible apply Vy.mkT.yes); (· exact rfl)) | (with_reducible apply Vy.mkT.els) | ((with_reducible apply Vy.mkL.yes); (· exact rfl)) | (with_reducible apply Vy.mkL.els) | ((with_reducible apply Vy.eqOp.sc); (· exact rfl); (· exact rfl); (· exact rfl)) | ((with_reducible refine Vy.SetAt.di ?_); show Sy.one? _ _) | ((with_reducible refine Vy.SetAt.ls ?_); show Sy.one? _ _) | (with_reducible refine And.intro (Sy.Hold.out ?_) ?_))
    all_goals try (refine Sy.Hold.mk ?_; first | exact trivial | exact rfl | exact Sy.mulA (by omega) (by omega) | exact Sy.mulB (by omega) (by omega) | exact Sy.divA (by omega) (by omega) | exact Sy.smlA (by omega) (by omega) | exact Sy.szLt rfl | exact Sy.szLe rfl | exact Sy.szLe' (by omega) | exact ⟨by omega, by omega⟩ | (rw [List.length_map]; exact Sy.szLt' (by omega)) | (show (0 : Int) < _; first | omega | decide +kernel) | decide +kernel | (simp only [Vy.e_len, Vy.q_len, Vy.x_len, Vy.z_len, Vy.one_len, strLen_append, Sy.repS_len, List.length_map, List.length_append, List.length_cons, List.length_nil]; first | omega | exact Sy.szLe' (by omega) | exact Sy.szLt' (by omega) | exact Vy.cut_add (Sy.szLe' (by omega)) | exact Vy.add_cut (Sy.szLe' (by omega)) | exact Vy.cut_add (Vy.add_cut (Sy.szLe' (by omega)))) | exact ⟨by omega, by omega, by simp only [Vy.e_len, Vy.q_len, Vy.x_len, Vy.z_len, Vy.one_len]; omega, by simp only [Vy.e_len, Vy.q_len, Vy.x_len, Vy.z_len, Vy.one_len]; omega⟩ | exact Sy.szLe' (Nat.le_trans (Nat.add_le_add (Sy.cutL_le _ _ _) (Sy.cutL_le _ _ _)) (by simp only [List.length_map]; omega)) | exact Vy.flat_strs _ | exact Sy.szLe' (Nat.le_trans (Nat.add_le_add (Nat.le_refl _) (Sy.cutL_le _ _ _)) (by simp only [List.length_map, List.length_cons, List.length_nil]; omega)) | exact Sy.szLe' (Nat.le_trans (Nat.add_le_add (Sy.cutL_le _ _ _) (Nat.le_refl _)) (by simp only [List.length_map, List.length_cons, List.length_nil]; omega)) | exact ⟨rfl, Nat.le_of_ble_eq_true rfl, by decide +kernel⟩ | (refine ⟨?_, ?_, ?_⟩ <;> decide +kernel))
    rw [cutL_map, ← List.map_append]
    have hvs : ∀ q ∈ qs ++ cutL qs none (some 4), AskP q := fun q h => by
      rcases List.mem_append.mp h with h | h
      · exact hqs q h
      · exact hqs q (mem_cutL h)
    generalize qs ++ cutL qs none (some 4) = vs at *
    refine loopI (fun E j en => ∃ (u_shapes_here : Val) (u_name_here : Val), en = upds E [(5, u_shapes_here), (6, u_name_here)] ∧ (True)) ⟨?_, fun j y en3 hy hJ => ?_, fun en3 hJ => ?_⟩
    · exact .now ⟨_, _, rfl, trivial⟩
    · obtain ⟨v1, v2, rfl, _⟩ := hJ
      obtain ⟨q, hq, rfl, hqm⟩ := map_get hy
      obtain ⟨⟨hs3, hsp⟩, hn20, hnc⟩ := hvs q hqm
      repeat' ((conv => whnf); first | ((with_reducible apply Sy.one?.yes); (· first | exact rfl | ((conv => lhs; whnf); first | with_reducible exact Sy.strsD_map _ | with_reducible exact Vy.blsD_rep _ _))) | ((with_reducible apply Sy.both.yes); (· exact rfl); (· exact rfl)) | (with_reducible apply Sy.both.els) | ((refine Vy.Got.here ?_ ?_); (· first | with_reducible rfl | decide +kernel)) | ((refine Vy.Got.next ?_ ?_); (· decide +kernel)) | ((with_reducible refine Sy.IfB.t ?_ ?_); (· first | with_reducible rfl | decide +kernel)) | ((with_reducible refine Sy.IfB.f ?_ ?_); (· first | with_reducible rfl | decide +kernel)) | (with_reducible refine Sy.IfB.mk (fun _ => ?_) (fun _ => ?_)) | ((with_reducible apply Vy.mkT.yes); (· exact rfl)) | (with_reducible apply Vy.mkT.els) | ((with_reducible apply Vy.mkL.yes); (· exact rfl)) | (with_reducible apply Vy.mkL.els) | ((with_reducible apply Vy.eqOp.sc); (· exact rfl); (· exact rfl); (· exact rfl)) | ((with_reducible refine Vy.SetAt.di ?_); show Sy.one? _ _) | ((with_reducible refine Vy.SetAt.ls ?_); show Sy.one? _ _) | (with_reducible refine And.intro (Sy.Hold.out ?_) ?_))
      all_goals try (refine Sy.Hold.mk ?_; first | exact trivial | exact rfl | exact Sy.mulA (by omega) (by omega) | exact Sy.mulB (by omega) (by omega) | exact Sy.divA (by omega) (by omega) | exact Sy.smlA (by omega) (by omega) | exact Sy.szLt rfl | exact Sy.szLe rfl | exact Sy.szLe' (by omega) | exact ⟨by omega, by omega⟩ | (rw [List.length_map]; exact Sy.szLt' (by omega)) | (show (0 : Int) < _; first | omega | decide +kernel) | decide +kernel | (simp only [Vy.e_len, Vy.q_len, Vy.x_len, Vy.z_len, Vy.one_len, strLen_append, Sy.repS_len, List.length_map, List.length_append, List.length_cons, List.length_nil]; first | omega | exact Sy.szLe' (by omega) | exact Sy.szLt' (by omega) | exact Vy.cut_add (Sy.szLe' (by omega)) | exact Vy.add_cut (Sy.szLe' (by omega)) | exact Vy.cut_add (Vy.add_cut (Sy.szLe' (by omega)))) | exact ⟨by omega, by omega, by simp only [Vy.e_len, Vy.q_len, Vy.x_len, Vy.z_len, Vy.one_len]; omega, by simp only [Vy.e_len, Vy.q_len, Vy.x_len, Vy.z_len, Vy.one_len]; omega⟩ | exact Sy.szLe' (Nat.le_trans (Nat.add_le_add (Sy.cutL_le _ _ _) (Sy.cutL_le _ _ _)) (by simp only [List.length_map]; omega)) | exact Vy.flat_strs _ | exact Sy.szLe' (Nat.le_trans (Nat.add_le_add (Nat.le_refl _) (Sy.cutL_le _ _ _)) (by simp only [List.length_map, List.length_cons, List.length_nil]; omega)) | exact Sy.szLe' (Nat.le_trans (Nat.add_le_add (Sy.cutL_le _ _ _) (Nat.le_refl _)) (by simp only [List.length_map, List.length_cons, List.length_nil]; omega)) | exact ⟨rfl, Nat.le_of_ble_eq_true rfl, by decide +kernel⟩ | (refine ⟨?_, ?_, ?_⟩ <;> decide +kernel))
      refine ⟨q.1, q.2, rfl, ?_⟩
      have hw := beadOf_wf (nm := q.2) hsp
      repeat' ((conv => whnf); first | ((with_reducible apply Sy.one?.yes); (· first | exact rfl | ((conv => lhs; whnf); first | with_reducible exact Sy.strsD_map _ | with_reducible exact Vy.blsD_rep _ _))) | ((with_reducible apply Sy.both.yes); (· exact rfl); (· exact rfl)) | (with_reducible apply Sy.both.els) | ((refine Vy.Got.here ?_ ?_); (· first | with_reducible rfl | decide +kernel)) | ((refine Vy.Got.next ?_ ?_); (· decide +kernel)) | ((with_reducible refine Sy.IfB.t ?_ ?_); (· first | with_reducible rfl | decide +kernel)) | ((with_reducible refine Sy.IfB.f ?_ ?_); (· first | with_reducible rfl | decide +kernel)) | (with_reducible refine Sy.IfB.mk (fun _ => ?_) (fun _ => ?_)) | ((with_reducible apply Vy.mkT.yes); (· exact rfl)) | (with_reducible apply Vy.mkT.els) | ((with_reducible apply Vy.mkL.yes); (· exact rfl)) | (with_reducible apply Vy.mkL.els) | ((with_reducible apply Vy.eqOp.sc); (· exact rfl); (· exact rfl); (· exact rfl)) | ((with_reducible refine Vy.SetAt.di ?_); show Sy.one? _ _) | ((with_reducible refine Vy.SetAt.ls ?_); show Sy.one? _ _) | (with_reducible refine And.intro (Sy.Hold.out ?_) ?_))
      all_goals try (refine Sy.Hold.mk ?_; first | exact trivial | exact rfl | exact Sy.mulA (by omega) (by omega) | exact Sy.mulB (by omega) (by omega) | exact Sy.divA (by omega) (by omega) | exact Sy.smlA (by omega) (by omega) | exact Sy.szLt rfl | exact Sy.szLe rfl | exact Sy.szLe' (by omega) | exact ⟨by omega, by omega⟩ | (rw [List.length_map]; exact Sy.szLt' (by omega)) | (show (0 : Int) < _; first | omega | decide +kernel) | decide +kernel | (simp only [Vy.e_len, Vy.q_len, Vy.x_len, Vy.z_len, Vy.one_len, strLen_append, Sy.repS_len, List.length_map, List.length_append, List.length_cons, List.length_nil]; first | omega | exact Sy.szLe' (by omega) | exact Sy.szLt' (by omega) | exact Vy.cut_add (Sy.szLe' (by omega)) | exact Vy.add_cut (Sy.szLe' (by omega)) | exact Vy.cut_add (Vy.add_cut (Sy.szLe' (by omega)))) | exact ⟨by omega, by omega, by simp only [Vy.e_len, Vy.q_len, Vy.x_len, Vy.z_len, Vy.one_len]; omega, by simp only [Vy.e_len, Vy.q_len, Vy.x_len, Vy.z_len, Vy.one_len]; omega⟩ | exact Sy.szLe' (Nat.le_trans (Nat.add_le_add (Sy.cutL_le _ _ _) (Sy.cutL_le _ _ _)) (by simp only [List.length_map]; omega)) | exact Vy.flat_strs _ | exact Sy.szLe' (Nat.le_trans (Nat.add_le_add (Nat.le_refl _) (Sy.cutL_le _ _ _)) (by simp only [List.length_map, List.length_cons, List.length_nil]; omega)) | exact Sy.szLe' (Nat.le_trans (Nat.add_le_add (Sy.cutL_le _ _ _) (Nat.le_refl _)) (by simp only [List.length_map, List.length_cons, List.length_nil]; omega)) | exact ⟨rfl, Nat.le_of_ble_eq_true rfl, by decide +kernel⟩ | (refine ⟨?_, ?_, ?_⟩ <;> decide +kernel))
      · exact ⟨hw.repr (by omega) (by omega)⟩
      repeat' ((conv => whnf); first | ((with_reducible apply Sy.one?.yes); (· first | exact rfl | ((conv => lhs; whnf); first | with_reducible exact Sy.strsD_map _ | with_reducible exact Vy.blsD_rep _ _))) | ((with_reducible apply Sy.both.yes); (· exact rfl); (· exact rfl)) | (with_reducible apply Sy.both.els) | ((refine Vy.Got.here ?_ ?_); (· first | with_reducible rfl | decide +kernel)) | ((refine Vy.Got.next ?_ ?_); (· decide +kernel)) | ((with_reducible refine Sy.IfB.t ?_ ?_); (· first | with_reducible rfl | decide +kernel)) | ((with_reducible refine Sy.IfB.f ?_ ?_); (· first | with_reducible rfl | decide +kernel)) | (with_reducible refine Sy.IfB.mk (fun _ => ?_) (fun _ => ?_)) | ((with_reducible apply Vy.mkT.yes); (· exact rfl)) | (with_reducible apply Vy.mkT.els) | ((with_reducible apply Vy.mkL.yes); (· exact rfl)) | (with_reducible apply Vy.mkL.els) | ((with_reducible apply Vy.eqOp.sc); (· exact rfl); (· exact rfl); (· exact rfl)) | ((with_reducible refine Vy.SetAt.di ?_); show Sy.one? _ _) | ((with_reducible refine Vy.SetAt.ls ?_); show Sy.one? _ _) | (with_reducible refine And.intro (Sy.Hold.out ?_) ?_))
      all_goals try (refine Sy.Hold.mk ?_; first | exact trivial | exact rfl | exact Sy.mulA (by omega) (by omega) | exact Sy.mulB (by omega) (by omega) | exact Sy.divA (by omega) (by omega) | exact Sy.smlA (by omega) (by omega) | exact Sy.szLt rfl | exact Sy.szLe rfl | exact Sy.szLe' (by omega) | exact ⟨by omega, by omega⟩ | (rw [List.length_map]; exact Sy.szLt' (by omega)) | (show (0 : Int) < _; first | omega | decide +kernel) | decide +kernel | (simp only [Vy.e_len, Vy.q_len, Vy.x_len, Vy.z_len, Vy.one_len, strLen_append, Sy.repS_len, List.length_map, List.length_append, List.length_cons, List.length_nil]; first | omega | exact Sy.szLe' (by omega) | exact Sy.szLt' (by omega) | exact Vy.cut_add (Sy.szLe' (by omega)) | exact Vy.add_cut (Sy.szLe' (by omega)) | exact Vy.cut_add (Vy.add_cut (Sy.szLe' (by omega)))) | exact ⟨by omega, by omega, by simp only [Vy.e_len, Vy.q_len, Vy.x_len, Vy.z_len, Vy.one_len]; omega, by simp only [Vy.e_len, Vy.q_len, Vy.x_len, Vy.z_len, Vy.one_len]; omega⟩ | exact Sy.szLe' (Nat.le_trans (Nat.add_le_add (Sy.cutL_le _ _ _) (Sy.cutL_le _ _ _)) (by simp only [List.length_map]; omega)) | exact Vy.flat_strs _ | exact Sy.szLe' (Nat.le_trans (Nat.add_le_add (Nat.le_refl _) (Sy.cutL_le _ _ _)) (by simp only [List.length_map, List.length_cons, List.length_nil]; omega)) | exact Sy.szLe' (Nat.le_trans (Nat.add_le_add (Sy.cutL_le _ _ _) (Nat.le_refl _)) (by simp only [List.length_map, List.length_cons, List.length_nil]; omega)) | exact ⟨rfl, Nat.le_of_ble_eq_true rfl, by decide +kernel⟩ | (refine ⟨?_, ?_, ?_⟩ <;> decide +kernel))
      refine ⟨q.1, q.2, rfl, ⟨hs3, hsp⟩, ?_⟩
      repeat' ((conv => whnf); first | ((with_reducible apply Sy.one?.yes); (· first | exact rfl | ((conv => lhs; whnf); first | with_reducible exact Sy.strsD_map _ | with_reducible exact Vy.blsD_rep _ _))) | ((with_reducible apply Sy.both.yes); (· exact rfl); (· exact rfl)) | (with_reducible apply Sy.both.els) | ((refine Vy.Got.here ?_ ?_); (· first | with_reducible rfl | decide +kernel)) | ((refine Vy.Got.next ?_ ?_); (· decide +kernel)) | ((with_reducible refine Sy.IfB.t ?_ ?_); (· first | with_reducible rfl | decide +kernel)) | ((with_reducible refine Sy.IfB.f ?_ ?_); (· first | with_reducible rfl | decide +kernel)) | (with_reducible refine Sy.IfB.mk (fun _ => ?_) (fun _ => ?_)) | ((with_reducible apply Vy.mkT.yes); (· exact rfl)) | (with_reducible apply Vy.mkT.els) | ((with_reducible apply Vy.mkL.yes); (· exact rfl)) | (with_reducible apply Vy.mkL.els) | ((with_reducible apply Vy.eqOp.sc); (· exact rfl); (· exact rfl); (· exact rfl)) | ((with_reducible refine Vy.SetAt.di ?_); show Sy.one? _ _) | ((with_reducible refine Vy.SetAt.ls ?_); show Sy.one? _ _) | (with_reducible refine And.intro (Sy.Hold.out ?_) ?_))
      all_goals try (refine Sy.Hold.mk ?_; first | exact trivial | exact rfl | exact Sy.mulA (by omega) (by omega) | exact Sy.mulB (by omega) (by omega) | exact Sy.divA (by omega) (by omega) | exact Sy.smlA (by omega) (by omega) | exact Sy.szLt rfl | exact Sy.szLe rfl | exact Sy.szLe' (by omega) | exact ⟨by omega, by omega⟩ | (rw [List.length_map]; exact Sy.szLt' (by omega)) | (show (0 : Int) < _; first | omega | decide +kernel) | decide +kernel | (simp only [Vy.e_len, Vy.q_len, Vy.x_len, Vy.z_len, Vy.one_len, strLen_append, Sy.repS_len, List.length_map, List.length_append, List.length_cons, List.length_nil]; first | omega | exact Sy.szLe' (by omega) | exact Sy.szLt' (by omega) | exact Vy.cut_add (Sy.szLe' (by omega)) | exact Vy.add_cut (Sy.szLe' (by omega)) | exact Vy.cut_add (Vy.add_cut (Sy.szLe' (by omega)))) | exact ⟨by omega, by omega, by simp only [Vy.e_len, Vy.q_len, Vy.x_len, Vy.z_len, Vy.one_len]; omega, by simp only [Vy.e_len, Vy.q_len, Vy.x_len, Vy.z_len, Vy.one_len]; omega⟩ | exact Sy.szLe' (Nat.le_trans (Nat.add_le_add (Sy.cutL_le _ _ _) (Sy.cutL_le _ _ _)) (by simp only [List.length_map]; omega)) | exact Vy.flat_strs _ | exact Sy.szLe' (Nat.le_trans (Nat.add_le_add (Nat.le_refl _) (Sy.cutL_le _ _ _)) (by simp only [List.length_map, List.length_cons, List.length_nil]; omega)) | exact Sy.szLe' (Nat.le_trans (Nat.add_le_add (Sy.cutL_le _ _ _) (Nat.le_refl _)) (by simp only [List.length_map, List.length_cons, List.length_nil]; omega)) | exact ⟨rfl, Nat.le_of_ble_eq_true rfl, by decide +kernel⟩ | (refine ⟨?_, ?_, ?_⟩ <;> decide +kernel))
      · exact ⟨hw.repr (by omega) (by omega)⟩
      repeat' ((conv => whnf); first | ((with_reducible apply Sy.one?.yes); (· first | exact rfl | ((conv => lhs; whnf); first | with_reducible exact Sy.strsD_map _ | with_reducible exact Vy.blsD_rep _ _))) | ((with_reducible apply Sy.both.yes); (· exact rfl); (· exact rfl)) | (with_reducible apply Sy.both.els) | ((refine Vy.Got.here ?_ ?_); (· first | with_reducible rfl | decide +kernel)) | ((refine Vy.Got.next ?_ ?_); (· decide +kernel)) | ((with_reducible refine Sy.IfB.t ?_ ?_); (· first | with_reducible rfl | decide +kernel)) | ((with_reducible refine Sy.IfB.f ?_ ?_); (· first | with_reducible rfl | decide +kernel)) | (with_reducible refine Sy.IfB.mk (fun _ => ?_) (fun _ => ?_)) | ((with_reducible apply Vy.mkT.yes); (· exact rfl)) | (with_reducible apply Vy.mkT.els) | ((with_reducible apply Vy.mkL.yes); (· exact rfl)) | (with_reducible apply Vy.mkL.els) | ((with_reducible apply Vy.eqOp.sc); (· exact rfl); (· exact rfl); (· exact rfl)) | ((with_reducible refine Vy.SetAt.di ?_); show Sy.one? _ _) | ((with_reducible refine Vy.SetAt.ls ?_); show Sy.one? _ _) | (with_reducible refine And.intro (Sy.Hold.out ?_) ?_))
      all_goals try (refine Sy.Hold.mk ?_; first | exact trivial | exact rfl | exact Sy.mulA (by omega) (by omega) | exact Sy.mulB (by omega) (by omega) | exact Sy.divA (by omega) (by omega) | exact Sy.smlA (by omega) (by omega) | exact Sy.szLt rfl | exact Sy.szLe rfl | exact Sy.szLe' (by omega) | exact ⟨by omega, by omega⟩ | (rw [List.length_map]; exact Sy.szLt' (by omega)) | (show (0 : Int) < _; first | omega | decide +kernel) | decide +kernel | (simp only [Vy.e_len, Vy.q_len, Vy.x_len, Vy.z_len, Vy.one_len, strLen_append, Sy.repS_len, List.length_map, List.length_append, List.length_cons, List.length_nil]; first | omega | exact Sy.szLe' (by omega) | exact Sy.szLt' (by omega) | exact Vy.cut_add (Sy.szLe' (by omega)) | exact Vy.add_cut (Sy.szLe' (by omega)) | exact Vy.cut_add (Vy.add_cut (Sy.szLe' (by omega)))) | exact ⟨by omega, by omega, by simp only [Vy.e_len, Vy.q_len, Vy.x_len, Vy.z_len, Vy.one_len]; omega, by simp only [Vy.e_len, Vy.q_len, Vy.x_len, Vy.z_len, Vy.one_len]; omega⟩ | exact Sy.szLe' (Nat.le_trans (Nat.add_le_add (Sy.cutL_le _ _ _) (Sy.cutL_le _ _ _)) (by simp only [List.length_map]; omega)) | exact Vy.flat_strs _ | exact Sy.szLe' (Nat.le_trans (Nat.add_le_add (Nat.le_refl _) (Sy.cutL_le _ _ _)) (by simp only [List.length_map, List.length_cons, List.length_nil]; omega)) | exact Sy.szLe' (Nat.le_trans (Nat.add_le_add (Sy.cutL_le _ _ _) (Nat.le_refl _)) (by simp only [List.length_map, List.length_cons, List.length_nil]; omega)) | exact ⟨rfl, Nat.le_of_ble_eq_true rfl, by decide +kernel⟩ | (refine ⟨?_, ?_, ?_⟩ <;> decide +kernel))
      · rename_i hne
        rw [decide_eq_true rfl] at hne
        exact absurd hne (by decide)
      refine ⟨[], q.2, rfl, ?_⟩
      repeat' ((conv => whnf); first | ((with_reducible apply Sy.one?.yes); (· first | exact rfl | ((conv => lhs; whnf); first | with_reducible exact Sy.strsD_map _ | with_reducible exact Vy.blsD_rep _ _))) | ((with_reducible apply Sy.both.yes); (· exact rfl); (· exact rfl)) | (with_reducible apply Sy.both.els) | ((refine Vy.Got.here ?_ ?_); (· first | with_reducible rfl | decide +kernel)) | ((refine Vy.Got.next ?_ ?_); (· decide +kernel)) | ((with_reducible refine Sy.IfB.t ?_ ?_); (· first | with_reducible rfl | decide +kernel)) | ((with_reducible refine Sy.IfB.f ?_ ?_); (· first | with_reducible rfl | decide +kernel)) | (with_reducible refine Sy.IfB.mk (fun _ => ?_) (fun _ => ?_)) | ((with_reducible apply Vy.mkT.yes); (· exact rfl)) | (with_reducible apply Vy.mkT.els) | ((with_reducible apply Vy.mkL.yes); (· exact rfl)) | (with_reducible apply Vy.mkL.els) | ((with_reducible apply Vy.eqOp.sc); (· exact rfl); (· exact rfl); (· exact rfl)) | ((with_reducible refine Vy.SetAt.di ?_); show Sy.one? _ _) | ((with_reducible refine Vy.SetAt.ls ?_); show Sy.one? _ _) | (with_reducible refine And.intro (Sy.Hold.out ?_) ?_))
      all_goals try (refine Sy.Hold.mk ?_; first | exact trivial | exact rfl | exact Sy.mulA (by omega) (by omega) | exact Sy.mulB (by omega) (by omega) | exact Sy.divA (by omega) (by omega) | exact Sy.smlA (by omega) (by omega) | exact Sy.szLt rfl | exact Sy.szLe rfl | exact Sy.szLe' (by omega) | exact ⟨by omega, by omega⟩ | (rw [List.length_map]; exact Sy.szLt' (by omega)) | (show (0 : Int) < _; first | omega | decide +kernel) | decide +kernel | (simp only [Vy.e_len, Vy.q_len, Vy.x_len, Vy.z_len, Vy.one_len, strLen_append, Sy.repS_len, List.length_map, List.length_append, List.length_cons, List.length_nil]; first | omega | exact Sy.szLe' (by omega) | exact Sy.szLt' (by omega) | exact Vy.cut_add (Sy.szLe' (by omega)) | exact Vy.add_cut (Sy.szLe' (by omega)) | exact Vy.cut_add (Vy.add_cut (Sy.szLe' (by omega)))) | exact ⟨by omega, by omega, by simp only [Vy.e_len, Vy.q_len, Vy.x_len, Vy.z_len, Vy.one_len]; omega, by simp only [Vy.e_len, Vy.q_len, Vy.x_len, Vy.z_len, Vy.one_len]; omega⟩ | exact Sy.szLe' (Nat.le_trans (Nat.add_le_add (Sy.cutL_le _ _ _) (Sy.cutL_le _ _ _)) (by simp only [List.length_map]; omega)) | exact Vy.flat_strs _ | exact Sy.szLe' (Nat.le_trans (Nat.add_le_add (Nat.le_refl _) (Sy.cutL_le _ _ _)) (by simp only [List.length_map, List.length_cons, List.length_nil]; omega)) | exact Sy.szLe' (Nat.le_trans (Nat.add_le_add (Sy.cutL_le _ _ _) (Nat.le_refl _)) (by simp only [List.length_map, List.length_cons, List.length_nil]; omega)) | exact ⟨rfl, Nat.le_of_ble_eq_true rfl, by decide +kernel⟩ | (refine ⟨?_, ?_, ?_⟩ <;> decide +kernel))
      exact .now ⟨_, _, rfl, trivial⟩
    · obtain ⟨v1, v2, rfl, _⟩ := hJ
      repeat' ((conv => whnf); first | ((with_reducible apply Sy.one?.yes); (· first | exact rfl | ((conv => lhs; whnf); first | with_reducible exact Sy.strsD_map _ | with_reducible exact Vy.blsD_rep _ _))) | ((with_reducible apply Sy.both.yes); (· exact rfl); (· exact rfl)) | (with_reducible apply Sy.both.els) | ((refine Vy.Got.here ?_ ?_); (· first | with_reducible rfl | decide +kernel)) | ((refine Vy.Got.next ?_ ?_); (· decide +kernel)) | ((with_reducible refine Sy.IfB.t ?_ ?_); (· first | with_reducible rfl | decide +kernel)) | ((with_reducible refine Sy.IfB.f ?_ ?_); (· first | with_reducible rfl | decide +kernel)) | (with_reducible refine Sy.IfB.mk (fun _ => ?_) (fun _ => ?_)) | ((with_reducible apply Vy.mkT.yes); (· exact rfl)) | (with_reducible apply Vy.mkT.els) | ((with_reducible apply Vy.mkL.yes); (· exact rfl)) | (with_reducible apply Vy.mkL.els) | ((with_reducible apply Vy.eqOp.sc); (· exact rfl); (· exact rfl); (· exact rfl)) | ((with_reducible refine Vy.SetAt.di ?_); show Sy.one? _ _) | ((with_reducible refine Vy.SetAt.ls ?_); show Sy.one? _ _) | (with_reducible refine And.intro (Sy.Hold.out ?_) ?_))
      all_goals try (refine Sy.Hold.mk ?_; first | exact trivial | exact rfl | exact Sy.mulA (by omega) (by omega) | exact Sy.mulB (by omega) (by omega) | exact Sy.divA (by omega) (by omega) | exact Sy.smlA (by omega) (by omega) | exact Sy.szLt rfl | exact Sy.szLe rfl | exact Sy.szLe' (by omega) | exact ⟨by omega, by omega⟩ | (rw [List.length_map]; exact Sy.szLt' (by omega)) | (show (0 : Int) < _; first | omega | decide +kernel) | decide +kernel | (simp only [Vy.e_len, Vy.q_len, Vy.x_len, Vy.z_len, Vy.one_len, strLen_append, Sy.repS_len, List.length_map, List.length_append, List.length_cons, List.length_nil]; first | omega | exact Sy.szLe' (by omega) | exact Sy.szLt' (by omega) | exact Vy.cut_add (Sy.szLe' (by omega)) | exact Vy.add_cut (Sy.szLe' (by omega)) | exact Vy.cut_add (Vy.add_cut (Sy.szLe' (by omega)))) | exact ⟨by omega, by omega, by simp only [Vy.e_len, Vy.q_len, Vy.x_len, Vy.z_len, Vy.one_len]; omega, by simp only [Vy.e_len, Vy.q_len, Vy.x_len, Vy.z_len, Vy.one_len]; omega⟩ | exact Sy.szLe' (Nat.le_trans (Nat.add_le_add (Sy.cutL_le _ _ _) (Sy.cutL_le _ _ _)) (by simp only [List.length_map]; omega)) | exact Vy.flat_strs _ | exact Sy.szLe' (Nat.le_trans (Nat.add_le_add (Nat.le_refl _) (Sy.cutL_le _ _ _)) (by simp only [List.length_map, List.length_cons, List.length_nil]; omega)) | exact Sy.szLe' (Nat.le_trans (Nat.add_le_add (Sy.cutL_le _ _ _) (Nat.le_refl _)) (by simp only [List.length_map, List.length_cons, List.length_nil]; omega)) | exact ⟨rfl, Nat.le_of_ble_eq_true rfl, by decide +kernel⟩ | (refine ⟨?_, ?_, ?_⟩ <;> decide +kernel))
      exact hQ
end
end K03
namespace K03
open PySem PySem.Spec PyProof.Rows L2
section
open Vy
open Sy (D one? both IfB cOk cOk_cut cOk_app cOk_rep cOk_one cOk_joinT cOk_dec repS repS_len snoc_str cutL mem_cutL cutL_le cutL_map)
variable {P : Program} {w : World} {K : PySem.W.Frag} {mg : Str → Option Value} {base : Heap}
theorem all_mk {w : World} {K : PySem.W.Frag} {h : Heap} {mg : Str → Option Value} {fa : Addr} (X : K.In h) (G : h.Ns mainGlobals mg) (hfa : mg "law" = some (.ref fa))
    {f0 : Addr} {od0 an0 : Option Addr} {sl0 : Array (Option Value)} {oc0 kV0 dc0 pm0 cd0 ct0 : Value}
    {f1 : Addr} {od1 an1 : Option Addr} {sl1 : Array (Option Value)} {oc1 kV1 dc1 pm1 cd1 ct1 : Value}
    {f2 : Addr} {od2 an2 : Option Addr} {sl2 : Array (Option Value)} {oc2 kV2 dc2 pm2 cd2 ct2 : Value}
    {f3 : Addr} {od3 an3 : Option Addr} {sl3 : Array (Option Value)} {oc3 kV3 dc3 pm3 cd3 ct3 : Value}
    {f4 : Addr} {od4 an4 : Option Addr} {sl4 : Array (Option Value)} {oc4 kV4 dc4 pm4 cd4 ct4 : Value}
    {f5 : Addr} {od5 an5 : Option Addr} {sl5 : Array (Option Value)} {oc5 kV5 dc5 pm5 cd5 ct5 : Value}
    {f6 : Addr} {od6 an6 : Option Addr} {sl6 : Array (Option Value)} {oc6 kV6 dc6 pm6 cd6 ct6 : Value}
    {f7 : Addr} {od7 an7 : Option Addr} {sl7 : Array (Option Value)} {oc7 kV7 dc7 pm7 cd7 ct7 : Value}
    (a0 : PySem.W.nsIn K mainGlobals "bead_of" = some (some (.ref f0))) (l0 : K.lookup f0 = some ⟨oc0, od0, .func (PySem.W.fnOf "bead_of" "bead_of" (defArgs s_bead_of) (defBody s_bead_of) (defScope s_bead_of) .none kV0 dc0 pm0 an0 cd0 ct0), sl0⟩) (c0 : PySem.W.codeIn K cd0 "bead_of" = true) (k0 : PySem.W.keepIn K (.ref f0) = true)
    (a1 : PySem.W.nsIn K mainGlobals "_law_deal" = some (some (.ref f1))) (l1 : K.lookup f1 = some ⟨oc1, od1, .func (PySem.W.fnOf "_law_deal" "_law_deal" (defArgs s__law_deal) (defBody s__law_deal) (defScope s__law_deal) .none kV1 dc1 pm1 an1 cd1 ct1), sl1⟩) (c1 : PySem.W.codeIn K cd1 "_law_deal" = true) (k1 : PySem.W.keepIn K (.ref f1) = true)
    (a2 : PySem.W.nsIn K mainGlobals "_law_draw" = some (some (.ref f2))) (l2 : K.lookup f2 = some ⟨oc2, od2, .func (PySem.W.fnOf "_law_draw" "_law_draw" (defArgs s__law_draw) (defBody s__law_draw) (defScope s__law_draw) .none kV2 dc2 pm2 an2 cd2 ct2), sl2⟩) (c2 : PySem.W.codeIn K cd2 "_law_draw" = true) (k2 : PySem.W.keepIn K (.ref f2) = true)
    (a3 : PySem.W.nsIn K mainGlobals "_law_name" = some (some (.ref f3))) (l3 : K.lookup f3 = some ⟨oc3, od3, .func (PySem.W.fnOf "_law_name" "_law_name" (defArgs s__law_name) (defBody s__law_name) (defScope s__law_name) .none kV3 dc3 pm3 an3 cd3 ct3), sl3⟩) (c3 : PySem.W.codeIn K cd3 "_law_name" = true) (k3 : PySem.W.keepIn K (.ref f3) = true)
    (a4 : PySem.W.nsIn K mainGlobals "_law_unlike" = some (some (.ref f4))) (l4 : K.lookup f4 = some ⟨oc4, od4, .func (PySem.W.fnOf "_law_unlike" "_law_unlike" (defArgs s__law_unlike) (defBody s__law_unlike) (defScope s__law_unlike) .none kV4 dc4 pm4 an4 cd4 ct4), sl4⟩) (c4 : PySem.W.codeIn K cd4 "_law_unlike" = true) (k4 : PySem.W.keepIn K (.ref f4) = true)
    (a5 : PySem.W.nsIn K mainGlobals "_law_shapes" = some (some (.ref f5))) (l5 : K.lookup f5 = some ⟨oc5, od5, .func (PySem.W.fnOf "_law_shapes" "_law_shapes" (defArgs s__law_shapes) (defBody s__law_shapes) (defScope s__law_shapes) .none kV5 dc5 pm5 an5 cd5 ct5), sl5⟩) (c5 : PySem.W.codeIn K cd5 "_law_shapes" = true) (k5 : PySem.W.keepIn K (.ref f5) = true)
    (a6 : PySem.W.nsIn K mainGlobals "_law_due" = some (some (.ref f6))) (l6 : K.lookup f6 = some ⟨oc6, od6, .func (PySem.W.fnOf "_law_due" "_law_due" (defArgs s__law_due) (defBody s__law_due) (defScope s__law_due) .none kV6 dc6 pm6 an6 cd6 ct6), sl6⟩) (c6 : PySem.W.codeIn K cd6 "_law_due" = true) (k6 : PySem.W.keepIn K (.ref f6) = true)
    (a7 : PySem.W.nsIn K mainGlobals "law" = some (some (.ref f7))) (l7 : K.lookup f7 = some ⟨oc7, od7, .func (PySem.W.fnOf "law" "law" (defArgs s_law) (defBody s_law) (defScope s_law) .none kV7 dc7 pm7 an7 cd7 ct7), sl7⟩) (c7 : PySem.W.codeIn K cd7 "law" = true) (k7 : PySem.W.keepIn K (.ref f7) = true)
    (z_enumerate : PySem.W.nsIn K mainGlobals "enumerate" = some none)
    (z_len : PySem.W.nsIn K mainGlobals "len" = some none)
    (z_list : PySem.W.nsIn K mainGlobals "list" = some none)
    (z_max : PySem.W.nsIn K mainGlobals "max" = some none)
    (z_min : PySem.W.nsIn K mainGlobals "min" = some none)
    (z_range : PySem.W.nsIn K mainGlobals "range" = some none)
    (z_repr : PySem.W.nsIn K mainGlobals "repr" = some none)
    (z_reversed : PySem.W.nsIn K mainGlobals "reversed" = some none)
    (z_tuple : PySem.W.nsIn K mainGlobals "tuple" = some none)
    : ∃ fd : FuncData, (∀ (s : Shared) (v : Value), BindsTo s fd ⟨[v], []⟩ [("_law_script", v)]) ∧ ∀ base : Heap, K.In base → base.Ns mainGlobals mg → Sy.FnG PySem.Challenge.rw_nomiddle_k03_beads_of_shapes.prog w K mg base 3 fa fd ["_law_script"] (Vy.spV K (Vy.cP Vy.pLaw)) := by
  have e := hfa.symm.trans (PySem.W.mg_of X G a7)
  cases e
  have F0 := fun_mk (st := s_bead_of) l0 c0 k0
  have b0 := F0.binds (ps := ["shapes", "name"]) fun _ _ _ _ _ _ us hl => match us, hl with | [_, _], _ => rfl
  have F1 := fun_mk (st := s__law_deal) l1 c1 k1
  have b1 := F1.binds (ps := ["_law_script", "_law_base"]) fun _ _ _ _ _ _ us hl => match us, hl with | [_, _], _ => rfl
  have F2 := fun_mk (st := s__law_draw) l2 c2 k2
  have b2 := F2.binds (ps := ["_law_deal_here", "_law_many"]) fun _ _ _ _ _ _ us hl => match us, hl with | [_, _], _ => rfl
  have F3 := fun_mk (st := s__law_name) l3 c3 k3
  have b3 := F3.binds (ps := ["_law_deal_here"]) fun _ _ _ _ _ _ us hl => match us, hl with | [_], _ => rfl
  have F4 := fun_mk (st := s__law_unlike) l4 c4 k4
  have b4 := F4.binds (ps := ["_law_deal_here", "_law_many"]) fun _ _ _ _ _ _ us hl => match us, hl with | [_, _], _ => rfl
  have F5 := fun_mk (st := s__law_shapes) l5 c5 k5
  have b5 := F5.binds (ps := ["_law_deal_here", "_law_names"]) fun _ _ _ _ _ _ us hl => match us, hl with | [_, _], _ => rfl
  have F6 := fun_mk (st := s__law_due) l6 c6 k6
  have b6 := F6.binds (ps := ["_law_shapes_here", "_law_name_here"]) fun _ _ _ _ _ _ us hl => match us, hl with | [_, _], _ => rfl
  have F7 := fun_mk (st := s_law) l7 c7 k7
  have b7 := F7.binds (ps := ["_law_script"]) fun _ _ _ _ _ _ us hl => match us, hl with | [_], _ => rfl
  let T : Tx K mg := { z_enumerate := PySem.W.mg_none_of X G z_enumerate, z_len := PySem.W.mg_none_of X G z_len, z_list := PySem.W.mg_none_of X G z_list, z_max := PySem.W.mg_none_of X G z_max, z_min := PySem.W.mg_none_of X G z_min, z_range := PySem.W.mg_none_of X G z_range, z_repr := PySem.W.mg_none_of X G z_repr, z_reversed := PySem.W.mg_none_of X G z_reversed, z_tuple := PySem.W.mg_none_of X G z_tuple, bead_of_f := f0, bead_of_fd := _, bead_of_F := F0, bead_of_g := PySem.W.mg_of X G a0, bead_of_b := b0, _law_deal_f := f1, _law_deal_fd := _, _law_deal_F := F1, _law_deal_g := PySem.W.mg_of X G a1, _law_deal_b := b1, _law_draw_f := f2, _law_draw_fd := _, _law_draw_F := F2, _law_draw_g := PySem.W.mg_of X G a2, _law_draw_b := b2, _law_name_f := f3, _law_name_fd := _, _law_name_F := F3, _law_name_g := PySem.W.mg_of X G a3, _law_name_b := b3, _law_unlike_f := f4, _law_unlike_fd := _, _law_unlike_F := F4, _law_unlike_g := PySem.W.mg_of X G a4, _law_unlike_b := b4, _law_shapes_f := f5, _law_shapes_fd := _, _law_shapes_F := F5, _law_shapes_g := PySem.W.mg_of X G a5, _law_shapes_b := b5, _law_due_f := f6, _law_due_fd := _, _law_due_F := F6, _law_due_g := PySem.W.mg_of X G a6, _law_due_b := b6, law_f := fa, law_fd := _, law_F := F7, law_g := PySem.W.mg_of X G a7, law_b := b7 }
  refine ⟨PySem.W.fnOf "law" "law" (defArgs s_law) (defBody s_law) (defScope s_law) .none kV7 dc7 pm7 an7 cd7 ct7, fun s v => .of_eq rfl, fun base _ _ => ?_⟩
  have G__law_deal := ok_deal (P := PySem.Challenge.rw_nomiddle_k03_beads_of_shapes.prog) (w := w) (base := base) T
  have G__law_draw := ok_draw (P := PySem.Challenge.rw_nomiddle_k03_beads_of_shapes.prog) (w := w) (base := base) T
  have G__law_name := ok_name (P := PySem.Challenge.rw_nomiddle_k03_beads_of_shapes.prog) (w := w) (base := base) T G__law_draw
  have G__law_unlike := ok_unlike (P := PySem.Challenge.rw_nomiddle_k03_beads_of_shapes.prog) (w := w) (base := base) T G__law_draw
  have G__law_shapes := ok_shapes (P := PySem.Challenge.rw_nomiddle_k03_beads_of_shapes.prog) (w := w) (base := base) T G__law_draw
  have G_bead_of := ok_beadof (P := PySem.Challenge.rw_nomiddle_k03_beads_of_shapes.prog) (w := w) (base := base) T
  have G__law_due := ok_due (P := PySem.Challenge.rw_nomiddle_k03_beads_of_shapes.prog) (w := w) (base := base) T
  have G_law := ok_law (P := PySem.Challenge.rw_nomiddle_k03_beads_of_shapes.prog) (w := w) (base := base) T G__law_deal G__law_draw G__law_name G__law_unlike G__law_shapes G_bead_of G__law_due
  exact Vy.law_toG G_law
end
end K03
open PySem PySem.W PyProof.Rows in
set_option maxHeartbeats 0 in
theorem PySem.Challenge.cw_nomiddle_k03_beads_of_shapes_holds : PySem.Challenge.rw_nomiddle_k03_beads_of_shapes.Holds := by
  w_on; o_law; k_head; (case hw => w_witness2)
  k_fill
  refine Sy.walk_ofG (l := PySem.Challenge.rw_nomiddle_k03_beads_of_shapes) (n := 63) (k := 3) (x := "_law_script") (sp := fun w => Vy.spV _ (Vy.cP Vy.pLaw)) rfl (by decide) rfl ⟨rfl, by decide, by decide⟩ (fun w h Y => PySem.W.kIn_of Y) ?F (fun _ _ a ns hl hS => Vy.law_in hl hS (fun _ => rfl))
  case F =>
    intro w mg fa h KX G hmg
    refine' K03.all_mk KX G hmg ?a0 ?l0 ?c0 ?k0 ?a1 ?l1 ?c1 ?k1 ?a2 ?l2 ?c2 ?k2 ?a3 ?l3 ?c3 ?k3 ?a4 ?l4 ?c4 ?k4 ?a5 ?l5 ?c5 ?k5 ?a6 ?l6 ?c6 ?k6 ?a7 ?l7 ?c7 ?k7 ?z_enumerate ?z_len ?z_list ?z_max ?z_min ?z_range ?z_repr ?z_reversed ?z_tuple
    (case a0 => k_is)
    (case l0 => k_is)
    (case c0 => k_is)
    (case k0 => k_is)
    (case a1 => k_is)
    (case l1 => k_is)
    (case c1 => k_is)
    (case k1 => k_is)
    (case a2 => k_is)
    (case l2 => k_is)
    (case c2 => k_is)
    (case k2 => k_is)
    (case a3 => k_is)
    (case l3 => k_is)
    (case c3 => k_is)
    (case k3 => k_is)
    (case a4 => k_is)
    (case l4 => k_is)
    (case c4 => k_is)
    (case k4 => k_is)
    (case a5 => k_is)
    (case l5 => k_is)
    (case c5 => k_is)
    (case k5 => k_is)
    (case a6 => k_is)
    (case l6 => k_is)
    (case c6 => k_is)
    (case k6 => k_is)
    (case a7 => k_is)
    (case l7 => k_is)
    (case c7 => k_is)
    (case k7 => k_is)
    (case z_enumerate => k_is)
    (case z_len => k_is)
    (case z_list => k_is)
    (case z_max => k_is)
    (case z_min => k_is)
    (case z_range => k_is)
    (case z_repr => k_is)
    (case z_reversed => k_is)
    (case z_tuple => k_is)
