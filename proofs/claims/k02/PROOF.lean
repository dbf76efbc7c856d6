import PyProof.Rows.All
import Wide.All
import OpenK.AllK
import Wide.FinOn
import HandS.ForMost
import HandS.Wide
import HandS.TupAny
import HandS.IsInst
import HandS.NoneIn
import HandS.RaiseMore
import HandS.Rev
import HandS.RevTup
import HandS.Small
import HandS.Ends
import HandS.Text
import HandS.Replace
import PyProof.StrOps2
import HandS.FStrTup
import PySem.Challenge.RW_nomiddle_k02_names_and_numbers
set_option Elab.async false
set_option autoImplicit false
set_option linter.all false
set_option maxRecDepth 100000
set_option maxHeartbeats 4000000
set_option Elab.async false
/-! Sy: a store by numbers over the hand layer: frozen data D, cells that may change. -/
namespace Sy
open PySem PySem.Spec PyProof.Rows L2
/-! ### data that stands still -/
inductive D where
  | non | bl (b : Bool) | int (i : Int) | str (x : Str)
  | lst (xs : List D) | tup (xs : List D) | dct (kvs : List (Key × D)) | ob (C : Addr) (fs : List (Str × D)) | v (w : V) | scr (xs : List D)
mutual
inductive Rp (K : PySem.W.Frag) (G : Hp) : V → D → Prop
  | non : Rp K G .non .non
  | bl (b : Bool) : Rp K G (.bl b) (.bl b)
  | int (i : Int) : Rp K G (.int i) (.int i)
  | str (x : Str) : Rp K G (.str x) (.str x)
  | lst {a : Addr} {xs : List V} {ds : List D} : G a = some (.lst xs) → RpAll K G xs ds → Rp K G (.ref a) (.lst ds)
  | scr {a : Addr} {xs : List V} {ds : List D} : SqL K G a xs → RpAll K G xs ds → Rp K G (.ref a) (.scr ds)
  | tup {a : Addr} {xs : List V} {ds : List D} : SqT K G a xs → RpAll K G xs ds → Rp K G (.ref a) (.tup ds)
  | dct {a : Addr} {xs : List (Key × V)} {ds : List (Key × D)} : G a = some (.dK xs) → RpK K G xs ds → Rp K G (.ref a) (.dct ds)
  | ob {a C dx : Addr} {xs : List (Str × V)} {ds : List (Str × D)} : G a = some (.ins C dx xs) → RpF K G xs ds → Rp K G (.ref a) (.ob C ds)
  | v (w : V) : Rp K G w (.v w)
inductive RpAll (K : PySem.W.Frag) (G : Hp) : List V → List D → Prop
  | nil : RpAll K G [] []
  | cons {v : V} {vs : List V} {d : D} {ds : List D} : Rp K G v d → RpAll K G vs ds → RpAll K G (v :: vs) (d :: ds)
inductive RpK (K : PySem.W.Frag) (G : Hp) : List (Key × V) → List (Key × D) → Prop
  | nil : RpK K G [] []
  | cons {k : Key} {v : V} {vs : List (Key × V)} {d : D} {ds : List (Key × D)} : Rp K G v d → RpK K G vs ds → RpK K G ((k, v) :: vs) ((k, d) :: ds)
inductive RpF (K : PySem.W.Frag) (G : Hp) : List (Str × V) → List (Str × D) → Prop
  | nil : RpF K G [] []
  | cons {k : Str} {v : V} {vs : List (Str × V)} {d : D} {ds : List (Str × D)} : Rp K G v d → RpF K G vs ds → RpF K G ((k, v) :: vs) ((k, d) :: ds)
end
theorem sqT_mono {K : PySem.W.Frag} {H H' : Hp} {a : Addr} {xs : List V} (e : Same H H') (h : SqT K H a xs) : SqT K H' a xs := by
  rcases h with (h | ⟨o, h⟩) | h
  · exact .inl (.inl (e _ _ h))
  · exact .inl (.inr ⟨o, e _ _ h⟩)
  · exact .inr h
section
variable {K : PySem.W.Frag} {G G' : Hp}
mutual
theorem Rp.mono (e : Same G G') : ∀ {v : V} {d : D}, Rp K G v d → Rp K G' v d
  | _, _, .non => .non
  | _, _, .bl b => .bl b
  | _, _, .int i => .int i
  | _, _, .str x => .str x
  | _, _, .lst h r => .lst (e _ _ h) (RpAll.mono e r)
  | _, _, .scr h r => .scr (e.seq h) (RpAll.mono e r)
  | _, _, .tup h r => .tup (sqT_mono e h) (RpAll.mono e r)
  | _, _, .dct h r => .dct (e _ _ h) (RpK.mono e r)
  | _, _, .ob h r => .ob (e _ _ h) (RpF.mono e r)
  | _, _, .v w => .v w
theorem RpAll.mono (e : Same G G') : ∀ {v : List V} {d : List D}, RpAll K G v d → RpAll K G' v d
  | _, _, .nil => .nil
  | _, _, .cons h r => .cons (Rp.mono e h) (RpAll.mono e r)
theorem RpK.mono (e : Same G G') : ∀ {v : List (Key × V)} {d : List (Key × D)}, RpK K G v d → RpK K G' v d
  | _, _, .nil => .nil
  | _, _, .cons h r => .cons (Rp.mono e h) (RpK.mono e r)
theorem RpF.mono (e : Same G G') : ∀ {v : List (Str × V)} {d : List (Str × D)}, RpF K G v d → RpF K G' v d
  | _, _, .nil => .nil
  | _, _, .cons h r => .cons (Rp.mono e h) (RpF.mono e r)
end
end
/-! ### values of the symbolic state, cells -/
inductive Sv where
  | no | d (x : D) | r (k : Nat)
inductive Cell where
  | gone | fz (x : D) | ls (xs : List Sv) | tp (xs : List Sv) | di (kvs : List (Key × Sv)) | ob (C : Addr) (fs : List (Str × Sv)) | dl (j : Nat) | hid
def Cell.live : Cell → Bool
  | .gone => false
  | .fz _ => false
  | _ => true
structure Ms where
  e : List Sv
  s : List Cell
inductive SvR (K : PySem.W.Frag) (G : Hp) (as : List Addr) : V → Sv → Prop
  | no (v : V) : SvR K G as v .no
  | d {v : V} {x : D} : Rp K G v x → SvR K G as v (.d x)
  | r {a : Addr} {k : Nat} : as[k]? = some a → SvR K G as (.ref a) (.r k)
abbrev SvA (K : PySem.W.Frag) (G : Hp) (as : List Addr) : List V → List Sv → Prop := Paired (SvR K G as)
abbrev SvK (K : PySem.W.Frag) (G : Hp) (as : List Addr) : List (Key × V) → List (Key × Sv) → Prop := Paired fun p q => p.1 = q.1 ∧ SvR K G as p.2 q.2
abbrev SvF (K : PySem.W.Frag) (G : Hp) (as : List Addr) : List (Str × V) → List (Str × Sv) → Prop := Paired fun p q => p.1 = q.1 ∧ SvR K G as p.2 q.2
def Pre (as as' : List Addr) : Prop := ∀ (k : Nat) (a : Addr), as[k]? = some a → as'[k]? = some a
theorem Pre.refl (as : List Addr) : Pre as as := fun _ _ h => h
theorem Pre.trans {a b c : List Addr} (h : Pre a b) (h' : Pre b c) : Pre a c := fun k x e => h' k x (h k x e)
theorem SvR.mono {K : PySem.W.Frag} {G G' : Hp} {as as' : List Addr} (e : Same G G') (p : Pre as as') {v : V} {x : Sv} (h : SvR K G as v x) : SvR K G' as' v x := by
  cases h with
  | no => exact .no _
  | d h => exact .d (h.mono e)
  | r h => exact .r (p _ _ h)
theorem SvA.mono {K : PySem.W.Frag} {G G' : Hp} {as as' : List Addr} (e : Same G G') (p : Pre as as') {v : List V} {x : List Sv} (h : SvA K G as v x) : SvA K G' as' v x := Paired.mapP h fun _ _ q => q.mono e p
theorem SvK.mono {K : PySem.W.Frag} {G G' : Hp} {as as' : List Addr} (e : Same G G') (p : Pre as as') {v : List (Key × V)} {x : List (Key × Sv)} (h : SvK K G as v x) : SvK K G' as' v x := Paired.mapP h fun _ _ q => ⟨q.1, q.2.mono e p⟩
theorem SvF.mono {K : PySem.W.Frag} {G G' : Hp} {as as' : List Addr} (e : Same G G') (p : Pre as as') {v : List (Str × V)} {x : List (Str × Sv)} (h : SvF K G as v x) : SvF K G' as' v x := Paired.mapP h fun _ _ q => ⟨q.1, q.2.mono e p⟩
/-- the dict of a deal: two numbers, a list -/
def dealK (sd nm : Int) (l : Addr) : List (Key × V) := [(.inr "seed", .int sd), (.inr "number", .int nm), (.inr "left", .ref l)]
inductive CellR (K : PySem.W.Frag) (G H : Hp) (as : List Addr) (a : Addr) : Cell → Prop
  | gone : CellR K G H as a .gone
  | fz {x : D} : Rp K G (.ref a) x → CellR K G H as a (.fz x)
  | ls {vs : List V} {xs : List Sv} : H a = some (.lst vs) → SvA K G as vs xs → CellR K G H as a (.ls xs)
  | tp {vs : List V} {xs : List Sv} : H a = some (.tup vs) → SvA K G as vs xs → CellR K G H as a (.tp xs)
  | di {vs : List (Key × V)} {xs : List (Key × Sv)} : H a = some (.dK vs) → SvK K G as vs xs → CellR K G H as a (.di xs)
  | ob {C dx : Addr} {vs : List (Str × V)} {xs : List (Str × Sv)} : H a = some (.ins C dx vs) → SvF K G as vs xs → CellR K G H as a (.ob C xs)
  | dl {j : Nat} {l : Addr} {sd nm : Int} : as[j]? = some l → H a = some (.dK (dealK sd nm l)) → 0 ≤ sd → sd < 2147483648 → 0 ≤ nm → CellR K G H as a (.dl j)
  | hid {ns : List Int} : H a = some (.lst (ns.map V.int)) → (∀ n ∈ ns, 0 ≤ n) → CellR K G H as a .hid
/-- a is a cell that may change -/
def Liv (S : List Cell) (as : List Addr) (a : Addr) : Prop := ∃ (k : Nat) (c : Cell), S[k]? = some c ∧ as[k]? = some a ∧ c.live = true
def SlotR (K : PySem.W.Frag) (G : Hp) (as : List Addr) (o : Option (Option V)) (x : Sv) : Prop := x = .no ∨ ∃ v, o = some (some v) ∧ SvR K G as v x
structure Ok (K : PySem.W.Frag) (G H : Hp) (σ : L2.St) (m : Ms) (as : List Addr) : Prop where
  same : Same G H
  len : as.length = m.s.length
  el : m.e.length ≤ σ.length
  nd : ∀ (i j : Nat) (a : Addr), as[i]? = some a → as[j]? = some a → i = j
  alive : ∀ (k : Nat) (a : Addr), as[k]? = some a → H a ≠ none
  out : ∀ a, Liv m.s as a → G a = none
  sv : ∀ (i : Nat) (x : Sv), m.e[i]? = some x → SlotR K G as σ[i]? x
  ce : ∀ (k : Nat) (c : Cell) (a : Addr), m.s[k]? = some c → as[k]? = some a → CellR K G H as a c
structure Step (G H : Hp) (S : List Cell) (as : List Addr) (G' H' : Hp) (S' : List Cell) (as' : List Addr) : Prop where
  g : Same G G'
  dom : ∀ a, H a ≠ none → H' a ≠ none
  fr : ∀ a o, H a = some o → ¬ Liv S as a → H' a = some o
  pre : Pre as as'
  new : ∀ (k : Nat) (a : Addr), as'[k]? = some a → as.length ≤ k → H a = none
  liv : ∀ (k : Nat) (c' : Cell), S'[k]? = some c' → c'.live = true → k < as.length → ∃ c, S[k]? = some c ∧ c.live = true
  gd : ∀ a, G' a ≠ none → G a ≠ none ∨ Liv S as a ∨ H a = none
theorem Step.refl (G H : Hp) (S : List Cell) (as : List Addr) : Step G H S as G H S as :=
  ⟨Same.refl G, fun _ h => h, fun _ _ h _ => h, Pre.refl as, fun k a h hk => by
    have := (List.getElem?_eq_some_iff.mp h).1
    omega, fun k c h hl _ => ⟨c, h, hl⟩, fun _ h => .inl h⟩
theorem pre_len {as as' : List Addr} (h : Pre as as') {k : Nat} {a : Addr} (hk : k < as.length) (h' : as'[k]? = some a) : as[k]? = some a := by
  have e := h k as[k] (List.getElem?_eq_getElem hk)
  rw [h'] at e
  rw [List.getElem?_eq_getElem hk, Option.some.inj e]
theorem Step.trans {G H G1 H1 G2 H2 : Hp} {S S1 S2 : List Cell} {as as1 as2 : List Addr} (a : Step G H S as G1 H1 S1 as1) (b : Step G1 H1 S1 as1 G2 H2 S2 as2) : Step G H S as G2 H2 S2 as2 := by
  have nl : ∀ x o, H x = some o → ¬ Liv S as x → ¬ Liv S1 as1 x := fun x o hx hn ⟨k, c, h1, h2, h3⟩ => by
    by_cases hk : k < as.length
    · obtain ⟨c0, h4, h5⟩ := a.liv k c h1 h3 hk
      exact hn ⟨k, c0, h4, pre_len a.pre hk h2, h5⟩
    · have := a.new k x h2 (by omega)
      rw [hx] at this
      cases this
  have hlen : as.length ≤ as1.length := by
    refine Nat.le_of_not_lt fun q => ?_
    have e := a.pre as1.length as[as1.length] (List.getElem?_eq_getElem q)
    have := (List.getElem?_eq_some_iff.mp e).1
    omega
  have back : ∀ x, H1 x = none → H x = none ∨ False := fun x h => by
    cases q : H x with
    | none => exact .inl rfl
    | some o => exact absurd h (a.dom x (by rw [q]; intro z; cases z))
  refine ⟨a.g.trans b.g, fun x h => b.dom x (a.dom x h), fun x o hx hn => b.fr x o (a.fr x o hx hn) (nl x o hx hn), a.pre.trans b.pre, fun k x h hk => ?_, fun k c h hl hk => ?_, fun x h => ?_⟩
  · by_cases h1 : k < as1.length
    · exact a.new k x (pre_len b.pre h1 h) hk
    · rcases back x (b.new k x h (by omega)) with z | z
      · exact z
      · exact z.elim
  · obtain ⟨c1, h1, h2⟩ := b.liv k c h hl (by omega)
    exact a.liv k c1 h1 h2 hk
  · rcases b.gd x h with z | ⟨k, c, h1, h2, h3⟩ | z
    · exact a.gd x z
    · by_cases hk : k < as.length
      · obtain ⟨c0, h4, h5⟩ := a.liv k c h1 h3 hk
        exact .inr (.inl ⟨k, c0, h4, pre_len a.pre hk h2, h5⟩)
      · exact .inr (.inr (a.new k x h2 (by omega)))
    · rcases back x z with z | z
      · exact .inr (.inr z)
      · exact z.elim
/-! ### the judgements -/
def tSem (X : Cx) (e : Expr) : TE := fun σ H Q => ∀ (pins : List (Addr × Obj)) (s : Shared), Inv X pins σ H s → wpAny (model X.prog X.w) X.A (eval e X.env) (EP X pins σ Q) X.xe s
theorem pe_sem (X : Cx) (e : Expr) : PE X e (tSem X e) := ⟨fun pins s _ _ _ I h => h pins s I⟩
theorem tSem_of {X : Cx} {e : Expr} {t : TE} (h : PE X e t) {σ : L2.St} {H : Hp} {Q : VK} (q : t σ H Q) : tSem X e σ H Q := fun pins s I => h.run pins s σ H Q I q
theorem tSem_mono {X : Cx} {e : Expr} {σ : L2.St} {H : Hp} {Q Q' : VK} (h : tSem X e σ H Q) (k : ∀ v H', Q v H' → Q' v H') : tSem X e σ H Q' := fun pins s I =>
  thn (h pins s I) fun _ _ ⟨v, H', I', r, q⟩ => ⟨v, H', I', r, k v H' q⟩
def qSem (X : Cx) (e : Expr) : TT := fun σ H Q => ∀ (pins : List (Addr × Obj)) (s : Shared), Inv X pins σ H s → wpAny (model X.prog X.w) X.A (isTrue e X.env (eval e X.env)) (TP X pins σ Q) X.xe s
theorem pt_sem (X : Cx) (e : Expr) : PT X e (qSem X e) := ⟨fun pins s _ _ _ I h => h pins s I⟩
theorem qSem_of {X : Cx} {e : Expr} {t : TT} (h : PT X e t) {σ : L2.St} {H : Hp} {Q : Bool → Hp → Prop} (q : t σ H Q) : qSem X e σ H Q := fun pins s I => h.run pins s σ H Q I q
theorem qSem_mono {X : Cx} {e : Expr} {σ : L2.St} {H : Hp} {Q Q' : Bool → Hp → Prop} (h : qSem X e σ H Q) (k : ∀ v H', Q v H' → Q' v H') : qSem X e σ H Q' := fun pins s I =>
  thn (h pins s I) fun _ _ ⟨H', I', q⟩ => ⟨H', I', k _ H' q⟩
def wSem (X : Cx) (e : Expr) : TT := fun σ H Q => ∀ (whole : Sem Value) (pins : List (Addr × Obj)) (s : Shared), Inv X pins σ H s → wpAny (model X.prog X.w) X.A (isTrue e X.env whole) (TP X pins σ Q) X.xe s
theorem pw_sem (X : Cx) (e : Expr) : PW X e (wSem X e) := ⟨fun wh pins s _ _ _ I h => h wh pins s I⟩
theorem wSem_of {X : Cx} {e : Expr} {t : TT} (h : PW X e t) {σ : L2.St} {H : Hp} {Q : Bool → Hp → Prop} (q : t σ H Q) : wSem X e σ H Q := fun wh pins s I => h.run wh pins s σ H Q I q
def aSem (X : Cx) (es : List Expr) : TA := fun σ H Q => ∀ (pos : Pos) (pins : List (Addr × Obj)) (s : Shared), Inv X pins σ H s → wpAny (model X.prog X.w) X.A (spliced (backTo pos (starEach es X.env))) (AP X pins σ Q) X.xe s
theorem pa_sem (X : Cx) (es : List Expr) : PA X es (aSem X es) := ⟨fun pos pins s _ _ _ I h => h pos pins s I⟩
theorem aSem_of {X : Cx} {es : List Expr} {t : TA} (h : PA X es t) {σ : L2.St} {H : Hp} {Q : List V → Hp → Prop} (q : t σ H Q) : aSem X es σ H Q := fun pos pins s I => h.run pos pins s σ H Q I q
theorem aSem_mono {X : Cx} {es : List Expr} {σ : L2.St} {H : Hp} {Q Q' : List V → Hp → Prop} (h : aSem X es σ H Q) (k : ∀ v H', Q v H' → Q' v H') : aSem X es σ H Q' := fun pos pins s I =>
  thn (h pos pins s I) fun _ _ ⟨v, H', I', r, q⟩ => ⟨v, H', I', r, k v H' q⟩
def sSem (X : Cx) (st : Stmt) : TS := fun D σ H => ∀ (pins : List (Addr × Obj)) (s : Shared), Inv X pins σ H s → wpAny (model X.prog X.w) X.A (exec st X.env) (SP X pins D) X.xe s
theorem ps_sem (X : Cx) (st : Stmt) : PS X st (sSem X st) := ⟨fun pins s _ _ _ I h => h pins s I⟩
theorem sSem_of {X : Cx} {st : Stmt} {t : TS} (h : PS X st t) {σ : L2.St} {H : Hp} {D : Ends} (q : t D σ H) : sSem X st D σ H := fun pins s I => h.run pins s σ H D I q
def bSem (X : Cx) (st : List Stmt) : TS := fun D σ H => ∀ (pins : List (Addr × Obj)) (s : Shared), Inv X pins σ H s → wpAny (model X.prog X.w) X.A (execs st X.env) (SP X pins D) X.xe s
theorem pss_sem (X : Cx) (st : List Stmt) : PSs X st (bSem X st) := ⟨fun pins s _ _ _ I h => h pins s I⟩
theorem bSem_of {X : Cx} {st : List Stmt} {t : TS} (h : PSs X st t) {σ : L2.St} {H : Hp} {D : Ends} (q : t D σ H) : bSem X st D σ H := fun pins s I => h.run pins s σ H D I q
theorem sp_mono {X : Cx} {pins : List (Addr × Obj)} {D D' : Ends} (h1 : ∀ σ H, D.nx σ H → D'.nx σ H) (h2 : ∀ v H, D.rt v H → D'.rt v H) (h3 : ∀ σ H, D.bk σ H → D'.bk σ H) (h4 : ∀ σ H, D.ct σ H → D'.ct σ H) {f : Flow} {s : Shared} (h : SP X pins D f s) : SP X pins D' f s := by
  cases f with
  | next => obtain ⟨σ, H, I, q⟩ := h; exact ⟨σ, H, I, h1 _ _ q⟩
  | brk => obtain ⟨σ, H, I, q⟩ := h; exact ⟨σ, H, I, h3 _ _ q⟩
  | cont => obtain ⟨σ, H, I, q⟩ := h; exact ⟨σ, H, I, h4 _ _ q⟩
  | ret u => obtain ⟨v, σ, H, I, r, q⟩ := h; exact ⟨v, σ, H, I, r, h2 _ _ q⟩
theorem bSem_mono {X : Cx} {st : List Stmt} {D D' : Ends} {σ : L2.St} {H : Hp} (h : bSem X st D σ H) (h1 : ∀ σ H, D.nx σ H → D'.nx σ H) (h2 : ∀ v H, D.rt v H → D'.rt v H) (h3 : ∀ σ H, D.bk σ H → D'.bk σ H) (h4 : ∀ σ H, D.ct σ H → D'.ct σ H) : bSem X st D' σ H := fun pins s I =>
  thn (h pins s I) fun _ _ q => sp_mono h1 h2 h3 h4 q
theorem sSem_mono {X : Cx} {st : Stmt} {D D' : Ends} {σ : L2.St} {H : Hp} (h : sSem X st D σ H) (h1 : ∀ σ H, D.nx σ H → D'.nx σ H) (h2 : ∀ v H, D.rt v H → D'.rt v H) (h3 : ∀ σ H, D.bk σ H → D'.bk σ H) (h4 : ∀ σ H, D.ct σ H → D'.ct σ H) : sSem X st D' σ H := fun pins s I =>
  thn (h pins s I) fun _ _ q => sp_mono h1 h2 h3 h4 q
abbrev SK := Sv → Ms → Prop
abbrev E1 := Ms → SK → Prop
abbrev T1 := Ms → (Bool → Ms → Prop) → Prop
abbrev A1 := Ms → (List Sv → Ms → Prop) → Prop
structure Ends1 where
  nx : Ms → Prop
  rt : SK
  bk : Ms → Prop := fun _ => False
  ct : Ms → Prop := fun _ => False
abbrev S1 := Ends1 → Ms → Prop
/-- behind something: the state has gone on to one of which Q holds -/
def On (K : PySem.W.Frag) (σ : L2.St) (G H : Hp) (m : Ms) (as : List Addr) (Q : Ms → Prop) : Hp → Prop := fun H' =>
  ∃ G' m' as', Step G H m.s as G' H' m'.s as' ∧ Ok K G' H' σ m' as' ∧ Q m'
def OnV (K : PySem.W.Frag) (σ : L2.St) (G H : Hp) (m : Ms) (as : List Addr) (Q : SK) : VK := fun v H' =>
  ∃ G' m' as' x, Step G H m.s as G' H' m'.s as' ∧ Ok K G' H' σ m' as' ∧ SvR K G' as' v x ∧ Q x m'
def OnA (K : PySem.W.Frag) (σ : L2.St) (G H : Hp) (m : Ms) (as : List Addr) (Q : List Sv → Ms → Prop) : List V → Hp → Prop := fun vs H' =>
  ∃ G' m' as' xs, Step G H m.s as G' H' m'.s as' ∧ Ok K G' H' σ m' as' ∧ SvA K G' as' vs xs ∧ Q xs m'
def OnE (K : PySem.W.Frag) (G H : Hp) (m : Ms) (as : List Addr) (D : Ends1) : Ends where
  nx := fun σ' => On K σ' G H m as D.nx
  rt := fun v H' => ∃ σ', OnV K σ' G H m as D.rt v H'
  bk := fun σ' => On K σ' G H m as D.bk
  ct := fun σ' => On K σ' G H m as D.ct
structure DE (X : Cx) (e : Expr) (t : E1) : Prop where
  run : ∀ (G H : Hp) (σ : L2.St) (m : Ms) (as : List Addr) (Q : SK), Ok X.K G H σ m as → t m Q → tSem X e σ H (OnV X.K σ G H m as Q)
structure DT (X : Cx) (e : Expr) (t : T1) : Prop where
  run : ∀ (G H : Hp) (σ : L2.St) (m : Ms) (as : List Addr) (Q : Bool → Ms → Prop), Ok X.K G H σ m as → t m Q → qSem X e σ H (fun b => On X.K σ G H m as (Q b))
structure DW (X : Cx) (e : Expr) (t : T1) : Prop where
  run : ∀ (G H : Hp) (σ : L2.St) (m : Ms) (as : List Addr) (Q : Bool → Ms → Prop), Ok X.K G H σ m as → t m Q → wSem X e σ H (fun b => On X.K σ G H m as (Q b))
structure DA (X : Cx) (es : List Expr) (t : A1) : Prop where
  run : ∀ (G H : Hp) (σ : L2.St) (m : Ms) (as : List Addr) (Q : List Sv → Ms → Prop), Ok X.K G H σ m as → t m Q → aSem X es σ H (OnA X.K σ G H m as Q)
structure DS (X : Cx) (st : Stmt) (t : S1) : Prop where
  run : ∀ (G H : Hp) (σ : L2.St) (m : Ms) (as : List Addr) (D : Ends1), Ok X.K G H σ m as → t D m → sSem X st (OnE X.K G H m as D) σ H
structure DB (X : Cx) (st : List Stmt) (t : S1) : Prop where
  run : ∀ (G H : Hp) (σ : L2.St) (m : Ms) (as : List Addr) (D : Ends1), Ok X.K G H σ m as → t D m → bSem X st (OnE X.K G H m as D) σ H
section
variable {K : PySem.W.Frag} {σ σ' : L2.St} {G H G1 H1 : Hp} {m m1 : Ms} {as as1 : List Addr}
theorem On.from {Q : Ms → Prop} {H' : Hp} (s : Step G H m.s as G1 H1 m1.s as1) (h : On K σ G1 H1 m1 as1 Q H') : On K σ G H m as Q H' := by
  obtain ⟨G', m', as', st, ok, q⟩ := h
  exact ⟨G', m', as', s.trans st, ok, q⟩
theorem OnV.from {Q : SK} {v : V} {H' : Hp} (s : Step G H m.s as G1 H1 m1.s as1) (h : OnV K σ G1 H1 m1 as1 Q v H') : OnV K σ G H m as Q v H' := by
  obtain ⟨G', m', as', x, st, ok, r, q⟩ := h
  exact ⟨G', m', as', x, s.trans st, ok, r, q⟩
theorem On.here {Q : Ms → Prop} (o : Ok K G H σ m as) (q : Q m) : On K σ G H m as Q H := ⟨G, m, as, Step.refl .., o, q⟩
theorem OnV.here {Q : SK} {v : V} {x : Sv} (o : Ok K G H σ m as) (r : SvR K G as v x) (q : Q x m) : OnV K σ G H m as Q v H := ⟨G, m, as, x, Step.refl .., o, r, q⟩
theorem onE_from (s : Step G H m.s as G1 H1 m1.s as1) {X : Cx} {st : Stmt} {D : Ends1} {σ1 : L2.St} (h : sSem X st (OnE K G1 H1 m1 as1 D) σ1 H1) : sSem X st (OnE K G H m as D) σ1 H1 :=
  sSem_mono h (fun _ _ q => On.from s q) (fun _ _ ⟨σ', q⟩ => ⟨σ', OnV.from s q⟩) (fun _ _ q => On.from s q) (fun _ _ q => On.from s q)
theorem onEb_from (s : Step G H m.s as G1 H1 m1.s as1) {X : Cx} {st : List Stmt} {D : Ends1} {σ1 : L2.St} (h : bSem X st (OnE K G1 H1 m1 as1 D) σ1 H1) : bSem X st (OnE K G H m as D) σ1 H1 :=
  bSem_mono h (fun _ _ q => On.from s q) (fun _ _ ⟨σ', q⟩ => ⟨σ', OnV.from s q⟩) (fun _ _ q => On.from s q) (fun _ _ q => On.from s q)
end
end Sy
set_option Elab.async false
namespace Sy
open PySem PySem.Spec PyProof.Rows L2
/-! ### how a state changes -/
def Ms.push (m : Ms) (c : Cell) : Ms := ⟨m.e, m.s ++ [c]⟩
def Ms.setS (m : Ms) (k : Nat) (c : Cell) : Ms := ⟨m.e, m.s.set k c⟩
def Ms.setE (m : Ms) (i : Nat) (x : Sv) : Ms := ⟨m.e.set i x, m.s⟩
theorem Ms.push_e (m : Ms) (c : Cell) : (m.push c).e = m.e := rfl
theorem Ms.push_s (m : Ms) (c : Cell) : (m.push c).s = m.s ++ [c] := rfl
section
variable {K : PySem.W.Frag} {σ : L2.St} {G G' H H' : Hp} {m : Ms} {as as' : List Addr} {a p : Addr} {o : HO} {c : Cell} {k : Nat}
theorem same_new (h : H p = none) : Same H (upd H p o) := fun b x e => by
  rw [upd_ne (ne_of_none e h)]
  exact e
theorem dom_upd : ∀ b, H b ≠ none → upd H p o b ≠ none := fun b h => by
  unfold upd
  split
  · intro z; cases z
  · exact h
theorem CellR.mono (e : Same G G') (eh : ∀ o, H a = some o → H' a = some o) (pr : Pre as as') (h : CellR K G H as a c) : CellR K G' H' as' a c := by
  cases h with
  | gone => exact .gone
  | fz h => exact .fz (h.mono e)
  | ls h r => exact .ls (eh _ h) (r.mono e pr)
  | tp h r => exact .tp (eh _ h) (r.mono e pr)
  | di h r => exact .di (eh _ h) (r.mono e pr)
  | ob h r => exact .ob (eh _ h) (r.mono e pr)
  | dl h h1 h2 h3 h4 => exact .dl (pr _ _ h) (eh _ h1) h2 h3 h4
  | hid h h1 => exact .hid (eh _ h) h1
theorem SlotR.mono (e : Same G G') (pr : Pre as as') {q : Option (Option V)} {x : Sv} (h : SlotR K G as q x) : SlotR K G' as' q x := by
  rcases h with h | ⟨v, h, r⟩
  · exact .inl h
  · exact .inr ⟨v, h, r.mono e pr⟩
theorem liv_alive (ok : Ok K G H σ m as) (h : Liv m.s as a) : H a ≠ none := by
  obtain ⟨k, c, _, h2, _⟩ := h
  exact ok.alive k a h2
theorem g_none (ok : Ok K G H σ m as) (h : H p = none) : G p = none := by
  cases q : G p with
  | none => rfl
  | some x =>
    rw [ok.same p x q] at h
    cases h
/-- a new object that stands still -/
theorem Ok.grow (ok : Ok K G H σ m as) (hp : H p = none) : Ok K (upd G p o) (upd H p o) σ m as ∧ Step G H m.s as (upd G p o) (upd H p o) m.s as := by
  have hg := g_none ok hp
  have ne : ∀ (k : Nat) (a : Addr), as[k]? = some a → a ≠ p := fun k a h q => ok.alive k a h (by rw [q]; exact hp)
  refine ⟨⟨fun b x e => ?_, ok.len, ok.el, ok.nd, fun k a h => dom_upd a (ok.alive k a h), fun a h => ?_, fun i x h => (ok.sv i x h).mono (same_new hg) (Pre.refl as), fun k c a h h' => (ok.ce k c a h h').mono (same_new hg) (fun x e => same_new hp a x e) (Pre.refl as)⟩,
    ⟨same_new hg, dom_upd, fun a x e _ => same_new hp a x e, Pre.refl as, fun k a h hk => ?_, fun k c h hl _ => ⟨c, h, hl⟩, fun a h => ?_⟩⟩
  · unfold upd at e ⊢
    split at e
    · rename_i z; rw [if_pos z]; exact e
    · rename_i z; rw [if_neg z]; exact ok.same b x e
  · obtain ⟨k, c, h1, h2, h3⟩ := h
    rw [upd_ne (ne k a h2)]
    exact ok.out a ⟨k, c, h1, h2, h3⟩
  · have := (List.getElem?_eq_some_iff.mp h).1
    omega
  · by_cases q : a = p
    · subst q; exact .inr (.inr hp)
    · rw [upd_ne q] at h; exact .inl h
theorem get_snoc {α : Type} {l : List α} {x y : α} {k : Nat} (h : (l ++ [x])[k]? = some y) : (l[k]? = some y) ∨ (k = l.length ∧ y = x) := by
  by_cases hk : k < l.length
  · rw [List.getElem?_append_left hk] at h; exact .inl h
  · rw [List.getElem?_append_right (by omega)] at h
    have hl : k - l.length < 1 := (List.getElem?_eq_some_iff.mp h).1
    have : k - l.length = 0 := by omega
    rw [this] at h
    exact .inr ⟨by omega, (Option.some.inj h).symm⟩
theorem pre_snoc (as : List Addr) (p : Addr) : Pre as (as ++ [p]) := fun k a h => by
  rw [List.getElem?_append_left (List.getElem?_eq_some_iff.mp h).1]
  exact h
/-- a new cell -/
theorem Ok.alloc (ok : Ok K G H σ m as) (hp : H p = none) (hc : CellR K G (upd H p o) (as ++ [p]) p c) : Ok K G (upd H p o) σ (m.push c) (as ++ [p]) ∧ Step G H m.s as G (upd H p o) (m.push c).s (as ++ [p]) := by
  have hg := g_none ok hp
  have pr : Pre as (as ++ [p]) := pre_snoc as p
  have ne : ∀ (k : Nat) (a : Addr), as[k]? = some a → a ≠ p := fun k a h q => ok.alive k a h (by rw [q]; exact hp)
  refine ⟨⟨fun b x e => same_new hp b x (ok.same b x e), by rw [Ms.push_s, List.length_append, List.length_append, ok.len]; rfl, ok.el, fun i j a h1 h2 => ?_, fun k a h => ?_, fun a h => ?_, fun i x h => (ok.sv i x h).mono (Same.refl G) pr, fun k c' a h h' => ?_⟩,
    ⟨Same.refl G, dom_upd, fun a x e _ => same_new hp a x e, pr, fun k a h hk => ?_, fun k c' h hl hk => ?_, fun a h => .inl h⟩⟩
  · rcases get_snoc h1 with h1 | ⟨h1, e1⟩ <;> rcases get_snoc h2 with h2 | ⟨h2, e2⟩
    · exact ok.nd i j a h1 h2
    · exact absurd e2 (ne i a h1)
    · exact absurd e1 (ne j a h2)
    · omega
  · rcases get_snoc h with h | ⟨_, e⟩
    · exact dom_upd a (ok.alive k a h)
    · subst e; rw [upd_same]; intro z; cases z
  · obtain ⟨k, c', h1, h2, h3⟩ := h
    rcases get_snoc h2 with h2 | ⟨_, e⟩
    · refine ok.out a ⟨k, c', ?_, h2, h3⟩
      rcases get_snoc (show (m.s ++ [c])[k]? = some c' from h1) with h1 | ⟨hk, _⟩
      · exact h1
      · have := (List.getElem?_eq_some_iff.mp h2).1
        have := ok.len
        omega
    · subst e; exact hg
  · rcases get_snoc (show (m.s ++ [c])[k]? = some c' from h) with h | ⟨hk, e⟩
    · have hk : k < as.length := by
        have := (List.getElem?_eq_some_iff.mp h).1
        rw [ok.len]; exact this
      exact (ok.ce k c' a h (pre_len pr hk h')).mono (Same.refl G) (fun x e => same_new hp a x e) pr
    · subst e
      rcases get_snoc h' with h' | ⟨_, e'⟩
      · have := (List.getElem?_eq_some_iff.mp h').1
        have := ok.len
        omega
      · subst e'; exact hc
  · rcases get_snoc h with h | ⟨_, e⟩
    · have := (List.getElem?_eq_some_iff.mp h).1
      omega
    · subst e; exact hp
  · rcases get_snoc (show (m.s ++ [c])[k]? = some c' from h) with h | ⟨hk', _⟩
    · exact ⟨c', h, hl⟩
    · have := ok.len
      omega
theorem get_set {α : Type} {l : List α} {x y : α} {k j : Nat} (h : (l.set k x)[j]? = some y) : (j ≠ k ∧ l[j]? = some y) ∨ (j = k ∧ y = x ∧ k < l.length) := by
  by_cases e : k = j
  · subst e
    have hl : k < l.length := by
      have := (List.getElem?_eq_some_iff.mp h).1
      simpa using this
    rw [List.getElem?_set_self hl] at h
    exact .inr ⟨rfl, (Option.some.inj h).symm, hl⟩
  · rw [List.getElem?_set_ne e] at h
    exact .inl ⟨Ne.symm e, h⟩
/-- a cell changes -/
theorem Ok.setc {c0 : Cell} (ok : Ok K G H σ m as) (hk : m.s[k]? = some c0) (hl : c0.live = true) (ha : as[k]? = some a) (hc : CellR K G (upd H a o) as a c) : Ok K G (upd H a o) σ (m.setS k c) as ∧ Step G H m.s as G (upd H a o) (m.setS k c).s as := by
  have hg : G a = none := ok.out a ⟨k, c0, hk, ha, hl⟩
  refine ⟨⟨fun b x e => ?_, by show _ = (m.s.set k c).length; rw [List.length_set, ok.len], ok.el, ok.nd, fun j b h => dom_upd b (ok.alive j b h), fun b h => ?_, fun i x h => (ok.sv i x h), fun j c' b h h' => ?_⟩,
    ⟨Same.refl G, dom_upd, fun b x e nl => ?_, Pre.refl as, fun j b h hj => ?_, fun j c' h hl' hj => ?_, fun b h => .inl h⟩⟩
  · rw [upd_ne (fun z => by rw [z, hg] at e; cases e)]
    exact ok.same b x e
  · obtain ⟨j, c', h1, h2, h3⟩ := h
    rcases get_set (show (m.s.set k c)[j]? = some c' from h1) with ⟨_, h1⟩ | ⟨rfl, _, _⟩
    · exact ok.out b ⟨j, c', h1, h2, h3⟩
    · rw [h2] at ha; cases ha; exact hg
  · rcases get_set (show (m.s.set k c)[j]? = some c' from h) with ⟨hj, h⟩ | ⟨rfl, e, _⟩
    · refine (ok.ce j c' b h h').mono (Same.refl G) (fun x e => ?_) (Pre.refl as)
      rw [upd_ne (fun z => hj (ok.nd j k b h' (by rw [z]; exact ha)))]
      exact e
    · rw [h'] at ha; cases ha; rw [e]; exact hc
  · rw [upd_ne (fun z => nl ⟨k, c0, hk, by rw [z]; exact ha, hl⟩)]
    exact e
  · have := (List.getElem?_eq_some_iff.mp h).1
    omega
  · rcases get_set (show (m.s.set k c)[j]? = some c' from h) with ⟨_, h⟩ | ⟨rfl, _, _⟩
    · exact ⟨c', h, hl'⟩
    · exact ⟨c0, hk, hl⟩
/-- a cell stands still from now on -/
theorem Ok.still {c0 : Cell} {d : D} (ok : Ok K G H σ m as) (hk : m.s[k]? = some c0) (hl : c0.live = true) (ha : as[k]? = some a) (ho : H a = some o) (hr : Rp K (upd G a o) (.ref a) d) : Ok K (upd G a o) H σ (m.setS k (.fz d)) as ∧ Step G H m.s as (upd G a o) H (m.setS k (.fz d)).s as := by
  have hg : G a = none := ok.out a ⟨k, c0, hk, ha, hl⟩
  have sg : Same G (upd G a o) := same_new hg
  refine ⟨⟨fun b x e => ?_, by show _ = (m.s.set k _).length; rw [List.length_set, ok.len], ok.el, ok.nd, ok.alive, fun b h => ?_, fun i x h => (ok.sv i x h).mono sg (Pre.refl as), fun j c' b h h' => ?_⟩,
    ⟨sg, fun _ h => h, fun b x e nl => e, Pre.refl as, fun j b h hj => ?_, fun j c' h hl' hj => ?_, fun b h => ?_⟩⟩
  · unfold upd at e
    split at e
    · rename_i z; rw [z, ho]; exact e
    · exact ok.same b x e
  · obtain ⟨j, c', h1, h2, h3⟩ := h
    rcases get_set (show (m.s.set k (.fz d))[j]? = some c' from h1) with ⟨hj, h1⟩ | ⟨_, e, _⟩
    · rw [upd_ne (fun z => hj (ok.nd j k b h2 (by rw [z]; exact ha)))]
      exact ok.out b ⟨j, c', h1, h2, h3⟩
    · rw [e] at h3; cases h3
  · rcases get_set (show (m.s.set k (.fz d))[j]? = some c' from h) with ⟨hj, h⟩ | ⟨rfl, e, _⟩
    · exact (ok.ce j c' b h h').mono sg (fun x e => e) (Pre.refl as)
    · rw [h'] at ha; cases ha; rw [e]; exact .fz hr
  · have := (List.getElem?_eq_some_iff.mp h).1
    omega
  · rcases get_set (show (m.s.set k (.fz d))[j]? = some c' from h) with ⟨_, h⟩ | ⟨_, e, _⟩
    · exact ⟨c', h, hl'⟩
    · rw [e] at hl'; cases hl'
  · by_cases q : b = a
    · subst q; exact .inr (.inl ⟨k, c0, hk, ha, hl⟩)
    · rw [upd_ne q] at h; exact .inl h
/-- a slot is stored -/
theorem Ok.slot {i : Nat} {v : V} {x : Sv} (ok : Ok K G H σ m as) (r : SvR K G as v x) : Ok K G H (σ.set i (some v)) (m.setE i x) as := by
  refine ⟨ok.same, ok.len, by show (m.e.set i x).length ≤ (σ.set i (some v)).length; rw [List.length_set, List.length_set]; exact ok.el, ok.nd, ok.alive, ok.out, fun j y h => ?_, ok.ce⟩
  rcases get_set (show (m.e.set i x)[j]? = some y from h) with ⟨hj, h⟩ | ⟨rfl, e, hl⟩
  · rw [List.getElem?_set_ne (Ne.symm hj)]
    exact ok.sv j y h
  · rw [e]
    refine .inr ⟨v, List.getElem?_set_self (Nat.lt_of_lt_of_le hl ok.el), r⟩
/-- slots forgotten -/
theorem Ok.weakE {es : List Sv} (ok : Ok K G H σ m as) (hl : es.length ≤ m.e.length) (h : ∀ (i : Nat) (x : Sv), es[i]? = some x → x = .no ∨ m.e[i]? = some x) : Ok K G H σ ⟨es, m.s⟩ as :=
  ⟨ok.same, ok.len, Nat.le_trans hl ok.el, ok.nd, ok.alive, ok.out, fun i x e => by
    rcases h i x e with z | z
    · exact .inl z
    · exact ok.sv i x z, ok.ce⟩
end
/-! ### what is read -/
def allD : List Sv → Option (List D)
  | [] => some []
  | .d x :: r => match allD r with
    | some ds => some (x :: ds)
    | none => none
  | _ :: _ => none
def allK : List (Key × Sv) → Option (List (Key × D))
  | [] => some []
  | (k, .d x) :: r => match allK r with
    | some ds => some ((k, x) :: ds)
    | none => none
  | _ :: _ => none
def allF : List (Str × Sv) → Option (List (Str × D))
  | [] => some []
  | (k, .d x) :: r => match allF r with
    | some ds => some ((k, x) :: ds)
    | none => none
  | _ :: _ => none
section
variable {K : PySem.W.Frag} {σ : L2.St} {G H : Hp} {m : Ms} {as : List Addr}
theorem svd {v : V} {x : D} (h : SvR K G as v (.d x)) : Rp K G v x := by
  cases h with
  | d h => exact h
theorem svr {v : V} {k : Nat} (h : SvR K G as v (.r k)) : ∃ a, as[k]? = some a ∧ v = .ref a := by
  cases h with
  | r h => exact ⟨_, h, rfl⟩
theorem allD_ok : ∀ {xs : List Sv} {vs : List V} {ds : List D}, allD xs = some ds → SvA K G as vs xs → RpAll K G vs ds
  | [], _, ds, h, .nil => by
    cases (show some [] = some ds from h)
    exact .nil
  | .d x :: r, _, ds, h, .cons q t => by
    unfold allD at h
    cases e : allD r with
    | none => rw [e] at h; cases h
    | some d0 =>
      rw [e] at h
      cases h
      exact .cons (svd q) (allD_ok e t)
  | .no :: r, _, ds, h, _ => by unfold allD at h; cases h
  | .r k :: r, _, ds, h, _ => by unfold allD at h; cases h
theorem allK_ok : ∀ {xs : List (Key × Sv)} {vs : List (Key × V)} {ds : List (Key × D)}, allK xs = some ds → SvK K G as vs xs → RpK K G vs ds
  | [], _, ds, h, .nil => by
    cases (show some [] = some ds from h)
    exact .nil
  | (k, .d x) :: r, _, ds, h, .cons (a := (k', v)) q t => by
    unfold allK at h
    cases e : allK r with
    | none => rw [e] at h; cases h
    | some d0 =>
      rw [e] at h
      cases h
      obtain ⟨e1, q⟩ := q
      cases (show k' = k from e1)
      exact .cons (svd q) (allK_ok e t)
  | (_, .no) :: r, _, ds, h, _ => by unfold allK at h; cases h
  | (_, .r k) :: r, _, ds, h, _ => by unfold allK at h; cases h
theorem allF_ok : ∀ {xs : List (Str × Sv)} {vs : List (Str × V)} {ds : List (Str × D)}, allF xs = some ds → SvF K G as vs xs → RpF K G vs ds
  | [], _, ds, h, .nil => by
    cases (show some [] = some ds from h)
    exact .nil
  | (k, .d x) :: r, _, ds, h, .cons (a := (k', v)) q t => by
    unfold allF at h
    cases e : allF r with
    | none => rw [e] at h; cases h
    | some d0 =>
      rw [e] at h
      cases h
      obtain ⟨e1, q⟩ := q
      cases (show k' = k from e1)
      exact .cons (svd q) (allF_ok e t)
  | (_, .no) :: r, _, ds, h, _ => by unfold allF at h; cases h
  | (_, .r k) :: r, _, ds, h, _ => by unfold allF at h; cases h
theorem rpAll_sv : ∀ {vs : List V} {ds : List D}, RpAll K G vs ds → SvA K G as vs (ds.map .d)
  | _, _, .nil => .nil
  | _, _, .cons h r => .cons (.d h) (rpAll_sv r)
end
/-- data as it is now -/
def vdc : Cell → Option D
  | .fz x => some x
  | .ls xs => (allD xs).map .lst
  | .tp xs => (allD xs).map .tup
  | .di xs => (allK xs).map .dct
  | _ => none
def vd (S : List Cell) : Sv → Option D
  | .no => none
  | .d x => some x
  | .r k => (S[k]?).bind vdc
/-- a list, a tuple, a list that is only read -/
inductive Sk where
  | l | t | s
def sqd : D → Option (Sk × List Sv)
  | .lst ds => some (.l, ds.map .d)
  | .tup ds => some (.t, ds.map .d)
  | .scr ds => some (.s, ds.map .d)
  | _ => none
def sqc : Cell → Option (Sk × List Sv)
  | .ls xs => some (.l, xs)
  | .tp xs => some (.t, xs)
  | .fz x => sqd x
  | _ => none
def sq (S : List Cell) : Sv → Option (Sk × List Sv)
  | .d x => sqd x
  | .r k => (S[k]?).bind sqc
  | .no => none
section
variable {K : PySem.W.Frag} {σ : L2.St} {G H : Hp} {m : Ms} {as : List Addr} {v : V} {x : Sv}
theorem vd_ok (ok : Ok K G H σ m as) (r : SvR K G as v x) {d : D} (h : vd m.s x = some d) : Rp K H v d := by
  cases x with
  | no => cases h
  | d y => cases h; exact (svd r).mono ok.same
  | r k =>
    obtain ⟨a, ha, rfl⟩ := svr r
    cases hc : m.s[k]? with
    | none =>
      have h : (m.s[k]?).bind vdc = some d := h
      rw [hc] at h; cases h
    | some c =>
      have h : (m.s[k]?).bind vdc = some d := h
      rw [hc] at h
      have h : vdc c = some d := h
      have q := ok.ce k c a hc ha
      cases q with
      | gone => cases h
      | fz q => cases h; exact q.mono ok.same
      | @ls vs xs q t =>
        obtain ⟨ds, e, rfl⟩ := Option.map_eq_some_iff.mp (show (allD xs).map D.lst = some d from h)
        exact .lst q ((allD_ok e t).mono ok.same)
      | @tp vs xs q t =>
        obtain ⟨ds, e, rfl⟩ := Option.map_eq_some_iff.mp (show (allD xs).map D.tup = some d from h)
        exact .tup (SqT.of q) ((allD_ok e t).mono ok.same)
      | @di vs xs q t =>
        obtain ⟨ds, e, rfl⟩ := Option.map_eq_some_iff.mp (show (allK xs).map D.dct = some d from h)
        exact .dct q ((allK_ok e t).mono ok.same)
      | ob _ _ => cases h
      | dl _ _ _ _ _ => cases h
      | hid _ _ => cases h
/-- of a list, a tuple: where it stands, what is in it -/
def SqB (K : PySem.W.Frag) (H : Hp) (b : Sk) (a : Addr) (vs : List V) : Prop := match b with
  | .l => H a = some (.lst vs)
  | .t => SqT K H a vs
  | .s => SqL K H a vs
theorem rp_lst {d : List D} (h : Rp K G v (.lst d)) : ∃ a vs, v = .ref a ∧ G a = some (.lst vs) ∧ RpAll K G vs d := by
  cases h with
  | lst h r => exact ⟨_, _, rfl, h, r⟩
theorem rp_scr {d : List D} (h : Rp K G v (.scr d)) : ∃ a vs, v = .ref a ∧ SqL K G a vs ∧ RpAll K G vs d := by
  cases h with
  | scr h r => exact ⟨_, _, rfl, h, r⟩
theorem rp_tup {d : List D} (h : Rp K G v (.tup d)) : ∃ a vs, v = .ref a ∧ SqT K G a vs ∧ RpAll K G vs d := by
  cases h with
  | tup h r => exact ⟨_, _, rfl, h, r⟩
theorem rp_dct {d : List (Key × D)} (h : Rp K G v (.dct d)) : ∃ a vs, v = .ref a ∧ G a = some (.dK vs) ∧ RpK K G vs d := by
  cases h with
  | dct h r => exact ⟨_, _, rfl, h, r⟩
theorem rp_ob {C : Addr} {d : List (Str × D)} (h : Rp K G v (.ob C d)) : ∃ a dx vs, v = .ref a ∧ G a = some (.ins C dx vs) ∧ RpF K G vs d := by
  cases h with
  | ob h r => exact ⟨_, _, _, rfl, h, r⟩
theorem rp_int {i : Int} (h : Rp K G v (.int i)) : v = .int i := by
  cases h
  rfl
theorem rp_str {i : Str} (h : Rp K G v (.str i)) : v = .str i := by
  cases h
  rfl
theorem rp_bl {i : Bool} (h : Rp K G v (.bl i)) : v = .bl i := by
  cases h
  rfl
theorem rp_non (h : Rp K G v .non) : v = .non := by
  cases h
  rfl
theorem rp_v {w : V} (h : Rp K G v (.v w)) : v = w := by
  cases h
  rfl
theorem sqd_ok (e0 : Same G H) {y : D} (r : Rp K G v y) {b : Sk} {xs : List Sv} (h : sqd y = some (b, xs)) : ∃ a vs, v = .ref a ∧ SqB K H b a vs ∧ SvA K G as vs xs := by
  cases y with
  | lst ds =>
    cases h
    obtain ⟨a, vs, e, h1, h2⟩ := rp_lst r
    exact ⟨a, vs, e, e0 _ _ h1, rpAll_sv h2⟩
  | tup ds =>
    cases h
    obtain ⟨a, vs, e, h1, h2⟩ := rp_tup r
    exact ⟨a, vs, e, sqT_mono e0 h1, rpAll_sv h2⟩
  | scr ds =>
    cases h
    obtain ⟨a, vs, e, h1, h2⟩ := rp_scr r
    exact ⟨a, vs, e, e0.seq h1, rpAll_sv h2⟩
  | non => cases h
  | bl _ => cases h
  | int _ => cases h
  | str _ => cases h
  | dct _ => cases h
  | ob _ _ => cases h
  | v _ => cases h
theorem sq_ok (ok : Ok K G H σ m as) (r : SvR K G as v x) {b : Sk} {xs : List Sv} (h : sq m.s x = some (b, xs)) : ∃ a vs, v = .ref a ∧ SqB K H b a vs ∧ SvA K G as vs xs := by
  cases x with
  | no => cases h
  | d y => exact sqd_ok ok.same (svd r) h
  | r k =>
    obtain ⟨a, ha, e⟩ := svr r
    have h : (m.s[k]?).bind sqc = some (b, xs) := h
    cases hc : m.s[k]? with
    | none => rw [hc] at h; cases h
    | some c =>
      rw [hc] at h
      have h : sqc c = some (b, xs) := h
      have q := ok.ce k c a hc ha
      cases q with
      | gone => cases h
      | @fz y q => rw [e]; exact sqd_ok ok.same q h
      | @ls vs xs q t => cases h; exact ⟨a, vs, e, q, t⟩
      | @tp vs xs q t => cases h; exact ⟨a, vs, e, SqT.of q, t⟩
      | di _ _ => cases h
      | ob _ _ => cases h
      | dl _ _ _ _ _ => cases h
      | hid _ _ => cases h
end
end Sy
set_option Elab.async false
namespace Sy
open PySem PySem.Spec PyProof.Rows L2
/-! ### operators by values -/
def rSem (X : Cx) (f : Value → Value → Sem Value) : R2 := fun x y H Q => ∀ (pins : List (Addr × Obj)) (s : Shared) (σ : L2.St) (v u : Value), Inv X pins σ H s → RelV x v → RelV y u → wpAny (model X.prog X.w) X.A (f v u) (EP X pins σ Q) X.xe s
theorem op_sem (X : Cx) (f : Value → Value → Sem Value) : OpR X f (rSem X f) := fun pins s σ _ _ _ v u _ I rx ry h => h pins s σ v u I rx ry
theorem rSem_of {X : Cx} {f : Value → Value → Sem Value} {r : R2} (h : OpR X f r) {x y : V} {H : Hp} {Q : VK} (q : r x y H Q) : rSem X f x y H Q := fun pins s σ v u I rx ry => h pins s σ H x y v u Q I rx ry q
def uSem (X : Cx) (f : Value → Sem Value) : V → Hp → VK → Prop := fun x H Q => ∀ (pins : List (Addr × Obj)) (s : Shared) (σ : L2.St) (v : Value), Inv X pins σ H s → RelV x v → wpAny (model X.prog X.w) X.A (f v) (EP X pins σ Q) X.xe s
theorem un_sem (X : Cx) (f : Value → Sem Value) : UnR X f (uSem X f) := fun pins s σ _ _ v _ I rx h => h pins s σ v I rx
theorem uSem_of {X : Cx} {f : Value → Sem Value} {r : V → Hp → VK → Prop} (h : UnR X f r) {x : V} {H : Hp} {Q : VK} (q : r x H Q) : uSem X f x H Q := fun pins s σ v I rx => h pins s σ H x v Q I rx q
def cSem (X : Cx) (f : Value) : List V → Hp → VK → Prop := fun xs H Q => ∀ (pins : List (Addr × Obj)) (s : Shared) (σ : L2.St) (us : List Value), Inv X pins σ H s → Vals xs us → wpAny (model X.prog X.w) X.A (call f us) (EP X pins σ Q) X.xe s
theorem call_sem (X : Cx) (f : Value) : CallR X f (cSem X f) := fun pins s σ _ _ us _ I rx h => h pins s σ us I rx
theorem cSem_of {X : Cx} {f : Value} {r : List V → Hp → VK → Prop} (h : CallR X f r) {xs : List V} {H : Hp} {Q : VK} (q : r xs H Q) : cSem X f xs H Q := fun pins s σ us I rx => h pins s σ H xs us Q I rx q
abbrev O2 := Sv → Sv → Ms → SK → Prop
abbrev O1 := Sv → Ms → SK → Prop
abbrev OC := List Sv → Ms → SK → Prop
structure OpD (X : Cx) (f : Value → Value → Sem Value) (o : O2) : Prop where
  run : ∀ (G H : Hp) (σ : L2.St) (m : Ms) (as : List Addr) (v u : V) (x y : Sv) (Q : SK), Ok X.K G H σ m as → SvR X.K G as v x → SvR X.K G as u y → o x y m Q → rSem X f v u H (OnV X.K σ G H m as Q)
structure UnD (X : Cx) (f : Value → Sem Value) (o : O1) : Prop where
  run : ∀ (G H : Hp) (σ : L2.St) (m : Ms) (as : List Addr) (v : V) (x : Sv) (Q : SK), Ok X.K G H σ m as → SvR X.K G as v x → o x m Q → uSem X f v H (OnV X.K σ G H m as Q)
structure CallD (X : Cx) (f : Value) (o : OC) : Prop where
  run : ∀ (G H : Hp) (σ : L2.St) (m : Ms) (as : List Addr) (vs : List V) (xs : List Sv) (Q : SK), Ok X.K G H σ m as → SvA X.K G as vs xs → o xs m Q → cSem X f vs H (OnV X.K σ G H m as Q)
def eB (o : O2) (ta tb : E1) : E1 := fun m Q => ta m fun x m1 => tb m1 fun y m2 => o x y m2 Q
def eU (o : O1) (ta : E1) : E1 := fun m Q => ta m fun x m1 => o x m1 Q
def eA (o : OC) (ta : A1) : E1 := fun m Q => ta m fun xs m1 => o xs m1 Q
section
variable {X : Cx} {a b c : Expr} {ta tb tc : E1} {pos : Pos}
/-- two expressions, then what comes of both -/
theorem two {o : O2} {R : R2} {σ : L2.St} {G H : Hp} {m : Ms} {as : List Addr} {Q : SK} (ha : DE X a ta) (hb : DE X b tb) (ok : Ok X.K G H σ m as) (q : eB o ta tb m Q)
    (k : ∀ (G H : Hp) (m : Ms) (as : List Addr) (v u : V) (x y : Sv), Ok X.K G H σ m as → SvR X.K G as v x → SvR X.K G as u y → o x y m Q → R v u H (OnV X.K σ G H m as Q))
    (mono : ∀ (v u : V) (H : Hp) (Q Q' : VK), (∀ v H, Q v H → Q' v H) → R v u H Q → R v u H Q') :
    tOp R (tSem X a) (tSem X b) σ H (OnV X.K σ G H m as Q) := by
  refine tSem_mono (ha.run G H σ m as _ ok q) fun v H1 ⟨G1, m1, as1, x, st1, ok1, r1, q1⟩ => ?_
  refine tSem_mono (hb.run G1 H1 σ m1 as1 _ ok1 q1) fun u H2 ⟨G2, m2, as2, y, st2, ok2, r2, q2⟩ => ?_
  exact mono v u H2 _ _ (fun v H h => OnV.from (st1.trans st2) h) (k G2 H2 m2 as2 v u x y ok2 (r1.mono st2.g st2.pre) r2 q2)
theorem rSem_mono {f : Value → Value → Sem Value} {v u : V} {H : Hp} {Q Q' : VK} (k : ∀ v H, Q v H → Q' v H) (h : rSem X f v u H Q) : rSem X f v u H Q' := fun pins s σ a b I ra rb =>
  thn (h pins s σ a b I ra rb) fun _ _ ⟨v, H', I', r, q⟩ => ⟨v, H', I', r, k v H' q⟩
theorem uSem_mono {f : Value → Sem Value} {v : V} {H : Hp} {Q Q' : VK} (k : ∀ v H, Q v H → Q' v H) (h : uSem X f v H Q) : uSem X f v H Q' := fun pins s σ a I ra =>
  thn (h pins s σ a I ra) fun _ _ ⟨v, H', I', r, q⟩ => ⟨v, H', I', r, k v H' q⟩
theorem cSem_mono {f : Value} {v : List V} {H : Hp} {Q Q' : VK} (k : ∀ v H, Q v H → Q' v H) (h : cSem X f v H Q) : cSem X f v H Q' := fun pins s σ a I ra =>
  thn (h pins s σ a I ra) fun _ _ ⟨v, H', I', r, q⟩ => ⟨v, H', I', r, k v H' q⟩
theorem de_bin {op : Operator} {o : O2} (ho : OpD X (binaryOp op) o) (ha : DE X a ta) (hb : DE X b tb) : DE X (.BinOp a op b pos) (eB o ta tb) :=
  ⟨fun G H σ m as Q ok q => tSem_of (pe_op (op_sem X _) (pe_sem X a) (pe_sem X b)) (two ha hb ok q (fun G H m as v u x y ok r1 r2 q => ho.run G H σ m as v u x y Q ok r1 r2 q) fun _ _ _ _ _ k h => rSem_mono k h)⟩
theorem de_cmp {op : CmpOp} {o : O2} (ho : OpD X (compareOp op) o) (ha : DE X a ta) (hb : DE X b tb) (hm : behindInMarks op b = false) : DE X (.Compare a [op] [b] pos) (eB o ta tb) :=
  ⟨fun G H σ m as Q ok q => tSem_of (pe_cmpR (op_sem X _) (pe_sem X a) (pe_sem X b) hm) (two ha hb ok q (fun G H m as v u x y ok r1 r2 q => ho.run G H σ m as v u x y Q ok r1 r2 q) fun _ _ _ _ _ k h => rSem_mono k h)⟩
/-- a value, as a test -/
def eT (t : E1) : T1 := fun m Q => t m fun x m1 => match x with
  | .d (.bl b) => Q b m1
  | _ => False
theorem onV_bl {σ : L2.St} {G H : Hp} {m : Ms} {as : List Addr} {v : V} {H' : Hp} {Q : Bool → Ms → Prop} (h : OnV X.K σ G H m as (fun x m1 => match x with
  | .d (.bl b) => Q b m1
  | _ => False) v H') : ∃ b, v = .bl b ∧ On X.K σ G H m as (Q b) H' := by
  obtain ⟨G', m', as', x, st, ok, r, q⟩ := h
  match x, r, q with
  | .d (.bl b), r, q =>
    cases svd r
    exact ⟨b, rfl, G', m', as', st, ok, q⟩
theorem dt_cmp {op : CmpOp} {o : O2} (ho : OpD X (compareOp op) o) (ha : DE X a ta) (hb : DE X b tb) (hm : behindInMarks op b = false) : DT X (.Compare a [op] [b] pos) (eT (eB o ta tb)) :=
  ⟨fun G H σ m as Q ok q => qSem_of (pt_cmpR (op_sem X _) (pe_sem X a) (pe_sem X b) hm) (by
    have h := two (R := rSem X (compareOp op)) ha hb ok q (fun G H m as v u x y ok r1 r2 q => ho.run G H σ m as v u x y _ ok r1 r2 q) fun _ _ _ _ _ k h => rSem_mono k h
    refine tSem_mono h fun v H1 h1 => tSem_mono h1 fun u H2 h2 => rSem_mono (fun z H3 h3 => ?_) h2
    obtain ⟨b, e, h4⟩ := onV_bl h3
    exact ⟨b, e, h4⟩)⟩
theorem dt_val (ha : DE X a ta) (he : ∀ whole, isTrue a X.env whole = (do let v ← whole; standAt a.pos; holding [v] (truthy v)) := by intro _; rfl) : DT X a (eT ta) :=
  ⟨fun G H σ m as Q ok q => qSem_of (pt_val (pe_sem X a) he) (by
    refine tSem_mono (ha.run G H σ m as _ ok q) fun v H1 h => ?_
    exact onV_bl h)⟩
theorem de_un {op : UnaryOp} {o : O1} (ho : UnD X (unaryOp op) o) (ha : DE X a ta) : DE X (.UnaryOp op a pos) (eU o ta) :=
  ⟨fun G H σ m as Q ok q => tSem_of (pe_un (un_sem X _) (pe_sem X a)) (by
    refine tSem_mono (ha.run G H σ m as _ ok q) fun v H1 ⟨G1, m1, as1, x, st1, ok1, r1, q1⟩ => ?_
    exact uSem_mono (fun v H h => OnV.from st1 h) (ho.run G1 H1 σ m1 as1 v x Q ok1 r1 q1))⟩
/-! ### and, or, not, if -/
/-- by a truth -/
inductive IfB (b : Bool) (A B : Prop) : Prop
  | mk : (b = true → A) → (b = false → B) → IfB b A B
theorem IfB.t {b : Bool} {A B : Prop} (h : b = true) (a : A) : IfB b A B := ⟨fun _ => a, fun e => by rw [h] at e; cases e⟩
theorem IfB.f {b : Bool} {A B : Prop} (h : b = false) (a : B) : IfB b A B := ⟨fun e => by rw [h] at e; (cases e), fun _ => a⟩
theorem IfB.tt {A B : Prop} (h : IfB true A B) : A := by cases h with | mk h _ => exact h rfl
theorem IfB.ff {A B : Prop} (h : IfB false A B) : B := by cases h with | mk _ h => exact h rfl
def qAnd (t u : T1) : T1 := fun m Q => t m fun b m1 => IfB b (u m1 Q) (Q false m1)
def qOr (t u : T1) : T1 := fun m Q => t m fun b m1 => IfB b (Q true m1) (u m1 Q)
def qNot (t : T1) : T1 := fun m Q => t m fun b m1 => Q (!b) m1
variable {qa qb : T1} {rest : List Expr}
theorem On.fromE {σ : L2.St} {G H G1 H1 : Hp} {m m1 : Ms} {as as1 : List Addr} {Q : Bool → Ms → Prop} (s : Step G H m.s as G1 H1 m1.s as1) : ∀ b H', On X.K σ G1 H1 m1 as1 (Q b) H' → On X.K σ G H m as (Q b) H' := fun _ _ h => On.from s h
theorem wSem_mono {e : Expr} {σ : L2.St} {H : Hp} {Q Q' : Bool → Hp → Prop} (h : wSem X e σ H Q) (k : ∀ v H', Q v H' → Q' v H') : wSem X e σ H Q' := fun wh pins s I =>
  thn (h wh pins s I) fun _ _ ⟨H', I', q⟩ => ⟨H', I', k _ H' q⟩
theorem DW.dt (h : DW X a qa) : DT X a qa := ⟨fun G H σ m as Q ok q => fun pins s I => h.run G H σ m as Q ok q _ pins s I⟩
theorem dw_and1 (ha : DT X a qa) : DW X (.BoolOp .And [a] pos) qa := ⟨fun G H σ m as Q ok q => wSem_of (pw_and1 (pt_sem X a)) (ha.run G H σ m as Q ok q)⟩
theorem dw_or1 (ha : DT X a qa) : DW X (.BoolOp .Or [a] pos) qa := ⟨fun G H σ m as Q ok q => wSem_of (pw_or1 (pt_sem X a)) (ha.run G H σ m as Q ok q)⟩
theorem dw_and (ha : DT X a qa) (hb : DW X (.BoolOp .And (b :: rest) pos) qb) : DW X (.BoolOp .And (a :: b :: rest) pos) (qAnd qa qb) :=
  ⟨fun G H σ m as Q ok q => wSem_of (pw_and (pt_sem X a) (pw_sem X _)) (by
    refine qSem_mono (ha.run G H σ m as _ ok q) fun c H1 ⟨G1, m1, as1, st1, ok1, q1⟩ => ?_
    cases c with
    | true => exact iteT (wSem_mono (hb.run G1 H1 σ m1 as1 Q ok1 (IfB.tt q1)) (On.fromE st1))
    | false => exact iteF ⟨G1, m1, as1, st1, ok1, IfB.ff q1⟩)⟩
theorem dw_or (ha : DT X a qa) (hb : DW X (.BoolOp .Or (b :: rest) pos) qb) : DW X (.BoolOp .Or (a :: b :: rest) pos) (qOr qa qb) :=
  ⟨fun G H σ m as Q ok q => wSem_of (pw_or (pt_sem X a) (pw_sem X _)) (by
    refine qSem_mono (ha.run G H σ m as _ ok q) fun c H1 ⟨G1, m1, as1, st1, ok1, q1⟩ => ?_
    cases c with
    | true => exact iteT ⟨G1, m1, as1, st1, ok1, IfB.tt q1⟩
    | false => exact iteF (wSem_mono (hb.run G1 H1 σ m1 as1 Q ok1 (IfB.ff q1)) (On.fromE st1)))⟩
theorem dt_not (ha : DT X a qa) : DT X (.UnaryOp .Not a pos) (qNot qa) := ⟨fun G H σ m as Q ok q => qSem_of (pt_not (pt_sem X a)) (ha.run G H σ m as (fun b => Q (!b)) ok q)⟩
/-- and, or of truths, as values -/
def eBl (t : E1) (f : Bool → Ms → SK → Prop) : E1 := fun m Q => t m fun x m1 => match x with
  | .d (.bl b) => f b m1 Q
  | _ => False
def eAnd (ta tb : E1) : E1 := eBl ta fun b m Q => IfB b (tb m Q) (Q (.d (.bl false)) m)
def eOr (ta tb : E1) : E1 := eBl ta fun b m Q => IfB b (Q (.d (.bl true)) m) (tb m Q)
def eNot (ta : E1) : E1 := eBl ta fun b m Q => Q (.d (.bl (!b))) m
theorem eBl_run {f : Bool → Ms → SK → Prop} {σ : L2.St} {G H : Hp} {m : Ms} {as : List Addr} {Q : SK} (ha : DE X a ta) (ok : Ok X.K G H σ m as) (q : eBl ta f m Q) :
    tSem X a σ H (fun x H1 => ∃ b, x = .bl b ∧ ∃ G1 m1 as1, Step G H m.s as G1 H1 m1.s as1 ∧ Ok X.K G1 H1 σ m1 as1 ∧ f b m1 Q) := by
  refine tSem_mono (ha.run G H σ m as _ ok q) fun v H1 ⟨G1, m1, as1, x, st1, ok1, r1, q1⟩ => ?_
  match x, r1, q1 with
  | .d (.bl b), r1, q1 =>
    cases svd r1
    exact ⟨b, rfl, G1, m1, as1, st1, ok1, q1⟩
theorem OnV.fromE {σ : L2.St} {G H G1 H1 : Hp} {m m1 : Ms} {as as1 : List Addr} {Q : SK} (s : Step G H m.s as G1 H1 m1.s as1) : ∀ v H', OnV X.K σ G1 H1 m1 as1 Q v H' → OnV X.K σ G H m as Q v H' := fun _ _ h => OnV.from s h
theorem de_one {op} (h : DE X a ta) : DE X (.BoolOp op [a] pos) ta := ⟨fun G H σ m as Q ok q => tSem_of (pe_one (pe_sem X a)) (h.run G H σ m as Q ok q)⟩
theorem de_and (ha : DE X a ta) (hb : DE X (.BoolOp .And (b :: rest) pos) tb) : DE X (.BoolOp .And (a :: b :: rest) pos) (eAnd ta tb) :=
  ⟨fun G H σ m as Q ok q => tSem_of (pe_and (pe_sem X a) (pe_sem X _)) (by
    refine tSem_mono (eBl_run ha ok q) fun v H1 ⟨c, e, G1, m1, as1, st1, ok1, q1⟩ => ⟨c, e, ?_⟩
    cases c with
    | true => exact iteT (tSem_mono (hb.run G1 H1 σ m1 as1 Q ok1 (IfB.tt q1)) (OnV.fromE st1))
    | false => exact iteF ⟨G1, m1, as1, _, st1, ok1, .d (.bl false), IfB.ff q1⟩)⟩
theorem de_or (ha : DE X a ta) (hb : DE X (.BoolOp .Or (b :: rest) pos) tb) : DE X (.BoolOp .Or (a :: b :: rest) pos) (eOr ta tb) :=
  ⟨fun G H σ m as Q ok q => tSem_of (pe_or (pe_sem X a) (pe_sem X _)) (by
    refine tSem_mono (eBl_run ha ok q) fun v H1 ⟨c, e, G1, m1, as1, st1, ok1, q1⟩ => ⟨c, e, ?_⟩
    cases c with
    | true => exact iteT ⟨G1, m1, as1, _, st1, ok1, .d (.bl true), IfB.tt q1⟩
    | false => exact iteF (tSem_mono (hb.run G1 H1 σ m1 as1 Q ok1 (IfB.ff q1)) (OnV.fromE st1)))⟩
theorem de_not (ha : DE X a ta) : DE X (.UnaryOp .Not a pos) (eNot ta) :=
  ⟨fun G H σ m as Q ok q => tSem_of (pe_not (pe_sem X a)) (by
    refine tSem_mono (eBl_run ha ok q) fun v H1 ⟨c, e, G1, m1, as1, st1, ok1, q1⟩ => ⟨c, e, G1, m1, as1, _, st1, ok1, .d (.bl _), q1⟩)⟩
def eIf (t : T1) (ta tb : E1) : E1 := fun m Q => t m fun b m1 => IfB b (ta m1 Q) (tb m1 Q)
theorem de_if (hc : DT X c qa) (ha : DE X a ta) (hb : DE X b tb) : DE X (.IfExp c a b pos) (eIf qa ta tb) :=
  ⟨fun G H σ m as Q ok q => tSem_of (pe_ifExp (pt_sem X c) (pe_sem X a) (pe_sem X b)) (by
    refine qSem_mono (hc.run G H σ m as _ ok q) fun c H1 ⟨G1, m1, as1, st1, ok1, q1⟩ => ?_
    cases c with
    | true => exact iteT (tSem_mono (ha.run G1 H1 σ m1 as1 Q ok1 (IfB.tt q1)) (OnV.fromE st1))
    | false => exact iteF (tSem_mono (hb.run G1 H1 σ m1 as1 Q ok1 (IfB.ff q1)) (OnV.fromE st1)))⟩
/-! ### constants, names -/
def eC (d : D) : E1 := fun m Q => Q (.d d) m
theorem de_const {v : V} {d : D} (h : PE X a (tC v)) (r : ∀ G, Rp X.K G v d) : DE X a (eC d) := ⟨fun G H σ m as Q ok q => tSem_of h (OnV.here ok (.d (r G)) q)⟩
theorem de_int {i j pos} : DE X (.Constant (.int i) j pos) (eC (.int i)) := de_const pe_int fun _ => .int i
theorem de_bl {i j pos} : DE X (.Constant (.bool i) j pos) (eC (.bl i)) := de_const pe_bl fun _ => .bl i
theorem de_str {i j pos} : DE X (.Constant (.str i) j pos) (eC (.str i)) := de_const pe_str fun _ => .str i
theorem de_non {j pos} : DE X (.Constant .none j pos) (eC .non) := de_const pe_non fun _ => .non
def eV (i : Nat) : E1 := fun m Q => match m.e[i]? with
  | some (.d x) => Q (.d x) m
  | some (.r k) => Q (.r k) m
  | _ => False
theorem de_var (i : Nat) {x : Str} {pos : Pos} (hN : X.N[i]? = some x := by rfl) (hv : Vis X.env.scope x := by first | exact Or.inl rfl | exact Or.inr (Or.inl rfl) | exact Or.inr (Or.inr rfl)) (hd : (x == ("__debug__" : Str)) = false := by decide)
    (hcd : (x == ("__classdict__" : Str)) = false := by decide) : DE X (.Name x pos) (eV i) := ⟨fun G H σ m as Q ok q => tSem_of (pe_var hN hv hd hcd) (by
  unfold eV at q
  cases e : m.e[i]? with
  | none => rw [e] at q; exact q.elim
  | some x =>
    rw [e] at q
    have sv := ok.sv i x e
    cases x with
    | no => exact q.elim
    | d y =>
      rcases sv with z | ⟨v, h, r⟩
      · cases z
      · exact ⟨v, h, OnV.here ok r q⟩
    | r k =>
      rcases sv with z | ⟨v, h, r⟩
      · cases z
      · exact ⟨v, h, OnV.here ok r q⟩)⟩
/-- a module's constant -/
theorem de_glob {x : Str} {v : V} {u : Value} {d : D} {pos : Pos} (hg : Gl X x) (hm : X.mg x = some u) (r : RelV v u) (rp : ∀ G, Rp X.K G v d) (hd : (x == ("__debug__" : Str)) = false := by decide) : DE X (.Name x pos) (eC d) :=
  de_const (pe_glob hg hm r hd) rp
theorem de_bltn {x : Str} {v : V} {u : Value} {pos : Pos} (hg : Gl X x) (hm : X.mg x = none) (hv : bootBuiltins x = some u) (r : RelV v u) (hn : x ≠ "__name__" := by decide) (hd : (x == ("__debug__" : Str)) = false := by decide) : DE X (.Name x pos) (eC (.v v)) :=
  de_const (pe_bltn hg hm hv r hn hd) fun _ => .v v
/-! ### rows of expressions, displays -/
def aNil : A1 := fun m Q => Q [] m
def aCons (ta : E1) (tr : A1) : A1 := fun m Q => ta m fun x m1 => tr m1 fun xs m2 => Q (x :: xs) m2
theorem OnA.from {K : PySem.W.Frag} {σ : L2.St} {G H G1 H1 : Hp} {m m1 : Ms} {as as1 : List Addr} {Q : List Sv → Ms → Prop} {v : List V} {H' : Hp} (s : Step G H m.s as G1 H1 m1.s as1) (h : OnA K σ G1 H1 m1 as1 Q v H') : OnA K σ G H m as Q v H' := by
  obtain ⟨G', m', as', x, st, ok, r, q⟩ := h
  exact ⟨G', m', as', x, s.trans st, ok, r, q⟩
theorem da_nil : DA X [] aNil := ⟨fun G H σ m as Q ok q => aSem_of pa_nil ⟨G, m, as, [], Step.refl .., ok, .nil, q⟩⟩
theorem da_cons {e : Expr} {es : List Expr} {te : E1} {tr : A1} (ha : DE X e te) (hr : DA X es tr) (hs : starEach (e :: es) X.env = (false, eval e X.env) :: starEach es X.env := by rfl) : DA X (e :: es) (aCons te tr) :=
  ⟨fun G H σ m as Q ok q => aSem_of (pa_cons (pe_sem X e) (pa_sem X es) hs) (by
    refine tSem_mono (ha.run G H σ m as _ ok q) fun v H1 ⟨G1, m1, as1, x, st1, ok1, r1, q1⟩ => ?_
    refine aSem_mono (hr.run G1 H1 σ m1 as1 _ ok1 q1) fun vs H2 ⟨G2, m2, as2, xs, st2, ok2, r2, q2⟩ => ?_
    exact ⟨G2, m2, as2, x :: xs, st1.trans st2, ok2, .cons (r1.mono st2.g st2.pre) r2, q2⟩)⟩
/-- a new tuple: it stands still if all in it does -/
inductive mkT (xs : List Sv) (m : Ms) (Q : SK) : Prop
  | yes {ds : List D} : allD xs = some ds → Q (.d (.tup ds)) m → mkT xs m Q
  | els : Q (.r m.s.length) (m.push (.tp xs)) → mkT xs m Q
def mkL (xs : List Sv) (m : Ms) (Q : SK) : Prop := Q (.r m.s.length) (m.push (.ls xs))
section
variable {K : PySem.W.Frag} {σ : L2.St} {G H : Hp} {m : Ms} {as : List Addr} {Q : SK} {p : Addr} {vs : List V} {xs : List Sv}
theorem snoc_get (as : List Addr) (p : Addr) {n : Nat} (h : as.length = n) : (as ++ [p])[n]? = some p := by
  subst h
  rw [List.getElem?_append_right (Nat.le_refl _), Nat.sub_self]
  rfl
theorem mkL_ok (ok : Ok K G H σ m as) (r : SvA K G as vs xs) (hp : H p = none) (q : mkL xs m Q) : OnV K σ G H m as Q (.ref p) (upd H p (.lst vs)) := by
  obtain ⟨ok', st⟩ := ok.alloc (c := .ls xs) hp (.ls upd_same (r.mono (Same.refl G) (pre_snoc as p)))
  exact ⟨_, _, _, _, st, ok', .r (snoc_get as p ok.len), q⟩
theorem mkT_ok (ok : Ok K G H σ m as) (r : SvA K G as vs xs) (hp : H p = none) (q : mkT xs m Q) : OnV K σ G H m as Q (.ref p) (upd H p (.tup vs)) := by
  cases q with
  | els q =>
    obtain ⟨ok', st⟩ := ok.alloc (c := .tp xs) hp (.tp upd_same (r.mono (Same.refl G) (pre_snoc as p)))
    exact ⟨_, _, _, _, st, ok', .r (snoc_get as p ok.len), q⟩
  | @yes ds e q =>
    obtain ⟨ok', st⟩ := ok.grow (o := .tup vs) hp
    exact ⟨_, _, _, _, st, ok', .d (.tup (SqT.of upd_same) ((allD_ok e r).mono (same_new (g_none ok hp)))), q⟩
theorem sva_len (r : SvA K G as vs xs) : vs.length = xs.length := Paired.length r
end
def eTup (t : A1) : E1 := fun m Q => t m fun xs m1 => xs.length ≤ sizeLine ∧ mkT xs m1 Q
def eLst (t : A1) : E1 := fun m Q => t m fun xs m1 => xs.length ≤ sizeLine ∧ mkL xs m1 Q
theorem de_tup {es : List Expr} {t : A1} {k} (h : DA X es t) : DE X (.Tuple es k pos) (eTup t) :=
  ⟨fun G H σ m as Q ok q => tSem_of (pe_tup (pa_sem X es)) (by
    refine aSem_mono (h.run G H σ m as _ ok q) fun vs H1 ⟨G1, m1, as1, xs, st1, ok1, r1, z, q1⟩ => ⟨by rw [sva_len r1]; exact z, fun p hp => ?_⟩
    exact OnV.from st1 (mkT_ok ok1 r1 hp q1))⟩
theorem de_lst {es : List Expr} {t : A1} (h : DA X es t) : DE X (.List es pos) (eLst t) :=
  ⟨fun G H σ m as Q ok q => tSem_of (pe_lst (pa_sem X es)) (by
    refine aSem_mono (h.run G H σ m as _ ok q) fun vs H1 ⟨G1, m1, as1, xs, st1, ok1, r1, z, q1⟩ => ⟨by rw [sva_len r1]; exact z, fun p hp => ?_⟩
    exact OnV.from st1 (mkL_ok ok1 r1 hp q1))⟩
/-! ### calls of built-ins -/
theorem de_callB {x : Str} {id : String} {e : Expr} {es : List Expr} {p : Pos} {t : A1} {o : OC} (hc : CallD X (.builtin id) o) (hg : Gl X x) (hm : X.mg x = none) (hv : bootBuiltins x = some (.builtin id)) (ha : DA X (e :: es) t) (hn : x ≠ "__name__" := by decide) (hdb : (x == ("__debug__" : Str)) = false := by decide)
    (he : starEach (e :: es) X.env = (false, eval e X.env) :: starEach es X.env := by rfl) (hpl : (backTo pos (starEach es X.env)).any (·.1) = false := by rfl) : DE X (.Call (.Name x p) (e :: es) [] pos) (eA o t) :=
  ⟨fun G H σ m as Q ok q => tSem_of (pe_callB (call_sem X _) hg hm hv (pa_sem X (e :: es)) hn hdb he hpl) (by
    refine aSem_mono (ha.run G H σ m as _ ok q) fun vs H1 ⟨G1, m1, as1, xs, st1, ok1, r1, q1⟩ => ?_
    exact cSem_mono (fun _ _ h => OnV.from st1 h) (hc.run G1 H1 σ m1 as1 vs xs Q ok1 r1 q1))⟩
theorem de_callTy {x : Str} {T : String} {e : Expr} {es : List Expr} {p : Pos} {t : A1} {o : OC} (hc : CallD X (.type T) o) (hg : Gl X x) (hm : X.mg x = none) (hv : bootBuiltins x = some (.type T)) (ha : DA X (e :: es) t) (hn : x ≠ "__name__" := by decide) (hdb : (x == ("__debug__" : Str)) = false := by decide)
    (he : starEach (e :: es) X.env = (false, eval e X.env) :: starEach es X.env := by rfl) (hpl : (backTo pos (starEach es X.env)).any (·.1) = false := by rfl) : DE X (.Call (.Name x p) (e :: es) [] pos) (eA o t) :=
  ⟨fun G H σ m as Q ok q => tSem_of (pe_callTy (call_sem X _) hg hm hv (pa_sem X (e :: es)) hn hdb he hpl) (by
    refine aSem_mono (ha.run G H σ m as _ ok q) fun vs H1 ⟨G1, m1, as1, xs, st1, ok1, r1, q1⟩ => ?_
    exact cSem_mono (fun _ _ h => OnV.from st1 h) (hc.run G1 H1 σ m1 as1 vs xs Q ok1 r1 q1))⟩
end
end Sy
set_option Elab.async false
namespace Sy
open PySem PySem.Spec PyProof.Rows L2
section
variable {X : Cx} {K : PySem.W.Frag} {σ : L2.St} {G H : Hp} {m : Ms} {as : List Addr} {v : V} {x : Sv}
theorem sv_int {i : Int} (r : SvR K G as v (.d (.int i))) : v = .int i := rp_int (svd r)
theorem sv_str {i : Str} (r : SvR K G as v (.d (.str i))) : v = .str i := rp_str (svd r)
theorem sv_bl {i : Bool} (r : SvR K G as v (.d (.bl i))) : v = .bl i := rp_bl (svd r)
theorem OnV.d {Q : SK} {d : D} (o : Ok K G H σ m as) (r : Rp K G v d) (q : Q (.d d) m) : OnV K σ G H m as Q v H := OnV.here o (.d r) q
/-! ### whole numbers -/
end
def Sv.int? : Sv → Option Int
  | .d (.int i) => some i
  | _ => none
def Sv.str? : Sv → Option Str
  | .d (.str i) => some i
  | _ => none
def Sv.bl? : Sv → Option Bool
  | .d (.bl i) => some i
  | _ => none
def Sv.tup? : Sv → Option (List D)
  | .d (.tup i) => some i
  | _ => none
theorem Sv.int_eq {x : Sv} {i : Int} (h : x.int? = some i) : x = .d (.int i) := by
  cases x with
  | no => cases h
  | r k => cases h
  | d y => cases y <;> first | (cases h; done) | (cases h; rfl)
theorem Sv.str_eq {x : Sv} {i : Str} (h : x.str? = some i) : x = .d (.str i) := by
  cases x with
  | no => cases h
  | r k => cases h
  | d y => cases y <;> first | (cases h; done) | (cases h; rfl)
theorem Sv.bl_eq {x : Sv} {i : Bool} (h : x.bl? = some i) : x = .d (.bl i) := by
  cases x with
  | no => cases h
  | r k => cases h
  | d y => cases y <;> first | (cases h; done) | (cases h; rfl)
theorem Sv.tup_eq {x : Sv} {i : List D} (h : x.tup? = some i) : x = .d (.tup i) := by
  cases x with
  | no => cases h
  | r k => cases h
  | d y => cases y <;> first | (cases h; done) | (cases h; rfl)
/-- one there -/
inductive one? {α : Type} (a : Option α) (f : α → Prop) : Prop
  | yes {x : α} : a = some x → f x → one? a f
theorem one_cases {α : Type} {a : Option α} {f : α → Prop} (h : one? a f) : ∃ x, a = some x ∧ f x := by
  cases h with
  | yes e h => exact ⟨_, e, h⟩
/-- both there -/
inductive both {α β : Type} (a : Option α) (b : Option β) (f : α → β → Prop) (g : Prop) : Prop
  | yes {x : α} {y : β} : a = some x → b = some y → f x y → both a b f g
  | els : g → both a b f g
theorem both_cases {α β : Type} {a : Option α} {b : Option β} {f : α → β → Prop} {g : Prop} (h : both a b f g) : (∃ x y, a = some x ∧ b = some y ∧ f x y) ∨ g := by
  cases h with
  | yes e1 e2 h => exact .inl ⟨_, _, e1, e2, h⟩
  | els h => exact .inr h
section
variable {X : Cx} {K : PySem.W.Frag} {σ : L2.St} {G H : Hp} {m : Ms} {as : List Addr} {v : V} {x : Sv}
def oInt (C : Int → Int → Prop) (g : Int → Int → D) : O2 := fun x y m Q => both x.int? y.int? (fun i j => C i j ∧ Q (.d (g i j)) m) False
theorem opd_int {f : Value → Value → Sem Value} {C : Int → Int → Prop} {g : Int → Int → V} {g' : Int → Int → D} (h : OpR X f (rI C g)) (hg : ∀ i j G, Rp X.K G (g i j) (g' i j)) : OpD X f (oInt C g') :=
  ⟨fun G H σ m as v u x y Q ok r1 r2 q => by
    have qq := both_cases q
    clear q
    rcases qq with ⟨i, j, e1, e2, q⟩ | q
    · cases Sv.int_eq e1
      cases Sv.int_eq e2
      cases sv_int r1
      cases sv_int r2
      exact rSem_of h ⟨i, j, rfl, rfl, q.1, OnV.d ok (hg i j G) q.2⟩
    · exact q.elim⟩
theorem opd_int0 {f : Value → Value → Sem Value} {g : Int → Int → V} {g' : Int → Int → D} (h : OpR X f (rI0 g)) (hg : ∀ i j G, Rp X.K G (g i j) (g' i j)) : OpD X f (oInt (fun _ _ => True) g') :=
  ⟨fun G H σ m as v u x y Q ok r1 r2 q => by
    have qq := both_cases q
    clear q
    rcases qq with ⟨i, j, e1, e2, q⟩ | q
    · cases Sv.int_eq e1
      cases Sv.int_eq e2
      cases sv_int r1
      cases sv_int r2
      exact rSem_of h ⟨i, j, rfl, rfl, OnV.d ok (hg i j G) q.2⟩
    · exact q.elim⟩
theorem od_sub : OpD X (binaryOp .Sub) (oInt (fun _ _ => True) fun i j => .int (i - j)) := opd_int0 op_sub fun _ _ _ => .int _
theorem od_mod : OpD X (binaryOp .Mod) (oInt (fun _ j => 0 < j) fun i j => .int (i % j)) := opd_int op_mod fun _ _ _ => .int _
theorem od_fdiv : OpD X (binaryOp .FloorDiv) (oInt CDivW fun i j => .int (i / j)) := opd_int op_fdivW fun _ _ _ => .int _
theorem od_pow : OpD X (binaryOp .Pow) (oInt CPow fun i j => .int (i ^ j.toNat)) := opd_int op_pow fun _ _ _ => .int _
theorem od_lt : OpD X (compareOp .Lt) (oInt (fun _ _ => True) fun i j => .bl (decide (i < j))) := opd_int0 op_lt fun _ _ _ => .bl _
theorem od_le : OpD X (compareOp .LtE) (oInt (fun _ _ => True) fun i j => .bl (decide (i ≤ j))) := opd_int0 op_le fun _ _ _ => .bl _
theorem od_gt : OpD X (compareOp .Gt) (oInt (fun _ _ => True) fun i j => .bl (decide (j < i))) := opd_int0 op_gt fun _ _ _ => .bl _
theorem od_ge : OpD X (compareOp .GtE) (oInt (fun _ _ => True) fun i j => .bl (decide (j ≤ i))) := opd_int0 op_ge fun _ _ _ => .bl _
/-- + -/
def oAddS (x y : Sv) (m : Ms) (Q : SK) : Prop := both (sq m.s x) (sq m.s y) (fun p q => match p.1, q.1 with
  | .l, .l => p.2.length + q.2.length ≤ sizeLine ∧ mkL (p.2 ++ q.2) m Q
  | .t, .t => p.2.length + q.2.length ≤ sizeLine ∧ (p.2 = [] → Q y m) ∧ (p.2 ≠ [] → q.2 = [] → Q x m) ∧ (p.2 ≠ [] → q.2 ≠ [] → mkT (p.2 ++ q.2) m Q)
  | _, _ => False) False
def oAdd : O2 := fun x y m Q => both x.int? y.int? (fun i j => Q (.d (.int (i + j))) m)
  (both x.str? y.str? (fun a b => a.length + b.length ≤ sizeLine ∧ Q (.d (.str (a ++ b))) m)
  (both x.tup? y.tup? (fun a b => a.length + b.length ≤ sizeLine ∧ Q (.d (.tup (a ++ b))) m) (oAddS x y m Q)))
theorem paired_app {α β : Type} {F : α → β → Prop} : ∀ {a : List α} {b : List β} {c : List α} {d : List β}, Paired F a b → Paired F c d → Paired F (a ++ c) (b ++ d)
  | _, _, _, _, .nil, h => h
  | _, _, _, _, .cons r t, h => .cons r (paired_app t h)
theorem rpAll_app : ∀ {a c : List V} {b d : List D}, RpAll K G a b → RpAll K G c d → RpAll K G (a ++ c) (b ++ d)
  | _, _, _, _, .nil, h => h
  | _, _, _, _, .cons r t, h => .cons r (rpAll_app t h)
theorem rpAll_len : ∀ {a : List V} {b : List D}, RpAll K G a b → a.length = b.length
  | _, _, .nil => rfl
  | _, _, .cons _ t => by rw [List.length_cons, List.length_cons, rpAll_len t]
theorem paired_nil {α β : Type} {F : α → β → Prop} {a : List α} {b : List β} (h : Paired F a b) : a = [] ↔ b = [] := by
  cases h with
  | nil => simp
  | cons _ _ => simp
theorem rpAll_nil {a : List V} {b : List D} (h : RpAll K G a b) : a = [] ↔ b = [] := by
  cases h with
  | nil => simp
  | cons _ _ => simp
theorem oAddS_ok {u : V} {y : Sv} {Q : SK} (ok : Ok X.K G H σ m as) (r1 : SvR X.K G as v x) (r2 : SvR X.K G as u y) (q : oAddS x y m Q) : rSem X (binaryOp .Add) v u H (OnV X.K σ G H m as Q) := by
  have qq := both_cases q
  clear q
  rcases qq with ⟨p, p2, e1, e2, q⟩ | q
  · obtain ⟨b1, xs⟩ := p
    obtain ⟨b2, ys⟩ := p2
    obtain ⟨a, vs, rfl, h1, s1⟩ := sq_ok ok r1 e1
    obtain ⟨b, us, rfl, h2, s2⟩ := sq_ok ok r2 e2
    cases b1 <;> cases b2 <;> first | exact q.elim | skip
    · refine rSem_of op_cat ⟨a, b, vs, us, rfl, rfl, h1, h2, by rw [sva_len s1, sva_len s2]; exact q.1, fun p hp => ?_⟩
      exact mkL_ok ok (paired_app s1 s2) hp q.2
    · obtain ⟨z, q1, q2, q3⟩ := q
      refine rSem_of op_catA ⟨a, b, vs, us, rfl, rfl, h1, h2, by rw [sva_len s1, sva_len s2]; exact z, fun e => ?_, fun e e' => ?_, fun e e' p hp => ?_⟩
      · exact OnV.here ok r2 (q1 ((paired_nil s1).mp e))
      · exact OnV.here ok r1 (q2 (fun z => e ((paired_nil s1).mpr z)) ((paired_nil s2).mp e'))
      · exact mkT_ok ok (paired_app s1 s2) hp (q3 (fun z => e ((paired_nil s1).mpr z)) fun z => e' ((paired_nil s2).mpr z))
  · exact q.elim
theorem od_add : OpD X (binaryOp .Add) oAdd := ⟨fun G H σ m as v u x y Q ok r1 r2 q => by
  have qq := both_cases q
  clear q
  rcases qq with ⟨i, j, e1, e2, q⟩ | q
  · cases Sv.int_eq e1
    cases Sv.int_eq e2
    cases sv_int r1
    cases sv_int r2
    exact rSem_of op_add ⟨_, _, rfl, rfl, OnV.d ok (.int _) q⟩
  · have qq := both_cases q
    clear q
    rcases qq with ⟨i, j, e1, e2, q⟩ | q
    · cases Sv.str_eq e1
      cases Sv.str_eq e2
      cases sv_str r1
      cases sv_str r2
      exact rSem_of op_add_str ⟨_, _, rfl, rfl, q.1, OnV.d ok (.str _) q.2⟩
    · have qq := both_cases q
      clear q
      rcases qq with ⟨a, b, e1, e2, q⟩ | q
      · cases Sv.tup_eq e1
        cases Sv.tup_eq e2
        obtain ⟨p1, vs, rfl, h1, s1⟩ := rp_tup (svd r1)
        obtain ⟨p2, us, rfl, h2, s2⟩ := rp_tup (svd r2)
        refine rSem_of op_catA ⟨p1, p2, vs, us, rfl, rfl, sqT_mono ok.same h1, sqT_mono ok.same h2, by rw [rpAll_len s1, rpAll_len s2]; exact q.1, fun e => ?_, fun e e' => ?_, fun e e' p hp => ?_⟩
        · have : a = [] := (rpAll_nil s1).mp e
          subst this
          exact OnV.here ok r2 q.2
        · have : b = [] := (rpAll_nil s2).mp e'
          subst this
          refine OnV.here ok r1 ?_
          have q2 := q.2
          rw [List.append_nil] at q2
          exact q2
        · obtain ⟨ok', st⟩ := ok.grow (o := .tup (vs ++ us)) hp
          exact ⟨_, _, _, _, st, ok', .d (.tup (SqT.of upd_same) ((rpAll_app s1 s2).mono (same_new (g_none ok hp)))), q.2⟩
      · exact oAddS_ok ok r1 r2 q⟩
/-- * of numbers, one of them below 2^64 -/
def oMul : O2 := oInt CMul fun i j => .int (i * j)
theorem od_mul : OpD X (binaryOp .Mult) oMul := opd_int op_mul fun _ _ _ => .int _
theorem ud_neg : UnD X (unaryOp .USub) (fun x m Q => one? x.int? fun i => Q (.d (.int (-i))) m) := ⟨fun G H σ m as v x Q ok r q => by
  have qq := one_cases q
  clear q
  obtain ⟨i, e, q⟩ := qq
  cases Sv.int_eq e
  cases sv_int r
  exact uSem_of un_neg ⟨i, rfl, OnV.d ok (.int _) q⟩⟩
end
end Sy
set_option Elab.async false
namespace Sy
open PySem PySem.Spec PyProof.Rows L2
section
variable {X : Cx} {K : PySem.W.Frag} {σ : L2.St} {G H : Hp} {m : Ms} {as : List Addr} {v : V} {x : Sv}
/-! ### == -/
mutual
def D.py : D → PyData
  | .non => .none
  | .bl b => .bool b
  | .int i => .int i
  | .str x => .str x
  | .lst xs => .list (pyAll xs)
  | .scr xs => .list (pyAll xs)
  | .tup xs => .tuple (pyAll xs)
  | .dct _ => .none
  | .ob _ _ => .none
  | .v _ => .none
def pyAll : List D → List PyData
  | [] => []
  | x :: xs => D.py x :: pyAll xs
end
mutual
def D.pl : D → Bool
  | .non => true
  | .bl _ => true
  | .int _ => true
  | .str _ => true
  | .lst xs => plAll xs
  | .scr xs => plAll xs
  | .tup xs => plAll xs
  | .dct _ => false
  | .ob _ _ => false
  | .v _ => false
def plAll : List D → Bool
  | [] => true
  | x :: xs => D.pl x && plAll xs
end
mutual
theorem Rp.dp : ∀ {v : V} {d : D}, Rp K G v d → d.pl = true → Dp K G v d.py
  | _, _, .non, _ => .non
  | _, _, .bl b, _ => .bl b
  | _, _, .int b, _ => .int b
  | _, _, .str b, _ => .str b
  | _, _, .lst h r, e => .lst (SqL.of h) (RpAll.dp r e)
  | _, _, .scr h r, e => .lst h (RpAll.dp r e)
  | _, _, .tup h r, e => .tup h (RpAll.dp r e)
  | _, _, .dct _ _, e => by cases e
  | _, _, .ob _ _, e => by cases e
  | _, _, .v _, e => by cases e
theorem RpAll.dp : ∀ {v : List V} {d : List D}, RpAll K G v d → plAll d = true → DpAll K G v (pyAll d)
  | _, _, .nil, _ => .nil
  | _, _, .cons h r, e => .cons (Rp.dp h (Bool.and_eq_true_iff.mp e).1) (RpAll.dp r (Bool.and_eq_true_iff.mp e).2)
end
def D.sc : D → Option V
  | .non => some .non
  | .bl b => some (.bl b)
  | .int i => some (.int i)
  | .str x => some (.str x)
  | _ => none
theorem D.sc_eq {d : D} {w : V} (r : Rp K G v d) (h : d.sc = some w) : v = w := by
  cases r <;> first | (cases h; rfl) | (cases h; done)
def eqGen (a b : D) (k : Bool → Prop) : Prop := a.pl = true ∧ b.pl = true ∧ SeqAt.shaped a.py = true ∧ SeqAt.shaped b.py = true ∧ k (PyData.eqv a.py b.py)
def eqOp (a b : D) (k : Bool → Prop) : Prop := both a.sc b.sc (fun v u => if scal v u = true then k (decide (v = u)) else eqGen a b k) (eqGen a b k)
theorem eqOp_ok {a b : D} {k : Bool → Prop} {u : V} (r1 : Rp K G v a) (r2 : Rp K G u b) (h : eqOp a b k) : (scal v u = true ∧ k (decide (v = u))) ∨ eqGen a b k := by
  rcases both_cases h with ⟨p, q, e1, e2, h⟩ | h
  · cases D.sc_eq r1 e1
    cases D.sc_eq r2 e2
    by_cases z : scal v u = true
    · rw [if_pos z] at h; exact .inl ⟨z, h⟩
    · rw [if_neg z] at h; exact .inr h
  · exact .inr h
def oEq : O2 := fun x y m Q => both (vd m.s x) (vd m.s y) (fun a b => eqOp a b fun c => Q (.d (.bl c)) m) False
def oNe : O2 := fun x y m Q => both (vd m.s x) (vd m.s y) (fun a b => eqOp a b fun c => Q (.d (.bl (!c))) m) False
theorem od_eq (hu : X.A.units + 64 < cLine) : OpD X (compareOp .Eq) oEq := ⟨fun G H σ m as v u x y Q ok r1 r2 q => by
  have qq := both_cases q
  clear q
  rcases qq with ⟨a, b, e1, e2, q⟩ | q
  · have p1 := vd_ok ok r1 e1
    have p2 := vd_ok ok r2 e2
    rcases eqOp_ok p1 p2 q with ⟨z, q⟩ | ⟨l1, l2, s1, s2, q⟩
    · exact rSem_of op_eq ⟨z, OnV.d ok (.bl _) q⟩
    · exact rSem_of (op_eqD hu) ⟨a.py, b.py, p1.dp l1, p2.dp l2, s1, s2, OnV.d ok (.bl _) q⟩
  · exact q.elim⟩
theorem od_ne (hu : X.A.units + 64 < cLine) : OpD X (compareOp .NotEq) oNe := ⟨fun G H σ m as v u x y Q ok r1 r2 q => by
  have qq := both_cases q
  clear q
  rcases qq with ⟨a, b, e1, e2, q⟩ | q
  · have p1 := vd_ok ok r1 e1
    have p2 := vd_ok ok r2 e2
    rcases eqOp_ok p1 p2 q with ⟨z, q⟩ | ⟨l1, l2, s1, s2, q⟩
    · exact rSem_of op_ne ⟨z, OnV.d ok (.bl _) q⟩
    · exact rSem_of (op_neD hu) ⟨a.py, b.py, p1.dp l1, p2.dp l2, s1, s2, OnV.d ok (.bl _) q⟩
  · exact q.elim⟩
end
end Sy
set_option Elab.async false
namespace Sy
open PySem PySem.Spec PyProof.Rows L2
section
variable {X : Cx} {K : PySem.W.Frag} {σ : L2.St} {G H : Hp} {m : Ms} {as : List Addr} {v : V} {x : Sv}
/-! ### is None -/
def isN : Sv → Option Bool
  | .no => none
  | .r _ => some false
  | .d .non => some true
  | .d (.v w) => some (decide (w = .non))
  | .d _ => some false
theorem isN_ok {b : Bool} (r : SvR K G as v x) (h : isN x = some b) : decide (v = .non) = b := by
  cases x with
  | no => cases h
  | r k =>
    obtain ⟨a, _, rfl⟩ := svr r
    cases h; rfl
  | d y =>
    have r := svd r
    cases r <;> first | (cases h; rfl) | (cases h; done)
def oIsN : O2 := fun x y m Q => both (isN x) (isN y) (fun a b => b = true ∧ Q (.d (.bl a)) m) False
def oNotN : O2 := fun x y m Q => both (isN x) (isN y) (fun a b => b = true ∧ Q (.d (.bl (!a))) m) False
theorem od_isN : OpD X (compareOp .Is) oIsN := ⟨fun G H σ m as v u x y Q ok r1 r2 q => by
  have qq := both_cases q
  clear q
  rcases qq with ⟨a, b, e1, e2, z, q⟩ | q
  · have h := isN_ok r2 e2
    rw [z] at h
    cases of_decide_eq_true h
    exact rSem_of op_isN ⟨rfl, by rw [isN_ok r1 e1]; exact OnV.d ok (.bl _) q⟩
  · exact q.elim⟩
theorem od_notN : OpD X (compareOp .IsNot) oNotN := ⟨fun G H σ m as v u x y Q ok r1 r2 q => by
  have qq := both_cases q
  clear q
  rcases qq with ⟨a, b, e1, e2, z, q⟩ | q
  · have h := isN_ok r2 e2
    rw [z] at h
    cases of_decide_eq_true h
    exact rSem_of op_notN ⟨rfl, by rw [isN_ok r1 e1]; exact OnV.d ok (.bl _) q⟩
  · exact q.elim⟩
/-! ### in -/
def keyD : D → Option Key
  | .int i => some (.inl i)
  | .str x => some (.inr x)
  | _ => none
theorem keyD_ok {d : D} {k : Key} (r : Rp K G v d) (h : keyD d = some k) : v = kV k := by
  cases r <;> first | (cases h; rfl) | (cases h; done)
/-- a dict as it is now -/
def dqc : Cell → Option (List (Key × Sv))
  | .di xs => some xs
  | .fz (.dct ds) => some (ds.map fun p => (p.1, .d p.2))
  | _ => none
def dq (S : List Cell) : Sv → Option (List (Key × Sv))
  | .d (.dct ds) => some (ds.map fun p => (p.1, .d p.2))
  | .r k => (S[k]?).bind dqc
  | _ => none
theorem rpK_sv : ∀ {vs : List (Key × V)} {ds : List (Key × D)}, RpK K G vs ds → SvK K G as vs (ds.map fun p => (p.1, .d p.2))
  | _, _, .nil => .nil
  | _, _, .cons h r => .cons ⟨rfl, .d h⟩ (rpK_sv r)
theorem dq_ok (ok : Ok K G H σ m as) (r : SvR K G as v x) {xs : List (Key × Sv)} (h : dq m.s x = some xs) : ∃ a vs, v = .ref a ∧ H a = some (.dK vs) ∧ SvK K G as vs xs := by
  cases x with
  | no => cases h
  | d y =>
    cases y with
    | dct ds =>
      cases h
      obtain ⟨a, vs, e, h1, h2⟩ := rp_dct (svd r)
      exact ⟨a, vs, e, ok.same _ _ h1, rpK_sv h2⟩
    | lst _ => cases h
    | scr _ => cases h
    | tup _ => cases h
    | non => cases h
    | bl _ => cases h
    | int _ => cases h
    | str _ => cases h
    | ob _ _ => cases h
    | v _ => cases h
  | r k =>
    obtain ⟨a, ha, e⟩ := svr r
    have h : (m.s[k]?).bind dqc = some xs := h
    cases hc : m.s[k]? with
    | none => rw [hc] at h; cases h
    | some c =>
      rw [hc] at h
      have h : dqc c = some xs := h
      have q := ok.ce k c a hc ha
      cases q with
      | gone => cases h
      | @fz y q =>
        cases y with
        | dct ds =>
          cases h
          obtain ⟨b, vs, e1, h1, h2⟩ := rp_dct q
          cases e1
          exact ⟨_, vs, e, ok.same _ _ h1, rpK_sv h2⟩
        | lst _ => cases h
        | scr _ => cases h
        | tup _ => cases h
        | non => cases h
        | bl _ => cases h
        | int _ => cases h
        | str _ => cases h
        | ob _ _ => cases h
        | v _ => cases h
      | ls _ _ => cases h
      | tp _ _ => cases h
      | @di vs xs q t => cases h; exact ⟨a, vs, e, q, t⟩
      | ob _ _ => cases h
      | dl _ _ _ _ _ => cases h
      | hid _ _ => cases h
def getK {α : Type} : List (Key × α) → Key → Option α
  | [], _ => none
  | (k, x) :: r, j => if k = j then some x else getK r j
theorem getK_ok : ∀ {vs : List (Key × V)} {xs : List (Key × Sv)}, SvK K G as vs xs → ∀ k : Key, (getK xs k = none → valV vs k = none) ∧ (∀ x, getK xs k = some x → ∃ v, valV vs k = some v ∧ SvR K G as v x)
  | _, _, .nil, k => ⟨fun _ => rfl, fun _ h => nomatch h⟩
  | (k1, v1) :: vs, (k2, x2) :: xs, .cons h r, k => by
    obtain ⟨e, h⟩ := h
    cases (show k1 = k2 from e)
    have ih := getK_ok r k
    by_cases q : k1 = k
    · subst q
      refine ⟨fun z => ?_, fun x z => ?_⟩
      · unfold getK at z; rw [if_pos rfl] at z; cases z
      · unfold getK at z; rw [if_pos rfl] at z; cases z
        exact ⟨v1, valV_pos rfl, h⟩
    · refine ⟨fun z => ?_, fun x z => ?_⟩
      · unfold getK at z; rw [if_neg q] at z
        rw [valV_neg q]; exact ih.1 z
      · unfold getK at z; rw [if_neg q] at z
        rw [valV_neg q]; exact ih.2 x z
def flatD : D → Bool
  | .non => true
  | .bl _ => true
  | .int _ => true
  | .str _ => true
  | _ => false
theorem flatD_ok {d : D} (r : Rp K G v d) (h : flatD d = true) : flatV v = true := by
  cases r <;> first | rfl | (cases h; done)
theorem flat_sc {d : D} (r : Rp K G v d) (h : flatD d = true) : d.sc = some v := by
  cases r <;> first | rfl | (cases h; done)
/-- y == x of scalars, as `in` asks it -/
def eqf (a b : D) : Bool := match a.sc, b.sc with
  | some v, some u => eqV v u
  | _, _ => false
def inD (x : D) (ys : List D) : Bool := ys.any fun y => eqf y x
theorem inD_ok {d : D} (r : Rp K G v d) (h : flatD d = true) : ∀ {vs : List V} {ds : List D}, RpAll K G vs ds → ds.all flatD = true → vs.all flatV = true ∧ inV v vs = inD d ds
  | _, _, .nil, _ => ⟨rfl, rfl⟩
  | _, _, .cons h1 r1, e => by
    rw [List.all_cons, Bool.and_eq_true_iff] at e
    obtain ⟨i1, i2⟩ := inD_ok r h r1 e.2
    refine ⟨by rw [List.all_cons, flatD_ok h1 e.1, i1]; rfl, ?_⟩
    unfold inV inD at i2 ⊢
    rw [List.any_cons, List.any_cons, i2]
    unfold eqf
    rw [flat_sc h1 e.1, flat_sc r h]
/-- the answer of x in y; not in -/
def inA (neg : Bool) (b : Bool) (m : Ms) (Q : SK) : Prop := Q (.d (.bl (if neg then !b else b))) m
def oInS (neg : Bool) : O2 := fun x y m Q => both (vd m.s x) ((sq m.s y).bind fun p => allD p.2) (fun d ds => flatD d = true ∧ ds.all flatD = true ∧ inA neg (inD d ds) m Q) False
def oInK (neg : Bool) : O2 := fun x y m Q => both ((vd m.s x).bind keyD) (dq m.s y) (fun k xs => inA neg (getK xs k).isSome m Q) (oInS neg x y m Q)
def oIn (neg : Bool) : O2 := fun x y m Q => both x.str? y.str? (fun a b => inA neg (!(Builtin.Str.occurrences b a 0 b.length 1).isEmpty) m Q) (oInK neg x y m Q)
theorem DGet.rd {a : Addr} {kvs : List (Key × V)} {k : Key} (e : H a = some (.dK kvs)) : DGet H a (kV k) (valV kvs k) := DGet.k e
theorem svk_isSome {vs : List (Key × V)} {xs : List (Key × Sv)} (h : SvK K G as vs xs) (k : Key) : (valV vs k).isSome = (getK xs k).isSome := by
  obtain ⟨h1, h2⟩ := getK_ok h k
  cases e : getK xs k with
  | none => rw [h1 e]; rfl
  | some x =>
    obtain ⟨v, e2, _⟩ := h2 x e
    rw [e2]; rfl
theorem op_inD (hu : X.A.units + 1 < cLine) : OpR X (compareOp .In) (fun y x H Q => ∃ a o, x = .ref a ∧ DGet H a y o ∧ Q (.bl o.isSome) H) := fun pins s σ H y x u v Q I ry rx h => by
  obtain ⟨a, o, rfl, g, q⟩ := h
  cases rx
  exact d_in hu I g ry fun s3 I3 => ⟨.bl o.isSome, H, I3, rfl, q⟩
theorem op_notInD (hu : X.A.units + 1 < cLine) : OpR X (compareOp .NotIn) (fun y x H Q => ∃ a o, x = .ref a ∧ DGet H a y o ∧ Q (.bl (!o.isSome)) H) := fun pins s σ H y x u v Q I ry rx h => by
  obtain ⟨a, o, rfl, g, q⟩ := h
  cases rx
  exact d_notIn hu I g ry fun s3 I3 => ⟨.bl (!o.isSome), H, I3, rfl, q⟩
theorem sqB_any {b : Sk} {a : Addr} {vs : List V} (h : SqB K H b a vs) : SqL K H a vs ∨ SqT K H a vs := by
  cases b with
  | l => exact .inl (SqL.of h)
  | t => exact .inr h
  | s => exact .inl h
theorem od_in (hu : X.A.units + 1 < cLine) : OpD X (compareOp .In) (oIn false) := ⟨fun G H σ m as v u x y Q ok r1 r2 q => by
  have qq := both_cases q
  clear q
  rcases qq with ⟨a, b, e1, e2, q⟩ | q
  · cases Sv.str_eq e1
    cases Sv.str_eq e2
    cases sv_str r1
    cases sv_str r2
    exact rSem_of op_in_str ⟨_, _, rfl, rfl, OnV.d ok (.bl _) q⟩
  have qq := both_cases q
  clear q
  rcases qq with ⟨k, xs, e1, e2, q⟩ | q
  · obtain ⟨d, e0, e1⟩ := Option.bind_eq_some_iff.mp e1
    have p1 := keyD_ok (vd_ok ok r1 e0) e1
    obtain ⟨a, vs, rfl, h1, s1⟩ := dq_ok ok r2 e2
    rw [p1]
    exact rSem_of (op_inD hu) ⟨a, _, rfl, DGet.k h1, by rw [svk_isSome s1]; exact OnV.d ok (.bl _) q⟩
  have qq := both_cases q
  clear q
  rcases qq with ⟨d, ds, e1, e2, f1, f2, q⟩ | q
  · obtain ⟨⟨b, ys⟩, e0, e2⟩ := Option.bind_eq_some_iff.mp e2
    obtain ⟨a, vs, rfl, h1, s1⟩ := sq_ok ok r2 e0
    have p1 := vd_ok ok r1 e1
    have p2 := (allD_ok e2 s1).mono ok.same
    obtain ⟨g1, g2⟩ := inD_ok p1 f1 p2 f2
    exact rSem_of op_in_seq ⟨a, vs, rfl, sqB_any h1, flatD_ok p1 f1, g1, by rw [g2]; exact OnV.d ok (.bl _) q⟩
  · exact q.elim⟩
theorem od_notIn (hu : X.A.units + 1 < cLine) : OpD X (compareOp .NotIn) (oIn true) := ⟨fun G H σ m as v u x y Q ok r1 r2 q => by
  have qq := both_cases q
  clear q
  rcases qq with ⟨a, b, e1, e2, q⟩ | q
  · cases Sv.str_eq e1
    cases Sv.str_eq e2
    cases sv_str r1
    cases sv_str r2
    exact rSem_of op_notIn_str ⟨_, _, rfl, rfl, OnV.d ok (.bl _) q⟩
  have qq := both_cases q
  clear q
  rcases qq with ⟨k, xs, e1, e2, q⟩ | q
  · obtain ⟨d, e0, e1⟩ := Option.bind_eq_some_iff.mp e1
    have p1 := keyD_ok (vd_ok ok r1 e0) e1
    obtain ⟨a, vs, rfl, h1, s1⟩ := dq_ok ok r2 e2
    rw [p1]
    exact rSem_of (op_notInD hu) ⟨a, _, rfl, DGet.k h1, by rw [svk_isSome s1]; exact OnV.d ok (.bl _) q⟩
  have qq := both_cases q
  clear q
  rcases qq with ⟨d, ds, e1, e2, f1, f2, q⟩ | q
  · obtain ⟨⟨b, ys⟩, e0, e2⟩ := Option.bind_eq_some_iff.mp e2
    obtain ⟨a, vs, rfl, h1, s1⟩ := sq_ok ok r2 e0
    have p1 := vd_ok ok r1 e1
    have p2 := (allD_ok e2 s1).mono ok.same
    obtain ⟨g1, g2⟩ := inD_ok p1 f1 p2 f2
    exact rSem_of op_notIn_seq ⟨a, vs, rfl, sqB_any h1, flatD_ok p1 f1, g1, by rw [g2]; exact OnV.d ok (.bl _) q⟩
  · exact q.elim⟩
end
end Sy
set_option Elab.async false
namespace Sy
open PySem PySem.Spec PyProof.Rows L2
/-! ### subscripts -/
def iSem (X : Cx) : R2 := fun x y H Q => ∀ (value slice : Expr) (pins : List (Addr × Obj)) (s : Shared) (σ : L2.St) (v u : Value), Inv X pins σ H s → RelV x v → RelV y u →
    subscripted slice false v u = operate [v, u] (getItem v u) → wpAny (model X.prog X.w) X.A (subscriptTail value slice v u) (EP X pins σ Q) X.xe s
theorem ix_sem (X : Cx) : IxR X (iSem X) := fun value slice pins s σ _ _ _ v u _ I rx ry h hs => h value slice pins s σ v u I rx ry hs
theorem iSem_of {X : Cx} {r : R2} (h : IxR X r) {x y : V} {H : Hp} {Q : VK} (q : r x y H Q) : iSem X x y H Q := fun value slice pins s σ v u I rx ry hs => h value slice pins s σ H x y v u Q I rx ry q hs
theorem iSem_mono {X : Cx} {v u : V} {H : Hp} {Q Q' : VK} (k : ∀ v H, Q v H → Q' v H) (h : iSem X v u H Q) : iSem X v u H Q' := fun e1 e2 pins s σ a b I ra rb hs =>
  thn (h e1 e2 pins s σ a b I ra rb hs) fun _ _ ⟨v, H', I', r, q⟩ => ⟨v, H', I', r, k v H' q⟩
/-- an item of a dict -/
theorem ix_dict {X : Cx} (hu : X.A.units + 1 < cLine) : IxR X (fun x y H Q => ∃ a v, x = .ref a ∧ DGet H a y (some v) ∧ Q v H) := by
  intro value slice pins s σ H x y v u Q I rx ry h hs
  obtain ⟨a, w, rfl, g, q⟩ := h
  cases rx
  exact tail_any (dict_typeIs I g) PySem.F.slot_dict_getitem.lookup (d_getItem hu I g ry fun w' s3 I3 rw' => ⟨w, H, I3, rw', q⟩) hs
section
variable {X : Cx} {K : PySem.W.Frag} {σ : L2.St} {G H : Hp} {m : Ms} {as : List Addr} {v : V} {x : Sv}
/-- what is known of a value -/
def known (x : Sv) (Q : Sv → Prop) : Prop := match x with
  | .no => False
  | x => Q x
theorem known_d (d : D) (Q : Sv → Prop) : known (.d d) Q = Q (.d d) := rfl
theorem known_r (k : Nat) (Q : Sv → Prop) : known (.r k) Q = Q (.r k) := rfl
/-- what is found under a key -/
inductive Got : List (Key × Sv) → Key → (Sv → Prop) → Prop
  | here {k k' : Key} {x : Sv} {r : List (Key × Sv)} {f : Sv → Prop} : k' = k → f x → Got ((k', x) :: r) k f
  | next {k k' : Key} {x : Sv} {r : List (Key × Sv)} {f : Sv → Prop} : k' ≠ k → Got r k f → Got ((k', x) :: r) k f
  | any {k : Key} {x : Sv} {r : List (Key × Sv)} {f : Sv → Prop} : getK r k = some x → f x → Got r k f
theorem got_cases {xs : List (Key × Sv)} {k : Key} {f : Sv → Prop} (h : Got xs k f) : ∃ x, getK xs k = some x ∧ f x := by
  induction h with
  | here e h => exact ⟨_, by unfold getK; rw [if_pos e], h⟩
  | next e _ ih =>
    obtain ⟨x, e1, h⟩ := ih
    exact ⟨x, by unfold getK; rw [if_neg e]; exact e1, h⟩
  | any e h => exact ⟨_, e, h⟩
def oIxK : O2 := fun x y m Q => both (dq m.s x) ((vd m.s y).bind keyD) (fun xs k => Got xs k fun z => Q z m) False
def oIxS : O2 := fun x y m Q => both x.str? y.int? (fun a i => a.length ≤ sizeLine ∧ one? (atI a.cps.toList i) fun c => Q (.d (.str ⟨#[c]⟩)) m) (oIxK x y m Q)
def oIx : O2 := fun x y m Q => both (sq m.s x) y.int? (fun p i => one? (atI p.2 i) fun z => Q z m) (oIxS x y m Q)
theorem atI_sv {vs : List V} {xs : List Sv} (h : SvA K G as vs xs) {i : Int} {z : Sv} (e : atI xs i = some z) : ∃ v, atI vs i = some v ∧ SvR K G as v z := by
  unfold atI at e ⊢
  rw [sva_len h]
  obtain ⟨j, e1, e2⟩ := Option.bind_eq_some_iff.mp e
  rw [e1]
  have get : ∀ {vs : List V} {xs : List Sv} {j : Nat} {z : Sv}, SvA K G as vs xs → xs[j]? = some z → ∃ v, vs[j]? = some v ∧ SvR K G as v z := by
    intro vs xs j z h
    induction h generalizing j with
    | nil => intro e; cases e
    | cons q t ih =>
      cases j with
      | zero => intro e; cases e; exact ⟨_, rfl, q⟩
      | succ j => intro e; exact ih e
  exact get h e2
theorem oIx_ok {u : V} {y : Sv} {Q : SK} (hu : X.A.units + 1 < cLine) (ok : Ok X.K G H σ m as) (r1 : SvR X.K G as v x) (r2 : SvR X.K G as u y) (q0 : oIx x y m Q) : iSem X v u H (OnV X.K σ G H m as Q) := by
  have qq := both_cases q0
  clear q0
  rcases qq with ⟨⟨b, xs⟩, i, e1, e2, q1⟩ | q1
  · have eu : u = .int i := by rw [Sv.int_eq e2] at r2; exact sv_int r2
    obtain ⟨a, vs, ev, h1, s1⟩ := sq_ok ok r1 e1
    obtain ⟨z, e3, q2⟩ := one_cases q1
    obtain ⟨w, e4, r⟩ := atI_sv s1 e3
    cases b with
    | l => exact iSem_of ix_list ⟨a, vs, i, w, ev, eu, SqL.of h1, e4, OnV.here ok r q2⟩
    | s => exact iSem_of ix_list ⟨a, vs, i, w, ev, eu, h1, e4, OnV.here ok r q2⟩
    | t => exact iSem_of ix_tup ⟨a, vs, i, w, ev, eu, h1, e4, OnV.here ok r q2⟩
  have qq := both_cases q1
  clear q1
  rcases qq with ⟨a, i, e1, e2, hl, q2⟩ | q2
  · have ev : v = .str a := by rw [Sv.str_eq e1] at r1; exact sv_str r1
    have eu : u = .int i := by rw [Sv.int_eq e2] at r2; exact sv_int r2
    obtain ⟨c, e3, q3⟩ := one_cases q2
    exact iSem_of ix_str ⟨a, i, c, ev, eu, hl, e3, OnV.d ok (.str _) q3⟩
  have qq := both_cases q2
  clear q2
  rcases qq with ⟨xs, k, e1, e2, q3⟩ | q3
  · obtain ⟨d, e0, e2⟩ := Option.bind_eq_some_iff.mp e2
    have p1 := keyD_ok (vd_ok ok r2 e0) e2
    obtain ⟨a, vs, ev, h1, s1⟩ := dq_ok ok r1 e1
    obtain ⟨z, e3, q4⟩ := got_cases q3
    obtain ⟨w, e4, r⟩ := (getK_ok s1 k).2 z e3
    rw [p1]
    exact iSem_of (ix_dict hu) ⟨a, w, ev, by rw [← e4]; exact DGet.k h1, OnV.here ok r q4⟩
  · exact q3.elim
variable {a b c : Expr} {ta tb tc : E1} {pos : Pos}
theorem de_ix (hu : X.A.units + 1 < cLine) (ha : DE X a ta) (hb : DE X b tb) (hs : PlainIx b) : DE X (.Subscript a b pos) (eB oIx ta tb) :=
  ⟨fun G H σ m as Q ok q => tSem_of (pe_ix (ix_sem X) (pe_sem X a) (pe_sem X b) hs) (two ha hb ok q (fun G H m as v u x y ok r1 r2 q => oIx_ok hu ok r1 r2 q) fun _ _ _ _ _ k h => iSem_mono k h)⟩
end
/-! ### slices -/
def poSem (X : Cx) (e : Option Expr) : TO := fun σ H Q => ∀ (pins : List (Addr × Obj)) (s : Shared), Inv X pins σ H s → wpAny (model X.prog X.w) X.A (evalPart e X.env) (fun u s' => ∃ o H', Inv X pins σ H' s' ∧ IsPart u o ∧ Q o H') X.xe s
theorem po_sem (X : Cx) (e : Option Expr) : PO X e (poSem X e) := ⟨fun pins s _ _ _ I h => h pins s I⟩
theorem poSem_of {X : Cx} {e : Option Expr} {t : TO} (h : PO X e t) {σ : L2.St} {H : Hp} {Q : Option Int → Hp → Prop} (q : t σ H Q) : poSem X e σ H Q := fun pins s I => h.run pins s σ H Q I q
theorem poSem_mono {X : Cx} {e : Option Expr} {σ : L2.St} {H : Hp} {Q Q' : Option Int → Hp → Prop} (h : poSem X e σ H Q) (k : ∀ o H', Q o H' → Q' o H') : poSem X e σ H Q' := fun pins s I =>
  thn (h pins s I) fun _ _ ⟨o, H', I', r, q⟩ => ⟨o, H', I', r, k o H' q⟩
def slSem (X : Cx) : V → Option Int → Option Int → Hp → VK → Prop := fun x lo hi H Q =>
  ∀ (pins : List (Addr × Obj)) (s : Shared) (σ : L2.St) (v vl vu : Value) (sl : Addr), Inv X pins σ H s → RelV x v → s.heap.IsSliceOf sl vl vu .none → IsPart vl lo → IsPart vu hi →
    ∃ T id, typeLookup (.type T) "__getitem__" = pure (some (.builtin id)) ∧ s.TypeIs v T ∧ wpAny (model X.prog X.w) X.A (getItem v (.ref sl)) (EP X pins σ Q) X.xe s
theorem sl_sem (X : Cx) : SlR X (slSem X) := fun pins s σ _ _ v vl vu _ _ sl _ I rx h1 h2 h3 h => h pins s σ v vl vu sl I rx h1 h2 h3
theorem slSem_of {X : Cx} {r : V → Option Int → Option Int → Hp → VK → Prop} (h : SlR X r) {x : V} {lo hi : Option Int} {H : Hp} {Q : VK} (q : r x lo hi H Q) : slSem X x lo hi H Q := fun pins s σ v vl vu sl I rx h1 h2 h3 => h pins s σ H x v vl vu lo hi sl Q I rx h1 h2 h3 q
theorem slSem_mono {X : Cx} {v : V} {lo hi : Option Int} {H : Hp} {Q Q' : VK} (k : ∀ v H, Q v H → Q' v H) (h : slSem X v lo hi H Q) : slSem X v lo hi H Q' := fun pins s σ w vl vu sl I rx h1 h2 h3 => by
  obtain ⟨T, id, e1, e2, e3⟩ := h pins s σ w vl vu sl I rx h1 h2 h3
  exact ⟨T, id, e1, e2, thn e3 fun _ _ ⟨v, H', I', r, q⟩ => ⟨v, H', I', r, k v H' q⟩⟩
/-- a part of a slice -/
abbrev O1o := Ms → (Option Int → Ms → Prop) → Prop
structure DO (X : Cx) (e : Option Expr) (t : O1o) : Prop where
  run : ∀ (G H : Hp) (σ : L2.St) (m : Ms) (as : List Addr) (Q : Option Int → Ms → Prop), Ok X.K G H σ m as → t m Q → poSem X e σ H (fun o => On X.K σ G H m as (Q o))
section
variable {X : Cx} {K : PySem.W.Frag} {σ : L2.St} {G H : Hp} {m : Ms} {as : List Addr} {v : V} {x : Sv} {a b c : Expr} {ta tb tc : E1} {pos : Pos}
def oNone : O1o := fun m Q => Q none m
def oSome (t : E1) : O1o := fun m Q => t m fun x m1 => one? x.int? fun i => Q (some i) m1
theorem do_none : DO X none oNone := ⟨fun G H σ m as Q ok q => poSem_of po_none (On.here ok q)⟩
theorem do_some (h : DE X a ta) : DO X (some a) (oSome ta) := ⟨fun G H σ m as Q ok q => poSem_of (po_some (pe_sem X a)) (by
  refine tSem_mono (h.run G H σ m as _ ok q) fun v H1 ⟨G1, m1, as1, x, st1, ok1, r1, q1⟩ => ?_
  obtain ⟨i, e, q⟩ := one_cases q1
  rw [Sv.int_eq e] at r1
  exact ⟨i, sv_int r1, G1, m1, as1, st1, ok1, q⟩)⟩
/-- xs[lo:hi] of anything -/
def cutL {α : Type} (xs : List α) (lo hi : Option Int) : List α := (xs.drop (HT.sIx xs.length 0 lo)).take (HT.sIx xs.length xs.length hi - HT.sIx xs.length 0 lo)
theorem paired_take {α β : Type} {F : α → β → Prop} : ∀ {a : List α} {b : List β} (n : Nat), Paired F a b → Paired F (a.take n) (b.take n)
  | _, _, 0, _ => by simp; exact .nil
  | _, _, n + 1, .nil => .nil
  | _, _, n + 1, .cons r t => .cons r (paired_take n t)
theorem paired_drop {α β : Type} {F : α → β → Prop} : ∀ {a : List α} {b : List β} (n : Nat), Paired F a b → Paired F (a.drop n) (b.drop n)
  | _, _, 0, h => h
  | _, _, n + 1, .nil => .nil
  | _, _, n + 1, .cons r t => paired_drop n t
theorem paired_cut {α β : Type} {F : α → β → Prop} {a : List α} {b : List β} (lo hi : Option Int) (h : Paired F a b) : Paired F (cutL a lo hi) (cutL b lo hi) := by
  unfold cutL
  rw [Paired.length h]
  exact paired_take _ (paired_drop _ h)
theorem rpAll_take : ∀ {a : List V} {b : List D} (n : Nat), RpAll K G a b → RpAll K G (a.take n) (b.take n)
  | _, _, 0, _ => by simp; exact .nil
  | _, _, n + 1, .nil => .nil
  | _, _, n + 1, .cons r t => .cons r (rpAll_take n t)
theorem rpAll_drop : ∀ {a : List V} {b : List D} (n : Nat), RpAll K G a b → RpAll K G (a.drop n) (b.drop n)
  | _, _, 0, h => h
  | _, _, n + 1, .nil => .nil
  | _, _, n + 1, .cons r t => rpAll_drop n t
theorem rpAll_cut {a : List V} {b : List D} (lo hi : Option Int) (h : RpAll K G a b) : RpAll K G (cutL a lo hi) (cutL b lo hi) := by
  unfold cutL
  rw [rpAll_len h]
  exact rpAll_take _ (rpAll_drop _ h)
theorem cutL_whole {α : Type} {a : List α} {lo hi : Option Int} (h : HT.sIx a.length 0 lo = 0 ∧ HT.sIx a.length a.length hi = a.length) : cutL a lo hi = a := by
  unfold cutL
  rw [h.1, h.2]
  simp
def oSlS (x : Sv) (lo hi : Option Int) (m : Ms) (Q : SK) : Prop := one? x.str? fun a => a.length ≤ sizeLine ∧ Q (.d (.str (cutS a lo hi))) m
def oSlL (x : Sv) (lo hi : Option Int) (m : Ms) (Q : SK) : Prop := match sq m.s x with
  | some (.l, xs) => mkL (cutL xs lo hi) m Q
  | some (.s, xs) => mkL (cutL xs lo hi) m Q
  | _ => oSlS x lo hi m Q
/-- x[lo:hi]: a tuple that stands still, a list, a text -/
def oSl (x : Sv) (lo hi : Option Int) (m : Ms) (Q : SK) : Prop := match x.tup? with
  | some xs => Q (.d (.tup (cutL xs lo hi))) m
  | none => oSlL x lo hi m Q
theorem oSl_ok {lo hi : Option Int} {Q : SK} (ok : Ok X.K G H σ m as) (r1 : SvR X.K G as v x) (q0 : oSl x lo hi m Q) : slSem X v lo hi H (OnV X.K σ G H m as Q) := by
  unfold oSl at q0
  cases e1 : x.tup? with
  | some xs =>
    rw [e1] at q0
    have q0 : Q (Sv.d (D.tup (cutL xs lo hi))) m := q0
    rw [Sv.tup_eq e1] at r1
    obtain ⟨a, vs, ev, h1, h2⟩ := rp_tup (svd r1)
    refine slSem_of sl_tupA ⟨a, vs, ev, sqT_mono ok.same h1, fun hw => ?_, fun hw p hp => ?_⟩
    · rw [rpAll_len h2] at hw
      rw [cutL_whole hw] at q0
      rw [← ev]
      exact OnV.here ok r1 q0
    · obtain ⟨ok', st⟩ := ok.grow (o := .tup (cutV vs lo hi)) hp
      exact ⟨_, _, _, _, st, ok', .d (.tup (SqT.of upd_same) ((rpAll_cut lo hi h2).mono (same_new (g_none ok hp)))), q0⟩
  | none =>
    rw [e1] at q0
    have q1 : oSlL x lo hi m Q := q0
    unfold oSlL at q1
    have strc : oSlS x lo hi m Q → slSem X v lo hi H (OnV X.K σ G H m as Q) := fun q2 => by
      obtain ⟨a, e, hl, q3⟩ := one_cases q2
      rw [Sv.str_eq e] at r1
      exact slSem_of sl_str ⟨a, sv_str r1, hl, OnV.d ok (.str _) q3⟩
    cases e2 : sq m.s x with
    | none => rw [e2] at q1; exact strc q1
    | some p =>
      obtain ⟨b, xs⟩ := p
      obtain ⟨a, vs, ev, h1, h2⟩ := sq_ok ok r1 e2
      rw [e2] at q1
      cases b with
      | l => exact slSem_of sl_list ⟨a, vs, ev, SqL.of h1, fun p hp => mkL_ok ok (paired_cut lo hi h2) hp q1⟩
      | s => exact slSem_of sl_list ⟨a, vs, ev, h1, fun p hp => mkL_ok ok (paired_cut lo hi h2) hp q1⟩
      | t => exact strc q1
def eSl (ta : E1) (tl th : O1o) : E1 := fun m Q => ta m fun x m1 => tl m1 fun lo m2 => th m2 fun hi m3 => oSl x lo hi m3 Q
theorem de_slice {lo hi : Option Expr} {tl th : O1o} {p2 : Pos} (ha : DE X a ta) (hl : DO X lo tl) (hh : DO X hi th) : DE X (.Subscript a (.Slice lo hi none p2) pos) (eSl ta tl th) :=
  ⟨fun G H σ m as Q ok q => tSem_of (pe_slice (sl_sem X) (pe_sem X a) (po_sem X lo) (po_sem X hi)) (by
    refine tSem_mono (ha.run G H σ m as _ ok q) fun v H1 ⟨G1, m1, as1, x, st1, ok1, r1, q1⟩ => ?_
    refine poSem_mono (hl.run G1 H1 σ m1 as1 _ ok1 q1) fun l H2 ⟨G2, m2, as2, st2, ok2, q2⟩ => ?_
    refine poSem_mono (hh.run G2 H2 σ m2 as2 _ ok2 q2) fun h H3 ⟨G3, m3, as3, st3, ok3, q3⟩ => ?_
    have st := (st1.trans st2).trans st3
    exact slSem_mono (fun _ _ h => OnV.from st h) (oSl_ok ok3 ((r1.mono st2.g st2.pre).mono st3.g st3.pre) q3))⟩
/-! ### built-ins -/
def oLen : OC := fun xs m Q => match xs with
  | [x] => match x.str? with
    | some a => a.length ≤ sizeLine ∧ Q (.d (.int a.length)) m
    | none => match dq m.s x with
      | some kvs => Q (.d (.int kvs.length)) m
      | none => one? (sq m.s x) fun p => Q (.d (.int p.2.length)) m
  | _ => False
theorem sva1 {vs : List V} (h : SvA K G as vs [x]) : ∃ v, vs = [v] ∧ SvR K G as v x := by
  cases h with
  | cons a t => cases t; exact ⟨_, rfl, a⟩
theorem sva2 {vs : List V} {y : Sv} (h : SvA K G as vs [x, y]) : ∃ v u, vs = [v, u] ∧ SvR K G as v x ∧ SvR K G as u y := by
  cases h with
  | cons a t =>
    cases t with
    | cons b t => cases t; exact ⟨_, _, rfl, a, b⟩
theorem cd_len : CallD X (.builtin "len") oLen := ⟨fun G H σ m as vs xs Q ok r q0 => by
  unfold oLen at q0
  match xs, r, q0 with
  | [x], r, q0 =>
    obtain ⟨v, rfl, r1⟩ := sva1 r
    cases e1 : x.str? with
    | some a =>
      simp only [e1] at q0
      rw [Sv.str_eq e1] at r1
      exact cSem_of call_len_str ⟨a, by rw [sv_str r1], q0.1, OnV.d ok (.int _) q0.2⟩
    | none =>
      simp only [e1] at q0
      cases e2 : dq m.s x with
      | some kvs =>
        simp only [e2] at q0
        obtain ⟨a, us, ev, h1, h2⟩ := dq_ok ok r1 e2
        have hl : us.length = kvs.length := Paired.length h2
        exact cSem_of call_lenD ⟨a, us, by rw [ev], h1, by rw [hl]; exact OnV.d ok (.int _) q0⟩
      | none =>
        simp only [e2] at q0
        obtain ⟨⟨b, ys⟩, e3, q1⟩ := one_cases q0
        obtain ⟨a, us, ev, h1, h2⟩ := sq_ok ok r1 e3
        exact cSem_of call_len_seq ⟨a, us, by rw [ev], sqB_any h1, by rw [sva_len h2]; exact OnV.d ok (.int _) q1⟩⟩
/-- int of a number, of a truth -/
def oIntC : OC := fun xs m Q => match xs with
  | [x] => match x.int? with
    | some i => Q (.d (.int i)) m
    | none => one? x.bl? fun b => Q (.d (.int (if b then 1 else 0))) m
  | _ => False
theorem cd_int : CallD X (.type "int") oIntC := ⟨fun G H σ m as vs xs Q ok r q0 => by
  unfold oIntC at q0
  match xs, r, q0 with
  | [x], r, q0 =>
    obtain ⟨v, rfl, r1⟩ := sva1 r
    cases e1 : x.int? with
    | some a =>
      simp only [e1] at q0
      rw [Sv.int_eq e1] at r1
      exact cSem_of call_int1 (.inl ⟨a, by rw [sv_int r1], OnV.d ok (.int _) q0⟩)
    | none =>
      simp only [e1] at q0
      obtain ⟨b, e2, q1⟩ := one_cases q0
      rw [Sv.bl_eq e2] at r1
      exact cSem_of call_int1 (.inr ⟨b, by rw [sv_bl r1], OnV.d ok (.int _) q1⟩)⟩
def oI2 (g : Int → Int → Int) : OC := fun xs m Q => match xs with
  | [x, y] => both x.int? y.int? (fun i j => Q (.d (.int (g i j))) m) False
  | _ => False
theorem cd_max2 (hc : X.calm = true) : CallD X (.builtin "max") (oI2 fun i j => if j > i then j else i) := ⟨fun G H σ m as vs xs Q ok r q0 => by
  unfold oI2 at q0
  match xs, r, q0 with
  | [x, y], r, q0 =>
    obtain ⟨v, u, rfl, r1, r2⟩ := sva2 r
    have qq := both_cases q0
    clear q0
    rcases qq with ⟨i, j, e1, e2, q1⟩ | q1
    · rw [Sv.int_eq e1] at r1
      rw [Sv.int_eq e2] at r2
      exact cSem_of (call_max2 hc) ⟨i, j, by rw [sv_int r1, sv_int r2], OnV.d ok (.int _) q1⟩
    · exact q1.elim⟩
theorem cd_min2 (hc : X.calm = true) : CallD X (.builtin "min") (oI2 fun i j => if j < i then j else i) := ⟨fun G H σ m as vs xs Q ok r q0 => by
  unfold oI2 at q0
  match xs, r, q0 with
  | [x, y], r, q0 =>
    obtain ⟨v, u, rfl, r1, r2⟩ := sva2 r
    have qq := both_cases q0
    clear q0
    rcases qq with ⟨i, j, e1, e2, q1⟩ | q1
    · rw [Sv.int_eq e1] at r1
      rw [Sv.int_eq e2] at r2
      exact cSem_of (call_min2 hc) ⟨i, j, by rw [sv_int r1, sv_int r2], OnV.d ok (.int _) q1⟩
    · exact q1.elim⟩
/-- tuple(xs), list(xs) -/
def oTuple : OC := fun xs m Q => match xs with
  | [x] => match x.tup? with
    | some ds => Q (.d (.tup ds)) m
    | none => match sq m.s x with
      | some (.l, ys) => mkT ys m Q
      | some (.s, ys) => mkT ys m Q
      | _ => False
  | _ => False
theorem cd_tuple : CallD X (.type "tuple") oTuple := ⟨fun G H σ m as vs xs Q ok r q0 => by
  unfold oTuple at q0
  match xs, r, q0 with
  | [x], r, q0 =>
    obtain ⟨v, rfl, r1⟩ := sva1 r
    cases e1 : x.tup? with
    | some ds =>
      simp only [e1] at q0
      rw [Sv.tup_eq e1] at r1
      obtain ⟨a, us, ev, h1, h2⟩ := rp_tup (svd r1)
      exact cSem_of call_tupleT ⟨a, us, by rw [ev], sqT_mono ok.same h1, by rw [← ev]; exact OnV.here ok r1 q0⟩
    | none =>
      simp only [e1] at q0
      cases e2 : sq m.s x with
      | none => simp only [e2] at q0
      | some p =>
        obtain ⟨b, ys⟩ := p
        simp only [e2] at q0
        obtain ⟨a, us, ev, h1, h2⟩ := sq_ok ok r1 e2
        cases b with
        | t => exact q0.elim
        | l => exact cSem_of call_tuple_of ⟨a, us, by rw [ev], .inl ⟨SqL.of h1, fun l hl => mkT_ok ok h2 hl q0⟩⟩
        | s => exact cSem_of call_tuple_of ⟨a, us, by rw [ev], .inl ⟨h1, fun l hl => mkT_ok ok h2 hl q0⟩⟩⟩
def oList : OC := fun xs m Q => match xs with
  | [x] => one? (sq m.s x) fun p => mkL p.2 m Q
  | _ => False
theorem cd_list : CallD X (.type "list") oList := ⟨fun G H σ m as vs xs Q ok r q0 => by
  unfold oList at q0
  match xs, r, q0 with
  | [x], r, q0 =>
    obtain ⟨v, rfl, r1⟩ := sva1 r
    obtain ⟨⟨b, ys⟩, e3, q1⟩ := one_cases q0
    obtain ⟨a, us, ev, h1, h2⟩ := sq_ok ok r1 e3
    exact cSem_of call_list_of ⟨a, us, by rw [ev], sqB_any h1, fun l hl => mkL_ok ok h2 hl q1⟩⟩
/-- all, any of a list of truths -/
def blsD : List D → Option (List Bool)
  | [] => some []
  | .bl b :: r => (blsD r).map (b :: ·)
  | _ :: _ => none
theorem blsD_ok : ∀ {ds : List D} {vs : List V} {bs : List Bool}, RpAll K G vs ds → blsD ds = some bs → vs = bs.map V.bl
  | [], _, bs, .nil, h => by cases h; rfl
  | .bl b :: r, _, bs, .cons q t, h => by
    obtain ⟨b0, e, rfl⟩ := Option.map_eq_some_iff.mp (show (blsD r).map (b :: ·) = some bs from h)
    cases q
    rw [blsD_ok t e]; rfl
  | .non :: _, _, _, .cons q t, h => by cases h
  | .int _ :: _, _, _, .cons q t, h => by cases h
  | .str _ :: _, _, _, .cons q t, h => by cases h
  | .lst _ :: _, _, _, .cons q t, h => by cases h
  | .scr _ :: _, _, _, .cons q t, h => by cases h
  | .tup _ :: _, _, _, .cons q t, h => by cases h
  | .dct _ :: _, _, _, .cons q t, h => by cases h
  | .ob _ _ :: _, _, _, .cons q t, h => by cases h
  | .v _ :: _, _, _, .cons q t, h => by cases h
def oBls (f : List Bool → Bool) : OC := fun xs m Q => match xs with
  | [x] => match sq m.s x with
    | some (.l, ys) => one? ((allD ys).bind blsD) fun bs => Q (.d (.bl (f bs))) m
    | _ => False
  | _ => False
theorem oBls_ok {f : List Bool → Bool} {vs : List V} {xs : List Sv} {Q : SK} (ok : Ok X.K G H σ m as) (r : SvA X.K G as vs xs) (q0 : oBls f xs m Q) : ∃ a bs, vs = [.ref a] ∧ SqL X.K H a (bs.map V.bl) ∧ OnV X.K σ G H m as Q (.bl (f bs)) H := by
  unfold oBls at q0
  match xs, r, q0 with
  | [x], r, q0 =>
    obtain ⟨v, rfl, r1⟩ := sva1 r
    cases e2 : sq m.s x with
    | none => simp only [e2] at q0
    | some p =>
      obtain ⟨b, ys⟩ := p
      obtain ⟨a, us, ev, h1, h2⟩ := sq_ok ok r1 e2
      cases b with
      | t => simp only [e2] at q0
      | s => simp only [e2] at q0
      | l =>
        simp only [e2] at q0
        obtain ⟨bs, e3, q1⟩ := one_cases q0
        obtain ⟨ds, e4, e5⟩ := Option.bind_eq_some_iff.mp e3
        have hh := blsD_ok (allD_ok e4 h2) e5
        exact ⟨a, bs, by rw [ev], by rw [← hh]; exact SqL.of h1, OnV.d ok (.bl _) q1⟩
theorem cd_all (hc : X.calm = true) : CallD X (.builtin "all") (oBls fun bs => bs.all id) := ⟨fun G H σ m as vs xs Q ok r q0 => by
  obtain ⟨a, bs, rfl, h1, q⟩ := oBls_ok ok r q0
  exact cSem_of (cr_all hc) ⟨a, bs, rfl, h1, q⟩⟩
theorem cd_any (hc : X.calm = true) : CallD X (.builtin "any") (oBls fun bs => bs.any id) := ⟨fun G H σ m as vs xs Q ok r q0 => by
  obtain ⟨a, bs, rfl, h1, q⟩ := oBls_ok ok r q0
  exact cSem_of (cr_any hc) ⟨a, bs, rfl, h1, q⟩⟩
end
end Sy
set_option Elab.async false
namespace Sy
open PySem PySem.Spec PyProof.Rows L2
section
variable {X : Cx} {st : Stmt} {rest : List Stmt} {t u : S1} {e : Expr} {te : E1} {pos : Pos}
def sNext : S1 := fun D m => D.nx m
def sSeq (t u : S1) : S1 := fun D m => t { D with nx := u D } m
theorem db_nil : DB X [] sNext := ⟨fun G H σ m as D ok q => bSem_of pss_nil (On.here ok q)⟩
theorem db_cons (h1 : DS X st t) (h2 : DB X rest u) : DB X (st :: rest) (sSeq t u) := ⟨fun G H σ m as D ok q => bSem_of (pss_cons (ps_sem X st) (pss_sem X rest)) (by
  refine sSem_mono (h1.run G H σ m as { D with nx := u D } ok q) (fun σ1 H1 ⟨G1, m1, as1, st1, ok1, q1⟩ => ?_) (fun _ _ q => q) (fun _ _ q => q) (fun _ _ q => q)
  exact onEb_from st1 (h2.run G1 H1 σ1 m1 as1 D ok1 q1))⟩
theorem db_one (h1 : DS X st t) : DB X [st] t := ⟨fun G H σ m as D ok q => bSem_of (pss_one (ps_sem X st)) (h1.run G H σ m as D ok q)⟩
theorem ds_pass : DS X (.Pass pos) sNext := ⟨fun G H σ m as D ok q => sSem_of ps_pass (On.here ok q)⟩
def sBrk : S1 := fun D m => D.bk m
def sCt : S1 := fun D m => D.ct m
theorem ds_break : DS X (.Break pos) sBrk := ⟨fun G H σ m as D ok q => sSem_of ps_break (On.here ok q)⟩
theorem ds_continue : DS X (.Continue pos) sCt := ⟨fun G H σ m as D ok q => sSem_of ps_continue (On.here ok q)⟩
def sDrop (te : E1) : S1 := fun D m => te m fun _ m1 => D.nx m1
theorem ds_expr (he : DE X e te) (hs : swapsWith e none pos.line X.env = pure false := by rfl) : DS X (.Expr e pos) (sDrop te) := ⟨fun G H σ m as D ok q => sSem_of (ps_expr (pe_sem X e) hs) (by
  refine tSem_mono (he.run G H σ m as _ ok q) fun v H1 ⟨G1, m1, as1, x, st1, ok1, r1, q1⟩ => ⟨G1, m1, as1, st1, ok1, q1⟩)⟩
def sRet (te : E1) : S1 := fun D m => te m D.rt
theorem ds_ret (he : DE X e te) : DS X (.Return (some e) pos) (sRet te) := ⟨fun G H σ m as D ok q => sSem_of (ps_ret (pe_sem X e)) (by
  refine tSem_mono (he.run G H σ m as _ ok q) fun v H1 h => ⟨σ, h⟩)⟩
def sRetN : S1 := fun D m => D.rt (.d .non) m
theorem ds_retN : DS X (.Return none pos) sRetN := ⟨fun G H σ m as D ok q => sSem_of ps_retN ⟨σ, OnV.here ok (.d .non) q⟩⟩
def sIf (c : T1) (t u : S1) : S1 := fun D m => c m fun b m1 => IfB b (t D m1) (u D m1)
theorem ds_if {c : Expr} {a b : List Stmt} {tc : T1} (hc : DT X c tc) (ha : DB X a t) (hb : DB X b u) : DS X (.If c a b pos) (sIf tc t u) := ⟨fun G H σ m as D ok q => sSem_of (ps_if (pt_sem X c) (pss_sem X a) (pss_sem X b)) (by
  refine qSem_mono (hc.run G H σ m as _ ok q) fun d H1 ⟨G1, m1, as1, st1, ok1, q1⟩ => ?_
  cases d with
  | true => exact iteT (onEb_from st1 (ha.run G1 H1 σ m1 as1 D ok1 (IfB.tt q1)))
  | false => exact iteF (onEb_from st1 (hb.run G1 H1 σ m1 as1 D ok1 (IfB.ff q1))))⟩
/-! ### targets -/
abbrev G1 := Sv → Ms → (Ms → Prop) → Prop
abbrev Gs1 := List Sv → Ms → (Ms → Prop) → Prop
def gSem (X : Cx) (tg : Expr) : TG := fun v σ H Q => ∀ (pins : List (Addr × Obj)) (s : Shared) (u : Value), Inv X pins σ H s → RelV v u → wpAny (model X.prog X.w) X.A (assign tg X.env u) (fun _ s' => ∃ σ' H', Inv X pins σ' H' s' ∧ Q σ' H') X.xe s
theorem pg_sem (X : Cx) (tg : Expr) : PG X tg (gSem X tg) := ⟨fun pins s _ _ _ u _ I r h => h pins s u I r⟩
theorem gSem_of {tg : Expr} {g : TG} (h : PG X tg g) {v : V} {σ : L2.St} {H : Hp} {Q : L2.St → Hp → Prop} (q : g v σ H Q) : gSem X tg v σ H Q := fun pins s u I r => h.run pins s σ H v u Q I r q
theorem gSem_mono {tg : Expr} {v : V} {σ : L2.St} {H : Hp} {Q Q' : L2.St → Hp → Prop} (h : gSem X tg v σ H Q) (k : ∀ σ H, Q σ H → Q' σ H) : gSem X tg v σ H Q' := fun pins s u I r =>
  thn (h pins s u I r) fun _ _ ⟨σ', H', I', q⟩ => ⟨σ', H', I', k _ _ q⟩
def gsSem (X : Cx) (ts : List Expr) : TGs := fun vs σ H Q => ∀ (pins : List (Addr × Obj)) (s : Shared) (us : List Value), Inv X pins σ H s → Vals vs us → wpAny (model X.prog X.w) X.A (assignInOrder ((assignEach ts X.env).map (·.2)) us) (fun _ s' => ∃ σ' H', Inv X pins σ' H' s' ∧ Q σ' H') X.xe s
theorem pgs_sem (X : Cx) (ts : List Expr) : PGs X ts (gsSem X ts) := ⟨fun pins s _ _ _ us _ I r h => h pins s us I r⟩
theorem gsSem_of {ts : List Expr} {g : TGs} (h : PGs X ts g) {vs : List V} {σ : L2.St} {H : Hp} {Q : L2.St → Hp → Prop} (q : g vs σ H Q) : gsSem X ts vs σ H Q := fun pins s us I r => h.run pins s σ H vs us Q I r q
theorem gsSem_mono {ts : List Expr} {vs : List V} {σ : L2.St} {H : Hp} {Q Q' : L2.St → Hp → Prop} (h : gsSem X ts vs σ H Q) (k : ∀ σ H, Q σ H → Q' σ H) : gsSem X ts vs σ H Q' := fun pins s us I r =>
  thn (h pins s us I r) fun _ _ ⟨σ', H', I', q⟩ => ⟨σ', H', I', k _ _ q⟩
/-- but for the slots at is the names hold what they held -/
def Bt (is : List Nat) (σ σ' : L2.St) : Prop := σ'.length = σ.length ∧ ∀ (j : Nat), j ∉ is → σ'[j]? = σ[j]?
theorem Bt.refl (is : List Nat) (σ : L2.St) : Bt is σ σ := ⟨rfl, fun _ _ => rfl⟩
theorem Bt.trans {is js : List Nat} {a b c : L2.St} (h : Bt is a b) (h' : Bt js b c) : Bt (is ++ js) a c :=
  ⟨h'.1.trans h.1, fun j hj => (h'.2 j (fun z => hj (List.mem_append_right _ z))).trans (h.2 j fun z => hj (List.mem_append_left _ z))⟩
theorem Bt.set (i : Nat) (σ : L2.St) (v : Option V) : Bt [i] σ (σ.set i v) := ⟨List.length_set, fun j hj => List.getElem?_set_ne (fun e => hj (by simp [e]))⟩
/-- the slots of ts alone change -/
structure DG (X : Cx) (tg : Expr) (is : List Nat) (t : G1) : Prop where
  run : ∀ (G H : Hp) (σ : L2.St) (m : Ms) (as : List Addr) (v : V) (x : Sv) (Q : Ms → Prop), Ok X.K G H σ m as → SvR X.K G as v x → t x m Q → gSem X tg v σ H (fun σ' H' => Bt is σ σ' ∧ On X.K σ' G H m as Q H')
structure DGs (X : Cx) (ts : List Expr) (is : List Nat) (t : Gs1) : Prop where
  run : ∀ (G H : Hp) (σ : L2.St) (m : Ms) (as : List Addr) (vs : List V) (xs : List Sv) (Q : Ms → Prop), Ok X.K G H σ m as → SvA X.K G as vs xs → t xs m Q → gsSem X ts vs σ H (fun σ' H' => Bt is σ σ' ∧ On X.K σ' G H m as Q H')
def gN (i : Nat) : G1 := fun x m Q => Q (m.setE i x)
theorem dg_name {i : Nat} {x : Str} (hN : X.N.Nodup) (hi : X.N[i]? = some x) (hx : Loc X.env.scope x) (hf : X.fn x = true ∨ X.env.scope.names.lookup x = some .local := by first | exact .inl rfl | exact .inr rfl | assumption) : DG X (.Name x pos) [i] (gN i) :=
  ⟨fun G H σ m as v y Q ok r q => gSem_of (pg_name hN hi hx hf) ⟨Bt.set i σ _, G, m.setE i y, as, Step.refl .., ok.slot r, q⟩⟩
def gsN : Gs1 := fun xs m Q => xs = [] ∧ Q m
def gsC (t : G1) (u : Gs1) : Gs1 := fun xs m Q => match xs with
  | x :: r => t x m fun m1 => u r m1 Q
  | [] => False
theorem dgs_nil : DGs X [] [] gsN := ⟨fun G H σ m as vs xs Q ok r q => gsSem_of pgs_nil (by
  obtain ⟨rfl, q⟩ := q
  cases r
  exact ⟨rfl, Bt.refl _ _, On.here ok q⟩)⟩
theorem dgs_cons {es : List Expr} {is js : List Nat} {t : G1} {u : Gs1} (h1 : DG X e is t) (h2 : DGs X es js u) (hs : (assignEach (e :: es) X.env).map (·.2) = assign e X.env :: (assignEach es X.env).map (·.2) := by rfl) : DGs X (e :: es) (is ++ js) (gsC t u) :=
  ⟨fun G H σ m as vs xs Q ok r q => gsSem_of (pgs_cons (pg_sem X e) (pgs_sem X es) hs) (by
    cases r with
    | nil => exact q.elim
    | cons r1 r2 =>
      refine ⟨_, _, rfl, gSem_mono (h1.run G H σ m as _ _ _ ok r1 q) fun σ1 H1 ⟨b1, G1, m1, as1, st1, ok1, q1⟩ => ?_⟩
      exact gsSem_mono (h2.run G1 H1 σ1 m1 as1 _ _ Q ok1 (SvA.mono st1.g st1.pre r2) q1) fun σ2 H2 ⟨b2, h⟩ => ⟨b1.trans b2, On.from st1 h⟩)⟩
/-- (a, b, ..) = a tuple, a list of that length -/
def gT (n : Nat) (t : Gs1) : G1 := fun x m Q => one? (sq m.s x) fun p => p.2.length = n ∧ t p.2 m Q
theorem pg_both {es : List Expr} {k : Nat} {n : Nat} {t : TGs} (hc : X.calm = true) (h : PGs X es t) (hn : (assignEach es X.env).length = n) (hst : (assignEach es X.env).findIdx? (·.1) = none) {v : V} {σ : L2.St} {H : Hp} {Q : L2.St → Hp → Prop}
    (q : ∃ a xs, v = .ref a ∧ (SqL X.K H a xs ∨ SqT X.K H a xs) ∧ xs.length = n ∧ t xs σ H Q) : gSem X (.Tuple es k pos) v σ H Q := by
  obtain ⟨a, xs, e, h1, h2, h3⟩ := q
  rcases h1 with h1 | h1
  · exact gSem_of (pg_unl hc h hn hst) ⟨a, xs, e, h1, h2, h3⟩
  · exact gSem_of (pg_tup hc h hn hst) ⟨a, xs, e, h1, h2, h3⟩
theorem dg_tup {es : List Expr} {is : List Nat} {k : Nat} {t : Gs1} {n : Nat} (hc : X.calm = true) (h : DGs X es is t) (hn : (assignEach es X.env).length = n := by rfl) (hst : (assignEach es X.env).findIdx? (·.1) = none := by rfl) : DG X (.Tuple es k pos) is (gT n t) :=
  ⟨fun G H σ m as v x Q ok r q => by
    obtain ⟨⟨b, xs⟩, e, hl, q1⟩ := one_cases q
    obtain ⟨a, vs, ev, h1, h2⟩ := sq_ok ok r e
    exact pg_both hc (pgs_sem X es) hn hst ⟨a, vs, ev, sqB_any h1, by rw [sva_len h2]; exact hl, h.run G H σ m as vs xs Q ok h2 q1⟩⟩
def sAsg (te : E1) (g : G1) : S1 := fun D m => te m fun x m1 => g x m1 D.nx
theorem ds_asg {tg : Expr} {is : List Nat} {g : G1} (he : DE X e te) (hg : DG X tg is g) (hs : swapsWithSole [tg] e pos.line X.env = pure false := by rfl) (hw : swappedStores [tg] e X.env = pure none := by rfl)
    (h1 : (assignEach [tg] X.env).map (·.2) = [assign tg X.env] := by rfl) : DS X (.Assign [tg] e pos) (sAsg te g) := ⟨fun G H σ m as D ok q => sSem_of (ps_asg (pe_sem X e) (pg_sem X tg) hs hw h1) (by
  refine tSem_mono (he.run G H σ m as _ ok q) fun v H1 ⟨G1, m1, as1, x, st1, ok1, r1, q1⟩ => ?_
  exact gSem_mono (hg.run G1 H1 σ m1 as1 v x _ ok1 r1 q1) fun σ2 H2 ⟨_, h⟩ => On.from st1 h)⟩
theorem ds_set {i : Nat} {x : Str} {pos' : Pos} (hN : X.N.Nodup) (hi : X.N[i]? = some x) (hx : Loc X.env.scope x) (he : DE X e te) (hs : swapsWith e (some (.Name x pos')) pos.line X.env = pure false := by rfl) (hf : X.fn x = true ∨ X.env.scope.names.lookup x = some .local := by first | exact .inl rfl | exact .inr rfl | assumption) :
    DS X (.Assign [.Name x pos'] e pos) (sAsg te (gN i)) := ⟨fun G H σ m as D ok q => sSem_of (ps_set hN hi hx (pe_sem X e) hs hf) (by
  refine tSem_mono (he.run G H σ m as _ ok q) fun v H1 ⟨G1, m1, as1, x, st1, ok1, r1, q1⟩ => ?_
  exact ⟨G1, m1.setE i x, as1, st1, ok1.slot r1, q1⟩)⟩
/-- a, b = x, y stored without a tuple -/
def sPar (i j : Nat) (ta : A1) : S1 := fun D m => ta m fun xs m1 => match xs with
  | [x, y] => D.nx ((m1.setE i x).setE j y)
  | _ => False
theorem ds_par {i j : Nat} {x y : Str} {a b : Expr} {ta : A1} {px py pt : Pos} {kt k2 pt2} (hc : X.calm = true) (hN : X.N.Nodup) (hi : X.N[i]? = some x) (hj : X.N[j]? = some y) (hij : i ≠ j)
    (hx : X.env.scope.names.lookup x = some .local) (hy : X.env.scope.names.lookup y = some .local) (ha : DA X [a, b] ta)
    (hw : swappedStores [.Tuple [.Name x px, .Name y py] kt pt] (.Tuple [a, b] k2 pt2) X.env = pure (some [x, y]))
    (hs : swapsWithSole [.Tuple [.Name x px, .Name y py] kt pt] (.Tuple [a, b] k2 pt2) pos.line X.env = pure false := by rfl) :
    DS X (.Assign [.Tuple [.Name x px, .Name y py] kt pt] (.Tuple [a, b] k2 pt2) pos) (sPar i j ta) := ⟨fun G H σ m as D ok q => sSem_of (ps_par hc hN hi hj hij hx hy (pa_sem X [a, b]) hw hs) (by
  refine aSem_mono (ha.run G H σ m as _ ok q) fun vs H1 ⟨G1, m1, as1, xs, st1, ok1, r1, q1⟩ => ?_
  match xs, r1, q1 with
  | [x, y], r1, q1 =>
    obtain ⟨v, w, rfl, r2, r3⟩ := sva2 r1
    exact ⟨v, w, rfl, G1, (m1.setE i x).setE j y, as1, st1, (ok1.slot r2).slot r3, q1⟩)⟩
/-- name += e of numbers, texts -/
def sAug (i : Nat) (te : E1) (o : O2) : S1 := fun D m => eV i m fun x m0 => te m0 fun y m1 => o x y m1 fun z m2 => D.nx (m2.setE i z)
end
end Sy
set_option Elab.async false
namespace Sy
open PySem PySem.Spec PyProof.Rows L2
/-! ### what is behind the n-th cell is let go -/
def cutv (n : Nat) (S : List Cell) : Sv → Sv
  | .no => .no
  | .d x => .d x
  | .r k => if k < n then .r k else match S[k]? with
    | some (.fz d) => .d d
    | _ => .no
def cutc (n : Nat) (S : List Cell) : Cell → Cell
  | .gone => .gone
  | .fz d => .fz d
  | .ls xs => .ls (xs.map (cutv n S))
  | .tp xs => .tp (xs.map (cutv n S))
  | .di xs => .di (xs.map fun p => (p.1, cutv n S p.2))
  | .ob C xs => .ob C (xs.map fun p => (p.1, cutv n S p.2))
  | .dl j => if j < n then .dl j else .gone
  | .hid => .hid
def Ms.cut (n : Nat) (m : Ms) : Ms := ⟨m.e.map (cutv n m.s), (m.s.take n).map (cutc n m.s)⟩
section
variable {K : PySem.W.Frag} {σ : L2.St} {G H G0 H0 : Hp} {m m0 : Ms} {as as0 : List Addr}
theorem take_get {α : Type} {l : List α} {n k : Nat} {x : α} (h : l[k]? = some x) (hk : k < n) : (l.take n)[k]? = some x := by
  rw [List.getElem?_take_of_lt hk]; exact h
theorem of_take {α : Type} {l : List α} {n k : Nat} {x : α} (h : (l.take n)[k]? = some x) : k < n ∧ l[k]? = some x := by
  have hl := (List.getElem?_eq_some_iff.mp h).1
  rw [List.length_take] at hl
  have hk : k < n := by omega
  rw [List.getElem?_take_of_lt hk] at h
  exact ⟨hk, h⟩
theorem cutv_ok (ok : Ok K G H σ m as) {n : Nat} {v : V} {x : Sv} (r : SvR K G as v x) : SvR K G (as.take n) v (cutv n m.s x) := by
  cases r with
  | no => exact .no _
  | d h => exact .d h
  | @r a k h =>
    unfold cutv
    dsimp only
    by_cases hk : k < n
    · rw [if_pos hk]; exact .r (take_get h hk)
    · rw [if_neg hk]
      cases e : m.s[k]? with
      | none => exact .no _
      | some c =>
        have q := ok.ce k c a e h
        cases q with
        | fz q => exact .d q
        | gone => exact .no _
        | ls _ _ => exact .no _
        | tp _ _ => exact .no _
        | di _ _ => exact .no _
        | ob _ _ => exact .no _
        | dl _ _ _ _ _ => exact .no _
        | hid _ _ => exact .no _
theorem paired_map {α β γ : Type} {F : α → β → Prop} {F' : α → γ → Prop} {f : β → γ} (k : ∀ a b, F a b → F' a (f b)) : ∀ {xs : List α} {ys : List β}, Paired F xs ys → Paired F' xs (ys.map f)
  | _, _, .nil => .nil
  | _, _, .cons r t => .cons (k _ _ r) (paired_map k t)
theorem cutc_live {n : Nat} {S : List Cell} {c : Cell} (h : (cutc n S c).live = true) : c.live = true := by
  cases c <;> first | rfl | exact h
theorem Ok.cut (ok : Ok K G H σ m as) (n : Nat) : Ok K G H σ (m.cut n) (as.take n) := by
  refine ⟨ok.same, ?_, ?_, fun i j a h1 h2 => ok.nd i j a (of_take h1).2 (of_take h2).2, fun k a h => ok.alive k a (of_take h).2, fun a h => ?_, fun i x h => ?_, fun k c a h h' => ?_⟩
  · show _ = ((m.s.take n).map _).length
    rw [List.length_map, List.length_take, List.length_take, ok.len]
  · show (m.e.map _).length ≤ _
    rw [List.length_map]; exact ok.el
  · obtain ⟨k, c, h1, h2, h3⟩ := h
    have h1 : ((m.s.take n).map (cutc n m.s))[k]? = some c := h1
    rw [List.getElem?_map] at h1
    obtain ⟨c0, e, rfl⟩ := Option.map_eq_some_iff.mp h1
    exact ok.out a ⟨k, c0, (of_take e).2, (of_take h2).2, cutc_live h3⟩
  · have h : (m.e.map (cutv n m.s))[i]? = some x := h
    rw [List.getElem?_map] at h
    obtain ⟨x0, e, rfl⟩ := Option.map_eq_some_iff.mp h
    rcases ok.sv i x0 e with z | ⟨v, z, r⟩
    · subst z; exact .inl rfl
    · exact .inr ⟨v, z, cutv_ok ok r⟩
  · have h : ((m.s.take n).map (cutc n m.s))[k]? = some c := h
    rw [List.getElem?_map] at h
    obtain ⟨c0, e, rfl⟩ := Option.map_eq_some_iff.mp h
    have q := ok.ce k c0 a (of_take e).2 (of_take h').2
    cases q with
    | gone => exact .gone
    | fz q => exact .fz q
    | ls q t => exact .ls q (paired_map (fun _ _ r => cutv_ok ok r) t)
    | tp q t => exact .tp q (paired_map (fun _ _ r => cutv_ok ok r) t)
    | di q t => exact .di q (paired_map (fun _ _ r => ⟨r.1, cutv_ok ok r.2⟩) t)
    | ob q t => exact .ob q (paired_map (fun _ _ r => ⟨r.1, cutv_ok ok r.2⟩) t)
    | @dl j l sd nm q1 q2 q3 q4 q5 =>
      unfold cutc
      dsimp only
      by_cases hj : j < n
      · rw [if_pos hj]; exact .dl (take_get q1 hj) q2 q3 q4 q5
      · rw [if_neg hj]; exact .gone
    | hid q t => exact .hid q t
theorem Step.cut (st : Step G0 H0 m0.s as0 G H m.s as) {n : Nat} (hn : as0.length ≤ n) : Step G0 H0 m0.s as0 G H (m.cut n).s (as.take n) := by
  refine ⟨st.g, st.dom, st.fr, fun k a h => take_get (st.pre k a h) (Nat.lt_of_lt_of_le (List.getElem?_eq_some_iff.mp h).1 hn), fun k a h hk => st.new k a (of_take h).2 hk, fun k c h hl hk => ?_, st.gd⟩
  have h : ((m.s.take n).map (cutc n m.s))[k]? = some c := h
  rw [List.getElem?_map] at h
  obtain ⟨c0, e, rfl⟩ := Option.map_eq_some_iff.mp h
  exact st.liv k c0 (of_take e).2 (cutc_live hl) hk
end
/-! ### what is walked -/
def iSemT (X : Cx) (tg iter : Expr) : TI := fun σ H R => ∀ (pins : List (Addr × Obj)) (s : Shared), Inv X pins σ H s →
  wpAny (model X.prog X.w) X.A (eval iter X.env) (fun v s1 => wpAny (model X.prog X.w) X.A (pyIter v) (PIE X pins σ tg R) X.xe s1) X.xe s
theorem pi_sem (X : Cx) (tg iter : Expr) : PI X tg iter (iSemT X tg iter) := ⟨fun pins s _ _ _ I h => h pins s I⟩
theorem iSemT_of {X : Cx} {tg iter : Expr} {t : TI} (h : PI X tg iter t) {σ : L2.St} {H : Hp} {R : It → Hp → Prop} (q : t σ H R) : iSemT X tg iter σ H R := fun pins s I => h.run pins s σ H R I q
structure ItD (K : PySem.W.Frag) (J : It) (xs : List Sv) (cond : List Cell → Prop) (G0 : Hp) (as0 : List Addr) : Prop where
  go : ∀ (i : Nat) (x : Sv) (G H : Hp) (σ : L2.St) (m : Ms) (as : List Addr), xs[i]? = some x → Same G0 G → Pre as0 as → Ok K G H σ m as → cond m.s →
    J.go i H ∧ ∀ v H', J.yld i H v H' → ∃ G', Step G H m.s as G' H' m.s as ∧ Ok K G' H' σ m as ∧ SvR K G' as v x
  stop : ∀ (G H : Hp) (σ : L2.St) (m : Ms) (as : List Addr), Same G0 G → Pre as0 as → Ok K G H σ m as → cond m.s → J.stop xs.length H
abbrev I1 := Ms → (List Sv → (List Cell → Prop) → Ms → Prop) → Prop
structure DI (X : Cx) (tg iter : Expr) (ti : I1) : Prop where
  run : ∀ (G H : Hp) (σ : L2.St) (m : Ms) (as : List Addr) (R : List Sv → (List Cell → Prop) → Ms → Prop), Ok X.K G H σ m as → ti m R →
    iSemT X tg iter σ H (fun J H' => ∃ G' m' as' xs cond, Step G H m.s as G' H' m'.s as' ∧ Ok X.K G' H' σ m' as' ∧ ItD X.K J xs cond G' as' ∧ R xs cond m')
section
variable {X : Cx} {tg iter e : Expr} {te : E1} {pos : Pos} {pins : List (Addr × Obj)} {σ : L2.St} {H : Hp} {s : Shared} {R : It → Hp → Prop} {a : Addr} {vs : List V}
/-- a new object of the machine's own is laid: all that stood is there -/
theorem Inv.push {o : Obj} (I : Inv X pins σ H s) : Inv X pins σ H { s with heap := s.heap.push o } :=
  I.kept (t' := s.toks) fun _ _ q => Heap.get?_push_of_some o q
theorem fp_last (I : Inv X pins σ H s) {b : Addr} (hb : b ∈ [s.heap.objs.size]) : FpOk X pins H b := by
  rw [List.mem_singleton.mp hb]
  exact I.fpOk (Nat.le_refl _) (I.hok.fresh (Nat.le_refl _))
theorem iter_list (I : Inv X pins σ H s) (h : SqL X.K H a vs) (q : R (Itl X.K a) H) : wpAny (model X.prog X.w) X.A (pyIter (.ref a)) (PIE X pins σ tg R) X.xe s := by
  obtain ⟨us, _, p, _⟩ := I.list h
  exact wpAny_pyIter_list p.isList ⟨_, [_], _, _, H, rfl, Inv.push I, turn_list a _, ⟨_, Heap.get?_push_size _ rfl, rfl, rfl⟩, fun b hb => fp_last I hb, q⟩
theorem iter_tup (I : Inv X pins σ H s) (h : SqT X.K H a vs) (q : R (Itt X.K a) H) : wpAny (model X.prog X.w) X.A (pyIter (.ref a)) (PIE X pins σ tg R) X.xe s := by
  obtain ⟨us, _, p, _⟩ := I.tuple h
  exact wpAny_pyIter_tuple (show s.heap.IsTuple a us.toArray from p) ⟨_, [_], _, _, H, rfl, Inv.push I, turn_tuple a _, ⟨_, Heap.get?_push_size _ rfl, rfl, rfl⟩, fun b hb => fp_last I hb, q⟩
/-- what walks a list, a tuple at a -/
def Itb (K : PySem.W.Frag) (b : Sk) (a : Addr) : It := match b with
  | .t => Itt K a
  | _ => Itl K a
theorem iter_sq {b : Sk} (I : Inv X pins σ H s) (h : SqB X.K H b a vs) (q : R (Itb X.K b a) H) : wpAny (model X.prog X.w) X.A (pyIter (.ref a)) (PIE X pins σ tg R) X.xe s := by
  cases b with
  | l => exact iter_list I (SqL.of h) q
  | s => exact iter_list I h q
  | t => exact iter_tup I h q
theorem sqL_unique {K : PySem.W.Frag} {P : Program} {w : World} {h : Heap} (ok : HOk P w H h) : True := trivial
/-- an item of related rows -/
theorem sva_get {K : PySem.W.Frag} {G : Hp} {as : List Addr} : ∀ {vs : List V} {xs : List Sv} {i : Nat} {x : Sv}, SvA K G as vs xs → xs[i]? = some x → ∃ v, vs[i]? = some v ∧ SvR K G as v x
  | _, _, i, x, .nil, e => by cases e
  | _, _, 0, x, .cons q t, e => by cases e; exact ⟨_, rfl, q⟩
  | _, _, i + 1, x, .cons q t, e => sva_get (i := i) (x := x) (show SvA K G as _ _ from t) e
theorem itD_sq {K : PySem.W.Frag} {b : Sk} {a : Addr} {x : Sv} {xs : List Sv} {G0 : Hp} {as0 : List Addr} (r : SvR K G0 as0 (.ref a) x) : ItD K (Itb K b a) xs (fun S => sq S x = some (b, xs)) G0 as0 where
  go := fun i y G H σ m as hi sg pr ok hc => by
    obtain ⟨a', vs, e, h1, h2⟩ := sq_ok ok (r.mono sg pr) hc
    cases e
    obtain ⟨v, e1, r1⟩ := sva_get h2 hi
    cases b with
    | l =>
      refine ⟨⟨vs, v, SqL.of h1, e1⟩, fun w H' ⟨eH, hw⟩ => ?_⟩
      subst eH
      have ew := hw vs (SqL.of h1)
      rw [e1] at ew; cases ew
      exact ⟨G, Step.refl .., ok, r1⟩
    | s =>
      refine ⟨⟨vs, v, h1, e1⟩, fun w H' ⟨eH, hw⟩ => ?_⟩
      subst eH
      have ew := hw vs h1
      rw [e1] at ew; cases ew
      exact ⟨G, Step.refl .., ok, r1⟩
    | t =>
      refine ⟨⟨vs, v, h1, e1⟩, fun w H' ⟨eH, hw⟩ => ?_⟩
      subst eH
      have ew := hw vs h1
      rw [e1] at ew; cases ew
      exact ⟨G, Step.refl .., ok, r1⟩
  stop := fun G H σ m as sg pr ok hc => by
    obtain ⟨a', vs, e, h1, h2⟩ := sq_ok ok (r.mono sg pr) hc
    cases e
    have hl : vs.length ≤ xs.length := Nat.le_of_eq (sva_len h2)
    cases b with
    | l => exact ⟨vs, SqL.of h1, hl⟩
    | s => exact ⟨vs, h1, hl⟩
    | t => exact ⟨vs, h1, hl⟩
/-- a text, sign by sign -/
def signs (a : Str) : List Sv := a.cps.toList.map fun c => .d (.str ⟨#[c]⟩)
theorem itD_str {K : PySem.W.Frag} {a : Str} {G0 : Hp} {as0 : List Addr} : ItD K (Its a) (signs a) (fun _ => True) G0 as0 where
  go := fun i y G H σ m as hi sg pr ok hc => by
    unfold signs at hi
    rw [List.getElem?_map] at hi
    obtain ⟨c, e, rfl⟩ := Option.map_eq_some_iff.mp hi
    have hs : a.cps[i]? = some c := by rw [← e]; simp
    refine ⟨(Array.getElem?_eq_some_iff.mp hs).1, fun w H' ⟨eH, c', h1, h2⟩ => ?_⟩
    subst eH
    rw [hs] at h1; cases h1
    rw [h2]
    exact ⟨G, Step.refl .., ok, .d (.str _)⟩
  stop := fun G H σ m as sg pr ok hc => by
    show a.cps.size ≤ _
    unfold signs
    rw [List.length_map, Array.length_toList]
    exact Nat.le_refl _
theorem iter_str {z : Str} {t : Tok} (I : Inv X pins σ H s) (q : R (Its z) H) : wpAny (model X.prog X.w) X.A (pyIter (.str z t)) (PIE X pins σ tg R) X.xe s := by
  have hty : strIterType z = "str_ascii_iterator" ∨ strIterType z = "str_iterator" := by
    unfold strIterType
    split
    · exact .inl rfl
    · exact .inr rfl
  exact wpAny_pyIter_strU ⟨_, [_], _, _, H, rfl, Inv.push I, turn_str _ z t _ hty, ⟨_, Heap.get?_push_size _ rfl, rfl, rfl⟩, fun b hb => fp_last I hb, q⟩
/-- a list, a tuple (it stands as it stood at each turn), a text -/
def iSeq (te : E1) : I1 := fun m R => te m fun x m1 => match x.str? with
  | some a => R (signs a) (fun _ => True) m1
  | none => one? (sq m1.s x) fun p => R p.2 (fun S => sq S x = some p) m1
theorem di_seq (he : DE X e te) : DI X tg e (iSeq te) := ⟨fun G H σ m as R ok q pins s I => by
  refine thn (he.run G H σ m as _ ok q pins s I) fun v s1 ⟨x, H1, I1, r1, G1, m1, as1, y, st1, ok1, sv, q1⟩ => ?_
  cases e1 : y.str? with
  | some a =>
    simp only [e1] at q1
    rw [Sv.str_eq e1] at sv
    cases sv_str sv
    obtain ⟨t, rfl⟩ := r1
    exact iter_str I1 ⟨G1, m1, as1, _, _, st1, ok1, itD_str, q1⟩
  | none =>
    simp only [e1] at q1
    obtain ⟨⟨b, xs⟩, e2, q2⟩ := one_cases q1
    obtain ⟨a, vs, ev, h1, h2⟩ := sq_ok ok1 sv e2
    subst ev
    cases r1
    exact iter_sq I1 h1 ⟨G1, m1, as1, _, _, st1, ok1, itD_sq sv, q2⟩⟩
end
end Sy
set_option Elab.async false
namespace Sy
open PySem PySem.Spec PyProof.Rows L2
section
variable {X : Cx} {tg iter e : Expr} {pos : Pos}
theorem iSemT_mono {σ : L2.St} {H : Hp} {R R' : It → Hp → Prop} (h : iSemT X tg iter σ H R) (k : ∀ J H, R J H → R' J H) : iSemT X tg iter σ H R' := fun pins s I =>
  thn (h pins s I) fun _ _ h2 => thn h2 fun _ _ ⟨it, fp, tn, J, H', h1, h2, h3, h4, h5, q⟩ => ⟨it, fp, tn, J, H', h1, h2, h3, h4, h5, k J H' q⟩
/-! ### for, while -/
def sFor (ti : I1) (g : G1) (tb : S1) : S1 := fun D m => ti m fun xs cond m1 => ∃ Iv : Nat → Ms → Prop, Iv 0 m1 ∧
  (∀ (i : Nat) (x : Sv) (m2 : Ms), xs[i]? = some x → Iv i m2 → cond m2.s ∧ g x m2 fun m3 => tb { D with nx := fun m' => Iv (i + 1) (m'.cut m1.s.length), ct := fun m' => Iv (i + 1) (m'.cut m1.s.length), bk := D.nx } m3) ∧
  ∀ m2, Iv xs.length m2 → cond m2.s ∧ D.nx m2
theorem ds_for {is : List Nat} {body : List Stmt} {ti : I1} {g : G1} {tb : S1} (hp : PassesOwn (model X.prog X.w) X.A X.env X.xe) (hc : X.calm = true) (hi : DI X tg iter ti) (hg : DG X tg is g) (hb : DB X body tb)
    (hs : ∀ x, foldedSetIterable iter X.env x = pure x := by intro _; rfl) : DS X (.For tg iter body [] pos) (sFor ti g tb) := ⟨fun G H σ m as D ok q => sSem_of (ps_for hp hc (pi_sem X tg iter) (pg_sem X tg) (pss_sem X body) hs) (by
  refine iSemT_mono (hi.run G H σ m as _ ok q) fun J H1 ⟨G1, m1, as1, xs, cond, st1, ok1, iv, Iv, w0, turn, fin⟩ => ?_
  refine ⟨fun i k σ' H' => k = xs.length - i ∧ i ≤ xs.length ∧ ∃ G2 m2 as2, Step G1 H1 m1.s as1 G2 H' m2.s as2 ∧ Ok X.K G2 H' σ' m2 as2 ∧ Iv i m2, ⟨xs.length, by simp, Nat.zero_le _, G1, m1, as1, Step.refl .., ok1, w0⟩, ?_⟩
  rintro i k σ' H' ⟨rfl, hle, G2, m2, as2, st2, ok2, w2⟩
  by_cases hlt : i < xs.length
  · obtain ⟨c2, t2⟩ := turn i xs[i] m2 (List.getElem?_eq_getElem hlt) w2
    obtain ⟨g1, g2⟩ := iv.go i xs[i] G2 H' σ' m2 as2 (List.getElem?_eq_getElem hlt) st2.g st2.pre ok2 c2
    refine .inr ⟨g1, fun σ3 H3 => ∃ G3 m3 as3, Step G1 H1 m1.s as1 G3 H3 m3.s as3 ∧ Ok X.K G3 H3 σ3 m3 as3 ∧ Iv (i + 1) m3, fun σ3 H3 h3 => ⟨xs.length - (i + 1), by omega, rfl, hlt, h3⟩, fun v H3 hy => ?_⟩
    obtain ⟨G3, st3, ok3, sv⟩ := g2 v H3 hy
    have st23 := st2.trans st3
    refine gSem_mono (hg.run G3 H3 σ' m2 as2 v _ _ ok3 sv t2) fun σ4 H4 ⟨_, G4, m4, as4, st4, ok4, q4⟩ => ?_
    have st24 := st23.trans st4
    have nxt : ∀ σ5 H5, On X.K σ5 G4 H4 m4 as4 (fun m' => Iv (i + 1) (m'.cut m1.s.length)) H5 → ∃ G3 m3 as3, Step G1 H1 m1.s as1 G3 H5 m3.s as3 ∧ Ok X.K G3 H5 σ5 m3 as3 ∧ Iv (i + 1) m3 := fun σ5 H5 ⟨G5, m5, as5, st5, ok5, q5⟩ =>
      ⟨G5, m5.cut m1.s.length, as5.take m1.s.length, (st24.trans st5).cut (Nat.le_of_eq ok1.len), ok5.cut _, q5⟩
    refine bSem_mono (hb.run G4 H4 σ4 m4 as4 _ ok4 q4) nxt (fun v' H5 ⟨σ5, h⟩ => ⟨σ5, OnV.from (st1.trans st24) h⟩) (fun σ5 H5 h => On.from (st1.trans st24) h) nxt
  · have e : i = xs.length := by omega
    subst e
    obtain ⟨c2, q2⟩ := fin m2 w2
    exact .inl ⟨iv.stop G2 H' σ' m2 as2 st2.g st2.pre ok2 c2, G2, m2, as2, st1.trans st2, ok2, q2⟩)⟩
def sWhile (tc : T1) (tb : S1) : S1 := fun D m => ∃ Iv : Nat → Ms → Prop, (∃ k, Iv k m) ∧ ∀ k m2, Iv k m2 → tc m2 fun b m3 => IfB b
    (tb { D with nx := fun m' => ∃ k', k' < k ∧ Iv k' (m'.cut m.s.length), ct := fun m' => ∃ k', k' < k ∧ Iv k' (m'.cut m.s.length), bk := D.nx } m3) (D.nx m3)
theorem ds_while {c : Expr} {body : List Stmt} {tc : T1} {tb : S1} (hp : PassesOwn (model X.prog X.w) X.A X.env X.xe) (hc : DT X c tc) (hb : DB X body tb) : DS X (.While c body [] pos) (sWhile tc tb) := ⟨fun G H σ m as D ok q => sSem_of (ps_while hp (pt_sem X c) (pss_sem X body)) (by
  obtain ⟨Iv, ⟨k0, w0⟩, turn⟩ := q
  refine ⟨fun k σ' H' => ∃ G2 m2 as2, Step G H m.s as G2 H' m2.s as2 ∧ Ok X.K G2 H' σ' m2 as2 ∧ Iv k m2, ⟨k0, G, m, as, Step.refl .., ok, w0⟩, ?_⟩
  rintro k σ' H' ⟨G2, m2, as2, st2, ok2, w2⟩
  refine qSem_mono (hc.run G2 H' σ' m2 as2 _ ok2 (turn k m2 w2)) fun b H3 ⟨G3, m3, as3, st3, ok3, q3⟩ => ?_
  have st23 := st2.trans st3
  cases b with
  | false => exact iteF ⟨G3, m3, as3, st23, ok3, IfB.ff q3⟩
  | true =>
    refine iteT ⟨fun σ4 H4 => ∃ k', k' < k ∧ ∃ G2 m2 as2, Step G H m.s as G2 H4 m2.s as2 ∧ Ok X.K G2 H4 σ4 m2 as2 ∧ Iv k' m2, fun σ4 H4 h => h, ?_⟩
    have nxt : ∀ σ5 H5, On X.K σ5 G3 H3 m3 as3 (fun m' => ∃ k', k' < k ∧ Iv k' (m'.cut m.s.length)) H5 → ∃ k', k' < k ∧ ∃ G2 m2 as2, Step G H m.s as G2 H5 m2.s as2 ∧ Ok X.K G2 H5 σ5 m2 as2 ∧ Iv k' m2 := fun σ5 H5 ⟨G5, m5, as5, st5, ok5, k', hk, q5⟩ =>
      ⟨k', hk, G5, m5.cut m.s.length, as5.take m.s.length, (st23.trans st5).cut (Nat.le_of_eq ok.len), ok5.cut _, q5⟩
    have q4 : tb { D with nx := fun m' => ∃ k', k' < k ∧ Iv k' (m'.cut m.s.length), ct := fun m' => ∃ k', k' < k ∧ Iv k' (m'.cut m.s.length), bk := D.nx } m3 := IfB.tt q3
    refine bSem_mono (hb.run G3 H3 σ' m3 as3 _ ok3 q4) nxt (fun v' H5 ⟨σ5, h⟩ => ⟨σ5, OnV.from st23 h⟩) (fun σ5 H5 h => On.from st23 h) nxt)⟩
end
/-! ### a value stands still from now on -/
def fzC : Cell → Option D
  | .fz d => some d
  | c => vdc c
/-- frozen: the data, the state behind -/
def fzv (x : Sv) (m : Ms) (Q : D → Ms → Prop) : Prop := match x with
  | .no => False
  | .d d => Q d m
  | .r k => one? (m.s[k]?) fun c => one? (vdc c) fun d => Q d (m.setS k (.fz d))
section
variable {K : PySem.W.Frag} {σ : L2.St} {G H : Hp} {m : Ms} {as : List Addr} {v : V} {x : Sv}
theorem setS_same {k : Nat} {c : Cell} (h : m.s[k]? = some c) : m.setS k c = m := by
  obtain ⟨e, s⟩ := m
  have hl := (List.getElem?_eq_some_iff.mp h).1
  have h2 : s[k] = c := by
    have := List.getElem?_eq_getElem (l := s) (i := k) hl
    rw [this] at h; exact Option.some.inj h
  show Ms.mk e (s.set k c) = Ms.mk e s
  rw [← h2, List.set_getElem_self]
theorem fzv_ok {Q : D → Ms → Prop} (ok : Ok K G H σ m as) (r : SvR K G as v x) (q : fzv x m Q) : ∃ d G' m', Step G H m.s as G' H m'.s as ∧ Ok K G' H σ m' as ∧ Rp K G' v d ∧ Q d m' := by
  cases x with
  | no => exact q.elim
  | d d => exact ⟨d, G, m, Step.refl .., ok, svd r, q⟩
  | r k =>
    obtain ⟨a, ha, rfl⟩ := svr r
    obtain ⟨c, hc, q1⟩ := one_cases q
    obtain ⟨d, hd, q2⟩ := one_cases q1
    have cr := ok.ce k c a hc ha
    have fin : ∀ {o : HO}, c.live = true → H a = some o → Rp K (upd G a o) (.ref a) d → ∃ d' G' m', Step G H m.s as G' H m'.s as ∧ Ok K G' H σ m' as ∧ Rp K G' (.ref a) d' ∧ Q d' m' := fun {o} hl ho hr => by
      obtain ⟨ok', st⟩ := ok.still hc hl ha ho hr
      exact ⟨d, _, _, st, ok', hr, q2⟩
    have sg : ∀ {o : HO}, c.live = true → Same G (upd G a o) := fun {o} hl => same_new (ok.out a ⟨k, c, hc, ha, hl⟩)
    cases cr with
    | gone => cases hd
    | fz z =>
      cases hd
      refine ⟨_, G, m, Step.refl .., ok, z, ?_⟩
      rw [setS_same hc] at q2
      exact q2
    | @ls vs xs z t =>
      obtain ⟨ds, e, rfl⟩ := Option.map_eq_some_iff.mp (show (allD xs).map D.lst = some d from hd)
      exact fin rfl z (.lst upd_same ((allD_ok e t).mono (sg rfl)))
    | @tp vs xs z t =>
      obtain ⟨ds, e, rfl⟩ := Option.map_eq_some_iff.mp (show (allD xs).map D.tup = some d from hd)
      exact fin rfl z (.tup (SqT.of upd_same) ((allD_ok e t).mono (sg rfl)))
    | @di vs xs z t =>
      obtain ⟨ds, e, rfl⟩ := Option.map_eq_some_iff.mp (show (allK xs).map D.dct = some d from hd)
      exact fin rfl z (.dct upd_same ((allK_ok e t).mono (sg rfl)))
    | ob _ _ => cases hd
    | dl _ _ _ _ _ => cases hd
    | hid _ _ => cases hd
end
/-! ### a list made by a comprehension -/
def wipeE (es : List Sv) : List Nat → List Sv
  | [] => es
  | i :: r => (wipeE es r).set i .no
theorem wipe_len {σ : L2.St} : ∀ {vs : List Nat}, (wipe σ vs).length = σ.length
  | [] => rfl
  | i :: r => by unfold wipe; rw [List.length_set, wipe_len]
theorem wipeE_len {es : List Sv} : ∀ {vs : List Nat}, (wipeE es vs).length = es.length
  | [] => rfl
  | i :: r => by unfold wipeE; rw [List.length_set, wipeE_len]
theorem wipeE_get {es : List Sv} {j : Nat} {x : Sv} : ∀ {vs : List Nat}, (wipeE es vs)[j]? = some x → x = .no ∨ (j ∉ vs ∧ es[j]? = some x)
  | [], h => .inr ⟨by simp, h⟩
  | i :: r, h => by
    rcases get_set (show ((wipeE es r).set i .no)[j]? = some x from h) with ⟨hj, h⟩ | ⟨_, e, _⟩
    · rcases wipeE_get h with z | ⟨z1, z2⟩
      · exact .inl z
      · exact .inr ⟨fun z => by rcases List.mem_cons.mp z with z | z; exact hj z; exact z1 z, z2⟩
    · exact .inl e
theorem wipe_out' {σ : L2.St} {j : Nat} : ∀ {vs : List Nat}, j ∉ vs → (wipe σ vs)[j]? = σ[j]?
  | [], _ => rfl
  | i :: r, h => by
    unfold wipe
    rw [List.getElem?_set_ne (fun e => h (by rw [e]; exact List.mem_cons_self))]
    exact wipe_out' fun z => h (List.mem_cons_of_mem _ z)
theorem wipe_in {σ : L2.St} {j : Nat} : ∀ {vs : List Nat}, j ∈ vs → (wipe σ vs)[j]? = if j < σ.length then some none else none
  | i :: r, h => by
    unfold wipe
    by_cases e : i = j
    · subst e
      by_cases hl : i < σ.length
      · rw [if_pos hl, List.getElem?_set_self (by rw [wipe_len]; exact hl)]
      · rw [if_neg hl, List.getElem?_eq_none (by rw [List.length_set, wipe_len]; omega)]
    · rw [List.getElem?_set_ne e]
      rcases List.mem_cons.mp h with z | z
      · exact absurd z.symm e
      · exact wipe_in z
theorem wipe_bt {σ σ' : L2.St} {vs is : List Nat} (h : Bt is (wipe σ vs) σ') (hs : ∀ i ∈ is, i ∈ vs) : wipe σ' vs = wipe σ vs := by
  have hl : σ'.length = σ.length := by rw [h.1, wipe_len]
  refine List.ext_getElem? fun j => ?_
  by_cases hj : j ∈ vs
  · rw [wipe_in hj, wipe_in hj, hl]
  · rw [wipe_out' hj, h.2 j (fun z => hj (hs j z))]
theorem ok_wipe {K : PySem.W.Frag} {G H : Hp} {σ : L2.St} {m : Ms} {as : List Addr} (ok : Ok K G H σ m as) (vs : List Nat) : Ok K G H (wipe σ vs) ⟨wipeE m.e vs, m.s⟩ as :=
  ⟨ok.same, ok.len, by show (wipeE m.e vs).length ≤ _; rw [wipeE_len, wipe_len]; exact ok.el, ok.nd, ok.alive, ok.out, fun i x h => by
    rcases wipeE_get h with z | ⟨z1, z2⟩
    · exact .inl z
    · rcases ok.sv i x z2 with w | ⟨v, w, r⟩
      · exact .inl w
      · exact .inr ⟨v, by rw [wipe_out' z1]; exact w, r⟩, ok.ce⟩
/-- the names again as they were ahead of the block -/
theorem ok_back {K : PySem.W.Frag} {G H G' H' : Hp} {σ σ' : L2.St} {m m' : Ms} {as as' : List Addr} (ok : Ok K G H σ m as) (ok' : Ok K G' H' σ' m' as') (st : Step G H m.s as G' H' m'.s as') : Ok K G' H' σ ⟨m.e, m'.s⟩ as' :=
  ⟨ok'.same, ok'.len, ok.el, ok'.nd, ok'.alive, ok'.out, fun i x h => (ok.sv i x h).mono st.g st.pre, ok'.ce⟩
/-- a test of a comprehension -/
def tsSem (X : Cx) (ifs : List Expr) : TT := fun σ H Q => ∃ (u : TT) (Q0 : Bool → Hp → Prop), PTs X ifs u ∧ u σ H Q0 ∧ ∀ b H', Q0 b H' → Q b H'
theorem pts_sem (X : Cx) (ifs : List Expr) : PTs X ifs (tsSem X ifs) := ⟨fun pins s σ H Q I ⟨_, _, h, q, k⟩ => thn (h.run pins s σ H _ I q) fun _ _ ⟨H', I', q'⟩ => ⟨H', I', k _ H' q'⟩⟩
theorem tsSem_mono {X : Cx} {ifs : List Expr} {σ : L2.St} {H : Hp} {Q Q' : Bool → Hp → Prop} (h : tsSem X ifs σ H Q) (k : ∀ b H', Q b H' → Q' b H') : tsSem X ifs σ H Q' := by
  obtain ⟨u, Q0, h1, h2, h3⟩ := h
  exact ⟨u, Q0, h1, h2, fun b H' q => k b H' (h3 b H' q)⟩
structure DTs (X : Cx) (ifs : List Expr) (t : T1) : Prop where
  run : ∀ (G H : Hp) (σ : L2.St) (m : Ms) (as : List Addr) (Q : Bool → Ms → Prop), Ok X.K G H σ m as → t m Q → tsSem X ifs σ H (fun b => On X.K σ G H m as (Q b))
def qYes : T1 := fun m Q => Q true m
theorem dts_nil {X : Cx} : DTs X [] qYes := ⟨fun G H σ m as Q ok q => ⟨tYes, fun b => On X.K σ G H m as (Q b), pts_nil, On.here ok q, fun _ _ h => h⟩⟩
theorem dts_one {X : Cx} {c : Expr} {t : T1} (h : DT X c t) : DTs X [c] t := ⟨fun G H σ m as Q ok q => ⟨_, _, pts_one (pt_sem X c), h.run G H σ m as Q ok q, fun _ _ h => h⟩⟩
/-- the list made so far stands in the cell n; what is made in a turn is let go behind it -/
def eLc (ti : I1) (g : G1) (tt : T1) (te : E1) (own : List Nat) : E1 := fun m Q => ti m fun xs cond m1 => ∃ Iv : Nat → List D → List Cell → Prop, Iv 0 [] m1.s ∧
  (∀ (i : Nat) (x : Sv) (acc : List D) (S : List Cell), xs[i]? = some x → Iv i acc S → S.length = m1.s.length → cond (S ++ [.ls (acc.map .d)]) ∧ g x ⟨wipeE m1.e own, S ++ [.ls (acc.map .d)]⟩ fun m3 => tt m3 fun b m4 => IfB b
      (te m4 fun y m5 => fzv y m5 fun d m6 => acc.length < sizeLine ∧ m6.s[m1.s.length]? = some (.ls (acc.map .d)) ∧ Iv (i + 1) (acc ++ [d]) ((m6.cut (m1.s.length + 1)).s.take m1.s.length))
    (m4.s[m1.s.length]? = some (.ls (acc.map .d)) ∧ Iv (i + 1) acc ((m4.cut (m1.s.length + 1)).s.take m1.s.length))) ∧
  ∀ acc S, Iv xs.length acc S → S.length = m1.s.length → cond (S ++ [.ls (acc.map .d)]) ∧ Q (.r m1.s.length) ⟨m1.e, S ++ [.ls (acc.map .d)]⟩
section
variable {X : Cx} {tg iter elt : Expr} {ifs : List Expr} {pos : Pos} {scope : Scope} {own : List (Str × Nat)} {ti : I1} {g : G1} {tt : T1} {te : E1} {is : List Nat}
theorem dm_take {c : Cell} {S : List Cell} {n : Nat} (hl : S.length = n + 1) (h : S[n]? = some c) : S = S.take n ++ [c] := by
  have e : S.drop n = [c] := by
    have h1 : (S.drop n).length = 1 := by rw [List.length_drop, hl]; omega
    match q : S.drop n with
    | [] => rw [q] at h1; cases h1
    | [y] =>
      have : (S.drop n)[0]? = some c := by rw [List.getElem?_drop]; simpa using h
      rw [q] at this
      simpa using this
    | _ :: _ :: _ => rw [q] at h1; simp at h1
  rw [← e, List.take_append_drop]
theorem cutv_allD {n : Nat} {S : List Cell} (acc : List D) : (acc.map Sv.d).map (cutv n S) = acc.map Sv.d := by
  rw [List.map_map]
  rfl
theorem cut_at {n : Nat} {m : Ms} {acc : List D} (h : m.s[n]? = some (.ls (acc.map .d))) : (m.cut (n + 1)).s[n]? = some (.ls (acc.map .d)) ∧ (m.cut (n + 1)).s.length = n + 1 := by
  have hl := (List.getElem?_eq_some_iff.mp h).1
  refine ⟨?_, ?_⟩
  · show ((m.s.take (n + 1)).map _)[n]? = _
    rw [List.getElem?_map, take_get h (Nat.lt_succ_self n)]
    show some (Cell.ls ((acc.map Sv.d).map (cutv (n + 1) m.s))) = _
    rw [cutv_allD]
  · show ((m.s.take (n + 1)).map _).length = _
    rw [List.length_map, List.length_take]
    omega
theorem lc_ok {Q : SK} {σ : L2.St} {G H : Hp} {m : Ms} {as : List Addr} (hi : DI X tg iter ti) (his : ∀ i ∈ is, i ∈ own.map (·.2)) {ι : Type} {Y : ι → Cx} (hY : ∀ y, (Y y).K = X.K)
    (hg : ∀ y, DG (Y y) tg is g) (ht : ∀ y, DTs (Y y) ifs tt) (he : ∀ y, DE (Y y) elt te) (ok : Ok X.K G H σ m as) (q : eLc ti g tt te (own.map (·.2)) m Q) :
    tLc (iSemT X tg iter) (fun v σ H Q => ∀ y, gSem (Y y) tg v σ H Q) (fun σ H Q => ∀ y, tsSem (Y y) ifs σ H Q) (fun σ H Q => ∀ y, tSem (Y y) elt σ H Q) (own.map (·.2)) σ H (OnV X.K σ G H m as Q) := by
  refine iSemT_mono (hi.run G H σ m as _ ok q) fun J H1 ⟨G1, m1, as1, xs, cond, st1, ok1, iv, Iv, w0, turn, fin⟩ => ?_
  intro D hD
  -- the new list is a cell
  have hn : as1.length = m1.s.length := ok1.len
  obtain ⟨okD, stD⟩ := ok1.alloc (o := .lst []) (c := .ls []) hD (.ls (vs := []) upd_same .nil)
  have hD1 : (as1 ++ [D])[m1.s.length]? = some D := snoc_get as1 D hn
  refine ⟨fun i k H' => k = xs.length - i ∧ i ≤ xs.length ∧ ∃ G2 σ2 m2 as2 acc S, Step G1 (upd H1 D (.lst [])) (m1.push (.ls [])).s (as1 ++ [D]) G2 H' m2.s as2 ∧ Ok X.K G2 H' σ2 m2 as2 ∧ m2.s = S ++ [.ls (acc.map .d)] ∧ S.length = m1.s.length ∧ Iv i acc S,
    ⟨xs.length, by simp, Nat.zero_le _, G1, σ, m1.push (.ls []), as1 ++ [D], [], m1.s, Step.refl .., okD, rfl, rfl, w0⟩, ?_⟩
  rintro i k H' ⟨rfl, hle, G2, σ2, m2, as2, acc, S, st2, ok2, es, hS, w2⟩
  have st12 := stD.trans st2
  -- the names as they are at each turn's start
  have ok2w : Ok X.K G2 H' (wipe σ (own.map (·.2))) ⟨wipeE m1.e (own.map (·.2)), m2.s⟩ as2 := ok_back (ok_wipe ok1 _) ok2 st12
  have hDa : as2[m1.s.length]? = some D := st2.pre _ _ hD1
  have hlen2 : as2.length = m1.s.length + 1 := by rw [ok2.len, es, List.length_append, hS]; rfl
  by_cases hlt : i < xs.length
  · have hx := List.getElem?_eq_getElem hlt
    rw [es] at ok2w
    obtain ⟨c2, t2⟩ := turn i xs[i] acc S hx w2 hS
    obtain ⟨g1, g2⟩ := iv.go i xs[i] G2 H' _ ⟨wipeE m1.e (own.map (·.2)), S ++ [.ls (acc.map .d)]⟩ as2 hx st12.g st12.pre ok2w c2
    refine .inr ⟨g1, fun H3 => ∃ G2 σ2 m2 as2 acc S, Step G1 (upd H1 D (.lst [])) (m1.push (.ls [])).s (as1 ++ [D]) G2 H3 m2.s as2 ∧ Ok X.K G2 H3 σ2 m2 as2 ∧ m2.s = S ++ [.ls (acc.map .d)] ∧ S.length = m1.s.length ∧ Iv (i + 1) acc S,
      fun H3 h3 => ⟨xs.length - (i + 1), by omega, rfl, hlt, h3⟩, fun v H3 hy => ?_⟩
    obtain ⟨G3, st3, ok3, sv⟩ := g2 v H3 hy
    have st2' : Step G1 (upd H1 D (.lst [])) (m1.push (.ls [])).s (as1 ++ [D]) G2 H' (S ++ [.ls (acc.map .d)]) as2 := by rw [← es]; exact st2
    have st23 := st2'.trans st3
    intro y1
    refine gSem_mono ((hg y1).run G3 H3 (wipe σ (own.map (·.2))) _ as2 v _ _ (by rw [hY]; exact ok3) (by rw [hY]; exact sv) t2) fun σ4 H4 ⟨bt, G4, m4, as4, st4, ok4, q4⟩ => ⟨wipe_bt bt his, ?_⟩
    have st24 := st23.trans st4
    rw [hY] at ok4
    intro y2
    refine tsSem_mono ((ht y2).run G4 H4 σ4 m4 as4 _ (by rw [hY]; exact ok4) q4) fun b H5 ⟨G5, m5, as5, st5, ok5, q5⟩ => ?_
    have st25 := st24.trans st5
    have fin1 : ∀ {G6 H6 : Hp} {m6 : Ms} {as6 : List Addr}, Step G1 (upd H1 D (.lst [])) (m1.push (.ls [])).s (as1 ++ [D]) G6 H6 m6.s as6 → as6[m1.s.length]? = some D := fun st => st.pre _ _ hD1
    have hle1 : (as1 ++ [D]).length ≤ m1.s.length + 1 := by rw [List.length_append, hn]; exact Nat.le_refl _
    cases b with
    | false =>
      refine iteF ?_
      obtain ⟨h1, h2⟩ : m5.s[m1.s.length]? = some (.ls (acc.map .d)) ∧ Iv (i + 1) acc ((m5.cut (m1.s.length + 1)).s.take m1.s.length) := IfB.ff q5
      obtain ⟨e1, e2⟩ := cut_at h1
      have e3 := dm_take e2 e1
      refine ⟨G5, σ4, m5.cut (m1.s.length + 1), as5.take (m1.s.length + 1), acc, _, st25.cut hle1, by rw [← hY y2]; exact ok5.cut _, e3, ?_, h2⟩
      rw [List.length_take, e2]
      omega
    | true =>
      refine iteT ?_
      have q6 : te m5 fun y m5 => fzv y m5 fun d m6 => acc.length < sizeLine ∧ m6.s[m1.s.length]? = some (.ls (acc.map .d)) ∧ Iv (i + 1) (acc ++ [d]) ((m6.cut (m1.s.length + 1)).s.take m1.s.length) := IfB.tt q5
      rw [hY] at ok5
      intro y3
      refine tSem_mono ((he y3).run G5 H5 σ4 m5 as5 _ (by rw [hY]; exact ok5) q6) fun y H6 ⟨G6, m6, as6, z, st6, ok6, sv6, q7⟩ => ?_
      obtain ⟨d, G7, m7, st7, ok7, rp, hz, h1, h2⟩ := fzv_ok ok6 sv6 q7
      have st27 := (st25.trans st6).trans st7
      have ok7 : Ok X.K G7 H6 σ4 m7 as6 := by rw [← hY y3]; exact ok7
      have rp : Rp X.K G7 y d := by rw [← hY y3]; exact rp
      have okc := ok7.cut (m1.s.length + 1)
      have stc := st27.cut (n := m1.s.length + 1) hle1
      obtain ⟨e1, e2⟩ := cut_at h1
      have hDc := fin1 stc
      have cr := okc.ce _ _ _ e1 hDc
      cases cr with
      | @ls vs _ hH sva =>
        have hvl : vs.length = acc.length := by rw [sva_len sva, List.length_map]
        refine ⟨vs, hH, by rw [hvl]; exact hz, ?_⟩
        obtain ⟨ok8, st8⟩ := okc.setc (o := .lst (vs ++ [y])) (c := .ls ((acc ++ [d]).map .d)) e1 rfl hDc (.ls upd_same (by
          rw [List.map_append]
          exact paired_app sva (.cons (.d rp) .nil)))
        refine ⟨G7, σ4, _, _, acc ++ [d], _, stc.trans st8, ok8, ?_, ?_, h2⟩
        · show (m7.cut (m1.s.length + 1)).s.set m1.s.length _ = _
          have e3 := dm_take e2 e1
          have hl : ((m7.cut (m1.s.length + 1)).s.take m1.s.length).length = m1.s.length := by rw [List.length_take, e2]; omega
          conv => lhs; rw [e3]
          rw [List.set_append_right _ _ (by rw [hl]; exact Nat.le_refl _), hl, Nat.sub_self]
          rfl
        · rw [List.length_take, e2]
          omega
  · have e : i = xs.length := by omega
    subst e
    obtain ⟨c2, q2⟩ := fin acc S w2 hS
    have okb := ok_back ok1 ok2 st12
    refine .inl ⟨iv.stop G2 H' σ2 m2 as2 st12.g st12.pre ok2 (by rw [es]; exact c2), ?_⟩
    rw [es] at okb st12
    exact ⟨G2, ⟨m1.e, S ++ [.ls (acc.map .d)]⟩, as2, _, st1.trans st12, okb, .r hDa, q2⟩
theorem de_lc (hc : X.calm = true) (hN : X.N.Nodup) (hi : DI X tg iter ti) (okb : BlkOk X.N X.env.scope scope own) (his : ∀ i ∈ is, i ∈ own.map (·.2))
    (hg : ∀ (s : Shared) (H : Hp) (C : Addr) (cl : List (Str × Addr)) (fp : List Addr), DG (X.blk s H scope (compEnvC scope cl C X.env) fp) tg is g)
    (ht : ∀ (s : Shared) (H : Hp) (C : Addr) (cl : List (Str × Addr)) (fp : List Addr), DTs (X.blk s H scope (compEnvC scope cl C X.env) fp) ifs tt)
    (he : ∀ (s : Shared) (H : Hp) (C : Addr) (cl : List (Str × Addr)) (fp : List Addr), DE (X.blk s H scope (compEnvC scope cl C X.env) fp) elt te)
    (hs : ∀ x, foldedSetIterable iter X.env x = pure x := by intro _; rfl) : DE X (.ListComp elt [⟨tg, iter, ifs, 0⟩] scope pos) (eLc ti g tt te (own.map (·.2))) := ⟨fun G H σ m as Q ok q pins s0 I => by
  let Y : Shared × Hp × Addr × List (Str × Addr) × List Addr → Cx := fun p => X.blk p.1 p.2.1 scope (compEnvC scope p.2.2.2.1 p.2.2.1 X.env) p.2.2.2.2
  refine tSem_of (pe_lc (g := fun v σ H Q => ∀ y, gSem (Y y) tg v σ H Q) (tt := fun σ H Q => ∀ y, tsSem (Y y) ifs σ H Q) (te := fun σ H Q => ∀ y, tSem (Y y) elt σ H Q) hc hN (pi_sem X tg iter) okb ?_ ?_ ?_ hs) ?_ pins s0 I
  · exact fun s H C cl fp => ⟨fun pins s' σ H' v u Q I r h => (pg_sem _ tg).run pins s' σ H' v u Q I r (h (s, H, C, cl, fp))⟩
  · exact fun s H C cl fp => ⟨fun pins s' σ H' Q I h => (pts_sem _ ifs).run pins s' σ H' Q I (h (s, H, C, cl, fp))⟩
  · exact fun s H C cl fp => ⟨fun pins s' σ H' Q I h => (pe_sem _ elt).run pins s' σ H' Q I (h (s, H, C, cl, fp))⟩
  · exact lc_ok hi his (Y := Y) (fun _ => rfl) (fun y => hg _ _ _ _ _) (fun y => ht _ _ _ _ _) (fun y => he _ _ _ _ _) ok q⟩
/-- name = [..] -/
theorem ds_setLc {i : Nat} {y : Str} {py spos : Pos} (hc : X.calm = true) (hN : X.N.Nodup) (hy : X.N[i]? = some y) (hyl : X.env.scope.names.lookup y = some .local)
    (hsw : swapsWith (.ListComp elt [⟨tg, iter, ifs, 0⟩] scope pos) (some (.Name y py)) spos.line X.env = pure true) (hi : DI X tg iter ti) (okb : BlkOk X.N X.env.scope scope own) (his : ∀ i ∈ is, i ∈ own.map (·.2))
    (hg : ∀ (s : Shared) (H : Hp) (C : Addr) (cl : List (Str × Addr)) (fp : List Addr), DG (X.blk s H scope (compEnvC scope cl C X.env) fp) tg is g)
    (ht : ∀ (s : Shared) (H : Hp) (C : Addr) (cl : List (Str × Addr)) (fp : List Addr), DTs (X.blk s H scope (compEnvC scope cl C X.env) fp) ifs tt)
    (he : ∀ (s : Shared) (H : Hp) (C : Addr) (cl : List (Str × Addr)) (fp : List Addr), DE (X.blk s H scope (compEnvC scope cl C X.env) fp) elt te)
    (hs : ∀ x, foldedSetIterable iter X.env x = pure x := by intro _; rfl) : DS X (.Assign [.Name y py] (.ListComp elt [⟨tg, iter, ifs, 0⟩] scope pos) spos) (sAsg (eLc ti g tt te (own.map (·.2))) (gN i)) := ⟨fun G H σ m as D ok q pins s0 I => by
  let Y : Shared × Hp × Addr × List (Str × Addr) × List Addr → Cx := fun p => X.blk p.1 p.2.1 scope (compEnvC scope p.2.2.2.1 p.2.2.1 X.env) p.2.2.2.2
  refine sSem_of (ps_setLc (g := fun v σ H Q => ∀ y, gSem (Y y) tg v σ H Q) (tt := fun σ H Q => ∀ y, tsSem (Y y) ifs σ H Q) (te := fun σ H Q => ∀ y, tSem (Y y) elt σ H Q) hc hN hy hyl hsw (pi_sem X tg iter) okb ?_ ?_ ?_ hs) ?_ pins s0 I
  · exact fun s H C cl fp => ⟨fun pins s' σ H' v u Q I r h => (pg_sem _ tg).run pins s' σ H' v u Q I r (h (s, H, C, cl, fp))⟩
  · exact fun s H C cl fp => ⟨fun pins s' σ H' Q I h => (pts_sem _ ifs).run pins s' σ H' Q I (h (s, H, C, cl, fp))⟩
  · exact fun s H C cl fp => ⟨fun pins s' σ H' Q I h => (pe_sem _ elt).run pins s' σ H' Q I (h (s, H, C, cl, fp))⟩
  · have h := lc_ok hi his (Y := Y) (fun _ => rfl) (fun y => hg _ _ _ _ _) (fun y => ht _ _ _ _ _) (fun y => he _ _ _ _ _) ok q
    refine iSemT_mono h fun J H1 h1 Dl hD => ?_
    obtain ⟨W, w0, t⟩ := h1 Dl hD
    refine ⟨W, w0, fun i' k H' w => ?_⟩
    rcases t i' k H' w with ⟨h2, G2, m2, as2, x, st, ok2, sv, q2⟩ | h2
    · exact .inl ⟨h2, G2, m2.setE i x, as2, st, ok2.slot sv, q2⟩
    · exact .inr h2⟩
end
end Sy
set_option Elab.async false
namespace Sy
open PySem PySem.Spec PyProof.Rows L2
/-! ### a def's promise -/
abbrev SC := Sv → List Cell → Prop
abbrev Con := List Sv → List Cell → SC → Prop
def spD (K : PySem.W.Frag) (C : Con) : Sp := fun vs H Q _ => ∃ G as xs S Qc, Ok K G H (vs.map some) ⟨xs, S⟩ as ∧ xs.length = vs.length ∧ C xs S Qc ∧
  ∀ v H' G' as' r S', Step G H S as G' H' S' as' → Ok K G' H' [some v] ⟨[r], S'⟩ as' → Qc r S' → Q v H'
/-- what is handed back: cells of the callers', data, or one new cell -/
def retC (n : Nat) (S : List Cell) (c : Cell) (S' : List Cell) (Q : SC) : Prop := match c with
  | .fz d => Q (.d d) S'
  | .ls xs => Q (.r n) (S' ++ [cutc n S (.ls xs)])
  | .tp xs => Q (.r n) (S' ++ [cutc n S (.tp xs)])
  | .di xs => Q (.r n) (S' ++ [cutc n S (.di xs)])
  | .ob C xs => Q (.r n) (S' ++ [cutc n S (.ob C xs)])
  | _ => False
def retD (n : Nat) (r : Sv) (m : Ms) (Q : SC) : Prop := match r with
  | .no => False
  | .d d => Q (.d d) (m.cut n).s
  | .r k => if k < n then Q (.r k) (m.cut n).s else one? (m.s[k]?) fun c => retC n m.s c (m.cut n).s Q
section
variable {K : PySem.W.Frag} {σ : L2.St} {G H G0 H0 : Hp} {m : Ms} {as as0 : List Addr} {S0 : List Cell} {v : V} {r : Sv}
theorem ok_only (ok : Ok K G H σ m as) (h : SvR K G as v r) : Ok K G H [some v] ⟨[r], m.s⟩ as :=
  ⟨ok.same, ok.len, Nat.le_refl _, ok.nd, ok.alive, ok.out, fun i x e => by
    cases i with
    | zero => cases e; exact .inr ⟨v, rfl, h⟩
    | succ i => (cases e), ok.ce⟩
theorem one_get {α : Type} {x y : α} {i : Nat} (e : [x][i]? = some y) : i = 0 ∧ y = x := by
  cases i with
  | zero => cases e; exact ⟨rfl, rfl⟩
  | succ i => cases e
theorem ret_ok {Q : SC} (ok : Ok K G H σ m as) (st : Step G0 H0 S0 as0 G H m.s as) (h : SvR K G as v r) (q : retD as0.length r m Q) :
    ∃ r' S' as', Step G0 H0 S0 as0 G H S' as' ∧ Ok K G H [some v] ⟨[r'], S'⟩ as' ∧ Q r' S' := by
  have st' := (Step.cut (m0 := ⟨[], S0⟩) st (Nat.le_refl as0.length))
  have ok' := ok.cut as0.length
  cases r with
  | no => exact q.elim
  | d d => exact ⟨_, _, _, st', ok_only ok' (.d (svd h)), q⟩
  | r k =>
    obtain ⟨a, ha, rfl⟩ := svr h
    have q : if k < as0.length then Q (.r k) (m.cut as0.length).s else one? (m.s[k]?) fun c => retC as0.length m.s c (m.cut as0.length).s Q := q
    by_cases hk : k < as0.length
    · rw [if_pos hk] at q
      exact ⟨_, _, _, st', ok_only ok' (.r (take_get ha hk)), q⟩
    · rw [if_neg hk] at q
      obtain ⟨c, hc, q1⟩ := one_cases q
      have cr := ok.ce k c a hc ha
      have hn : (as.take as0.length).length = as0.length := by
        have := (List.getElem?_eq_some_iff.mp ha).1
        rw [List.length_take]; omega
      have pr : Pre (as.take as0.length) (as.take as0.length ++ [a]) := pre_snoc _ a
      have hlS : (m.cut as0.length).s.length = as0.length := by rw [← ok'.len]; exact hn
      -- the new cell as it is handed on
      have fin : c.live = true → CellR K G H (as.take as0.length) a (cutc as0.length m.s c) → Q (.r as0.length) ((m.cut as0.length).s ++ [cutc as0.length m.s c]) →
          ∃ r' S' as', Step G0 H0 S0 as0 G H S' as' ∧ Ok K G H [some (.ref a)] ⟨[r'], S'⟩ as' ∧ Q r' S' := fun hl hcr q2 => by
        refine ⟨_, _, as.take as0.length ++ [a], ⟨st'.g, st'.dom, st'.fr, st'.pre.trans pr, fun j b h1 h2 => ?_, fun j c' h1 h2 h3 => ?_, st'.gd⟩,
          ⟨ok'.same, ?_, Nat.le_refl _, fun i j b h1 h2 => ?_, fun j b h1 => ?_, fun b h1 => ?_, fun i x e => ?_, fun j c' b h1 h2 => ?_⟩, q2⟩
        · rcases get_snoc h1 with h1 | ⟨_, e⟩
          · exact st'.new j b h1 h2
          · rw [e]; exact st.new k a ha (by omega)
        · rcases get_snoc h1 with h1 | ⟨e, _⟩
          · exact st'.liv j c' h1 h2 h3
          · omega
        · show (as.take as0.length ++ [a]).length = ((m.cut as0.length).s ++ [_]).length
          rw [List.length_append, List.length_append, hn, hlS]
          rfl
        · rcases get_snoc h1 with h1 | ⟨e1, e2⟩ <;> rcases get_snoc h2 with h2 | ⟨e3, e4⟩
          · exact ok'.nd i j b h1 h2
          · have := ok.nd i k b (of_take h1).2 (by rw [e4]; exact ha)
            have := (of_take h1).1
            omega
          · have := ok.nd j k b (of_take h2).2 (by rw [e2]; exact ha)
            have := (of_take h2).1
            omega
          · omega
        · rcases get_snoc h1 with h1 | ⟨_, e⟩
          · exact ok'.alive j b h1
          · rw [e]; exact ok.alive k a ha
        · obtain ⟨j, c', h2, h3, h4⟩ := h1
          rcases get_snoc h3 with h3 | ⟨_, e⟩
          · rcases get_snoc (show ((m.cut as0.length).s ++ [_])[j]? = some c' from h2) with h2 | ⟨ej, _⟩
            · exact ok'.out b ⟨j, c', h2, h3, h4⟩
            · have := (of_take h3).1
              omega
          · rw [e]; exact ok.out a ⟨k, c, hc, ha, hl⟩
        · obtain ⟨rfl, rfl⟩ := one_get e
          exact .inr ⟨_, rfl, .r (snoc_get _ a hn)⟩
        · rcases get_snoc (show ((m.cut as0.length).s ++ [_])[j]? = some c' from h1) with h1 | ⟨ej, e⟩
          · rcases get_snoc h2 with h2 | ⟨e2, _⟩
            · exact (ok'.ce j c' b h1 h2).mono (Same.refl G) (fun _ z => z) pr
            · have := (List.getElem?_eq_some_iff.mp h1).1
              omega
          · rcases get_snoc h2 with h2 | ⟨_, e2⟩
            · have := (of_take h2).1
              omega
            · rw [e2, e]; exact hcr.mono (Same.refl G) (fun _ z => z) pr
      cases cr with
      | gone => exact q1.elim
      | fz z => exact ⟨_, _, _, st', ok_only ok' (.d z), q1⟩
      | ls z t => exact fin rfl (.ls z (paired_map (fun _ _ r => cutv_ok ok r) t)) q1
      | tp z t => exact fin rfl (.tp z (paired_map (fun _ _ r => cutv_ok ok r) t)) q1
      | di z t => exact fin rfl (.di z (paired_map (fun _ _ r => ⟨r.1, cutv_ok ok r.2⟩) t)) q1
      | ob z t => exact fin rfl (.ob z (paired_map (fun _ _ r => ⟨r.1, cutv_ok ok r.2⟩) t)) q1
      | dl _ _ _ _ _ => exact q1.elim
      | hid _ _ => exact q1.elim
end
/-- the names of a def at its begin -/
def begE (n : Nat) (xs : List Sv) : List Sv := xs ++ List.replicate (n - xs.length) .no
section
variable {P : Program} {w : World} {K : PySem.W.Frag} {mg : Str → Option Value} {base : Heap}
/-- what is known of the context of a def's body -/
structure Bx (P : Program) (w : World) (K : PySem.W.Frag) (mg : Str → Option Value) (base : Heap) (k : Nat) (N : List Str) (sc : Scope) (qual : Str) (X : Cx) : Prop where
  ex : ∃ (f : Addr) (cdv : Value) (A : Around) (outer : List Env) (s : Shared) (H : Hp) (E : XK), X = (cxOf CX0 P w K mg base N qual sc f cdv A outer s H E).nox ∧ Room k (A.deeper (envOfC qual sc s.heap.objs.size f cdv))
theorem fnD {x qual : Str} {st : Stmt} {f : Addr} {fd : FuncData} {N ps : List Str} {k : Nat} {C : Con} (F : Fun K x qual st f fd) (Sc : FnScope N ps (defScope st)) (hC : ∀ xs S Q, C xs S Q → xs.length = ps.length)
    (hbody : ∀ (cdv : Value) (A : Around) (outer : List Env) (s : Shared) (H : Hp) (E : XK), Room k (A.deeper (envOfC qual (defScope st) s.heap.objs.size f cdv)) → ∀ xs S Q, C xs S Q →
      ∃ t, DB (cxOf CX0 P w K mg base N qual (defScope st) f cdv A outer s H E).nox (defBody st) t ∧ t { nx := fun m => retD S.length (.d .non) m Q, rt := fun r m => retD S.length r m Q } ⟨begE N.length xs, S⟩) :
    FnOk P w K mg base CX0 (k + 1) f fd ps (spD K C) := by
  refine F.ok Sc (fun vs H Q E h => ?_) (fun cdv A outer s H vs Q E hr h => ?_)
  · obtain ⟨G, as, xs, S, Qc, ok, hl, hc, _⟩ := h
    rw [← hl]; exact hC xs S Qc hc
  · obtain ⟨G, as, xs, S, Qc, ok, hl, hc, fin⟩ := h
    obtain ⟨t, ht, q⟩ := hbody cdv A outer s H E hr xs S Qc hc
    refine ⟨_, pss_sem _ _, ?_⟩
    have hpl : ps.length ≤ N.length := by have := congrArg List.length Sc.pre; rw [List.length_take] at this; omega
    have hxl : xs.length = ps.length := hC xs S Qc hc
    have ok0 : Ok K G H (start N vs) ⟨begE N.length xs, S⟩ as := by
      refine ⟨ok.same, ok.len, ?_, ok.nd, ok.alive, ok.out, fun i x e => ?_, ok.ce⟩
      · show (xs ++ List.replicate (N.length - xs.length) Sv.no).length ≤ (vs.map some ++ List.replicate (N.length - vs.length) none).length
        rw [List.length_append, List.length_append, List.length_replicate, List.length_replicate, List.length_map, hl]
        exact Nat.le_refl _
      · have e : (xs ++ List.replicate (N.length - xs.length) Sv.no)[i]? = some x := e
        by_cases hi : i < xs.length
        · rw [List.getElem?_append_left hi] at e
          rcases ok.sv i x e with z | ⟨v, z, r⟩
          · exact .inl z
          · refine .inr ⟨v, ?_, r⟩
            show (vs.map some ++ _)[i]? = _
            rw [List.getElem?_append_left (by rw [List.length_map, ← hl]; exact hi)]
            exact z
        · rw [List.getElem?_append_right (by omega), List.getElem?_replicate] at e
          split at e
          · cases e; exact .inl rfl
          · cases e
    have hS : S.length = as.length := ok.len.symm
    have back : ∀ v H', (∃ σ', OnV K σ' G H ⟨begE N.length xs, S⟩ as (fun r m => retD S.length r m Qc) v H') → Q v H' := fun v H' ⟨σ', G', m', as', r, st, ok', sv, q'⟩ => by
      rw [hS] at q'
      obtain ⟨r', S', as2, st2, ok2, q2⟩ := ret_ok ok' st sv q'
      exact fin v H' G' as2 r' S' st2 ok2 q2
    refine bSem_mono (ht.run G H _ _ as _ ok0 q) (fun σ' H' ⟨G', m', as', st, ok', q'⟩ => ?_) back (fun _ _ ⟨_, _, _, _, _, z⟩ => z.elim) (fun _ _ ⟨_, _, _, _, _, z⟩ => z.elim)
    exact back .non H' ⟨σ', G', m', as', .d .non, st, ok', .d .non, q'⟩
end
/-! ### calls -/
/-- arguments stand still where so told -/
def fzAll : List Bool → List Sv → Ms → (List Sv → Ms → Prop) → Prop
  | true :: bs, x :: xs, m, Q => fzv x m fun d m1 => fzAll bs xs m1 fun ys m2 => Q (.d d :: ys) m2
  | false :: bs, x :: xs, m, Q => fzAll bs xs m fun ys m2 => Q (x :: ys) m2
  | _, xs, m, Q => Q xs m
section
variable {K : PySem.W.Frag} {σ : L2.St} {H : Hp} {as : List Addr}
theorem fzAll_ok : ∀ {bs : List Bool} {xs : List Sv} {vs : List V} {G : Hp} {m : Ms} {Q : List Sv → Ms → Prop}, Ok K G H σ m as → SvA K G as vs xs → fzAll bs xs m Q → ∃ ys G' m', Step G H m.s as G' H m'.s as ∧ Ok K G' H σ m' as ∧ SvA K G' as vs ys ∧ Q ys m'
  | [], xs, vs, G, m, Q, ok, r, q => ⟨xs, G, m, Step.refl .., ok, r, by cases xs <;> exact q⟩
  | true :: bs, [], vs, G, m, Q, ok, r, q => ⟨[], G, m, Step.refl .., ok, r, q⟩
  | false :: bs, [], vs, G, m, Q, ok, r, q => ⟨[], G, m, Step.refl .., ok, r, q⟩
  | true :: bs, x :: xs, _, G, m, Q, ok, .cons r1 r2, q => by
    obtain ⟨d, G1, m1, st1, ok1, rp, q1⟩ := fzv_ok ok r1 q
    obtain ⟨ys, G2, m2, st2, ok2, r3, q2⟩ := fzAll_ok ok1 (SvA.mono st1.g st1.pre r2) q1
    exact ⟨_, G2, m2, st1.trans st2, ok2, .cons (.d (rp.mono st2.g)) r3, q2⟩
  | false :: bs, x :: xs, _, G, m, Q, ok, .cons r1 r2, q => by
    obtain ⟨ys, G2, m2, st2, ok2, r3, q2⟩ := fzAll_ok (bs := bs) ok r2 q
    exact ⟨_, G2, m2, st2, ok2, .cons (r1.mono st2.g st2.pre) r3, q2⟩
end
/-- where j stands in js -/
def ixOf : List Nat → Nat → Option Nat
  | [], _ => none
  | i :: r, j => if i = j then some 0 else (ixOf r j).map (· + 1)
theorem ixOf_get : ∀ {js : List Nat} {j i : Nat}, ixOf js j = some i → js[i]? = some j
  | [], _, _, h => by cases h
  | k :: r, j, i, h => by
    unfold ixOf at h
    by_cases e : k = j
    · rw [if_pos e] at h; cases h; rw [e]; rfl
    · rw [if_neg e] at h
      obtain ⟨i', h1, rfl⟩ := Option.map_eq_some_iff.mp h
      show r[i']? = some j
      exact ixOf_get h1
/-- as a callee sees it, to whom the cells js are lent -/
def lendv (js : List Nat) : Sv → Sv
  | .no => .no
  | .d x => .d x
  | .r k => match ixOf js k with
    | some i => .r i
    | none => .no
def lendc (js : List Nat) : Cell → Cell
  | .gone => .gone
  | .fz d => .fz d
  | .ls xs => .ls (xs.map (lendv js))
  | .tp xs => .tp (xs.map (lendv js))
  | .di xs => .di (xs.map fun p => (p.1, lendv js p.2))
  | .ob C xs => .ob C (xs.map fun p => (p.1, lendv js p.2))
  | .dl j => match ixOf js j with
    | some i => .dl i
    | none => .gone
  | .hid => .hid
/-- and back: a callee's new cells stand behind the n of the caller's -/
def backk (js : List Nat) (n k : Nat) : Nat := match js[k]? with
  | some j => j
  | none => n + (k - js.length)
def backv (js : List Nat) (n : Nat) : Sv → Sv
  | .no => .no
  | .d x => .d x
  | .r k => .r (backk js n k)
def backc (js : List Nat) (n : Nat) : Cell → Cell
  | .gone => .gone
  | .fz d => .fz d
  | .ls xs => .ls (xs.map (backv js n))
  | .tp xs => .tp (xs.map (backv js n))
  | .di xs => .di (xs.map fun p => (p.1, backv js n p.2))
  | .ob C xs => .ob C (xs.map fun p => (p.1, backv js n p.2))
  | .dl j => .dl (backk js n j)
  | .hid => .hid
def putL : List Nat → List Cell → List Cell → List Cell
  | j :: js, S, c :: cs => putL js (S.set j c) cs
  | _, S, _ => S
def mergeS (js : List Nat) (S S' : List Cell) : List Cell := putL js S ((S'.take js.length).map (backc js S.length)) ++ (S'.drop js.length).map (backc js S.length)
theorem putL_len : ∀ {js : List Nat} {S cs : List Cell}, (putL js S cs).length = S.length
  | [], S, cs => by unfold putL; rfl
  | _ :: _, S, [] => by unfold putL; rfl
  | j :: js, S, c :: cs => by unfold putL; rw [putL_len, List.length_set]
theorem putL_out : ∀ {js : List Nat} {S cs : List Cell} {k : Nat}, k ∉ js → (putL js S cs)[k]? = S[k]?
  | [], S, cs, k, _ => by unfold putL; rfl
  | _ :: _, S, [], k, _ => by unfold putL; rfl
  | j :: js, S, c :: cs, k, h => by
    unfold putL
    rw [putL_out (fun z => h (List.mem_cons_of_mem _ z)), List.getElem?_set_ne (fun e => h (by rw [e]; exact List.mem_cons_self))]
theorem putL_in : ∀ {js : List Nat} {S cs : List Cell} {i k : Nat} {c : Cell}, js.Nodup → (∀ j ∈ js, j < S.length) → js[i]? = some k → cs[i]? = some c → (putL js S cs)[k]? = some c
  | [], S, cs, i, k, c, _, _, h, _ => by cases h
  | j :: js, S, [], i, k, c, _, _, h, h' => by cases h'
  | j :: js, S, c0 :: cs, 0, k, c, nd, hl, h, h' => by
    cases h; cases h'
    unfold putL
    rw [putL_out (List.nodup_cons.mp nd).1, List.getElem?_set_self (hl j List.mem_cons_self)]
  | j :: js, S, c0 :: cs, i + 1, k, c, nd, hl, h, h' => by
    unfold putL
    exact putL_in (List.nodup_cons.mp nd).2 (fun j' hj => by rw [List.length_set]; exact hl j' (List.mem_cons_of_mem _ hj)) h h'
/-- the cells that are reached from values, some steps deep -/
def svRefs : List Sv → List Nat
  | [] => []
  | .r k :: r => k :: svRefs r
  | _ :: r => svRefs r
def kids : Cell → List Nat
  | .ls xs => svRefs xs
  | .tp xs => svRefs xs
  | .di xs => svRefs (xs.map (·.2))
  | .ob _ xs => svRefs (xs.map (·.2))
  | .dl j => [j]
  | _ => []
def addN (js : List Nat) (k : Nat) : List Nat := if js.contains k then js else js ++ [k]
def reachS : Nat → List Cell → List Nat → List Nat
  | 0, _, js => js
  | n + 1, S, js => reachS n S ((js.flatMap fun k => kids (S.getD k .gone)).foldl addN js)
def loans (S : List Cell) (xs : List Sv) : List Nat := reachS 3 S ((svRefs xs).foldl addN [])
def eCall (C : Con) (bs : List Bool) (ta : A1) : E1 := fun m Q => ta m fun xs m1 => fzAll bs xs m1 fun ys m2 =>
  let js := loans m2.s ys
  js.Nodup ∧ (∀ j ∈ js, j < m2.s.length) ∧ C (ys.map (lendv js)) (js.map fun j => lendc js (m2.s.getD j .gone)) fun r S' => Q (backv js m2.s.length r) ⟨m2.e, mergeS js m2.s S'⟩
section
variable {K : PySem.W.Frag} {σ : L2.St} {G H G' H' : Hp} {m : Ms} {as as' : List Addr} {js : List Nat} {v : V} {r : Sv} {S' : List Cell}
def lendA (as : List Addr) (js : List Nat) : List Addr := js.map fun j => as.getD j 0
theorem lendA_get {i : Nat} {a : Addr} (hl : ∀ j ∈ js, j < as.length) (h : (lendA as js)[i]? = some a) : ∃ j, js[i]? = some j ∧ as[j]? = some a := by
  unfold lendA at h
  rw [List.getElem?_map] at h
  obtain ⟨j, h1, h2⟩ := Option.map_eq_some_iff.mp h
  have hj := hl j (List.mem_of_getElem? h1)
  refine ⟨j, h1, ?_⟩
  rw [List.getD_eq_getElem?_getD, List.getElem?_eq_getElem hj] at h2
  rw [List.getElem?_eq_getElem hj, ← h2]
  rfl
theorem lendA_of {i j : Nat} {a : Addr} (h1 : js[i]? = some j) (h2 : as[j]? = some a) : (lendA as js)[i]? = some a := by
  unfold lendA
  rw [List.getElem?_map, h1]
  show some (as.getD j 0) = _
  rw [List.getD_eq_getElem?_getD, h2]
  rfl
theorem lendv_ok {x : Sv} (h : SvR K G as v x) : SvR K G (lendA as js) v (lendv js x) := by
  cases h with
  | no => exact .no _
  | d h => exact .d h
  | @r a k h =>
    unfold lendv
    dsimp only
    cases e : ixOf js k with
    | none => exact .no _
    | some i => exact .r (lendA_of (ixOf_get e) h)
theorem nodup_get {α : Type} {l : List α} (hN : l.Nodup) {i j : Nat} {x : α} (a : l[i]? = some x) (b : l[j]? = some x) : i = j := by
  obtain ⟨h1, e1⟩ := List.getElem?_eq_some_iff.mp a
  obtain ⟨h2, e2⟩ := List.getElem?_eq_some_iff.mp b
  exact (List.getElem_inj hN).mp (e1.trans e2.symm)
theorem lendC_get {S : List Cell} {i : Nat} {c : Cell} (h : (js.map fun j => lendc js (S.getD j .gone))[i]? = some c) : ∃ j, js[i]? = some j ∧ c = lendc js (S.getD j .gone) := by
  rw [List.getElem?_map] at h
  obtain ⟨j, h1, h2⟩ := Option.map_eq_some_iff.mp h
  exact ⟨j, h1, h2.symm⟩
theorem lendc_live {c : Cell} (h : (lendc js c).live = true) : c.live = true := by
  cases c <;> first | rfl | exact h
theorem getD_some {S : List Cell} {j : Nat} (hj : j < S.length) : S[j]? = some (S.getD j .gone) := by
  rw [List.getD_eq_getElem?_getD, List.getElem?_eq_getElem hj]
  rfl
theorem lend_ok {vs : List V} {ys : List Sv} (ok : Ok K G H σ m as) (nd : js.Nodup) (hl : ∀ j ∈ js, j < m.s.length) (h : SvA K G as vs ys) :
    Ok K G H (vs.map some) ⟨ys.map (lendv js), js.map fun j => lendc js (m.s.getD j .gone)⟩ (lendA as js) := by
  have hl' : ∀ j ∈ js, j < as.length := fun j hj => by rw [ok.len]; exact hl j hj
  refine ⟨ok.same, by unfold lendA; rw [List.length_map]; show _ = (js.map _).length; rw [List.length_map], by show (ys.map _).length ≤ (vs.map _).length; rw [List.length_map, List.length_map, sva_len h]; exact Nat.le_refl _, fun i j a h1 h2 => ?_, fun k a h1 => ?_, fun a h1 => ?_, fun i x e => ?_, fun k c a h1 h2 => ?_⟩
  · obtain ⟨j1, e1, f1⟩ := lendA_get hl' h1
    obtain ⟨j2, e2, f2⟩ := lendA_get hl' h2
    have := ok.nd j1 j2 a f1 f2
    subst this
    exact nodup_get nd e1 e2
  · obtain ⟨j1, e1, f1⟩ := lendA_get hl' h1
    exact ok.alive j1 a f1
  · obtain ⟨k, c, h2, h3, h4⟩ := h1
    obtain ⟨j1, e1, f1⟩ := lendA_get hl' h3
    obtain ⟨j2, e2, rfl⟩ := lendC_get h2
    rw [e1] at e2; cases e2
    exact ok.out a ⟨j1, _, getD_some (hl j1 (List.mem_of_getElem? e1)), f1, lendc_live h4⟩
  · have e : (ys.map (lendv js))[i]? = some x := e
    rw [List.getElem?_map] at e
    obtain ⟨y, e1, rfl⟩ := Option.map_eq_some_iff.mp e
    obtain ⟨v, e2, r⟩ := sva_get h e1
    exact .inr ⟨v, by rw [List.getElem?_map, e2]; rfl, lendv_ok r⟩
  · obtain ⟨j1, e1, f1⟩ := lendA_get hl' h2
    obtain ⟨j2, e2, rfl⟩ := lendC_get h1
    rw [e1] at e2; cases e2
    have q := ok.ce j1 _ a (getD_some (hl j1 (List.mem_of_getElem? e1))) f1
    revert q
    generalize m.s.getD j1 .gone = c
    intro q
    cases q with
    | gone => exact .gone
    | fz q => exact .fz q
    | ls q t => exact .ls q (paired_map (fun _ _ r => lendv_ok r) t)
    | tp q t => exact .tp q (paired_map (fun _ _ r => lendv_ok r) t)
    | di q t => exact .di q (paired_map (fun _ _ r => ⟨r.1, lendv_ok r.2⟩) t)
    | ob q t => exact .ob q (paired_map (fun _ _ r => ⟨r.1, lendv_ok r.2⟩) t)
    | @dl j l sd nm q1 q2 q3 q4 q5 =>
      unfold lendc
      dsimp only
      cases e : ixOf js j with
      | none => exact .gone
      | some i => exact .dl (lendA_of (ixOf_get e) q1) q2 q3 q4 q5
    | hid q t => exact .hid q t
/-- the caller's addresses behind the call -/
def backA (as as' : List Addr) (js : List Nat) : List Addr := as ++ as'.drop js.length
theorem backA_get (hn : as.length = m.s.length) (hl : ∀ j ∈ js, j < as.length) (pr : Pre (lendA as js) as') {k : Nat} {a : Addr} (h : as'[k]? = some a) : (backA as as' js)[backk js m.s.length k]? = some a := by
  unfold backk backA
  cases e : js[k]? with
  | some j =>
    dsimp only
    have hj := hl j (List.mem_of_getElem? e)
    have h1 := pr k _ (lendA_of e (List.getElem?_eq_getElem hj))
    rw [h] at h1
    rw [List.getElem?_append_left hj, List.getElem?_eq_getElem hj, ← Option.some.inj h1]
  | none =>
    dsimp only
    have hk := List.getElem?_eq_none_iff.mp e
    rw [← hn, List.getElem?_append_right (Nat.le_add_right _ _), Nat.add_sub_cancel_left, List.getElem?_drop, Nat.add_sub_cancel' hk]
    exact h
theorem backv_ok (hn : as.length = m.s.length) (hl : ∀ j ∈ js, j < as.length) (pr : Pre (lendA as js) as') {x : Sv} (h : SvR K G' as' v x) : SvR K G' (backA as as' js) v (backv js m.s.length x) := by
  cases h with
  | no => exact .no _
  | d h => exact .d h
  | r h => exact .r (backA_get hn hl pr h)
theorem backc_ok (hn : as.length = m.s.length) (hl : ∀ j ∈ js, j < as.length) (pr : Pre (lendA as js) as') {a : Addr} {c : Cell} (q : CellR K G' H' as' a c) : CellR K G' H' (backA as as' js) a (backc js m.s.length c) := by
  cases q with
  | gone => exact .gone
  | fz q => exact .fz q
  | ls q t => exact .ls q (paired_map (fun _ _ r => backv_ok hn hl pr r) t)
  | tp q t => exact .tp q (paired_map (fun _ _ r => backv_ok hn hl pr r) t)
  | di q t => exact .di q (paired_map (fun _ _ r => ⟨r.1, backv_ok hn hl pr r.2⟩) t)
  | ob q t => exact .ob q (paired_map (fun _ _ r => ⟨r.1, backv_ok hn hl pr r.2⟩) t)
  | dl q1 q2 q3 q4 q5 => exact .dl (backA_get hn hl pr q1) q2 q3 q4 q5
  | hid q t => exact .hid q t
theorem backc_live {n : Nat} {c : Cell} (h : (backc js n c).live = true) : c.live = true := by
  cases c <;> first | rfl | exact h
/-- where a cell behind the call comes from -/
theorem merge_get {S : List Cell} (nd : js.Nodup) (hl : ∀ j ∈ js, j < S.length) (hS : js.length ≤ S'.length) {k : Nat} {c : Cell} (h : (mergeS js S S')[k]? = some c) :
    (k < S.length ∧ k ∉ js ∧ S[k]? = some c) ∨ (∃ i c', S'[i]? = some c' ∧ c = backc js S.length c' ∧ backk js S.length i = k) := by
  unfold mergeS at h
  by_cases hk : k < S.length
  · rw [List.getElem?_append_left (by rw [putL_len]; exact hk)] at h
    by_cases hj : k ∈ js
    · obtain ⟨i, hi⟩ := List.getElem?_of_mem hj
      have hil := (List.getElem?_eq_some_iff.mp hi).1
      have hc : ((S'.take js.length).map (backc js S.length))[i]? = some (backc js S.length S'[i]) := by
        rw [List.getElem?_map, List.getElem?_take_of_lt hil, List.getElem?_eq_getElem (by omega)]
        rfl
      rw [putL_in nd hl hi hc] at h
      refine .inr ⟨i, S'[i], List.getElem?_eq_getElem (by omega), (Option.some.inj h).symm, ?_⟩
      unfold backk
      rw [hi]
    · rw [putL_out hj] at h
      exact .inl ⟨hk, hj, h⟩
  · rw [List.getElem?_append_right (by rw [putL_len]; omega), putL_len, List.getElem?_map, List.getElem?_drop] at h
    obtain ⟨c', h1, h2⟩ := Option.map_eq_some_iff.mp h
    refine .inr ⟨js.length + (k - S.length), c', h1, h2.symm, ?_⟩
    unfold backk
    rw [List.getElem?_eq_none (by omega)]
    dsimp only
    omega
theorem backk_lt {n i k : Nat} (h : backk js n i = k) (hk : k < n) : js[i]? = some k := by
  unfold backk at h
  cases e : js[i]? with
  | some j => rw [e] at h; dsimp only at h; rw [h]
  | none => rw [e] at h; dsimp only at h; omega
theorem back_ok (ok : Ok K G H σ m as) (nd : js.Nodup) (hl : ∀ j ∈ js, j < m.s.length) (st : Step G H (js.map fun j => lendc js (m.s.getD j .gone)) (lendA as js) G' H' S' as') (ok' : Ok K G' H' [some v] ⟨[r], S'⟩ as') :
    Step G H m.s as G' H' (mergeS js m.s S') (backA as as' js) ∧ Ok K G' H' σ ⟨m.e, mergeS js m.s S'⟩ (backA as as' js) ∧ SvR K G' (backA as as' js) v (backv js m.s.length r) := by
  have hn : as.length = m.s.length := ok.len
  have hl' : ∀ j ∈ js, j < as.length := fun j hj => by rw [hn]; exact hl j hj
  have hn' : as'.length = S'.length := ok'.len
  have hA : (lendA as js).length = js.length := by unfold lendA; rw [List.length_map]
  have hjs : js.length ≤ as'.length := by
    refine Nat.le_of_not_lt fun q => ?_
    have e := st.pre as'.length ((lendA as js)[as'.length]'(by rw [hA]; exact q)) (List.getElem?_eq_getElem _)
    have := (List.getElem?_eq_some_iff.mp e).1
    omega
  have hS : js.length ≤ S'.length := by rw [← hn']; exact hjs
  have prA : Pre as (backA as as' js) := fun k a h => by
    unfold backA
    rw [List.getElem?_append_left (List.getElem?_eq_some_iff.mp h).1]
    exact h
  have atLt : ∀ {k : Nat} {a : Addr}, (backA as as' js)[k]? = some a → k < as.length → as[k]? = some a := fun {k a} h hk => by
    unfold backA at h
    rw [List.getElem?_append_left hk] at h
    exact h
  have atGe : ∀ {k : Nat} {a : Addr}, (backA as as' js)[k]? = some a → as.length ≤ k → as'[js.length + (k - as.length)]? = some a := fun {k a} h hk => by
    unfold backA at h
    rw [List.getElem?_append_right hk, List.getElem?_drop] at h
    exact h
  have isNew : ∀ {k : Nat} {a : Addr}, (backA as as' js)[k]? = some a → as.length ≤ k → H a = none := fun {k a} h hk => st.new _ a (atGe h hk) (by rw [hA]; exact Nat.le_add_right _ _)
  have livL : ∀ {a : Addr}, Liv (js.map fun j => lendc js (m.s.getD j .gone)) (lendA as js) a → ∃ j, j ∈ js ∧ as[j]? = some a ∧ ∃ c, m.s[j]? = some c ∧ c.live = true := fun {a} ⟨k, c, h2, h3, h4⟩ => by
    obtain ⟨j1, e1, f1⟩ := lendA_get hl' h3
    obtain ⟨j2, e2, rfl⟩ := lendC_get h2
    rw [e1] at e2; cases e2
    exact ⟨j1, List.mem_of_getElem? e1, f1, _, getD_some (hl j1 (List.mem_of_getElem? e1)), lendc_live h4⟩
  have livM : ∀ {a : Addr}, Liv (js.map fun j => lendc js (m.s.getD j .gone)) (lendA as js) a → Liv m.s as a := fun {a} h => by
    obtain ⟨j, _, h2, c, h3, h4⟩ := livL h
    exact ⟨j, c, h3, h2, h4⟩
  have notL : ∀ {k : Nat} {a : Addr}, k ∉ js → as[k]? = some a → ¬ Liv (js.map fun j => lendc js (m.s.getD j .gone)) (lendA as js) a := fun {k a} hk ha h => by
    obtain ⟨j, h1, h2, _⟩ := livL h
    exact hk (by rw [ok.nd k j a ha h2]; exact h1)
  have src : ∀ {i : Nat} {c' : Cell} {k : Nat} {a : Addr}, S'[i]? = some c' → backk js m.s.length i = k → (backA as as' js)[k]? = some a → as'[i]? = some a := fun {i c' k a} h1 h2 h3 => by
    have hi : i < as'.length := by rw [hn']; exact (List.getElem?_eq_some_iff.mp h1).1
    have e := backA_get hn hl' st.pre (List.getElem?_eq_getElem hi)
    rw [h2, h3] at e
    rw [List.getElem?_eq_getElem hi, ← Option.some.inj e]
  refine ⟨⟨st.g, st.dom, fun a o h hv => st.fr a o h fun z => hv (livM z), prA, fun k a h hk => isNew h hk, fun k c' h hv hk => ?_, fun a h => ?_⟩,
    ⟨ok'.same, ?_, ok.el, fun i j a h1 h2 => ?_, fun k a h => ?_, fun a h => ?_, fun i x h => (ok.sv i x h).mono st.g prA, fun k c a h h' => ?_⟩, ?_⟩
  · rcases merge_get nd hl hS h with ⟨_, _, h1⟩ | ⟨i, c2, h1, e1, e2⟩
    · exact ⟨c', h1, hv⟩
    · rw [e1] at hv
      have hj := backk_lt e2 (by rw [← hn]; exact hk)
      have hi := (List.getElem?_eq_some_iff.mp hj).1
      obtain ⟨c0, h2, h3⟩ := st.liv i c2 h1 (backc_live hv) (by rw [hA]; exact hi)
      obtain ⟨j2, e3, rfl⟩ := lendC_get h2
      rw [hj] at e3; cases e3
      exact ⟨_, getD_some (hl k (List.mem_of_getElem? hj)), lendc_live h3⟩
  · rcases st.gd a h with z | z | z
    · exact .inl z
    · exact .inr (.inl (livM z))
    · exact .inr (.inr z)
  · show (as ++ as'.drop js.length).length = (putL _ _ _ ++ _).length
    rw [List.length_append, List.length_append, putL_len, List.length_map, List.length_drop, List.length_drop, hn, hn']
  · by_cases hi : i < as.length <;> by_cases hj : j < as.length
    · exact ok.nd i j a (atLt h1 hi) (atLt h2 hj)
    · exact absurd (isNew h2 (by omega)) (ok.alive i a (atLt h1 hi))
    · exact absurd (isNew h1 (by omega)) (ok.alive j a (atLt h2 hj))
    · have := ok'.nd _ _ a (atGe h1 (by omega)) (atGe h2 (by omega))
      omega
  · by_cases hk : k < as.length
    · exact st.dom a (ok.alive k a (atLt h hk))
    · exact ok'.alive _ a (atGe h (by omega))
  · obtain ⟨k, c, h1, h2, h3⟩ := h
    rcases merge_get nd hl hS h1 with ⟨hk, hj, h4⟩ | ⟨i, c2, h4, e1, e2⟩
    · have ha := atLt h2 (by rw [hn]; exact hk)
      cases z : G' a with
      | none => rfl
      | some o =>
        rcases st.gd a (by rw [z]; intro y; cases y) with y | y | y
        · exact absurd (ok.out a ⟨k, c, h4, ha, h3⟩) y
        · exact absurd y (notL hj ha)
        · exact absurd y (ok.alive k a ha)
    · rw [e1] at h3
      exact ok'.out a ⟨i, c2, h4, src h4 e2 h2, backc_live h3⟩
  · rcases merge_get nd hl hS h with ⟨hk, hj, h4⟩ | ⟨i, c2, h4, e1, e2⟩
    · have ha := atLt h' (by rw [hn]; exact hk)
      exact (ok.ce k c a h4 ha).mono st.g (fun o z => st.fr a o z (notL hj ha)) prA
    · rw [e1]
      exact backc_ok hn hl' st.pre (ok'.ce i c2 a h4 (src h4 e2 h'))
  · rcases ok'.sv 0 r rfl with z | ⟨v', z, r'⟩
    · rw [z]; exact .no _
    · cases z
      exact backv_ok hn hl' st.pre r'
end
section
variable {X : Cx} {e : Expr} {es : List Expr} {ta : A1} {x : Str} {p pos : Pos} {f : Addr} {fd : FuncData} {ps : List Str} {k : Nat} {C : Con}
theorem sp_call {σ : L2.St} {G H : Hp} {m : Ms} {as : List Addr} {Q : SK} {bs : List Bool} {vs : List V} {xs : List Sv} (ok : Ok X.K G H σ m as) (h : SvA X.K G as vs xs) (E : XK)
    (q : fzAll bs xs m fun ys m2 => let js := loans m2.s ys
      js.Nodup ∧ (∀ j ∈ js, j < m2.s.length) ∧ C (ys.map (lendv js)) (js.map fun j => lendc js (m2.s.getD j .gone)) fun r S' => Q (backv js m2.s.length r) ⟨m2.e, mergeS js m2.s S'⟩) :
    spD X.K C vs H (OnV X.K σ G H m as Q) E := by
  obtain ⟨ys, G1, m1, st1, ok1, r1, nd, hl, q1⟩ := fzAll_ok ok h q
  refine ⟨G1, _, _, _, _, lend_ok ok1 nd hl r1, by rw [List.length_map]; exact (sva_len r1).symm, q1, fun v H' G' as' r S' st ok' q2 => ?_⟩
  obtain ⟨st2, ok2, sv⟩ := back_ok ok1 nd hl st ok'
  exact ⟨G', _, _, _, st1.trans st2, ok2, sv, q2⟩
theorem de_call (bs : List Bool) (F : FnOk X.prog X.w X.K X.mg X.base CX0 k f fd ps (spD X.K C)) (hr : Room k X.A) (hg : Gl X x) (hm : X.mg x = some (.ref f)) (hk : PySem.W.keepIn X.K (.ref f) = true) (hb : Binds X.K fd ps [])
    (ha : DA X (e :: es) ta) (hdb : (x == ("__debug__" : Str)) = false := by decide) (he : starEach (e :: es) X.env = (false, eval e X.env) :: starEach es X.env := by rfl) (hpl : (backTo pos (starEach es X.env)).any (·.1) = false := by rfl) :
    DE X (.Call (.Name x p) (e :: es) [] pos) (eCall C bs ta) := ⟨fun G H σ m as Q ok q => tSem_of (pe_call F hr hg hm hk hb .nil pass0 (pa_sem X (e :: es)) hdb he hpl) (by
  refine aSem_mono (ha.run G H σ m as _ ok q) fun vs H1 ⟨G1, m1, as1, xs, st1, ok1, r1, q1⟩ => ?_
  have hh := sp_call (Q := Q) ok1 r1 E0 q1
  rw [List.append_nil]
  obtain ⟨Ga, as0, ys, S, Qc, h1, h2, h3, h4⟩ := hh
  exact ⟨Ga, as0, ys, S, Qc, h1, h2, h3, fun v H' G' as' r S' a b c => OnV.from st1 (h4 v H' G' as' r S' a b c)⟩)⟩
end
end Sy
set_option Elab.async false
/-! list(reversed(a list)) -/
namespace Sy
open PySem PySem.Spec PyProof.Rows L2
section
variable {prog : Program} {w : World} {A : Around} {E : Value → Shared → Prop} {s : Shared}
theorem extend_rev {R : Result → Shared → Prop} {it l S : Addr} {items : Array Value} {res : Value} {c₀ : Nat} (hh : A.handled = none) (hit : s.heap.IsRevIter it l ((items.size : Int) - 1)) (hl : s.heap.IsList l items) (hne : l ≠ it) (hn : items.size ≤ sizeLine)
    (hS : s.heap.get? S = some { cls := .type "list", data := .seq #[] c₀ })
    (hSi : S ≠ it) (hSl : S ≠ l)
    (hR : ∀ h' tk acc' c', (∀ b o, b ≠ S → b ≠ it → s.heap.get? b = some o → h'.get? b = some o) → h'.get? S = some { cls := .type "list", dict := none, data := .seq acc' c', slots := #[] } →
      ItemsOf (fun i v => items[items.size - 1 - i]? = some v) acc' items.size → R (.ok (.ret res)) { s with heap := h', toks := tk }) :
    wpAny (model prog w) A.in1 (Builtin.List.listExtendWith (.ref S) (.ref it) res)
      (fun fin s' => match fin with | .done f => R (.ok f) s' | .again c' => c'.quiet = true ∧ codeAny (model prog w) A c' R s') (fun e s' => R (.error e) s') s := by
  have W := (Walks.listRev (prog := prog) (w := w) (A := A.in1) hh it l hne items).toS
  have hSf : S ∉ [it, l] := by simp only [List.mem_cons, List.not_mem_nil, or_false, not_or]; exact ⟨hSi, hSl⟩
  have hT : s.TypeIs (.ref it) "list_reverseiterator" := hit.typeIs
  have same : Builtin.List.listSameRef (.ref S) (.ref it) = false := by simp [Builtin.List.listSameRef, hSi]
  unfold Builtin.List.listExtendWith
  refine wpAny_bind (wpAny_typeOf hT ?_)
  rw [if_neg (by rw [same]; decide)]
  refine wpAny_bind (wpAny_pyIter_revIter hit ?_)
  refine wpAny_bind (wpAny_holding ?_)
  unfold Builtin.List.listLengthHint
  refine wpAny_bind (wpAny_specialOf hT RT.nolen_lri ?_)
  show wpAny _ A.in1 (specialOf (Value.ref it) (Str.ofString "__length_hint__") >>= _) _ _ s
  refine wpAny_bind (wpAny_specialOf hT RT.hint_lri ?_)
  generalize hid : ("list_reverseiterator.__length_hint__" : String) = id0
  wp_delta
  rw [show splitId id0 = some ("list_reverseiterator", "__length_hint__") from by subst hid; decide +kernel]
  subst hid
  refine wpAny_bind (wpAny_isInstance (b := true) hT (by rw [isSubtype_type]; kernel_rfl) ?_)
  refine wpAny_pure ?_
  rw [if_neg (by decide)]
  have e0 : ((items.size : Nat) : Int) - 1 - ((0 : Nat) : Int) = (items.size : Int) - 1 := by omega
  refine wpAny_pure ⟨plainId_quiet F.plain_extend_loop _, codeAny_extend_loopS W hn _ hSf _ items.size 0 _ _ _ rfl (Nat.zero_le _) ⟨Nat.zero_le _, by rw [e0]; exact hit, hl⟩ hS (ItemsOf.nil _) fun s' acc' c' hm hS' hacc => ?_⟩
  rw [Moved.eq_with hm]
  refine hR s'.heap s'.toks acc' c' (fun b o hb hb2 e => hm.heap b o (fun hmem => ?_) e) hS' hacc
  rcases List.mem_cons.mp hmem with e' | hmem
  · exact hb e'
  · exact hb2 (List.mem_singleton.mp hmem)
theorem call_list_rev {it l : Addr} {items : Array Value} {Q : Value → Shared → Prop} (hh : A.handled = none) (hit : s.heap.IsRevIter it l ((items.size : Int) - 1)) (hl : s.heap.IsList l items) (hne : l ≠ it) (hn : items.size ≤ sizeLine)
    (hQ : ∀ h' tk acc' c', (∀ b o, b ≠ it → s.heap.get? b = some o → h'.get? b = some o) →
      h'.get? s.heap.objs.size = some { cls := .type "list", dict := none, data := .seq acc' c', slots := #[] } → ItemsOf (fun i v => items[items.size - 1 - i]? = some v) acc' items.size → Q (.ref s.heap.objs.size) { s with heap := h', toks := tk }) :
    wpAny (model prog w) A (call (.type "list") [.ref it]) Q E s := by
  obtain ⟨oi, hoi, _⟩ := id hit
  obtain ⟨ol, hol, _⟩ := id hl
  have hSi : s.heap.objs.size ≠ it := Nat.ne_of_gt (Heap.lt_size hoi)
  have hSl : s.heap.objs.size ≠ l := Nat.ne_of_gt (Heap.lt_size hol)
  refine callType_codes (Q₁ := fun obj s₁ => obj = .ref s.heap.objs.size ∧ s₁ = { s with heap := s.heap.push { cls := .type "list", data := .seq #[] } }) F.called_list (F.typeCall_list_1 _) F.entry_list_init
    (code_list_new _ ⟨rfl, rfl⟩) fun obj s₁ h₁ => ?_
  obtain ⟨rfl, rfl⟩ := h₁
  have hS : (s.heap.push { cls := .type "list", data := .seq #[] }).get? s.heap.objs.size = some { cls := .type "list", data := .seq #[] } := Heap.get?_push_size _ rfl
  refine ⟨⟨_, hS, rfl⟩, F.args_list_init_2 _ _, ?_⟩
  show wpAny _ A.in1.in1 (do let old ← Builtin.List.listItems (.ref s.heap.objs.size); Builtin.List.listUpdate (.ref s.heap.objs.size) (fun _ => #[]); letGo old.toList.reverse; Builtin.List.listExtendWith (.ref s.heap.objs.size) (.ref it) .none) _ _ _
  refine wpAny_bind ?_
  unfold Builtin.List.listItems
  refine wpAny_bind (wpAny_seqItems hS rfl (wpAny_pure ?_))
  show wpAny _ A.in1.in1 (updateSeq s.heap.objs.size (fun _ => #[]) >>= fun _ => letGo (#[] : Array Value).toList.reverse >>= fun _ => Builtin.List.listExtendWith (.ref s.heap.objs.size) (.ref it) .none) _ _ _
  refine wpAny_bind (wpAny_updateSeq hS rfl ?_)
  have hS₂ := Heap.get?_update_self (Obj.mapSeq (fun _ => (#[] : Array Value))) hS rfl
  have oth : ∀ b o, b ≠ s.heap.objs.size → s.heap.get? b = some o → ((s.heap.push { cls := .type "list", data := .seq #[] }).update s.heap.objs.size (Obj.mapSeq (fun _ => (#[] : Array Value)))).get? b = some o :=
    fun b o hb e => (Heap.get?_update_other _ _ (Ne.symm hb)).trans (Heap.get?_push_of_some _ e)
  refine wpAny_bind (wpAny_letGo ?_)
  refine extend_rev (A := A.in1) (items := items) (l := l) hh (hit.at fun o e => oth it o (Ne.symm hSi) e) ?_ hne hn hS₂ hSi hSl fun h' tk acc' c' hk hS' hacc => ?_
  · obtain ⟨o, ho, r⟩ := hl
    exact ⟨o, oth l o (Ne.symm hSl) ho, r⟩
  · exact ⟨rfl, hQ h' tk acc' c' (fun b o hb e => hk b o (Nat.ne_of_lt (Heap.lt_size e)) hb (oth b o (Nat.ne_of_lt (Heap.lt_size e)) e)) hS' hacc⟩
end
section
variable {X : Cx} {e : Expr} {te : E1} {p p2 pos pos2 : Pos}
def tLstRev (K : PySem.W.Frag) (te : TE) : TE := fun σ H Q => te σ H fun v H1 => ∃ (a : Addr) (xs : List V), v = .ref a ∧ SqL K H1 a xs ∧ ∀ q, H1 q = none → Q (.ref q) (upd H1 q (.lst xs.reverse))
theorem pe_lstRev {te : TE} (hc : X.calm = true) (hg : Gl X "list") (hm : X.mg "list" = none) (hg2 : Gl X "reversed") (hm2 : X.mg "reversed" = none) (he : PE X e te)
    (hs : starEach [e] X.env = (false, eval e X.env) :: starEach [] X.env := by rfl)
    (hs2 : starEach [.Call (.Name "reversed" p2) [e] [] pos2] X.env = (false, eval (.Call (.Name "reversed" p2) [e] [] pos2) X.env) :: starEach [] X.env := by rfl) :
    PE X (.Call (.Name "list" p) [.Call (.Name "reversed" p2) [e] [] pos2] [] pos) (tLstRev X.K te) := by
  refine ⟨fun pins s σ H Q I h => ?_⟩
  refine Call_ (ld_blt I hg hm boot_list (PyProof.Rows.callWith_type1 (args_cons (Call_ (ld_blt I hg2 hm2 PyProof.Rows.boot_reversed (PyProof.Rows.callWith_type1 (args_cons (thn (he.run pins s σ H _ I h) fun u s1 ⟨v, H1, I1, r1, q1⟩ => args_nil ?_) hs) hs rfl))) hs2) hs2 rfl))
  obtain ⟨a, xs, ev, hq, q⟩ := q1
  subst ev
  obtain rfl : u = Value.ref a := r1
  obtain ⟨us, rv, p', hz⟩ := I1.list hq
  have hl := p'.isList
  refine call_reversed_list hl (args_nil ?_)
  obtain ⟨f0, f1, f2, f3, f4, f5⟩ := I1.fpOk (H' := H1) (b := s1.heap.objs.size) (Nat.le_refl _) (I1.hok.fresh (Nat.le_refl _))
  obtain ⟨ol, hol, _⟩ := id hl
  have hne : a ≠ s1.heap.objs.size := Nat.ne_of_lt (Heap.lt_size hol)
  have hn : us.toArray.size ≤ sizeLine := by rw [List.size_toArray, ← rv.length]; exact hz
  refine call_list_rev (s := { s1 with heap := s1.heap.push (revObj a ((us.toArray.size : Int) - 1)) }) (I1.ok.hd hc) ⟨_, Heap.get?_push_size _ rfl, rfl, rfl⟩ (hl.push _) hne hn fun h' tk acc c' hk hS hi => ?_
  have hsz : (s1.heap.push (revObj a ((us.toArray.size : Int) - 1))).objs.size = s1.heap.objs.size + 1 := by simp [Heap.push]
  have hlt : ∀ {b : Addr} {o : Obj}, s1.heap.get? b = some o → b ≠ s1.heap.objs.size := fun e => Nat.ne_of_lt (Heap.lt_size e)
  refine ⟨.ref _, upd H1 (s1.heap.push (revObj a ((us.toArray.size : Int) - 1))).objs.size (.lst xs.reverse), I1.laid (t' := tk) (fun b o e => hk b o (hlt e) (Heap.get?_push_of_some _ e)) (by rw [hsz]; exact Nat.le_succ _) ?_, rfl, q _ (I1.hok.fresh (by rw [hsz]; exact Nat.le_succ _))⟩
  refine ⟨by rw [List.length_reverse]; exact hz, acc.toList, c', RT.vals_rev rv hi, ?_⟩
  rw [Array.toArray_toList]
  exact hS
def eLstRev (te : E1) : E1 := fun m Q => te m fun x m1 => match sq m1.s x with
  | some (.l, xs) => mkL xs.reverse m1 Q
  | _ => False
theorem paired_rev {α β : Type} {F : α → β → Prop} : ∀ {a : List α} {b : List β}, Paired F a b → Paired F a.reverse b.reverse
  | _, _, .nil => .nil
  | _, _, .cons r t => by
    rw [List.reverse_cons, List.reverse_cons]
    exact paired_app (paired_rev t) (.cons r .nil)
theorem de_lstRev (hc : X.calm = true) (hg : Gl X "list") (hm : X.mg "list" = none) (hg2 : Gl X "reversed") (hm2 : X.mg "reversed" = none) (he : DE X e te)
    (hs : starEach [e] X.env = (false, eval e X.env) :: starEach [] X.env := by rfl)
    (hs2 : starEach [.Call (.Name "reversed" p2) [e] [] pos2] X.env = (false, eval (.Call (.Name "reversed" p2) [e] [] pos2) X.env) :: starEach [] X.env := by rfl) :
    DE X (.Call (.Name "list" p) [.Call (.Name "reversed" p2) [e] [] pos2] [] pos) (eLstRev te) := ⟨fun G H σ m as Q ok q => tSem_of (pe_lstRev hc hg hm hg2 hm2 (pe_sem X e) hs hs2) (by
  refine tSem_mono (he.run G H σ m as _ ok q) fun v H1 ⟨G1, m1, as1, x, st1, ok1, r1, q1⟩ => ?_
  cases e2 : sq m1.s x with
  | none => simp only [e2] at q1
  | some p =>
    obtain ⟨b, xs⟩ := p
    obtain ⟨a, us, ev, h1, h2⟩ := sq_ok ok1 r1 e2
    cases b with
    | t => simp only [e2] at q1
    | s => simp only [e2] at q1
    | l =>
      simp only [e2] at q1
      exact ⟨a, us, ev, SqL.of h1, fun p hp => OnV.from st1 (mkL_ok ok1 (paired_rev h2) hp q1)⟩)⟩
end
end Sy
set_option Elab.async false
namespace Sy
open PySem PySem.Spec PyProof.Rows L2
/-! ### methods of lists -/
def lsAt (S : List Cell) : Sv → Option (Nat × List Sv)
  | .r k => (S[k]?).bind fun c => match c with
    | .ls xs => some (k, xs)
    | _ => none
  | _ => none
section
variable {X : Cx} {K : PySem.W.Frag} {σ : L2.St} {G H : Hp} {m : Ms} {as : List Addr} {v : V} {x : Sv}
theorem lsAt_ok (ok : Ok K G H σ m as) (r : SvR K G as v x) {k : Nat} {xs : List Sv} (h : lsAt m.s x = some (k, xs)) :
    ∃ a vs, v = .ref a ∧ as[k]? = some a ∧ m.s[k]? = some (.ls xs) ∧ H a = some (.lst vs) ∧ SvA K G as vs xs := by
  cases x with
  | no => cases h
  | d _ => cases h
  | r j =>
    obtain ⟨a, ha, e⟩ := svr r
    have h : (m.s[j]?).bind (fun c => match c with
      | .ls xs => some (j, xs)
      | _ => none) = some (k, xs) := h
    cases hc : m.s[j]? with
    | none => rw [hc] at h; cases h
    | some c =>
      rw [hc] at h
      cases c with
      | ls ys =>
        have q := ok.ce j _ a hc ha
        cases h
        cases q with
        | @ls vs _ q t => exact ⟨a, vs, e, ha, hc, q, t⟩
      | gone => cases h
      | fz _ => cases h
      | tp _ => cases h
      | di _ => cases h
      | ob _ _ => cases h
      | dl _ => cases h
      | hid => cases h
/-- a list is set -/
theorem ls_set {k : Nat} {a : Addr} {xs ys : List Sv} {vs : List V} {Q : SK} {w : V} {d : D} (ok : Ok K G H σ m as) (ha : as[k]? = some a) (hc : m.s[k]? = some (.ls xs)) (h : SvA K G as vs ys) (r : Rp K G w d) (q : Q (.d d) (m.setS k (.ls ys))) :
    OnV K σ G H m as Q w (upd H a (.lst vs)) := by
  obtain ⟨ok', st⟩ := ok.setc (o := .lst vs) (c := .ls ys) hc rfl ha (.ls upd_same h)
  exact ⟨G, _, as, _, st, ok', .d r, q⟩
variable {o e : Expr} {to te : E1} {apos cpos : Pos}
def eApp (to te : E1) : E1 := fun m Q => to m fun x m1 => one? (lsAt m1.s x) fun _ => te m1 fun y m2 => fzv y m2 fun d m3 => one? (lsAt m3.s x) fun p => p.2.length < sizeLine ∧ Q (.d .non) (m3.setS p.1 (.ls (p.2 ++ [.d d])))
theorem de_append (ho : DE X o to) (ha : DE X e te) (hbase : attributeBase o "append" X.env (eval o X.env) = eval o X.env := by rfl)
    (hfew : ((backTo cpos (starEach [e] X.env)).all (fun x => !x.1) && (backToKw cpos (keywordEach [] X.env)).all (fun x => x.1.isSome)
      && decide (([e] : List Expr).length + ([] : List Keyword).length + (if ([] : List Keyword).isEmpty then 0 else 1) < 30)) = true := by rfl)
    (hline : (apos.endLine == cpos.line) = true := by rfl) (hs : starEach [e] X.env = (false, eval e X.env) :: starEach [] X.env := by rfl) (hplain : (backTo cpos (starEach [] X.env)).any (·.1) = false := by rfl) :
    DE X (.Call (.Attribute o "append" apos) [e] [] cpos) (eApp to te) := ⟨fun G H σ m as Q ok q =>
  tSem_of (pe_bm PySem.F.plainAttrs_list PySem.F.slot_list_append PySem.F.type_list_append mt_append (pe_sem X o) (pa_cons (pe_sem X e) pa_nil hs) hbase hfew hline hs hplain) (by
    refine tSem_mono (ho.run G H σ m as _ ok q) fun v H1 ⟨G1, m1, as1, x, st1, ok1, r1, q1⟩ => ?_
    obtain ⟨⟨k0, xs0⟩, e0, q2⟩ := one_cases q1
    obtain ⟨a0, vs0, ev, _, _, h0, _⟩ := lsAt_ok ok1 r1 e0
    subst ev
    refine ⟨.inl ⟨rfl, vs0, SqL.of h0⟩, ?_⟩
    refine tSem_mono (ha.run G1 H1 σ m1 as1 _ ok1 q2) fun u H2 ⟨G2, m2, as2, y, st2, ok2, r2, q3⟩ => ?_
    obtain ⟨d, G3, m3, st3, ok3, rp, q4⟩ := fzv_ok ok2 r2 q3
    obtain ⟨⟨k, xs⟩, e1, hl, q5⟩ := one_cases q4
    obtain ⟨a, vs, ev, ha', hc, h1, h2⟩ := lsAt_ok ok3 ((r1.mono st2.g st2.pre).mono st3.g st3.pre) e1
    cases ev
    refine ⟨a0, vs, u, rfl, rfl, h1, by rw [sva_len h2]; exact hl, ?_⟩
    exact OnV.from ((st1.trans st2).trans st3) (ls_set ok3 ha' hc (paired_app h2 (.cons (.d rp) .nil)) .non q5))⟩
def eExt (to te : E1) : E1 := fun m Q => to m fun x m1 => one? (lsAt m1.s x) fun _ => te m1 fun y m2 => one? (lsAt m2.s x) fun p => one? (sq m2.s y) fun p2 => p2.1 = .l ∧ p.2.length + p2.2.length ≤ sizeLine ∧ Q (.d .non) (m2.setS p.1 (.ls (p.2 ++ p2.2)))
theorem de_extend (ho : DE X o to) (ha : DE X e te) (hbase : attributeBase o "extend" X.env (eval o X.env) = eval o X.env := by rfl)
    (hfew : ((backTo cpos (starEach [e] X.env)).all (fun x => !x.1) && (backToKw cpos (keywordEach [] X.env)).all (fun x => x.1.isSome)
      && decide (([e] : List Expr).length + ([] : List Keyword).length + (if ([] : List Keyword).isEmpty then 0 else 1) < 30)) = true := by rfl)
    (hline : (apos.endLine == cpos.line) = true := by rfl) (hs : starEach [e] X.env = (false, eval e X.env) :: starEach [] X.env := by rfl) (hplain : (backTo cpos (starEach [] X.env)).any (·.1) = false := by rfl) :
    DE X (.Call (.Attribute o "extend" apos) [e] [] cpos) (eExt to te) := ⟨fun G H σ m as Q ok q =>
  tSem_of (pe_bm PySem.F.plainAttrs_list PySem.F.slot_list_extend PySem.F.type_list_extend mt_extend (pe_sem X o) (pa_cons (pe_sem X e) pa_nil hs) hbase hfew hline hs hplain) (by
    refine tSem_mono (ho.run G H σ m as _ ok q) fun v H1 ⟨G1, m1, as1, x, st1, ok1, r1, q1⟩ => ?_
    obtain ⟨⟨k0, xs0⟩, e0, q2⟩ := one_cases q1
    obtain ⟨a0, vs0, ev, _, _, h0, _⟩ := lsAt_ok ok1 r1 e0
    subst ev
    refine ⟨.inl ⟨rfl, vs0, SqL.of h0⟩, ?_⟩
    refine tSem_mono (ha.run G1 H1 σ m1 as1 _ ok1 q2) fun u H2 ⟨G2, m2, as2, y, st2, ok2, r2, q3⟩ => ?_
    obtain ⟨⟨k, xs⟩, e1, q4⟩ := one_cases q3
    obtain ⟨⟨b, ys⟩, e2, hb, hl, q5⟩ := one_cases q4
    obtain ⟨a, vs, ev, ha', hc, h1, h2⟩ := lsAt_ok ok2 (r1.mono st2.g st2.pre) e1
    obtain ⟨a2, us, ev2, h3, h4⟩ := sq_ok ok2 r2 e2
    cases ev
    cases hb
    refine ⟨a0, a2, vs, us, rfl, by rw [ev2], h1, h3, by rw [sva_len h2, sva_len h4]; exact hl, ?_⟩
    exact OnV.from (st1.trans st2) (ls_set ok2 ha' hc (paired_app h2 h4) .non q5))⟩
def ePop (to : E1) : E1 := fun m Q => to m fun x m1 => one? (lsAt m1.s x) fun p => one? (p.2[p.2.length - 1]?) fun z => Q z (m1.setS p.1 (.ls p.2.dropLast))
theorem sva_at : ∀ {vs : List V} {xs : List Sv} {i : Nat} {z : Sv}, SvA K G as vs xs → xs[i]? = some z → ∃ v, vs[i]? = some v ∧ SvR K G as v z := fun h e => sva_get h e
theorem paired_dropLast {α β : Type} {F : α → β → Prop} {a : List α} {b : List β} (h : Paired F a b) : Paired F a.dropLast b.dropLast := by
  rw [List.dropLast_eq_take, List.dropLast_eq_take, Paired.length h]
  exact paired_take _ h
theorem de_pop (ho : DE X o to) (hbase : attributeBase o "pop" X.env (eval o X.env) = eval o X.env := by rfl) (hline : (apos.endLine == cpos.line) = true := by rfl) :
    DE X (.Call (.Attribute o "pop" apos) [] [] cpos) (ePop to) := ⟨fun G H σ m as Q ok q =>
  tSem_of (pe_bm0 PySem.F.plainAttrs_list PySem.F.slot_list_pop PySem.F.type_list_pop mt_pop (pe_sem X o) hbase hline) (by
    refine tSem_mono (ho.run G H σ m as _ ok q) fun v H1 ⟨G1, m1, as1, x, st1, ok1, r1, q1⟩ => ?_
    obtain ⟨⟨k, xs⟩, e1, q2⟩ := one_cases q1
    obtain ⟨z, e2, q3⟩ := one_cases q2
    obtain ⟨a, vs, ev, ha', hc, h1, h2⟩ := lsAt_ok ok1 r1 e1
    subst ev
    obtain ⟨w, e3, r3⟩ := sva_at h2 e2
    refine ⟨.inl ⟨rfl, vs, SqL.of h1⟩, a, vs, w, rfl, rfl, h1, by rw [sva_len h2]; exact e3, ?_⟩
    obtain ⟨ok', st⟩ := ok1.setc (o := .lst vs.dropLast) (c := .ls xs.dropLast) hc rfl ha' (.ls upd_same (paired_dropLast h2))
    exact ⟨G1, _, as1, z, st1.trans st, ok', r3, q3⟩)⟩
/-! ### isinstance of data and built-in types -/
def tyD : D → Option String
  | .non => some "NoneType"
  | .bl _ => some "bool"
  | .int _ => some "int"
  | .str _ => some "str"
  | .lst _ => some "list"
  | .tup _ => some "tuple"
  | .dct _ => some "dict"
  | _ => none
theorem tyD_ok {d : D} {t : String} (r : Rp K H v d) (h : tyD d = some t) : TyX K H v (.type t) := by
  cases r with
  | non => cases h; exact .base .non
  | bl b => cases h; exact .base (.bl b)
  | int b => cases h; exact .base (.int b)
  | str b => cases h; exact .base (.str b)
  | lst q _ => cases h; exact .base (.lst q)
  | scr _ _ => cases h
  | tup q _ =>
    cases h
    rcases q with (q | ⟨o, q⟩) | ⟨o, its, n, q, c, _⟩
    · exact .base (.tup q)
    · exact .fTuple q
    · exact .kTuple q c
  | dct q _ => cases h; exact .base (.dK q)
  | ob _ _ => cases h
  | v _ => cases h
def tyS : Sv → Option String
  | .d (.v (.ty T)) => some T
  | _ => none
theorem tyS_ok {T : String} (r : SvR K G as v x) (h : tyS x = some T) : v = .ty T := by
  cases r with
  | no => cases h
  | r _ => cases h
  | @d w y q =>
    cases y <;> first | (cases h; done) | skip
    rename_i u
    cases u <;> first | (cases h; done) | skip
    cases h
    exact rp_v q
def oIsi : OC := fun xs m Q => match xs with
  | [x, c] => both ((vd m.s x).bind tyD) (tyS c) (fun t T => one? (kitB t T) fun b => Q (.d (.bl b)) m) False
  | _ => False
theorem cd_isi : CallD X (.builtin "isinstance") oIsi := ⟨fun G H σ m as vs xs Q ok r q0 => by
  unfold oIsi at q0
  match xs, r, q0 with
  | [x, c], r, q0 =>
    obtain ⟨v, u, rfl, r1, r2⟩ := sva2 r
    rcases both_cases q0 with ⟨t, T, e1, e2, q1⟩ | q1
    · obtain ⟨b, e3, q2⟩ := one_cases q1
      obtain ⟨d, e4, e5⟩ := Option.bind_eq_some_iff.mp e1
      cases tyS_ok r2 e2
      exact cSem_of call_isi ⟨v, .ty T, .type t, .type T, b, rfl, .ty T, tyD_ok (vd_ok ok r1 e4) e5, kit_ty e3, OnV.d ok (.bl _) q2⟩
    · exact q1.elim⟩
theorem kit_bool_int : kitB "bool" "int" = some true := by decide +kernel
theorem kit_bool_bool : kitB "bool" "bool" = some true := by decide +kernel
theorem kit_bool_str : kitB "bool" "str" = some false := by decide +kernel
theorem kit_bool_tuple : kitB "bool" "tuple" = some false := by decide +kernel
theorem kit_bool_list : kitB "bool" "list" = some false := by decide +kernel
theorem kit_bool_dict : kitB "bool" "dict" = some false := by decide +kernel
theorem kit_int_int : kitB "int" "int" = some true := by decide +kernel
theorem kit_int_bool : kitB "int" "bool" = some false := by decide +kernel
theorem kit_int_str : kitB "int" "str" = some false := by decide +kernel
theorem kit_int_tuple : kitB "int" "tuple" = some false := by decide +kernel
theorem kit_int_list : kitB "int" "list" = some false := by decide +kernel
theorem kit_int_dict : kitB "int" "dict" = some false := by decide +kernel
theorem kit_str_int : kitB "str" "int" = some false := by decide +kernel
theorem kit_str_bool : kitB "str" "bool" = some false := by decide +kernel
theorem kit_str_str : kitB "str" "str" = some true := by decide +kernel
theorem kit_str_tuple : kitB "str" "tuple" = some false := by decide +kernel
theorem kit_str_list : kitB "str" "list" = some false := by decide +kernel
theorem kit_str_dict : kitB "str" "dict" = some false := by decide +kernel
theorem kit_list_int : kitB "list" "int" = some false := by decide +kernel
theorem kit_list_bool : kitB "list" "bool" = some false := by decide +kernel
theorem kit_list_str : kitB "list" "str" = some false := by decide +kernel
theorem kit_list_tuple : kitB "list" "tuple" = some false := by decide +kernel
theorem kit_list_list : kitB "list" "list" = some true := by decide +kernel
theorem kit_list_dict : kitB "list" "dict" = some false := by decide +kernel
theorem kit_tuple_int : kitB "tuple" "int" = some false := by decide +kernel
theorem kit_tuple_bool : kitB "tuple" "bool" = some false := by decide +kernel
theorem kit_tuple_str : kitB "tuple" "str" = some false := by decide +kernel
theorem kit_tuple_tuple : kitB "tuple" "tuple" = some true := by decide +kernel
theorem kit_tuple_list : kitB "tuple" "list" = some false := by decide +kernel
theorem kit_tuple_dict : kitB "tuple" "dict" = some false := by decide +kernel
theorem kit_dict_int : kitB "dict" "int" = some false := by decide +kernel
theorem kit_dict_bool : kitB "dict" "bool" = some false := by decide +kernel
theorem kit_dict_str : kitB "dict" "str" = some false := by decide +kernel
theorem kit_dict_tuple : kitB "dict" "tuple" = some false := by decide +kernel
theorem kit_dict_list : kitB "dict" "list" = some false := by decide +kernel
theorem kit_dict_dict : kitB "dict" "dict" = some true := by decide +kernel
theorem kit_NoneType_int : kitB "NoneType" "int" = some false := by decide +kernel
theorem kit_NoneType_bool : kitB "NoneType" "bool" = some false := by decide +kernel
theorem kit_NoneType_str : kitB "NoneType" "str" = some false := by decide +kernel
theorem kit_NoneType_tuple : kitB "NoneType" "tuple" = some false := by decide +kernel
theorem kit_NoneType_list : kitB "NoneType" "list" = some false := by decide +kernel
theorem kit_NoneType_dict : kitB "NoneType" "dict" = some false := by decide +kernel
end
end Sy
set_option Elab.async false
namespace Sy
open PySem PySem.Spec PyProof.Rows L2
/-! ### dicts: displays, stores -/
def putS (kvs : List (Key × Sv)) (k : Key) (x : Sv) : List (Key × Sv) :=
  if (kvs.any fun kv => decide (kv.1 = k)) = true then kvs.map (fun kv => if kv.1 = k then (kv.1, x) else kv) else kvs ++ [(k, x)]
section
variable {K : PySem.W.Frag} {σ : L2.St} {G H : Hp} {m : Ms} {as : List Addr} {v : V} {x : Sv}
theorem svk_any (k : Key) : ∀ {vs : List (Key × V)} {xs : List (Key × Sv)}, SvK K G as vs xs → (vs.any fun kv => decide (kv.1 = k)) = (xs.any fun kv => decide (kv.1 = k))
  | _, _, .nil => rfl
  | _, _, .cons h t => by rw [List.any_cons, List.any_cons, svk_any k t, h.1]
theorem svk_map (k : Key) (r : SvR K G as v x) : ∀ {vs : List (Key × V)} {xs : List (Key × Sv)}, SvK K G as vs xs → SvK K G as (vs.map fun kv => if kv.1 = k then (kv.1, v) else kv) (xs.map fun kv => if kv.1 = k then (kv.1, x) else kv)
  | _, _, .nil => .nil
  | _, _, .cons (a := p) (b := q) h t => by
    refine .cons ?_ (svk_map k r t)
    dsimp only
    rw [h.1]
    by_cases e : q.1 = k
    · rw [if_pos e, if_pos e]; exact ⟨rfl, r⟩
    · rw [if_neg e, if_neg e]; exact h
theorem svk_put {vs : List (Key × V)} {xs : List (Key × Sv)} (h : SvK K G as vs xs) (k : Key) (r : SvR K G as v x) : SvK K G as (putK vs k v) (putS xs k x) := by
  unfold putK putS
  rw [svk_any k h]
  split
  · exact svk_map k r h
  · exact paired_app h (.cons ⟨rfl, r⟩ .nil)
end
/-- the pairs' keys are numbers or texts -/
def keysOf (m : Ms) : List (Sv × Sv) → Option (List (Key × Sv))
  | [] => some []
  | (k, x) :: r => match (vd m.s k).bind keyD, keysOf m r with
    | some k', some r' => some ((k', x) :: r')
    | _, _ => none
def mergeS' (kvs more : List (Key × Sv)) : List (Key × Sv) := more.foldl (fun acc kv => putS acc kv.1 kv.2) kvs
abbrev Pr1 := Ms → (List (Sv × Sv) → Ms → Prop) → Prop
abbrev SvP (K : PySem.W.Frag) (G : Hp) (as : List Addr) : List (V × V) → List (Sv × Sv) → Prop := Paired fun p q => SvR K G as p.1 q.1 ∧ SvR K G as p.2 q.2
def OnP (K : PySem.W.Frag) (σ : L2.St) (G H : Hp) (m : Ms) (as : List Addr) (Q : List (Sv × Sv) → Ms → Prop) : List (V × V) → Hp → Prop := fun vs H' =>
  ∃ G' m' as' xs, Step G H m.s as G' H' m'.s as' ∧ Ok K G' H' σ m' as' ∧ SvP K G' as' vs xs ∧ Q xs m'
structure DPs (X : Cx) (pos : Pos) (keys : List (Option Expr)) (values : List Expr) (t : Pr1) : Prop where
  run : ∃ trs, PPs X pos keys values trs ∧ (∀ (σ : L2.St) (H : Hp) (Q Q' : List (V × V) → Hp → Prop), tPairs trs σ H Q → (∀ ps H', Q ps H' → Q' ps H') → tPairs trs σ H Q') ∧
    ∀ (G H : Hp) (σ : L2.St) (m : Ms) (as : List Addr) (Q : List (Sv × Sv) → Ms → Prop), Ok X.K G H σ m as → t m Q → tPairs trs σ H (OnP X.K σ G H m as Q)
def prN : Pr1 := fun m Q => Q [] m
def prC (tk tv : E1) (tr : Pr1) : Pr1 := fun m Q => tk m fun k m1 => tv m1 fun x m2 => tr m2 fun r m3 => Q ((k, x) :: r) m3
section
variable {X : Cx} {pos : Pos}
theorem dps_nil : DPs X pos [] [] prN := ⟨[], pps_nil, fun σ H Q Q' h k => k _ _ h, fun G H σ m as Q ok q => ⟨G, m, as, [], Step.refl .., ok, .nil, q⟩⟩
theorem dps_cons {k v : Expr} {ks : List (Option Expr)} {vs : List Expr} {tk tv : E1} {tr : Pr1} (hk : DE X k tk) (hv : DE X v tv) (hr : DPs X pos ks vs tr) : DPs X pos (some k :: ks) (v :: vs) (prC tk tv tr) := by
  obtain ⟨trs, h1, h2, h3⟩ := hr
  refine ⟨(tSem X k, tSem X v) :: trs, pps_cons (pe_sem X k) (pe_sem X v) h1, fun σ H Q Q' h kk => ?_, fun G H σ m as Q ok q => ?_⟩
  · exact tSem_mono h fun _ _ h => tSem_mono h fun _ _ h => h2 _ _ _ _ h fun _ _ h => kk _ _ h
  · refine tSem_mono (hk.run G H σ m as _ ok q) fun x H1 ⟨G1, m1, as1, sx, st1, ok1, r1, q1⟩ => ?_
    refine tSem_mono (hv.run G1 H1 σ m1 as1 _ ok1 q1) fun y H2 ⟨G2, m2, as2, sy, st2, ok2, r2, q2⟩ => ?_
    refine h2 _ _ _ _ (h3 G2 H2 σ m2 as2 _ ok2 q2) fun ps H3 ⟨G3, m3, as3, xs, st3, ok3, r3, q3⟩ => ?_
    exact ⟨G3, m3, as3, (sx, sy) :: xs, (st1.trans st2).trans st3, ok3, .cons ⟨(r1.mono st2.g st2.pre).mono st3.g st3.pre, r2.mono st3.g st3.pre⟩ r3, q3⟩
def eDict0 : E1 := fun m Q => Q (.r m.s.length) (m.push (.di []))
theorem de_dict0 : DE X (.Dict [] [] pos) eDict0 := ⟨fun G H σ m as Q ok q => tSem_of pe_dnewK fun p hp => by
  obtain ⟨ok', st⟩ := ok.alloc (o := .dK []) (c := .di []) hp (.di upd_same .nil)
  exact ⟨_, _, _, _, st, ok', .r (snoc_get as p ok.len), q⟩⟩
/-- keys, none twice -/
def ndK : List Key → Bool
  | [] => true
  | k :: r => !(r.any fun j => decide (j = k)) && ndK r
def keyL (m : Ms) : List (Sv × Sv) → Option (List Key)
  | [] => some []
  | (k, _) :: r => match (vd m.s k).bind keyD with
    | some k' => (keyL m r).map (k' :: ·)
    | none => none
def zipK : List Key → List (Sv × Sv) → List (Key × Sv)
  | k :: ks, p :: ps => (k, p.2) :: zipK ks ps
  | _, _ => []
/-- an empty dict first, then the pairs, then these laid in it -/
def eDisp (t : Pr1) : E1 := fun m Q => t (m.push (.di [])) fun ps m1 => one? (m1.s[m.s.length]?) fun c => one? (keyL m1 ps) fun ks => (c = .di [] ∧ ps.length ≤ 15 ∧ ndK ks = true) ∧ Q (.r m.s.length) (m1.setS m.s.length (.di (zipK ks ps)))
theorem keyL_keysOf {m : Ms} : ∀ {ps : List (Sv × Sv)} {ks : List Key}, keyL m ps = some ks → keysOf m ps = some (zipK ks ps) ∧ (zipK ks ps).map (·.1) = ks
  | [], ks, h => by cases h; exact ⟨rfl, rfl⟩
  | (k, x) :: r, ks, h => by
    unfold keyL at h
    unfold keysOf
    cases e : (vd m.s k).bind keyD with
    | none => rw [e] at h; cases h
    | some k' =>
      rw [e] at h
      obtain ⟨ks', e2, rfl⟩ := Option.map_eq_some_iff.mp h
      obtain ⟨h1, h2⟩ := keyL_keysOf e2
      rw [h1]
      exact ⟨rfl, by show k' :: (zipK ks' r).map (·.1) = _; rw [h2]⟩
theorem put_new {acc : List (Key × Sv)} {k : Key} {x : Sv} (h : (acc.any fun kv => decide (kv.1 = k)) = false) : putS acc k x = acc ++ [(k, x)] := by
  unfold putS
  rw [h]
  rfl
theorem merge_nd : ∀ {kvs acc : List (Key × Sv)}, ndK (kvs.map (·.1)) = true → (∀ p ∈ kvs, (acc.any fun kv => decide (kv.1 = p.1)) = false) → mergeS' acc kvs = acc ++ kvs
  | [], acc, _, _ => by rw [List.append_nil]; rfl
  | (k, x) :: r, acc, h, h2 => by
    have h : (!((r.map (·.1)).any fun j => decide (j = k)) && ndK (r.map (·.1))) = true := h
    obtain ⟨h3, h4⟩ := Bool.and_eq_true_iff.mp h
    show mergeS' (putS acc k x) r = _
    rw [put_new (h2 (k, x) List.mem_cons_self), merge_nd h4 (fun p hp => ?_), List.append_assoc]
    · rfl
    · rw [List.any_append, h2 p (List.mem_cons_of_mem _ hp)]
      show (decide (k = p.1) || false) = false
      rw [Bool.or_false]
      refine decide_eq_false fun e => ?_
      have h3 : ((r.map (·.1)).any fun j => decide (j = k)) = false := by simpa using h3
      rw [List.any_eq_false] at h3
      exact h3 p.1 (List.mem_map_of_mem hp) (decide_eq_true e.symm)
theorem keysOf_ok {σ : L2.St} {G H : Hp} {m : Ms} {as : List Addr} (ok : Ok X.K G H σ m as) : ∀ {ps : List (V × V)} {xs : List (Sv × Sv)} {kvs : List (Key × Sv)}, SvP X.K G as ps xs → keysOf m xs = some kvs →
    ∃ us : List (Key × V), ps = us.map (fun kv => (kV kv.1, kv.2)) ∧ SvK X.K G as us kvs
  | _, _, kvs, .nil, h => by cases h; exact ⟨[], rfl, .nil⟩
  | _, _, kvs, .cons (a := (p1, p2)) (b := (q1, q2)) (l₁ := ps) (l₂ := xs) h t, e => by
    unfold keysOf at e
    cases e1 : (vd m.s q1).bind keyD with
    | none => rw [e1] at e; cases e
    | some k' =>
      cases e2 : keysOf m xs with
      | none => rw [e1, e2] at e; cases e
      | some r' =>
        rw [e1, e2] at e
        cases e
        obtain ⟨us, rfl, r2⟩ := keysOf_ok ok t e2
        obtain ⟨d, e0, e3⟩ := Option.bind_eq_some_iff.mp e1
        have hk := keyD_ok (vd_ok ok h.1 e0) e3
        exact ⟨(k', p2) :: us, by rw [List.map_cons, show p1 = kV k' from hk], .cons ⟨rfl, h.2⟩ r2⟩
theorem svk_merge {G : Hp} {as : List Addr} : ∀ {more : List (Key × V)} {xs : List (Key × Sv)} {vs : List (Key × V)} {ys : List (Key × Sv)}, SvK X.K G as more xs → SvK X.K G as vs ys → SvK X.K G as (mergeK vs more) (mergeS' ys xs)
  | _, _, _, _, .nil, h => h
  | _, _, vs, ys, .cons (a := p) (b := q) (l₁ := l1) (l₂ := l2) h t, h' => by
    have h2 : SvK X.K G as (putK vs p.1 p.2) (putS ys q.1 q.2) := by
      rw [h.1]; exact svk_put h' _ h.2
    exact svk_merge (more := l1) (xs := l2) t h2
theorem de_disp {keys : List (Option Expr)} {values : List Expr} {t : Pr1} (h : DPs X pos keys values t) (hall : keys.all (·.isSome) = true) (hl : keys.length = values.length) (h0 : keys ≠ []) (h15 : keys.length ≤ 15) : DE X (.Dict keys values pos) (eDisp t) := by
  obtain ⟨trs, h1, h2, h3⟩ := h
  refine ⟨fun G H σ m as Q ok q => tSem_of (pe_disp h1 hall hl h0 h15) fun p hp => ?_⟩
  obtain ⟨ok', st⟩ := ok.alloc (o := .dK []) (c := .di []) hp (.di upd_same .nil)
  have hpa : (as ++ [p])[m.s.length]? = some p := snoc_get as p ok.len
  refine h2 _ _ _ _ (h3 G _ σ _ _ _ ok' q) fun ps H2 ⟨G2, m2, as2, xs, st2, ok2, r2, q2⟩ => ?_
  obtain ⟨c, e1, q3⟩ := one_cases q2
  obtain ⟨ks, e0, ⟨rfl, hn, hnd⟩, q4⟩ := one_cases q3
  obtain ⟨e2, hks⟩ := keyL_keysOf e0
  have hmg : mergeS' [] (zipK ks xs) = zipK ks xs := merge_nd (by rw [hks]; exact hnd) (fun _ _ => rfl)
  have hzl : (zipK ks xs).length ≤ 15 := by
    have h1 : (zipK ks xs).length ≤ xs.length := by
      have : ∀ (ks : List Key) (ps : List (Sv × Sv)), (zipK ks ps).length ≤ ps.length := by
        intro ks
        induction ks with
        | nil => intro ps; exact Nat.zero_le _
        | cons k ks ih =>
          intro ps
          cases ps with
          | nil => exact Nat.zero_le _
          | cons p ps => exact Nat.succ_le_succ (ih ps)
      exact this ks xs
    exact Nat.le_trans h1 hn
  have ha := st2.pre _ _ hpa
  have cr := ok2.ce _ _ _ e1 ha
  have hH : H2 p = some (.dK []) := by
    cases cr with
    | di z t => cases t; exact z
  obtain ⟨us, rfl, ru⟩ := keysOf_ok ok2 r2 e2
  refine ⟨hH, us, rfl, by rw [Paired.length ru]; exact hzl, ?_⟩
  obtain ⟨ok3, st3⟩ := ok2.setc (o := .dK (mergeK [] us)) (c := .di (zipK ks xs)) e1 rfl ha (.di upd_same (by have h := svk_merge ru (vs := []) (ys := []) .nil; rw [hmg] at h; exact h))
  exact ⟨G2, _, as2, _, (st.trans st2).trans st3, ok3, .r ha, q4⟩
end
/-- a dict that may change -/
def diAt (S : List Cell) : Sv → Option (Nat × List (Key × Sv))
  | .r k => (S[k]?).bind fun c => match c with
    | .di xs => some (k, xs)
    | _ => none
  | _ => none
section
variable {X : Cx} {K : PySem.W.Frag} {σ : L2.St} {G H : Hp} {m : Ms} {as : List Addr} {v : V} {x : Sv}
theorem diAt_ok (ok : Ok K G H σ m as) (r : SvR K G as v x) {k : Nat} {xs : List (Key × Sv)} (h : diAt m.s x = some (k, xs)) :
    ∃ a vs, v = .ref a ∧ as[k]? = some a ∧ m.s[k]? = some (.di xs) ∧ H a = some (.dK vs) ∧ SvK K G as vs xs := by
  cases x with
  | no => cases h
  | d _ => cases h
  | r j =>
    obtain ⟨a, ha, e⟩ := svr r
    have h : (m.s[j]?).bind (fun c => match c with
      | .di xs => some (j, xs)
      | _ => none) = some (k, xs) := h
    cases hc : m.s[j]? with
    | none => rw [hc] at h; cases h
    | some c =>
      rw [hc] at h
      cases c with
      | di ys =>
        have q := ok.ce j _ a hc ha
        cases h
        cases q with
        | @di vs _ q t => exact ⟨a, vs, e, ha, hc, q, t⟩
      | gone => cases h
      | fz _ => cases h
      | tp _ => cases h
      | ls _ => cases h
      | ob _ _ => cases h
      | dl _ => cases h
      | hid => cases h
def stSem (X : Cx) : TSet := fun o i v H Q => ∀ (pins : List (Addr × Obj)) (s : Shared) (σ : L2.St) (ov iv u : Value), Inv X pins σ H s → RelV o ov → RelV i iv → RelV v u →
    wpAny (model X.prog X.w) X.A (setItem ov iv u) (fun _ s' => ∃ H', Inv X pins σ H' s' ∧ Q H') X.xe s
theorem st_sem (X : Cx) : PSet X (stSem X) := fun pins s σ _ _ _ _ ov iv u _ I ro ri rv h => h pins s σ ov iv u I ro ri rv
theorem stSem_of {t : TSet} (h : PSet X t) {o i w : V} {H : Hp} {Q : Hp → Prop} (q : t o i w H Q) : stSem X o i w H Q := fun pins s σ ov iv u I ro ri rv => h pins s σ H o i w ov iv u Q I ro ri rv q
theorem stSem_mono {o i w : V} {H : Hp} {Q Q' : Hp → Prop} (h : stSem X o i w H Q) (k : ∀ H, Q H → Q' H) : stSem X o i w H Q' := fun pins s σ ov iv u I ro ri rv =>
  thn (h pins s σ ov iv u I ro ri rv) fun _ _ ⟨H', I', q⟩ => ⟨H', I', k _ q⟩
def oSetL (o i x : Sv) (m : Ms) (Q : Ms → Prop) : Prop := both (lsAt m.s o) i.int? (fun p i => one? (ixN p.2.length i) fun j => Q (m.setS p.1 (.ls (p.2.set j x)))) False
def oSet (o i x : Sv) (m : Ms) (Q : Ms → Prop) : Prop := both (diAt m.s o) ((vd m.s i).bind keyD) (fun p k => p.2.length < sizeLine ∧ Q (m.setS p.1 (.di (putS p.2 k x)))) (oSetL o i x m Q)
theorem paired_set {α β : Type} {F : α → β → Prop} {x : α} {y : β} (h : F x y) : ∀ {a : List α} {b : List β} (j : Nat), Paired F a b → Paired F (a.set j x) (b.set j y)
  | _, _, _, .nil => .nil
  | _, _, 0, .cons r t => .cons h t
  | _, _, j + 1, .cons r t => .cons r (paired_set h j t)
theorem oSet_ok (hu : X.A.units + 1 < cLine) {o i w : V} {so si sx : Sv} {Q : Ms → Prop} (ok : Ok X.K G H σ m as) (ro : SvR X.K G as o so) (ri : SvR X.K G as i si) (rw' : SvR X.K G as w sx) (q : oSet so si sx m Q) :
    stSem X o i w H (On X.K σ G H m as Q) := by
  have qq := both_cases q
  clear q
  rcases qq with ⟨⟨k, xs⟩, key, e1, e2, hl, q1⟩ | q1
  · obtain ⟨a, vs, rfl, ha, hc, h1, h2⟩ := diAt_ok ok ro e1
    obtain ⟨d, e0, e2⟩ := Option.bind_eq_some_iff.mp e2
    have ei := keyD_ok (vd_ok ok ri e0) e2
    refine stSem_of (set_dict hu) ⟨a, _, rfl, by rw [ei]; exact DPut.k h1 (by rw [Paired.length h2]; exact hl), ?_⟩
    obtain ⟨ok', st⟩ := ok.setc (o := .dK (putK vs key w)) (c := .di (putS xs key sx)) hc rfl ha (.di upd_same (svk_put h2 _ rw'))
    exact ⟨G, _, as, st, ok', q1⟩
  have qq := both_cases q1
  clear q1
  rcases qq with ⟨⟨k, xs⟩, i', e1, e2, q2⟩ | q2
  · obtain ⟨a, vs, rfl, ha, hc, h1, h2⟩ := lsAt_ok ok ro e1
    obtain ⟨j, e3, q3⟩ := one_cases q2
    rw [Sv.int_eq e2] at ri
    refine stSem_of set_list ⟨a, vs, i', j, rfl, sv_int ri, h1, by rw [sva_len h2]; exact e3, ?_⟩
    obtain ⟨ok', st⟩ := ok.setc (o := .lst (vs.set j w)) (c := .ls (xs.set j sx)) hc rfl ha (.ls upd_same (paired_set rw' j h2))
    exact ⟨G, _, as, st, ok', q3⟩
  · exact q2.elim
def gSubS (to ti : E1) : G1 := fun x m Q => to m fun o m1 => ti m1 fun i m2 => oSet o i x m2 Q
theorem dg_sub {o i : Expr} {to ti : E1} {pos : Pos} (hu : X.A.units + 1 < cLine) (ho : DE X o to) (hi : DE X i ti)
    (ha : ∀ v, assign (.Subscript o i pos) X.env v = (do
      let ov ← holding [v] (eval o X.env)
      let iv ← holding [v, ov] (eval i X.env)
      standAt pos
      holding [v, ov, iv] (setItem ov iv v)
      release [v, ov, iv] []) := by intro _; rfl) : DG X (.Subscript o i pos) [] (gSubS to ti) :=
  ⟨fun G H σ m as v x Q ok r q => gSem_of (pg_sub (pe_sem X o) (pe_sem X i) (st_sem X) ha) (by
    refine tSem_mono (ho.run G H σ m as _ ok q) fun ov H1 ⟨G1, m1, as1, so, st1, ok1, r1, q1⟩ => ?_
    refine tSem_mono (hi.run G1 H1 σ m1 as1 _ ok1 q1) fun iv H2 ⟨G2, m2, as2, si, st2, ok2, r2, q2⟩ => ?_
    have st := st1.trans st2
    refine stSem_mono (oSet_ok hu ok2 (r1.mono st2.g st2.pre) r2 (r.mono st.g st.pre) q2) fun H3 h => ⟨Bt.refl _ _, On.from st h⟩)⟩
/-! ### name += e -/
abbrev IpD (X : Cx) (op : Operator) (o : O2) := OpD X (inplaceOp op) o
theorem ds_aug {i : Nat} {y : Str} {e : Expr} {te : E1} {op : Operator} {o : O2} {pos pos' : Pos} (hN : X.N.Nodup) (hi : X.N[i]? = some y) (hx : Loc X.env.scope y) (he : DE X e te) (ho : IpD X op o) (hf : X.fn y = true ∨ X.env.scope.names.lookup y = some .local := by first | exact .inl rfl | exact .inr rfl | assumption) :
    DS X (.AugAssign (.Name y pos') op e pos) (sAug i te o) := ⟨fun G H σ m as D ok q => sSem_of (ps_aug hN hi hx (pe_sem X e) (op_sem X _) hf) (by
  have fin : ∀ (sx : Sv) (v : V), σ[i]? = some (some v) → SvR X.K G as v sx → (te m fun w m1 => o sx w m1 fun z m2 => D.nx (m2.setE i z)) → tAug i (tSem X e) (rSem X (inplaceOp op)) (OnE X.K G H m as D) σ H := fun sx v h r q => by
    refine ⟨v, h, tSem_mono (he.run G H σ m as _ ok q) fun w H1 ⟨G1, m1, as1, sw, st1, ok1, r1, q1⟩ => ?_⟩
    refine rSem_mono (fun z H2 ⟨G2, m2, as2, sz, st2, ok2, r2, q2⟩ => ?_) (ho.run G1 H1 σ m1 as1 v w sx sw _ ok1 (r.mono st1.g st1.pre) r1 q1)
    exact ⟨G2, m2.setE i sz, as2, st1.trans st2, ok2.slot r2, q2⟩
  have q : eV i m (fun x m0 => te m0 fun y m1 => o x y m1 fun z m2 => D.nx (m2.setE i z)) := q
  unfold eV at q
  cases e1 : m.e[i]? with
  | none => rw [e1] at q; exact q.elim
  | some sx =>
    rw [e1] at q
    have sv := ok.sv i sx e1
    cases sx with
    | no => exact q.elim
    | d y =>
      rcases sv with z | ⟨v, h, r⟩
      · cases z
      · exact fin _ v h r q
    | r k =>
      rcases sv with z | ⟨v, h, r⟩
      · cases z
      · exact fin _ v h r q)⟩
theorem id_add : IpD X .Add (oInt (fun _ _ => True) fun i j => .int (i + j)) := ⟨fun G H σ m as v u x y Q ok r1 r2 q => by
  have qq := both_cases q
  clear q
  rcases qq with ⟨i, j, e1, e2, q⟩ | q
  · rw [Sv.int_eq e1] at r1
    rw [Sv.int_eq e2] at r2
    exact rSem_of ip_add ⟨i, j, sv_int r1, sv_int r2, OnV.d ok (.int _) q.2⟩
  · exact q.elim⟩
theorem id_sub : IpD X .Sub (oInt (fun _ _ => True) fun i j => .int (i - j)) := ⟨fun G H σ m as v u x y Q ok r1 r2 q => by
  have qq := both_cases q
  clear q
  rcases qq with ⟨i, j, e1, e2, q⟩ | q
  · rw [Sv.int_eq e1] at r1
    rw [Sv.int_eq e2] at r2
    exact rSem_of ip_sub ⟨i, j, sv_int r1, sv_int r2, OnV.d ok (.int _) q.2⟩
  · exact q.elim⟩
/-! ### range -/
def rng (lo : Int) (n : Nat) : List Sv := (List.range n).map fun i => .d (.int (lo + (i : Nat)))
theorem itD_rng {lo : Int} {n : Nat} {G0 : Hp} {as0 : List Addr} : ItD K (Itr lo n) (rng lo n) (fun _ => True) G0 as0 where
  go := fun i y G H σ m as hi sg pr ok hc => by
    unfold rng at hi
    rw [List.getElem?_map] at hi
    obtain ⟨c, e, rfl⟩ := Option.map_eq_some_iff.mp hi
    have hl : i < n := by have := (List.getElem?_eq_some_iff.mp e).1; simpa using this
    rw [List.getElem?_range hl] at e
    cases e
    refine ⟨hl, fun w H' ⟨eH, h1⟩ => ?_⟩
    subst eH h1
    exact ⟨G, Step.refl .., ok, .d (.int _)⟩
  stop := fun G H σ m as sg pr ok hc => by
    show n ≤ _
    unfold rng
    rw [List.length_map, List.length_range]
    exact Nat.le_refl _
def sml (i : Int) : Prop := -(2 ^ 62) ≤ i ∧ i < 2 ^ 62
def iRange1 (t : A1) : I1 := fun m R => t m fun xs m1 => match xs with
  | [x] => one? x.int? fun j => sml j ∧ R (rng 0 j.toNat) (fun _ => True) m1
  | _ => False
def iRange2 (t : A1) : I1 := fun m R => t m fun xs m1 => match xs with
  | [x, y] => both x.int? y.int? (fun i j => sml i ∧ sml j ∧ R (rng i (j - i).toNat) (fun _ => True) m1) False
  | _ => False
variable {tg : Expr}
theorem di_range1 {a : Expr} {ta : A1} {p pos : Pos} (hg : Gl X "range") (hm : X.mg "range" = none) (ha : DA X [a] ta) (hs : starEach [a] X.env = [(false, eval a X.env)] := by rfl) : DI X tg (.Call (.Name "range" p) [a] [] pos) (iRange1 ta) := ⟨fun G H σ m as R ok q =>
  iSemT_of (pi_range1 hg hm (pa_sem X [a]) hs) (by
    refine aSem_mono (ha.run G H σ m as _ ok q) fun vs H1 ⟨G1, m1, as1, xs, st1, ok1, r1, q1⟩ => ?_
    match xs, r1, q1 with
    | [x], r1, q1 =>
      obtain ⟨v, rfl, r2⟩ := sva1 r1
      obtain ⟨j, e, ⟨h1, h2⟩, q2⟩ := one_cases q1
      rw [Sv.int_eq e] at r2
      exact ⟨j, by rw [sv_int r2], h1, h2, G1, m1, as1, _, _, st1, ok1, itD_rng, q2⟩)⟩
theorem di_range2 {a b : Expr} {ta : A1} {p pos : Pos} (hg : Gl X "range") (hm : X.mg "range" = none) (ha : DA X [a, b] ta) (hs : starEach [a, b] X.env = [(false, eval a X.env), (false, eval b X.env)] := by rfl) (hs2 : starEach [b] X.env = [(false, eval b X.env)] := by rfl) :
    DI X tg (.Call (.Name "range" p) [a, b] [] pos) (iRange2 ta) := ⟨fun G H σ m as R ok q =>
  iSemT_of (pi_range2 hg hm (pa_sem X [a, b]) hs hs2) (by
    refine aSem_mono (ha.run G H σ m as _ ok q) fun vs H1 ⟨G1, m1, as1, xs, st1, ok1, r1, q1⟩ => ?_
    match xs, r1, q1 with
    | [x, y], r1, q1 =>
      obtain ⟨v, u, rfl, r2, r3⟩ := sva2 r1
      have qq := both_cases q1
      clear q1
      rcases qq with ⟨i, j, e1, e2, ⟨h1, h2⟩, ⟨h3, h4⟩, q2⟩ | q2
      · rw [Sv.int_eq e1] at r2
        rw [Sv.int_eq e2] at r3
        exact ⟨i, j, by rw [sv_int r2, sv_int r3], ⟨h1, h2, h3, h4⟩, G1, m1, as1, _, _, st1, ok1, itD_rng, q2⟩
      · exact q2.elim)⟩
end
end Sy
set_option Elab.async false
namespace Sy
/-- kept apart -/
inductive Hold (p : Prop) : Prop
  | mk : p → Hold p
theorem Hold.out {p : Prop} (h : Hold p) : p := by cases h with | mk h => exact h
open PySem PySem.Spec PyProof.Rows L2
/-! ### a deal: opened, shut -/
def dlC (sd nm : Int) (j : Nat) : Cell := .di [(.inr "seed", .d (.int sd)), (.inr "number", .d (.int nm)), (.inr "left", .r j)]
def intsL (ns : List Int) : Cell := .ls (ns.map fun n => .d (.int n))
structure DlB (sd nm : Int) (ns : List Int) : Prop where
  s0 : 0 ≤ sd
  s1 : sd < 2147483648
  n0 : 0 ≤ nm
  l0 : ∀ n ∈ ns, 0 ≤ n
section
variable {K : PySem.W.Frag} {σ : L2.St} {G H : Hp} {m : Ms} {as : List Addr}
theorem Ok.recell {k : Nat} {c c' : Cell} (ok : Ok K G H σ m as) (hk : m.s[k]? = some c) (hl : c.live = true) (hl' : c'.live = true) (hc : ∀ a, as[k]? = some a → CellR K G H as a c → CellR K G H as a c') :
    Ok K G H σ (m.setS k c') as ∧ Step G H m.s as G H (m.setS k c').s as := by
  refine ⟨⟨ok.same, by show _ = (m.s.set k c').length; rw [List.length_set, ok.len], ok.el, ok.nd, ok.alive, fun b h => ?_, ok.sv, fun j c2 b h h' => ?_⟩,
    ⟨Same.refl G, fun _ h => h, fun _ _ h _ => h, Pre.refl as, fun j b h hj => ?_, fun j c2 h hl2 hj => ?_, fun b h => .inl h⟩⟩
  · obtain ⟨j, c2, h1, h2, h3⟩ := h
    rcases get_set (show (m.s.set k c')[j]? = some c2 from h1) with ⟨_, h1⟩ | ⟨rfl, _, _⟩
    · exact ok.out b ⟨j, c2, h1, h2, h3⟩
    · exact ok.out b ⟨j, c, hk, h2, hl⟩
  · rcases get_set (show (m.s.set k c')[j]? = some c2 from h) with ⟨_, h⟩ | ⟨rfl, e, _⟩
    · exact ok.ce j c2 b h h'
    · rw [e]; exact hc b h' (ok.ce j c b hk h')
  · have := (List.getElem?_eq_some_iff.mp h).1
    omega
  · rcases get_set (show (m.s.set k c')[j]? = some c2 from h) with ⟨_, h⟩ | ⟨rfl, _, _⟩
    · exact ⟨c2, h, hl2⟩
    · exact ⟨c, hk, hl⟩
theorem sva_ints {ns : List Int} : SvA K G as (ns.map V.int) (ns.map fun n => .d (.int n)) := by
  induction ns with
  | nil => exact .nil
  | cons n r ih => exact .cons (.d (.int n)) ih
theorem ints_sva {vs : List V} : ∀ {ns : List Int}, SvA K G as vs (ns.map fun n => .d (.int n)) → vs = ns.map V.int
  | [], h => by cases h; rfl
  | n :: r, h => by
    cases h with
    | cons a t => rw [sv_int a, ints_sva t]; rfl
def openM (m : Ms) (k j : Nat) (sd nm : Int) (ns : List Int) : Ms := (m.setS k (dlC sd nm j)).setS j (intsL ns)
def shutM (m : Ms) (k j : Nat) : Ms := (m.setS k (.dl j)).setS j .hid
theorem set_get {α : Type} {l : List α} {j k : Nat} {x y : α} (h : l[j]? = some y) (hn : k ≠ j) : (l.set k x)[j]? = some y := by
  rw [List.getElem?_set_ne hn]; exact h
theorem Ok.openD {k j : Nat} (ok : Ok K G H σ m as) (hk : m.s[k]? = some (.dl j)) (hj : m.s[j]? = some .hid) :
    ∃ sd nm ns, DlB sd nm ns ∧ Ok K G H σ (openM m k j sd nm ns) as ∧ Step G H m.s as G H (openM m k j sd nm ns).s as := by
  have hkj : k ≠ j := fun e => by rw [e, hj] at hk; cases hk
  have lk : k < as.length := by rw [ok.len]; exact (List.getElem?_eq_some_iff.mp hk).1
  have lj : j < as.length := by rw [ok.len]; exact (List.getElem?_eq_some_iff.mp hj).1
  have cj := ok.ce j _ _ hj (List.getElem?_eq_getElem lj)
  have ck := ok.ce k _ _ hk (List.getElem?_eq_getElem lk)
  cases cj with
  | @hid ns hH h0 =>
    cases ck with
    | @dl _ l sd nm z1 z2 z3 z4 z5 =>
      obtain ⟨ok1, st1⟩ := ok.recell (c' := dlC sd nm j) hk rfl rfl (fun a ha _ => by
        rw [List.getElem?_eq_getElem lk] at ha; cases ha
        exact .di z2 (.cons ⟨rfl, .d (.int sd)⟩ (.cons ⟨rfl, .d (.int nm)⟩ (.cons ⟨rfl, .r z1⟩ .nil))))
      obtain ⟨ok2, st2⟩ := ok1.recell (k := j) (c := .hid) (c' := intsL ns) (set_get hj hkj) rfl rfl (fun a ha _ => by
        rw [List.getElem?_eq_getElem lj] at ha; cases ha
        exact .ls hH sva_ints)
      exact ⟨sd, nm, ns, ⟨z3, z4, z5, h0⟩, ok2, st1.trans st2⟩
theorem Ok.shutD {k j : Nat} {sd nm : Int} {ns : List Int} (ok : Ok K G H σ m as) (hk : m.s[k]? = some (dlC sd nm j)) (hj : m.s[j]? = some (intsL ns)) (b : DlB sd nm ns) :
    Ok K G H σ (shutM m k j) as ∧ Step G H m.s as G H (shutM m k j).s as := by
  have hkj : k ≠ j := fun e => by rw [e, hj] at hk; cases hk
  obtain ⟨ok1, st1⟩ := ok.recell (c' := .dl j) hk rfl rfl (fun a ha h => by
    cases h with
    | di z t =>
      cases t with
      | cons t1 t =>
        cases t with
        | cons t2 t =>
          cases t with
          | cons t3 t =>
            cases t
            rename_i p1 p2 p3
            obtain ⟨e1, r1⟩ := t1
            obtain ⟨e2, r2⟩ := t2
            obtain ⟨e3, r3⟩ := t3
            obtain ⟨l, hl, e4⟩ := svr r3
            obtain ⟨a1, b1⟩ := p1
            obtain ⟨a2, b2⟩ := p2
            obtain ⟨a3, b3⟩ := p3
            dsimp only at e1 e2 e3 r1 r2 e4
            subst e1 e2 e3 e4
            cases sv_int r1
            cases sv_int r2
            exact .dl hl z b.s0 b.s1 b.n0)
  obtain ⟨ok2, st2⟩ := ok1.recell (k := j) (c := intsL ns) (c' := .hid) (set_get hj hkj) rfl rfl (fun a ha h => by
    cases h with
    | ls z t =>
      rw [ints_sva t] at z
      exact .hid z b.l0)
  exact ⟨ok2, st1.trans st2⟩
end
section
variable {X : Cx} {b : List Stmt} {t : S1}
def sOpen (k j : Nat) (t : S1) : S1 := fun D m => m.s[k]? = some (.dl j) ∧ m.s[j]? = some .hid ∧ ∀ sd nm ns, DlB sd nm ns → t D (openM m k j sd nm ns)
theorem db_open (k j : Nat) (h : DB X b t) : DB X b (sOpen k j t) := ⟨fun G H σ m as D ok q => by
  obtain ⟨hk, hj, q⟩ := q
  obtain ⟨sd, nm, ns, hb, ok1, st1⟩ := ok.openD hk hj
  exact onEb_from st1 (h.run G H σ _ as D ok1 (q sd nm ns hb))⟩
def shutR (k j : Nat) (Q : SK) : SK := fun r m => ∃ sd nm ns, m.s[k]? = some (dlC sd nm j) ∧ m.s[j]? = some (intsL ns) ∧ DlB sd nm ns ∧ Q r (shutM m k j)
def sShut (k j : Nat) (t : S1) : S1 := fun D m => t { D with rt := shutR k j D.rt } m
theorem db_shut (k j : Nat) (h : DB X b t) : DB X b (sShut k j t) := ⟨fun G H σ m as D ok q => by
  refine bSem_mono (h.run G H σ m as _ ok q) (fun _ _ h => h) (fun v H' ⟨σ', G', m', as', r, st, ok', sv, q'⟩ => ?_) (fun _ _ h => h) (fun _ _ h => h)
  obtain ⟨sd, nm, ns, hk, hj, hb, q2⟩ := q'
  obtain ⟨ok1, st1⟩ := ok'.shutD hk hj hb
  exact ⟨σ', G', _, as', r, st.trans st1, ok1, sv, q2⟩⟩
end
theorem ix_dl {k j : Nat} (h : k ≠ j) : ixOf [k, j] j = some 1 := by
  unfold ixOf
  rw [if_neg h]
  unfold ixOf
  rw [if_pos rfl]
  rfl
theorem lend_dl {k j : Nat} (h : k ≠ j) : lendc [k, j] (.dl j) = .dl 1 := by
  show (match ixOf [k, j] j with
    | some i => Cell.dl i
    | none => .gone) = _
  rw [ix_dl h]
theorem lend_dv {k j : Nat} : lendv [k, j] (.r k) = .r 0 := by
  show (match ixOf [k, j] k with
    | some i => Sv.r i
    | none => .no) = _
  unfold ixOf
  rw [if_pos rfl]
/-! ### a def's promise, by the way in which it hands back -/
abbrev RT := Nat → Sv → Ms → SC → Prop
def RetOk (R : RT) : Prop := ∀ {K : PySem.W.Frag} {σ : L2.St} {G H G0 H0 : Hp} {m : Ms} {as as0 : List Addr} {S0 : List Cell} {v : V} {r : Sv} {Q : SC}, Ok K G H σ m as → Step G0 H0 S0 as0 G H m.s as → SvR K G as v r → R as0.length r m Q →
  ∃ G' r' S' as', Step G0 H0 S0 as0 G' H S' as' ∧ Ok K G' H [some v] ⟨[r'], S'⟩ as' ∧ Q r' S'
theorem retD_ok : RetOk retD := fun ok st h q => by
  obtain ⟨r', S', as', h1, h2, h3⟩ := ret_ok ok st h q
  exact ⟨_, r', S', as', h1, h2, h3⟩
/-- what is handed back stands still -/
def retF : RT := fun n r m Q => fzv r m fun d m' => Q (.d d) (m'.cut n).s
theorem retF_ok : RetOk retF := fun {K σ G H G0 H0 m as as0 S0 v r Q} ok st h q => by
  obtain ⟨d, G', m', st1, ok1, rp, q1⟩ := fzv_ok ok h q
  have st' := Step.cut (m0 := ⟨[], S0⟩) (st.trans st1) (Nat.le_refl as0.length)
  exact ⟨G', _, _, _, st', ok_only (ok1.cut as0.length) (.d rp), q1⟩
/-- a new deal is handed back, to a caller that lent nothing -/
def retDl : RT := fun n r m Q => n = 0 ∧ ∃ k j sd nm ns, r = .r k ∧ m.s[k]? = some (dlC sd nm j) ∧ m.s[j]? = some (intsL ns) ∧ DlB sd nm ns ∧ Q (.r 0) [.dl 1, .hid]
theorem retDl_ok : RetOk retDl := fun {K σ G H G0 H0 m as as0 S0 v r Q} ok st h q => by
  obtain ⟨hn, k, j, sd, nm, ns, rfl, hk, hj, hb, q⟩ := q
  obtain ⟨ok1, st1⟩ := ok.shutD hk hj hb
  have hkj : k ≠ j := fun e => by rw [e, hj] at hk; cases hk
  have lk := (List.getElem?_eq_some_iff.mp hk).1
  have lj := (List.getElem?_eq_some_iff.mp hj).1
  have e1 : (shutM m k j).s = (m.s.set k (.dl j)).set j .hid := rfl
  have ls : (shutM m k j).s.length = m.s.length := by rw [e1, List.length_set, List.length_set]
  have g1 : (shutM m k j).s[k]? = some (.dl j) := by
    rw [e1, List.getElem?_set_ne (Ne.symm hkj), List.getElem?_set_self lk]
  have g2 : (shutM m k j).s[j]? = some .hid := by
    rw [e1, List.getElem?_set_self (by rw [List.length_set]; exact lj)]
  have nd : [k, j].Nodup := by simp [hkj]
  have hl : ∀ i ∈ [k, j], i < (shutM m k j).s.length := fun i hi => by
    rw [ls]
    rcases List.mem_cons.mp hi with z | z
    · rw [z]; exact lk
    · rw [List.mem_singleton.mp z]; exact lj
  have stt := st.trans st1
  have okl := lend_ok (vs := [v]) (ys := [.r k]) ok1 nd hl (.cons h .nil)
  have hcells : ([k, j].map fun i => lendc [k, j] ((shutM m k j).s.getD i .gone)) = [.dl 1, .hid] := by
    show [lendc [k, j] ((shutM m k j).s.getD k .gone), lendc [k, j] ((shutM m k j).s.getD j .gone)] = _
    rw [List.getD_eq_getElem?_getD, List.getD_eq_getElem?_getD, g1, g2]
    show [lendc [k, j] (.dl j), .hid] = _
    rw [lend_dl hkj]
  have hv : [Sv.r k].map (lendv [k, j]) = [.r 0] := by
    show [lendv [k, j] (.r k)] = _
    rw [lend_dv]
  rw [hcells, hv] at okl
  refine ⟨G, .r 0, [.dl 1, .hid], lendA as [k, j], ⟨stt.g, stt.dom, stt.fr, fun i a hi => ?_, fun i a hi _ => ?_, fun i c _ _ hi => ?_, stt.gd⟩, okl, q⟩
  · have := (List.getElem?_eq_some_iff.mp hi).1
    omega
  · have hl' : ∀ i ∈ [k, j], i < as.length := fun i hi => by rw [ok1.len]; exact hl i hi
    obtain ⟨i', e1, f1⟩ := lendA_get hl' hi
    exact stt.new i' a f1 (by omega)
  · omega
section
variable {P : Program} {w : World} {K : PySem.W.Frag} {mg : Str → Option Value} {base : Heap}
theorem fnR {R : RT} (hR : RetOk R) {x qual : Str} {st : Stmt} {f : Addr} {fd : FuncData} {N ps : List Str} {k : Nat} {C : Con} (F : Fun K x qual st f fd) (Sc : FnScope N ps (defScope st)) (hC : ∀ xs S Q, C xs S Q → xs.length = ps.length)
    (hbody : ∀ (cdv : Value) (A : Around) (outer : List Env) (s : Shared) (H : Hp) (E : XK), Room k (A.deeper (envOfC qual (defScope st) s.heap.objs.size f cdv)) → ∀ xs S Q, C xs S Q →
      ∃ t, DB (cxOf CX0 P w K mg base N qual (defScope st) f cdv A outer s H E).nox (defBody st) t ∧ t { nx := fun m => R S.length (.d .non) m Q, rt := fun r m => R S.length r m Q } ⟨begE N.length xs, S⟩) :
    FnOk P w K mg base CX0 (k + 1) f fd ps (spD K C) := by
  refine F.ok Sc (fun vs H Q E h => ?_) (fun cdv A outer s H vs Q E hr h => ?_)
  · obtain ⟨G, as, xs, S, Qc, ok, hl, hc, _⟩ := h
    rw [← hl]; exact hC xs S Qc hc
  · obtain ⟨G, as, xs, S, Qc, ok, hl, hc, fin⟩ := h
    obtain ⟨t, ht, q⟩ := hbody cdv A outer s H E hr xs S Qc hc
    refine ⟨_, pss_sem _ _, ?_⟩
    have hpl : ps.length ≤ N.length := by have := congrArg List.length Sc.pre; rw [List.length_take] at this; omega
    have hxl : xs.length = ps.length := hC xs S Qc hc
    have ok0 : Ok K G H (start N vs) ⟨begE N.length xs, S⟩ as := by
      refine ⟨ok.same, ok.len, ?_, ok.nd, ok.alive, ok.out, fun i x e => ?_, ok.ce⟩
      · show (xs ++ List.replicate (N.length - xs.length) Sv.no).length ≤ (vs.map some ++ List.replicate (N.length - vs.length) none).length
        rw [List.length_append, List.length_append, List.length_replicate, List.length_replicate, List.length_map, hl]
        exact Nat.le_refl _
      · have e : (xs ++ List.replicate (N.length - xs.length) Sv.no)[i]? = some x := e
        by_cases hi : i < xs.length
        · rw [List.getElem?_append_left hi] at e
          rcases ok.sv i x e with z | ⟨v, z, r⟩
          · exact .inl z
          · refine .inr ⟨v, ?_, r⟩
            show (vs.map some ++ _)[i]? = _
            rw [List.getElem?_append_left (by rw [List.length_map, ← hl]; exact hi)]
            exact z
        · rw [List.getElem?_append_right (by omega), List.getElem?_replicate] at e
          split at e
          · cases e; exact .inl rfl
          · cases e
    have hS : S.length = as.length := ok.len.symm
    have back : ∀ v H', (∃ σ', OnV K σ' G H ⟨begE N.length xs, S⟩ as (fun r m => R S.length r m Qc) v H') → Q v H' := fun v H' ⟨σ', G', m', as', r, st, ok', sv, q'⟩ => by
      rw [hS] at q'
      obtain ⟨G2, r', S', as2, st2, ok2, q2⟩ := hR ok' st sv q'
      exact fin v H' G2 as2 r' S' st2 ok2 q2
    refine bSem_mono (ht.run G H _ _ as _ ok0 q) (fun σ' H' ⟨G', m', as', st, ok', q'⟩ => ?_) back (fun _ _ ⟨_, _, _, _, _, z⟩ => z.elim) (fun _ _ ⟨_, _, _, _, _, z⟩ => z.elim)
    exact back .non H' ⟨σ', G', m', as', .d .non, st, ok', .d .non, q'⟩
end
/-! ### promises of data: without cells; with a deal -/
abbrev PR := List D → (D → Prop) → Prop
def cP (P : PR) : Con := fun xs S Q => ∃ ds, xs = ds.map .d ∧ S = [] ∧ P ds fun d => Q (.d d) []
def cDl (P : PR) : Con := fun xs S Q => ∃ ds, xs = .r 0 :: ds.map .d ∧ S = [.dl 1, .hid] ∧ P ds fun d => Q (.d d) [.dl 1, .hid]
/-- values that stand still -/
def fzT : List Sv → Ms → (List D → Ms → Prop) → Prop
  | [], m, Q => Q [] m
  | x :: xs, m, Q => fzv x m fun d m1 => fzT xs m1 fun ds m2 => Q (d :: ds) m2
def eCallP (P : PR) (ta : A1) : E1 := fun m Q => ta m fun xs m1 => fzT xs m1 fun ds m2 => P ds fun d => Q (.d d) m2
def dlAt (S : List Cell) : Sv → Option (Nat × Nat)
  | .r k => (S[k]?).bind fun c => match c with
    | .dl j => (S[j]?).bind fun c => match c with
      | .hid => some (k, j)
      | _ => none
    | _ => none
  | _ => none
def eCallD (P : PR) (ta : A1) : E1 := fun m Q => ta m fun xs m1 => match xs with
  | x :: r => fzT r m1 fun ds m2 => one? (dlAt m2.s x) fun _ => P ds fun d => Q (.d d) m2
  | [] => False
theorem fzT_len : ∀ {xs : List Sv} {m : Ms} {Q : List D → Ms → Prop}, fzT xs m Q → fzAll (xs.map fun _ => true) xs m fun ys m2 => ∃ ds, ys = ds.map .d ∧ Q ds m2
  | [], m, Q, h => ⟨[], rfl, h⟩
  | x :: xs, m, Q, h => by
    show fzv x m fun d m1 => fzAll (xs.map fun _ => true) xs m1 fun ys m2 => ∃ ds, Sv.d d :: ys = ds.map .d ∧ Q ds m2
    have mono : ∀ {Q1 Q2 : D → Ms → Prop}, fzv x m Q1 → (∀ d m, Q1 d m → Q2 d m) → fzv x m Q2 := fun {Q1 Q2} h k => by
      cases x with
      | no => exact h
      | d d => exact k _ _ h
      | r i =>
        obtain ⟨c, e, h⟩ := one_cases h
        obtain ⟨d, e2, h⟩ := one_cases h
        exact Sy.one?.yes e (Sy.one?.yes e2 (k _ _ h))
    refine mono h fun d m1 h1 => ?_
    have := fzT_len (xs := xs) (m := m1) (Q := fun ds m2 => Q (d :: ds) m2) h1
    have mono2 : ∀ {xs : List Sv} {m : Ms} {Q1 Q2 : List Sv → Ms → Prop}, fzAll (xs.map fun _ => true) xs m Q1 → (∀ ys m, Q1 ys m → Q2 ys m) → fzAll (xs.map fun _ => true) xs m Q2 := by
      intro xs
      induction xs with
      | nil => intro m Q1 Q2 h k; exact k _ _ h
      | cons x xs ih =>
        intro m Q1 Q2 h k
        have h : fzv x m fun d m1 => fzAll (xs.map fun _ => true) xs m1 fun ys m2 => Q1 (.d d :: ys) m2 := h
        show fzv x m fun d m1 => fzAll (xs.map fun _ => true) xs m1 fun ys m2 => Q2 (.d d :: ys) m2
        cases x with
        | no => exact h
        | d d => exact ih (show fzAll _ xs m _ from h) fun ys m h => k _ _ h
        | r i =>
          obtain ⟨c, e, h⟩ := one_cases h
          obtain ⟨d, e2, h⟩ := one_cases h
          exact Sy.one?.yes e (Sy.one?.yes e2 (ih h fun ys m h => k _ _ h))
    exact mono2 this fun ys m2 ⟨ds, e, q⟩ => ⟨d :: ds, by rw [e]; rfl, q⟩
theorem svRefs_d (ds : List D) : svRefs (ds.map .d) = [] := by
  induction ds with
  | nil => rfl
  | cons d r ih => exact ih
theorem loans_d (S : List Cell) (ds : List D) : loans S (ds.map .d) = [] := by
  unfold loans
  rw [svRefs_d]
  rfl
theorem lendv_d (js : List Nat) (ds : List D) : (ds.map Sv.d).map (lendv js) = ds.map .d := by
  rw [List.map_map]; rfl
theorem loans_dl {S : List Cell} {k j : Nat} (ds : List D) (hk : S[k]? = some (.dl j)) (hj : S[j]? = some .hid) : loans S (.r k :: ds.map .d) = [k, j] := by
  have hkj : k ≠ j := fun e => by rw [e, hj] at hk; cases hk
  have g1 : S.getD k .gone = .dl j := by rw [List.getD_eq_getElem?_getD, hk]; rfl
  have g2 : S.getD j .gone = .hid := by rw [List.getD_eq_getElem?_getD, hj]; rfl
  unfold loans
  show reachS 3 S ((k :: svRefs (ds.map .d)).foldl addN []) = _
  rw [svRefs_d]
  show reachS 3 S [k] = _
  have h1 : (([k] : List Nat).flatMap fun k => kids (S.getD k .gone)) = [j] := by
    show kids (S.getD k .gone) ++ [] = _
    rw [g1]; rfl
  have h2 : (([k, j] : List Nat).flatMap fun k => kids (S.getD k .gone)) = [j] := by
    show kids (S.getD k .gone) ++ (kids (S.getD j .gone) ++ []) = _
    rw [g1, g2]; rfl
  have a1 : ([j] : List Nat).foldl addN [k] = [k, j] := by
    show addN [k] j = _
    unfold addN
    rw [if_neg (by simp [Ne.symm hkj])]
    rfl
  have a2 : ([j] : List Nat).foldl addN [k, j] = [k, j] := by
    show addN [k, j] j = _
    unfold addN
    rw [if_pos (by simp)]
  show reachS 2 S ((([k] : List Nat).flatMap fun k => kids (S.getD k .gone)).foldl addN [k]) = _
  rw [h1, a1]
  show reachS 1 S ((([k, j] : List Nat).flatMap fun k => kids (S.getD k .gone)).foldl addN [k, j]) = _
  rw [h2, a2]
  show (([k, j] : List Nat).flatMap fun k => kids (S.getD k .gone)).foldl addN [k, j] = _
  rw [h2, a2]
theorem merge_nil (S : List Cell) : mergeS [] S [] = S := by
  unfold mergeS putL
  simp
theorem merge_dl {S : List Cell} {k j : Nat} (hk : S[k]? = some (.dl j)) (hj : S[j]? = some .hid) : mergeS [k, j] S [.dl 1, .hid] = S := by
  unfold mergeS
  show putL [k, j] S [.dl j, .hid] ++ [] = S
  rw [List.append_nil]
  show (S.set k (.dl j)).set j .hid = S
  have lk := (List.getElem?_eq_some_iff.mp hk)
  have lj := (List.getElem?_eq_some_iff.mp hj)
  obtain ⟨l1, e1⟩ := lk
  obtain ⟨l2, e2⟩ := lj
  have s1 : S.set k (.dl j) = S := by rw [← e1, List.set_getElem_self]
  rw [s1, ← e2, List.set_getElem_self]
theorem dlAt_some {S : List Cell} {x : Sv} {p : Nat × Nat} (h : dlAt S x = some p) : x = .r p.1 ∧ S[p.1]? = some (.dl p.2) ∧ S[p.2]? = some .hid := by
  cases x with
  | no => cases h
  | d _ => cases h
  | r k =>
    obtain ⟨c, e1, h⟩ := Option.bind_eq_some_iff.mp (show ((S[k]?).bind fun c => match c with
    | .dl j => (S[j]?).bind fun c => match c with
      | .hid => some (k, j)
      | _ => none
    | _ => none) = some p from h)
    cases c <;> first | (cases h; done) | skip
    rename_i j
    obtain ⟨c2, e2, h⟩ := Option.bind_eq_some_iff.mp (show ((S[j]?).bind fun c => match c with
      | .hid => some (k, j)
      | _ => none) = some p from h)
    cases c2 <;> first | (cases h; done) | skip
    cases h
    exact ⟨rfl, e1, e2⟩
section
variable {X : Cx} {e : Expr} {es : List Expr} {ta : A1} {x : Str} {p pos : Pos} {f : Addr} {fd : FuncData} {ps : List Str} {k : Nat} {P : PR}
theorem sp_callX {C : Con} {σ : L2.St} {G H : Hp} {m : Ms} {as : List Addr} {Q : SK} {vs : List V} {xs : List Sv} (bs : List Bool) (ok : Ok X.K G H σ m as) (h : SvA X.K G as vs xs) (E : XK) {Q0 : List Sv → Ms → Prop}
    (q0 : fzAll bs xs m Q0) (q : ∀ ys m2, Q0 ys m2 → (loans m2.s ys).Nodup ∧ (∀ j ∈ loans m2.s ys, j < m2.s.length) ∧ C (ys.map (lendv (loans m2.s ys))) ((loans m2.s ys).map fun j => lendc (loans m2.s ys) (m2.s.getD j .gone)) fun r S' => Q (backv (loans m2.s ys) m2.s.length r) ⟨m2.e, mergeS (loans m2.s ys) m2.s S'⟩) :
    spD X.K C vs H (OnV X.K σ G H m as Q) E := by
  obtain ⟨ys, G1, m1, st1, ok1, r1, q1⟩ := fzAll_ok ok h q0
  obtain ⟨nd, hl, q1⟩ := q ys m1 q1
  refine ⟨G1, _, _, _, _, lend_ok ok1 nd hl r1, by rw [List.length_map]; exact (sva_len r1).symm, q1, fun v H' G' as' r S' st ok' q2 => ?_⟩
  obtain ⟨st2, ok2, sv⟩ := back_ok ok1 nd hl st ok'
  exact ⟨G', _, _, _, st1.trans st2, ok2, sv, q2⟩
theorem de_callC {C : Con} {t : List Sv → Ms → SK → Prop} (F : FnOk X.prog X.w X.K X.mg X.base CX0 k f fd ps (spD X.K C)) (hr : Room k X.A) (hg : Gl X x) (hm : X.mg x = some (.ref f)) (hk : PySem.W.keepIn X.K (.ref f) = true) (hb : Binds X.K fd ps [])
    (ha : DA X (e :: es) ta) (hC : ∀ xs m Q, t xs m Q → ∃ bs Q0, fzAll bs xs m Q0 ∧ ∀ ys m2, Q0 ys m2 → (loans m2.s ys).Nodup ∧ (∀ j ∈ loans m2.s ys, j < m2.s.length) ∧ C (ys.map (lendv (loans m2.s ys))) ((loans m2.s ys).map fun j => lendc (loans m2.s ys) (m2.s.getD j .gone)) fun r S' => Q (backv (loans m2.s ys) m2.s.length r) ⟨m2.e, mergeS (loans m2.s ys) m2.s S'⟩)
    (hdb : (x == ("__debug__" : Str)) = false := by decide) (he : starEach (e :: es) X.env = (false, eval e X.env) :: starEach es X.env := by rfl) (hpl : (backTo pos (starEach es X.env)).any (·.1) = false := by rfl) :
    DE X (.Call (.Name x p) (e :: es) [] pos) (fun m Q => ta m fun xs m1 => t xs m1 Q) := ⟨fun G H σ m as Q ok q => tSem_of (pe_call F hr hg hm hk hb .nil pass0 (pa_sem X (e :: es)) hdb he hpl) (by
  refine aSem_mono (ha.run G H σ m as _ ok q) fun vs H1 ⟨G1, m1, as1, xs, st1, ok1, r1, q1⟩ => ?_
  obtain ⟨bs, Q0, q2, q3⟩ := hC xs m1 Q q1
  have hh := sp_callX (Q := Q) bs ok1 r1 E0 q2 q3
  rw [List.append_nil]
  obtain ⟨Ga, as0, ys, S, Qc, h1, h2, h3, h4⟩ := hh
  exact ⟨Ga, as0, ys, S, Qc, h1, h2, h3, fun v H' G' as' r S' a b c => OnV.from st1 (h4 v H' G' as' r S' a b c)⟩)⟩
theorem de_callP (F : FnOk X.prog X.w X.K X.mg X.base CX0 k f fd ps (spD X.K (cP P))) (hr : Room k X.A) (hg : Gl X x) (hm : X.mg x = some (.ref f)) (hk : PySem.W.keepIn X.K (.ref f) = true) (hb : Binds X.K fd ps [])
    (ha : DA X (e :: es) ta) (hdb : (x == ("__debug__" : Str)) = false := by decide) (he : starEach (e :: es) X.env = (false, eval e X.env) :: starEach es X.env := by rfl) (hpl : (backTo pos (starEach es X.env)).any (·.1) = false := by rfl) :
    DE X (.Call (.Name x p) (e :: es) [] pos) (eCallP P ta) :=
  de_callC F hr hg hm hk hb ha (fun xs m Q q => ⟨_, _, fzT_len q, fun ys m2 ⟨ds, e, q2⟩ => by
    subst e
    rw [loans_d]
    refine ⟨List.nodup_nil, (fun j hj => by cases hj), ds, lendv_d _ _, rfl, ?_⟩
    dsimp only
    rw [merge_nil]
    exact q2⟩) hdb he hpl
theorem de_callDl (F : FnOk X.prog X.w X.K X.mg X.base CX0 k f fd ps (spD X.K (cDl P))) (hr : Room k X.A) (hg : Gl X x) (hm : X.mg x = some (.ref f)) (hk : PySem.W.keepIn X.K (.ref f) = true) (hb : Binds X.K fd ps [])
    (ha : DA X (e :: es) ta) (hdb : (x == ("__debug__" : Str)) = false := by decide) (he : starEach (e :: es) X.env = (false, eval e X.env) :: starEach es X.env := by rfl) (hpl : (backTo pos (starEach es X.env)).any (·.1) = false := by rfl) :
    DE X (.Call (.Name x p) (e :: es) [] pos) (eCallD P ta) :=
  de_callC (t := fun xs m1 Q => match xs with
    | x :: r => fzT r m1 fun ds m2 => one? (dlAt m2.s x) fun _ => P ds fun d => Q (.d d) m2
    | [] => False) F hr hg hm hk hb ha (fun xs m Q q => by
    cases xs with
    | nil => exact q.elim
    | cons y r =>
      refine ⟨false :: (r.map fun _ => true), fun ys m2 => ∃ ds, ys = y :: ds.map .d ∧ one? (dlAt m2.s y) fun _ => P ds fun d => Q (.d d) m2, ?_, fun ys m2 ⟨ds, e, q2⟩ => ?_⟩
      · have h := fzT_len (xs := r) (m := m) q
        have mono2 : ∀ {xs : List Sv} {m : Ms} {Q1 Q2 : List Sv → Ms → Prop}, fzAll (xs.map fun _ => true) xs m Q1 → (∀ ys m, Q1 ys m → Q2 ys m) → fzAll (xs.map fun _ => true) xs m Q2 := by
          intro xs
          induction xs with
          | nil => intro m Q1 Q2 h k; exact k _ _ h
          | cons x xs ih =>
            intro m Q1 Q2 h k
            have h : fzv x m fun d m1 => fzAll (xs.map fun _ => true) xs m1 fun ys m2 => Q1 (.d d :: ys) m2 := h
            show fzv x m fun d m1 => fzAll (xs.map fun _ => true) xs m1 fun ys m2 => Q2 (.d d :: ys) m2
            cases x with
            | no => exact h
            | d d => exact ih (show fzAll _ xs m _ from h) fun ys m h => k _ _ h
            | r i =>
              obtain ⟨c, e, h⟩ := one_cases h
              obtain ⟨d, e2, h⟩ := one_cases h
              exact Sy.one?.yes e (Sy.one?.yes e2 (ih h fun ys m h => k _ _ h))
        exact mono2 h fun ys m2 ⟨ds, e, q⟩ => ⟨ds, by rw [e], q⟩
      · subst e
        obtain ⟨⟨k, j⟩, e1, q3⟩ := one_cases q2
        obtain ⟨rfl, hk, hj⟩ := dlAt_some e1
        have hkj : k ≠ j := fun e => by dsimp only at hk hj; rw [e, hj] at hk; cases hk
        rw [loans_dl ds hk hj]
        have lk := (List.getElem?_eq_some_iff.mp hk).1
        have lj := (List.getElem?_eq_some_iff.mp hj).1
        refine ⟨by simp [hkj], fun i hi => ?_, ds, ?_, ?_, ?_⟩
        · rcases List.mem_cons.mp hi with z | z
          · rw [z]; exact lk
          · rw [List.mem_singleton.mp z]; exact lj
        · rw [List.map_cons, lendv_d]
          show lendv [k, j] (.r k) :: _ = _
          rw [lend_dv]
        · show [lendc [k, j] (m2.s.getD k .gone), lendc [k, j] (m2.s.getD j .gone)] = _
          rw [List.getD_eq_getElem?_getD, List.getD_eq_getElem?_getD, hk, hj]
          show [lendc [k, j] (.dl j), .hid] = _
          rw [lend_dl hkj]
        · dsimp only
          rw [merge_dl hk hj]
          exact q3) hdb he hpl
end
/-! ### small facts for what is kept apart -/
theorem mulA {i j : Int} (h : -18446744073709551616 < i) (h' : i < 18446744073709551616) : CMul i j := .inl ⟨h, h'⟩
theorem mulB {i j : Int} (h : -18446744073709551616 < j) (h' : j < 18446744073709551616) : CMul i j := .inr ⟨h, h'⟩
theorem divA {i j : Int} (h : 0 < j) (h' : j < 4611686018427387904) : CDivW i j := ⟨h, by
  have h1 : j.natAbs < 2 ^ 62 := by omega
  have h2 := (Nat.log2_lt (n := j.natAbs) (k := 62) (by omega)).mpr h1
  omega⟩
theorem szLt {n : Nat} (h : Nat.ble n 1000 = true) : n < sizeLine := Nat.lt_of_le_of_lt (Nat.le_of_ble_eq_true h) (by decide)
theorem szLe {n : Nat} (h : Nat.ble n 1000 = true) : n ≤ sizeLine := Nat.le_of_lt (szLt h)
theorem pop_get (ns : List Int) (h : ns ≠ []) : (ns.map fun n => Sv.d (.int n))[(ns.map fun n => Sv.d (.int n)).length - 1]? = some (.d (.int (ns.getLast h))) := by
  rw [List.getElem?_map, List.length_map, ← List.getLast?_eq_getElem?, List.getLast?_eq_getLast h]
  rfl
theorem cut_ints {n : Nat} {S : List Cell} (ns : List Int) : ((ns.map fun n => Sv.d (.int n)).dropLast).map (cutv n S) = ns.dropLast.map fun n => Sv.d (.int n) := by
  rw [← List.map_dropLast, List.map_map]
  rfl
theorem cutL_map {α β : Type} (f : α → β) (xs : List α) (lo hi : Option Int) : cutL (xs.map f) lo hi = (cutL xs lo hi).map f := by
  unfold cutL
  rw [List.length_map, List.map_take, List.map_drop]
theorem cutL_le {α : Type} (xs : List α) (lo hi : Option Int) : (cutL xs lo hi).length ≤ xs.length := by
  unfold cutL
  rw [List.length_take, List.length_drop]
  omega
theorem mem_cutL {α : Type} {xs : List α} {lo hi : Option Int} {x : α} (h : x ∈ cutL xs lo hi) : x ∈ xs := List.mem_of_mem_drop (List.mem_of_mem_take h)
def iL (ns : List Int) : List Sv := ns.map fun n => .d (.int n)
theorem iL_get {ns : List Int} {i : Nat} {x : Sv} (h : (iL ns)[i]? = some x) : ∃ n, ns[i]? = some n ∧ x = .d (.int n) ∧ n ∈ ns := by
  unfold iL at h
  rw [List.getElem?_map] at h
  obtain ⟨n, e, rfl⟩ := Option.map_eq_some_iff.mp h
  exact ⟨n, e, rfl, List.mem_of_getElem? e⟩
theorem get_lt {α : Type} {l : List α} {i : Nat} {x : α} (h : l[i]? = some x) : i < l.length := (List.getElem?_eq_some_iff.mp h).1
theorem iL_d (ns : List Int) : ((ns.map D.int).map Sv.d) = iL ns := by
  rw [List.map_map]; rfl
/-- the deal: of whole numbers, from a place on -/
def cDeal : Con := fun xs S Q => ∃ (ns : List Int) (b : Int), xs = [.d (.scr (ns.map .int)), .d (.int b)] ∧ S = [] ∧ (ns.length ≤ 63 ∧ 0 ≤ b ∧ b ≤ 1000) ∧ Q (.r 0) [.dl 1, .hid]
theorem cut_iL {n : Nat} {S : List Cell} (ns : List Int) : (iL ns).map (cutv n S) = iL ns := by
  unfold iL
  rw [List.map_map]
  rfl
theorem cut_md {n : Nat} {S : List Cell} (ds : List D) : (ds.map Sv.d).map (cutv n S) = ds.map Sv.d := by
  rw [List.map_map]
  rfl
theorem max_neg (n : Int) : 0 ≤ (if 0 - n > n then 0 - n else n) := by split <;> omega
theorem szLt' {n : Nat} (h : n ≤ 1000000) : n < sizeLine := Nat.lt_of_le_of_lt h (by decide)
theorem szLe' {n : Nat} (h : n ≤ 1000000) : n ≤ sizeLine := Nat.le_of_lt (szLt' h)
theorem ms2 {e : List Sv} {a a' b b' : List Sv} (h : a = a') (h' : b = b') : Ms.mk e [.ls a, .ls b] = Ms.mk e [.ls a', .ls b'] := by rw [h, h']
theorem snoc_int (zs : List Int) (z : Int) : zs.map D.int ++ [.int z] = (zs ++ [z]).map D.int := by rw [List.map_append]; rfl
theorem snoc_nn {zs : List Int} {z : Int} (h : ∀ x ∈ zs, 0 ≤ x) (h' : 0 ≤ z) : ∀ x ∈ zs ++ [z], 0 ≤ x := fun x hx => by
  rcases List.mem_append.mp hx with hx | hx
  · exact h x hx
  · rw [List.mem_singleton.mp hx]; exact h'
theorem snoc_len {α : Type} (zs : List α) (z : α) : (zs ++ [z]).length = zs.length + 1 := by rw [List.length_append]; rfl
theorem rev_ints (ws : List Int) : ((ws.map D.int).map Sv.d).reverse = ws.reverse.map fun n => Sv.d (.int n) := by rw [iL_d]; unfold iL; rw [List.map_reverse]
theorem lc2 {a a' b b' : List Sv} {c : List Cell} (h : a = a') (h' : b = b') : Cell.ls a :: Cell.ls b :: c = .ls a' :: .ls b' :: c := by rw [h, h']
def eDeal (ta : A1) : E1 := fun m Q => ta m fun xs m1 => ∃ (ns : List Int) (b : Int), xs = [.d (.scr (ns.map .int)), .d (.int b)] ∧ (ns.length ≤ 63 ∧ 0 ≤ b ∧ b ≤ 1000) ∧ Q (.r m1.s.length) ⟨m1.e, m1.s ++ [.dl (m1.s.length + 1), .hid]⟩
section
variable {X : Cx} {e : Expr} {es : List Expr} {ta : A1} {x : Str} {p pos : Pos} {f : Addr} {fd : FuncData} {ps : List Str} {k : Nat}
theorem de_deal (F : FnOk X.prog X.w X.K X.mg X.base CX0 k f fd ps (spD X.K cDeal)) (hr : Room k X.A) (hg : Gl X x) (hm : X.mg x = some (.ref f)) (hk : PySem.W.keepIn X.K (.ref f) = true) (hb : Binds X.K fd ps [])
    (ha : DA X (e :: es) ta) (hdb : (x == ("__debug__" : Str)) = false := by decide) (he : starEach (e :: es) X.env = (false, eval e X.env) :: starEach es X.env := by rfl) (hpl : (backTo pos (starEach es X.env)).any (·.1) = false := by rfl) :
    DE X (.Call (.Name x p) (e :: es) [] pos) (eDeal ta) :=
  de_callC (t := fun xs m1 Q => ∃ (ns : List Int) (b : Int), xs = [.d (.scr (ns.map .int)), .d (.int b)] ∧ (ns.length ≤ 63 ∧ 0 ≤ b ∧ b ≤ 1000) ∧ Q (.r m1.s.length) ⟨m1.e, m1.s ++ [.dl (m1.s.length + 1), .hid]⟩) F hr hg hm hk hb ha (fun xs m Q ⟨ns, b, e, hb, q⟩ => by
    subst e
    refine ⟨[], fun ys m2 => ys = [.d (.scr (ns.map .int)), .d (.int b)] ∧ m2 = m, ⟨rfl, rfl⟩, fun ys m2 ⟨e1, e2⟩ => ?_⟩
    subst e1 e2
    have hl : loans m2.s [.d (.scr (ns.map .int)), .d (.int b)] = [] := loans_d m2.s [.scr (ns.map .int), .int b]
    rw [hl]
    refine ⟨List.nodup_nil, (fun j hj => by cases hj), ns, b, rfl, rfl, hb, ?_⟩
    have e1 : mergeS [] m2.s [.dl 1, .hid] = m2.s ++ [.dl (m2.s.length + 1), .hid] := by
      unfold mergeS putL
      rfl
    dsimp only
    rw [e1]
    exact q) hdb he hpl
end
theorem rng_get {lo : Int} {n i : Nat} {x : Sv} (h : (rng lo n)[i]? = some x) : x = .d (.int (lo + (i : Nat))) ∧ i < n := by
  unfold rng at h
  rw [List.getElem?_map] at h
  obtain ⟨c, e, rfl⟩ := Option.map_eq_some_iff.mp h
  have hl : i < n := by have := (List.getElem?_eq_some_iff.mp e).1; simpa using this
  rw [List.getElem?_range hl] at e
  cases e
  exact ⟨rfl, hl⟩
theorem rng_len (lo : Int) (n : Nat) : (rng lo n).length = n := by
  unfold rng
  rw [List.length_map, List.length_range]
theorem md_get {α : Type} {f : α → D} {ts : List α} {i : Nat} {x : Sv} (h : ((ts.map f).map Sv.d)[i]? = some x) : ∃ t, ts[i]? = some t ∧ x = .d (f t) ∧ t ∈ ts := by
  rw [List.map_map, List.getElem?_map] at h
  obtain ⟨n, e, rfl⟩ := Option.map_eq_some_iff.mp h
  exact ⟨n, e, rfl, List.mem_of_getElem? e⟩
theorem md_len {α : Type} (f : α → D) (ts : List α) : ((ts.map f).map Sv.d).length = ts.length := by rw [List.length_map, List.length_map]
theorem md_app {α : Type} (f : α → D) (ts us : List α) : ((ts.map f).map Sv.d) ++ ((us.map f).map Sv.d) = ((ts ++ us).map f).map Sv.d := by rw [List.map_append, List.map_append]
theorem md_cut {α : Type} (f : α → D) (ts : List α) (lo hi : Option Int) : cutL ((ts.map f).map Sv.d) lo hi = ((cutL ts lo hi).map f).map Sv.d := by rw [cutL_map, cutL_map]
theorem allD_md (ds : List D) : allD (ds.map Sv.d) = some ds := by
  induction ds with
  | nil => rfl
  | cons d r ih => unfold List.map allD; rw [ih]
theorem blsD_rep (n : Nat) (b : Bool) : blsD (List.replicate n (.bl b)) = some (List.replicate n b) := by
  induction n with
  | zero => rfl
  | succ n ih => rw [List.replicate_succ, List.replicate_succ]; unfold blsD; rw [ih]; rfl
theorem all_rep (n : Nat) : (List.replicate n true).all id = true := by
  rw [List.all_eq_true]
  intro x h
  rw [(List.mem_replicate.mp h).2]
  rfl
theorem rep_snoc (n : Nat) (d : D) : List.replicate n d ++ [d] = List.replicate (n + 1) d := (List.replicate_succ' ..).symm
theorem smlA {i : Int} (h : -4611686018427387904 ≤ i) (h' : i < 4611686018427387904) : sml i := ⟨h, h'⟩
theorem lc4 {a a' b b' : List Sv} {c : List Cell} (h : a = a') (h' : b = b') : Cell.dl 1 :: Cell.hid :: Cell.ls a :: Cell.ls b :: c = .dl 1 :: .hid :: .ls a' :: .ls b' :: c := by rw [h, h']
theorem ms4 {e : List Sv} {a a' b b' : List Sv} (h : a = a') (h' : b = b') : Ms.mk e [.dl 1, .hid, .ls a, .ls b] = Ms.mk e [.dl 1, .hid, .ls a', .ls b'] := by rw [h, h']
theorem ms5 {e : List Sv} {a a' b b' : List Sv} {c : Cell} (h : a = a') (h' : b = b') : Ms.mk e [.dl 1, .hid, .ls a, .ls b, c] = Ms.mk e [.dl 1, .hid, .ls a', .ls b', c] := by rw [h, h']
theorem lc6 {a a' b b' c c' d d' : List Sv} (h : a = a') (h' : b = b') (h2 : c = c') (h3 : d = d') : [Cell.dl 1, Cell.hid, Cell.ls a, Cell.ls b, Cell.ls c, Cell.ls d] = [Cell.dl 1, Cell.hid, Cell.ls a', Cell.ls b', Cell.ls c', Cell.ls d'] := by rw [h, h', h2, h3]
/-- a law: it answers True to every script -/
def cLaw : Con := fun xs S Q => ∃ ns : List Int, xs = [.d (.scr (ns.map .int))] ∧ S = [] ∧ ns.length ≤ 63 ∧ Q (.d (.bl true)) []
theorem rp_ints {K : PySem.W.Frag} {G : Hp} (ns : List Int) : RpAll K G (ns.map V.int) (ns.map D.int) := by
  induction ns with
  | nil => exact .nil
  | cons n r ih => exact .cons (.int n) ih
theorem law_in {K : PySem.W.Frag} {H : Hp} {a : Addr} {ns : List Int} {Q : VK} {E : XK} (hl : ns.length ≤ 63) (hS : SqL K H a (ns.map V.int)) (hQ : ∀ H', Q (.bl true) H') : spD K cLaw [.ref a] H Q E := by
  refine ⟨H, [], [.d (.scr (ns.map .int))], [], fun r _ => r = .d (.bl true), ⟨Same.refl H, rfl, Nat.le_refl _, (fun i j b h => by cases h), (fun k b h => by cases h), (fun b ⟨k, c, h, _⟩ => by cases h), fun i x h => ?_, (fun k c b h => by cases h)⟩, rfl, ⟨ns, rfl, rfl, hl, rfl⟩, fun v H' G' as' r S' st ok q => ?_⟩
  · obtain ⟨rfl, rfl⟩ := one_get h
    exact .inr ⟨_, rfl, .d (.scr hS (rp_ints ns))⟩
  · subst q
    rcases ok.sv 0 _ rfl with z | ⟨v', z, r⟩
    · cases z
    · cases z
      cases svd r
      exact hQ H'
end Sy
set_option Elab.async false
namespace Sy
open PySem PySem.Spec PyProof.Rows L2
/-! ### promises of defs that are called while no repr is under way -/
structure FnG (P : Program) (w : World) (K : PySem.W.Frag) (mg : Str → Option Value) (base : Heap) (k : Nat) (f : Addr) (fd : FuncData) (ps : List Str) (sp : Sp) : Prop where
  arity : ∀ vs H Q E, sp vs H Q E → vs.length = ps.length
  go : ∀ {A : Around} {outer : List Env} {s : Shared} {H : Hp} {args : Args} {us : List Value} {vs : List V} {Q : VK} {E : XK}, Room k A → A.guards = some [] → Env0 P w K mg base A outer s H → BindsTo s fd args (ps.zip us) → Vals vs us → sp vs H Q E →
    codeAny (model P w) A (.call (.ref f) args) (CR CX0 outer P w H s Q E) s
theorem FnG.mono {P : Program} {w : World} {K : PySem.W.Frag} {mg : Str → Option Value} {base : Heap} {j k : Nat} {f : Addr} {fd : FuncData} {ps : List Str} {sp : Sp} (F : FnG P w K mg base j f fd ps sp) (h : j ≤ k) : FnG P w K mg base k f fd ps sp :=
  ⟨F.arity, fun hr => F.go (hr.mono h)⟩
section
variable {P : Program} {w : World} {K : PySem.W.Frag} {mg : Str → Option Value} {base : Heap}
theorem Fun.okG {x qual : Str} {st : Stmt} {f : Addr} {fd : FuncData} {N ps : List Str} {k : Nat} {sp : Sp} (F : Fun K x qual st f fd) (Sc : FnScope N ps (defScope st)) (ar : ∀ vs H Q E, sp vs H Q E → vs.length = ps.length)
    (bd : ∀ (cdv : Value) (A : Around) (outer : List Env) (s : Shared) (H : Hp) (vs : List V) (Q : VK) (E : XK), Room k (A.deeper (envOfC qual (defScope st) s.heap.objs.size f cdv)) → A.guards = some [] → sp vs H Q E →
      ∃ t, PSs (cxOf CX0 P w K mg base N qual (defScope st) f cdv A outer s H E).nox (defBody st) t ∧ t { nx := fun _ H' => Q .non H', rt := Q } (start N vs) H) : FnG P w K mg base (k + 1) f fd ps sp := by
  obtain ⟨oc, od, kV, doc, pm, an, cdv, ct, osl, rfl, at_, code⟩ := F.ex
  refine ⟨ar, fun {A outer s H args us vs Q E} room free e0 bnd rel hsp => ?_⟩
  have inK : K.In s.heap := e0.mod.kin.keeps fun b o z => (e0.bs b o z).1
  have noLim := e0.mod.nolimit.keeps (fun b o z => (e0.bs b o z).1 : ∀ b o, base.get? b = some o → s.heap.get? b = some o)
  refine codeAny_call_function room.depth (inK _ _ at_) rfl Sc.co Sc.gen rfl (PySem.W.codeRec_of inK code) (bnd _ _ _ _ ?_)
  refine wpAny_newFunctionEnv_cells Sc.kind (fun ⟨n, v⟩ hy => (Sc.par n (List.of_mem_zip hy).1).imp id fun q => ⟨q, PySem.W.cellsFrom_some _ _ _ (.inl q)⟩) fun env he s1 x1 => ?_
  subst he
  refine ⟨noLim.keeps x1.toInCall.keep, codeAny_func ?_⟩
  obtain ⟨t, walk, q0⟩ := bd cdv A outer s H vs Q E (room.deeper _) free hsp
  have st0 : Inv (cxOf CX0 P w K mg base N qual (defScope st) f cdv A outer s H E) [] (start N vs) H s1 := inv_start Sc room.hd e0 (ar _ _ _ _ hsp) rel x1
  refine wpAny_mono (walk.nox.run [] s1 (start N vs) H _ st0 q0) (fun fl s2 z => ?_) fun e s2 z => z
  cases fl with
  | next => exact match z with | ⟨_, H2, J, q⟩ => ⟨V.non, H2, J.os, J.bare, J.base, J.hok, rfl, q⟩
  | ret u => exact match z with | ⟨v, _, H2, J, r2, q⟩ => ⟨v, H2, J.os, J.bare, J.base, J.hok, r2, q⟩
  | brk => exact match z with | ⟨_, _, _, q⟩ => q.elim
  | cont => exact match z with | ⟨_, _, _, q⟩ => q.elim
end
section
variable {X : Cx} {e : Expr} {es : List Expr} {x : Str} {p pos : Pos} {f : Addr} {fd : FuncData} {ps : List Str} {k : Nat} {sp : Sp}
theorem FnG.call {pins : List (Addr × Obj)} {σ : L2.St} {H : Hp} {s : Shared} {Q : VK} {us : List Value} {vs : List V} (F : FnG X.prog X.w X.K X.mg X.base k f fd ps sp) (hr : Room k X.A) (free : X.A.guards = some []) (hb : Binds X.K fd ps [])
    (I : Inv X pins σ H s) (rel : Vals vs us) (h : sp vs H Q E0) : wpAny (model X.prog X.w) X.A (PySem.call (.ref f) us) (EP X pins σ Q) X.xe s := by
  have n : (us ++ ([] : List Value)).length = ps.length := by rw [List.append_nil, ← Vals.length rel]; exact F.arity _ _ _ _ h
  have bnd := hb s us I.kIn n
  rw [List.append_nil] at bnd
  refine wpAny_call (codeAny_mono (F.go hr free I.env0 bnd rel h) fun r s2 z => ?_)
  match r, z with
  | .ok (.ret u), z => exact I.after z
theorem pe_callG {t : TA} (F : FnG X.prog X.w X.K X.mg X.base k f fd ps sp) (hr : Room k X.A) (free : X.A.guards = some []) (hg : Gl X x) (hm : X.mg x = some (.ref f)) (hk : PySem.W.keepIn X.K (.ref f) = true) (hb : Binds X.K fd ps [])
    (ha : PA X (e :: es) t) (hdb : (x == ("__debug__" : Str)) = false := by decide) (he : starEach (e :: es) X.env = (false, eval e X.env) :: starEach es X.env := by rfl) (hpl : (backTo pos (starEach es X.env)).any (·.1) = false := by rfl) :
    PE X (.Call (.Name x p) (e :: es) [] pos) (fun σ H Q => t σ H fun vs H1 => sp vs H1 Q E0) := ⟨fun pins s σ H Q I h =>
  wpAny_Call_Name_kw (ld_glob I hg hm (PySem.W.callWith_K (h₀ := X.base) I.ok.mod.kin hk (thn (ha.run pos pins s σ H _ I h) fun us s1 ⟨vs, H1, I1, r, q⟩ => ⟨I1.kIn, F.call hr free hb I1 r q⟩) he hpl) hdb)⟩
end
/-! ### the law's own call -/
theorem law_callG {P : Program} {w : World} {K : PySem.W.Frag} {mg mb : Str → Option Value} {k : Nat} {fa a : Addr} {fd : FuncData} {x : Str} {sp : Sp} {t : Shared} {vs : List Value} {ns : List Int}
    (inK : K.In t.heap) (nsM : t.heap.Ns mainGlobals mg) (nsB : t.heap.Ns builtinsNs mb) (boot : ∀ y : Str, y ≠ "__name__" → mb y = bootBuiltins y) (lim : t.heap.NoLimit) (gens : t.gens = #[])
    (at_ : t.heap.get? a = some { cls := .type "list", data := .seq vs.toArray }) (digits : IntsAre vs ns) (short : ns.length ≤ sizeLine) (room : Room k callerA)
    (F : ∀ b : Heap, K.In b → b.Ns mainGlobals mg → FnG P w K mg b k fa fd [x] sp) (bnd : ∀ (s : Shared) (u : Value), BindsTo s fd ⟨[u], []⟩ [(x, u)])
    (hsp : ∀ H : Hp, SqL K H a (ns.map V.int) → sp [.ref a] H (fun v _ => v = .bl true) fun _ _ _ => False) :
    codeAny (model P w) callerA (.call (.ref fa) ⟨[.ref a], []⟩) (fun r s' => r = .ok (.ret (.bool true)) ∧ OldK t.heap s'.heap ∧ s'.os = t.os ∧ AllBare s'.gens) t := by
  -- whatever is tracked ahead of the call stands frozen, and is the script
  have main : ∀ H : Hp, (∀ b, H b = none ∨ (b = a ∧ K.lookup a = none ∧ ∃ o xs, H b = some (.frz o (.lst xs)))) → SqL K H a (ns.map V.int) → HOk P w H t.heap →
      codeAny (model P w) callerA (.call (.ref fa) ⟨[.ref a], []⟩) (fun r s' => r = .ok (.ret (.bool true)) ∧ OldK t.heap s'.heap ∧ s'.os = t.os ∧ AllBare s'.gens) t := by
    intro H only sq hok
    have stays : ∀ {b : Addr} {o : Obj}, t.heap.get? b = some o → b ≠ a → (hidT t.heap H).get? b = some o := fun {b o} z ne => hidT_get z ((only b).resolve_right fun q => ne q.1)
    have dicts : ∀ {b : Addr} {m : Str → Option Value}, t.heap.Ns b m → (hidT t.heap H).Ns b m := fun {b m} ⟨o, es, ep, z, d, r⟩ => ⟨o, es, ep, stays z (fun q => by
      rw [q, at_] at z
      cases z
      cases (show Data.seq vs.toArray _ = Data.dict es ep from d)), d, r⟩
    have inB : K.In (hidT t.heap H) := fun b o z => by
      rcases only b with q | ⟨q, q2, _⟩
      · exact hidT_get (inK b o z) q
      · rw [q, q2] at z; cases z
    have modB : Mod K mg (hidT t.heap H) := ⟨inB, dicts nsM, ⟨mb, dicts nsB, boot⟩, let ⟨mc, h1, h2⟩ := lim; ⟨mc, dicts h1, h2⟩⟩
    have env : Env0 P w K mg (hidT t.heap H) callerA [] t H := ⟨rfl, modB, fun b o z => of_hidT z, Nat.le_of_eq (hidT_size _ _), trivial, (fun b z => by cases z), hok, AllBare.of_eq gens⟩
    refine codeAny_mono ((F _ inB (dicts nsM)).go room rfl env (us := [.ref a]) (vs := [.ref a]) (bnd t (.ref a)) (.cons rfl .nil) (hsp H sq)) fun r s2 z => ?_
    match r, z with
    | .ok (.ret u), ⟨v, H2, os, bare, un, hok2, rel, q⟩ =>
      cases (show v = .bl true from q)
      cases (show u = Value.bool true from rel)
      refine ⟨rfl, OldK.of_keep fun b o z => ?_, os, bare⟩
      rcases only b with n | ⟨_, _, ob, xs, n⟩
      · exact un.keep b o z n (fun q => by cases q) (fun q => by cases q)
      · have n2 := un.frzs b ob _ n
        obtain ⟨e1, _⟩ := hok b _ n
        obtain ⟨e2, _⟩ := hok2 b _ n2
        rw [z] at e1
        cases e1
        exact e2
  have rel := vals_ints digits
  cases own : K.lookup a with
  | none =>
    refine main (fun b => if b = a then some (.frz { cls := .type "list", data := .seq vs.toArray } (.lst (ns.map V.int))) else none) (fun b => ?_) (.inl (.inr ⟨_, if_pos rfl⟩)) fun b u z => ?_
    · by_cases q : b = a
      · exact .inr ⟨q, own, _, _, if_pos q⟩
      · exact .inl (if_neg q)
    · by_cases q : b = a
      · cases (if_pos q).symm.trans z
        rw [q]
        exact ⟨at_, by rw [List.length_map]; exact short, vs, _, rel, at_⟩
      · cases (if_neg q).symm.trans z
  | some o =>
    have z := inK a o own
    rw [at_] at z
    cases z
    exact main (fun _ => none) (fun _ => .inl rfl) (.inr ⟨_, vs.toArray, _, own, rfl, rfl, rfl, by rw [List.size_toArray, digits.length]; exact short, by simpa using rel⟩) fun b u z => by cases (show (none : Option HO) = some u from z)
theorem walk_ofG {l : PySem.W.OpenLaw} {n k : Nat} {q : Program} {loose : List Str} {XP : (Str → Option Value) → Heap → Prop} {YP : World → Heap → Prop} {d : DefRec} {K : Params → PySem.W.Frag} {sp : World → Sp} {x : Str}
    (most : l.most = some n) (fits : n ≤ sizeLine) (plain : d.params.defaults = []) (room : Room k callerA) (inY : ∀ (w : World) (h : Heap), YP w h → (K w.params).In h)
    (F : ∀ (w : World) (mg : Str → Option Value) (fa : Addr) (h : Heap), (K w.params).In h → h.Ns mainGlobals mg → mg d.name = some (.ref fa) →
      ∃ fd : FuncData, (∀ (s : Shared) (u : Value), BindsTo s fd ⟨[u], []⟩ [(x, u)]) ∧ ∀ b : Heap, (K w.params).In b → b.Ns mainGlobals mg → FnG l.prog w (K w.params) mg b k fa fd [x] (sp w))
    (hsp : ∀ (w : World) (H : Hp) (a : Addr) (ns : List Int), ns.length ≤ n → SqL (K w.params) H a (ns.map V.int) → sp w [.ref a] H (fun v _ => v = .bl true) fun _ _ _ => False) :
    PySem.W.WalkO q loose XP YP l.row.toRowW d [] (fun f vs => PySem.call f vs) := by
  refine Att.attach_call most plain fun w s₀ s₁ mg mb fa o pm cd doc a vs ns G Y ho hd hcd hmg obj digits len gens => ?_
  obtain ⟨fd, bnd, go⟩ := F w mg fa _ (inY w _ Y) G.T.g hmg
  exact law_callG (inY w _ Y) G.T.g G.T.b G.T.builtins G.T.nolimit gens obj digits (Nat.le_trans len fits) room go bnd fun H sq => hsp w H a ns len sq
end Sy
set_option Elab.async false
namespace Sy
open PySem PySem.Spec PyProof.Rows L2
section
variable {P : Program} {w : World} {K : PySem.W.Frag} {mg : Str → Option Value} {base : Heap}
theorem fnG {R : RT} (hR : RetOk R) {x qual : Str} {st : Stmt} {f : Addr} {fd : FuncData} {N ps : List Str} {k : Nat} {C : Con} (F : Fun K x qual st f fd) (Sc : FnScope N ps (defScope st)) (hC : ∀ xs S Q, C xs S Q → xs.length = ps.length)
    (hbody : ∀ (cdv : Value) (A : Around) (outer : List Env) (s : Shared) (H : Hp) (E : XK), Room k (A.deeper (envOfC qual (defScope st) s.heap.objs.size f cdv)) → A.guards = some [] → ∀ xs S Q, C xs S Q →
      ∃ t, DB (cxOf CX0 P w K mg base N qual (defScope st) f cdv A outer s H E).nox (defBody st) t ∧ t { nx := fun m => R S.length (.d .non) m Q, rt := fun r m => R S.length r m Q } ⟨begE N.length xs, S⟩) :
    FnG P w K mg base (k + 1) f fd ps (spD K C) := by
  refine Fun.okG F Sc (fun vs H Q E h => ?_) (fun cdv A outer s H vs Q E hr free h => ?_)
  · obtain ⟨G, as, xs, S, Qc, ok, hl, hc, _⟩ := h
    rw [← hl]; exact hC xs S Qc hc
  · obtain ⟨G, as, xs, S, Qc, ok, hl, hc, fin⟩ := h
    obtain ⟨t, ht, q⟩ := hbody cdv A outer s H E hr free xs S Qc hc
    refine ⟨_, pss_sem _ _, ?_⟩
    have hpl : ps.length ≤ N.length := by have := congrArg List.length Sc.pre; rw [List.length_take] at this; omega
    have hxl : xs.length = ps.length := hC xs S Qc hc
    have ok0 : Ok K G H (start N vs) ⟨begE N.length xs, S⟩ as := by
      refine ⟨ok.same, ok.len, ?_, ok.nd, ok.alive, ok.out, fun i x e => ?_, ok.ce⟩
      · show (xs ++ List.replicate (N.length - xs.length) Sv.no).length ≤ (vs.map some ++ List.replicate (N.length - vs.length) none).length
        rw [List.length_append, List.length_append, List.length_replicate, List.length_replicate, List.length_map, hl]
        exact Nat.le_refl _
      · have e : (xs ++ List.replicate (N.length - xs.length) Sv.no)[i]? = some x := e
        by_cases hi : i < xs.length
        · rw [List.getElem?_append_left hi] at e
          rcases ok.sv i x e with z | ⟨v, z, r⟩
          · exact .inl z
          · refine .inr ⟨v, ?_, r⟩
            show (vs.map some ++ _)[i]? = _
            rw [List.getElem?_append_left (by rw [List.length_map, ← hl]; exact hi)]
            exact z
        · rw [List.getElem?_append_right (by omega), List.getElem?_replicate] at e
          split at e
          · cases e; exact .inl rfl
          · cases e
    have hS : S.length = as.length := ok.len.symm
    have back : ∀ v H', (∃ σ', OnV K σ' G H ⟨begE N.length xs, S⟩ as (fun r m => R S.length r m Qc) v H') → Q v H' := fun v H' ⟨σ', G', m', as', r, st, ok', sv, q'⟩ => by
      rw [hS] at q'
      obtain ⟨G2, r', S', as2, st2, ok2, q2⟩ := hR ok' st sv q'
      exact fin v H' G2 as2 r' S' st2 ok2 q2
    refine bSem_mono (ht.run G H _ _ as _ ok0 q) (fun σ' H' ⟨G', m', as', st, ok', q'⟩ => ?_) back (fun _ _ ⟨_, _, _, _, _, z⟩ => z.elim) (fun _ _ ⟨_, _, _, _, _, z⟩ => z.elim)
    exact back .non H' ⟨σ', G', m', as', .d .non, st, ok', .d .non, q'⟩
end
section
variable {X : Cx} {e : Expr} {es : List Expr} {ta : A1} {x : Str} {p pos : Pos} {f : Addr} {fd : FuncData} {ps : List Str} {k : Nat} {P : PR}
theorem de_callCG {C : Con} {t : List Sv → Ms → SK → Prop} (F : FnG X.prog X.w X.K X.mg X.base k f fd ps (spD X.K C)) (hr : Room k X.A) (free : X.A.guards = some []) (hg : Gl X x) (hm : X.mg x = some (.ref f)) (hk : PySem.W.keepIn X.K (.ref f) = true) (hb : Binds X.K fd ps [])
    (ha : DA X (e :: es) ta) (hC : ∀ xs m Q, t xs m Q → ∃ bs Q0, fzAll bs xs m Q0 ∧ ∀ ys m2, Q0 ys m2 → (loans m2.s ys).Nodup ∧ (∀ j ∈ loans m2.s ys, j < m2.s.length) ∧ C (ys.map (lendv (loans m2.s ys))) ((loans m2.s ys).map fun j => lendc (loans m2.s ys) (m2.s.getD j .gone)) fun r S' => Q (backv (loans m2.s ys) m2.s.length r) ⟨m2.e, mergeS (loans m2.s ys) m2.s S'⟩)
    (hdb : (x == ("__debug__" : Str)) = false := by decide) (he : starEach (e :: es) X.env = (false, eval e X.env) :: starEach es X.env := by rfl) (hpl : (backTo pos (starEach es X.env)).any (·.1) = false := by rfl) :
    DE X (.Call (.Name x p) (e :: es) [] pos) (fun m Q => ta m fun xs m1 => t xs m1 Q) := ⟨fun G H σ m as Q ok q => tSem_of (pe_callG F hr free hg hm hk hb (pa_sem X (e :: es)) hdb he hpl) (by
  refine aSem_mono (ha.run G H σ m as _ ok q) fun vs H1 ⟨G1, m1, as1, xs, st1, ok1, r1, q1⟩ => ?_
  obtain ⟨bs, Q0, q2, q3⟩ := hC xs m1 Q q1
  have hh := sp_callX (Q := Q) bs ok1 r1 E0 q2 q3
  obtain ⟨Ga, as0, ys, S, Qc, h1, h2, h3, h4⟩ := hh
  exact ⟨Ga, as0, ys, S, Qc, h1, h2, h3, fun v H' G' as' r S' a b c => OnV.from st1 (h4 v H' G' as' r S' a b c)⟩)⟩
theorem de_callPG (F : FnG X.prog X.w X.K X.mg X.base k f fd ps (spD X.K (cP P))) (hr : Room k X.A) (free : X.A.guards = some []) (hg : Gl X x) (hm : X.mg x = some (.ref f)) (hk : PySem.W.keepIn X.K (.ref f) = true) (hb : Binds X.K fd ps [])
    (ha : DA X (e :: es) ta) (hdb : (x == ("__debug__" : Str)) = false := by decide) (he : starEach (e :: es) X.env = (false, eval e X.env) :: starEach es X.env := by rfl) (hpl : (backTo pos (starEach es X.env)).any (·.1) = false := by rfl) :
    DE X (.Call (.Name x p) (e :: es) [] pos) (eCallP P ta) :=
  de_callCG F hr free hg hm hk hb ha (fun xs m Q q => ⟨_, _, fzT_len q, fun ys m2 ⟨ds, e, q2⟩ => by
    subst e
    rw [loans_d]
    refine ⟨List.nodup_nil, (fun j hj => by cases hj), ds, lendv_d _ _, rfl, ?_⟩
    dsimp only
    rw [merge_nil]
    exact q2⟩) hdb he hpl
theorem de_callDlG (F : FnG X.prog X.w X.K X.mg X.base k f fd ps (spD X.K (cDl P))) (hr : Room k X.A) (free : X.A.guards = some []) (hg : Gl X x) (hm : X.mg x = some (.ref f)) (hk : PySem.W.keepIn X.K (.ref f) = true) (hb : Binds X.K fd ps [])
    (ha : DA X (e :: es) ta) (hdb : (x == ("__debug__" : Str)) = false := by decide) (he : starEach (e :: es) X.env = (false, eval e X.env) :: starEach es X.env := by rfl) (hpl : (backTo pos (starEach es X.env)).any (·.1) = false := by rfl) :
    DE X (.Call (.Name x p) (e :: es) [] pos) (eCallD P ta) :=
  de_callCG (t := fun xs m1 Q => match xs with
    | x :: r => fzT r m1 fun ds m2 => one? (dlAt m2.s x) fun _ => P ds fun d => Q (.d d) m2
    | [] => False) F hr free hg hm hk hb ha (fun xs m Q q => by
    cases xs with
    | nil => exact q.elim
    | cons y r =>
      refine ⟨false :: (r.map fun _ => true), fun ys m2 => ∃ ds, ys = y :: ds.map .d ∧ one? (dlAt m2.s y) fun _ => P ds fun d => Q (.d d) m2, ?_, fun ys m2 ⟨ds, e, q2⟩ => ?_⟩
      · have h := fzT_len (xs := r) (m := m) q
        have mono2 : ∀ {xs : List Sv} {m : Ms} {Q1 Q2 : List Sv → Ms → Prop}, fzAll (xs.map fun _ => true) xs m Q1 → (∀ ys m, Q1 ys m → Q2 ys m) → fzAll (xs.map fun _ => true) xs m Q2 := by
          intro xs
          induction xs with
          | nil => intro m Q1 Q2 h k; exact k _ _ h
          | cons x xs ih =>
            intro m Q1 Q2 h k
            have h : fzv x m fun d m1 => fzAll (xs.map fun _ => true) xs m1 fun ys m2 => Q1 (.d d :: ys) m2 := h
            show fzv x m fun d m1 => fzAll (xs.map fun _ => true) xs m1 fun ys m2 => Q2 (.d d :: ys) m2
            cases x with
            | no => exact h
            | d d => exact ih (show fzAll _ xs m _ from h) fun ys m h => k _ _ h
            | r i =>
              obtain ⟨c, e, h⟩ := one_cases h
              obtain ⟨d, e2, h⟩ := one_cases h
              exact Sy.one?.yes e (Sy.one?.yes e2 (ih h fun ys m h => k _ _ h))
        exact mono2 h fun ys m2 ⟨ds, e, q⟩ => ⟨ds, by rw [e], q⟩
      · subst e
        obtain ⟨⟨k, j⟩, e1, q3⟩ := one_cases q2
        obtain ⟨rfl, hk, hj⟩ := dlAt_some e1
        have hkj : k ≠ j := fun e => by dsimp only at hk hj; rw [e, hj] at hk; cases hk
        rw [loans_dl ds hk hj]
        have lk := (List.getElem?_eq_some_iff.mp hk).1
        have lj := (List.getElem?_eq_some_iff.mp hj).1
        refine ⟨by simp [hkj], fun i hi => ?_, ds, ?_, ?_, ?_⟩
        · rcases List.mem_cons.mp hi with z | z
          · rw [z]; exact lk
          · rw [List.mem_singleton.mp z]; exact lj
        · rw [List.map_cons, lendv_d]
          show lendv [k, j] (.r k) :: _ = _
          rw [lend_dv]
        · show [lendc [k, j] (m2.s.getD k .gone), lendc [k, j] (m2.s.getD j .gone)] = _
          rw [List.getD_eq_getElem?_getD, List.getD_eq_getElem?_getD, hk, hj]
          show [lendc [k, j] (.dl j), .hid] = _
          rw [lend_dl hkj]
        · dsimp only
          rw [merge_dl hk hj]
          exact q3) hdb he hpl
theorem de_dealG (F : FnG X.prog X.w X.K X.mg X.base k f fd ps (spD X.K cDeal)) (hr : Room k X.A) (free : X.A.guards = some []) (hg : Gl X x) (hm : X.mg x = some (.ref f)) (hk : PySem.W.keepIn X.K (.ref f) = true) (hb : Binds X.K fd ps [])
    (ha : DA X (e :: es) ta) (hdb : (x == ("__debug__" : Str)) = false := by decide) (he : starEach (e :: es) X.env = (false, eval e X.env) :: starEach es X.env := by rfl) (hpl : (backTo pos (starEach es X.env)).any (·.1) = false := by rfl) :
    DE X (.Call (.Name x p) (e :: es) [] pos) (eDeal ta) :=
  de_callCG (t := fun xs m1 Q => ∃ (ns : List Int) (b : Int), xs = [.d (.scr (ns.map .int)), .d (.int b)] ∧ (ns.length ≤ 63 ∧ 0 ≤ b ∧ b ≤ 1000) ∧ Q (.r m1.s.length) ⟨m1.e, m1.s ++ [.dl (m1.s.length + 1), .hid]⟩) F hr free hg hm hk hb ha (fun xs m Q ⟨ns, b, e, hb, q⟩ => by
    subst e
    refine ⟨[], fun ys m2 => ys = [.d (.scr (ns.map .int)), .d (.int b)] ∧ m2 = m, ⟨rfl, rfl⟩, fun ys m2 ⟨e1, e2⟩ => ?_⟩
    subst e1 e2
    have hl : loans m2.s [.d (.scr (ns.map .int)), .d (.int b)] = [] := loans_d m2.s [.scr (ns.map .int), .int b]
    rw [hl]
    refine ⟨List.nodup_nil, (fun j hj => by cases hj), ns, b, rfl, rfl, hb, ?_⟩
    have e1 : mergeS [] m2.s [.dl 1, .hid] = m2.s ++ [.dl (m2.s.length + 1), .hid] := by
      unfold mergeS putL
      rfl
    dsimp only
    rw [e1]
    exact q) hdb he hpl
end
/-! ### repr of data -/
def oRepr : OC := fun xs m Q => match xs with
  | [x] => one? (vd m.s x) fun d => (d.pl = true ∧ d.py.showable = true ∧ d.py.depth ≤ 60 ∧ d.py.shown.length ≤ sizeLine) ∧ Q (.d (.str d.py.shown)) m
  | _ => False
mutual
theorem noDict_py : ∀ d : D, d.py.hasDict = false
  | .non => rfl
  | .bl _ => rfl
  | .int _ => rfl
  | .str _ => rfl
  | .lst xs => noDict_all xs
  | .scr xs => noDict_all xs
  | .tup xs => noDict_all xs
  | .dct _ => rfl
  | .ob _ _ => rfl
  | .v _ => rfl
theorem noDict_all : ∀ ds : List D, PyData.hasDictAll (pyAll ds) = false
  | [] => rfl
  | d :: r => by
    show (d.py.hasDict || PyData.hasDictAll (pyAll r)) = false
    rw [noDict_py d, noDict_all r]
    rfl
end
def D.isSq : D → Bool
  | .lst _ => true
  | .tup _ => true
  | .scr _ => true
  | _ => false
theorem sq_ref {K : PySem.W.Frag} {G : Hp} {v : V} {d : D} (h : d.isSq = true) (r : Rp K G v d) : ∃ a, v = .ref a := by
  cases r <;> first | exact ⟨_, rfl⟩ | (cases h; done)
theorem cd_repr {X : Cx} (hu : X.A.units + 64 < cLine) (free : X.A.guards = some []) : CallD X (.builtin "repr") oRepr := ⟨fun G H σ m as vs xs Q ok r q0 => by
  unfold oRepr at q0
  match xs, r, q0 with
  | [x], r, q0 =>
    obtain ⟨v, rfl, r1⟩ := sva1 r
    obtain ⟨d, e1, ⟨h1, h2, h3, h4⟩, q⟩ := one_cases q0
    have rp := vd_ok ok r1 e1
    have dp := rp.dp h1
    intro pins s σ' us I rel
    cases rel with
    | @cons _ u _ _ rel t =>
      cases t
      obtain ⟨bs, rd⟩ := Dp.reads I _ _ _ dp rel
      have fin : ∀ h' tu tk, (∀ b o, s.heap.get? b = some o → h'.get? b = some o) → EP X pins σ' (OnV X.K σ G H m as Q) (.str d.py.shown tu) { s with heap := h', toks := tk } := fun h' tu tk hk =>
        ⟨.str d.py.shown, H, I.kept (t' := tk) hk, ⟨tu, rfl⟩, OnV.d ok (.str _) q⟩
      cases hs : d.isSq with
      | true =>
        obtain ⟨a, rfl⟩ := sq_ref hs rp
        cases rel
        exact repr_of_reads' rd h2 (PyData.noDict_hsm (noDict_py d)) free (by omega) (fun _ _ e => e) fin h4
      | false =>
        have here := fin s.heap s.toks (s.toks + 1) (fun _ _ e => e)
        cases rp <;> first | (cases hs; done) | (cases h1; done) | skip
        · cases rel; exact PySem.P.repr_of_none here
        · cases rel; exact PySem.P.repr_of_bool here
        · obtain ⟨t, rfl⟩ := rel; exact PySem.P.repr_of_int (of_decide_eq_true h2) here
        · obtain ⟨t, rfl⟩ := rel; exact PySem.P.repr_of_str here h4⟩
end Sy
set_option Elab.async false
namespace Sy
open PySem PySem.Spec PyProof.Rows L2
/-! ### texts: times, join, index; chains -/
def repS (x : Str) (n : Int) : Str := if n < 1 then Str.empty else if (n == 1 || x.length == 0) = true then x else ⟨(List.replicate n.toNat x.cps).foldl (· ++ ·) #[]⟩
theorem fold_size (xs : Array Nat) : ∀ (k : Nat) (acc : Array Nat), ((List.replicate k xs).foldl (· ++ ·) acc).size = acc.size + k * xs.size
  | 0, acc => by simp
  | k + 1, acc => by
    rw [List.replicate_succ, List.foldl_cons, fold_size xs k, Array.size_append, Nat.succ_mul]
    omega
theorem repS_len (x : Str) (n : Int) : (repS x n).length = x.length * n.toNat := by
  unfold repS
  by_cases hn : n < 1
  · rw [if_pos hn]
    have : n.toNat = 0 := by omega
    rw [this, Nat.mul_zero]
    rfl
  · rw [if_neg hn]
    by_cases h2 : (n == 1 || x.length == 0) = true
    · rw [if_pos h2]
      rcases Bool.or_eq_true_iff.mp h2 with h | h
      · have : n = 1 := by simpa using h
        rw [this]
        show _ = x.length * 1
        omega
      · have : x.length = 0 := by simpa using h
        rw [this]
        omega
    · rw [if_neg h2]
      show ((List.replicate n.toNat x.cps).foldl (· ++ ·) #[]).size = _
      rw [fold_size]
      have : x.cps.size = x.length := rfl
      rw [this, Nat.mul_comm]
      show 0 + _ = _
      omega
structure RepC (x : Str) (n : Int) : Prop where
  lo : -1000 ≤ n
  hi : n ≤ 16777216
  ln : x.length ≤ 16777216
  tot : x.length * n.toNat ≤ 16777216
def oMulS : O2 := fun x y m Q => both x.str? y.int? (fun a n => RepC a n ∧ Q (.d (.str (repS a n))) m) False
theorem od_mulS {X : Cx} : OpD X (binaryOp .Mult) oMulS := ⟨fun G H σ m as v u x y Q ok r1 r2 q => by
  have qq := both_cases q
  clear q
  rcases qq with ⟨a, n, e1, e2, hc, q⟩ | q
  · rw [Sv.str_eq e1] at r1
    rw [Sv.int_eq e2] at r2
    cases sv_str r1
    cases sv_int r2
    intro pins s σ' va vn I rv rn
    obtain ⟨t, rfl⟩ := rv
    obtain ⟨t', rfl⟩ := rn
    have h1 := hc.lo
    have h2 := hc.hi
    have h3 := hc.ln
    have h4 := hc.tot
    refine PySem.P.mul_str (by rw [decide_eq_false (by omega), decide_eq_false (by omega)]; rfl) (fun hn _ => ?_) (fun hn _ => ?_) ?_
    · have hm : ((a.length : Int)) * n ≤ 16777216 := by
        have e : ((n.toNat : Nat) : Int) = n := Int.toNat_of_nonneg (by omega)
        have h5 : ((a.length * n.toNat : Nat) : Int) ≤ 16777216 := Int.ofNat_le.mpr h4
        rw [Int.natCast_mul, e] at h5
        exact h5
      have := Int.le_ediv_of_mul_le (a := (a.length : Int)) (b := 2 ^ 63 - 1) (c := n) (by omega) (by omega)
      omega
    · show decide (a.length * n.toNat > sizeLine) = false
      refine decide_eq_false ?_
      rw [sizeLine_eq]
      omega
    · have fin : ∀ (k : Nat) (z : Str) (tz : Tok), repS a n = z → EP X pins σ' (OnV X.K σ G H m as Q) (.str z tz) { s with toks := k } := fun k z tz e => ⟨.str z, H, I.tok k, ⟨tz, rfl⟩, by rw [← e]; exact OnV.d ok (.str _) q⟩
      by_cases hn : n < 1
      · rw [if_pos hn]
        exact ⟨by decide, fin _ _ _ (by unfold repS; rw [if_pos hn])⟩
      · rw [if_neg hn]
        by_cases hn2 : (n == 1 || a.length == 0) = true
        · rw [if_pos hn2]
          exact fin _ _ _ (by unfold repS; rw [if_neg hn, if_pos hn2])
        · rw [if_neg hn2]
          refine ⟨?_, fin _ _ _ (by unfold repS; rw [if_neg hn, if_neg hn2])⟩
          show ((List.replicate n.toNat a.cps).foldl (· ++ ·) #[]).size ≤ sizeLine
          rw [fold_size, sizeLine_eq]
          have : a.cps.size = a.length := rfl
          rw [this, Nat.mul_comm]
          show 0 + _ ≤ _
          omega
  · exact q.elim⟩
/-! ### join -/
def strsD : List D → Option (List Str)
  | [] => some []
  | .str a :: r => (strsD r).map (a :: ·)
  | _ :: _ => none
theorem strsD_ok {K : PySem.W.Frag} {G : Hp} : ∀ {ds : List D} {vs : List V} {ys : List Str}, RpAll K G vs ds → strsD ds = some ys → vs = ys.map V.str
  | [], _, ys, .nil, h => by cases h; rfl
  | .str b :: r, _, ys, .cons q t, h => by
    obtain ⟨b0, e, rfl⟩ := Option.map_eq_some_iff.mp (show (strsD r).map (b :: ·) = some ys from h)
    cases q
    rw [strsD_ok t e]; rfl
  | .non :: _, _, _, .cons q t, h => by cases h
  | .int _ :: _, _, _, .cons q t, h => by cases h
  | .bl _ :: _, _, _, .cons q t, h => by cases h
  | .lst _ :: _, _, _, .cons q t, h => by cases h
  | .scr _ :: _, _, _, .cons q t, h => by cases h
  | .tup _ :: _, _, _, .cons q t, h => by cases h
  | .dct _ :: _, _, _, .cons q t, h => by cases h
  | .ob _ _ :: _, _, _, .cons q t, h => by cases h
  | .v _ :: _, _, _, .cons q t, h => by cases h
theorem strsD_map (ys : List Str) : strsD (ys.map D.str) = some ys := by
  induction ys with
  | nil => rfl
  | cons a r ih => unfold List.map strsD; rw [ih]; rfl
def eJoin (to te : E1) : E1 := fun m Q => to m fun x m1 => one? x.str? fun a => te m1 fun y m2 => one? ((sq m2.s y).bind fun p => (allD p.2).bind strsD) fun ys => (ys.map (·.length)).sum + ys.length * a.length ≤ 16777216 ∧ Q (.d (.str (Txt.join a ys))) m2
section
variable {X : Cx} {o e : Expr} {to te : E1} {apos pos : Pos}
theorem de_m_join (ho : DE X o to) (ha : DE X e te) (hs : starEach [e] X.env = [(false, eval e X.env)] := by rfl) (hbase : attributeBase o "join" X.env (eval o X.env) = eval o X.env := by rfl) (hline : (apos.endLine == pos.line) = true := by rfl) :
    DE X (.Call (.Attribute o "join" apos) [e] [] pos) (eJoin to te) := ⟨fun G H σ m as Q ok q => tSem_of (pe_join (pe_sem X o) (pe_sem X e) hs hbase hline) (by
  refine tSem_mono (ho.run G H σ m as _ ok q) fun v H1 ⟨G1, m1, as1, x, st1, ok1, r1, q1⟩ => ?_
  obtain ⟨a, ea, q2⟩ := one_cases q1
  rw [Sv.str_eq ea] at r1
  have ev := sv_str r1
  refine ⟨⟨a, ev⟩, ?_⟩
  refine tSem_mono (ha.run G1 H1 σ m1 as1 _ ok1 q2) fun u H2 ⟨G2, m2, as2, y, st2, ok2, r2, q3⟩ => ?_
  obtain ⟨ys, ey, hz, q4⟩ := one_cases q3
  obtain ⟨⟨b, zs⟩, e1, e2⟩ := Option.bind_eq_some_iff.mp ey
  obtain ⟨ds, e3, e4⟩ := Option.bind_eq_some_iff.mp e2
  obtain ⟨p, vs, eu, h1, h2⟩ := sq_ok ok2 r2 e1
  have e5 := strsD_ok (allD_ok e3 h2) e4
  subst e5
  exact ⟨a, p, ys, ev, by rw [eu], sqB_any h1, hz, OnV.from (st1.trans st2) (OnV.d ok2 (.str _) q4)⟩)⟩
/-- text.index(text), where it is found -/
def eIdx (to te : E1) : E1 := fun m Q => to m fun x m1 => one? x.str? fun a => te m1 fun y m2 => one? y.str? fun b => one? (Builtin.Str.occurrences a b 0 a.length 1).head? fun i => Q (.d (.int (i : Nat))) m2
theorem de_m_index (ho : DE X o to) (ha : DE X e te) (hs : starEach [e] X.env = [(false, eval e X.env)] := by rfl) (hbase : attributeBase o "index" X.env (eval o X.env) = eval o X.env := by rfl) (hline : (apos.endLine == pos.line) = true := by rfl) :
    DE X (.Call (.Attribute o "index" apos) [e] [] pos) (eIdx to te) := ⟨fun G H σ m as Q ok q => tSem_of (pe_m1 F.slot_str_index F.type_str_index mt_sindex (pe_sem X o) (pe_sem X e) hs hbase hline) (by
  refine tSem_mono (ho.run G H σ m as _ ok q) fun v H1 ⟨G1, m1, as1, x, st1, ok1, r1, q1⟩ => ?_
  obtain ⟨a, ea, q2⟩ := one_cases q1
  rw [Sv.str_eq ea] at r1
  have ev := sv_str r1
  refine ⟨⟨a, ev⟩, ?_⟩
  refine tSem_mono (ha.run G1 H1 σ m1 as1 _ ok1 q2) fun u H2 ⟨G2, m2, as2, y, st2, ok2, r2, q3⟩ => ?_
  obtain ⟨b, eb, q4⟩ := one_cases q3
  obtain ⟨i, ei, q5⟩ := one_cases q4
  rw [Sv.str_eq eb] at r2
  obtain ⟨rest, er⟩ : ∃ rest, Builtin.Str.occurrences a b 0 a.length 1 = i :: rest := by
    cases h : Builtin.Str.occurrences a b 0 a.length 1 with
    | nil => rw [h] at ei; cases ei
    | cons j r => rw [h] at ei; cases ei; exact ⟨r, rfl⟩
  exact ⟨a, b, i, rest, ev, by rw [sv_str r2], er, OnV.from (st1.trans st2) (OnV.d ok2 (.int _) q5)⟩)⟩
end
/-! ### a op b op c -/
section
variable {X : Cx} {a b c : Expr} {ta tb tc : E1} {pos : Pos} {op op' : CmpOp} {o o' : O2}
def eChain (o o' : O2) (ta tb tc : E1) : E1 := fun m Q => ta m fun x m1 => tb m1 fun y m2 => o x y m2 fun z m3 => one? z.bl? fun k => IfB k (tc m3 fun u m4 => o' y u m4 Q) (Q (.d (.bl false)) m3)
theorem chain_run {G H : Hp} {σ : L2.St} {m : Ms} {as : List Addr} {Q : SK} (ho : OpD X (compareOp op) o) (ho' : OpD X (compareOp op') o') (ha : DE X a ta) (hb : DE X b tb) (hc : DE X c tc) (ok : Ok X.K G H σ m as) (q : eChain o o' ta tb tc m Q) :
    tChain (rSem X (compareOp op)) (rSem X (compareOp op')) (tSem X a) (tSem X b) (tSem X c) σ H (OnV X.K σ G H m as Q) := by
  refine tSem_mono (ha.run G H σ m as _ ok q) fun v H1 ⟨G1, m1, as1, x, st1, ok1, r1, q1⟩ => ?_
  refine tSem_mono (hb.run G1 H1 σ m1 as1 _ ok1 q1) fun u H2 ⟨G2, m2, as2, y, st2, ok2, r2, q2⟩ => ?_
  refine rSem_mono (fun z H3 ⟨G3, m3, as3, sz, st3, ok3, r3, q3⟩ => ?_) (ho.run G2 H2 σ m2 as2 v u x y _ ok2 (r1.mono st2.g st2.pre) r2 q2)
  obtain ⟨k, ek, q4⟩ := one_cases q3
  rw [Sv.bl_eq ek] at r3
  refine ⟨k, sv_bl r3, ?_⟩
  have st := (st1.trans st2).trans st3
  cases k with
  | false => exact iteF (OnV.from st (OnV.d ok3 (.bl false) (IfB.ff q4)))
  | true =>
    refine iteT (tSem_mono (hc.run G3 H3 σ m3 as3 _ ok3 (IfB.tt q4)) fun w' H4 ⟨G4, m4, as4, sw, st4, ok4, r4, q5⟩ => ?_)
    exact rSem_mono (fun z H5 h => OnV.from (st.trans st4) h) (ho'.run G4 H4 σ m4 as4 u w' y sw _ ok4 ((r2.mono st3.g st3.pre).mono st4.g st4.pre) r4 q5)
theorem de_chain (ho : OpD X (compareOp op) o) (ho' : OpD X (compareOp op') o') (ha : DE X a ta) (hb : DE X b tb) (hc : DE X c tc) (hm : lastMarks [op, op'] [b, c] = false := by with_unfolding_all rfl) : DE X (.Compare a [op, op'] [b, c] pos) (eChain o o' ta tb tc) :=
  ⟨fun G H σ m as Q ok q => tSem_of (pe_chain (op_sem X _) (op_sem X _) (pe_sem X a) (pe_sem X b) (pe_sem X c) hm) (chain_run ho ho' ha hb hc ok q)⟩
theorem tChain_mono {r r' : R2} {σ : L2.St} {H : Hp} {Q Q' : VK} (hr : ∀ v u H Q Q', (∀ v H, Q v H → Q' v H) → r v u H Q → r v u H Q') (hr' : ∀ v u H Q Q', (∀ v H, Q v H → Q' v H) → r' v u H Q → r' v u H Q') (k : ∀ v H, Q v H → Q' v H)
    (h : tChain r r' (tSem X a) (tSem X b) (tSem X c) σ H Q) : tChain r r' (tSem X a) (tSem X b) (tSem X c) σ H Q' :=
  tSem_mono h fun v H1 h => tSem_mono h fun u H2 h => hr _ _ _ _ _ (fun z H3 ⟨b, e, h⟩ => ⟨b, e, by
    cases b with
    | false => exact iteF (k _ _ (by simpa using h))
    | true => exact iteT (tSem_mono (by simpa using h) fun w H4 h => hr' _ _ _ _ _ k h)⟩) h
theorem dt_chain (ho : OpD X (compareOp op) o) (ho' : OpD X (compareOp op') o') (ha : DE X a ta) (hb : DE X b tb) (hc : DE X c tc) (hm : lastMarks [op, op'] [b, c] = false := by with_unfolding_all rfl) : DT X (.Compare a [op, op'] [b, c] pos) (eT (eChain o o' ta tb tc)) :=
  ⟨fun G H σ m as Q ok q => qSem_of (pt_chain (op_sem X _) (op_sem X _) (pe_sem X a) (pe_sem X b) (pe_sem X c) hm) (by
    refine tChain_mono (fun _ _ _ _ _ k h => rSem_mono k h) (fun _ _ _ _ _ k h => rSem_mono k h) (fun z H3 h3 => ?_) (chain_run ho ho' ha hb hc ok q)
    obtain ⟨b, e, h4⟩ := onV_bl h3
    exact ⟨b, e, h4⟩)⟩
/-! ### str of numbers, int of texts -/
def oStrC : OC := fun xs m Q => match xs with
  | [x] => one? x.int? fun i => (-1000000000000000000 ≤ i ∧ i ≤ 1000000000000000000) ∧ Q (.d (.str (toString i))) m
  | _ => False
theorem cd_str : CallD X (.type "str") oStrC := ⟨fun G H σ m as vs xs Q ok r q0 => by
  unfold oStrC at q0
  match xs, r, q0 with
  | [x], r, q0 =>
    obtain ⟨v, rfl, r1⟩ := sva1 r
    obtain ⟨i, e1, ⟨h1, h2⟩, q⟩ := one_cases q0
    rw [Sv.int_eq e1] at r1
    have hl : i.natAbs.log2 < 1920 := by
      by_cases h0 : i.natAbs = 0
      · rw [h0]; decide
      · have h3 : i.natAbs < 2 ^ 60 := by omega
        have h4 := (Nat.log2_lt h0).mpr h3
        omega
    exact cSem_of call_str_int ⟨i, by rw [sv_int r1], hl, OnV.d ok (.str _) q⟩⟩
def oIntD : OC := fun xs m Q => match xs with
  | [x] => match x.str? with
    | some a => one? (intText? a) fun n => a.length ≤ 640 ∧ Q (.d (.int n)) m
    | none => oIntC [x] m Q
  | _ => False
theorem cd_intD : CallD X (.type "int") oIntD := ⟨fun G H σ m as vs xs Q ok r q0 => by
  unfold oIntD at q0
  match xs, r, q0 with
  | [x], r, q0 =>
    cases e1 : x.str? with
    | none =>
      simp only [e1] at q0
      exact cd_int.run G H σ m as vs [x] Q ok r q0
    | some a =>
      simp only [e1] at q0
      obtain ⟨v, rfl, r1⟩ := sva1 r
      obtain ⟨n, e2, hl, q⟩ := one_cases q0
      rw [Sv.str_eq e1] at r1
      exact cSem_of call_int_str ⟨a, n, by rw [sv_str r1], e2, hl, OnV.d ok (.int _) q⟩⟩
end
end Sy
set_option Elab.async false
namespace Sy
open PySem PySem.Spec PyProof.Rows L2
theorem rp_strs {K : PySem.W.Frag} {G : Hp} (ys : List Str) : RpAll K G (ys.map V.str) (ys.map D.str) := by
  induction ys with
  | nil => exact .nil
  | cons n r ih => exact .cons (.str n) ih
theorem sqT_K {K : PySem.W.Frag} {H : Hp} {a : Addr} {od : Option Addr} {its : Array Value} {n : Nat} {sl : Array (Option Value)} {xs : List V} (h : K.lookup a = some ⟨.type "tuple", od, .seq its n, sl⟩) (hs : Nat.ble its.size 1000 = true) (r : Vals xs its.toList) : SqT K H a xs :=
  .inr ⟨_, its, n, h, rfl, rfl, szLe hs, r⟩
theorem atI_in {α : Type} {xs : List α} {i : Int} (h0 : 0 ≤ i) (h1 : i < (xs.length : Int)) : ∃ x, x ∈ xs ∧ atI xs i = some x := by
  have hl : i.toNat < xs.length := by omega
  have e := List.getElem?_eq_getElem hl
  refine ⟨xs[i.toNat], List.getElem_mem hl, ?_⟩
  have h := atI_nat e
  rw [Int.toNat_of_nonneg h0] at h
  exact h
theorem join_le (a : Str) : ∀ ys : List Str, (Str.join a ys).length ≤ (ys.map (·.length)).sum + ys.length * a.length
  | [] => Nat.zero_le _
  | [x] => by
    show x.length ≤ _
    rw [List.map_cons, List.sum_cons]
    omega
  | x :: z :: r => by
    have ih := join_le a (z :: r)
    show (x ++ a ++ Str.join a (z :: r)).length ≤ _
    rw [strLen_append, strLen_append, List.map_cons, List.sum_cons, List.length_cons, Nat.succ_mul]
    omega
theorem sum_ones {ys : List Str} (h : ∀ y ∈ ys, y.length ≤ 1) : (ys.map (·.length)).sum ≤ ys.length := by
  induction ys with
  | nil => exact Nat.le_refl _
  | cons x r ih =>
    have h1 := h x List.mem_cons_self
    have h2 := ih fun y hy => h y (List.mem_cons_of_mem _ hy)
    rw [List.map_cons, List.sum_cons, List.length_cons]
    omega
theorem join_ones {ys : List Str} (h : ∀ y ∈ ys, y.length ≤ 1) : (Txt.join "" ys).length ≤ ys.length := by
  rw [_root_.TL.join_eq]
  have h1 := join_le "" ys
  have h2 := sum_ones h
  have h3 : ("" : Str).length = 0 := by decide +kernel
  rw [h3] at h1
  omega
theorem snoc_str (zs : List Str) (z : Str) : zs.map D.str ++ [.str z] = (zs ++ [z]).map D.str := by rw [List.map_append]; rfl
theorem snoc_all {α : Type} {p : α → Prop} {zs : List α} {z : α} (h : ∀ x ∈ zs, p x) (h' : p z) : ∀ x ∈ zs ++ [z], p x := fun x hx => by
  rcases List.mem_append.mp hx with hx | hx
  · exact h x hx
  · rw [List.mem_singleton.mp hx]; exact h'
/-- * of numbers, of a text and a number -/
def oMulA : O2 := fun x y m Q => both x.int? y.int? (fun i j => CMul i j ∧ Q (.d (.int (i * j))) m) (oMulS x y m Q)
theorem od_mulA {X : Cx} : OpD X (binaryOp .Mult) oMulA := ⟨fun G H σ m as v u x y Q ok r1 r2 q => by
  have qq := both_cases q
  clear q
  rcases qq with ⟨i, j, e1, e2, hc, q⟩ | q
  · exact od_mul.run G H σ m as v u x y Q ok r1 r2 (.yes e1 e2 ⟨hc, q⟩)
  · exact od_mulS.run G H σ m as v u x y Q ok r1 r2 q⟩
/-- signs that there are -/
def cOk (s : Str) : Prop := ∀ c ∈ s.cps.toList, c < 1114112
theorem cOk_cut {s : Str} {lo hi : Option Int} (h : cOk s) : cOk (cutS s lo hi) := fun c hc => by
  unfold cutS at hc
  exact h c (List.mem_of_mem_drop (List.mem_of_mem_take hc))
theorem cOk_app {a b : Str} (h : cOk a) (h' : cOk b) : cOk (a ++ b) := fun c hc => by
  have e : (a ++ b).cps.toList = a.cps.toList ++ b.cps.toList := Array.toList_append
  rw [e] at hc
  rcases List.mem_append.mp hc with hc | hc
  · exact h c hc
  · exact h' c hc
theorem fold_mem {xs : Array Nat} {c : Nat} : ∀ (k : Nat) (acc : Array Nat), c ∈ ((List.replicate k xs).foldl (· ++ ·) acc).toList → c ∈ acc.toList ∨ c ∈ xs.toList
  | 0, acc, h => .inl h
  | k + 1, acc, h => by
    rw [List.replicate_succ, List.foldl_cons] at h
    rcases fold_mem k _ h with h | h
    · rw [Array.toList_append] at h
      exact List.mem_append.mp h
    · exact .inr h
theorem cOk_rep {x : Str} {n : Int} (h : cOk x) : cOk (repS x n) := fun c hc => by
  unfold repS at hc
  by_cases hn : n < 1
  · rw [if_pos hn] at hc
    exact absurd hc (by show c ∉ ([] : List Nat); exact List.not_mem_nil)
  · rw [if_neg hn] at hc
    by_cases h2 : (n == 1 || x.length == 0) = true
    · rw [if_pos h2] at hc; exact h c hc
    · rw [if_neg h2] at hc
      rcases fold_mem _ _ hc with z | z
      · exact absurd z (by show c ∉ ([] : List Nat); exact List.not_mem_nil)
      · exact h c z
theorem cOk_one {c : Nat} (h : c < 1114112) : cOk ⟨#[c]⟩ := fun d hd => by
  have : d = c := by simpa using hd
  rw [this]; exact h
theorem cOk_join {a : Str} (ha : cOk a) : ∀ {ys : List Str}, (∀ y ∈ ys, cOk y) → cOk (Str.join a ys)
  | [], _ => fun c hc => absurd hc (by show c ∉ ([] : List Nat); exact List.not_mem_nil)
  | [x], h => h x List.mem_cons_self
  | x :: z :: r, h => by
    show cOk (x ++ a ++ Str.join a (z :: r))
    exact cOk_app (cOk_app (h x List.mem_cons_self) ha) (cOk_join ha fun y hy => h y (List.mem_cons_of_mem _ hy))
theorem cOk_joinT {a : Str} (ha : cOk a) {ys : List Str} (h : ∀ y ∈ ys, cOk y) : cOk (Txt.join a ys) := by
  rw [_root_.TL.join_eq]
  exact cOk_join ha h
theorem cOk_dec {s : Str} (h : s.cps.toList.all (fun c => decide (c < 1114112)) = true) : cOk s := fun c hc => of_decide_eq_true (List.all_eq_true.mp h c hc)
theorem strOk_c {s : Str} (h : cOk s) : PyData.canLay0 (.str s) = true := by
  show Array.all s.cps (fun c => decide (c < 0x110000)) = true
  rw [← Array.all_toList, List.all_eq_true]
  exact fun c hc => decide_eq_true (h c hc)
end Sy
set_option Elab.async false
namespace K02
open Sy
open PySem PySem.Spec PyProof.Rows L2
def topS (i : Nat) : Stmt := PySem.Challenge.pw_nomiddle_k02_names_and_numbers.main.body.getD i (.Pass ⟨0, 0, 0, 0⟩)
abbrev s_is_name : Stmt := topS 6
theorem sc_is_name : FnScope ["text", "sign"] ["text"] (defScope s_is_name) := ⟨rfl, rfl, rfl, by decide +kernel, rfl, by decide +kernel, by decide +kernel⟩
abbrev s_number_of : Stmt := topS 7
theorem sc_number_of : FnScope ["text", "sign"] ["text"] (defScope s_number_of) := ⟨rfl, rfl, rfl, by decide +kernel, rfl, by decide +kernel, by decide +kernel⟩
abbrev s__law_deal : Stmt := topS 9
theorem sc__law_deal : FnScope ["_law_script", "_law_base", "_law_some", "_law_number", "_law_one"] ["_law_script", "_law_base"] (defScope s__law_deal) := ⟨rfl, rfl, rfl, by decide +kernel, rfl, by decide +kernel, by decide +kernel⟩
abbrev s__law_draw : Stmt := topS 10
theorem sc__law_draw : FnScope ["_law_deal_here", "_law_many", "_law_number", "_law_one", "_law_other"] ["_law_deal_here", "_law_many"] (defScope s__law_draw) := ⟨rfl, rfl, rfl, by decide +kernel, rfl, by decide +kernel, by decide +kernel⟩
abbrev s__law_name : Stmt := topS 11
theorem sc__law_name : FnScope ["_law_deal_here", "_law_letters", "_law_kept", "_law_name_here", "_law_near", "_law_at", "_law_k"] ["_law_deal_here"] (defScope s__law_name) := ⟨rfl, rfl, rfl, by decide +kernel, rfl, by decide +kernel, by decide +kernel⟩
abbrev s__law_text : Stmt := topS 12
theorem sc__law_text : FnScope ["_law_deal_here", "_law_signs", "_law_kept", "_law_figures", "_law_text_here", "_law_at", "_law_form", "_law_name_here", "_law_k"] ["_law_deal_here"] (defScope s__law_text) := ⟨rfl, rfl, rfl, by decide +kernel, rfl, by decide +kernel, by decide +kernel⟩
abbrev s__law_name_due : Stmt := topS 13
theorem sc__law_name_due : FnScope ["_law_text_here", "_law_kept", "_law_sign"] ["_law_text_here"] (defScope s__law_name_due) := ⟨rfl, rfl, rfl, by decide +kernel, rfl, by decide +kernel, by decide +kernel⟩
abbrev s__law_number_due : Stmt := topS 14
theorem sc__law_number_due : FnScope ["_law_text_here", "_law_found", "_law_sign"] ["_law_text_here"] (defScope s__law_number_due) := ⟨rfl, rfl, rfl, by decide +kernel, rfl, by decide +kernel, by decide +kernel⟩
abbrev s_law : Stmt := topS 15
theorem sc_law : FnScope ["_law_script", "_law_deal_here", "_law_texts", "_law_text_here", "_law_k"] ["_law_script"] (defScope s_law) := ⟨rfl, rfl, rfl, by decide +kernel, rfl, by decide +kernel, by decide +kernel⟩
structure Tx (K : PySem.W.Frag) (mg : Str → Option Value) where
  z_all : mg "all" = none
  z_int : mg "int" = none
  z_len : mg "len" = none
  z_list : mg "list" = none
  z_max : mg "max" = none
  z_min : mg "min" = none
  z_range : mg "range" = none
  z_repr : mg "repr" = none
  z_reversed : mg "reversed" = none
  z_str : mg "str" = none
  is_name_f : Addr
  is_name_fd : FuncData
  is_name_F : Fun K "is_name" "is_name" s_is_name is_name_f is_name_fd
  is_name_g : mg "is_name" = some (.ref is_name_f)
  is_name_b : Binds K is_name_fd ["text"] []
  number_of_f : Addr
  number_of_fd : FuncData
  number_of_F : Fun K "number_of" "number_of" s_number_of number_of_f number_of_fd
  number_of_g : mg "number_of" = some (.ref number_of_f)
  number_of_b : Binds K number_of_fd ["text"] []
  _law_deal_f : Addr
  _law_deal_fd : FuncData
  _law_deal_F : Fun K "_law_deal" "_law_deal" s__law_deal _law_deal_f _law_deal_fd
  _law_deal_g : mg "_law_deal" = some (.ref _law_deal_f)
  _law_deal_b : Binds K _law_deal_fd ["_law_script", "_law_base"] []
  _law_draw_f : Addr
  _law_draw_fd : FuncData
  _law_draw_F : Fun K "_law_draw" "_law_draw" s__law_draw _law_draw_f _law_draw_fd
  _law_draw_g : mg "_law_draw" = some (.ref _law_draw_f)
  _law_draw_b : Binds K _law_draw_fd ["_law_deal_here", "_law_many"] []
  _law_name_f : Addr
  _law_name_fd : FuncData
  _law_name_F : Fun K "_law_name" "_law_name" s__law_name _law_name_f _law_name_fd
  _law_name_g : mg "_law_name" = some (.ref _law_name_f)
  _law_name_b : Binds K _law_name_fd ["_law_deal_here"] []
  _law_text_f : Addr
  _law_text_fd : FuncData
  _law_text_F : Fun K "_law_text" "_law_text" s__law_text _law_text_f _law_text_fd
  _law_text_g : mg "_law_text" = some (.ref _law_text_f)
  _law_text_b : Binds K _law_text_fd ["_law_deal_here"] []
  _law_name_due_f : Addr
  _law_name_due_fd : FuncData
  _law_name_due_F : Fun K "_law_name_due" "_law_name_due" s__law_name_due _law_name_due_f _law_name_due_fd
  _law_name_due_g : mg "_law_name_due" = some (.ref _law_name_due_f)
  _law_name_due_b : Binds K _law_name_due_fd ["_law_text_here"] []
  _law_number_due_f : Addr
  _law_number_due_fd : FuncData
  _law_number_due_F : Fun K "_law_number_due" "_law_number_due" s__law_number_due _law_number_due_f _law_number_due_fd
  _law_number_due_g : mg "_law_number_due" = some (.ref _law_number_due_f)
  _law_number_due_b : Binds K _law_number_due_fd ["_law_text_here"] []
  law_f : Addr
  law_fd : FuncData
  law_F : Fun K "law" "law" s_law law_f law_fd
  law_g : mg "law" = some (.ref law_f)
  law_b : Binds K law_fd ["_law_script"] []
  LETTERS_t : Tok
  LETTERS_g : mg "LETTERS" = some (.str "abcdefghijklmnopqrstuvwxyz" LETTERS_t)
  FIGURES_t : Tok
  FIGURES_g : mg "FIGURES" = some (.str "0123456789" FIGURES_t)
  KEPT_WORDS_a : Addr
  KEPT_WORDS_g : mg "KEPT_WORDS" = some (.ref KEPT_WORDS_a)
  KEPT_WORDS_r : ∀ H : Hp, SqT K H KEPT_WORDS_a (List.map V.str ["shape", "bead", "more", "last", "def", "case", "to", "num", "if", "let", "in", "line", "out"])
  LONGEST_NAME_t : Tok
  LONGEST_NAME_g : mg "LONGEST_NAME" = some (.int 8 LONGEST_NAME_t)
  MOST_FIGURES_t : Tok
  MOST_FIGURES_g : mg "MOST_FIGURES" = some (.int 9 MOST_FIGURES_t)
section
variable {P : Program} {w : World} {K : PySem.W.Frag} {mg : Str → Option Value} {base : Heap}
def pDraw : PR := fun ds Q => ∃ n : Int, ds = [.int n] ∧ (0 < n ∧ n < 4611686018427387904) ∧ ∀ r : Int, 0 ≤ r → r < n → Q (.int r)
theorem ok_draw (T : Tx K mg) : FnG P w K mg base 1 T._law_draw_f T._law_draw_fd ["_law_deal_here", "_law_many"] (spD K (cDl pDraw)) := by
  refine fnG retD_ok T._law_draw_F sc__law_draw (fun xs S Q ⟨ds, e, _, n, e2, _⟩ => by rw [e, e2]; rfl) fun cdv A outer sh H E hr free xs S Q hC => ?_
  have hu := hr.units
  have hu1 := hu_of hr
  refine ⟨_, db_shut 0 1 (db_open 0 1 (db_cons (ds_while PassesOwn.never (DW.dt (dw_and (dt_cmp (od_eq hu) (de_ix hu1 (de_var 0) de_str (fun _ _ => rfl)) de_int (nomark _)) (dw_and1 (dt_cmp od_gt (de_callB (cd_len) rfl T.z_len (by decide +kernel) (da_cons (de_ix hu1 (de_var 0) de_str (fun _ _ => rfl)) da_nil)) de_int (nomark _))))) (db_one (ds_asg (de_pop (de_ix hu1 (de_var 0) de_str (fun _ _ => rfl))) (dg_sub hu1 (de_var 0) de_str))))
  (db_cons (ds_set (i := 2) sc__law_draw.nd rfl (by first | exact Or.inl rfl | exact Or.inr rfl) (de_ix hu1 (de_var 0) de_str (fun _ _ => rfl)))
  (db_cons (ds_if (dt_cmp od_gt (de_var 2) de_int (nomark _)) (db_cons (ds_asg (de_bin od_fdiv (de_var 2) (de_var 1)) (dg_sub hu1 (de_var 0) de_str))
  (db_one (ds_ret (de_bin od_mod (de_var 2) (de_var 1))))) db_nil)
  (db_cons (ds_set (i := 3) sc__law_draw.nd rfl (by first | exact Or.inl rfl | exact Or.inr rfl) (de_bin od_mod (de_bin od_add (de_bin od_mulA (de_ix hu1 (de_var 0) de_str (fun _ _ => rfl)) de_int) de_int) de_int))
  (db_cons (ds_asg (de_bin od_mod (de_bin od_add (de_bin od_mulA (de_var 3) de_int) de_int) de_int) (dg_sub hu1 (de_var 0) de_str))
  (db_cons (ds_set (i := 4) sc__law_draw.nd rfl (by first | exact Or.inl rfl | exact Or.inr rfl) (de_bin od_mod (de_bin od_mulA (de_ix hu1 (de_var 0) de_str (fun _ _ => rfl)) (de_ix hu1 (de_var 0) de_str (fun _ _ => rfl))) de_int))
  (db_one (ds_ret (de_bin od_mod (de_bin od_add (de_bin od_mulA (de_bin od_mod (de_bin od_mulA (de_var 3) (de_var 3)) de_int) de_int) (de_var 4)) (de_var 1))))))))))), ?_⟩
  obtain ⟨ds, rfl, rfl, n, rfl, ⟨hn0, hn1⟩, hQ⟩ := hC
  refine ⟨rfl, rfl, fun sd nm ns hb => ?_⟩
  refine ⟨fun k m => ∃ nm ns, m = ⟨[.r 0, .d (.int n), .no, .no, .no], [dlC sd nm 1, intsL ns]⟩ ∧ DlB sd nm ns ∧ k = ns.length, ⟨_, nm, ns, rfl, hb, rfl⟩, ?_⟩
  clear hb
  rintro k m2 ⟨nm', ns', rfl, hb, rfl⟩
  have b0 := hb.s0
  have b1 := hb.s1
  have b2 := hb.n0
  repeat' ((conv => whnf); first | ((with_reducible apply Sy.one?.yes); (· exact rfl)) | ((with_reducible apply Sy.both.yes); (· exact rfl); (· exact rfl)) | (with_reducible apply Sy.both.els) | ((refine Sy.Got.here ?_ ?_); (· first | with_reducible rfl | decide +kernel)) | ((refine Sy.Got.next ?_ ?_); (· decide +kernel)) | ((with_reducible refine Sy.IfB.t ?_ ?_); (· first | with_reducible rfl | decide +kernel)) | ((with_reducible refine Sy.IfB.f ?_ ?_); (· first | with_reducible rfl | decide +kernel)) | (with_reducible refine Sy.IfB.mk (fun _ => ?_) (fun _ => ?_)) | ((with_reducible apply Sy.mkT.yes); (· exact rfl)) | (with_reducible apply Sy.mkT.els) | (with_reducible refine And.intro (Sy.Hold.out ?_) ?_))
  all_goals try (refine Sy.Hold.mk ?_; first | exact trivial | exact rfl | exact Sy.mulA (by omega) (by omega) | exact Sy.mulB (by omega) (by omega) | exact Sy.divA (by omega) (by omega) | exact Sy.smlA (by omega) (by omega) | exact Sy.szLt rfl | exact Sy.szLe rfl | exact Sy.szLe' (by omega) | exact ⟨by omega, by omega⟩ | (rw [List.length_map]; exact Sy.szLt' (by omega)) | (show (0 : Int) < _; first | omega | decide +kernel) | decide +kernel | exact ⟨rfl, Nat.le_of_ble_eq_true rfl, by decide +kernel⟩ | (refine ⟨?_, ?_, ?_⟩ <;> decide +kernel))
  all_goals try (refine ⟨sd, nm' / n, ns', rfl, rfl, ⟨hb.s0, hb.s1, Int.ediv_nonneg hb.n0 (by omega), hb.l0⟩, hQ _ (Int.emod_nonneg _ (by omega)) (Int.emod_lt_of_pos _ hn0)⟩)
  all_goals try (refine ⟨_, nm', ns', rfl, rfl, ⟨Int.emod_nonneg _ (by decide), Int.lt_trans (Int.emod_lt_of_pos _ (by decide)) (by decide), hb.n0, hb.l0⟩, hQ _ (Int.emod_nonneg _ (by omega)) (Int.emod_lt_of_pos _ hn0)⟩)
  rename_i h1 h2
  have hne : ns' ≠ [] := by
    rintro rfl
    exact absurd h2 (by decide)
  refine Sy.one?.yes (Sy.pop_get ns' hne) ?_
  repeat' ((conv => whnf); first | ((with_reducible apply Sy.one?.yes); (· exact rfl)) | ((with_reducible apply Sy.both.yes); (· exact rfl); (· exact rfl)) | (with_reducible apply Sy.both.els) | ((refine Sy.Got.here ?_ ?_); (· first | with_reducible rfl | decide +kernel)) | ((refine Sy.Got.next ?_ ?_); (· decide +kernel)) | ((with_reducible refine Sy.IfB.t ?_ ?_); (· first | with_reducible rfl | decide +kernel)) | ((with_reducible refine Sy.IfB.f ?_ ?_); (· first | with_reducible rfl | decide +kernel)) | (with_reducible refine Sy.IfB.mk (fun _ => ?_) (fun _ => ?_)) | ((with_reducible apply Sy.mkT.yes); (· exact rfl)) | (with_reducible apply Sy.mkT.els) | (with_reducible refine And.intro (Sy.Hold.out ?_) ?_))
  all_goals try (refine Sy.Hold.mk ?_; first | exact trivial | exact rfl | exact Sy.mulA (by omega) (by omega) | exact Sy.mulB (by omega) (by omega) | exact Sy.divA (by omega) (by omega) | exact Sy.smlA (by omega) (by omega) | exact Sy.szLt rfl | exact Sy.szLe rfl | exact Sy.szLe' (by omega) | exact ⟨by omega, by omega⟩ | (rw [List.length_map]; exact Sy.szLt' (by omega)) | (show (0 : Int) < _; first | omega | decide +kernel) | decide +kernel | exact ⟨rfl, Nat.le_of_ble_eq_true rfl, by decide +kernel⟩ | (refine ⟨?_, ?_, ?_⟩ <;> decide +kernel))
  refine ⟨ns'.dropLast.length, ?_, ns'.getLast hne, ns'.dropLast, ?_, ⟨b0, b1, hb.l0 _ (List.getLast_mem hne), fun x hx => hb.l0 x ((List.dropLast_sublist _).subset hx)⟩, rfl⟩
  · have := List.length_pos_iff.mpr hne
    rw [List.length_dropLast]
    omega
  · exact congrArg (fun z => Ms.mk _ [_, Cell.ls z]) (Sy.cut_ints ns')
theorem ok_deal (T : Tx K mg) : FnG P w K mg base 1 T._law_deal_f T._law_deal_fd ["_law_script", "_law_base"] (spD K cDeal) := by
  refine fnG retDl_ok T._law_deal_F sc__law_deal (fun xs S Q ⟨ns, b, e, _⟩ => by rw [e]; rfl) fun cdv A outer sh H E hr free xs S Q hC => ?_
  have hu := hr.units
  have hu1 := hu_of hr
  refine ⟨_, (db_cons (ds_setLc (i := 2) (own := [("_law_one", 4)]) rfl sc__law_deal.nd rfl rfl (sw_true rfl rfl rfl (by decide +kernel)) (di_seq (de_slice (de_var 0) (do_some (de_var 1)) (do_some de_int))) (blkOk_by (N := ["_law_script", "_law_base", "_law_some", "_law_number", "_law_one"]) (sc := defScope s__law_deal) (by decide +kernel)) (by simp) (fun _ _ _ _ _ => (dg_name (i := 4) sc__law_deal.nd rfl (Or.inl rfl))) (fun _ _ _ _ _ => dts_nil) (fun _ _ _ _ _ => (de_callB (cd_max2 rfl) rfl T.z_max (by decide +kernel) (da_cons (de_var 4) (da_cons (de_bin od_sub de_int (de_var 4)) da_nil)))))
  (db_cons (ds_set (i := 3) sc__law_deal.nd rfl (by first | exact Or.inl rfl | exact Or.inr rfl) (de_bin od_add de_int (de_var 1)))
  (db_cons (ds_for PassesOwn.never rfl (di_seq (de_var 2)) (dg_name (i := 4) sc__law_deal.nd rfl (by first | exact Or.inl rfl | exact Or.inr rfl)) (db_one (ds_set (i := 3) sc__law_deal.nd rfl (by first | exact Or.inl rfl | exact Or.inr rfl) (de_bin od_mod (de_bin od_add (de_bin od_mulA (de_var 3) de_int) (de_bin od_mod (de_var 4) de_int)) de_int))))
  (db_one (ds_ret (de_disp (dps_cons de_str (de_var 3) (dps_cons de_str de_int (dps_cons de_str (de_lstRev rfl rfl T.z_list rfl T.z_reversed (de_lc (own := [("_law_one", 4)]) rfl sc__law_deal.nd (di_seq (de_var 2)) (blkOk_by (N := ["_law_script", "_law_base", "_law_some", "_law_number", "_law_one"]) (sc := defScope s__law_deal) (by decide +kernel)) (by simp) (fun _ _ _ _ _ => (dg_name (i := 4) sc__law_deal.nd rfl (Or.inl rfl))) (fun _ _ _ _ _ => (dts_one (dt_cmp od_ge (de_var 4) (de_bin od_pow de_int de_int) (nomark _)))) (fun _ _ _ _ _ => (de_var 4)))) dps_nil))) rfl rfl (fun z => by cases z) (by decide))))))), ?_⟩
  obtain ⟨ns, b, rfl, rfl, ⟨hl, hb0, hb1⟩, hQ⟩ := hC
  repeat' ((conv => whnf); first | ((with_reducible apply Sy.one?.yes); (· exact rfl)) | ((with_reducible apply Sy.both.yes); (· exact rfl); (· exact rfl)) | (with_reducible apply Sy.both.els) | ((refine Sy.Got.here ?_ ?_); (· first | with_reducible rfl | decide +kernel)) | ((refine Sy.Got.next ?_ ?_); (· decide +kernel)) | ((with_reducible refine Sy.IfB.t ?_ ?_); (· first | with_reducible rfl | decide +kernel)) | ((with_reducible refine Sy.IfB.f ?_ ?_); (· first | with_reducible rfl | decide +kernel)) | (with_reducible refine Sy.IfB.mk (fun _ => ?_) (fun _ => ?_)) | ((with_reducible apply Sy.mkT.yes); (· exact rfl)) | (with_reducible apply Sy.mkT.els) | (with_reducible refine And.intro (Sy.Hold.out ?_) ?_))
  have eL : cutL ((ns.map D.int).map Sv.d) (some b) (some 63) = iL (cutL ns (some b) (some 63)) := by rw [iL_d]; exact cutL_map _ _ _ _
  have hL : (cutL ns (some b) (some 63)).length ≤ 63 := Nat.le_trans (cutL_le _ _ _) hl
  refine ⟨fun i acc S => S = [.ls (iL (cutL ns (some b) (some 63)))] ∧ ∃ zs : List Int, acc = zs.map .int ∧ (∀ z ∈ zs, 0 ≤ z) ∧ zs.length = i, ⟨congrArg (fun z => [Cell.ls z]) eL, [], rfl, (fun _ h => by cases h), rfl⟩, fun i x acc S hx hI hS => ?_, fun acc S hI hS => ?_⟩
  · have hx : (cutL ((ns.map D.int).map Sv.d) (some b) (some 63))[i]? = some x := hx
    rw [eL] at hx
    obtain ⟨n, e, rfl, hn⟩ := iL_get hx
    have hi := get_lt e
    obtain ⟨rfl, zs, rfl, hz, rfl⟩ := hI
    refine ⟨congrArg (fun z => some (Sk.l, z)) eL.symm, ?_⟩
    repeat' ((conv => whnf); first | ((with_reducible apply Sy.one?.yes); (· exact rfl)) | ((with_reducible apply Sy.both.yes); (· exact rfl); (· exact rfl)) | (with_reducible apply Sy.both.els) | ((refine Sy.Got.here ?_ ?_); (· first | with_reducible rfl | decide +kernel)) | ((refine Sy.Got.next ?_ ?_); (· decide +kernel)) | ((with_reducible refine Sy.IfB.t ?_ ?_); (· first | with_reducible rfl | decide +kernel)) | ((with_reducible refine Sy.IfB.f ?_ ?_); (· first | with_reducible rfl | decide +kernel)) | (with_reducible refine Sy.IfB.mk (fun _ => ?_) (fun _ => ?_)) | ((with_reducible apply Sy.mkT.yes); (· exact rfl)) | (with_reducible apply Sy.mkT.els) | (with_reducible refine And.intro (Sy.Hold.out ?_) ?_))
    all_goals try (refine Sy.Hold.mk ?_; first | exact trivial | exact rfl | exact Sy.mulA (by omega) (by omega) | exact Sy.mulB (by omega) (by omega) | exact Sy.divA (by omega) (by omega) | exact Sy.smlA (by omega) (by omega) | exact Sy.szLt rfl | exact Sy.szLe rfl | exact Sy.szLe' (by omega) | exact ⟨by omega, by omega⟩ | (rw [List.length_map]; exact Sy.szLt' (by omega)) | (show (0 : Int) < _; first | omega | decide +kernel) | decide +kernel | exact ⟨rfl, Nat.le_of_ble_eq_true rfl, by decide +kernel⟩ | (refine ⟨?_, ?_, ?_⟩ <;> decide +kernel))
    · exact ⟨congrArg (fun z => [Cell.ls z]) (cut_iL _)⟩
    · exact ⟨zs ++ [_], snoc_int _ _, snoc_nn hz (max_neg n), snoc_len _ _⟩
  · obtain ⟨rfl, zs, rfl, hz, hl2⟩ := hI
    have hl3 : zs.length ≤ 63 := by
      have hl2 : zs.length = (cutL ((ns.map D.int).map Sv.d) (some b) (some 63)).length := hl2
      rw [hl2, eL]; unfold iL; rw [List.length_map]; exact hL
    refine ⟨congrArg (fun z => some (Sk.l, z)) eL.symm, ?_⟩
    repeat' ((conv => whnf); first | ((with_reducible apply Sy.one?.yes); (· exact rfl)) | ((with_reducible apply Sy.both.yes); (· exact rfl); (· exact rfl)) | (with_reducible apply Sy.both.els) | ((refine Sy.Got.here ?_ ?_); (· first | with_reducible rfl | decide +kernel)) | ((refine Sy.Got.next ?_ ?_); (· decide +kernel)) | ((with_reducible refine Sy.IfB.t ?_ ?_); (· first | with_reducible rfl | decide +kernel)) | ((with_reducible refine Sy.IfB.f ?_ ?_); (· first | with_reducible rfl | decide +kernel)) | (with_reducible refine Sy.IfB.mk (fun _ => ?_) (fun _ => ?_)) | ((with_reducible apply Sy.mkT.yes); (· exact rfl)) | (with_reducible apply Sy.mkT.els) | (with_reducible refine And.intro (Sy.Hold.out ?_) ?_))
    all_goals try (refine Sy.Hold.mk ?_; first | exact trivial | exact rfl | exact Sy.mulA (by omega) (by omega) | exact Sy.mulB (by omega) (by omega) | exact Sy.divA (by omega) (by omega) | exact Sy.smlA (by omega) (by omega) | exact Sy.szLt rfl | exact Sy.szLe rfl | exact Sy.szLe' (by omega) | exact ⟨by omega, by omega⟩ | (rw [List.length_map]; exact Sy.szLt' (by omega)) | (show (0 : Int) < _; first | omega | decide +kernel) | decide +kernel | exact ⟨rfl, Nat.le_of_ble_eq_true rfl, by decide +kernel⟩ | (refine ⟨?_, ?_, ?_⟩ <;> decide +kernel))
    refine ⟨fun i m => ∃ (q : Int) (y : Sv), m = ⟨[.d (.scr (ns.map .int)), .d (.int b), .r 1, .d (.int q), y], [.ls (iL (cutL ns (some b) (some 63))), .ls (iL zs)]⟩ ∧ 0 ≤ q ∧ q < 2147483648, ⟨7919 + b, .no, ?_, by omega, by omega⟩, fun i x m2 hx hI => ?_, fun m2 hI => ?_⟩
    · exact congrArg (fun z => Ms.mk _ [_, Cell.ls z]) (iL_d zs)
    · have hx : ((zs.map D.int).map Sv.d)[i]? = some x := hx
      rw [iL_d] at hx
      obtain ⟨n, e, rfl, hn⟩ := iL_get hx
      obtain ⟨q, y, rfl, hq0, hq1⟩ := hI
      refine ⟨congrArg (fun z => some (Sk.l, z)) (iL_d zs).symm, ?_⟩
      repeat' ((conv => whnf); first | ((with_reducible apply Sy.one?.yes); (· exact rfl)) | ((with_reducible apply Sy.both.yes); (· exact rfl); (· exact rfl)) | (with_reducible apply Sy.both.els) | ((refine Sy.Got.here ?_ ?_); (· first | with_reducible rfl | decide +kernel)) | ((refine Sy.Got.next ?_ ?_); (· decide +kernel)) | ((with_reducible refine Sy.IfB.t ?_ ?_); (· first | with_reducible rfl | decide +kernel)) | ((with_reducible refine Sy.IfB.f ?_ ?_); (· first | with_reducible rfl | decide +kernel)) | (with_reducible refine Sy.IfB.mk (fun _ => ?_) (fun _ => ?_)) | ((with_reducible apply Sy.mkT.yes); (· exact rfl)) | (with_reducible apply Sy.mkT.els) | (with_reducible refine And.intro (Sy.Hold.out ?_) ?_))
      all_goals try (refine Sy.Hold.mk ?_; first | exact trivial | exact rfl | exact Sy.mulA (by omega) (by omega) | exact Sy.mulB (by omega) (by omega) | exact Sy.divA (by omega) (by omega) | exact Sy.smlA (by omega) (by omega) | exact Sy.szLt rfl | exact Sy.szLe rfl | exact Sy.szLe' (by omega) | exact ⟨by omega, by omega⟩ | (rw [List.length_map]; exact Sy.szLt' (by omega)) | (show (0 : Int) < _; first | omega | decide +kernel) | decide +kernel | exact ⟨rfl, Nat.le_of_ble_eq_true rfl, by decide +kernel⟩ | (refine ⟨?_, ?_, ?_⟩ <;> decide +kernel))
      exact ⟨_, .d (.int n), ms2 (cut_iL _) (cut_iL _), Int.emod_nonneg _ (by decide), Int.lt_trans (Int.emod_lt_of_pos _ (by decide)) (by decide)⟩
    · obtain ⟨q, y, rfl, hq0, hq1⟩ := hI
      refine ⟨congrArg (fun z => some (Sk.l, z)) (iL_d zs).symm, ?_⟩
      repeat' ((conv => whnf); first | ((with_reducible apply Sy.one?.yes); (· exact rfl)) | ((with_reducible apply Sy.both.yes); (· exact rfl); (· exact rfl)) | (with_reducible apply Sy.both.els) | ((refine Sy.Got.here ?_ ?_); (· first | with_reducible rfl | decide +kernel)) | ((refine Sy.Got.next ?_ ?_); (· decide +kernel)) | ((with_reducible refine Sy.IfB.t ?_ ?_); (· first | with_reducible rfl | decide +kernel)) | ((with_reducible refine Sy.IfB.f ?_ ?_); (· first | with_reducible rfl | decide +kernel)) | (with_reducible refine Sy.IfB.mk (fun _ => ?_) (fun _ => ?_)) | ((with_reducible apply Sy.mkT.yes); (· exact rfl)) | (with_reducible apply Sy.mkT.els) | (with_reducible refine And.intro (Sy.Hold.out ?_) ?_))
      all_goals try (refine Sy.Hold.mk ?_; first | exact trivial | exact rfl | exact Sy.mulA (by omega) (by omega) | exact Sy.mulB (by omega) (by omega) | exact Sy.divA (by omega) (by omega) | exact Sy.smlA (by omega) (by omega) | exact Sy.szLt rfl | exact Sy.szLe rfl | exact Sy.szLe' (by omega) | exact ⟨by omega, by omega⟩ | (rw [List.length_map]; exact Sy.szLt' (by omega)) | (show (0 : Int) < _; first | omega | decide +kernel) | decide +kernel | exact ⟨rfl, Nat.le_of_ble_eq_true rfl, by decide +kernel⟩ | (refine ⟨?_, ?_, ?_⟩ <;> decide +kernel))
      refine ⟨fun i acc S => S = [.ls (iL (cutL ns (some b) (some 63))), .ls (iL zs), .di []] ∧ ∃ ws : List Int, acc = ws.map .int ∧ (∀ z ∈ ws, 0 ≤ z) ∧ ws.length ≤ i, ⟨rfl, [], rfl, (fun _ h => by cases h), Nat.le_refl _⟩, fun i x acc S hx hI hS => ?_, fun acc S hI hS => ?_⟩
      · obtain ⟨n, e, rfl, hn⟩ := iL_get (show (iL zs)[i]? = some x from hx)
        have hi := get_lt e
        have hn0 := hz n hn
        obtain ⟨rfl, ws, rfl, hw, hwl⟩ := hI
        refine ⟨rfl, ?_⟩
        repeat' ((conv => whnf); first | ((with_reducible apply Sy.one?.yes); (· exact rfl)) | ((with_reducible apply Sy.both.yes); (· exact rfl); (· exact rfl)) | (with_reducible apply Sy.both.els) | ((refine Sy.Got.here ?_ ?_); (· first | with_reducible rfl | decide +kernel)) | ((refine Sy.Got.next ?_ ?_); (· decide +kernel)) | ((with_reducible refine Sy.IfB.t ?_ ?_); (· first | with_reducible rfl | decide +kernel)) | ((with_reducible refine Sy.IfB.f ?_ ?_); (· first | with_reducible rfl | decide +kernel)) | (with_reducible refine Sy.IfB.mk (fun _ => ?_) (fun _ => ?_)) | ((with_reducible apply Sy.mkT.yes); (· exact rfl)) | (with_reducible apply Sy.mkT.els) | (with_reducible refine And.intro (Sy.Hold.out ?_) ?_))
        all_goals try (refine Sy.Hold.mk ?_; first | exact trivial | exact rfl | exact Sy.mulA (by omega) (by omega) | exact Sy.mulB (by omega) (by omega) | exact Sy.divA (by omega) (by omega) | exact Sy.smlA (by omega) (by omega) | exact Sy.szLt rfl | exact Sy.szLe rfl | exact Sy.szLe' (by omega) | exact ⟨by omega, by omega⟩ | (rw [List.length_map]; exact Sy.szLt' (by omega)) | (show (0 : Int) < _; first | omega | decide +kernel) | decide +kernel | exact ⟨rfl, Nat.le_of_ble_eq_true rfl, by decide +kernel⟩ | (refine ⟨?_, ?_, ?_⟩ <;> decide +kernel))
        all_goals first | exact ⟨lc2 (cut_iL _) (cut_iL _)⟩ | exact ⟨_, snoc_int _ _, snoc_nn hw hn0, by rw [snoc_len]; omega⟩ | exact ⟨ws, rfl, hw, by omega⟩
      · obtain ⟨rfl, ws, rfl, hw, hwl⟩ := hI
        refine ⟨rfl, ?_⟩
        repeat' ((conv => whnf); first | ((with_reducible apply Sy.one?.yes); (· exact rfl)) | ((with_reducible apply Sy.both.yes); (· exact rfl); (· exact rfl)) | (with_reducible apply Sy.both.els) | ((refine Sy.Got.here ?_ ?_); (· first | with_reducible rfl | decide +kernel)) | ((refine Sy.Got.next ?_ ?_); (· decide +kernel)) | ((with_reducible refine Sy.IfB.t ?_ ?_); (· first | with_reducible rfl | decide +kernel)) | ((with_reducible refine Sy.IfB.f ?_ ?_); (· first | with_reducible rfl | decide +kernel)) | (with_reducible refine Sy.IfB.mk (fun _ => ?_) (fun _ => ?_)) | ((with_reducible apply Sy.mkT.yes); (· exact rfl)) | (with_reducible apply Sy.mkT.els) | (with_reducible refine And.intro (Sy.Hold.out ?_) ?_))
        all_goals try (refine Sy.Hold.mk ?_; first | exact trivial | exact rfl | exact Sy.mulA (by omega) (by omega) | exact Sy.mulB (by omega) (by omega) | exact Sy.divA (by omega) (by omega) | exact Sy.smlA (by omega) (by omega) | exact Sy.szLt rfl | exact Sy.szLe rfl | exact Sy.szLe' (by omega) | exact ⟨by omega, by omega⟩ | (rw [List.length_map]; exact Sy.szLt' (by omega)) | (show (0 : Int) < _; first | omega | decide +kernel) | decide +kernel | exact ⟨rfl, Nat.le_of_ble_eq_true rfl, by decide +kernel⟩ | (refine ⟨?_, ?_, ?_⟩ <;> decide +kernel))
        exact ⟨2, 4, q, 0, ws.reverse, rfl, rfl, congrArg (fun z => some (Cell.ls z)) (rev_ints ws), ⟨hq0, hq1, Int.le_refl _, fun n hn => hw n (List.mem_reverse.mp hn)⟩, hQ⟩
theorem let_len : ("abcdefghijklmnopqrstuvwxyz" : Str).cps.toList.length = 26 := by decide +kernel
def keptS : List Sv := [.d (.str "shape"), .d (.str "bead"), .d (.str "more"), .d (.str "last"), .d (.str "def"), .d (.str "case"), .d (.str "to"), .d (.str "num"), .d (.str "if"), .d (.str "let"), .d (.str "in"), .d (.str "line"), .d (.str "out")]
theorem keptS_mem {x : Sv} (h : x ∈ keptS) : ∃ s : Str, x = .d (.str s) ∧ s.length ≤ 5 ∧ cOk s := by
  unfold keptS at h
  simp only [List.mem_cons, List.not_mem_nil, or_false] at h
  rcases h with rfl | rfl | rfl | rfl | rfl | rfl | rfl | rfl | rfl | rfl | rfl | rfl | rfl
  all_goals exact ⟨_, rfl, by decide +kernel, cOk_dec (by decide +kernel)⟩
theorem let_c : cOk ("abcdefghijklmnopqrstuvwxyz" : Str) := cOk_dec (by decide +kernel)
theorem q_c : cOk ("q" : Str) := cOk_dec (by decide +kernel)
theorem e_c : cOk ("" : Str) := cOk_dec (by decide +kernel)
theorem q_len : ("q" : Str).length = 1 := by decide +kernel
theorem cut2 {a : Str} {k n : Nat} {lo hi : Option Int} (h : a.length + n ≤ k) : (cutS a lo hi).length + n ≤ k := by
  have := cutS_length a lo hi
  omega
theorem app_cut (md s : Str) (lo hi : Option Int) : (md ++ cutS s lo hi).length ≤ md.length + s.length := by
  have h := cutS_length s lo hi
  rw [strLen_append]
  omega
theorem cut_q (nm : Str) : (cutS nm none (some 7) ++ ("q" : Str)).length ≤ nm.length + 1 := by
  rw [strLen_append, q_len]
  have := cutS_length nm none (some 7)
  omega
def pName : PR := fun ds Q => ds = [] ∧ ∀ s : Str, s.length ≤ 16 → cOk s → Q (.str s)
theorem ok_name (T : Tx K mg) (G__law_draw : FnG P w K mg base 1 T._law_draw_f T._law_draw_fd ["_law_deal_here", "_law_many"] (spD K (cDl pDraw))) : FnG P w K mg base 2 T._law_name_f T._law_name_fd ["_law_deal_here"] (spD K (cDl pName)) := by
  refine fnG retD_ok T._law_name_F sc__law_name (fun xs S Q ⟨ds, e, _, e2, _⟩ => by rw [e, e2]; rfl) fun cdv A outer sh H E hr free xs S Q hC => ?_
  have hu := hr.units
  have hu1 := hu_of hr
  refine ⟨_, (db_cons (ds_set (i := 1) sc__law_name.nd rfl (by first | exact Or.inl rfl | exact Or.inr rfl) de_str)
  (db_cons (ds_set (i := 2) sc__law_name.nd rfl (by first | exact Or.inl rfl | exact Or.inr rfl) (de_lst (da_cons de_str (da_cons de_str (da_cons de_str (da_cons de_str (da_cons de_str (da_cons de_str (da_cons de_str (da_cons de_str (da_cons de_str (da_cons de_str (da_cons de_str (da_cons de_str (da_cons de_str da_nil)))))))))))))))
  (db_cons (ds_set (i := 3) sc__law_name.nd rfl (by first | exact Or.inl rfl | exact Or.inr rfl) (de_m_join de_str (de_lc (own := [("_law_k", 6)]) rfl sc__law_name.nd (di_range1 rfl T.z_range (da_cons (de_bin od_add de_int (de_callDlG G__law_draw (hr.mono (by decide)) free rfl T._law_draw_g T._law_draw_F.kp T._law_draw_b (da_cons (de_var 0) (da_cons de_int da_nil)))) da_nil)) (blkOk_by (N := ["_law_deal_here", "_law_letters", "_law_kept", "_law_name_here", "_law_near", "_law_at", "_law_k"]) (sc := defScope s__law_name) (by decide +kernel)) (by simp) (fun _ _ _ _ _ => (dg_name (i := 6) sc__law_name.nd rfl (Or.inl rfl))) (fun _ _ _ _ _ => dts_nil) (fun _ _ _ _ _ => (de_ix hu1 (de_var 1) (de_callDlG G__law_draw (hr.mono (by decide)) free rfl T._law_draw_g T._law_draw_F.kp T._law_draw_b (da_cons (de_var 0) (da_cons de_int da_nil))) (fun _ _ => rfl))))))
  (db_cons (ds_if (dt_cmp (od_eq hu) (de_callDlG G__law_draw (hr.mono (by decide)) free rfl T._law_draw_g T._law_draw_F.kp T._law_draw_b (da_cons (de_var 0) (da_cons de_int da_nil))) de_int (nomark _)) (db_cons (ds_set (i := 4) sc__law_name.nd rfl (by first | exact Or.inl rfl | exact Or.inr rfl) (de_ix hu1 (de_var 2) (de_callDlG G__law_draw (hr.mono (by decide)) free rfl T._law_draw_g T._law_draw_F.kp T._law_draw_b (da_cons (de_var 0) (da_cons de_int da_nil))) (fun _ _ => rfl)))
  (db_cons (ds_set (i := 5) sc__law_name.nd rfl (by first | exact Or.inl rfl | exact Or.inr rfl) (de_callDlG G__law_draw (hr.mono (by decide)) free rfl T._law_draw_g T._law_draw_F.kp T._law_draw_b (da_cons (de_var 0) (da_cons (de_bin od_add (de_callB (cd_len) rfl T.z_len (by decide +kernel) (da_cons (de_var 4) da_nil)) de_int) da_nil))))
  (db_one (ds_set (i := 3) sc__law_name.nd rfl (by first | exact Or.inl rfl | exact Or.inr rfl) (de_bin od_add (de_bin od_add (de_slice (de_var 4) do_none (do_some (de_var 5))) (de_bin od_mulA (de_ix hu1 (de_var 1) (de_callDlG G__law_draw (hr.mono (by decide)) free rfl T._law_draw_g T._law_draw_F.kp T._law_draw_b (da_cons (de_var 0) (da_cons de_int da_nil))) (fun _ _ => rfl)) (de_callDlG G__law_draw (hr.mono (by decide)) free rfl T._law_draw_g T._law_draw_F.kp T._law_draw_b (da_cons (de_var 0) (da_cons de_int da_nil))))) (de_slice (de_var 4) (do_some (de_bin od_add (de_var 5) (de_callDlG G__law_draw (hr.mono (by decide)) free rfl T._law_draw_g T._law_draw_F.kp T._law_draw_b (da_cons (de_var 0) (da_cons de_int da_nil))))) do_none)))))) db_nil)
  (db_cons (ds_if (DW.dt (dw_or (dt_cmp (od_eq hu) (de_var 3) de_str (nomark _)) (dw_or1 (dt_cmp (od_in hu1) (de_var 3) (de_var 2) rfl)))) (db_one (ds_set (i := 3) sc__law_name.nd rfl (by first | exact Or.inl rfl | exact Or.inr rfl) (de_bin od_add (de_slice (de_var 3) do_none (do_some de_int)) de_str))) db_nil)
  (db_one (ds_ret (de_var 3)))))))), ?_⟩
  obtain ⟨ds, rfl, rfl, rfl, hQ⟩ := hC
  repeat' ((conv => whnf); first | ((with_reducible apply Sy.one?.yes); (· exact rfl)) | ((with_reducible apply Sy.both.yes); (· exact rfl); (· exact rfl)) | (with_reducible apply Sy.both.els) | ((refine Sy.Got.here ?_ ?_); (· first | with_reducible rfl | decide +kernel)) | ((refine Sy.Got.next ?_ ?_); (· decide +kernel)) | ((with_reducible refine Sy.IfB.t ?_ ?_); (· first | with_reducible rfl | decide +kernel)) | ((with_reducible refine Sy.IfB.f ?_ ?_); (· first | with_reducible rfl | decide +kernel)) | (with_reducible refine Sy.IfB.mk (fun _ => ?_) (fun _ => ?_)) | ((with_reducible apply Sy.mkT.yes); (· exact rfl)) | (with_reducible apply Sy.mkT.els) | (with_reducible refine And.intro (Sy.Hold.out ?_) ?_))
  all_goals try (refine Sy.Hold.mk ?_; first | exact trivial | exact rfl | exact Sy.mulA (by omega) (by omega) | exact Sy.mulB (by omega) (by omega) | exact Sy.divA (by omega) (by omega) | exact Sy.smlA (by omega) (by omega) | exact Sy.szLt rfl | exact Sy.szLe rfl | exact Sy.szLe' (by omega) | exact ⟨by omega, by omega⟩ | (rw [List.length_map]; exact Sy.szLt' (by omega)) | (show (0 : Int) < _; first | omega | decide +kernel) | decide +kernel | exact ⟨rfl, Nat.le_of_ble_eq_true rfl, by decide +kernel⟩ | (refine ⟨?_, ?_, ?_⟩ <;> decide +kernel))
  refine ⟨8, rfl, ⟨by omega, by omega⟩, fun r h0 h1 => ?_⟩
  repeat' ((conv => whnf); first | ((with_reducible apply Sy.one?.yes); (· exact rfl)) | ((with_reducible apply Sy.both.yes); (· exact rfl); (· exact rfl)) | (with_reducible apply Sy.both.els) | ((refine Sy.Got.here ?_ ?_); (· first | with_reducible rfl | decide +kernel)) | ((refine Sy.Got.next ?_ ?_); (· decide +kernel)) | ((with_reducible refine Sy.IfB.t ?_ ?_); (· first | with_reducible rfl | decide +kernel)) | ((with_reducible refine Sy.IfB.f ?_ ?_); (· first | with_reducible rfl | decide +kernel)) | (with_reducible refine Sy.IfB.mk (fun _ => ?_) (fun _ => ?_)) | ((with_reducible apply Sy.mkT.yes); (· exact rfl)) | (with_reducible apply Sy.mkT.els) | (with_reducible refine And.intro (Sy.Hold.out ?_) ?_))
  all_goals try (refine Sy.Hold.mk ?_; first | exact trivial | exact rfl | exact Sy.mulA (by omega) (by omega) | exact Sy.mulB (by omega) (by omega) | exact Sy.divA (by omega) (by omega) | exact Sy.smlA (by omega) (by omega) | exact Sy.szLt rfl | exact Sy.szLe rfl | exact Sy.szLe' (by omega) | exact ⟨by omega, by omega⟩ | (rw [List.length_map]; exact Sy.szLt' (by omega)) | (show (0 : Int) < _; first | omega | decide +kernel) | decide +kernel | exact ⟨rfl, Nat.le_of_ble_eq_true rfl, by decide +kernel⟩ | (refine ⟨?_, ?_, ?_⟩ <;> decide +kernel))
  refine ⟨fun i acc S => S = _ ∧ ∃ zs : List Str, acc = zs.map .str ∧ (∀ z ∈ zs, z.length ≤ 1 ∧ cOk z) ∧ zs.length = i, ⟨rfl, [], rfl, (fun _ h => by cases h), rfl⟩, fun i x acc S hx hJ hS => ?_, fun acc S hJ hS => ?_⟩
  · obtain ⟨rfl, hj⟩ := rng_get hx
    obtain ⟨rfl, zs, rfl, hz, rfl⟩ := hJ
    refine ⟨trivial, ?_⟩
    repeat' ((conv => whnf); first | ((with_reducible apply Sy.one?.yes); (· exact rfl)) | ((with_reducible apply Sy.both.yes); (· exact rfl); (· exact rfl)) | (with_reducible apply Sy.both.els) | ((refine Sy.Got.here ?_ ?_); (· first | with_reducible rfl | decide +kernel)) | ((refine Sy.Got.next ?_ ?_); (· decide +kernel)) | ((with_reducible refine Sy.IfB.t ?_ ?_); (· first | with_reducible rfl | decide +kernel)) | ((with_reducible refine Sy.IfB.f ?_ ?_); (· first | with_reducible rfl | decide +kernel)) | (with_reducible refine Sy.IfB.mk (fun _ => ?_) (fun _ => ?_)) | ((with_reducible apply Sy.mkT.yes); (· exact rfl)) | (with_reducible apply Sy.mkT.els) | (with_reducible refine And.intro (Sy.Hold.out ?_) ?_))
    all_goals try (refine Sy.Hold.mk ?_; first | exact trivial | exact rfl | exact Sy.mulA (by omega) (by omega) | exact Sy.mulB (by omega) (by omega) | exact Sy.divA (by omega) (by omega) | exact Sy.smlA (by omega) (by omega) | exact Sy.szLt rfl | exact Sy.szLe rfl | exact Sy.szLe' (by omega) | exact ⟨by omega, by omega⟩ | (rw [List.length_map]; exact Sy.szLt' (by omega)) | (show (0 : Int) < _; first | omega | decide +kernel) | decide +kernel | exact ⟨rfl, Nat.le_of_ble_eq_true rfl, by decide +kernel⟩ | (refine ⟨?_, ?_, ?_⟩ <;> decide +kernel))
    refine ⟨26, rfl, ⟨by omega, by omega⟩, fun r2 h2 h3 => ?_⟩
    repeat' ((conv => whnf); first | ((with_reducible apply Sy.one?.yes); (· exact rfl)) | ((with_reducible apply Sy.both.yes); (· exact rfl); (· exact rfl)) | (with_reducible apply Sy.both.els) | ((refine Sy.Got.here ?_ ?_); (· first | with_reducible rfl | decide +kernel)) | ((refine Sy.Got.next ?_ ?_); (· decide +kernel)) | ((with_reducible refine Sy.IfB.t ?_ ?_); (· first | with_reducible rfl | decide +kernel)) | ((with_reducible refine Sy.IfB.f ?_ ?_); (· first | with_reducible rfl | decide +kernel)) | (with_reducible refine Sy.IfB.mk (fun _ => ?_) (fun _ => ?_)) | ((with_reducible apply Sy.mkT.yes); (· exact rfl)) | (with_reducible apply Sy.mkT.els) | (with_reducible refine And.intro (Sy.Hold.out ?_) ?_))
    all_goals try (refine Sy.Hold.mk ?_; first | exact trivial | exact rfl | exact Sy.mulA (by omega) (by omega) | exact Sy.mulB (by omega) (by omega) | exact Sy.divA (by omega) (by omega) | exact Sy.smlA (by omega) (by omega) | exact Sy.szLt rfl | exact Sy.szLe rfl | exact Sy.szLe' (by omega) | exact ⟨by omega, by omega⟩ | (rw [List.length_map]; exact Sy.szLt' (by omega)) | (show (0 : Int) < _; first | omega | decide +kernel) | decide +kernel | exact ⟨rfl, Nat.le_of_ble_eq_true rfl, by decide +kernel⟩ | (refine ⟨?_, ?_, ?_⟩ <;> decide +kernel))
    obtain ⟨c, hc, e⟩ := atI_in (xs := ("abcdefghijklmnopqrstuvwxyz" : Str).cps.toList) h2 (by rw [let_len]; exact h3)
    refine Sy.one?.yes e ?_
    repeat' ((conv => whnf); first | ((with_reducible apply Sy.one?.yes); (· exact rfl)) | ((with_reducible apply Sy.both.yes); (· exact rfl); (· exact rfl)) | (with_reducible apply Sy.both.els) | ((refine Sy.Got.here ?_ ?_); (· first | with_reducible rfl | decide +kernel)) | ((refine Sy.Got.next ?_ ?_); (· decide +kernel)) | ((with_reducible refine Sy.IfB.t ?_ ?_); (· first | with_reducible rfl | decide +kernel)) | ((with_reducible refine Sy.IfB.f ?_ ?_); (· first | with_reducible rfl | decide +kernel)) | (with_reducible refine Sy.IfB.mk (fun _ => ?_) (fun _ => ?_)) | ((with_reducible apply Sy.mkT.yes); (· exact rfl)) | (with_reducible apply Sy.mkT.els) | (with_reducible refine And.intro (Sy.Hold.out ?_) ?_))
    all_goals try (refine Sy.Hold.mk ?_; first | exact trivial | exact rfl | exact Sy.mulA (by omega) (by omega) | exact Sy.mulB (by omega) (by omega) | exact Sy.divA (by omega) (by omega) | exact Sy.smlA (by omega) (by omega) | exact Sy.szLt rfl | exact Sy.szLe rfl | exact Sy.szLe' (by omega) | exact ⟨by omega, by omega⟩ | (rw [List.length_map]; exact Sy.szLt' (by omega)) | (show (0 : Int) < _; first | omega | decide +kernel) | decide +kernel | exact ⟨rfl, Nat.le_of_ble_eq_true rfl, by decide +kernel⟩ | (refine ⟨?_, ?_, ?_⟩ <;> decide +kernel))
    exact ⟨zs ++ [_], snoc_str _ _, snoc_all hz ⟨Nat.le_refl 1, cOk_one (let_c c hc)⟩, snoc_len _ _⟩
  · obtain ⟨rfl, zs, rfl, hz, hzl⟩ := hJ
    refine ⟨trivial, ?_⟩
    repeat' ((conv => whnf); first | ((with_reducible apply Sy.one?.yes); (· exact rfl)) | ((with_reducible apply Sy.both.yes); (· exact rfl); (· exact rfl)) | (with_reducible apply Sy.both.els) | ((refine Sy.Got.here ?_ ?_); (· first | with_reducible rfl | decide +kernel)) | ((refine Sy.Got.next ?_ ?_); (· decide +kernel)) | ((with_reducible refine Sy.IfB.t ?_ ?_); (· first | with_reducible rfl | decide +kernel)) | ((with_reducible refine Sy.IfB.f ?_ ?_); (· first | with_reducible rfl | decide +kernel)) | (with_reducible refine Sy.IfB.mk (fun _ => ?_) (fun _ => ?_)) | ((with_reducible apply Sy.mkT.yes); (· exact rfl)) | (with_reducible apply Sy.mkT.els) | (with_reducible refine And.intro (Sy.Hold.out ?_) ?_))
    all_goals try (refine Sy.Hold.mk ?_; first | exact trivial | exact rfl | exact Sy.mulA (by omega) (by omega) | exact Sy.mulB (by omega) (by omega) | exact Sy.divA (by omega) (by omega) | exact Sy.smlA (by omega) (by omega) | exact Sy.szLt rfl | exact Sy.szLe rfl | exact Sy.szLe' (by omega) | exact ⟨by omega, by omega⟩ | (rw [List.length_map]; exact Sy.szLt' (by omega)) | (show (0 : Int) < _; first | omega | decide +kernel) | decide +kernel | exact ⟨rfl, Nat.le_of_ble_eq_true rfl, by decide +kernel⟩ | (refine ⟨?_, ?_, ?_⟩ <;> decide +kernel))
    have hzl : zs.length ≤ 8 := by
      rw [hzl, rng_len]
      omega
    have hj := join_ones fun y h => (hz y h).1
    have hjc : cOk (Txt.join "" zs) := cOk_joinT e_c fun y h => (hz y h).2
    have hsum := sum_ones fun y h => (hz y h).1
    refine Sy.one?.yes (x := zs) (by show (allD ((zs.map D.str).map Sv.d)).bind strsD = _; rw [allD_md]; exact strsD_map zs) ?_
    generalize hnm : Txt.join "" zs = nm at *
    have hnl : nm.length ≤ 8 := by omega
    repeat' ((conv => whnf); first | ((with_reducible apply Sy.one?.yes); (· exact rfl)) | ((with_reducible apply Sy.both.yes); (· exact rfl); (· exact rfl)) | (with_reducible apply Sy.both.els) | ((refine Sy.Got.here ?_ ?_); (· first | with_reducible rfl | decide +kernel)) | ((refine Sy.Got.next ?_ ?_); (· decide +kernel)) | ((with_reducible refine Sy.IfB.t ?_ ?_); (· first | with_reducible rfl | decide +kernel)) | ((with_reducible refine Sy.IfB.f ?_ ?_); (· first | with_reducible rfl | decide +kernel)) | (with_reducible refine Sy.IfB.mk (fun _ => ?_) (fun _ => ?_)) | ((with_reducible apply Sy.mkT.yes); (· exact rfl)) | (with_reducible apply Sy.mkT.els) | (with_reducible refine And.intro (Sy.Hold.out ?_) ?_))
    all_goals try (refine Sy.Hold.mk ?_; first | exact trivial | exact rfl | exact Sy.mulA (by omega) (by omega) | exact Sy.mulB (by omega) (by omega) | exact Sy.divA (by omega) (by omega) | exact Sy.smlA (by omega) (by omega) | exact Sy.szLt rfl | exact Sy.szLe rfl | exact Sy.szLe' (by omega) | exact ⟨by omega, by omega⟩ | (rw [List.length_map]; exact Sy.szLt' (by omega)) | (show (0 : Int) < _; first | omega | decide +kernel) | decide +kernel | exact ⟨rfl, Nat.le_of_ble_eq_true rfl, by decide +kernel⟩ | (refine ⟨?_, ?_, ?_⟩ <;> decide +kernel))
    · refine ⟨?_⟩
      have h0 : ("" : Str).length = 0 := by decide +kernel
      rw [h0]
      omega
    refine ⟨3, rfl, ⟨by omega, by omega⟩, fun r2 h2 h3 => ?_⟩
    repeat' ((conv => whnf); first | ((with_reducible apply Sy.one?.yes); (· exact rfl)) | ((with_reducible apply Sy.both.yes); (· exact rfl); (· exact rfl)) | (with_reducible apply Sy.both.els) | ((refine Sy.Got.here ?_ ?_); (· first | with_reducible rfl | decide +kernel)) | ((refine Sy.Got.next ?_ ?_); (· decide +kernel)) | ((with_reducible refine Sy.IfB.t ?_ ?_); (· first | with_reducible rfl | decide +kernel)) | ((with_reducible refine Sy.IfB.f ?_ ?_); (· first | with_reducible rfl | decide +kernel)) | (with_reducible refine Sy.IfB.mk (fun _ => ?_) (fun _ => ?_)) | ((with_reducible apply Sy.mkT.yes); (· exact rfl)) | (with_reducible apply Sy.mkT.els) | (with_reducible refine And.intro (Sy.Hold.out ?_) ?_))
    all_goals try (refine Sy.Hold.mk ?_; first | exact trivial | exact rfl | exact Sy.mulA (by omega) (by omega) | exact Sy.mulB (by omega) (by omega) | exact Sy.divA (by omega) (by omega) | exact Sy.smlA (by omega) (by omega) | exact Sy.szLt rfl | exact Sy.szLe rfl | exact Sy.szLe' (by omega) | exact ⟨by omega, by omega⟩ | (rw [List.length_map]; exact Sy.szLt' (by omega)) | (show (0 : Int) < _; first | omega | decide +kernel) | decide +kernel | exact ⟨rfl, Nat.le_of_ble_eq_true rfl, by decide +kernel⟩ | (refine ⟨?_, ?_, ?_⟩ <;> decide +kernel))
    · -- a kept word's near one
      refine ⟨13, rfl, ⟨by omega, by omega⟩, fun r3 h4 h5 => ?_⟩
      repeat' ((conv => whnf); first | ((with_reducible apply Sy.one?.yes); (· exact rfl)) | ((with_reducible apply Sy.both.yes); (· exact rfl); (· exact rfl)) | (with_reducible apply Sy.both.els) | ((refine Sy.Got.here ?_ ?_); (· first | with_reducible rfl | decide +kernel)) | ((refine Sy.Got.next ?_ ?_); (· decide +kernel)) | ((with_reducible refine Sy.IfB.t ?_ ?_); (· first | with_reducible rfl | decide +kernel)) | ((with_reducible refine Sy.IfB.f ?_ ?_); (· first | with_reducible rfl | decide +kernel)) | (with_reducible refine Sy.IfB.mk (fun _ => ?_) (fun _ => ?_)) | ((with_reducible apply Sy.mkT.yes); (· exact rfl)) | (with_reducible apply Sy.mkT.els) | (with_reducible refine And.intro (Sy.Hold.out ?_) ?_))
      all_goals try (refine Sy.Hold.mk ?_; first | exact trivial | exact rfl | exact Sy.mulA (by omega) (by omega) | exact Sy.mulB (by omega) (by omega) | exact Sy.divA (by omega) (by omega) | exact Sy.smlA (by omega) (by omega) | exact Sy.szLt rfl | exact Sy.szLe rfl | exact Sy.szLe' (by omega) | exact ⟨by omega, by omega⟩ | (rw [List.length_map]; exact Sy.szLt' (by omega)) | (show (0 : Int) < _; first | omega | decide +kernel) | decide +kernel | exact ⟨rfl, Nat.le_of_ble_eq_true rfl, by decide +kernel⟩ | (refine ⟨?_, ?_, ?_⟩ <;> decide +kernel))
      obtain ⟨x, hx, e⟩ := atI_in (xs := keptS) h4 h5
      obtain ⟨s, rfl, hs, hsc⟩ := keptS_mem hx
      refine Sy.one?.yes e ?_
      repeat' ((conv => whnf); first | ((with_reducible apply Sy.one?.yes); (· exact rfl)) | ((with_reducible apply Sy.both.yes); (· exact rfl); (· exact rfl)) | (with_reducible apply Sy.both.els) | ((refine Sy.Got.here ?_ ?_); (· first | with_reducible rfl | decide +kernel)) | ((refine Sy.Got.next ?_ ?_); (· decide +kernel)) | ((with_reducible refine Sy.IfB.t ?_ ?_); (· first | with_reducible rfl | decide +kernel)) | ((with_reducible refine Sy.IfB.f ?_ ?_); (· first | with_reducible rfl | decide +kernel)) | (with_reducible refine Sy.IfB.mk (fun _ => ?_) (fun _ => ?_)) | ((with_reducible apply Sy.mkT.yes); (· exact rfl)) | (with_reducible apply Sy.mkT.els) | (with_reducible refine And.intro (Sy.Hold.out ?_) ?_))
      all_goals try (refine Sy.Hold.mk ?_; first | exact trivial | exact rfl | exact Sy.mulA (by omega) (by omega) | exact Sy.mulB (by omega) (by omega) | exact Sy.divA (by omega) (by omega) | exact Sy.smlA (by omega) (by omega) | exact Sy.szLt rfl | exact Sy.szLe rfl | exact Sy.szLe' (by omega) | exact ⟨by omega, by omega⟩ | (rw [List.length_map]; exact Sy.szLt' (by omega)) | (show (0 : Int) < _; first | omega | decide +kernel) | decide +kernel | exact ⟨rfl, Nat.le_of_ble_eq_true rfl, by decide +kernel⟩ | (refine ⟨?_, ?_, ?_⟩ <;> decide +kernel))
      refine ⟨(s.length : Int) + 1, rfl, ⟨by omega, by omega⟩, fun r4 h6 h7 => ?_⟩
      repeat' ((conv => whnf); first | ((with_reducible apply Sy.one?.yes); (· exact rfl)) | ((with_reducible apply Sy.both.yes); (· exact rfl); (· exact rfl)) | (with_reducible apply Sy.both.els) | ((refine Sy.Got.here ?_ ?_); (· first | with_reducible rfl | decide +kernel)) | ((refine Sy.Got.next ?_ ?_); (· decide +kernel)) | ((with_reducible refine Sy.IfB.t ?_ ?_); (· first | with_reducible rfl | decide +kernel)) | ((with_reducible refine Sy.IfB.f ?_ ?_); (· first | with_reducible rfl | decide +kernel)) | (with_reducible refine Sy.IfB.mk (fun _ => ?_) (fun _ => ?_)) | ((with_reducible apply Sy.mkT.yes); (· exact rfl)) | (with_reducible apply Sy.mkT.els) | (with_reducible refine And.intro (Sy.Hold.out ?_) ?_))
      all_goals try (refine Sy.Hold.mk ?_; first | exact trivial | exact rfl | exact Sy.mulA (by omega) (by omega) | exact Sy.mulB (by omega) (by omega) | exact Sy.divA (by omega) (by omega) | exact Sy.smlA (by omega) (by omega) | exact Sy.szLt rfl | exact Sy.szLe rfl | exact Sy.szLe' (by omega) | exact ⟨by omega, by omega⟩ | (rw [List.length_map]; exact Sy.szLt' (by omega)) | (show (0 : Int) < _; first | omega | decide +kernel) | decide +kernel | exact ⟨rfl, Nat.le_of_ble_eq_true rfl, by decide +kernel⟩ | (refine ⟨?_, ?_, ?_⟩ <;> decide +kernel))
      refine ⟨26, rfl, ⟨by omega, by omega⟩, fun r5 h8 h9 => ?_⟩
      repeat' ((conv => whnf); first | ((with_reducible apply Sy.one?.yes); (· exact rfl)) | ((with_reducible apply Sy.both.yes); (· exact rfl); (· exact rfl)) | (with_reducible apply Sy.both.els) | ((refine Sy.Got.here ?_ ?_); (· first | with_reducible rfl | decide +kernel)) | ((refine Sy.Got.next ?_ ?_); (· decide +kernel)) | ((with_reducible refine Sy.IfB.t ?_ ?_); (· first | with_reducible rfl | decide +kernel)) | ((with_reducible refine Sy.IfB.f ?_ ?_); (· first | with_reducible rfl | decide +kernel)) | (with_reducible refine Sy.IfB.mk (fun _ => ?_) (fun _ => ?_)) | ((with_reducible apply Sy.mkT.yes); (· exact rfl)) | (with_reducible apply Sy.mkT.els) | (with_reducible refine And.intro (Sy.Hold.out ?_) ?_))
      all_goals try (refine Sy.Hold.mk ?_; first | exact trivial | exact rfl | exact Sy.mulA (by omega) (by omega) | exact Sy.mulB (by omega) (by omega) | exact Sy.divA (by omega) (by omega) | exact Sy.smlA (by omega) (by omega) | exact Sy.szLt rfl | exact Sy.szLe rfl | exact Sy.szLe' (by omega) | exact ⟨by omega, by omega⟩ | (rw [List.length_map]; exact Sy.szLt' (by omega)) | (show (0 : Int) < _; first | omega | decide +kernel) | decide +kernel | exact ⟨rfl, Nat.le_of_ble_eq_true rfl, by decide +kernel⟩ | (refine ⟨?_, ?_, ?_⟩ <;> decide +kernel))
      obtain ⟨c, hc, e2⟩ := atI_in (xs := ("abcdefghijklmnopqrstuvwxyz" : Str).cps.toList) h8 (by rw [let_len]; exact h9)
      refine Sy.one?.yes e2 ?_
      repeat' ((conv => whnf); first | ((with_reducible apply Sy.one?.yes); (· exact rfl)) | ((with_reducible apply Sy.both.yes); (· exact rfl); (· exact rfl)) | (with_reducible apply Sy.both.els) | ((refine Sy.Got.here ?_ ?_); (· first | with_reducible rfl | decide +kernel)) | ((refine Sy.Got.next ?_ ?_); (· decide +kernel)) | ((with_reducible refine Sy.IfB.t ?_ ?_); (· first | with_reducible rfl | decide +kernel)) | ((with_reducible refine Sy.IfB.f ?_ ?_); (· first | with_reducible rfl | decide +kernel)) | (with_reducible refine Sy.IfB.mk (fun _ => ?_) (fun _ => ?_)) | ((with_reducible apply Sy.mkT.yes); (· exact rfl)) | (with_reducible apply Sy.mkT.els) | (with_reducible refine And.intro (Sy.Hold.out ?_) ?_))
      all_goals try (refine Sy.Hold.mk ?_; first | exact trivial | exact rfl | exact Sy.mulA (by omega) (by omega) | exact Sy.mulB (by omega) (by omega) | exact Sy.divA (by omega) (by omega) | exact Sy.smlA (by omega) (by omega) | exact Sy.szLt rfl | exact Sy.szLe rfl | exact Sy.szLe' (by omega) | exact ⟨by omega, by omega⟩ | (rw [List.length_map]; exact Sy.szLt' (by omega)) | (show (0 : Int) < _; first | omega | decide +kernel) | decide +kernel | exact ⟨rfl, Nat.le_of_ble_eq_true rfl, by decide +kernel⟩ | (refine ⟨?_, ?_, ?_⟩ <;> decide +kernel))
      refine ⟨2, rfl, ⟨by omega, by omega⟩, fun r6 h10 h11 => ?_⟩
      repeat' ((conv => whnf); first | ((with_reducible apply Sy.one?.yes); (· exact rfl)) | ((with_reducible apply Sy.both.yes); (· exact rfl); (· exact rfl)) | (with_reducible apply Sy.both.els) | ((refine Sy.Got.here ?_ ?_); (· first | with_reducible rfl | decide +kernel)) | ((refine Sy.Got.next ?_ ?_); (· decide +kernel)) | ((with_reducible refine Sy.IfB.t ?_ ?_); (· first | with_reducible rfl | decide +kernel)) | ((with_reducible refine Sy.IfB.f ?_ ?_); (· first | with_reducible rfl | decide +kernel)) | (with_reducible refine Sy.IfB.mk (fun _ => ?_) (fun _ => ?_)) | ((with_reducible apply Sy.mkT.yes); (· exact rfl)) | (with_reducible apply Sy.mkT.els) | (with_reducible refine And.intro (Sy.Hold.out ?_) ?_))
      all_goals try (refine Sy.Hold.mk ?_; first | exact trivial | exact rfl | exact Sy.mulA (by omega) (by omega) | exact Sy.mulB (by omega) (by omega) | exact Sy.divA (by omega) (by omega) | exact Sy.smlA (by omega) (by omega) | exact Sy.szLt rfl | exact Sy.szLe rfl | exact Sy.szLe' (by omega) | exact ⟨by omega, by omega⟩ | (rw [List.length_map]; exact Sy.szLt' (by omega)) | (show (0 : Int) < _; first | omega | decide +kernel) | decide +kernel | exact ⟨rfl, Nat.le_of_ble_eq_true rfl, by decide +kernel⟩ | (refine ⟨?_, ?_, ?_⟩ <;> decide +kernel))
      · exact ⟨⟨by omega, by omega, (by show 1 ≤ 16777216; decide), (by show 1 * r6.toNat ≤ 16777216; omega)⟩⟩
      · refine ⟨?_⟩
        have h12 := cutS_length s none (some r4)
        rw [repS_len]
        exact szLe' (by show _ + 1 * r6.toNat ≤ _; omega)
      have hmd : (cutS s none (some r4) ++ repS ⟨#[c]⟩ r6).length ≤ 6 := by
        have h12 := cutS_length s none (some r4)
        rw [strLen_append, repS_len]
        show _ + 1 * r6.toNat ≤ _
        omega
      have hmc : cOk (cutS s none (some r4) ++ repS ⟨#[c]⟩ r6) := cOk_app (cOk_cut hsc) (cOk_rep (cOk_one (let_c c hc)))
      generalize cutS s none (some r4) ++ repS ⟨#[c]⟩ r6 = md at *
      refine ⟨2, rfl, ⟨by omega, by omega⟩, fun r7 h12 h13 => ?_⟩
      repeat' ((conv => whnf); first | ((with_reducible apply Sy.one?.yes); (· exact rfl)) | ((with_reducible apply Sy.both.yes); (· exact rfl); (· exact rfl)) | (with_reducible apply Sy.both.els) | ((refine Sy.Got.here ?_ ?_); (· first | with_reducible rfl | decide +kernel)) | ((refine Sy.Got.next ?_ ?_); (· decide +kernel)) | ((with_reducible refine Sy.IfB.t ?_ ?_); (· first | with_reducible rfl | decide +kernel)) | ((with_reducible refine Sy.IfB.f ?_ ?_); (· first | with_reducible rfl | decide +kernel)) | (with_reducible refine Sy.IfB.mk (fun _ => ?_) (fun _ => ?_)) | ((with_reducible apply Sy.mkT.yes); (· exact rfl)) | (with_reducible apply Sy.mkT.els) | (with_reducible refine And.intro (Sy.Hold.out ?_) ?_))
      all_goals try (refine Sy.Hold.mk ?_; first | exact trivial | exact rfl | exact Sy.mulA (by omega) (by omega) | exact Sy.mulB (by omega) (by omega) | exact Sy.divA (by omega) (by omega) | exact Sy.smlA (by omega) (by omega) | exact Sy.szLt rfl | exact Sy.szLe rfl | exact Sy.szLe' (by omega) | exact ⟨by omega, by omega⟩ | (rw [List.length_map]; exact Sy.szLt' (by omega)) | (show (0 : Int) < _; first | omega | decide +kernel) | decide +kernel | exact ⟨rfl, Nat.le_of_ble_eq_true rfl, by decide +kernel⟩ | (refine ⟨?_, ?_, ?_⟩ <;> decide +kernel))
      · refine ⟨?_⟩
        have h14 := cutS_length s (some (r4 + r7)) none
        exact szLe' (by omega)
      all_goals have hne := app_cut md s (some (r4 + r7)) none
      all_goals have hec := cOk_app hmc (cOk_cut (lo := some (r4 + r7)) (hi := none) hsc)
      all_goals first | exact ⟨szLe' (by omega)⟩ | exact hQ _ (by omega) (by assumption) | exact hQ _ (Nat.le_trans (cut_q _) (by omega)) (cOk_app (cOk_cut (by assumption)) q_c) | exact ⟨cut2 (szLe' (by rw [q_len]; omega))⟩
    all_goals first | exact hQ _ (by omega) (by assumption) | exact hQ _ (Nat.le_trans (cut_q _) (by omega)) (cOk_app (cOk_cut (by assumption)) q_c) | exact ⟨cut2 (szLe' (by rw [q_len]; omega))⟩
def letC : Str := "abcdefghijklmnopqrstuvwxyz"
def figC : Str := "0123456789"
def inS (b : Str) (c : Nat) : Bool := !(Builtin.Str.occurrences b ⟨#[c]⟩ 0 b.length 1).isEmpty
def keptD : List D := [.str "shape", .str "bead", .str "more", .str "last", .str "def", .str "case", .str "to", .str "num", .str "if", .str "let", .str "in", .str "line", .str "out"]
def isNm (s : Str) : Bool := decide (1 ≤ s.length ∧ s.length ≤ 8) && (!(inD (.str s) keptD) && s.cps.toList.all (inS letC))
theorem qb_of {Q : SC} {a b : Bool} {S : List Cell} (h : Q (.d (.bl a)) S) (e : a = b) : Q (.d (.bl b)) S := by rw [← e]; exact h
theorem isNm_out {s : Str} (h : ¬ (1 ≤ s.length ∧ s.length ≤ 8)) : isNm s = false := by unfold isNm; rw [decide_eq_false h]; rfl
theorem isNm_kept {s : Str} (h : inD (.str s) keptD = true) : isNm s = false := by unfold isNm; rw [h]; simp
theorem isNm_in {s : Str} (h : 1 ≤ s.length ∧ s.length ≤ 8) (h2 : inD (.str s) keptD = false) : isNm s = s.cps.toList.all (inS letC) := by unfold isNm; rw [decide_eq_true h, h2]; rfl
theorem signs_get {a : Str} {i : Nat} {x : Sv} (h : (Sy.signs a)[i]? = some x) : ∃ c, a.cps.toList[i]? = some c ∧ x = .d (.str ⟨#[c]⟩) := by
  unfold Sy.signs at h
  rw [List.getElem?_map] at h
  obtain ⟨c, e, rfl⟩ := Option.map_eq_some_iff.mp h
  exact ⟨c, e, rfl⟩
theorem signs_len (a : Str) : (Sy.signs a).length = a.length := by
  unfold Sy.signs
  rw [List.length_map, Array.length_toList]
  rfl
theorem take_snoc2 {α β γ : Type} {l : List α} {i : Nat} {c : α} (f : α → β) (g : β → γ) (h : l[i]? = some c) : ((l.take i).map f).map g ++ [g (f c)] = ((l.take (i + 1)).map f).map g := by
  rw [List.take_succ, h, List.map_append, List.map_append]
  rfl
theorem all_take {α : Type} {l : List α} {n : Nat} (f : α → Bool) (h : n = l.length) : ((l.take n).map f).all id = l.all f := by
  rw [h, List.take_length, List.all_map]
  rfl
def pIsNm : PR := fun ds Q => ∃ s : Str, ds = [.str s] ∧ (s.length ≤ 20000 ∧ cOk s) ∧ Q (.bl (isNm s))
theorem blsD_map (bs : List Bool) : blsD (bs.map D.bl) = some bs := by
  induction bs with
  | nil => rfl
  | cons b r ih => unfold List.map blsD; rw [ih]; rfl
theorem take_snoc {α β : Type} {l : List α} {i : Nat} {c : α} (f : α → β) (h : l[i]? = some c) : (l.take i).map f ++ [f c] = (l.take (i + 1)).map f := by
  rw [List.take_succ, h, List.map_append]
  rfl
theorem ok_isname (T : Tx K mg) : FnG P w K mg base 1 T.is_name_f T.is_name_fd ["text"] (spD K (cP pIsNm)) := by
  refine fnG retF_ok T.is_name_F sc_is_name (fun xs S Q ⟨ds, e, _, s, e2, _⟩ => by rw [e, e2]; rfl) fun cdv A outer sh H E hr free xs S Q hC => ?_
  have hu := hr.units
  have hu1 := hu_of hr
  refine ⟨_, (db_cons (ds_if (DW.dt (dw_or (dt_not (dt_chain od_le od_le de_int (de_callB (cd_len) rfl T.z_len (by decide +kernel) (da_cons (de_var 0) da_nil)) (de_glob (v := .int 8) (d := .int 8) rfl T.LONGEST_NAME_g ⟨_, rfl⟩ (fun _ => .int _)))) (dw_or1 (dt_cmp (od_in hu1) (de_var 0) (de_glob (v := .ref T.KEPT_WORDS_a) (d := .tup ((["shape", "bead", "more", "last", "def", "case", "to", "num", "if", "let", "in", "line", "out"] : List Str).map .str)) rfl T.KEPT_WORDS_g rfl (fun G => .tup (T.KEPT_WORDS_r G) (rp_strs _))) rfl)))) (db_one (ds_ret de_bl)) db_nil)
  (db_one (ds_ret (de_callB (cd_all rfl) rfl T.z_all (by decide +kernel) (da_cons (de_lc (own := [("sign", 1)]) rfl sc_is_name.nd (di_seq (de_var 0)) (blkOk_by (N := ["text", "sign"]) (sc := defScope s_is_name) (by decide +kernel)) (by simp) (fun _ _ _ _ _ => (dg_name (i := 1) sc_is_name.nd rfl (Or.inl rfl))) (fun _ _ _ _ _ => dts_nil) (fun _ _ _ _ _ => (de_cmp (od_in hu1) (de_var 1) (de_glob (v := .str "abcdefghijklmnopqrstuvwxyz") (d := .str "abcdefghijklmnopqrstuvwxyz") rfl T.LETTERS_g ⟨_, rfl⟩ (fun _ => .str _)) rfl))) da_nil))))), ?_⟩
  obtain ⟨ds, rfl, rfl, s, rfl, ⟨hl, hcs⟩, hQ⟩ := hC
  repeat' ((conv => whnf); first | ((with_reducible apply Sy.one?.yes); (· exact rfl)) | ((with_reducible apply Sy.both.yes); (· exact rfl); (· exact rfl)) | (with_reducible apply Sy.both.els) | ((refine Sy.Got.here ?_ ?_); (· first | with_reducible rfl | decide +kernel)) | ((refine Sy.Got.next ?_ ?_); (· decide +kernel)) | ((with_reducible refine Sy.IfB.t ?_ ?_); (· first | with_reducible rfl | decide +kernel)) | ((with_reducible refine Sy.IfB.f ?_ ?_); (· first | with_reducible rfl | decide +kernel)) | (with_reducible refine Sy.IfB.mk (fun _ => ?_) (fun _ => ?_)) | ((with_reducible apply Sy.mkT.yes); (· exact rfl)) | (with_reducible apply Sy.mkT.els) | (with_reducible refine And.intro (Sy.Hold.out ?_) ?_))
  all_goals try (refine Sy.Hold.mk ?_; first | exact trivial | exact rfl | exact Sy.mulA (by omega) (by omega) | exact Sy.mulB (by omega) (by omega) | exact Sy.divA (by omega) (by omega) | exact Sy.smlA (by omega) (by omega) | exact Sy.szLt rfl | exact Sy.szLe rfl | exact Sy.szLe' (by omega) | exact ⟨by omega, by omega⟩ | (rw [List.length_map]; exact Sy.szLt' (by omega)) | (show (0 : Int) < _; first | omega | decide +kernel) | decide +kernel | exact ⟨rfl, Nat.le_of_ble_eq_true rfl, by decide +kernel⟩ | (refine ⟨?_, ?_, ?_⟩ <;> decide +kernel))
  all_goals first | exact qb_of hQ (isNm_kept (by assumption)) | exact qb_of hQ (isNm_out (by rintro ⟨h1, h2⟩; simp only [decide_eq_true_eq, decide_eq_false_iff_not, Bool.not_eq_true', Bool.not_eq_false', Int.not_lt, Int.not_le] at *; omega)) | skip
  · rename_i h1 h2 h3
    have hlen : 1 ≤ s.length ∧ s.length ≤ 8 := by
      simp only [decide_eq_true_eq, decide_eq_false_iff_not, Bool.not_eq_true', Bool.not_eq_false', Int.not_lt, Int.not_le] at h1 h2
      omega
    have hk : inD (.str s) keptD = false := h3
    refine ⟨fun i acc S => S = _ ∧ acc = ((s.cps.toList.take i).map (inS letC)).map D.bl, ⟨rfl, rfl⟩, fun i x acc S hx hJ hS => ?_, fun acc S hJ hS => ?_⟩
    · obtain ⟨c, ec, rfl⟩ := signs_get hx
      have hi := get_lt ec
      obtain ⟨rfl, rfl⟩ := hJ
      refine ⟨trivial, ?_⟩
      repeat' ((conv => whnf); first | ((with_reducible apply Sy.one?.yes); (· exact rfl)) | ((with_reducible apply Sy.both.yes); (· exact rfl); (· exact rfl)) | (with_reducible apply Sy.both.els) | ((refine Sy.Got.here ?_ ?_); (· first | with_reducible rfl | decide +kernel)) | ((refine Sy.Got.next ?_ ?_); (· decide +kernel)) | ((with_reducible refine Sy.IfB.t ?_ ?_); (· first | with_reducible rfl | decide +kernel)) | ((with_reducible refine Sy.IfB.f ?_ ?_); (· first | with_reducible rfl | decide +kernel)) | (with_reducible refine Sy.IfB.mk (fun _ => ?_) (fun _ => ?_)) | ((with_reducible apply Sy.mkT.yes); (· exact rfl)) | (with_reducible apply Sy.mkT.els) | (with_reducible refine And.intro (Sy.Hold.out ?_) ?_))
      all_goals try (refine Sy.Hold.mk ?_; first | exact trivial | exact rfl | exact Sy.mulA (by omega) (by omega) | exact Sy.mulB (by omega) (by omega) | exact Sy.divA (by omega) (by omega) | exact Sy.smlA (by omega) (by omega) | exact Sy.szLt rfl | exact Sy.szLe rfl | exact Sy.szLe' (by omega) | exact ⟨by omega, by omega⟩ | (rw [List.length_map]; exact Sy.szLt' (by omega)) | (show (0 : Int) < _; first | omega | decide +kernel) | decide +kernel | exact ⟨rfl, Nat.le_of_ble_eq_true rfl, by decide +kernel⟩ | (refine ⟨?_, ?_, ?_⟩ <;> decide +kernel))
      · exact ⟨by rw [List.length_map, List.length_map, List.length_take]; exact szLt' (by show min i s.length ≤ _; omega)⟩
      · exact take_snoc2 (inS letC) D.bl ec
    · obtain ⟨rfl, rfl⟩ := hJ
      refine ⟨trivial, ?_⟩
      repeat' ((conv => whnf); first | ((with_reducible apply Sy.one?.yes); (· exact rfl)) | ((with_reducible apply Sy.both.yes); (· exact rfl); (· exact rfl)) | (with_reducible apply Sy.both.els) | ((refine Sy.Got.here ?_ ?_); (· first | with_reducible rfl | decide +kernel)) | ((refine Sy.Got.next ?_ ?_); (· decide +kernel)) | ((with_reducible refine Sy.IfB.t ?_ ?_); (· first | with_reducible rfl | decide +kernel)) | ((with_reducible refine Sy.IfB.f ?_ ?_); (· first | with_reducible rfl | decide +kernel)) | (with_reducible refine Sy.IfB.mk (fun _ => ?_) (fun _ => ?_)) | ((with_reducible apply Sy.mkT.yes); (· exact rfl)) | (with_reducible apply Sy.mkT.els) | (with_reducible refine And.intro (Sy.Hold.out ?_) ?_))
      all_goals try (refine Sy.Hold.mk ?_; first | exact trivial | exact rfl | exact Sy.mulA (by omega) (by omega) | exact Sy.mulB (by omega) (by omega) | exact Sy.divA (by omega) (by omega) | exact Sy.smlA (by omega) (by omega) | exact Sy.szLt rfl | exact Sy.szLe rfl | exact Sy.szLe' (by omega) | exact ⟨by omega, by omega⟩ | (rw [List.length_map]; exact Sy.szLt' (by omega)) | (show (0 : Int) < _; first | omega | decide +kernel) | decide +kernel | exact ⟨rfl, Nat.le_of_ble_eq_true rfl, by decide +kernel⟩ | (refine ⟨?_, ?_, ?_⟩ <;> decide +kernel))
      refine Sy.one?.yes (x := (s.cps.toList.take (Sy.signs s).length).map (inS letC)) (by show (allD (List.map Sv.d (List.map D.bl _))).bind blsD = _; rw [allD_md]; exact blsD_map _) ?_
      exact qb_of hQ (by rw [isNm_in hlen hk]; exact (all_take _ (signs_len s)).symm)
theorem pl_strs (ys : List Str) : plAll (ys.map D.str) = true := by
  induction ys with
  | nil => rfl
  | cons a r ih => exact ih
theorem py_strs (ys : List Str) : pyAll (ys.map D.str) = ys.map PyData.str := by
  induction ys with
  | nil => rfl
  | cons a r ih => show _ :: pyAll (r.map D.str) = _; rw [ih]; rfl
theorem eqv_nil (xs : List PyData) : PyData.eqv (.list xs) (.list []) = xs.isEmpty := by
  cases xs with
  | nil => simp [PyData.eqv, PyData.eqvAll]
  | cons a r => simp [PyData.eqv, PyData.eqvAll]
theorem canLay_strs {ys : List Str} (h : ∀ y ∈ ys, cOk y) : PyData.canLayAll0 (ys.map PyData.str) = true := by
  induction ys with
  | nil => rfl
  | cons a r ih =>
    show (PyData.canLay0 (.str a) && PyData.canLayAll0 (r.map PyData.str)) = true
    rw [strOk_c (h a List.mem_cons_self), ih fun y hy => h y (List.mem_cons_of_mem _ hy)]
    rfl
theorem depth_strs (ys : List Str) : PyData.depthAll (ys.map PyData.str) = 0 := by
  induction ys with
  | nil => rfl
  | cons a r ih =>
    show max 0 (PyData.depthAll (r.map PyData.str)) = 0
    rw [ih]
    rfl
theorem shaped_strs {ys : List Str} (h : ∀ y ∈ ys, cOk y) : SeqAt.shaped (D.lst (ys.map D.str)).py = true := by
  show SeqAt.shaped (.list (pyAll (ys.map D.str))) = true
  rw [py_strs]
  show (PyData.canLayAll0 (ys.map PyData.str) && decide (PyData.depthAll (ys.map PyData.str) + 1 ≤ 64)) = true
  rw [canLay_strs h, depth_strs]
  rfl
theorem eqv_lst (ys : List Str) : PyData.eqv (D.lst (ys.map D.str)).py (D.lst []).py = ys.isEmpty := by
  show PyData.eqv (.list (pyAll (ys.map D.str))) (.list []) = _
  rw [py_strs, eqv_nil]
  cases ys <;> rfl
theorem filt_step {l : List Nat} {i : Nat} {c : Nat} (p : Nat → Bool) (h : l[i]? = some c) : (p c = true → ((l.take i).filter p).map (fun c => D.str ⟨#[c]⟩) ++ [.str ⟨#[c]⟩] = ((l.take (i + 1)).filter p).map (fun c => D.str ⟨#[c]⟩)) ∧
    (p c = false → ((l.take i).filter p).map (fun c => D.str ⟨#[c]⟩) = ((l.take (i + 1)).filter p).map (fun c => D.str ⟨#[c]⟩)) := by
  constructor
  · intro hp
    rw [List.take_succ, h, List.filter_append, List.map_append]
    show _ = _ ++ List.map _ (List.filter p [c])
    rw [List.filter_cons_of_pos hp]
    rfl
  · intro hp
    rw [List.take_succ, h, List.filter_append, List.map_append]
    show _ = _ ++ List.map _ (List.filter p [c])
    rw [List.filter_cons_of_neg (by rw [hp]; decide)]
    simp
theorem filt_all {l : List Nat} (f : Nat → Bool) : (l.filter fun c => !f c).isEmpty = l.all f := by
  induction l with
  | nil => rfl
  | cons a r ih =>
    rw [List.all_cons, List.filter_cons]
    cases h : f a
    · rfl
    · simpa using ih
theorem ok_namedue (T : Tx K mg) : FnG P w K mg base 1 T._law_name_due_f T._law_name_due_fd ["_law_text_here"] (spD K (cP pIsNm)) := by
  refine fnG retF_ok T._law_name_due_F sc__law_name_due (fun xs S Q ⟨ds, e, _, s, e2, _⟩ => by rw [e, e2]; rfl) fun cdv A outer sh H E hr free xs S Q hC => ?_
  have hu := hr.units
  have hu1 := hu_of hr
  refine ⟨_, (db_cons (ds_set (i := 1) sc__law_name_due.nd rfl (by first | exact Or.inl rfl | exact Or.inr rfl) (de_lst (da_cons de_str (da_cons de_str (da_cons de_str (da_cons de_str (da_cons de_str (da_cons de_str (da_cons de_str (da_cons de_str (da_cons de_str (da_cons de_str (da_cons de_str (da_cons de_str (da_cons de_str da_nil)))))))))))))))
  (db_cons (ds_if (DW.dt (dw_or (dt_cmp (od_in hu1) (de_var 0) (de_var 1) rfl) (dw_or1 (dt_not (dt_chain od_lt od_lt de_int (de_callB (cd_len) rfl T.z_len (by decide +kernel) (da_cons (de_var 0) da_nil)) de_int))))) (db_one (ds_ret de_bl)) db_nil)
  (db_one (ds_ret (de_cmp (od_eq hu) (de_lc (own := [("_law_sign", 2)]) rfl sc__law_name_due.nd (di_seq (de_var 0)) (blkOk_by (N := ["_law_text_here", "_law_kept", "_law_sign"]) (sc := defScope s__law_name_due) (by decide +kernel)) (by simp) (fun _ _ _ _ _ => (dg_name (i := 2) sc__law_name_due.nd rfl (Or.inl rfl))) (fun _ _ _ _ _ => (dts_one (dt_cmp (od_notIn hu1) (de_var 2) de_str rfl))) (fun _ _ _ _ _ => (de_var 2))) (de_lst da_nil) (nomark _)))))), ?_⟩
  obtain ⟨ds, rfl, rfl, s, rfl, ⟨hl, hcs⟩, hQ⟩ := hC
  repeat' ((conv => whnf); first | ((with_reducible apply Sy.one?.yes); (· exact rfl)) | ((with_reducible apply Sy.both.yes); (· exact rfl); (· exact rfl)) | (with_reducible apply Sy.both.els) | ((refine Sy.Got.here ?_ ?_); (· first | with_reducible rfl | decide +kernel)) | ((refine Sy.Got.next ?_ ?_); (· decide +kernel)) | ((with_reducible refine Sy.IfB.t ?_ ?_); (· first | with_reducible rfl | decide +kernel)) | ((with_reducible refine Sy.IfB.f ?_ ?_); (· first | with_reducible rfl | decide +kernel)) | (with_reducible refine Sy.IfB.mk (fun _ => ?_) (fun _ => ?_)) | ((with_reducible apply Sy.mkT.yes); (· exact rfl)) | (with_reducible apply Sy.mkT.els) | (with_reducible refine And.intro (Sy.Hold.out ?_) ?_))
  all_goals try (refine Sy.Hold.mk ?_; first | exact trivial | exact rfl | exact Sy.mulA (by omega) (by omega) | exact Sy.mulB (by omega) (by omega) | exact Sy.divA (by omega) (by omega) | exact Sy.smlA (by omega) (by omega) | exact Sy.szLt rfl | exact Sy.szLe rfl | exact Sy.szLe' (by omega) | exact ⟨by omega, by omega⟩ | (rw [List.length_map]; exact Sy.szLt' (by omega)) | (show (0 : Int) < _; first | omega | decide +kernel) | decide +kernel | exact ⟨rfl, Nat.le_of_ble_eq_true rfl, by decide +kernel⟩ | (refine ⟨?_, ?_, ?_⟩ <;> decide +kernel))
  all_goals first | exact qb_of hQ (isNm_kept (by assumption)) | exact qb_of hQ (isNm_out (by rintro ⟨h1, h2⟩; simp only [decide_eq_true_eq, decide_eq_false_iff_not, Bool.not_eq_true', Bool.not_eq_false', Int.not_lt, Int.not_le] at *; omega)) | skip
  · rename_i h3 h1 h2
    have hlen : 1 ≤ s.length ∧ s.length ≤ 8 := by
      simp only [decide_eq_true_eq, decide_eq_false_iff_not, Bool.not_eq_true', Bool.not_eq_false', Int.not_lt, Int.not_le] at h1 h2
      omega
    have hk : inD (.str s) keptD = false := h3
    refine ⟨fun i acc S => S = _ ∧ acc = ((s.cps.toList.take i).filter fun c => !inS letC c).map fun c => D.str ⟨#[c]⟩, ⟨rfl, rfl⟩, fun i x acc S hx hJ hS => ?_, fun acc S hJ hS => ?_⟩
    · obtain ⟨c, ec, rfl⟩ := signs_get hx
      have hi := get_lt ec
      have hfs := filt_step (fun c => !inS letC c) ec
      obtain ⟨rfl, rfl⟩ := hJ
      refine ⟨trivial, ?_⟩
      repeat' ((conv => whnf); first | ((with_reducible apply Sy.one?.yes); (· exact rfl)) | ((with_reducible apply Sy.both.yes); (· exact rfl); (· exact rfl)) | (with_reducible apply Sy.both.els) | ((refine Sy.Got.here ?_ ?_); (· first | with_reducible rfl | decide +kernel)) | ((refine Sy.Got.next ?_ ?_); (· decide +kernel)) | ((with_reducible refine Sy.IfB.t ?_ ?_); (· first | with_reducible rfl | decide +kernel)) | ((with_reducible refine Sy.IfB.f ?_ ?_); (· first | with_reducible rfl | decide +kernel)) | (with_reducible refine Sy.IfB.mk (fun _ => ?_) (fun _ => ?_)) | ((with_reducible apply Sy.mkT.yes); (· exact rfl)) | (with_reducible apply Sy.mkT.els) | (with_reducible refine And.intro (Sy.Hold.out ?_) ?_))
      all_goals try (refine Sy.Hold.mk ?_; first | exact trivial | exact rfl | exact Sy.mulA (by omega) (by omega) | exact Sy.mulB (by omega) (by omega) | exact Sy.divA (by omega) (by omega) | exact Sy.smlA (by omega) (by omega) | exact Sy.szLt rfl | exact Sy.szLe rfl | exact Sy.szLe' (by omega) | exact ⟨by omega, by omega⟩ | (rw [List.length_map]; exact Sy.szLt' (by omega)) | (show (0 : Int) < _; first | omega | decide +kernel) | decide +kernel | exact ⟨rfl, Nat.le_of_ble_eq_true rfl, by decide +kernel⟩ | (refine ⟨?_, ?_, ?_⟩ <;> decide +kernel))
      · exact ⟨by rw [List.length_map]; exact szLt' (Nat.le_trans (List.length_filter_le _ _) (by rw [List.length_take]; show min i s.length ≤ _; omega))⟩
      · exact hfs.1 (by assumption)
      · exact hfs.2 (by assumption)
    · obtain ⟨rfl, rfl⟩ := hJ
      refine ⟨trivial, ?_⟩
      have hys : ((s.cps.toList.take (Sy.signs s).length).filter fun c => !inS letC c).map (fun c => D.str ⟨#[c]⟩) = (((s.cps.toList.take (Sy.signs s).length).filter fun c => !inS letC c).map fun c => (⟨#[c]⟩ : Str)).map D.str := by rw [List.map_map]; rfl
      have hyc : ∀ y ∈ ((s.cps.toList.take (Sy.signs s).length).filter fun c => !inS letC c).map (fun c => (⟨#[c]⟩ : Str)), cOk y := fun y hy => by
        obtain ⟨c, hc, rfl⟩ := List.mem_map.mp hy
        exact cOk_one (hcs c (List.mem_of_mem_take (List.mem_filter.mp hc).1))
      rw [hys]
      refine And.intro (szLe rfl) ?_
      refine Sy.both.yes (x := .lst ((((s.cps.toList.take (Sy.signs s).length).filter fun c => !inS letC c).map fun c => (⟨#[c]⟩ : Str)).map D.str)) (y := .lst []) ?_ rfl ?_
      · show (allD _).map D.lst = _
        rw [allD_md]
        rfl
      refine Sy.both.els ?_
      refine ⟨pl_strs _, rfl, shaped_strs hyc, rfl, ?_⟩
      exact qb_of hQ (by
        rw [isNm_in hlen hk, eqv_lst]
        have e : (Sy.signs s).length = s.cps.toList.length := signs_len s
        rw [e, List.take_length, List.isEmpty_map, filt_all])
theorem figs : figC.cps.toList = [48, 49, 50, 51, 52, 53, 54, 55, 56, 57] := by decide +kernel
theorem fig_digit {c : Nat} (h : inS figC c = true) : (48 ≤ c ∧ c ≤ 57) ∧ (Builtin.Str.occurrences figC ⟨#[c]⟩ 0 figC.length 1).head? = some (c - 48) := by
  have h2 : decide (c ∈ figC.cps.toList) = true := (StrLaws.found_one figC c).symm.trans h
  have h3 := of_decide_eq_true h2
  rw [figs] at h3
  simp only [List.mem_cons, List.not_mem_nil, or_false] at h3
  rcases h3 with rfl | rfl | rfl | rfl | rfl | rfl | rfl | rfl | rfl | rfl
  all_goals exact ⟨⟨by decide, by decide⟩, by decide +kernel⟩
def lead (s : Str) : Bool := decide (V.str ⟨#[s.cps.toList.headD 0]⟩ = V.str "0")
def numD (s : Str) : D := if (1 ≤ s.length ∧ s.length ≤ 9) ∧ s.cps.toList.all (inS figC) = true ∧ ¬ (lead s = true ∧ 1 < s.length) then .int ((NumText.digitsVal s.cps.toList : Nat) : Int) else .non
theorem numD_out {s : Str} (h : ¬ (1 ≤ s.length ∧ s.length ≤ 9)) : numD s = .non := if_neg fun z => h z.1
theorem numD_fig {s : Str} (h : s.cps.toList.all (inS figC) = false) : numD s = .non := if_neg fun z => by rw [h] at z; cases z.2.1
theorem numD_lead {s : Str} (h : lead s = true) (h2 : 1 < s.length) : numD s = .non := if_neg fun z => z.2.2 ⟨h, h2⟩
theorem numD_in {s : Str} (h : 1 ≤ s.length ∧ s.length ≤ 9) (h2 : s.cps.toList.all (inS figC) = true) (h3 : ¬ (lead s = true ∧ 1 < s.length)) : numD s = .int ((NumText.digitsVal s.cps.toList : Nat) : Int) := if_pos ⟨h, h2, h3⟩
theorem qd_of {Q : SC} {a b : D} {S : List Cell} (h : Q (.d a) S) (e : a = b) : Q (.d b) S := by rw [← e]; exact h
theorem head_at {s : Str} (h : 1 ≤ s.length) : atI s.cps.toList 0 = some (s.cps.toList.headD 0) := by
  have h : 1 ≤ s.cps.toList.length := h
  cases e : s.cps.toList with
  | nil => rw [e] at h; cases h
  | cons c r => exact atI_nat (xs := c :: r) (j := 0) rfl
theorem int_of {s : Str} (h : 1 ≤ s.length ∧ s.length ≤ 9) (hf : s.cps.toList.all (inS figC) = true) : intText? s = some ((NumText.digitsVal s.cps.toList : Nat) : Int) :=
  intText_digits (x := s) (fun c hc => (fig_digit (List.all_eq_true.mp hf c hc)).1) (fun e => by have h1 : 1 ≤ s.cps.toList.length := h.1; rw [e] at h1; cases h1) (by omega)
theorem ms1 {a y : Sv} {i j : Int} (h : i = j) : Ms.mk [a, .d (.int i), y] [] = Ms.mk [a, .d (.int j), y] [] := by rw [h]
def pNum : PR := fun ds Q => ∃ s : Str, ds = [.str s] ∧ (s.length ≤ 20000 ∧ cOk s) ∧ Q (numD s)
theorem ok_numof (T : Tx K mg) : FnG P w K mg base 1 T.number_of_f T.number_of_fd ["text"] (spD K (cP pNum)) := by
  refine fnG retF_ok T.number_of_F sc_number_of (fun xs S Q ⟨ds, e, _, s, e2, _⟩ => by rw [e, e2]; rfl) fun cdv A outer sh H E hr free xs S Q hC => ?_
  have hu := hr.units
  have hu1 := hu_of hr
  refine ⟨_, (db_cons (ds_if (DW.dt (dw_or (dt_not (dt_chain od_le od_le de_int (de_callB (cd_len) rfl T.z_len (by decide +kernel) (da_cons (de_var 0) da_nil)) (de_glob (v := .int 9) (d := .int 9) rfl T.MOST_FIGURES_g ⟨_, rfl⟩ (fun _ => .int _)))) (dw_or1 (dt_not (dt_val (de_callB (cd_all rfl) rfl T.z_all (by decide +kernel) (da_cons (de_lc (own := [("sign", 1)]) rfl sc_number_of.nd (di_seq (de_var 0)) (blkOk_by (N := ["text", "sign"]) (sc := defScope s_number_of) (by decide +kernel)) (by simp) (fun _ _ _ _ _ => (dg_name (i := 1) sc_number_of.nd rfl (Or.inl rfl))) (fun _ _ _ _ _ => dts_nil) (fun _ _ _ _ _ => (de_cmp (od_in hu1) (de_var 1) (de_glob (v := .str "0123456789") (d := .str "0123456789") rfl T.FIGURES_g ⟨_, rfl⟩ (fun _ => .str _)) rfl))) da_nil))))))) (db_one (ds_ret de_non)) db_nil)
  (db_cons (ds_if (DW.dt (dw_and (dt_cmp (od_eq hu) (de_ix hu1 (de_var 0) de_int (fun _ _ => rfl)) de_str (nomark _)) (dw_and1 (dt_cmp od_gt (de_callB (cd_len) rfl T.z_len (by decide +kernel) (da_cons (de_var 0) da_nil)) de_int (nomark _))))) (db_one (ds_ret de_non)) db_nil)
  (db_one (ds_ret (de_callTy (cd_intD) rfl T.z_int (by decide +kernel) (da_cons (de_var 0) da_nil)))))), ?_⟩
  obtain ⟨ds, rfl, rfl, s, rfl, ⟨hl, hcs⟩, hQ⟩ := hC
  repeat' ((conv => whnf); first | ((with_reducible apply Sy.one?.yes); (· exact rfl)) | ((with_reducible apply Sy.both.yes); (· exact rfl); (· exact rfl)) | (with_reducible apply Sy.both.els) | ((refine Sy.Got.here ?_ ?_); (· first | with_reducible rfl | decide +kernel)) | ((refine Sy.Got.next ?_ ?_); (· decide +kernel)) | ((with_reducible refine Sy.IfB.t ?_ ?_); (· first | with_reducible rfl | decide +kernel)) | ((with_reducible refine Sy.IfB.f ?_ ?_); (· first | with_reducible rfl | decide +kernel)) | (with_reducible refine Sy.IfB.mk (fun _ => ?_) (fun _ => ?_)) | ((with_reducible apply Sy.mkT.yes); (· exact rfl)) | (with_reducible apply Sy.mkT.els) | (with_reducible refine And.intro (Sy.Hold.out ?_) ?_))
  all_goals try (refine Sy.Hold.mk ?_; first | exact trivial | exact rfl | exact Sy.mulA (by omega) (by omega) | exact Sy.mulB (by omega) (by omega) | exact Sy.divA (by omega) (by omega) | exact Sy.smlA (by omega) (by omega) | exact Sy.szLt rfl | exact Sy.szLe rfl | exact Sy.szLe' (by omega) | exact ⟨by omega, by omega⟩ | (rw [List.length_map]; exact Sy.szLt' (by omega)) | (show (0 : Int) < _; first | omega | decide +kernel) | decide +kernel | exact ⟨rfl, Nat.le_of_ble_eq_true rfl, by decide +kernel⟩ | (refine ⟨?_, ?_, ?_⟩ <;> decide +kernel))
  all_goals first | exact qd_of hQ (numD_out (by rintro ⟨h1, h2⟩; simp only [decide_eq_true_eq, decide_eq_false_iff_not, Bool.not_eq_true', Bool.not_eq_false', Int.not_lt, Int.not_le] at *; omega)) | skip
  · rename_i h1 h2
    have hlen : 1 ≤ s.length ∧ s.length ≤ 9 := by
      simp only [decide_eq_true_eq, decide_eq_false_iff_not, Bool.not_eq_true', Bool.not_eq_false', Int.not_lt, Int.not_le] at h1 h2
      omega
    refine ⟨fun i acc S => S = _ ∧ acc = ((s.cps.toList.take i).map (inS figC)).map D.bl, ⟨rfl, rfl⟩, fun i x acc S hx hJ hS => ?_, fun acc S hJ hS => ?_⟩
    · obtain ⟨c, ec, rfl⟩ := signs_get hx
      have hi := get_lt ec
      obtain ⟨rfl, rfl⟩ := hJ
      refine ⟨trivial, ?_⟩
      repeat' ((conv => whnf); first | ((with_reducible apply Sy.one?.yes); (· exact rfl)) | ((with_reducible apply Sy.both.yes); (· exact rfl); (· exact rfl)) | (with_reducible apply Sy.both.els) | ((refine Sy.Got.here ?_ ?_); (· first | with_reducible rfl | decide +kernel)) | ((refine Sy.Got.next ?_ ?_); (· decide +kernel)) | ((with_reducible refine Sy.IfB.t ?_ ?_); (· first | with_reducible rfl | decide +kernel)) | ((with_reducible refine Sy.IfB.f ?_ ?_); (· first | with_reducible rfl | decide +kernel)) | (with_reducible refine Sy.IfB.mk (fun _ => ?_) (fun _ => ?_)) | ((with_reducible apply Sy.mkT.yes); (· exact rfl)) | (with_reducible apply Sy.mkT.els) | (with_reducible refine And.intro (Sy.Hold.out ?_) ?_))
      all_goals try (refine Sy.Hold.mk ?_; first | exact trivial | exact rfl | exact Sy.mulA (by omega) (by omega) | exact Sy.mulB (by omega) (by omega) | exact Sy.divA (by omega) (by omega) | exact Sy.smlA (by omega) (by omega) | exact Sy.szLt rfl | exact Sy.szLe rfl | exact Sy.szLe' (by omega) | exact ⟨by omega, by omega⟩ | (rw [List.length_map]; exact Sy.szLt' (by omega)) | (show (0 : Int) < _; first | omega | decide +kernel) | decide +kernel | exact ⟨rfl, Nat.le_of_ble_eq_true rfl, by decide +kernel⟩ | (refine ⟨?_, ?_, ?_⟩ <;> decide +kernel))
      · exact ⟨by rw [List.length_map, List.length_map, List.length_take]; exact szLt' (by show min i s.length ≤ _; omega)⟩
      · exact take_snoc2 (inS figC) D.bl ec
    · obtain ⟨rfl, rfl⟩ := hJ
      refine ⟨trivial, ?_⟩
      repeat' ((conv => whnf); first | ((with_reducible apply Sy.one?.yes); (· exact rfl)) | ((with_reducible apply Sy.both.yes); (· exact rfl); (· exact rfl)) | (with_reducible apply Sy.both.els) | ((refine Sy.Got.here ?_ ?_); (· first | with_reducible rfl | decide +kernel)) | ((refine Sy.Got.next ?_ ?_); (· decide +kernel)) | ((with_reducible refine Sy.IfB.t ?_ ?_); (· first | with_reducible rfl | decide +kernel)) | ((with_reducible refine Sy.IfB.f ?_ ?_); (· first | with_reducible rfl | decide +kernel)) | (with_reducible refine Sy.IfB.mk (fun _ => ?_) (fun _ => ?_)) | ((with_reducible apply Sy.mkT.yes); (· exact rfl)) | (with_reducible apply Sy.mkT.els) | (with_reducible refine And.intro (Sy.Hold.out ?_) ?_))
      all_goals try (refine Sy.Hold.mk ?_; first | exact trivial | exact rfl | exact Sy.mulA (by omega) (by omega) | exact Sy.mulB (by omega) (by omega) | exact Sy.divA (by omega) (by omega) | exact Sy.smlA (by omega) (by omega) | exact Sy.szLt rfl | exact Sy.szLe rfl | exact Sy.szLe' (by omega) | exact ⟨by omega, by omega⟩ | (rw [List.length_map]; exact Sy.szLt' (by omega)) | (show (0 : Int) < _; first | omega | decide +kernel) | decide +kernel | exact ⟨rfl, Nat.le_of_ble_eq_true rfl, by decide +kernel⟩ | (refine ⟨?_, ?_, ?_⟩ <;> decide +kernel))
      refine Sy.one?.yes (x := (s.cps.toList.take (Sy.signs s).length).map (inS figC)) (by show (allD (List.map Sv.d (List.map D.bl _))).bind blsD = _; rw [allD_md]; exact blsD_map _) ?_
      have hall : ((s.cps.toList.take (Sy.signs s).length).map (inS figC)).all id = s.cps.toList.all (inS figC) := all_take _ (signs_len s)
      show IfB (!(((s.cps.toList.take (Sy.signs s).length).map (inS figC)).all id)) _ _
      rw [hall]
      refine Sy.IfB.mk (fun h3 => ?_) (fun h3 => ?_)
      · exact qd_of hQ (numD_fig (by simpa using h3))
      · have hf : s.cps.toList.all (inS figC) = true := by simpa using h3
        repeat' ((conv => whnf); first | ((with_reducible apply Sy.one?.yes); (· exact rfl)) | ((with_reducible apply Sy.both.yes); (· exact rfl); (· exact rfl)) | (with_reducible apply Sy.both.els) | ((refine Sy.Got.here ?_ ?_); (· first | with_reducible rfl | decide +kernel)) | ((refine Sy.Got.next ?_ ?_); (· decide +kernel)) | ((with_reducible refine Sy.IfB.t ?_ ?_); (· first | with_reducible rfl | decide +kernel)) | ((with_reducible refine Sy.IfB.f ?_ ?_); (· first | with_reducible rfl | decide +kernel)) | (with_reducible refine Sy.IfB.mk (fun _ => ?_) (fun _ => ?_)) | ((with_reducible apply Sy.mkT.yes); (· exact rfl)) | (with_reducible apply Sy.mkT.els) | (with_reducible refine And.intro (Sy.Hold.out ?_) ?_))
        all_goals try (refine Sy.Hold.mk ?_; first | exact trivial | exact rfl | exact Sy.mulA (by omega) (by omega) | exact Sy.mulB (by omega) (by omega) | exact Sy.divA (by omega) (by omega) | exact Sy.smlA (by omega) (by omega) | exact Sy.szLt rfl | exact Sy.szLe rfl | exact Sy.szLe' (by omega) | exact ⟨by omega, by omega⟩ | (rw [List.length_map]; exact Sy.szLt' (by omega)) | (show (0 : Int) < _; first | omega | decide +kernel) | decide +kernel | exact ⟨rfl, Nat.le_of_ble_eq_true rfl, by decide +kernel⟩ | (refine ⟨?_, ?_, ?_⟩ <;> decide +kernel))
        refine Sy.one?.yes (head_at hlen.1) ?_
        repeat' ((conv => whnf); first | ((with_reducible apply Sy.one?.yes); (· exact rfl)) | ((with_reducible apply Sy.both.yes); (· exact rfl); (· exact rfl)) | (with_reducible apply Sy.both.els) | ((refine Sy.Got.here ?_ ?_); (· first | with_reducible rfl | decide +kernel)) | ((refine Sy.Got.next ?_ ?_); (· decide +kernel)) | ((with_reducible refine Sy.IfB.t ?_ ?_); (· first | with_reducible rfl | decide +kernel)) | ((with_reducible refine Sy.IfB.f ?_ ?_); (· first | with_reducible rfl | decide +kernel)) | (with_reducible refine Sy.IfB.mk (fun _ => ?_) (fun _ => ?_)) | ((with_reducible apply Sy.mkT.yes); (· exact rfl)) | (with_reducible apply Sy.mkT.els) | (with_reducible refine And.intro (Sy.Hold.out ?_) ?_))
        all_goals try (refine Sy.Hold.mk ?_; first | exact trivial | exact rfl | exact Sy.mulA (by omega) (by omega) | exact Sy.mulB (by omega) (by omega) | exact Sy.divA (by omega) (by omega) | exact Sy.smlA (by omega) (by omega) | exact Sy.szLt rfl | exact Sy.szLe rfl | exact Sy.szLe' (by omega) | exact ⟨by omega, by omega⟩ | (rw [List.length_map]; exact Sy.szLt' (by omega)) | (show (0 : Int) < _; first | omega | decide +kernel) | decide +kernel | exact ⟨rfl, Nat.le_of_ble_eq_true rfl, by decide +kernel⟩ | (refine ⟨?_, ?_, ?_⟩ <;> decide +kernel))
        all_goals first | exact qd_of hQ (numD_lead (by assumption) (by simp only [decide_eq_true_eq] at *; omega)) | skip
        all_goals
          have hnl : ¬ (lead s = true ∧ 1 < s.length) := by
            first
              | (rename_i h4 h5; rintro ⟨_, h6⟩; have h7 := of_decide_eq_false h5; omega)
              | (rename_i h4; rintro ⟨h6, _⟩; rw [show lead s = false from h4] at h6; cases h6)
          refine Sy.one?.yes (x := ((NumText.digitsVal s.cps.toList : Nat) : Int)) (int_of hlen hf) ?_
          refine And.intro (a := s.length ≤ 640) (by omega) ?_
          exact qd_of hQ (numD_in hlen hf hnl)
theorem ok_numdue (T : Tx K mg) : FnG P w K mg base 1 T._law_number_due_f T._law_number_due_fd ["_law_text_here"] (spD K (cP pNum)) := by
  refine fnG retF_ok T._law_number_due_F sc__law_number_due (fun xs S Q ⟨ds, e, _, s, e2, _⟩ => by rw [e, e2]; rfl) fun cdv A outer sh H E hr free xs S Q hC => ?_
  have hu := hr.units
  have hu1 := hu_of hr
  refine ⟨_, (db_cons (ds_if (DW.dt (dw_or (dt_not (dt_chain od_lt od_lt de_int (de_callB (cd_len) rfl T.z_len (by decide +kernel) (da_cons (de_var 0) da_nil)) de_int)) (dw_or1 (DW.dt (dw_and (dt_cmp (od_eq hu) (de_ix hu1 (de_var 0) de_int (fun _ _ => rfl)) de_str (nomark _)) (dw_and1 (dt_cmp od_gt (de_callB (cd_len) rfl T.z_len (by decide +kernel) (da_cons (de_var 0) da_nil)) de_int (nomark _)))))))) (db_one (ds_ret de_non)) db_nil)
  (db_cons (ds_set (i := 1) sc__law_number_due.nd rfl (by first | exact Or.inl rfl | exact Or.inr rfl) de_int)
  (db_cons (ds_for PassesOwn.never rfl (di_seq (de_var 0)) (dg_name (i := 2) sc__law_number_due.nd rfl (by first | exact Or.inl rfl | exact Or.inr rfl)) (db_cons (ds_if (dt_cmp (od_notIn hu1) (de_var 2) de_str rfl) (db_one (ds_ret de_non)) db_nil)
  (db_one (ds_set (i := 1) sc__law_number_due.nd rfl (by first | exact Or.inl rfl | exact Or.inr rfl) (de_bin od_add (de_bin od_mulA de_int (de_var 1)) (de_m_index de_str (de_var 2)))))))
  (db_one (ds_ret (de_var 1)))))), ?_⟩
  obtain ⟨ds, rfl, rfl, s, rfl, ⟨hl, hcs⟩, hQ⟩ := hC
  repeat' ((conv => whnf); first | ((with_reducible apply Sy.one?.yes); (· exact rfl)) | ((with_reducible apply Sy.both.yes); (· exact rfl); (· exact rfl)) | (with_reducible apply Sy.both.els) | ((refine Sy.Got.here ?_ ?_); (· first | with_reducible rfl | decide +kernel)) | ((refine Sy.Got.next ?_ ?_); (· decide +kernel)) | ((with_reducible refine Sy.IfB.t ?_ ?_); (· first | with_reducible rfl | decide +kernel)) | ((with_reducible refine Sy.IfB.f ?_ ?_); (· first | with_reducible rfl | decide +kernel)) | (with_reducible refine Sy.IfB.mk (fun _ => ?_) (fun _ => ?_)) | ((with_reducible apply Sy.mkT.yes); (· exact rfl)) | (with_reducible apply Sy.mkT.els) | (with_reducible refine And.intro (Sy.Hold.out ?_) ?_))
  all_goals try (refine Sy.Hold.mk ?_; first | exact trivial | exact rfl | exact Sy.mulA (by omega) (by omega) | exact Sy.mulB (by omega) (by omega) | exact Sy.divA (by omega) (by omega) | exact Sy.smlA (by omega) (by omega) | exact Sy.szLt rfl | exact Sy.szLe rfl | exact Sy.szLe' (by omega) | exact ⟨by omega, by omega⟩ | (rw [List.length_map]; exact Sy.szLt' (by omega)) | (show (0 : Int) < _; first | omega | decide +kernel) | decide +kernel | exact ⟨rfl, Nat.le_of_ble_eq_true rfl, by decide +kernel⟩ | (refine ⟨?_, ?_, ?_⟩ <;> decide +kernel))
  all_goals first | exact qd_of hQ (numD_out (by rintro ⟨h1, h2⟩; simp only [decide_eq_true_eq, decide_eq_false_iff_not, Bool.not_eq_true', Bool.not_eq_false', Int.not_lt, Int.not_le] at *; omega)) | skip
  · rename_i h1 h2
    have hlen : 1 ≤ s.length ∧ s.length ≤ 9 := by
      simp only [decide_eq_true_eq, decide_eq_false_iff_not, Bool.not_eq_true', Bool.not_eq_false', Int.not_lt, Int.not_le] at h1 h2
      omega
    refine Sy.one?.yes (head_at hlen.1) ?_
    repeat' ((conv => whnf); first | ((with_reducible apply Sy.one?.yes); (· exact rfl)) | ((with_reducible apply Sy.both.yes); (· exact rfl); (· exact rfl)) | (with_reducible apply Sy.both.els) | ((refine Sy.Got.here ?_ ?_); (· first | with_reducible rfl | decide +kernel)) | ((refine Sy.Got.next ?_ ?_); (· decide +kernel)) | ((with_reducible refine Sy.IfB.t ?_ ?_); (· first | with_reducible rfl | decide +kernel)) | ((with_reducible refine Sy.IfB.f ?_ ?_); (· first | with_reducible rfl | decide +kernel)) | (with_reducible refine Sy.IfB.mk (fun _ => ?_) (fun _ => ?_)) | ((with_reducible apply Sy.mkT.yes); (· exact rfl)) | (with_reducible apply Sy.mkT.els) | (with_reducible refine And.intro (Sy.Hold.out ?_) ?_))
    all_goals try (refine Sy.Hold.mk ?_; first | exact trivial | exact rfl | exact Sy.mulA (by omega) (by omega) | exact Sy.mulB (by omega) (by omega) | exact Sy.divA (by omega) (by omega) | exact Sy.smlA (by omega) (by omega) | exact Sy.szLt rfl | exact Sy.szLe rfl | exact Sy.szLe' (by omega) | exact ⟨by omega, by omega⟩ | (rw [List.length_map]; exact Sy.szLt' (by omega)) | (show (0 : Int) < _; first | omega | decide +kernel) | decide +kernel | exact ⟨rfl, Nat.le_of_ble_eq_true rfl, by decide +kernel⟩ | (refine ⟨?_, ?_, ?_⟩ <;> decide +kernel))
    all_goals first | exact qd_of hQ (numD_lead (by assumption) (by simp only [decide_eq_true_eq] at *; omega)) | skip
    all_goals
      have hnl : ¬ (lead s = true ∧ 1 < s.length) := by
        first
          | (rename_i h4 h5; rintro ⟨_, h6⟩; have h7 := of_decide_eq_false h5; omega)
          | (rename_i h4; rintro ⟨h6, _⟩; rw [show lead s = false from h4] at h6; cases h6)
      refine ⟨fun i m => ∃ y, m = ⟨[.d (.str s), .d (.int ((NumText.digitsVal (s.cps.toList.take i) : Nat) : Int)), y], []⟩ ∧ (s.cps.toList.take i).all (inS figC) = true, ⟨.no, rfl, rfl⟩, fun i x m2 hx hI => ?_, fun m2 hI => ?_⟩
      · obtain ⟨c, ec, rfl⟩ := signs_get hx
        have hi := get_lt ec
        obtain ⟨y, rfl, hall⟩ := hI
        refine ⟨trivial, ?_⟩
        repeat' ((conv => whnf); first | ((with_reducible apply Sy.one?.yes); (· exact rfl)) | ((with_reducible apply Sy.both.yes); (· exact rfl); (· exact rfl)) | (with_reducible apply Sy.both.els) | ((refine Sy.Got.here ?_ ?_); (· first | with_reducible rfl | decide +kernel)) | ((refine Sy.Got.next ?_ ?_); (· decide +kernel)) | ((with_reducible refine Sy.IfB.t ?_ ?_); (· first | with_reducible rfl | decide +kernel)) | ((with_reducible refine Sy.IfB.f ?_ ?_); (· first | with_reducible rfl | decide +kernel)) | (with_reducible refine Sy.IfB.mk (fun _ => ?_) (fun _ => ?_)) | ((with_reducible apply Sy.mkT.yes); (· exact rfl)) | (with_reducible apply Sy.mkT.els) | (with_reducible refine And.intro (Sy.Hold.out ?_) ?_))
        all_goals try (refine Sy.Hold.mk ?_; first | exact trivial | exact rfl | exact Sy.mulA (by omega) (by omega) | exact Sy.mulB (by omega) (by omega) | exact Sy.divA (by omega) (by omega) | exact Sy.smlA (by omega) (by omega) | exact Sy.szLt rfl | exact Sy.szLe rfl | exact Sy.szLe' (by omega) | exact ⟨by omega, by omega⟩ | (rw [List.length_map]; exact Sy.szLt' (by omega)) | (show (0 : Int) < _; first | omega | decide +kernel) | decide +kernel | exact ⟨rfl, Nat.le_of_ble_eq_true rfl, by decide +kernel⟩ | (refine ⟨?_, ?_, ?_⟩ <;> decide +kernel))
        · rename_i h8
          refine qd_of hQ (numD_fig ?_)
          refine Bool.eq_false_iff.mpr fun h9 => ?_
          have h10 := List.all_eq_true.mp h9 c (List.mem_of_getElem? ec)
          have h11 : (!inS figC c) = true := h8
          rw [h10] at h11
          cases h11
        · rename_i h8
          have h11 : (!inS figC c) = false := h8
          have h12 : inS figC c = true := by simpa using h11
          refine Sy.one?.yes (fig_digit h12).2 ?_
          repeat' ((conv => whnf); first | ((with_reducible apply Sy.one?.yes); (· exact rfl)) | ((with_reducible apply Sy.both.yes); (· exact rfl); (· exact rfl)) | (with_reducible apply Sy.both.els) | ((refine Sy.Got.here ?_ ?_); (· first | with_reducible rfl | decide +kernel)) | ((refine Sy.Got.next ?_ ?_); (· decide +kernel)) | ((with_reducible refine Sy.IfB.t ?_ ?_); (· first | with_reducible rfl | decide +kernel)) | ((with_reducible refine Sy.IfB.f ?_ ?_); (· first | with_reducible rfl | decide +kernel)) | (with_reducible refine Sy.IfB.mk (fun _ => ?_) (fun _ => ?_)) | ((with_reducible apply Sy.mkT.yes); (· exact rfl)) | (with_reducible apply Sy.mkT.els) | (with_reducible refine And.intro (Sy.Hold.out ?_) ?_))
          all_goals try (refine Sy.Hold.mk ?_; first | exact trivial | exact rfl | exact Sy.mulA (by omega) (by omega) | exact Sy.mulB (by omega) (by omega) | exact Sy.divA (by omega) (by omega) | exact Sy.smlA (by omega) (by omega) | exact Sy.szLt rfl | exact Sy.szLe rfl | exact Sy.szLe' (by omega) | exact ⟨by omega, by omega⟩ | (rw [List.length_map]; exact Sy.szLt' (by omega)) | (show (0 : Int) < _; first | omega | decide +kernel) | decide +kernel | exact ⟨rfl, Nat.le_of_ble_eq_true rfl, by decide +kernel⟩ | (refine ⟨?_, ?_, ?_⟩ <;> decide +kernel))
          refine ⟨_, ms1 (by rw [List.take_succ, ec]; show _ = ((NumText.digitsVal (_ ++ [c]) : Nat) : Int); rw [NumText.digitsVal_snoc]; omega), ?_⟩
          rw [List.take_succ, ec, List.all_append, hall]
          show (true && (inS figC c && true)) = true
          rw [h12]
          rfl
      · obtain ⟨y, rfl, hall⟩ := hI
        have e : (Sy.signs s).length = s.cps.toList.length := signs_len s
        rw [e, List.take_length] at hall ⊢
        exact ⟨trivial, qd_of hQ (numD_in hlen hall hnl)⟩
def pText : PR := fun ds Q => ds = [] ∧ ∀ s : Str, s.length ≤ 200 → cOk s → Q (.str s)
def someS : List Sv := [.d (.str ""), .d (.str "0"), .d (.str "00"), .d (.str "999999999"), .d (.str "1000000000"), .d (.str "-1"), .d (.str "+1"), .d (.str " 1")]
theorem someS_mem {x : Sv} (h : x ∈ someS) : ∃ s : Str, x = .d (.str s) ∧ s.length ≤ 10 ∧ cOk s := by
  unfold someS at h
  simp only [List.mem_cons, List.not_mem_nil, or_false] at h
  rcases h with rfl | rfl | rfl | rfl | rfl | rfl | rfl | rfl
  all_goals exact ⟨_, rfl, by decide +kernel, cOk_dec (by decide +kernel)⟩
theorem two_mem {x : Sv} {a b : Str} (h : x ∈ [Sv.d (.str a), .d (.str b)]) : x = .d (.str a) ∨ x = .d (.str b) := by
  simpa using h
theorem fig_c : cOk ("0123456789" : Str) := cOk_dec (by decide +kernel)
theorem fig_len : ("0123456789" : Str).cps.toList.length = 10 := by decide +kernel
def sigC : Str := " !\"#$&'()*+,-./0123456789:;<=>?@ABCDEFGHIJKLMNOPQRSTUVWXYZ[\\]^_`abcdefghijklmnopqrstuvwxyz{|}~\n"
theorem sig_c : cOk sigC := cOk_dec (by decide +kernel)
theorem ok_text (T : Tx K mg) (G__law_draw : FnG P w K mg base 1 T._law_draw_f T._law_draw_fd ["_law_deal_here", "_law_many"] (spD K (cDl pDraw))) (G__law_name : FnG P w K mg base 2 T._law_name_f T._law_name_fd ["_law_deal_here"] (spD K (cDl pName))) : FnG P w K mg base 3 T._law_text_f T._law_text_fd ["_law_deal_here"] (spD K (cDl pText)) := by
  refine fnG retD_ok T._law_text_F sc__law_text (fun xs S Q ⟨ds, e, _, e2, _⟩ => by rw [e, e2]; rfl) fun cdv A outer sh H E hr free xs S Q hC => ?_
  have hu := hr.units
  have hu1 := hu_of hr
  refine ⟨_, (db_cons (ds_set (i := 1) sc__law_text.nd rfl (by first | exact Or.inl rfl | exact Or.inr rfl) de_str)
  (db_cons (ds_set (i := 2) sc__law_text.nd rfl (by first | exact Or.inl rfl | exact Or.inr rfl) (de_lst (da_cons de_str (da_cons de_str (da_cons de_str (da_cons de_str (da_cons de_str (da_cons de_str (da_cons de_str (da_cons de_str (da_cons de_str (da_cons de_str (da_cons de_str (da_cons de_str (da_cons de_str da_nil)))))))))))))))
  (db_cons (ds_par (i := 6) (j := 7) rfl sc__law_text.nd rfl rfl (by decide) rfl rfl (da_cons (de_callDlG G__law_draw (hr.mono (by decide)) free rfl T._law_draw_g T._law_draw_F.kp T._law_draw_b (da_cons (de_var 0) (da_cons de_int da_nil))) (da_cons (de_callDlG G__law_name (hr.mono (by decide)) free rfl T._law_name_g T._law_name_F.kp T._law_name_b (da_cons (de_var 0) da_nil)) da_nil)) (by rfl))
  (db_cons (ds_set (i := 3) sc__law_text.nd rfl (by first | exact Or.inl rfl | exact Or.inr rfl) (de_m_join de_str (de_lc (own := [("_law_k", 8)]) rfl sc__law_text.nd (di_range1 rfl T.z_range (da_cons (de_bin od_add de_int (de_callDlG G__law_draw (hr.mono (by decide)) free rfl T._law_draw_g T._law_draw_F.kp T._law_draw_b (da_cons (de_var 0) (da_cons de_int da_nil)))) da_nil)) (blkOk_by (N := ["_law_deal_here", "_law_signs", "_law_kept", "_law_figures", "_law_text_here", "_law_at", "_law_form", "_law_name_here", "_law_k"]) (sc := defScope s__law_text) (by decide +kernel)) (by simp) (fun _ _ _ _ _ => (dg_name (i := 8) sc__law_text.nd rfl (Or.inl rfl))) (fun _ _ _ _ _ => dts_nil) (fun _ _ _ _ _ => (de_ix hu1 de_str (de_callDlG G__law_draw (hr.mono (by decide)) free rfl T._law_draw_g T._law_draw_F.kp T._law_draw_b (da_cons (de_var 0) (da_cons de_int da_nil))) (fun _ _ => rfl))))))
  (db_cons (ds_if (dt_cmp (od_eq hu) (de_var 6) de_int (nomark _)) (db_one (ds_ret (de_ix hu1 (de_var 2) (de_callDlG G__law_draw (hr.mono (by decide)) free rfl T._law_draw_g T._law_draw_F.kp T._law_draw_b (da_cons (de_var 0) (da_cons de_int da_nil))) (fun _ _ => rfl)))) db_nil)
  (db_cons (ds_if (dt_cmp (od_eq hu) (de_var 6) de_int (nomark _)) (db_one (ds_ret (de_slice (de_bin od_mulA (de_var 7) de_int) do_none (do_some (de_bin od_add de_int (de_callDlG G__law_draw (hr.mono (by decide)) free rfl T._law_draw_g T._law_draw_F.kp T._law_draw_b (da_cons (de_var 0) (da_cons de_int da_nil)))))))) db_nil)
  (db_cons (ds_if (dt_cmp (od_eq hu) (de_var 6) de_int (nomark _)) (db_one (ds_ret (de_ix hu1 (de_lst (da_cons de_str (da_cons de_str (da_cons de_str (da_cons de_str (da_cons de_str (da_cons de_str (da_cons de_str (da_cons de_str da_nil))))))))) (de_callDlG G__law_draw (hr.mono (by decide)) free rfl T._law_draw_g T._law_draw_F.kp T._law_draw_b (da_cons (de_var 0) (da_cons de_int da_nil))) (fun _ _ => rfl)))) db_nil)
  (db_cons (ds_set (i := 4) sc__law_text.nd rfl (by first | exact Or.inl rfl | exact Or.inr rfl) (de_ix hu1 (de_lst (da_cons (de_var 7) (da_cons (de_var 3) da_nil))) (de_callDlG G__law_draw (hr.mono (by decide)) free rfl T._law_draw_g T._law_draw_F.kp T._law_draw_b (da_cons (de_var 0) (da_cons de_int da_nil))) (fun _ _ => rfl)))
  (db_cons (ds_if (dt_cmp od_lt (de_var 6) de_int (nomark _)) (db_one (ds_ret (de_var 4))) db_nil)
  (db_cons (ds_set (i := 5) sc__law_text.nd rfl (by first | exact Or.inl rfl | exact Or.inr rfl) (de_callDlG G__law_draw (hr.mono (by decide)) free rfl T._law_draw_g T._law_draw_F.kp T._law_draw_b (da_cons (de_var 0) (da_cons (de_bin od_add (de_callB (cd_len) rfl T.z_len (by decide +kernel) (da_cons (de_var 4) da_nil)) de_int) da_nil))))
  (db_one (ds_ret (de_bin od_add (de_bin od_add (de_slice (de_var 4) do_none (do_some (de_var 5))) (de_ix hu1 (de_var 1) (de_callDlG G__law_draw (hr.mono (by decide)) free rfl T._law_draw_g T._law_draw_F.kp T._law_draw_b (da_cons (de_var 0) (da_cons (de_callB (cd_len) rfl T.z_len (by decide +kernel) (da_cons (de_var 1) da_nil)) da_nil))) (fun _ _ => rfl))) (de_slice (de_var 4) (do_some (de_bin od_add (de_var 5) (de_callDlG G__law_draw (hr.mono (by decide)) free rfl T._law_draw_g T._law_draw_F.kp T._law_draw_b (da_cons (de_var 0) (da_cons de_int da_nil))))) do_none)))))))))))))), ?_⟩
  obtain ⟨ds, rfl, rfl, rfl, hQ⟩ := hC
  repeat' ((conv => whnf); first | ((with_reducible apply Sy.one?.yes); (· exact rfl)) | ((with_reducible apply Sy.both.yes); (· exact rfl); (· exact rfl)) | (with_reducible apply Sy.both.els) | ((refine Sy.Got.here ?_ ?_); (· first | with_reducible rfl | decide +kernel)) | ((refine Sy.Got.next ?_ ?_); (· decide +kernel)) | ((with_reducible refine Sy.IfB.t ?_ ?_); (· first | with_reducible rfl | decide +kernel)) | ((with_reducible refine Sy.IfB.f ?_ ?_); (· first | with_reducible rfl | decide +kernel)) | (with_reducible refine Sy.IfB.mk (fun _ => ?_) (fun _ => ?_)) | ((with_reducible apply Sy.mkT.yes); (· exact rfl)) | (with_reducible apply Sy.mkT.els) | (with_reducible refine And.intro (Sy.Hold.out ?_) ?_))
  all_goals try (refine Sy.Hold.mk ?_; first | exact trivial | exact rfl | exact Sy.mulA (by omega) (by omega) | exact Sy.mulB (by omega) (by omega) | exact Sy.divA (by omega) (by omega) | exact Sy.smlA (by omega) (by omega) | exact Sy.szLt rfl | exact Sy.szLe rfl | exact Sy.szLe' (by omega) | exact ⟨by omega, by omega⟩ | (rw [List.length_map]; exact Sy.szLt' (by omega)) | (show (0 : Int) < _; first | omega | decide +kernel) | decide +kernel | exact ⟨rfl, Nat.le_of_ble_eq_true rfl, by decide +kernel⟩ | (refine ⟨?_, ?_, ?_⟩ <;> decide +kernel))
  refine ⟨8, rfl, ⟨by omega, by omega⟩, fun rf hf0 hf1 => ?_⟩
  repeat' ((conv => whnf); first | ((with_reducible apply Sy.one?.yes); (· exact rfl)) | ((with_reducible apply Sy.both.yes); (· exact rfl); (· exact rfl)) | (with_reducible apply Sy.both.els) | ((refine Sy.Got.here ?_ ?_); (· first | with_reducible rfl | decide +kernel)) | ((refine Sy.Got.next ?_ ?_); (· decide +kernel)) | ((with_reducible refine Sy.IfB.t ?_ ?_); (· first | with_reducible rfl | decide +kernel)) | ((with_reducible refine Sy.IfB.f ?_ ?_); (· first | with_reducible rfl | decide +kernel)) | (with_reducible refine Sy.IfB.mk (fun _ => ?_) (fun _ => ?_)) | ((with_reducible apply Sy.mkT.yes); (· exact rfl)) | (with_reducible apply Sy.mkT.els) | (with_reducible refine And.intro (Sy.Hold.out ?_) ?_))
  all_goals try (refine Sy.Hold.mk ?_; first | exact trivial | exact rfl | exact Sy.mulA (by omega) (by omega) | exact Sy.mulB (by omega) (by omega) | exact Sy.divA (by omega) (by omega) | exact Sy.smlA (by omega) (by omega) | exact Sy.szLt rfl | exact Sy.szLe rfl | exact Sy.szLe' (by omega) | exact ⟨by omega, by omega⟩ | (rw [List.length_map]; exact Sy.szLt' (by omega)) | (show (0 : Int) < _; first | omega | decide +kernel) | decide +kernel | exact ⟨rfl, Nat.le_of_ble_eq_true rfl, by decide +kernel⟩ | (refine ⟨?_, ?_, ?_⟩ <;> decide +kernel))
  intro nm hnl hnc
  repeat' ((conv => whnf); first | ((with_reducible apply Sy.one?.yes); (· exact rfl)) | ((with_reducible apply Sy.both.yes); (· exact rfl); (· exact rfl)) | (with_reducible apply Sy.both.els) | ((refine Sy.Got.here ?_ ?_); (· first | with_reducible rfl | decide +kernel)) | ((refine Sy.Got.next ?_ ?_); (· decide +kernel)) | ((with_reducible refine Sy.IfB.t ?_ ?_); (· first | with_reducible rfl | decide +kernel)) | ((with_reducible refine Sy.IfB.f ?_ ?_); (· first | with_reducible rfl | decide +kernel)) | (with_reducible refine Sy.IfB.mk (fun _ => ?_) (fun _ => ?_)) | ((with_reducible apply Sy.mkT.yes); (· exact rfl)) | (with_reducible apply Sy.mkT.els) | (with_reducible refine And.intro (Sy.Hold.out ?_) ?_))
  all_goals try (refine Sy.Hold.mk ?_; first | exact trivial | exact rfl | exact Sy.mulA (by omega) (by omega) | exact Sy.mulB (by omega) (by omega) | exact Sy.divA (by omega) (by omega) | exact Sy.smlA (by omega) (by omega) | exact Sy.szLt rfl | exact Sy.szLe rfl | exact Sy.szLe' (by omega) | exact ⟨by omega, by omega⟩ | (rw [List.length_map]; exact Sy.szLt' (by omega)) | (show (0 : Int) < _; first | omega | decide +kernel) | decide +kernel | exact ⟨rfl, Nat.le_of_ble_eq_true rfl, by decide +kernel⟩ | (refine ⟨?_, ?_, ?_⟩ <;> decide +kernel))
  refine ⟨10, rfl, ⟨by omega, by omega⟩, fun r h0 h1 => ?_⟩
  repeat' ((conv => whnf); first | ((with_reducible apply Sy.one?.yes); (· exact rfl)) | ((with_reducible apply Sy.both.yes); (· exact rfl); (· exact rfl)) | (with_reducible apply Sy.both.els) | ((refine Sy.Got.here ?_ ?_); (· first | with_reducible rfl | decide +kernel)) | ((refine Sy.Got.next ?_ ?_); (· decide +kernel)) | ((with_reducible refine Sy.IfB.t ?_ ?_); (· first | with_reducible rfl | decide +kernel)) | ((with_reducible refine Sy.IfB.f ?_ ?_); (· first | with_reducible rfl | decide +kernel)) | (with_reducible refine Sy.IfB.mk (fun _ => ?_) (fun _ => ?_)) | ((with_reducible apply Sy.mkT.yes); (· exact rfl)) | (with_reducible apply Sy.mkT.els) | (with_reducible refine And.intro (Sy.Hold.out ?_) ?_))
  all_goals try (refine Sy.Hold.mk ?_; first | exact trivial | exact rfl | exact Sy.mulA (by omega) (by omega) | exact Sy.mulB (by omega) (by omega) | exact Sy.divA (by omega) (by omega) | exact Sy.smlA (by omega) (by omega) | exact Sy.szLt rfl | exact Sy.szLe rfl | exact Sy.szLe' (by omega) | exact ⟨by omega, by omega⟩ | (rw [List.length_map]; exact Sy.szLt' (by omega)) | (show (0 : Int) < _; first | omega | decide +kernel) | decide +kernel | exact ⟨rfl, Nat.le_of_ble_eq_true rfl, by decide +kernel⟩ | (refine ⟨?_, ?_, ?_⟩ <;> decide +kernel))
  refine ⟨fun i acc S => S = _ ∧ ∃ zs : List Str, acc = zs.map .str ∧ (∀ z ∈ zs, z.length ≤ 1 ∧ cOk z) ∧ zs.length = i, ⟨rfl, [], rfl, (fun _ h => by cases h), rfl⟩, fun i x acc S hx hJ hS => ?_, fun acc S hJ hS => ?_⟩
  · obtain ⟨rfl, hj⟩ := rng_get hx
    obtain ⟨rfl, zs, rfl, hz, rfl⟩ := hJ
    refine ⟨trivial, ?_⟩
    repeat' ((conv => whnf); first | ((with_reducible apply Sy.one?.yes); (· exact rfl)) | ((with_reducible apply Sy.both.yes); (· exact rfl); (· exact rfl)) | (with_reducible apply Sy.both.els) | ((refine Sy.Got.here ?_ ?_); (· first | with_reducible rfl | decide +kernel)) | ((refine Sy.Got.next ?_ ?_); (· decide +kernel)) | ((with_reducible refine Sy.IfB.t ?_ ?_); (· first | with_reducible rfl | decide +kernel)) | ((with_reducible refine Sy.IfB.f ?_ ?_); (· first | with_reducible rfl | decide +kernel)) | (with_reducible refine Sy.IfB.mk (fun _ => ?_) (fun _ => ?_)) | ((with_reducible apply Sy.mkT.yes); (· exact rfl)) | (with_reducible apply Sy.mkT.els) | (with_reducible refine And.intro (Sy.Hold.out ?_) ?_))
    all_goals try (refine Sy.Hold.mk ?_; first | exact trivial | exact rfl | exact Sy.mulA (by omega) (by omega) | exact Sy.mulB (by omega) (by omega) | exact Sy.divA (by omega) (by omega) | exact Sy.smlA (by omega) (by omega) | exact Sy.szLt rfl | exact Sy.szLe rfl | exact Sy.szLe' (by omega) | exact ⟨by omega, by omega⟩ | (rw [List.length_map]; exact Sy.szLt' (by omega)) | (show (0 : Int) < _; first | omega | decide +kernel) | decide +kernel | exact ⟨rfl, Nat.le_of_ble_eq_true rfl, by decide +kernel⟩ | (refine ⟨?_, ?_, ?_⟩ <;> decide +kernel))
    refine ⟨10, rfl, ⟨by omega, by omega⟩, fun r2 h2 h3 => ?_⟩
    repeat' ((conv => whnf); first | ((with_reducible apply Sy.one?.yes); (· exact rfl)) | ((with_reducible apply Sy.both.yes); (· exact rfl); (· exact rfl)) | (with_reducible apply Sy.both.els) | ((refine Sy.Got.here ?_ ?_); (· first | with_reducible rfl | decide +kernel)) | ((refine Sy.Got.next ?_ ?_); (· decide +kernel)) | ((with_reducible refine Sy.IfB.t ?_ ?_); (· first | with_reducible rfl | decide +kernel)) | ((with_reducible refine Sy.IfB.f ?_ ?_); (· first | with_reducible rfl | decide +kernel)) | (with_reducible refine Sy.IfB.mk (fun _ => ?_) (fun _ => ?_)) | ((with_reducible apply Sy.mkT.yes); (· exact rfl)) | (with_reducible apply Sy.mkT.els) | (with_reducible refine And.intro (Sy.Hold.out ?_) ?_))
    all_goals try (refine Sy.Hold.mk ?_; first | exact trivial | exact rfl | exact Sy.mulA (by omega) (by omega) | exact Sy.mulB (by omega) (by omega) | exact Sy.divA (by omega) (by omega) | exact Sy.smlA (by omega) (by omega) | exact Sy.szLt rfl | exact Sy.szLe rfl | exact Sy.szLe' (by omega) | exact ⟨by omega, by omega⟩ | (rw [List.length_map]; exact Sy.szLt' (by omega)) | (show (0 : Int) < _; first | omega | decide +kernel) | decide +kernel | exact ⟨rfl, Nat.le_of_ble_eq_true rfl, by decide +kernel⟩ | (refine ⟨?_, ?_, ?_⟩ <;> decide +kernel))
    obtain ⟨c, hc, e⟩ := atI_in (xs := ("0123456789" : Str).cps.toList) h2 (by rw [fig_len]; exact h3)
    refine Sy.one?.yes e ?_
    repeat' ((conv => whnf); first | ((with_reducible apply Sy.one?.yes); (· exact rfl)) | ((with_reducible apply Sy.both.yes); (· exact rfl); (· exact rfl)) | (with_reducible apply Sy.both.els) | ((refine Sy.Got.here ?_ ?_); (· first | with_reducible rfl | decide +kernel)) | ((refine Sy.Got.next ?_ ?_); (· decide +kernel)) | ((with_reducible refine Sy.IfB.t ?_ ?_); (· first | with_reducible rfl | decide +kernel)) | ((with_reducible refine Sy.IfB.f ?_ ?_); (· first | with_reducible rfl | decide +kernel)) | (with_reducible refine Sy.IfB.mk (fun _ => ?_) (fun _ => ?_)) | ((with_reducible apply Sy.mkT.yes); (· exact rfl)) | (with_reducible apply Sy.mkT.els) | (with_reducible refine And.intro (Sy.Hold.out ?_) ?_))
    all_goals try (refine Sy.Hold.mk ?_; first | exact trivial | exact rfl | exact Sy.mulA (by omega) (by omega) | exact Sy.mulB (by omega) (by omega) | exact Sy.divA (by omega) (by omega) | exact Sy.smlA (by omega) (by omega) | exact Sy.szLt rfl | exact Sy.szLe rfl | exact Sy.szLe' (by omega) | exact ⟨by omega, by omega⟩ | (rw [List.length_map]; exact Sy.szLt' (by omega)) | (show (0 : Int) < _; first | omega | decide +kernel) | decide +kernel | exact ⟨rfl, Nat.le_of_ble_eq_true rfl, by decide +kernel⟩ | (refine ⟨?_, ?_, ?_⟩ <;> decide +kernel))
    exact ⟨zs ++ [_], snoc_str _ _, snoc_all hz ⟨Nat.le_refl 1, cOk_one (fig_c c hc)⟩, snoc_len _ _⟩
  · obtain ⟨rfl, zs, rfl, hz, hzl⟩ := hJ
    refine ⟨trivial, ?_⟩
    have hzl : zs.length ≤ 10 := by
      rw [hzl, rng_len]
      omega
    have hj := join_ones fun y h => (hz y h).1
    have hjc : cOk (Txt.join "" zs) := cOk_joinT e_c fun y h => (hz y h).2
    have hsum := sum_ones fun y h => (hz y h).1
    repeat' ((conv => whnf); first | ((with_reducible apply Sy.one?.yes); (· exact rfl)) | ((with_reducible apply Sy.both.yes); (· exact rfl); (· exact rfl)) | (with_reducible apply Sy.both.els) | ((refine Sy.Got.here ?_ ?_); (· first | with_reducible rfl | decide +kernel)) | ((refine Sy.Got.next ?_ ?_); (· decide +kernel)) | ((with_reducible refine Sy.IfB.t ?_ ?_); (· first | with_reducible rfl | decide +kernel)) | ((with_reducible refine Sy.IfB.f ?_ ?_); (· first | with_reducible rfl | decide +kernel)) | (with_reducible refine Sy.IfB.mk (fun _ => ?_) (fun _ => ?_)) | ((with_reducible apply Sy.mkT.yes); (· exact rfl)) | (with_reducible apply Sy.mkT.els) | (with_reducible refine And.intro (Sy.Hold.out ?_) ?_))
    all_goals try (refine Sy.Hold.mk ?_; first | exact trivial | exact rfl | exact Sy.mulA (by omega) (by omega) | exact Sy.mulB (by omega) (by omega) | exact Sy.divA (by omega) (by omega) | exact Sy.smlA (by omega) (by omega) | exact Sy.szLt rfl | exact Sy.szLe rfl | exact Sy.szLe' (by omega) | exact ⟨by omega, by omega⟩ | (rw [List.length_map]; exact Sy.szLt' (by omega)) | (show (0 : Int) < _; first | omega | decide +kernel) | decide +kernel | exact ⟨rfl, Nat.le_of_ble_eq_true rfl, by decide +kernel⟩ | (refine ⟨?_, ?_, ?_⟩ <;> decide +kernel))
    refine Sy.one?.yes (x := zs) (by show (allD ((zs.map D.str).map Sv.d)).bind strsD = _; rw [allD_md]; exact strsD_map zs) ?_
    generalize hfg : Txt.join "" zs = fg at *
    have hfl : fg.length ≤ 10 := by omega
    repeat' ((conv => whnf); first | ((with_reducible apply Sy.one?.yes); (· exact rfl)) | ((with_reducible apply Sy.both.yes); (· exact rfl); (· exact rfl)) | (with_reducible apply Sy.both.els) | ((refine Sy.Got.here ?_ ?_); (· first | with_reducible rfl | decide +kernel)) | ((refine Sy.Got.next ?_ ?_); (· decide +kernel)) | ((with_reducible refine Sy.IfB.t ?_ ?_); (· first | with_reducible rfl | decide +kernel)) | ((with_reducible refine Sy.IfB.f ?_ ?_); (· first | with_reducible rfl | decide +kernel)) | (with_reducible refine Sy.IfB.mk (fun _ => ?_) (fun _ => ?_)) | ((with_reducible apply Sy.mkT.yes); (· exact rfl)) | (with_reducible apply Sy.mkT.els) | (with_reducible refine And.intro (Sy.Hold.out ?_) ?_))
    all_goals try (refine Sy.Hold.mk ?_; first | exact trivial | exact rfl | exact Sy.mulA (by omega) (by omega) | exact Sy.mulB (by omega) (by omega) | exact Sy.divA (by omega) (by omega) | exact Sy.smlA (by omega) (by omega) | exact Sy.szLt rfl | exact Sy.szLe rfl | exact Sy.szLe' (by omega) | exact ⟨by omega, by omega⟩ | (rw [List.length_map]; exact Sy.szLt' (by omega)) | (show (0 : Int) < _; first | omega | decide +kernel) | decide +kernel | exact ⟨rfl, Nat.le_of_ble_eq_true rfl, by decide +kernel⟩ | (refine ⟨?_, ?_, ?_⟩ <;> decide +kernel))
    · refine ⟨?_⟩
      have h0 : ("" : Str).length = 0 := by decide +kernel
      rw [h0]
      omega
    · skip
      refine ⟨13, rfl, ⟨by omega, by omega⟩, fun r3 h4 h5 => ?_⟩
      repeat' ((conv => whnf); first | ((with_reducible apply Sy.one?.yes); (· exact rfl)) | ((with_reducible apply Sy.both.yes); (· exact rfl); (· exact rfl)) | (with_reducible apply Sy.both.els) | ((refine Sy.Got.here ?_ ?_); (· first | with_reducible rfl | decide +kernel)) | ((refine Sy.Got.next ?_ ?_); (· decide +kernel)) | ((with_reducible refine Sy.IfB.t ?_ ?_); (· first | with_reducible rfl | decide +kernel)) | ((with_reducible refine Sy.IfB.f ?_ ?_); (· first | with_reducible rfl | decide +kernel)) | (with_reducible refine Sy.IfB.mk (fun _ => ?_) (fun _ => ?_)) | ((with_reducible apply Sy.mkT.yes); (· exact rfl)) | (with_reducible apply Sy.mkT.els) | (with_reducible refine And.intro (Sy.Hold.out ?_) ?_))
      all_goals try (refine Sy.Hold.mk ?_; first | exact trivial | exact rfl | exact Sy.mulA (by omega) (by omega) | exact Sy.mulB (by omega) (by omega) | exact Sy.divA (by omega) (by omega) | exact Sy.smlA (by omega) (by omega) | exact Sy.szLt rfl | exact Sy.szLe rfl | exact Sy.szLe' (by omega) | exact ⟨by omega, by omega⟩ | (rw [List.length_map]; exact Sy.szLt' (by omega)) | (show (0 : Int) < _; first | omega | decide +kernel) | decide +kernel | exact ⟨rfl, Nat.le_of_ble_eq_true rfl, by decide +kernel⟩ | (refine ⟨?_, ?_, ?_⟩ <;> decide +kernel))
      obtain ⟨x, hx, e⟩ := atI_in (xs := keptS) h4 h5
      obtain ⟨s, rfl, hs, hsc⟩ := keptS_mem hx
      exact Sy.one?.yes e (hQ _ (by omega) hsc)
    · exact ⟨⟨by decide, by decide, by omega, (by show nm.length * 9 ≤ _; omega)⟩⟩
    · skip
      refine ⟨3, rfl, ⟨by omega, by omega⟩, fun r3 h4 h5 => ?_⟩
      repeat' ((conv => whnf); first | ((with_reducible apply Sy.one?.yes); (· exact rfl)) | ((with_reducible apply Sy.both.yes); (· exact rfl); (· exact rfl)) | (with_reducible apply Sy.both.els) | ((refine Sy.Got.here ?_ ?_); (· first | with_reducible rfl | decide +kernel)) | ((refine Sy.Got.next ?_ ?_); (· decide +kernel)) | ((with_reducible refine Sy.IfB.t ?_ ?_); (· first | with_reducible rfl | decide +kernel)) | ((with_reducible refine Sy.IfB.f ?_ ?_); (· first | with_reducible rfl | decide +kernel)) | (with_reducible refine Sy.IfB.mk (fun _ => ?_) (fun _ => ?_)) | ((with_reducible apply Sy.mkT.yes); (· exact rfl)) | (with_reducible apply Sy.mkT.els) | (with_reducible refine And.intro (Sy.Hold.out ?_) ?_))
      all_goals try (refine Sy.Hold.mk ?_; first | exact trivial | exact rfl | exact Sy.mulA (by omega) (by omega) | exact Sy.mulB (by omega) (by omega) | exact Sy.divA (by omega) (by omega) | exact Sy.smlA (by omega) (by omega) | exact Sy.szLt rfl | exact Sy.szLe rfl | exact Sy.szLe' (by omega) | exact ⟨by omega, by omega⟩ | (rw [List.length_map]; exact Sy.szLt' (by omega)) | (show (0 : Int) < _; first | omega | decide +kernel) | decide +kernel | exact ⟨rfl, Nat.le_of_ble_eq_true rfl, by decide +kernel⟩ | (refine ⟨?_, ?_, ?_⟩ <;> decide +kernel))
      · refine ⟨?_⟩
        rw [repS_len]
        exact szLe' (by show nm.length * 9 ≤ _; omega)
      · exact hQ _ (Nat.le_trans (cutS_length _ _ _) (by rw [repS_len]; show nm.length * 9 ≤ _; omega)) (cOk_cut (cOk_rep hnc))
    · skip
      refine ⟨8, rfl, ⟨by omega, by omega⟩, fun r3 h4 h5 => ?_⟩
      repeat' ((conv => whnf); first | ((with_reducible apply Sy.one?.yes); (· exact rfl)) | ((with_reducible apply Sy.both.yes); (· exact rfl); (· exact rfl)) | (with_reducible apply Sy.both.els) | ((refine Sy.Got.here ?_ ?_); (· first | with_reducible rfl | decide +kernel)) | ((refine Sy.Got.next ?_ ?_); (· decide +kernel)) | ((with_reducible refine Sy.IfB.t ?_ ?_); (· first | with_reducible rfl | decide +kernel)) | ((with_reducible refine Sy.IfB.f ?_ ?_); (· first | with_reducible rfl | decide +kernel)) | (with_reducible refine Sy.IfB.mk (fun _ => ?_) (fun _ => ?_)) | ((with_reducible apply Sy.mkT.yes); (· exact rfl)) | (with_reducible apply Sy.mkT.els) | (with_reducible refine And.intro (Sy.Hold.out ?_) ?_))
      all_goals try (refine Sy.Hold.mk ?_; first | exact trivial | exact rfl | exact Sy.mulA (by omega) (by omega) | exact Sy.mulB (by omega) (by omega) | exact Sy.divA (by omega) (by omega) | exact Sy.smlA (by omega) (by omega) | exact Sy.szLt rfl | exact Sy.szLe rfl | exact Sy.szLe' (by omega) | exact ⟨by omega, by omega⟩ | (rw [List.length_map]; exact Sy.szLt' (by omega)) | (show (0 : Int) < _; first | omega | decide +kernel) | decide +kernel | exact ⟨rfl, Nat.le_of_ble_eq_true rfl, by decide +kernel⟩ | (refine ⟨?_, ?_, ?_⟩ <;> decide +kernel))
      obtain ⟨x, hx, e⟩ := atI_in (xs := someS) h4 h5
      obtain ⟨s, rfl, hs, hsc⟩ := someS_mem hx
      exact Sy.one?.yes e (hQ _ (by omega) hsc)
    · skip
      refine ⟨2, rfl, ⟨by omega, by omega⟩, fun r3 h4 h5 => ?_⟩
      repeat' ((conv => whnf); first | ((with_reducible apply Sy.one?.yes); (· exact rfl)) | ((with_reducible apply Sy.both.yes); (· exact rfl); (· exact rfl)) | (with_reducible apply Sy.both.els) | ((refine Sy.Got.here ?_ ?_); (· first | with_reducible rfl | decide +kernel)) | ((refine Sy.Got.next ?_ ?_); (· decide +kernel)) | ((with_reducible refine Sy.IfB.t ?_ ?_); (· first | with_reducible rfl | decide +kernel)) | ((with_reducible refine Sy.IfB.f ?_ ?_); (· first | with_reducible rfl | decide +kernel)) | (with_reducible refine Sy.IfB.mk (fun _ => ?_) (fun _ => ?_)) | ((with_reducible apply Sy.mkT.yes); (· exact rfl)) | (with_reducible apply Sy.mkT.els) | (with_reducible refine And.intro (Sy.Hold.out ?_) ?_))
      all_goals try (refine Sy.Hold.mk ?_; first | exact trivial | exact rfl | exact Sy.mulA (by omega) (by omega) | exact Sy.mulB (by omega) (by omega) | exact Sy.divA (by omega) (by omega) | exact Sy.smlA (by omega) (by omega) | exact Sy.szLt rfl | exact Sy.szLe rfl | exact Sy.szLe' (by omega) | exact ⟨by omega, by omega⟩ | (rw [List.length_map]; exact Sy.szLt' (by omega)) | (show (0 : Int) < _; first | omega | decide +kernel) | decide +kernel | exact ⟨rfl, Nat.le_of_ble_eq_true rfl, by decide +kernel⟩ | (refine ⟨?_, ?_, ?_⟩ <;> decide +kernel))
      obtain ⟨x, hx, e⟩ := atI_in (xs := [Sv.d (.str nm), .d (.str fg)]) h4 h5
      obtain ⟨tx, rfl, htl, htc⟩ : ∃ tx : Str, x = .d (.str tx) ∧ tx.length ≤ 16 ∧ cOk tx := by
        rcases two_mem hx with rfl | rfl
        · exact ⟨nm, rfl, hnl, hnc⟩
        · exact ⟨fg, rfl, by omega, hjc⟩
      refine Sy.one?.yes e ?_
      repeat' ((conv => whnf); first | ((with_reducible apply Sy.one?.yes); (· exact rfl)) | ((with_reducible apply Sy.both.yes); (· exact rfl); (· exact rfl)) | (with_reducible apply Sy.both.els) | ((refine Sy.Got.here ?_ ?_); (· first | with_reducible rfl | decide +kernel)) | ((refine Sy.Got.next ?_ ?_); (· decide +kernel)) | ((with_reducible refine Sy.IfB.t ?_ ?_); (· first | with_reducible rfl | decide +kernel)) | ((with_reducible refine Sy.IfB.f ?_ ?_); (· first | with_reducible rfl | decide +kernel)) | (with_reducible refine Sy.IfB.mk (fun _ => ?_) (fun _ => ?_)) | ((with_reducible apply Sy.mkT.yes); (· exact rfl)) | (with_reducible apply Sy.mkT.els) | (with_reducible refine And.intro (Sy.Hold.out ?_) ?_))
      all_goals try (refine Sy.Hold.mk ?_; first | exact trivial | exact rfl | exact Sy.mulA (by omega) (by omega) | exact Sy.mulB (by omega) (by omega) | exact Sy.divA (by omega) (by omega) | exact Sy.smlA (by omega) (by omega) | exact Sy.szLt rfl | exact Sy.szLe rfl | exact Sy.szLe' (by omega) | exact ⟨by omega, by omega⟩ | (rw [List.length_map]; exact Sy.szLt' (by omega)) | (show (0 : Int) < _; first | omega | decide +kernel) | decide +kernel | exact ⟨rfl, Nat.le_of_ble_eq_true rfl, by decide +kernel⟩ | (refine ⟨?_, ?_, ?_⟩ <;> decide +kernel))
      all_goals first | exact hQ _ (by omega) htc | skip
      refine ⟨(tx.length : Int) + 1, rfl, ⟨by omega, by omega⟩, fun r4 h6 h7 => ?_⟩
      repeat' ((conv => whnf); first | ((with_reducible apply Sy.one?.yes); (· exact rfl)) | ((with_reducible apply Sy.both.yes); (· exact rfl); (· exact rfl)) | (with_reducible apply Sy.both.els) | ((refine Sy.Got.here ?_ ?_); (· first | with_reducible rfl | decide +kernel)) | ((refine Sy.Got.next ?_ ?_); (· decide +kernel)) | ((with_reducible refine Sy.IfB.t ?_ ?_); (· first | with_reducible rfl | decide +kernel)) | ((with_reducible refine Sy.IfB.f ?_ ?_); (· first | with_reducible rfl | decide +kernel)) | (with_reducible refine Sy.IfB.mk (fun _ => ?_) (fun _ => ?_)) | ((with_reducible apply Sy.mkT.yes); (· exact rfl)) | (with_reducible apply Sy.mkT.els) | (with_reducible refine And.intro (Sy.Hold.out ?_) ?_))
      all_goals try (refine Sy.Hold.mk ?_; first | exact trivial | exact rfl | exact Sy.mulA (by omega) (by omega) | exact Sy.mulB (by omega) (by omega) | exact Sy.divA (by omega) (by omega) | exact Sy.smlA (by omega) (by omega) | exact Sy.szLt rfl | exact Sy.szLe rfl | exact Sy.szLe' (by omega) | exact ⟨by omega, by omega⟩ | (rw [List.length_map]; exact Sy.szLt' (by omega)) | (show (0 : Int) < _; first | omega | decide +kernel) | decide +kernel | exact ⟨rfl, Nat.le_of_ble_eq_true rfl, by decide +kernel⟩ | (refine ⟨?_, ?_, ?_⟩ <;> decide +kernel))
      refine ⟨_, rfl, ⟨by decide +kernel, by decide +kernel⟩, fun r5 h8 h9 => ?_⟩
      repeat' ((conv => whnf); first | ((with_reducible apply Sy.one?.yes); (· exact rfl)) | ((with_reducible apply Sy.both.yes); (· exact rfl); (· exact rfl)) | (with_reducible apply Sy.both.els) | ((refine Sy.Got.here ?_ ?_); (· first | with_reducible rfl | decide +kernel)) | ((refine Sy.Got.next ?_ ?_); (· decide +kernel)) | ((with_reducible refine Sy.IfB.t ?_ ?_); (· first | with_reducible rfl | decide +kernel)) | ((with_reducible refine Sy.IfB.f ?_ ?_); (· first | with_reducible rfl | decide +kernel)) | (with_reducible refine Sy.IfB.mk (fun _ => ?_) (fun _ => ?_)) | ((with_reducible apply Sy.mkT.yes); (· exact rfl)) | (with_reducible apply Sy.mkT.els) | (with_reducible refine And.intro (Sy.Hold.out ?_) ?_))
      all_goals try (refine Sy.Hold.mk ?_; first | exact trivial | exact rfl | exact Sy.mulA (by omega) (by omega) | exact Sy.mulB (by omega) (by omega) | exact Sy.divA (by omega) (by omega) | exact Sy.smlA (by omega) (by omega) | exact Sy.szLt rfl | exact Sy.szLe rfl | exact Sy.szLe' (by omega) | exact ⟨by omega, by omega⟩ | (rw [List.length_map]; exact Sy.szLt' (by omega)) | (show (0 : Int) < _; first | omega | decide +kernel) | decide +kernel | exact ⟨rfl, Nat.le_of_ble_eq_true rfl, by decide +kernel⟩ | (refine ⟨?_, ?_, ?_⟩ <;> decide +kernel))
      obtain ⟨c, hc, e2⟩ := atI_in (xs := sigC.cps.toList) h8 h9
      refine Sy.one?.yes e2 ?_
      repeat' ((conv => whnf); first | ((with_reducible apply Sy.one?.yes); (· exact rfl)) | ((with_reducible apply Sy.both.yes); (· exact rfl); (· exact rfl)) | (with_reducible apply Sy.both.els) | ((refine Sy.Got.here ?_ ?_); (· first | with_reducible rfl | decide +kernel)) | ((refine Sy.Got.next ?_ ?_); (· decide +kernel)) | ((with_reducible refine Sy.IfB.t ?_ ?_); (· first | with_reducible rfl | decide +kernel)) | ((with_reducible refine Sy.IfB.f ?_ ?_); (· first | with_reducible rfl | decide +kernel)) | (with_reducible refine Sy.IfB.mk (fun _ => ?_) (fun _ => ?_)) | ((with_reducible apply Sy.mkT.yes); (· exact rfl)) | (with_reducible apply Sy.mkT.els) | (with_reducible refine And.intro (Sy.Hold.out ?_) ?_))
      all_goals try (refine Sy.Hold.mk ?_; first | exact trivial | exact rfl | exact Sy.mulA (by omega) (by omega) | exact Sy.mulB (by omega) (by omega) | exact Sy.divA (by omega) (by omega) | exact Sy.smlA (by omega) (by omega) | exact Sy.szLt rfl | exact Sy.szLe rfl | exact Sy.szLe' (by omega) | exact ⟨by omega, by omega⟩ | (rw [List.length_map]; exact Sy.szLt' (by omega)) | (show (0 : Int) < _; first | omega | decide +kernel) | decide +kernel | exact ⟨rfl, Nat.le_of_ble_eq_true rfl, by decide +kernel⟩ | (refine ⟨?_, ?_, ?_⟩ <;> decide +kernel))
      · refine ⟨?_⟩
        have h12 := cutS_length tx none (some r4)
        exact szLe' (by show _ + 1 ≤ _; omega)
      have hmd : (cutS tx none (some r4) ++ (⟨#[c]⟩ : Str)).length ≤ 17 := by
        have h12 := cutS_length tx none (some r4)
        rw [strLen_append]
        show _ + 1 ≤ _
        omega
      have hmc : cOk (cutS tx none (some r4) ++ (⟨#[c]⟩ : Str)) := cOk_app (cOk_cut htc) (cOk_one (sig_c c hc))
      generalize cutS tx none (some r4) ++ (⟨#[c]⟩ : Str) = md at *
      refine ⟨2, rfl, ⟨by omega, by omega⟩, fun r6 h10 h11 => ?_⟩
      repeat' ((conv => whnf); first | ((with_reducible apply Sy.one?.yes); (· exact rfl)) | ((with_reducible apply Sy.both.yes); (· exact rfl); (· exact rfl)) | (with_reducible apply Sy.both.els) | ((refine Sy.Got.here ?_ ?_); (· first | with_reducible rfl | decide +kernel)) | ((refine Sy.Got.next ?_ ?_); (· decide +kernel)) | ((with_reducible refine Sy.IfB.t ?_ ?_); (· first | with_reducible rfl | decide +kernel)) | ((with_reducible refine Sy.IfB.f ?_ ?_); (· first | with_reducible rfl | decide +kernel)) | (with_reducible refine Sy.IfB.mk (fun _ => ?_) (fun _ => ?_)) | ((with_reducible apply Sy.mkT.yes); (· exact rfl)) | (with_reducible apply Sy.mkT.els) | (with_reducible refine And.intro (Sy.Hold.out ?_) ?_))
      all_goals try (refine Sy.Hold.mk ?_; first | exact trivial | exact rfl | exact Sy.mulA (by omega) (by omega) | exact Sy.mulB (by omega) (by omega) | exact Sy.divA (by omega) (by omega) | exact Sy.smlA (by omega) (by omega) | exact Sy.szLt rfl | exact Sy.szLe rfl | exact Sy.szLe' (by omega) | exact ⟨by omega, by omega⟩ | (rw [List.length_map]; exact Sy.szLt' (by omega)) | (show (0 : Int) < _; first | omega | decide +kernel) | decide +kernel | exact ⟨rfl, Nat.le_of_ble_eq_true rfl, by decide +kernel⟩ | (refine ⟨?_, ?_, ?_⟩ <;> decide +kernel))
      · refine ⟨?_⟩
        have h14 := cutS_length tx (some (r4 + r6)) none
        exact szLe' (by omega)
      · have h14 := cutS_length tx (some (r4 + r6)) none
        exact hQ _ (by rw [strLen_append]; omega) (cOk_app hmc (cOk_cut htc))
abbrev sL (ts : List Str) : List Sv := (ts.map D.str).map Sv.d
def tOk (s : Str) : Prop := s.length ≤ 20000 ∧ cOk s
theorem dig_ok {r : Int} (h : 0 ≤ r) (h' : r < 10) : (Str.ofString (toString r)).length ≤ 1 ∧ cOk (Str.ofString (toString r)) := by
  have hc : r = 0 ∨ r = 1 ∨ r = 2 ∨ r = 3 ∨ r = 4 ∨ r = 5 ∨ r = 6 ∨ r = 7 ∨ r = 8 ∨ r = 9 := by omega
  rcases hc with rfl | rfl | rfl | rfl | rfl | rfl | rfl | rfl | rfl | rfl
  all_goals exact ⟨by decide +kernel, cOk_dec (by decide +kernel)⟩
def mm (n : Int) : Int := if (if n < 4 then n else 4) > 2 then (if n < 4 then n else 4) else 2
theorem mm_le (n : Int) : 0 ≤ mm n ∧ mm n ≤ 4 := by
  unfold mm
  split <;> split <;> omega
theorem sml_mm (n : Int) : sml (4 * mm n) := smlA (by have := (mm_le n).1; omega) (by have := (mm_le n).2; omega)
theorem rep_ok {s : Str} {n : Int} (h : s.length ≤ 1) (h0 : 0 ≤ n) (h1 : n ≤ 6000) : RepC s n := ⟨by omega, by omega, by omega, by
  have : s.length * n.toNat ≤ 1 * n.toNat := Nat.mul_le_mul_right _ h
  omega⟩
theorem rep_t {s : Str} {n : Int} (h : s.length ≤ 1) (hc : cOk s) (h0 : 0 ≤ n) (h1 : n ≤ 6000) : tOk (repS s n) := ⟨by
  have : s.length * n.toNat ≤ 1 * n.toNat := Nat.mul_le_mul_right _ h
  rw [repS_len]
  omega, cOk_rep hc⟩
theorem dv_lt : ∀ (cs : List Nat) (acc : Nat), (∀ c ∈ cs, c ≤ 57) → cs.foldl (fun acc c => acc * 10 + (c - 48)) acc < (acc + 1) * 10 ^ cs.length
  | [], acc, _ => by
    show acc < (acc + 1) * 1
    omega
  | c :: r, acc, h => by
    have ih := dv_lt r (acc * 10 + (c - 48)) fun d hd => h d (List.mem_cons_of_mem _ hd)
    have hc := h c List.mem_cons_self
    have h1 : (acc * 10 + (c - 48) + 1) * 10 ^ r.length ≤ ((acc + 1) * 10) * 10 ^ r.length := Nat.mul_le_mul_right _ (by omega)
    show r.foldl _ (acc * 10 + (c - 48)) < _
    rw [List.length_cons, Nat.pow_succ, Nat.mul_comm (10 ^ r.length) 10, ← Nat.mul_assoc]
    exact Nat.lt_of_lt_of_le ih h1
theorem numD_cases (s : Str) : numD s = .non ∨ ∃ n : Nat, n < 1000000000 ∧ numD s = .int (n : Int) := by
  unfold numD
  by_cases h : (1 ≤ s.length ∧ s.length ≤ 9) ∧ s.cps.toList.all (inS figC) = true ∧ ¬ (lead s = true ∧ 1 < s.length)
  · rw [if_pos h]
    refine .inr ⟨_, ?_, rfl⟩
    have h1 := dv_lt s.cps.toList 0 fun c hc => (fig_digit (List.all_eq_true.mp h.2.1 c hc)).1.2
    have h2 : s.cps.toList.length ≤ 9 := h.1.2
    have h3 : (10 : Nat) ^ s.cps.toList.length ≤ 10 ^ 9 := Nat.pow_le_pow_right (by decide) h2
    show NumText.digitsVal _ < _
    have h4 : NumText.digitsVal s.cps.toList < (0 + 1) * 10 ^ s.cps.toList.length := h1
    omega
  · rw [if_neg h]
    exact .inl rfl
theorem tt_len {a b : Str} (h : a.length ≤ 10) (h' : b.length ≤ 2000) : (tupleText [a, b]).length ≤ sizeLine := by
  have h1 := fmt_text [a, b]
  have h2 : piled [a, b] = (a.length + 2) + ((b.length + 2) + 0) := by rw [piled_cons, piled_cons, piled_nil]
  exact szLe' (by omega)
theorem bool_len (b : Bool) : ((if b then "True" else "False" : Str)).length ≤ 10 := by
  cases b
  · show (Str.ofString "False").length ≤ 10
    decide +kernel
  · show (Str.ofString "True").length ≤ 10
    decide +kernel
theorem rep_hold (s : Str) : (D.tup [.bl (isNm s), numD s]).pl = true ∧ (D.tup [.bl (isNm s), numD s]).py.showable = true ∧ (D.tup [.bl (isNm s), numD s]).py.depth ≤ 60 ∧ (D.tup [.bl (isNm s), numD s]).py.shown.length ≤ sizeLine := by
  rcases numD_cases s with h | ⟨n, hn, h⟩
  · rw [h]
    refine ⟨rfl, rfl, by show max 0 (max 0 0) + 1 ≤ 60; decide, ?_⟩
    show (tupleText [_, _]).length ≤ _
    exact tt_len (bool_len _) (by show (Str.ofString "None").length ≤ 2000; decide +kernel)
  · rw [h]
    have hl : ((n : Int)).natAbs.log2 < 1920 := by
      by_cases h0 : ((n : Int)).natAbs = 0
      · rw [h0]; decide
      · have h3 : ((n : Int)).natAbs < 2 ^ 60 := by omega
        have h4 := (Nat.log2_lt h0).mpr h3
        omega
    refine ⟨rfl, ?_, by show max 0 (max 0 0) + 1 ≤ 60; decide, ?_⟩
    · show (true && (decide _ && true)) = true
      rw [decide_eq_true hl]
      rfl
    · show (tupleText [_, _]).length ≤ _
      exact tt_len (bool_len _) (by show (Str.ofString (toString (n : Int))).length ≤ 2000; exact Nat.le_trans (int_text_len_1921 hl) (by decide))
theorem ms7 {E : List Sv} {a a' b b' c c' d d' e e' : List Sv} (h1 : a = a') (h2 : b = b') (h3 : c = c') (h4 : d = d') (h5 : e = e') : Ms.mk E [.dl 1, .hid, .ls a, .ls b, .ls c, .ls d, .ls e] = Ms.mk E [.dl 1, .hid, .ls a', .ls b', .ls c', .ls d', .ls e'] := by rw [h1, h2, h3, h4, h5]
theorem ok_law (T : Tx K mg) (G__law_deal : FnG P w K mg base 1 T._law_deal_f T._law_deal_fd ["_law_script", "_law_base"] (spD K cDeal)) (G__law_draw : FnG P w K mg base 1 T._law_draw_f T._law_draw_fd ["_law_deal_here", "_law_many"] (spD K (cDl pDraw)))
    (G__law_text : FnG P w K mg base 3 T._law_text_f T._law_text_fd ["_law_deal_here"] (spD K (cDl pText))) (G_is_name : FnG P w K mg base 1 T.is_name_f T.is_name_fd ["text"] (spD K (cP pIsNm))) (G_number_of : FnG P w K mg base 1 T.number_of_f T.number_of_fd ["text"] (spD K (cP pNum)))
    (G__law_name_due : FnG P w K mg base 1 T._law_name_due_f T._law_name_due_fd ["_law_text_here"] (spD K (cP pIsNm))) (G__law_number_due : FnG P w K mg base 1 T._law_number_due_f T._law_number_due_fd ["_law_text_here"] (spD K (cP pNum))) :
    FnG P w K mg base 4 T.law_f T.law_fd ["_law_script"] (spD K cLaw) := by
  refine fnG retF_ok T.law_F sc_law (fun xs S Q ⟨ns, e, _⟩ => by rw [e]; rfl) fun cdv A outer sh H E hr free xs S Q hC => ?_
  have hu := hr.units
  have hu1 := hu_of hr
  refine ⟨_, (db_cons (ds_set (i := 1) sc_law.nd rfl (by first | exact Or.inl rfl | exact Or.inr rfl) (de_dealG G__law_deal (hr.mono (by decide)) free rfl T._law_deal_g T._law_deal_F.kp T._law_deal_b (da_cons (de_var 0) (da_cons de_int da_nil))))
  (db_cons (ds_setLc (i := 2) (own := [("_law_k", 4)]) rfl sc_law.nd rfl rfl (sw_true rfl rfl rfl (by decide +kernel)) (di_range1 rfl T.z_range (da_cons (de_bin od_mulA de_int (de_callB (cd_max2 rfl) rfl T.z_max (by decide +kernel) (da_cons de_int (da_cons (de_callB (cd_min2 rfl) rfl T.z_min (by decide +kernel) (da_cons de_int (da_cons (de_callB (cd_len) rfl T.z_len (by decide +kernel) (da_cons (de_var 0) da_nil)) da_nil))) da_nil)))) da_nil)) (blkOk_by (N := ["_law_script", "_law_deal_here", "_law_texts", "_law_text_here", "_law_k"]) (sc := defScope s_law) (by decide +kernel)) (by simp) (fun _ _ _ _ _ => (dg_name (i := 4) sc_law.nd rfl (Or.inl rfl))) (fun _ _ _ _ _ => dts_nil) (fun _ _ _ _ _ => (de_callDlG G__law_text (hr.mono (by decide)) free rfl T._law_text_g T._law_text_F.kp T._law_text_b (da_cons (de_var 1) da_nil))))
  (db_cons (ds_set (i := 2) sc_law.nd rfl (by first | exact Or.inl rfl | exact Or.inr rfl) (de_bin od_add (de_var 2) (de_lst (da_cons (de_bin od_mulA (de_callTy (cd_str) rfl T.z_str (by decide +kernel) (da_cons (de_callDlG G__law_draw (hr.mono (by decide)) free rfl T._law_draw_g T._law_draw_F.kp T._law_draw_b (da_cons (de_var 1) (da_cons de_int da_nil))) da_nil)) (de_bin od_add de_int (de_callDlG G__law_draw (hr.mono (by decide)) free rfl T._law_draw_g T._law_draw_F.kp T._law_draw_b (da_cons (de_var 1) (da_cons de_int da_nil))))) (da_cons (de_bin od_add de_str (de_bin od_mulA de_str (de_bin od_add de_int (de_callDlG G__law_draw (hr.mono (by decide)) free rfl T._law_draw_g T._law_draw_F.kp T._law_draw_b (da_cons (de_var 1) (da_cons de_int da_nil)))))) da_nil)))))
  (db_cons (ds_for PassesOwn.never rfl (di_seq (de_bin od_add (de_var 2) (de_slice (de_var 2) do_none (do_some de_int)))) (dg_name (i := 3) sc_law.nd rfl (by first | exact Or.inl rfl | exact Or.inr rfl)) (db_one (ds_if (dt_cmp (od_ne hu) (de_callB (cd_repr hu free) rfl T.z_repr (by decide +kernel) (da_cons (de_tup (da_cons (de_callPG G_is_name (hr.mono (by decide)) free rfl T.is_name_g T.is_name_F.kp T.is_name_b (da_cons (de_var 3) da_nil)) (da_cons (de_callPG G_number_of (hr.mono (by decide)) free rfl T.number_of_g T.number_of_F.kp T.number_of_b (da_cons (de_var 3) da_nil)) da_nil))) da_nil)) (de_callB (cd_repr hu free) rfl T.z_repr (by decide +kernel) (da_cons (de_tup (da_cons (de_callPG G__law_name_due (hr.mono (by decide)) free rfl T._law_name_due_g T._law_name_due_F.kp T._law_name_due_b (da_cons (de_var 3) da_nil)) (da_cons (de_callPG G__law_number_due (hr.mono (by decide)) free rfl T._law_number_due_g T._law_number_due_F.kp T._law_number_due_b (da_cons (de_var 3) da_nil)) da_nil))) da_nil)) (nomark _)) (db_one (ds_ret de_bl)) db_nil)))
  (db_one (ds_ret de_bl)))))), ?_⟩
  obtain ⟨ns, rfl, rfl, hl, hQ⟩ := hC
  refine ⟨ns, 0, rfl, ⟨hl, by decide, by decide⟩, ?_⟩
  repeat' ((conv => whnf); first | ((with_reducible apply Sy.one?.yes); (· exact rfl)) | ((with_reducible apply Sy.both.yes); (· exact rfl); (· exact rfl)) | (with_reducible apply Sy.both.els) | ((refine Sy.Got.here ?_ ?_); (· first | with_reducible rfl | decide +kernel)) | ((refine Sy.Got.next ?_ ?_); (· decide +kernel)) | ((with_reducible refine Sy.IfB.t ?_ ?_); (· first | with_reducible rfl | decide +kernel)) | ((with_reducible refine Sy.IfB.f ?_ ?_); (· first | with_reducible rfl | decide +kernel)) | (with_reducible refine Sy.IfB.mk (fun _ => ?_) (fun _ => ?_)) | ((with_reducible apply Sy.mkT.yes); (· exact rfl)) | (with_reducible apply Sy.mkT.els) | (with_reducible refine And.intro (Sy.Hold.out ?_) ?_))
  all_goals try (refine Sy.Hold.mk ?_; first | exact trivial | exact rfl | exact Sy.mulA (by omega) (by omega) | exact Sy.mulB (by omega) (by omega) | exact Sy.divA (by omega) (by omega) | exact Sy.smlA (by omega) (by omega) | exact Sy.szLt rfl | exact Sy.szLe rfl | exact Sy.szLe' (by omega) | exact ⟨by omega, by omega⟩ | (rw [List.length_map]; exact Sy.szLt' (by omega)) | (show (0 : Int) < _; first | omega | decide +kernel) | decide +kernel | exact ⟨rfl, Nat.le_of_ble_eq_true rfl, by decide +kernel⟩ | (refine ⟨?_, ?_, ?_⟩ <;> decide +kernel))
  have hm := mm_le ((List.map Sv.d (List.map D.int ns)).length : Int)
  · exact ⟨sml_mm ((List.map Sv.d (List.map D.int ns)).length : Int)⟩
  have hm := mm_le ((List.map Sv.d (List.map D.int ns)).length : Int)
  refine ⟨fun i acc S => S = _ ∧ ∃ zs : List Str, acc = zs.map .str ∧ (∀ z ∈ zs, tOk z) ∧ zs.length = i, ⟨rfl, [], rfl, (fun _ h => by cases h), rfl⟩, fun i x acc S hx hJ hS => ?_, fun acc S hJ hS => ?_⟩
  · obtain ⟨rfl, hj⟩ := rng_get hx
    have hj : i < (4 * mm ((List.map Sv.d (List.map D.int ns)).length : Int)).toNat := hj
    obtain ⟨rfl, zs, rfl, hz, rfl⟩ := hJ
    refine ⟨trivial, ?_⟩
    repeat' ((conv => whnf); first | ((with_reducible apply Sy.one?.yes); (· exact rfl)) | ((with_reducible apply Sy.both.yes); (· exact rfl); (· exact rfl)) | (with_reducible apply Sy.both.els) | ((refine Sy.Got.here ?_ ?_); (· first | with_reducible rfl | decide +kernel)) | ((refine Sy.Got.next ?_ ?_); (· decide +kernel)) | ((with_reducible refine Sy.IfB.t ?_ ?_); (· first | with_reducible rfl | decide +kernel)) | ((with_reducible refine Sy.IfB.f ?_ ?_); (· first | with_reducible rfl | decide +kernel)) | (with_reducible refine Sy.IfB.mk (fun _ => ?_) (fun _ => ?_)) | ((with_reducible apply Sy.mkT.yes); (· exact rfl)) | (with_reducible apply Sy.mkT.els) | (with_reducible refine And.intro (Sy.Hold.out ?_) ?_))
    all_goals try (refine Sy.Hold.mk ?_; first | exact trivial | exact rfl | exact Sy.mulA (by omega) (by omega) | exact Sy.mulB (by omega) (by omega) | exact Sy.divA (by omega) (by omega) | exact Sy.smlA (by omega) (by omega) | exact Sy.szLt rfl | exact Sy.szLe rfl | exact Sy.szLe' (by omega) | exact ⟨by omega, by omega⟩ | (rw [List.length_map]; exact Sy.szLt' (by omega)) | (show (0 : Int) < _; first | omega | decide +kernel) | decide +kernel | exact ⟨rfl, Nat.le_of_ble_eq_true rfl, by decide +kernel⟩ | (refine ⟨?_, ?_, ?_⟩ <;> decide +kernel))
    intro s hsl hsc
    repeat' ((conv => whnf); first | ((with_reducible apply Sy.one?.yes); (· exact rfl)) | ((with_reducible apply Sy.both.yes); (· exact rfl); (· exact rfl)) | (with_reducible apply Sy.both.els) | ((refine Sy.Got.here ?_ ?_); (· first | with_reducible rfl | decide +kernel)) | ((refine Sy.Got.next ?_ ?_); (· decide +kernel)) | ((with_reducible refine Sy.IfB.t ?_ ?_); (· first | with_reducible rfl | decide +kernel)) | ((with_reducible refine Sy.IfB.f ?_ ?_); (· first | with_reducible rfl | decide +kernel)) | (with_reducible refine Sy.IfB.mk (fun _ => ?_) (fun _ => ?_)) | ((with_reducible apply Sy.mkT.yes); (· exact rfl)) | (with_reducible apply Sy.mkT.els) | (with_reducible refine And.intro (Sy.Hold.out ?_) ?_))
    all_goals try (refine Sy.Hold.mk ?_; first | exact trivial | exact rfl | exact Sy.mulA (by omega) (by omega) | exact Sy.mulB (by omega) (by omega) | exact Sy.divA (by omega) (by omega) | exact Sy.smlA (by omega) (by omega) | exact Sy.szLt rfl | exact Sy.szLe rfl | exact Sy.szLe' (by omega) | exact ⟨by omega, by omega⟩ | (rw [List.length_map]; exact Sy.szLt' (by omega)) | (show (0 : Int) < _; first | omega | decide +kernel) | decide +kernel | exact ⟨rfl, Nat.le_of_ble_eq_true rfl, by decide +kernel⟩ | (refine ⟨?_, ?_, ?_⟩ <;> decide +kernel))
    all_goals first | exact ⟨by rw [List.length_map]; exact szLt' (by omega)⟩ | exact ⟨zs ++ [_], snoc_str _ _, snoc_all hz ⟨by omega, hsc⟩, snoc_len _ _⟩
  · obtain ⟨rfl, zs, rfl, hz, hzl⟩ := hJ
    have hzl : zs.length ≤ 16 := by
      have e : zs.length = (rng 0 (4 * mm ((List.map Sv.d (List.map D.int ns)).length : Int)).toNat).length := hzl
      rw [e, rng_len]
      omega
    refine ⟨trivial, ?_⟩
    repeat' ((conv => whnf); first | ((with_reducible apply Sy.one?.yes); (· exact rfl)) | ((with_reducible apply Sy.both.yes); (· exact rfl); (· exact rfl)) | (with_reducible apply Sy.both.els) | ((refine Sy.Got.here ?_ ?_); (· first | with_reducible rfl | decide +kernel)) | ((refine Sy.Got.next ?_ ?_); (· decide +kernel)) | ((with_reducible refine Sy.IfB.t ?_ ?_); (· first | with_reducible rfl | decide +kernel)) | ((with_reducible refine Sy.IfB.f ?_ ?_); (· first | with_reducible rfl | decide +kernel)) | (with_reducible refine Sy.IfB.mk (fun _ => ?_) (fun _ => ?_)) | ((with_reducible apply Sy.mkT.yes); (· exact rfl)) | (with_reducible apply Sy.mkT.els) | (with_reducible refine And.intro (Sy.Hold.out ?_) ?_))
    all_goals try (refine Sy.Hold.mk ?_; first | exact trivial | exact rfl | exact Sy.mulA (by omega) (by omega) | exact Sy.mulB (by omega) (by omega) | exact Sy.divA (by omega) (by omega) | exact Sy.smlA (by omega) (by omega) | exact Sy.szLt rfl | exact Sy.szLe rfl | exact Sy.szLe' (by omega) | exact ⟨by omega, by omega⟩ | (rw [List.length_map]; exact Sy.szLt' (by omega)) | (show (0 : Int) < _; first | omega | decide +kernel) | decide +kernel | exact ⟨rfl, Nat.le_of_ble_eq_true rfl, by decide +kernel⟩ | (refine ⟨?_, ?_, ?_⟩ <;> decide +kernel))
    refine ⟨10, rfl, ⟨by omega, by omega⟩, fun r h0 h1 => ?_⟩
    repeat' ((conv => whnf); first | ((with_reducible apply Sy.one?.yes); (· exact rfl)) | ((with_reducible apply Sy.both.yes); (· exact rfl); (· exact rfl)) | (with_reducible apply Sy.both.els) | ((refine Sy.Got.here ?_ ?_); (· first | with_reducible rfl | decide +kernel)) | ((refine Sy.Got.next ?_ ?_); (· decide +kernel)) | ((with_reducible refine Sy.IfB.t ?_ ?_); (· first | with_reducible rfl | decide +kernel)) | ((with_reducible refine Sy.IfB.f ?_ ?_); (· first | with_reducible rfl | decide +kernel)) | (with_reducible refine Sy.IfB.mk (fun _ => ?_) (fun _ => ?_)) | ((with_reducible apply Sy.mkT.yes); (· exact rfl)) | (with_reducible apply Sy.mkT.els) | (with_reducible refine And.intro (Sy.Hold.out ?_) ?_))
    all_goals try (refine Sy.Hold.mk ?_; first | exact trivial | exact rfl | exact Sy.mulA (by omega) (by omega) | exact Sy.mulB (by omega) (by omega) | exact Sy.divA (by omega) (by omega) | exact Sy.smlA (by omega) (by omega) | exact Sy.szLt rfl | exact Sy.szLe rfl | exact Sy.szLe' (by omega) | exact ⟨by omega, by omega⟩ | (rw [List.length_map]; exact Sy.szLt' (by omega)) | (show (0 : Int) < _; first | omega | decide +kernel) | decide +kernel | exact ⟨rfl, Nat.le_of_ble_eq_true rfl, by decide +kernel⟩ | (refine ⟨?_, ?_, ?_⟩ <;> decide +kernel))
    have hd := dig_ok h0 h1
    refine ⟨5000, rfl, ⟨by omega, by omega⟩, fun r2 h2 h3 => ?_⟩
    repeat' ((conv => whnf); first | ((with_reducible apply Sy.one?.yes); (· exact rfl)) | ((with_reducible apply Sy.both.yes); (· exact rfl); (· exact rfl)) | (with_reducible apply Sy.both.els) | ((refine Sy.Got.here ?_ ?_); (· first | with_reducible rfl | decide +kernel)) | ((refine Sy.Got.next ?_ ?_); (· decide +kernel)) | ((with_reducible refine Sy.IfB.t ?_ ?_); (· first | with_reducible rfl | decide +kernel)) | ((with_reducible refine Sy.IfB.f ?_ ?_); (· first | with_reducible rfl | decide +kernel)) | (with_reducible refine Sy.IfB.mk (fun _ => ?_) (fun _ => ?_)) | ((with_reducible apply Sy.mkT.yes); (· exact rfl)) | (with_reducible apply Sy.mkT.els) | (with_reducible refine And.intro (Sy.Hold.out ?_) ?_))
    all_goals try (refine Sy.Hold.mk ?_; first | exact trivial | exact rfl | exact Sy.mulA (by omega) (by omega) | exact Sy.mulB (by omega) (by omega) | exact Sy.divA (by omega) (by omega) | exact Sy.smlA (by omega) (by omega) | exact Sy.szLt rfl | exact Sy.szLe rfl | exact Sy.szLe' (by omega) | exact ⟨by omega, by omega⟩ | (rw [List.length_map]; exact Sy.szLt' (by omega)) | (show (0 : Int) < _; first | omega | decide +kernel) | decide +kernel | exact ⟨rfl, Nat.le_of_ble_eq_true rfl, by decide +kernel⟩ | (refine ⟨?_, ?_, ?_⟩ <;> decide +kernel))
    · exact ⟨rep_ok hd.1 (by omega) (by omega)⟩
    have ht1 : tOk (repS (Str.ofString (toString r)) (9 + r2)) := rep_t hd.1 hd.2 (by omega) (by omega)
    have h0l : ("0" : Str).length ≤ 1 := by decide +kernel
    have h0c : cOk ("0" : Str) := cOk_dec (by decide +kernel)
    have h1l : ("1" : Str).length = 1 := by decide +kernel
    have h1c : cOk ("1" : Str) := cOk_dec (by decide +kernel)
    refine ⟨3, rfl, ⟨by omega, by omega⟩, fun r3 h4 h5 => ?_⟩
    repeat' ((conv => whnf); first | ((with_reducible apply Sy.one?.yes); (· exact rfl)) | ((with_reducible apply Sy.both.yes); (· exact rfl); (· exact rfl)) | (with_reducible apply Sy.both.els) | ((refine Sy.Got.here ?_ ?_); (· first | with_reducible rfl | decide +kernel)) | ((refine Sy.Got.next ?_ ?_); (· decide +kernel)) | ((with_reducible refine Sy.IfB.t ?_ ?_); (· first | with_reducible rfl | decide +kernel)) | ((with_reducible refine Sy.IfB.f ?_ ?_); (· first | with_reducible rfl | decide +kernel)) | (with_reducible refine Sy.IfB.mk (fun _ => ?_) (fun _ => ?_)) | ((with_reducible apply Sy.mkT.yes); (· exact rfl)) | (with_reducible apply Sy.mkT.els) | (with_reducible refine And.intro (Sy.Hold.out ?_) ?_))
    all_goals try (refine Sy.Hold.mk ?_; first | exact trivial | exact rfl | exact Sy.mulA (by omega) (by omega) | exact Sy.mulB (by omega) (by omega) | exact Sy.divA (by omega) (by omega) | exact Sy.smlA (by omega) (by omega) | exact Sy.szLt rfl | exact Sy.szLe rfl | exact Sy.szLe' (by omega) | exact ⟨by omega, by omega⟩ | (rw [List.length_map]; exact Sy.szLt' (by omega)) | (show (0 : Int) < _; first | omega | decide +kernel) | decide +kernel | exact ⟨rfl, Nat.le_of_ble_eq_true rfl, by decide +kernel⟩ | (refine ⟨?_, ?_, ?_⟩ <;> decide +kernel))
    · exact ⟨rep_ok h0l (by omega) (by omega)⟩
    · refine ⟨?_⟩
      have h7 : (repS "0" (8 + r3)).length ≤ 1 * (8 + r3).toNat := by rw [repS_len]; exact Nat.mul_le_mul_right _ h0l
      exact szLe' (by rw [h1l]; omega)
    · refine ⟨?_⟩
      show (sL zs).length + 2 ≤ sizeLine
      rw [md_len]
      exact szLe' (by omega)
    · refine ⟨?_⟩
      have h8 := cutL_le (sL zs ++ [Sv.d (.str (repS (Str.ofString (toString r)) (9 + r2))), Sv.d (.str (("1" : Str) ++ repS "0" (8 + r3)))]) none (some 1)
      have h9 : (sL zs ++ [Sv.d (.str (repS (Str.ofString (toString r)) (9 + r2))), Sv.d (.str (("1" : Str) ++ repS "0" (8 + r3)))]).length = zs.length + 2 := by rw [List.length_append, md_len]; rfl
      exact szLe' (Nat.le_trans (Nat.add_le_add (Nat.le_of_eq h9) (Nat.le_trans h8 (Nat.le_of_eq h9))) (by omega))
    have ht2 : tOk (("1" : Str) ++ repS "0" (8 + r3)) := by
      have h6 := rep_t (n := 8 + r3) h0l h0c (by omega) (by omega)
      have h7 : (repS "0" (8 + r3)).length ≤ 1 * (8 + r3).toNat := by rw [repS_len]; exact Nat.mul_le_mul_right _ h0l
      exact ⟨by rw [strLen_append, h1l]; omega, cOk_app h1c h6.2⟩
    generalize hb : [repS (Str.ofString (toString r)) (9 + r2), ("1" : Str) ++ repS "0" (8 + r3)] = b2
    have hzc : zs.length + b2.length ≤ 18 := by rw [← hb]; show zs.length + 2 ≤ 18; omega
    have eC : sL zs ++ [Sv.d (.str (repS (Str.ofString (toString r)) (9 + r2))), Sv.d (.str (("1" : Str) ++ repS "0" (8 + r3)))] = sL (zs ++ b2) := by
      rw [← hb]
      exact md_app D.str zs [repS (Str.ofString (toString r)) (9 + r2), ("1" : Str) ++ repS "0" (8 + r3)]
    have hall : ∀ t ∈ zs ++ b2, tOk t := fun t h => by
      rcases List.mem_append.mp h with h | h
      · exact hz t h
      · rw [← hb] at h
        rcases List.mem_cons.mp h with rfl | h
        · exact ht1
        · rw [List.mem_singleton.mp h]; exact ht2
    generalize zs ++ b2 = cs at *
    have eD : cutL (sL zs ++ [Sv.d (.str (repS (Str.ofString (toString r)) (9 + r2))), Sv.d (.str (("1" : Str) ++ repS "0" (8 + r3)))]) none (some 1) = sL (cutL cs none (some 1)) := by rw [eC]; exact md_cut _ _ _ _
    have eE : (sL zs ++ [Sv.d (.str (repS (Str.ofString (toString r)) (9 + r2))), Sv.d (.str (("1" : Str) ++ repS "0" (8 + r3)))]) ++ cutL (sL zs ++ [Sv.d (.str (repS (Str.ofString (toString r)) (9 + r2))), Sv.d (.str (("1" : Str) ++ repS "0" (8 + r3)))]) none (some 1) = sL (cs ++ cutL cs none (some 1)) := by rw [eD, eC]; exact md_app _ _ _
    have hce : ∀ t ∈ cs ++ cutL cs none (some 1), tOk t := fun t h => by
      rcases List.mem_append.mp h with h | h
      · exact hall t h
      · exact hall t (mem_cutL h)
    have hcl : cs.length ≤ 18 := by
      have := congrArg List.length eC
      rw [List.length_append, md_len, md_len] at this
      have h2 : zs.length + 2 = cs.length := this
      omega
    refine ⟨fun i m => ∃ y, m = ⟨[.d (.scr (ns.map .int)), .r 0, .r 4, y, .no], [.dl 1, .hid, .ls (sL zs), .ls (sL b2), .ls (sL cs), .ls (sL (cutL cs none (some 1))), .ls (sL (cs ++ cutL cs none (some 1)))]⟩, ⟨.no, ms7 rfl (by rw [← hb]; rfl) eC eD eE⟩, fun i x m2 hx hI => ?_, fun m2 hI => ?_⟩
    · have hx : ((sL zs ++ [Sv.d (.str (repS (Str.ofString (toString r)) (9 + r2))), Sv.d (.str (("1" : Str) ++ repS "0" (8 + r3)))]) ++ cutL (sL zs ++ [Sv.d (.str (repS (Str.ofString (toString r)) (9 + r2))), Sv.d (.str (("1" : Str) ++ repS "0" (8 + r3)))]) none (some 1))[i]? = some x := hx
      rw [eE] at hx
      obtain ⟨t, et, rfl, hmem⟩ := md_get hx
      have ht := hce t hmem
      obtain ⟨y, rfl⟩ := hI
      refine ⟨congrArg (fun z => some (Sk.l, z)) eE.symm, ?_⟩
      repeat' ((conv => whnf); first | ((with_reducible apply Sy.one?.yes); (· exact rfl)) | ((with_reducible apply Sy.both.yes); (· exact rfl); (· exact rfl)) | (with_reducible apply Sy.both.els) | ((refine Sy.Got.here ?_ ?_); (· first | with_reducible rfl | decide +kernel)) | ((refine Sy.Got.next ?_ ?_); (· decide +kernel)) | ((with_reducible refine Sy.IfB.t ?_ ?_); (· first | with_reducible rfl | decide +kernel)) | ((with_reducible refine Sy.IfB.f ?_ ?_); (· first | with_reducible rfl | decide +kernel)) | (with_reducible refine Sy.IfB.mk (fun _ => ?_) (fun _ => ?_)) | ((with_reducible apply Sy.mkT.yes); (· exact rfl)) | (with_reducible apply Sy.mkT.els) | (with_reducible refine And.intro (Sy.Hold.out ?_) ?_))
      all_goals try (refine Sy.Hold.mk ?_; first | exact trivial | exact rfl | exact Sy.mulA (by omega) (by omega) | exact Sy.mulB (by omega) (by omega) | exact Sy.divA (by omega) (by omega) | exact Sy.smlA (by omega) (by omega) | exact Sy.szLt rfl | exact Sy.szLe rfl | exact Sy.szLe' (by omega) | exact ⟨by omega, by omega⟩ | (rw [List.length_map]; exact Sy.szLt' (by omega)) | (show (0 : Int) < _; first | omega | decide +kernel) | decide +kernel | exact ⟨rfl, Nat.le_of_ble_eq_true rfl, by decide +kernel⟩ | (refine ⟨?_, ?_, ?_⟩ <;> decide +kernel))
      refine ⟨t, rfl, ht, ?_⟩
      repeat' ((conv => whnf); first | ((with_reducible apply Sy.one?.yes); (· exact rfl)) | ((with_reducible apply Sy.both.yes); (· exact rfl); (· exact rfl)) | (with_reducible apply Sy.both.els) | ((refine Sy.Got.here ?_ ?_); (· first | with_reducible rfl | decide +kernel)) | ((refine Sy.Got.next ?_ ?_); (· decide +kernel)) | ((with_reducible refine Sy.IfB.t ?_ ?_); (· first | with_reducible rfl | decide +kernel)) | ((with_reducible refine Sy.IfB.f ?_ ?_); (· first | with_reducible rfl | decide +kernel)) | (with_reducible refine Sy.IfB.mk (fun _ => ?_) (fun _ => ?_)) | ((with_reducible apply Sy.mkT.yes); (· exact rfl)) | (with_reducible apply Sy.mkT.els) | (with_reducible refine And.intro (Sy.Hold.out ?_) ?_))
      all_goals try (refine Sy.Hold.mk ?_; first | exact trivial | exact rfl | exact Sy.mulA (by omega) (by omega) | exact Sy.mulB (by omega) (by omega) | exact Sy.divA (by omega) (by omega) | exact Sy.smlA (by omega) (by omega) | exact Sy.szLt rfl | exact Sy.szLe rfl | exact Sy.szLe' (by omega) | exact ⟨by omega, by omega⟩ | (rw [List.length_map]; exact Sy.szLt' (by omega)) | (show (0 : Int) < _; first | omega | decide +kernel) | decide +kernel | exact ⟨rfl, Nat.le_of_ble_eq_true rfl, by decide +kernel⟩ | (refine ⟨?_, ?_, ?_⟩ <;> decide +kernel))
      refine ⟨t, rfl, ht, ?_⟩
      repeat' ((conv => whnf); first | ((with_reducible apply Sy.one?.yes); (· exact rfl)) | ((with_reducible apply Sy.both.yes); (· exact rfl); (· exact rfl)) | (with_reducible apply Sy.both.els) | ((refine Sy.Got.here ?_ ?_); (· first | with_reducible rfl | decide +kernel)) | ((refine Sy.Got.next ?_ ?_); (· decide +kernel)) | ((with_reducible refine Sy.IfB.t ?_ ?_); (· first | with_reducible rfl | decide +kernel)) | ((with_reducible refine Sy.IfB.f ?_ ?_); (· first | with_reducible rfl | decide +kernel)) | (with_reducible refine Sy.IfB.mk (fun _ => ?_) (fun _ => ?_)) | ((with_reducible apply Sy.mkT.yes); (· exact rfl)) | (with_reducible apply Sy.mkT.els) | (with_reducible refine And.intro (Sy.Hold.out ?_) ?_))
      all_goals try (refine Sy.Hold.mk ?_; first | exact trivial | exact rfl | exact Sy.mulA (by omega) (by omega) | exact Sy.mulB (by omega) (by omega) | exact Sy.divA (by omega) (by omega) | exact Sy.smlA (by omega) (by omega) | exact Sy.szLt rfl | exact Sy.szLe rfl | exact Sy.szLe' (by omega) | exact ⟨by omega, by omega⟩ | (rw [List.length_map]; exact Sy.szLt' (by omega)) | (show (0 : Int) < _; first | omega | decide +kernel) | decide +kernel | exact ⟨rfl, Nat.le_of_ble_eq_true rfl, by decide +kernel⟩ | (refine ⟨?_, ?_, ?_⟩ <;> decide +kernel))
      · exact ⟨rep_hold t⟩
      refine ⟨t, rfl, ht, ?_⟩
      repeat' ((conv => whnf); first | ((with_reducible apply Sy.one?.yes); (· exact rfl)) | ((with_reducible apply Sy.both.yes); (· exact rfl); (· exact rfl)) | (with_reducible apply Sy.both.els) | ((refine Sy.Got.here ?_ ?_); (· first | with_reducible rfl | decide +kernel)) | ((refine Sy.Got.next ?_ ?_); (· decide +kernel)) | ((with_reducible refine Sy.IfB.t ?_ ?_); (· first | with_reducible rfl | decide +kernel)) | ((with_reducible refine Sy.IfB.f ?_ ?_); (· first | with_reducible rfl | decide +kernel)) | (with_reducible refine Sy.IfB.mk (fun _ => ?_) (fun _ => ?_)) | ((with_reducible apply Sy.mkT.yes); (· exact rfl)) | (with_reducible apply Sy.mkT.els) | (with_reducible refine And.intro (Sy.Hold.out ?_) ?_))
      all_goals try (refine Sy.Hold.mk ?_; first | exact trivial | exact rfl | exact Sy.mulA (by omega) (by omega) | exact Sy.mulB (by omega) (by omega) | exact Sy.divA (by omega) (by omega) | exact Sy.smlA (by omega) (by omega) | exact Sy.szLt rfl | exact Sy.szLe rfl | exact Sy.szLe' (by omega) | exact ⟨by omega, by omega⟩ | (rw [List.length_map]; exact Sy.szLt' (by omega)) | (show (0 : Int) < _; first | omega | decide +kernel) | decide +kernel | exact ⟨rfl, Nat.le_of_ble_eq_true rfl, by decide +kernel⟩ | (refine ⟨?_, ?_, ?_⟩ <;> decide +kernel))
      refine ⟨t, rfl, ht, ?_⟩
      repeat' ((conv => whnf); first | ((with_reducible apply Sy.one?.yes); (· exact rfl)) | ((with_reducible apply Sy.both.yes); (· exact rfl); (· exact rfl)) | (with_reducible apply Sy.both.els) | ((refine Sy.Got.here ?_ ?_); (· first | with_reducible rfl | decide +kernel)) | ((refine Sy.Got.next ?_ ?_); (· decide +kernel)) | ((with_reducible refine Sy.IfB.t ?_ ?_); (· first | with_reducible rfl | decide +kernel)) | ((with_reducible refine Sy.IfB.f ?_ ?_); (· first | with_reducible rfl | decide +kernel)) | (with_reducible refine Sy.IfB.mk (fun _ => ?_) (fun _ => ?_)) | ((with_reducible apply Sy.mkT.yes); (· exact rfl)) | (with_reducible apply Sy.mkT.els) | (with_reducible refine And.intro (Sy.Hold.out ?_) ?_))
      all_goals try (refine Sy.Hold.mk ?_; first | exact trivial | exact rfl | exact Sy.mulA (by omega) (by omega) | exact Sy.mulB (by omega) (by omega) | exact Sy.divA (by omega) (by omega) | exact Sy.smlA (by omega) (by omega) | exact Sy.szLt rfl | exact Sy.szLe rfl | exact Sy.szLe' (by omega) | exact ⟨by omega, by omega⟩ | (rw [List.length_map]; exact Sy.szLt' (by omega)) | (show (0 : Int) < _; first | omega | decide +kernel) | decide +kernel | exact ⟨rfl, Nat.le_of_ble_eq_true rfl, by decide +kernel⟩ | (refine ⟨?_, ?_, ?_⟩ <;> decide +kernel))
      · exact ⟨rep_hold t⟩
      · rename_i h
        rw [decide_eq_true rfl] at h
        cases h
      · exact ⟨_, ms7 (cut_md _) (cut_md _) (cut_md _) (cut_md _) (cut_md _)⟩
    · obtain ⟨y, rfl⟩ := hI
      exact ⟨congrArg (fun z => some (Sk.l, z)) eE.symm, hQ⟩
theorem all_mk {w : World} {K : PySem.W.Frag} {h : Heap} {mg : Str → Option Value} {fa : Addr} (X : K.In h) (G : h.Ns mainGlobals mg) (hfa : mg "law" = some (.ref fa))
    {f0 : Addr} {od0 an0 : Option Addr} {sl0 : Array (Option Value)} {oc0 kV0 dc0 pm0 cd0 ct0 : Value}
    {f1 : Addr} {od1 an1 : Option Addr} {sl1 : Array (Option Value)} {oc1 kV1 dc1 pm1 cd1 ct1 : Value}
    {f2 : Addr} {od2 an2 : Option Addr} {sl2 : Array (Option Value)} {oc2 kV2 dc2 pm2 cd2 ct2 : Value}
    {f3 : Addr} {od3 an3 : Option Addr} {sl3 : Array (Option Value)} {oc3 kV3 dc3 pm3 cd3 ct3 : Value}
    {f4 : Addr} {od4 an4 : Option Addr} {sl4 : Array (Option Value)} {oc4 kV4 dc4 pm4 cd4 ct4 : Value}
    {f5 : Addr} {od5 an5 : Option Addr} {sl5 : Array (Option Value)} {oc5 kV5 dc5 pm5 cd5 ct5 : Value}
    {f6 : Addr} {od6 an6 : Option Addr} {sl6 : Array (Option Value)} {oc6 kV6 dc6 pm6 cd6 ct6 : Value}
    {f7 : Addr} {od7 an7 : Option Addr} {sl7 : Array (Option Value)} {oc7 kV7 dc7 pm7 cd7 ct7 : Value}
    {f8 : Addr} {od8 an8 : Option Addr} {sl8 : Array (Option Value)} {oc8 kV8 dc8 pm8 cd8 ct8 : Value}
    {t_LONGEST_NAME : Tok}
    {t_MOST_FIGURES : Tok}
    {t_LETTERS : Tok}
    {t_FIGURES : Tok}
    {a_KEPT_WORDS : Addr} {t0_KEPT_WORDS t1_KEPT_WORDS t2_KEPT_WORDS t3_KEPT_WORDS t4_KEPT_WORDS t5_KEPT_WORDS t6_KEPT_WORDS t7_KEPT_WORDS t8_KEPT_WORDS t9_KEPT_WORDS t10_KEPT_WORDS t11_KEPT_WORDS t12_KEPT_WORDS : Tok} {od_KEPT_WORDS : Option Addr} {n_KEPT_WORDS : Nat} {sl_KEPT_WORDS : Array (Option Value)}
    (a0 : PySem.W.nsIn K mainGlobals "is_name" = some (some (.ref f0))) (l0 : K.lookup f0 = some ⟨oc0, od0, .func (PySem.W.fnOf "is_name" "is_name" (defArgs s_is_name) (defBody s_is_name) (defScope s_is_name) .none kV0 dc0 pm0 an0 cd0 ct0), sl0⟩) (c0 : PySem.W.codeIn K cd0 "is_name" = true) (k0 : PySem.W.keepIn K (.ref f0) = true)
    (a1 : PySem.W.nsIn K mainGlobals "number_of" = some (some (.ref f1))) (l1 : K.lookup f1 = some ⟨oc1, od1, .func (PySem.W.fnOf "number_of" "number_of" (defArgs s_number_of) (defBody s_number_of) (defScope s_number_of) .none kV1 dc1 pm1 an1 cd1 ct1), sl1⟩) (c1 : PySem.W.codeIn K cd1 "number_of" = true) (k1 : PySem.W.keepIn K (.ref f1) = true)
    (a2 : PySem.W.nsIn K mainGlobals "_law_deal" = some (some (.ref f2))) (l2 : K.lookup f2 = some ⟨oc2, od2, .func (PySem.W.fnOf "_law_deal" "_law_deal" (defArgs s__law_deal) (defBody s__law_deal) (defScope s__law_deal) .none kV2 dc2 pm2 an2 cd2 ct2), sl2⟩) (c2 : PySem.W.codeIn K cd2 "_law_deal" = true) (k2 : PySem.W.keepIn K (.ref f2) = true)
    (a3 : PySem.W.nsIn K mainGlobals "_law_draw" = some (some (.ref f3))) (l3 : K.lookup f3 = some ⟨oc3, od3, .func (PySem.W.fnOf "_law_draw" "_law_draw" (defArgs s__law_draw) (defBody s__law_draw) (defScope s__law_draw) .none kV3 dc3 pm3 an3 cd3 ct3), sl3⟩) (c3 : PySem.W.codeIn K cd3 "_law_draw" = true) (k3 : PySem.W.keepIn K (.ref f3) = true)
    (a4 : PySem.W.nsIn K mainGlobals "_law_name" = some (some (.ref f4))) (l4 : K.lookup f4 = some ⟨oc4, od4, .func (PySem.W.fnOf "_law_name" "_law_name" (defArgs s__law_name) (defBody s__law_name) (defScope s__law_name) .none kV4 dc4 pm4 an4 cd4 ct4), sl4⟩) (c4 : PySem.W.codeIn K cd4 "_law_name" = true) (k4 : PySem.W.keepIn K (.ref f4) = true)
    (a5 : PySem.W.nsIn K mainGlobals "_law_text" = some (some (.ref f5))) (l5 : K.lookup f5 = some ⟨oc5, od5, .func (PySem.W.fnOf "_law_text" "_law_text" (defArgs s__law_text) (defBody s__law_text) (defScope s__law_text) .none kV5 dc5 pm5 an5 cd5 ct5), sl5⟩) (c5 : PySem.W.codeIn K cd5 "_law_text" = true) (k5 : PySem.W.keepIn K (.ref f5) = true)
    (a6 : PySem.W.nsIn K mainGlobals "_law_name_due" = some (some (.ref f6))) (l6 : K.lookup f6 = some ⟨oc6, od6, .func (PySem.W.fnOf "_law_name_due" "_law_name_due" (defArgs s__law_name_due) (defBody s__law_name_due) (defScope s__law_name_due) .none kV6 dc6 pm6 an6 cd6 ct6), sl6⟩) (c6 : PySem.W.codeIn K cd6 "_law_name_due" = true) (k6 : PySem.W.keepIn K (.ref f6) = true)
    (a7 : PySem.W.nsIn K mainGlobals "_law_number_due" = some (some (.ref f7))) (l7 : K.lookup f7 = some ⟨oc7, od7, .func (PySem.W.fnOf "_law_number_due" "_law_number_due" (defArgs s__law_number_due) (defBody s__law_number_due) (defScope s__law_number_due) .none kV7 dc7 pm7 an7 cd7 ct7), sl7⟩) (c7 : PySem.W.codeIn K cd7 "_law_number_due" = true) (k7 : PySem.W.keepIn K (.ref f7) = true)
    (a8 : PySem.W.nsIn K mainGlobals "law" = some (some (.ref f8))) (l8 : K.lookup f8 = some ⟨oc8, od8, .func (PySem.W.fnOf "law" "law" (defArgs s_law) (defBody s_law) (defScope s_law) .none kV8 dc8 pm8 an8 cd8 ct8), sl8⟩) (c8 : PySem.W.codeIn K cd8 "law" = true) (k8 : PySem.W.keepIn K (.ref f8) = true)
    (z_all : PySem.W.nsIn K mainGlobals "all" = some none)
    (z_int : PySem.W.nsIn K mainGlobals "int" = some none)
    (z_len : PySem.W.nsIn K mainGlobals "len" = some none)
    (z_list : PySem.W.nsIn K mainGlobals "list" = some none)
    (z_max : PySem.W.nsIn K mainGlobals "max" = some none)
    (z_min : PySem.W.nsIn K mainGlobals "min" = some none)
    (z_range : PySem.W.nsIn K mainGlobals "range" = some none)
    (z_repr : PySem.W.nsIn K mainGlobals "repr" = some none)
    (z_reversed : PySem.W.nsIn K mainGlobals "reversed" = some none)
    (z_str : PySem.W.nsIn K mainGlobals "str" = some none)
    (g_LONGEST_NAME : PySem.W.nsIn K mainGlobals "LONGEST_NAME" = some (some (.int 8 t_LONGEST_NAME)))
    (g_MOST_FIGURES : PySem.W.nsIn K mainGlobals "MOST_FIGURES" = some (some (.int 9 t_MOST_FIGURES)))
    (g_KEPT_WORDS : PySem.W.nsIn K mainGlobals "KEPT_WORDS" = some (some (.ref a_KEPT_WORDS))) (h_KEPT_WORDS : K.lookup a_KEPT_WORDS = some ⟨.type "tuple", od_KEPT_WORDS, .seq #[.str "shape" t0_KEPT_WORDS, .str "bead" t1_KEPT_WORDS, .str "more" t2_KEPT_WORDS, .str "last" t3_KEPT_WORDS, .str "def" t4_KEPT_WORDS, .str "case" t5_KEPT_WORDS, .str "to" t6_KEPT_WORDS, .str "num" t7_KEPT_WORDS, .str "if" t8_KEPT_WORDS, .str "let" t9_KEPT_WORDS, .str "in" t10_KEPT_WORDS, .str "line" t11_KEPT_WORDS, .str "out" t12_KEPT_WORDS] n_KEPT_WORDS, sl_KEPT_WORDS⟩)
    (g_LETTERS : PySem.W.nsIn K mainGlobals "LETTERS" = some (some (.str "abcdefghijklmnopqrstuvwxyz" t_LETTERS)))
    (g_FIGURES : PySem.W.nsIn K mainGlobals "FIGURES" = some (some (.str "0123456789" t_FIGURES)))
    : ∃ fd : FuncData, (∀ (s : Shared) (v : Value), BindsTo s fd ⟨[v], []⟩ [("_law_script", v)]) ∧ ∀ base : Heap, K.In base → base.Ns mainGlobals mg → FnG PySem.Challenge.rw_nomiddle_k02_names_and_numbers.prog w K mg base 4 fa fd ["_law_script"] (spD K cLaw) := by
  have e := hfa.symm.trans (PySem.W.mg_of X G a8)
  cases e
  have F0 := fun_mk (st := s_is_name) l0 c0 k0
  have b0 := F0.binds (ps := ["text"]) fun _ _ _ _ _ _ us hl => match us, hl with | [_], _ => rfl
  have F1 := fun_mk (st := s_number_of) l1 c1 k1
  have b1 := F1.binds (ps := ["text"]) fun _ _ _ _ _ _ us hl => match us, hl with | [_], _ => rfl
  have F2 := fun_mk (st := s__law_deal) l2 c2 k2
  have b2 := F2.binds (ps := ["_law_script", "_law_base"]) fun _ _ _ _ _ _ us hl => match us, hl with | [_, _], _ => rfl
  have F3 := fun_mk (st := s__law_draw) l3 c3 k3
  have b3 := F3.binds (ps := ["_law_deal_here", "_law_many"]) fun _ _ _ _ _ _ us hl => match us, hl with | [_, _], _ => rfl
  have F4 := fun_mk (st := s__law_name) l4 c4 k4
  have b4 := F4.binds (ps := ["_law_deal_here"]) fun _ _ _ _ _ _ us hl => match us, hl with | [_], _ => rfl
  have F5 := fun_mk (st := s__law_text) l5 c5 k5
  have b5 := F5.binds (ps := ["_law_deal_here"]) fun _ _ _ _ _ _ us hl => match us, hl with | [_], _ => rfl
  have F6 := fun_mk (st := s__law_name_due) l6 c6 k6
  have b6 := F6.binds (ps := ["_law_text_here"]) fun _ _ _ _ _ _ us hl => match us, hl with | [_], _ => rfl
  have F7 := fun_mk (st := s__law_number_due) l7 c7 k7
  have b7 := F7.binds (ps := ["_law_text_here"]) fun _ _ _ _ _ _ us hl => match us, hl with | [_], _ => rfl
  have F8 := fun_mk (st := s_law) l8 c8 k8
  have b8 := F8.binds (ps := ["_law_script"]) fun _ _ _ _ _ _ us hl => match us, hl with | [_], _ => rfl
  let T : Tx K mg := { z_all := PySem.W.mg_none_of X G z_all, z_int := PySem.W.mg_none_of X G z_int, z_len := PySem.W.mg_none_of X G z_len, z_list := PySem.W.mg_none_of X G z_list, z_max := PySem.W.mg_none_of X G z_max, z_min := PySem.W.mg_none_of X G z_min, z_range := PySem.W.mg_none_of X G z_range, z_repr := PySem.W.mg_none_of X G z_repr, z_reversed := PySem.W.mg_none_of X G z_reversed, z_str := PySem.W.mg_none_of X G z_str, is_name_f := f0, is_name_fd := _, is_name_F := F0, is_name_g := PySem.W.mg_of X G a0, is_name_b := b0, number_of_f := f1, number_of_fd := _, number_of_F := F1, number_of_g := PySem.W.mg_of X G a1, number_of_b := b1, _law_deal_f := f2, _law_deal_fd := _, _law_deal_F := F2, _law_deal_g := PySem.W.mg_of X G a2, _law_deal_b := b2, _law_draw_f := f3, _law_draw_fd := _, _law_draw_F := F3, _law_draw_g := PySem.W.mg_of X G a3, _law_draw_b := b3, _law_name_f := f4, _law_name_fd := _, _law_name_F := F4, _law_name_g := PySem.W.mg_of X G a4, _law_name_b := b4, _law_text_f := f5, _law_text_fd := _, _law_text_F := F5, _law_text_g := PySem.W.mg_of X G a5, _law_text_b := b5, _law_name_due_f := f6, _law_name_due_fd := _, _law_name_due_F := F6, _law_name_due_g := PySem.W.mg_of X G a6, _law_name_due_b := b6, _law_number_due_f := f7, _law_number_due_fd := _, _law_number_due_F := F7, _law_number_due_g := PySem.W.mg_of X G a7, _law_number_due_b := b7, law_f := fa, law_fd := _, law_F := F8, law_g := PySem.W.mg_of X G a8, law_b := b8, LONGEST_NAME_t := t_LONGEST_NAME, LONGEST_NAME_g := PySem.W.mg_of X G g_LONGEST_NAME, MOST_FIGURES_t := t_MOST_FIGURES, MOST_FIGURES_g := PySem.W.mg_of X G g_MOST_FIGURES, LETTERS_t := t_LETTERS, LETTERS_g := PySem.W.mg_of X G g_LETTERS, FIGURES_t := t_FIGURES, FIGURES_g := PySem.W.mg_of X G g_FIGURES, KEPT_WORDS_a := a_KEPT_WORDS, KEPT_WORDS_g := PySem.W.mg_of X G g_KEPT_WORDS, KEPT_WORDS_r := fun H => Sy.sqT_K h_KEPT_WORDS rfl (.cons ⟨_, rfl⟩ (.cons ⟨_, rfl⟩ (.cons ⟨_, rfl⟩ (.cons ⟨_, rfl⟩ (.cons ⟨_, rfl⟩ (.cons ⟨_, rfl⟩ (.cons ⟨_, rfl⟩ (.cons ⟨_, rfl⟩ (.cons ⟨_, rfl⟩ (.cons ⟨_, rfl⟩ (.cons ⟨_, rfl⟩ (.cons ⟨_, rfl⟩ (.cons ⟨_, rfl⟩ (.nil)))))))))))))) }
  refine ⟨PySem.W.fnOf "law" "law" (defArgs s_law) (defBody s_law) (defScope s_law) .none kV8 dc8 pm8 an8 cd8 ct8, fun s v => .of_eq rfl, fun base _ _ => ?_⟩
  have G__law_deal := ok_deal (P := PySem.Challenge.rw_nomiddle_k02_names_and_numbers.prog) (w := w) (base := base) T
  have G__law_draw := ok_draw (P := PySem.Challenge.rw_nomiddle_k02_names_and_numbers.prog) (w := w) (base := base) T
  have G__law_name := ok_name (P := PySem.Challenge.rw_nomiddle_k02_names_and_numbers.prog) (w := w) (base := base) T G__law_draw
  have G__law_text := ok_text (P := PySem.Challenge.rw_nomiddle_k02_names_and_numbers.prog) (w := w) (base := base) T G__law_draw G__law_name
  have G_is_name := ok_isname (P := PySem.Challenge.rw_nomiddle_k02_names_and_numbers.prog) (w := w) (base := base) T
  have G_number_of := ok_numof (P := PySem.Challenge.rw_nomiddle_k02_names_and_numbers.prog) (w := w) (base := base) T
  have G__law_name_due := ok_namedue (P := PySem.Challenge.rw_nomiddle_k02_names_and_numbers.prog) (w := w) (base := base) T
  have G__law_number_due := ok_numdue (P := PySem.Challenge.rw_nomiddle_k02_names_and_numbers.prog) (w := w) (base := base) T
  have G_law := ok_law (P := PySem.Challenge.rw_nomiddle_k02_names_and_numbers.prog) (w := w) (base := base) T G__law_deal G__law_draw G__law_text G_is_name G_number_of G__law_name_due G__law_number_due
  exact G_law
end
end K02
open PySem PySem.W PyProof.Rows in
set_option maxHeartbeats 0 in
theorem PySem.Challenge.cw_nomiddle_k02_names_and_numbers_holds : PySem.Challenge.rw_nomiddle_k02_names_and_numbers.Holds := by
  w_on; o_law; k_head; (case hw => w_witness2)
  k_fill
  refine Sy.walk_ofG (l := PySem.Challenge.rw_nomiddle_k02_names_and_numbers) (n := 63) (k := 4) (x := "_law_script") (sp := fun w => Sy.spD _ Sy.cLaw) rfl (by decide) rfl ⟨rfl, by decide, by decide⟩ (fun w h Y => PySem.W.kIn_of Y) ?F (fun _ _ a ns hl hS => Sy.law_in hl hS (fun _ => rfl))
  case F =>
    intro w mg fa h KX G hmg
    refine' K02.all_mk KX G hmg ?a0 ?l0 ?c0 ?k0 ?a1 ?l1 ?c1 ?k1 ?a2 ?l2 ?c2 ?k2 ?a3 ?l3 ?c3 ?k3 ?a4 ?l4 ?c4 ?k4 ?a5 ?l5 ?c5 ?k5 ?a6 ?l6 ?c6 ?k6 ?a7 ?l7 ?c7 ?k7 ?a8 ?l8 ?c8 ?k8 ?z_all ?z_int ?z_len ?z_list ?z_max ?z_min ?z_range ?z_repr ?z_reversed ?z_str ?g_LONGEST_NAME ?g_MOST_FIGURES ?g_KEPT_WORDS ?h_KEPT_WORDS ?g_LETTERS ?g_FIGURES
    (case a0 => k_is)
    (case l0 => k_is)
    (case c0 => k_is)
    (case k0 => k_is)
    (case a1 => k_is)
    (case l1 => k_is)
    (case c1 => k_is)
    (case k1 => k_is)
    (case a2 => k_is)
    (case l2 => k_is)
    (case c2 => k_is)
    (case k2 => k_is)
    (case a3 => k_is)
    (case l3 => k_is)
    (case c3 => k_is)
    (case k3 => k_is)
    (case a4 => k_is)
    (case l4 => k_is)
    (case c4 => k_is)
    (case k4 => k_is)
    (case a5 => k_is)
    (case l5 => k_is)
    (case c5 => k_is)
    (case k5 => k_is)
    (case a6 => k_is)
    (case l6 => k_is)
    (case c6 => k_is)
    (case k6 => k_is)
    (case a7 => k_is)
    (case l7 => k_is)
    (case c7 => k_is)
    (case k7 => k_is)
    (case a8 => k_is)
    (case l8 => k_is)
    (case c8 => k_is)
    (case k8 => k_is)
    (case z_all => k_is)
    (case z_int => k_is)
    (case z_len => k_is)
    (case z_list => k_is)
    (case z_max => k_is)
    (case z_min => k_is)
    (case z_range => k_is)
    (case z_repr => k_is)
    (case z_reversed => k_is)
    (case z_str => k_is)
    (case g_LONGEST_NAME => k_is)
    (case g_MOST_FIGURES => k_is)
    (case g_KEPT_WORDS => k_is)
    (case h_KEPT_WORDS => k_is)
    (case g_LETTERS => k_is)
    (case g_FIGURES => k_is)
