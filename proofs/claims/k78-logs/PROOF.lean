import PyProof.Rows.All
import Wide.All
import OpenK.AllK
import Wide.FinOn
import KE.KStateDown
import HandS.ForMost
import HandS.Exc
import HandS.TryOnly
import HandS.ExcOwn
import HandS.WordsExc
import HandS.CallSlots
import HandS.TryMany
import HandS.ExcInit
import HandS.Defaults
import HandS.DictComp
import HandS.Style
import HandS.IsInst
import HandS.Flow
import HandS.Conv
import HandS.Head0
import HandS.Head1
import HandS.Head2
import HandS.HeadEnd
import HandS.HeadHook1
import HandS.HeadHook2
import HandS.TupAny
import HandS.TupMul
import HandS.TupLe
import HandS.Wide
import HandS.Zip
import HandS.Iter
import HandS.Comp
import HandS.More
import HandS.SortInts
import PyProof.TupleOfStr
import PyProof.Rows.StrMeet
import HandS.RaiseMore
import HandS.Small
import HandS.ExcField
import HandS.HeadHook3
import HandS.HeadHook4
import HandS.Codes
import PySem.Challenge.RW_sentandheard_k78_logs_of_live_houses
import HandS.Ends
set_option Elab.async false
set_option linter.all false
set_option maxRecDepth 100000
namespace Y
open PySem PySem.Spec L2

/-! ### values, objects, results -/
/-- a value: tuples by what they hold, objects that change by their number; rol: a list that is never changed -/
inductive D where
  | non | bl (b : Bool) | int (i : Int) | str (s : Str) | tup (l : List D) | obj (i : Nat) | rol (l : List D)
/-- an object that changes; lck: a dict that is being walked -/
inductive Ob where
  | lst (xs : List D) | dic (kvs : List (Key × D)) | ins (C : Str) (fs : List (Str × D)) | lck
abbrev AH := List Ob
abbrev En := List (Option D)
/-- an exception: its class, its own fields (none: a class without an __init__ of its own) -/
structure Xn where
  cls : Str
  fs : Option (List (Str × D))
inductive Rs (α : Type) where
  | ok (a : α) (S : AH) | ex (e : Xn) (S : AH) | bad
def Rs.bind {α β : Type} (r : Rs α) (k : α → AH → Rs β) : Rs β := match r with
  | .ok a S => k a S
  | .ex e S => .ex e S
  | .bad => .bad

/-! ### what stands for what -/
section
variable (K : PySem.W.Frag)
def RoL (H : Hp) (a : Addr) (xs : List V) : Prop := (∃ o, H a = some (.frz o (.lst xs))) ∨
    ∃ (o : Obj) (its : Array Value) (n : Nat), K.lookup a = some o ∧ o.cls = .type "list" ∧ o.dict = none ∧ o.data = .seq its n ∧ its.size ≤ sizeLine ∧ Vals xs its.toList
theorem RoL.sql {H a xs} (h : RoL K H a xs) : SqL K H a xs := h.elim (fun ⟨o, e⟩ => .inl (.inr ⟨o, e⟩)) .inr
mutual
inductive RD : List Addr → Hp → D → V → Prop
  | non {ρ H} : RD ρ H .non .non
  | bl {ρ H b} : RD ρ H (.bl b) (.bl b)
  | int {ρ H i} : RD ρ H (.int i) (.int i)
  | str {ρ H s} : RD ρ H (.str s) (.str s)
  | tup {ρ H a xs ds} : SqT K H a xs → RDs ρ H ds xs → RD ρ H (.tup ds) (.ref a)
  | obj {ρ H i a} : ρ[i]? = some a → RD ρ H (.obj i) (.ref a)
  | rol {ρ H a xs ds} : RoL K H a xs → RDs ρ H ds xs → RD ρ H (.rol ds) (.ref a)
inductive RDs : List Addr → Hp → List D → List V → Prop
  | nil {ρ H} : RDs ρ H [] []
  | cons {ρ H d v ds vs} : RD ρ H d v → RDs ρ H ds vs → RDs ρ H (d :: ds) (v :: vs)
end
def RO (ρ : List Addr) (H : Hp) (a : Addr) : Ob → Prop
  | .lst ds => ∃ xs, H a = some (.lst xs) ∧ RDs K ρ H ds xs
  | .dic kvs => ∃ ys, H a = some (.dK ys) ∧ ys.map (·.1) = kvs.map (·.1) ∧ RDs K ρ H (kvs.map (·.2)) (ys.map (·.2))
  | .ins C fs => ∃ dx ys, H a = some (.ins (He.ga K C) dx ys) ∧ ys.map (·.1) = fs.map (·.1) ∧ RDs K ρ H (fs.map (·.2)) (ys.map (·.2))
  | .lck => ∃ o kvs, H a = some (.frz o (.dK kvs))
/-- the abstract state stands for the heap -/
structure R (ρ : List Addr) (S : AH) (H : Hp) : Prop where
  len : ρ.length = S.length
  nd : ρ.Nodup
  at_ : ∀ (i : Nat) (a : Addr) (o : Ob), ρ[i]? = some a → S[i]? = some o → RO K ρ H a o
/-- what goes on: objects keep their numbers, tuples stay -/
structure Le (ρ : List Addr) (H : Hp) (ρ' : List Addr) (H' : Hp) : Prop where
  pre : ρ <+: ρ'
  tup : ∀ a xs, SqT K H a xs → SqT K H' a xs
  rol : ∀ a xs, RoL K H a xs → RoL K H' a xs
  frz : ∀ a o kvs, H a = some (.frz o (.dK kvs)) → H' a = some (.frz o (.dK kvs))
  xd : ∀ a ys, H a = some (.xd ys) → H' a = some (.xd ys)
theorem Le.refl {ρ H} : Le K ρ H ρ H := ⟨List.prefix_refl _, fun _ _ h => h, fun _ _ h => h, fun _ _ _ h => h, fun _ _ h => h⟩
theorem Le.trans {ρ H ρ1 H1 ρ2 H2} (a : Le K ρ H ρ1 H1) (b : Le K ρ1 H1 ρ2 H2) : Le K ρ H ρ2 H2 := ⟨a.pre.trans b.pre, fun p xs h => b.tup p xs (a.tup p xs h), fun p xs h => b.rol p xs (a.rol p xs h), fun p o kvs h => b.frz p o kvs (a.frz p o kvs h), fun p ys h => b.xd p ys (a.xd p ys h)⟩
theorem pre_get {ρ ρ' : List Addr} (p : ρ <+: ρ') {i : Nat} {a : Addr} (h : ρ[i]? = some a) : ρ'[i]? = some a := by
  obtain ⟨t, rfl⟩ := p
  rw [List.getElem?_append_left]
  · exact h
  · exact (List.getElem?_eq_some_iff.mp h).1
mutual
theorem RD.mono {ρ H ρ' H'} (l : Le K ρ H ρ' H') : ∀ {d v}, RD K ρ H d v → RD K ρ' H' d v
  | _, _, .non => .non
  | _, _, .bl => .bl
  | _, _, .int => .int
  | _, _, .str => .str
  | _, _, .tup h r => .tup (l.tup _ _ h) (RDs.mono l r)
  | _, _, .obj h => .obj (pre_get l.pre h)
  | _, _, .rol h r => .rol (l.rol _ _ h) (RDs.mono l r)
theorem RDs.mono {ρ H ρ' H'} (l : Le K ρ H ρ' H') : ∀ {d v}, RDs K ρ H d v → RDs K ρ' H' d v
  | _, _, .nil => .nil
  | _, _, .cons h r => .cons (RD.mono l h) (RDs.mono l r)
end
/-- slots -/
def RE (ρ : List Addr) (H : Hp) (env : En) (σ : St) : Prop := env.length = σ.length ∧ ∀ (i : Nat) (d : D), env[i]? = some (some d) → ∃ v : V, σ[i]? = some (some v) ∧ RD K ρ H d v
theorem RE.mono {ρ H ρ' H' env σ} (l : Le K ρ H ρ' H') (h : RE K ρ H env σ) : RE K ρ' H' env σ := ⟨h.1, fun i d e => let ⟨v, e2, r⟩ := h.2 i d e; ⟨v, e2, r.mono K l⟩⟩
theorem RE.set {ρ H env σ i d v} (h : RE K ρ H env σ) (r : RD K ρ H d v) : RE K ρ H (env.set i (some d)) (σ.set i (some v)) := by
  refine ⟨by simpa using h.1, fun j e q => ?_⟩
  by_cases hj : i = j
  · subst hj
    have hl : i < env.length := by
      have := (List.getElem?_eq_some_iff.mp q).1
      simpa using this
    rw [List.getElem?_set_self hl] at q
    cases q
    exact ⟨v, List.getElem?_set_self (by rw [← h.1]; exact hl), r⟩
  · rw [List.getElem?_set_ne hj] at q
    obtain ⟨w, e2, r2⟩ := h.2 j e q
    exact ⟨w, by rw [List.getElem?_set_ne hj]; exact e2, r2⟩
/-- an exception -/
def RX (ρ : List Addr) (H : Hp) (e : Xn) (c : Value) (d : Option Addr) : Prop := c = .ref (He.ga K e.cls) ∧ match e.fs with
  | none => d = none
  | some fs => ∃ a ys, d = some a ∧ H a = some (.xd ys) ∧ ys.map (·.1) = fs.map (·.1) ∧ RDs K ρ H (fs.map (·.2)) (ys.map (·.2))

/-! ### readings -/
abbrev Ev := En → AH → Rs D
abbrev Et := En → AH → Rs Bool
abbrev Ea := En → AH → Rs (List D)
inductive Fl where
  | nx (e : En) | rt (d : D) | bk (e : En) | ct (e : En) | xn (x : Xn) (e : En)
abbrev Es := En → AH → Rs Fl
variable (W : WX)
/-- what is asked of a result, from ρ, σ, H on -/
def Aft {α : Type} (ρ : List Addr) (σ : St) (H : Hp) (r : Rs α) (post : α → List Addr → AH → Hp → Prop) : Prop := match r with
  | .ok a S' => ∀ ρ' H', Le K ρ H ρ' H' → R K ρ' S' H' → post a ρ' S' H'
  | .ex e S' => ∀ ρ' H' c d, Le K ρ H ρ' H' → R K ρ' S' H' → RX K ρ' H' e c d → W c d σ H'
  | .bad => False
end
section
variable {K : PySem.W.Frag} {W : WX}
theorem Aft.ok {α : Type} {ρ σ H} {a : α} {S'} {post : α → List Addr → AH → Hp → Prop} {ρ' H'} (h : Aft K W ρ σ H (.ok a S') post) (l : Le K ρ H ρ' H') (r : R K ρ' S' H') : post a ρ' S' H' := h ρ' H' l r
theorem Aft.from {α : Type} {ρ σ H ρ1 H1} {r : Rs α} {post : α → List Addr → AH → Hp → Prop} (h : Aft K W ρ σ H r post) (l : Le K ρ H ρ1 H1) : Aft K W ρ1 σ H1 r post := by
  cases r with
  | ok a S' => exact fun ρ' H' l' r' => h ρ' H' (l.trans _ l') r'
  | ex e S' => exact fun ρ' H' c d l' r' x => h ρ' H' c d (l.trans _ l') r' x
  | bad => exact h
theorem Aft.imp {α : Type} {ρ σ H} {r : Rs α} {post post' : α → List Addr → AH → Hp → Prop} (h : Aft K W ρ σ H r post) (f : ∀ a ρ' S' H', Le K ρ H ρ' H' → R K ρ' S' H' → post a ρ' S' H' → post' a ρ' S' H') : Aft K W ρ σ H r post' := by
  cases r with
  | ok a S' => exact fun ρ' H' l' r' => f _ _ _ _ l' r' (h ρ' H' l' r')
  | ex e S' => exact h
  | bad => exact h
/-- one thing behind another -/
theorem Aft.bind {α β : Type} {ρ σ H} {r : Rs α} {k : α → AH → Rs β} {post : β → List Addr → AH → Hp → Prop} (h : Aft K W ρ σ H (r.bind k) post) :
    Aft K W ρ σ H r (fun a ρ' S' H' => Aft K W ρ' σ H' (k a S') post) := by
  cases r with
  | ok a S' => exact fun ρ' H' l' r' => Aft.from h l'
  | ex e S' => exact h
  | bad => exact h
end
section
variable (K : PySem.W.Frag) (W : WX)
def rd (f : Ev) : TE := fun σ H Q => ∃ ρ env S, R K ρ S H ∧ RE K ρ H env σ ∧ Aft K W ρ σ H (f env S) fun d ρ' S' H' => ∀ v, RD K ρ' H' d v → Q v H'
def rdT (f : Et) : TT := fun σ H Q => ∃ ρ env S, R K ρ S H ∧ RE K ρ H env σ ∧ Aft K W ρ σ H (f env S) fun b ρ' S' H' => Q b H'
def rdA (f : Ea) : TA := fun σ H Q => ∃ ρ env S, R K ρ S H ∧ RE K ρ H env σ ∧ Aft K W ρ σ H (f env S) fun ds ρ' S' H' => ∀ vs, RDs K ρ' H' ds vs → Q vs H'
def postS (D : Ends) (fl : Fl) (ρ' : List Addr) (S' : AH) (H' : Hp) : Prop := match fl with
  | .nx env => ∀ σ', RE K ρ' H' env σ' → D.nx σ' H'
  | .rt d => ∀ v, RD K ρ' H' d v → D.rt v H'
  | .bk env => ∀ σ', RE K ρ' H' env σ' → D.bk σ' H'
  | .ct env => ∀ σ', RE K ρ' H' env σ' → D.ct σ' H'
  | .xn e env => ∀ σ' c d, RE K ρ' H' env σ' → RX K ρ' H' e c d → W c d σ' H'
def rdS (f : Es) : TS := fun D σ H => ∃ ρ env S, R K ρ S H ∧ RE K ρ H env σ ∧ Aft K (fun _ _ _ _ => False) ρ σ H (f env S) (postS K W D)
end
end Y

set_option Elab.async false
set_option linter.all false
set_option maxRecDepth 100000
namespace Y
open PySem PySem.Spec L2

/-! ### the judgements -/
section
variable (X : Cx) (W : WX)
def FE (e : Expr) (f : Ev) : Prop := PE X e (rd X.K W f)
def FT (e : Expr) (f : Et) : Prop := PT X e (rdT X.K W f)
def FW (e : Expr) (f : Et) : Prop := PW X e (rdT X.K W f)
def FA (es : List Expr) (f : Ea) : Prop := PA X es (rdA X.K W f)
def FS (st : Stmt) (f : Es) : Prop := PS X st (rdS X.K W f)
def FSs (st : List Stmt) (f : Es) : Prop := PSs X st (rdS X.K W f)
end
section
variable {X : Cx} {W : WX} {e a b c : Expr} {es : List Expr} {f g h : Ev} {pos : Pos} {ft gt : Et} {fa : Ea}
theorem fe_of {t : TE} (hp : PE X e t) (i : ∀ σ H Q, rd X.K W f σ H Q → t σ H Q) : FE X W e f := ⟨fun pins s σ H Q I h => hp.run pins s σ H Q I (i σ H Q h)⟩
theorem ft_of {t : TT} (hp : PT X e t) (i : ∀ σ H Q, rdT X.K W ft σ H Q → t σ H Q) : FT X W e ft := ⟨fun pins s σ H Q I h => hp.run pins s σ H Q I (i σ H Q h)⟩
theorem fw_of {t : TT} (hp : PW X e t) (i : ∀ σ H Q, rdT X.K W ft σ H Q → t σ H Q) : FW X W e ft := ⟨fun wh pins s σ H Q I h => hp.run wh pins s σ H Q I (i σ H Q h)⟩
theorem fa_of {t : TA} (hp : PA X es t) (i : ∀ σ H Q, rdA X.K W fa σ H Q → t σ H Q) : FA X W es fa := ⟨fun p pins s σ H Q I h => hp.run p pins s σ H Q I (i σ H Q h)⟩
theorem fs_of {st : Stmt} {fs : Es} {t : TS} (hp : PS X st t) (i : ∀ D σ H, rdS X.K W fs D σ H → t D σ H) : FS X W st fs := ⟨fun pins s σ H D I h => hp.run pins s σ H D I (i D σ H h)⟩
theorem fss_of {st : List Stmt} {fs : Es} {t : TS} (hp : PSs X st t) (i : ∀ D σ H, rdS X.K W fs D σ H → t D σ H) : FSs X W st fs := ⟨fun pins s σ H D I h => hp.run pins s σ H D I (i D σ H h)⟩

/-! ### names, constants -/
def eVar (i : Nat) : Ev := fun env S => match env[i]? with
  | some (some d) => .ok d S
  | _ => .bad
def eC (d : D) : Ev := fun _ S => .ok d S
theorem fe_var (i : Nat) {x : Str} (hN : X.N[i]? = some x := by rfl) (hv : Vis X.env.scope x := by first | exact Or.inl rfl | exact Or.inr (Or.inl rfl) | exact Or.inr (Or.inr rfl)) (hd : (x == ("__debug__" : Str)) = false := by decide)
    (hcd : (x == ("__classdict__" : Str)) = false := by decide) : FE X W (.Name x pos) (eVar i) := fe_of (pe_var hN hv hd hcd) fun σ H Q => by
  rintro ⟨ρ, env, S, hR, hE, q⟩
  cases q1 : env[i]? with
  | none => simp only [eVar, q1] at q; exact q.elim
  | some o => cases o with
    | none => simp only [eVar, q1] at q; exact q.elim
    | some d =>
      simp only [eVar, q1] at q
      obtain ⟨v, e2, r⟩ := hE.2 i d q1
      exact ⟨v, e2, q.ok (Le.refl _) hR v r⟩
theorem const_rd {d : D} {v : V} (hv : ∀ ρ H, RD X.K ρ H d v) : ∀ σ H Q, rd X.K W (eC d) σ H Q → tC v σ H Q := fun σ H Q ⟨ρ, env, S, hR, hE, q⟩ => q.ok (Le.refl _) hR v (hv ρ H)
theorem fe_int {i j} : FE X W (.Constant (.int i) j pos) (eC (.int i)) := fe_of pe_int (const_rd fun _ _ => .int)
theorem fe_bl {i j} : FE X W (.Constant (.bool i) j pos) (eC (.bl i)) := fe_of pe_bl (const_rd fun _ _ => .bl)
theorem fe_non {j} : FE X W (.Constant .none j pos) (eC .non) := fe_of pe_non (const_rd fun _ _ => .non)
theorem fe_str {i j} : FE X W (.Constant (.str i) j pos) (eC (.str i)) := fe_of pe_str (const_rd fun _ _ => .str)
/-- a constant of the module -/
theorem fe_glob {x : Str} {d : D} {v : V} {u : Value} (hg : Gl X x) (hm : X.mg x = some u) (r : RelV v u) (hv : ∀ ρ H, RD X.K ρ H d v) (hd : (x == ("__debug__" : Str)) = false := by decide) : FE X W (.Name x pos) (eC d) := fe_of (pe_glob hg hm r hd) (const_rd hv)

/-! ### operators -/
abbrev Op1 := D → AH → Option (D × AH)
abbrev Op2 := D → D → AH → Option (D × AH)
def lf {α : Type} (o : Option (α × AH)) : Rs α := match o with
  | some (a, S) => .ok a S
  | none => .bad
section
variable (K : PySem.W.Frag)
def rdO (h : Op2) : R2 := fun x y H Q => ∃ ρ S d e d' S', R K ρ S H ∧ RD K ρ H d x ∧ RD K ρ H e y ∧ h d e S = some (d', S') ∧ ∀ ρ' H' v, Le K ρ H ρ' H' → R K ρ' S' H' → RD K ρ' H' d' v → Q v H'
def rdU (h : Op1) : V → Hp → VK → Prop := fun x H Q => ∃ ρ S d d' S', R K ρ S H ∧ RD K ρ H d x ∧ h d S = some (d', S') ∧ ∀ ρ' H' v, Le K ρ H ρ' H' → R K ρ' S' H' → RD K ρ' H' d' v → Q v H'
end
theorem opr_of {fv : Value → Value → Sem Value} {r r' : R2} (hp : OpR X fv r) (i : ∀ x y H Q, r' x y H Q → r x y H Q) : OpR X fv r' := fun pins s σ H x y v u Q I rx ry h => hp pins s σ H x y v u Q I rx ry (i x y H Q h)
theorem opr_or {fv : Value → Value → Sem Value} {r r' : R2} (h : OpR X fv r) (h' : OpR X fv r') : OpR X fv (fun x y H Q => r x y H Q ∨ r' x y H Q) := fun pins s σ H x y v u Q I rx ry q => q.elim (h pins s σ H x y v u Q I rx ry) (h' pins s σ H x y v u Q I rx ry)
def e2 (h : Op2) (f g : Ev) : Ev := fun env S => (f env S).bind fun d S1 => (g env S1).bind fun e S2 => lf (h d e S2)
def e1 (h : Op1) (f : Ev) : Ev := fun env S => (f env S).bind fun d S1 => lf (h d S1)
/-- the core of a rule with two parts -/
theorem two_rd {h : Op2} : ∀ σ H Q, rd X.K W (e2 h f g) σ H Q → tOp (rdO X.K h) (rd X.K W f) (rd X.K W g) σ H Q := by
  rintro σ H Q ⟨ρ, env, S, hR, hE, q⟩
  refine ⟨ρ, env, S, hR, hE, Aft.imp (Aft.bind q) fun d ρ1 S1 H1 l1 r1 q1 v rv => ?_⟩
  refine ⟨ρ1, env, S1, r1, hE.mono _ l1, Aft.imp (Aft.bind q1) fun e ρ2 S2 H2 l2 r2 q2 u ru => ?_⟩
  cases z : h d e S2 with
  | none => rw [z] at q2; exact q2.elim
  | some p =>
    obtain ⟨d', S'⟩ := p
    rw [z] at q2
    exact ⟨ρ2, S2, d, e, d', S', r2, rv.mono _ l2, ru, z, fun ρ' H' w l r rw => q2.ok l r w rw⟩
theorem one_rd {h : Op1} : ∀ σ H Q, rd X.K W (e1 h f) σ H Q → tUn (rdU X.K h) (rd X.K W f) σ H Q := by
  rintro σ H Q ⟨ρ, env, S, hR, hE, q⟩
  refine ⟨ρ, env, S, hR, hE, Aft.imp (Aft.bind q) fun d ρ1 S1 H1 l1 r1 q1 v rv => ?_⟩
  cases z : h d S1 with
  | none => rw [z] at q1; exact q1.elim
  | some p =>
    obtain ⟨d', S'⟩ := p
    rw [z] at q1
    exact ⟨ρ1, S1, d, d', S', r1, rv, z, fun ρ' H' w l r rw => q1.ok l r w rw⟩
theorem fe_op {op : Operator} {h : Op2} (ho : OpR X (binaryOp op) (rdO X.K h)) (ha : FE X W a f) (hb : FE X W b g) : FE X W (.BinOp a op b pos) (e2 h f g) := fe_of (pe_op ho ha hb) two_rd
theorem fe_cmp {op : CmpOp} {h : Op2} (ho : OpR X (compareOp op) (rdO X.K h)) (ha : FE X W a f) (hb : FE X W b g) (hm : behindInMarks op b = false) : FE X W (.Compare a [op] [b] pos) (e2 h f g) := fe_of (pe_cmpR ho ha hb hm) two_rd
def asB (f : Ev) : Et := fun env S => (f env S).bind fun d S1 => match d with
  | .bl k => .ok k S1
  | _ => .bad
theorem asB_rd {t : TE} (i : ∀ σ H Q, rd X.K W f σ H Q → t σ H Q) : ∀ σ H Q, rdT X.K W (asB f) σ H Q → tTest t σ H Q := by
  rintro σ H Q ⟨ρ, env, S, hR, hE, q⟩
  refine i σ H _ ⟨ρ, env, S, hR, hE, Aft.imp (Aft.bind q) fun d ρ1 S1 H1 l1 r1 q1 v rv => ?_⟩
  cases rv <;> first | exact ⟨_, rfl, q1.ok (Le.refl _) r1⟩ | exact q1.elim
theorem ft_cmp {op : CmpOp} {h : Op2} (ho : OpR X (compareOp op) (rdO X.K h)) (ha : FE X W a f) (hb : FE X W b g) (hm : behindInMarks op b = false) : FT X W (.Compare a [op] [b] pos) (asB (e2 h f g)) := ft_of (pt_cmpR ho ha hb hm) (asB_rd two_rd)
theorem ft_val (h : FE X W a f) (he : ∀ whole, isTrue a X.env whole = (do let v ← whole; standAt a.pos; PySem.holding [v] (truthy v)) := by intro _; rfl) : FT X W a (asB f) := ft_of (pt_val h he) fun σ H Q q => by
  obtain ⟨ρ, env, S, hR, hE, q⟩ := q
  refine ⟨ρ, env, S, hR, hE, Aft.imp (Aft.bind q) fun d ρ1 S1 H1 l1 r1 q1 v rv => ?_⟩
  cases rv <;> first | exact ⟨_, rfl, q1.ok (Le.refl _) r1⟩ | exact q1.elim

/-! ### and, or, not, if -/
def tAnd' (f g : Et) : Et := fun env S => (f env S).bind fun k S1 => if k = true then g env S1 else .ok false S1
def tOr' (f g : Et) : Et := fun env S => (f env S).bind fun k S1 => if k = true then .ok true S1 else g env S1
def tNot' (f : Et) : Et := fun env S => (f env S).bind fun k S1 => .ok (!k) S1
theorem fw_test (h : FW X W e ft) : FT X W e ft := PW.pt h
variable {rest : List Expr}
theorem fw_and1 (ha : FT X W a ft) : FW X W (.BoolOp .And [a] pos) ft := pw_and1 ha
theorem fw_or1 (ha : FT X W a ft) : FW X W (.BoolOp .Or [a] pos) ft := pw_or1 ha
theorem fw_and (ha : FT X W a ft) (hb : FW X W (.BoolOp .And (b :: rest) pos) gt) : FW X W (.BoolOp .And (a :: b :: rest) pos) (tAnd' ft gt) := fw_of (pw_and ha hb) fun σ H Q q => by
  obtain ⟨ρ, env, S, hR, hE, q⟩ := q
  refine ⟨ρ, env, S, hR, hE, Aft.imp (Aft.bind q) fun k ρ1 S1 H1 l1 r1 q1 => ?_⟩
  cases k with
  | true => exact ⟨ρ1, env, S1, r1, hE.mono _ l1, q1⟩
  | false => exact q1.ok (Le.refl _) r1
theorem fw_or (ha : FT X W a ft) (hb : FW X W (.BoolOp .Or (b :: rest) pos) gt) : FW X W (.BoolOp .Or (a :: b :: rest) pos) (tOr' ft gt) := fw_of (pw_or ha hb) fun σ H Q q => by
  obtain ⟨ρ, env, S, hR, hE, q⟩ := q
  refine ⟨ρ, env, S, hR, hE, Aft.imp (Aft.bind q) fun k ρ1 S1 H1 l1 r1 q1 => ?_⟩
  cases k with
  | false => exact ⟨ρ1, env, S1, r1, hE.mono _ l1, q1⟩
  | true => exact q1.ok (Le.refl _) r1
theorem ft_not (ha : FT X W a ft) : FT X W (.UnaryOp .Not a pos) (tNot' ft) := ft_of (pt_not ha) fun σ H Q q => by
  obtain ⟨ρ, env, S, hR, hE, q⟩ := q
  exact ⟨ρ, env, S, hR, hE, Aft.imp (Aft.bind q) fun k ρ1 S1 H1 l1 r1 q1 => q1.ok (Le.refl _) r1⟩
/-- as values -/
def eAnd (f g : Ev) : Ev := fun env S => (f env S).bind fun d S1 => match d with
  | .bl true => g env S1
  | .bl false => .ok (.bl false) S1
  | _ => .bad
def eOr (f g : Ev) : Ev := fun env S => (f env S).bind fun d S1 => match d with
  | .bl false => g env S1
  | .bl true => .ok (.bl true) S1
  | _ => .bad
def eNot (f : Ev) : Ev := fun env S => (f env S).bind fun d S1 => match d with
  | .bl k => .ok (.bl (!k)) S1
  | _ => .bad
theorem fe_one {op} (h : FE X W a f) : FE X W (.BoolOp op [a] pos) f := pe_one h
theorem fe_and (ha : FE X W a f) (hb : FE X W (.BoolOp .And (b :: rest) pos) g) : FE X W (.BoolOp .And (a :: b :: rest) pos) (eAnd f g) := fe_of (pe_and ha hb) fun σ H Q q => by
  obtain ⟨ρ, env, S, hR, hE, q⟩ := q
  refine ⟨ρ, env, S, hR, hE, Aft.imp (Aft.bind q) fun d ρ1 S1 H1 l1 r1 q1 v rv => ?_⟩
  cases rv <;> first | exact q1.elim | skip
  rename_i k
  refine ⟨k, rfl, ?_⟩
  cases k with
  | true => exact ⟨ρ1, env, S1, r1, hE.mono _ l1, q1⟩
  | false => exact q1.ok (Le.refl _) r1 _ .bl
theorem fe_or (ha : FE X W a f) (hb : FE X W (.BoolOp .Or (b :: rest) pos) g) : FE X W (.BoolOp .Or (a :: b :: rest) pos) (eOr f g) := fe_of (pe_or ha hb) fun σ H Q q => by
  obtain ⟨ρ, env, S, hR, hE, q⟩ := q
  refine ⟨ρ, env, S, hR, hE, Aft.imp (Aft.bind q) fun d ρ1 S1 H1 l1 r1 q1 v rv => ?_⟩
  cases rv <;> first | exact q1.elim | skip
  rename_i k
  refine ⟨k, rfl, ?_⟩
  cases k with
  | false => exact ⟨ρ1, env, S1, r1, hE.mono _ l1, q1⟩
  | true => exact q1.ok (Le.refl _) r1 _ .bl
theorem fe_not (ha : FE X W a f) : FE X W (.UnaryOp .Not a pos) (eNot f) := fe_of (pe_not ha) fun σ H Q q => by
  obtain ⟨ρ, env, S, hR, hE, q⟩ := q
  refine ⟨ρ, env, S, hR, hE, Aft.imp (Aft.bind q) fun d ρ1 S1 H1 l1 r1 q1 v rv => ?_⟩
  cases rv <;> first | exact q1.elim | exact ⟨_, rfl, q1.ok (Le.refl _) r1 _ .bl⟩
def eIf (c : Et) (f g : Ev) : Ev := fun env S => (c env S).bind fun k S1 => if k = true then f env S1 else g env S1
theorem fe_if (hc : FT X W c ft) (ha : FE X W a f) (hb : FE X W b g) : FE X W (.IfExp c a b pos) (eIf ft f g) := fe_of (pe_ifExp hc ha hb) fun σ H Q q => by
  obtain ⟨ρ, env, S, hR, hE, q⟩ := q
  refine ⟨ρ, env, S, hR, hE, Aft.imp (Aft.bind q) fun k ρ1 S1 H1 l1 r1 q1 => ?_⟩
  cases k with
  | true => exact ⟨ρ1, env, S1, r1, hE.mono _ l1, q1⟩
  | false => exact ⟨ρ1, env, S1, r1, hE.mono _ l1, q1⟩

/-! ### argument lists, displays -/
def aNil : Ea := fun _ S => .ok [] S
def aCons (f : Ev) (g : Ea) : Ea := fun env S => (f env S).bind fun d S1 => (g env S1).bind fun ds S2 => .ok (d :: ds) S2
theorem fa_nil : FA X W [] aNil := fa_of pa_nil fun σ H Q q => by
  obtain ⟨ρ, env, S, hR, hE, q⟩ := q
  exact q.ok (Le.refl _) hR [] .nil
theorem fa_cons (ha : FE X W e f) (hr : FA X W es fa) (hs : starEach (e :: es) X.env = (false, eval e X.env) :: starEach es X.env := by rfl) : FA X W (e :: es) (aCons f fa) := fa_of (pa_cons ha hr hs) fun σ H Q q => by
  obtain ⟨ρ, env, S, hR, hE, q⟩ := q
  refine ⟨ρ, env, S, hR, hE, Aft.imp (Aft.bind q) fun d ρ1 S1 H1 l1 r1 q1 v rv => ?_⟩
  refine ⟨ρ1, env, S1, r1, hE.mono _ l1, Aft.imp (Aft.bind q1) fun ds ρ2 S2 H2 l2 r2 q2 vs rvs => ?_⟩
  exact q2.ok (Le.refl _) r2 _ (.cons (rv.mono _ l2) rvs)
theorem RDs.length {K ρ H} : ∀ {ds : List D} {vs : List V}, RDs K ρ H ds vs → ds.length = vs.length
  | _, _, .nil => rfl
  | _, _, .cons _ r => by simp [RDs.length r]
end
end Y

set_option Elab.async false
set_option linter.all false
set_option maxRecDepth 100000
namespace Y
open PySem PySem.Spec L2

/-! ### the heap grows, is written -/
section
variable {K : PySem.W.Frag} {ρ : List Addr} {S : AH} {H : Hp}
theorem sqt_upd {a p : Addr} {xs : List V} {o : HO} (h : SqT K H a xs) (n : ∀ ys u, H p = some (.tup ys) ∨ H p = some (.frz u (.tup ys)) → False) : SqT K (upd H p o) a xs := by
  rcases h with (h | ⟨u, h⟩) | h
  · exact .inl (.inl (by rw [upd_ne (fun e => by subst e; exact n xs default (.inl h))]; exact h))
  · exact .inl (.inr ⟨u, by rw [upd_ne (fun e => by subst e; exact n xs u (.inr h))]; exact h⟩)
  · exact .inr h
theorem rol_upd {a p : Addr} {xs : List V} {o : HO} (h : RoL K H a xs) (n : ∀ ys u, H p = some (.frz u (.lst ys)) → False) : RoL K (upd H p o) a xs := by
  rcases h with ⟨u, h⟩ | h
  · exact .inl ⟨u, by rw [upd_ne (fun e => by subst e; exact n xs u h)]; exact h⟩
  · exact .inr h
/-- an object that may be written here -/
def Wr (o : HO) : Prop := match o with
  | .lst _ | .dK _ | .ins _ _ _ | .own _ => True
  | _ => False
theorem le_new {p : Addr} {o : HO} (hp : H p = none) (t : List Addr) : Le K ρ H (ρ ++ t) (upd H p o) :=
  ⟨List.prefix_append _ _, fun a xs h => sqt_upd h (by rw [hp]; rintro _ _ (h | h) <;> cases h), fun a xs h => rol_upd h (by rw [hp]; rintro _ _ h; cases h), fun a u kvs h => by rw [upd_ne (fun e => by subst e; rw [hp] at h; cases h)]; exact h, fun a ys h => by rw [upd_ne (fun e => by subst e; rw [hp] at h; cases h)]; exact h⟩
theorem le_new0 {p : Addr} {o : HO} (hp : H p = none) : Le K ρ H ρ (upd H p o) := by
  have := le_new (K := K) (ρ := ρ) (o := o) hp []
  rwa [List.append_nil] at this
theorem le_wr {p : Addr} {o u : HO} (hp : H p = some u) (w : Wr u) : Le K ρ H ρ (upd H p o) :=
  ⟨List.prefix_refl _, fun a xs h => sqt_upd h (by rw [hp]; rintro _ _ (h | h) <;> cases h <;> exact w), fun a xs h => rol_upd h (by rw [hp]; rintro _ _ h; cases h; exact w), fun a z kvs h => by rw [upd_ne (fun e => by subst e; rw [hp] at h; cases h; exact w)]; exact h, fun a ys h => by rw [upd_ne (fun e => by subst e; rw [hp] at h; cases h; exact w)]; exact h⟩
theorem ro_some {a : Addr} {o : Ob} (h : RO K ρ H a o) : ∃ u, H a = some u ∧ True := by
  cases o with
  | lst ds => obtain ⟨xs, e, _⟩ := h; exact ⟨_, e, trivial⟩
  | dic kvs => obtain ⟨xs, e, _⟩ := h; exact ⟨_, e, trivial⟩
  | ins C fs => obtain ⟨dx, ys, e, _⟩ := h; exact ⟨_, e, trivial⟩
  | lck => obtain ⟨o, kvs, e⟩ := h; exact ⟨_, e, trivial⟩
theorem r_some (r : R K ρ S H) {i : Nat} {a : Addr} (h : ρ[i]? = some a) : ∃ u, H a = some u ∧ True := by
  have hi := (List.getElem?_eq_some_iff.mp h).1
  have hs : S[i]? = some (S[i]'(by rw [← r.len]; exact hi)) := List.getElem?_eq_getElem _
  exact ro_some (r.at_ i a _ h hs)
theorem RO.keep {a : Addr} {o : Ob} {ρ' : List Addr} {H' : Hp} (h : RO K ρ H a o) (l : Le K ρ H ρ' H') (e : H' a = H a) : RO K ρ' H' a o := by
  cases o with
  | lst ds => obtain ⟨xs, e1, r⟩ := h; exact ⟨xs, e.trans e1, r.mono _ l⟩
  | dic kvs => obtain ⟨xs, e1, k, r⟩ := h; exact ⟨xs, e.trans e1, k, r.mono _ l⟩
  | ins C fs => obtain ⟨dx, ys, e1, k, r⟩ := h; exact ⟨dx, ys, e.trans e1, k, r.mono _ l⟩
  | lck => obtain ⟨o, kvs, e1⟩ := h; exact ⟨o, kvs, e.trans e1⟩
/-- something untracked (a tuple ..) is laid -/
theorem R.side (r : R K ρ S H) {p : Addr} {o : HO} (hp : H p = none) : R K ρ S (upd H p o) := ⟨r.len, r.nd, fun i a ob h1 h2 => by
  obtain ⟨u, e, _⟩ := r_some r h1
  exact (r.at_ i a ob h1 h2).keep (le_new0 hp) (upd_ne (ne_of_none e hp))⟩
/-- a new object -/
theorem R.new (r : R K ρ S H) {p : Addr} {o : HO} {ob : Ob} (hp : H p = none) (n : RO K (ρ ++ [p]) (upd H p o) p ob) : R K (ρ ++ [p]) (S ++ [ob]) (upd H p o) := by
  have hn : p ∉ ρ := fun hm => by
    obtain ⟨i, h⟩ := List.getElem?_of_mem hm
    obtain ⟨u, e, _⟩ := r_some r h
    rw [hp] at e; cases e
  refine ⟨by simp [r.len], ?_, fun i a ob' h1 h2 => ?_⟩
  · rw [List.nodup_append]
    exact ⟨r.nd, by simp, fun a ha b hb e => by simp at hb; exact hn (by rw [← hb, ← e]; exact ha)⟩
  · by_cases hi : i < ρ.length
    · rw [List.getElem?_append_left hi] at h1
      rw [List.getElem?_append_left (by rw [← r.len]; exact hi)] at h2
      obtain ⟨u, e, _⟩ := r_some r h1
      exact (r.at_ i a ob' h1 h2).keep (le_new hp _) (upd_ne (ne_of_none e hp))
    · have hi' : i = ρ.length := by
        have := (List.getElem?_eq_some_iff.mp h1).1
        simp at this
        omega
      subst hi'
      rw [List.getElem?_append_right (Nat.le_refl _)] at h1
      rw [List.getElem?_append_right (by rw [r.len]; exact Nat.le_refl _), r.len] at h2
      simp at h1 h2
      subst h1 h2
      exact n
/-- an object is written -/
theorem R.wr (r : R K ρ S H) {i : Nat} {a : Addr} {o u : HO} {ob : Ob} (h : ρ[i]? = some a) (e : H a = some u) (w : Wr u) (n : RO K ρ (upd H a o) a ob) : R K ρ (S.set i ob) (upd H a o) := by
  refine ⟨by simp [r.len], r.nd, fun j b ob' h1 h2 => ?_⟩
  by_cases hj : i = j
  · subst hj
    rw [h] at h1; cases h1
    have hi := (List.getElem?_eq_some_iff.mp h).1
    rw [List.getElem?_set_self (by rw [← r.len]; exact hi)] at h2
    cases h2
    exact n
  · rw [List.getElem?_set_ne hj] at h2
    have hb : b ≠ a := fun q => hj (by
      subst q
      obtain ⟨l1, e1⟩ := List.getElem?_eq_some_iff.mp h
      obtain ⟨l2, e2⟩ := List.getElem?_eq_some_iff.mp h1
      exact (List.getElem_inj r.nd).mp (e1.trans e2.symm))
    exact (r.at_ j b ob' h1 h2).keep (le_wr e w) (upd_ne hb)
theorem RD.new {p : Addr} {H' : Hp} : RD K (ρ ++ [p]) H' (.obj ρ.length) (.ref p) := .obj (by simp)
theorem R.newv (r : R K ρ S H) {p : Addr} {H' : Hp} : RD K (ρ ++ [p]) H' (.obj S.length) (.ref p) := by rw [← r.len]; exact .new
/-- what stands at an object -/
theorem r_lst (r : R K ρ S H) {i : Nat} {v : V} {ds : List D} (hv : RD K ρ H (.obj i) v) (h : S[i]? = some (.lst ds)) : ∃ a xs, v = .ref a ∧ ρ[i]? = some a ∧ H a = some (.lst xs) ∧ RDs K ρ H ds xs := by
  cases hv with
  | obj e =>
    obtain ⟨xs, e1, r1⟩ := r.at_ _ _ _ e h
    exact ⟨_, xs, rfl, e, e1, r1⟩
end

section
variable {X : Cx} {W : WX} {e a b c : Expr} {es : List Expr} {f g h : Ev} {pos : Pos} {ft gt : Et} {fa : Ea}
/-! ### displays -/
def eTup (n : Nat) (g : Ea) : Ev := fun env S => (g env S).bind fun ds S1 => .ok (.tup ds) S1
def eLst (g : Ea) : Ev := fun env S => (g env S).bind fun ds S1 => .ok (.obj S1.length) (S1 ++ [.lst ds])
theorem len_disp (n : ∀ env S ds S1, fa env S = .ok ds S1 → ds.length ≤ sizeLine) : True := trivial
def Small (f : Ea) (n : Nat) : Prop := ∀ env S, match f env S with
  | .ok ds _ => ds.length = n
  | _ => True
theorem small_nil : Small aNil 0 := fun _ _ => rfl
theorem small_cons {f : Ev} {g : Ea} {n : Nat} (h : Small g n) : Small (aCons f g) (n + 1) := fun env S => by
  unfold aCons
  cases f env S with
  | ok d S1 =>
    have := h env S1
    simp only [Rs.bind]
    cases q : g env S1 with
    | ok ds S2 => rw [q] at this; simpa using this
    | ex _ _ => trivial
    | bad => trivial
  | ex _ _ => trivial
  | bad => trivial
theorem fe_tup {n : Nat} {x1} (h : FA X W es fa) (hs : Small fa n) (hn : n ≤ sizeLine := by decide) : FE X W (.Tuple es x1 pos) (eTup n fa) := fe_of (pe_tup h) fun σ H Q q => by
  obtain ⟨ρ, env, S, hR, hE, q⟩ := q
  have z := hs env S
  refine ⟨ρ, env, S, hR, hE, ?_⟩
  unfold eTup at q
  cases q1 : fa env S with
  | bad => rw [q1] at q; exact q
  | ex x S1 => rw [q1] at q; exact q
  | ok ds S1 =>
    rw [q1] at q z
    refine fun ρ1 H1 l1 r1 vs rvs => ⟨by rw [← rvs.length, z]; exact hn, fun p hp => ?_⟩
    exact q ρ1 _ (l1.trans _ (le_new0 hp)) (r1.side hp) _ (.tup (SqT.of upd_same) (rvs.mono _ (le_new0 hp)))
theorem fe_lst {n : Nat} (h : FA X W es fa) (hs : Small fa n) (hn : n ≤ sizeLine := by decide) : FE X W (.List es pos) (eLst fa) := fe_of (pe_lst h) fun σ H Q q => by
  obtain ⟨ρ, env, S, hR, hE, q⟩ := q
  have z := hs env S
  refine ⟨ρ, env, S, hR, hE, ?_⟩
  unfold eLst at q
  cases q1 : fa env S with
  | bad => rw [q1] at q; exact q
  | ex x S1 => rw [q1] at q; exact q
  | ok ds S1 =>
    rw [q1] at q z
    refine fun ρ1 H1 l1 r1 vs rvs => ⟨by rw [← rvs.length, z]; exact hn, fun p hp => ?_⟩
    exact q (ρ1 ++ [p]) _ (l1.trans _ (le_new hp _)) (r1.new hp ⟨vs, upd_same, rvs.mono _ (le_new hp _)⟩) _ r1.newv

/-! ### statements -/
def sNil : Es := fun env S => .ok (.nx env) S
def sSeq (f g : Es) : Es := fun env S => (f env S).bind fun fl S1 => match fl with
  | .nx env' => g env' S1
  | fl => .ok fl S1
/-- an expression's result in a statement: what it raises leaves at these slots -/
def xnB {α : Type} (env : En) (r : Rs α) (k : α → AH → Rs Fl) : Rs Fl := match r with
  | .ok a S => k a S
  | .ex x S => .ok (.xn x env) S
  | .bad => .bad
theorem xnB_aft {α : Type} {K : PySem.W.Frag} {ρ σ H} {env : En} {r : Rs α} {k : α → AH → Rs Fl} {D : Ends} (hE : RE K ρ H env σ) (h : Aft K (fun _ _ _ _ => False) ρ σ H (xnB env r k) (postS K W D)) :
    Aft K W ρ σ H r (fun a ρ' S' H' => Aft K (fun _ _ _ _ => False) ρ' σ H' (k a S') (postS K W D)) := by
  cases r with
  | bad => exact h
  | ok a S' => exact fun ρ' H' l r' => Aft.from h l
  | ex x S' => exact fun ρ' H' c d l r' rx => h ρ' H' l r' σ c d (hE.mono _ l) rx
variable {st : Stmt} {sts : List Stmt} {fs gs : Es}
theorem fss_nil : FSs X W [] sNil := fss_of pss_nil fun D σ H q => by
  obtain ⟨ρ, env, S, hR, hE, q⟩ := q
  exact q ρ H (Le.refl _) hR σ hE
theorem seq_rd : ∀ D σ H, rdS X.K W (sSeq fs gs) D σ H → tSeq (rdS X.K W fs) (rdS X.K W gs) D σ H := by
  rintro D σ H ⟨ρ, env, S, hR, hE, q⟩
  refine ⟨ρ, env, S, hR, hE, Aft.imp (Aft.bind q) fun fl ρ1 S1 H1 l1 r1 q1 => ?_⟩
  cases fl with
  | nx env' => exact fun σ' hE' => ⟨ρ1, env', S1, r1, hE', by
      cases q2 : gs env' S1 with
      | bad => simp only [q2] at q1; exact q1
      | ok fl S2 => simp only [q2] at q1; exact q1
      | ex x S2 => simp only [q2] at q1; exact q1⟩
  | rt d => exact q1.ok (Le.refl _) r1
  | bk e => exact q1.ok (Le.refl _) r1
  | ct e => exact q1.ok (Le.refl _) r1
  | xn x e => exact q1.ok (Le.refl _) r1
theorem fss_cons (h1 : FS X W st fs) (h2 : FSs X W sts gs) : FSs X W (st :: sts) (sSeq fs gs) := fss_of (pss_cons h1 h2) seq_rd
theorem fss_one (h1 : FS X W st fs) : FSs X W [st] fs := pss_one h1
def sPass : Es := sNil
def sBrk : Es := fun env S => .ok (.bk env) S
def sCnt : Es := fun env S => .ok (.ct env) S
theorem fs_pass : FS X W (.Pass pos) sPass := fs_of ps_pass fun D σ H q => by
  obtain ⟨ρ, env, S, hR, hE, q⟩ := q
  exact q ρ H (Le.refl _) hR σ hE
def sRet (f : Ev) : Es := fun env S => xnB env (f env S) fun d S1 => .ok (.rt d) S1
theorem fs_ret (he : FE X W e f) : FS X W (.Return (some e) pos) (sRet f) := fs_of (ps_ret he) fun D σ H q => by
  obtain ⟨ρ, env, S, hR, hE, q⟩ := q
  exact ⟨ρ, env, S, hR, hE, Aft.imp (xnB_aft hE q) fun d ρ1 S1 H1 l1 r1 q1 => q1.ok (Le.refl _) r1⟩
def sRetN : Es := fun env S => .ok (.rt .non) S
theorem fs_retN : FS X W (.Return none pos) sRetN := fs_of ps_retN fun D σ H q => by
  obtain ⟨ρ, env, S, hR, hE, q⟩ := q
  exact q ρ H (Le.refl _) hR _ .non
def sExp (f : Ev) : Es := fun env S => xnB env (f env S) fun d S1 => .ok (.nx env) S1
theorem fs_expr (he : FE X W e f) (hs : swapsWith e none pos.line X.env = pure false := by rfl) : FS X W (.Expr e pos) (sExp f) := fs_of (ps_expr he hs) fun D σ H q => by
  obtain ⟨ρ, env, S, hR, hE, q⟩ := q
  exact ⟨ρ, env, S, hR, hE, Aft.imp (xnB_aft hE q) fun d ρ1 S1 H1 l1 r1 q1 v rv => q1.ok (Le.refl _) r1 σ (hE.mono _ l1)⟩
def sIf (c : Et) (f g : Es) : Es := fun env S => xnB env (c env S) fun k S1 => if k = true then f env S1 else g env S1
theorem fs_if {x y : List Stmt} (hc : FT X W c ft) (ha : FSs X W x fs) (hb : FSs X W y gs) : FS X W (.If c x y pos) (sIf ft fs gs) := fs_of (ps_if hc ha hb) fun D σ H q => by
  obtain ⟨ρ, env, S, hR, hE, q⟩ := q
  refine ⟨ρ, env, S, hR, hE, Aft.imp (xnB_aft hE q) fun k ρ1 S1 H1 l1 r1 q1 => ?_⟩
  have q1 : Aft X.K _ ρ1 σ H1 (if k = true then fs env S1 else gs env S1) _ := q1
  cases k with
  | true =>
    rw [if_pos rfl] at q1
    exact ⟨ρ1, env, S1, r1, hE.mono _ l1, q1⟩
  | false =>
    rw [if_neg (by simp)] at q1
    exact ⟨ρ1, env, S1, r1, hE.mono _ l1, q1⟩
/-- x = e -/
def sSet (i : Nat) (f : Ev) : Es := fun env S => xnB env (f env S) fun d S1 => .ok (.nx (env.set i (some d))) S1
theorem fs_set {i : Nat} {x : Str} {pos' : Pos} (hN : X.N.Nodup) (hi : X.N[i]? = some x) (hx : Loc X.env.scope x) (he : FE X W e f) (hs : swapsWith e (some (.Name x pos')) pos.line X.env = pure false := by rfl)
    (hf : X.fn x = true ∨ X.env.scope.names.lookup x = some .local := by first | exact .inl rfl | exact .inr rfl | assumption) : FS X W (.Assign [.Name x pos'] e pos) (sSet i f) := fs_of (ps_set hN hi hx he hs hf) fun D σ H q => by
  obtain ⟨ρ, env, S, hR, hE, q⟩ := q
  exact ⟨ρ, env, S, hR, hE, Aft.imp (xnB_aft hE q) fun d ρ1 S1 H1 l1 r1 q1 v rv => q1.ok (Le.refl _) r1 _ ((hE.mono _ l1).set _ rv)⟩
end
end Y

set_option Elab.async false
set_option linter.all false
set_option maxRecDepth 100000
namespace Y
open PySem PySem.Spec L2

section
variable {X : Cx} {W : WX} {e a b c : Expr} {es : List Expr} {f g h : Ev} {pos : Pos} {ft gt : Et} {fa : Ea} {K : PySem.W.Frag} {ρ : List Addr} {S : AH} {H : Hp}
theorem RDs.append {ds vs es us} (r : RDs K ρ H ds vs) (q : RDs K ρ H es us) : RDs K ρ H (ds ++ es) (vs ++ us) := by
  match r with
  | .nil => exact q
  | .cons r1 r2 => exact .cons r1 (RDs.append r2 q)
theorem RDs.get {ds vs} (r : RDs K ρ H ds vs) : ∀ {i : Nat} {d : D}, ds[i]? = some d → ∃ v, vs[i]? = some v ∧ RD K ρ H d v := by
  match r with
  | .nil => intro i d h; simp at h
  | .cons r1 r2 =>
    intro i d h
    cases i with
    | zero => simp at h; subst h; exact ⟨_, rfl, r1⟩
    | succ i => simpa using RDs.get r2 (by simpa using h)
theorem RDs.set {ds vs d v} (r : RDs K ρ H ds vs) (q : RD K ρ H d v) : ∀ i, RDs K ρ H (ds.set i d) (vs.set i v) := by
  match r with
  | .nil => intro i; exact .nil
  | .cons r1 r2 =>
    intro i
    cases i with
    | zero => exact .cons q r2
    | succ i => exact .cons r1 (RDs.set r2 q i)
theorem RDs.take {ds vs} (r : RDs K ρ H ds vs) : ∀ n, RDs K ρ H (ds.take n) (vs.take n) := by
  match r with
  | .nil => intro n; simp; exact .nil
  | .cons r1 r2 =>
    intro n
    cases n with
    | zero => exact .nil
    | succ n => exact .cons r1 (RDs.take r2 n)
theorem RDs.drop {ds vs} (r : RDs K ρ H ds vs) : ∀ n, RDs K ρ H (ds.drop n) (vs.drop n) := by
  match r with
  | .nil => intro n; simp; exact .nil
  | .cons r1 r2 =>
    intro n
    cases n with
    | zero => exact .cons r1 r2
    | succ n => exact RDs.drop r2 n
theorem RDs.rev {ds vs} (r : RDs K ρ H ds vs) : RDs K ρ H ds.reverse vs.reverse := by
  match r with
  | .nil => exact .nil
  | .cons r1 r2 =>
    simp only [List.reverse_cons]
    exact RDs.append (RDs.rev r2) (.cons r1 .nil)
theorem RDs.nil_iff {ds vs} (r : RDs K ρ H ds vs) : ds = [] ↔ vs = [] := by cases r <;> simp

/-! ### results that are known -/
theorem opr_ok {fv : Value → Value → Sem Value} {r : R2} {h : Op2} (hp : OpR X fv r) (i : ∀ ρ S H d e x y d' S' Q, R X.K ρ S H → RD X.K ρ H d x → RD X.K ρ H e y → h d e S = some (d', S') →
    (∀ ρ' H' v, Le X.K ρ H ρ' H' → R X.K ρ' S' H' → RD X.K ρ' H' d' v → Q v H') → r x y H Q) : OpR X fv (rdO X.K h) := opr_of hp fun x y H Q ⟨ρ, S, d, e, d', S', hR, rx, ry, z, q⟩ => i ρ S H d e x y d' S' Q hR rx ry z q

/-! ### ints -/
def intO (g : Int → Int → Option D) : Op2 := fun d e S => match d, e with
  | .int i, .int j => (g i j).map fun d => (d, S)
  | _, _ => none
theorem int_rd {C : Int → Int → Prop} {gv : Int → Int → V} {g : Int → Int → Option D} (hC : ∀ i j d, g i j = some d → C i j ∧ ∀ ρ H, RD X.K ρ H d (gv i j)) {fv} (hp : OpR X fv (rI C gv)) : OpR X fv (rdO X.K (intO g)) := opr_ok hp fun ρ S H d e x y d' S' Q hR rx ry z q => by
  cases rx <;> cases ry <;> simp only [intO] at z <;> try (cases z; done)
  rename_i i j
  cases w : g i j with
  | none => rw [w] at z; cases z
  | some d2 =>
    rw [w] at z
    cases z
    obtain ⟨c, r⟩ := hC i j _ w
    exact ⟨i, j, rfl, rfl, c, q ρ H _ (Le.refl _) hR (r _ _)⟩
theorem int_rd0 {gv : Int → Int → V} {g : Int → Int → D} (hr : ∀ i j ρ H, RD X.K ρ H (g i j) (gv i j)) {fv} (hp : OpR X fv (rI0 gv)) : OpR X fv (rdO X.K (intO fun i j => some (g i j))) := opr_ok hp fun ρ S H d e x y d' S' Q hR rx ry z q => by
  cases rx <;> cases ry <;> simp only [intO] at z <;> try (cases z; done)
  rename_i i j
  cases z
  exact ⟨i, j, rfl, rfl, q ρ H _ (Le.refl _) hR (hr i j _ _)⟩
def subO : Op2 := intO fun i j => some (.int (i - j))
def ltO : Op2 := intO fun i j => some (.bl (decide (i < j)))
def leO : Op2 := intO fun i j => some (.bl (decide (i ≤ j)))
def gtO : Op2 := intO fun i j => some (.bl (decide (j < i)))
def geO : Op2 := intO fun i j => some (.bl (decide (j ≤ i)))
def fdivO : Op2 := intO fun i j => if j ≠ 0 ∧ j.natAbs < 1073741824 then some (.int (i.fdiv j)) else none
def modO : Op2 := intO fun i j => if j ≠ 0 then some (.int (i.fmod j)) else none
def powO : Op2 := intO fun i j => if 0 ≤ j ∧ j ≤ 1000000 ∧ i.natAbs < 2 ^ 64 then some (.int (i ^ j.toNat)) else none
theorem o_sub : OpR X (binaryOp .Sub) (rdO X.K subO) := int_rd0 (fun _ _ _ _ => .int) op_sub
theorem o_fdiv : OpR X (binaryOp .FloorDiv) (rdO X.K fdivO) := int_rd (C := CDivN) (fun i j d z => by
  split at z
  · cases z; exact ⟨by assumption, fun _ _ => .int⟩
  · cases z) op_fdivN
theorem o_mod : OpR X (binaryOp .Mod) (rdO X.K modO) := int_rd (C := fun _ j => j ≠ 0) (fun i j d z => by
  split at z
  · cases z; exact ⟨by assumption, fun _ _ => .int⟩
  · cases z) op_modN
theorem o_pow : OpR X (binaryOp .Pow) (rdO X.K powO) := int_rd (C := CPow) (fun i j d z => by
  split at z
  · cases z; exact ⟨by assumption, fun _ _ => .int⟩
  · cases z) op_pow
theorem o_lt : OpR X (compareOp .Lt) (rdO X.K ltO) := int_rd0 (fun _ _ _ _ => .bl) op_lt
theorem o_le : OpR X (compareOp .LtE) (rdO X.K leO) := int_rd0 (fun _ _ _ _ => .bl) op_le
theorem o_gt : OpR X (compareOp .Gt) (rdO X.K gtO) := int_rd0 (fun _ _ _ _ => .bl) op_gt
theorem o_ge : OpR X (compareOp .GtE) (rdO X.K geO) := int_rd0 (fun _ _ _ _ => .bl) op_ge

/-! ### + -/
def addO : Op2 := fun d e S => match d, e with
  | .int i, .int j => some (.int (i + j), S)
  | .str x, .str y => if x.length + y.length ≤ sizeLine then some (.str (x ++ y), S) else none
  | .tup x, .tup y => if x.length + y.length ≤ sizeLine then some (.tup (x ++ y), S) else none
  | .obj i, .obj j => match S[i]?, S[j]? with
    | some (.lst x), some (.lst y) => if x.length + y.length ≤ sizeLine then some (.obj S.length, S ++ [.lst (x ++ y)]) else none
    | _, _ => none
  | _, _ => none
theorem o_add : OpR X (binaryOp .Add) (rdO X.K addO) := opr_ok (opr_or op_add (opr_or op_add_str (opr_or op_catA op_cat))) fun ρ S H d e x y d' S' Q hR rx ry z q => by
  cases rx <;> cases ry <;> simp only [addO] at z <;> try (cases z; done)
  · cases z
    exact .inl ⟨_, _, rfl, rfl, q ρ H _ (Le.refl _) hR .int⟩
  · split at z
    · cases z
      rename_i hz
      exact .inr (.inl ⟨_, _, rfl, rfl, hz, q ρ H _ (Le.refl _) hR .str⟩)
    · cases z
  · rename_i a1 xs1 ds1 t1 r1 a2 xs2 ds2 t2 r2
    split at z
    · cases z
      rename_i hz
      refine .inr (.inr (.inl ⟨a1, a2, xs1, xs2, rfl, rfl, t1, t2, by rw [← r1.length, ← r2.length]; exact hz, fun e1 => ?_, fun _ e2 => ?_, fun _ _ p hp => ?_⟩))
      · subst e1
        rw [r1.nil_iff.mpr rfl, List.nil_append] at q
        exact q ρ H _ (Le.refl _) hR (.tup t2 r2)
      · subst e2
        rw [r2.nil_iff.mpr rfl, List.append_nil] at q
        exact q ρ H _ (Le.refl _) hR (.tup t1 r1)
      · exact q ρ _ _ (le_new0 hp) (hR.side hp) (.tup (SqT.of upd_same) ((r1.append r2).mono _ (le_new0 hp)))
    · cases z
  · rename_i i1 a1 h1 i2 a2 h2
    split at z
    · rename_i x y e1 e2
      split at z
      · cases z
        rename_i hz
        obtain ⟨_, xs1, he1, g1, m1, r1⟩ := r_lst hR (.obj h1) e1
        obtain ⟨_, xs2, he2, g2, m2, r2⟩ := r_lst hR (.obj h2) e2
        cases he1
        cases he2
        refine .inr (.inr (.inr ⟨_, _, xs1, xs2, rfl, rfl, m1, m2, by rw [← r1.length, ← r2.length]; exact hz, fun p hp => ?_⟩))
        exact q (ρ ++ [p]) _ _ (le_new hp _) (hR.new hp ⟨_, upd_same, (r1.append r2).mono _ (le_new hp _)⟩) hR.newv
      · cases z
    · cases z

/-! ### * -/
def mulO : Op2 := fun d e S => match d, e with
  | .int i, .int j => if (-(2 ^ 64) < i ∧ i < 2 ^ 64) ∨ (-(2 ^ 64) < j ∧ j < 2 ^ 64) then some (.int (i * j), S) else none
  | .obj i, .int k => match S[i]? with
    | some (.lst x) => if -(2 ^ 63) ≤ k ∧ k < 2 ^ 63 ∧ x.length * k.toNat ≤ sizeLine then some (.obj S.length, S ++ [.lst (List.replicate k.toNat x).flatten]) else none
    | _ => none
  | _, _ => none
theorem RDs.rep {ds vs} (r : RDs K ρ H ds vs) : ∀ n, RDs K ρ H (List.replicate n ds).flatten (List.replicate n vs).flatten
  | 0 => .nil
  | n + 1 => by
    rw [List.replicate_succ, List.replicate_succ, List.flatten_cons, List.flatten_cons]
    exact r.append (RDs.rep r n)
theorem o_mul : OpR X (binaryOp .Mult) (rdO X.K mulO) := opr_ok (opr_or op_mul op_rep) fun ρ S H d e x y d' S' Q hR rx ry z q => by
  cases rx <;> cases ry <;> simp only [mulO] at z <;> try (cases z; done)
  · split at z
    · cases z
      rename_i hz
      exact .inl ⟨_, _, rfl, rfl, hz, q ρ H _ (Le.refl _) hR .int⟩
    · cases z
  · rename_i i1 a1 h1 k
    split at z
    · rename_i x e1
      split at z
      · cases z
        rename_i hz
        obtain ⟨_, xs1, he1, g1, m1, r1⟩ := r_lst hR (.obj h1) e1
        cases he1
        refine .inr ⟨_, k, xs1, rfl, rfl, m1, hz.1, hz.2.1, by rw [← r1.length]; exact hz.2.2, fun p hp => ?_⟩
        exact q (ρ ++ [p]) _ _ (le_new hp _) (hR.new hp ⟨_, upd_same, (r1.rep _).mono _ (le_new hp _)⟩) hR.newv
      · cases z
    · cases z

/-! ### is None, is True, == -/
def isNO : Op2 := fun d e S => match e with
  | .non => some (.bl (match d with | .non => true | _ => false), S)
  | _ => none
def notNO : Op2 := fun d e S => match e with
  | .non => some (.bl (match d with | .non => false | _ => true), S)
  | _ => none
theorem o_isN : OpR X (compareOp .Is) (rdO X.K isNO) := opr_ok op_isN fun ρ S H d e x y d' S' Q hR rx ry z q => by
  cases ry <;> simp only [isNO] at z <;> try (cases z; done)
  cases z
  refine ⟨rfl, q ρ H _ (Le.refl _) hR ?_⟩
  cases rx <;> exact .bl
theorem o_notN : OpR X (compareOp .IsNot) (rdO X.K notNO) := opr_ok op_notN fun ρ S H d e x y d' S' Q hR rx ry z q => by
  cases ry <;> simp only [notNO] at z <;> try (cases z; done)
  cases z
  refine ⟨rfl, q ρ H _ (Le.refl _) hR ?_⟩
  cases rx <;> exact .bl
mutual
/-- plain data -/
def pyOf (S : AH) : Nat → D → Option PyData
  | 0, _ => none
  | _ + 1, .non => some .none
  | _ + 1, .bl b => some (.bool b)
  | _ + 1, .int i => some (.int i)
  | _ + 1, .str x => some (.str x)
  | n + 1, .tup l => (pyOfs S n l).map .tuple
  | n + 1, .rol l => (pyOfs S n l).map .list
  | n + 1, .obj i => match S[i]? with
    | some (.lst l) => (pyOfs S n l).map .list
    | _ => none
def pyOfs (S : AH) : Nat → List D → Option (List PyData)
  | 0, _ => none
  | _ + 1, [] => some []
  | n + 1, d :: ds => match pyOf S n d, pyOfs S n ds with
    | some p, some ps => some (p :: ps)
    | _, _ => none
end
theorem pyOf_dp (hR : R K ρ S H) : ∀ n, (∀ d p v, pyOf S n d = some p → RD K ρ H d v → Dp K H v p) ∧ (∀ ds ps vs, pyOfs S n ds = some ps → RDs K ρ H ds vs → DpAll K H vs ps)
  | 0 => ⟨fun d p v h => by simp [pyOf] at h, fun d p v h => by simp [pyOfs] at h⟩
  | n + 1 => by
    obtain ⟨ih1, ih2⟩ := pyOf_dp hR n
    constructor
    · intro d p v h r
      cases r with
      | non => simp only [pyOf] at h; cases h; exact .non
      | bl => simp only [pyOf] at h; cases h; exact .bl _
      | int => simp only [pyOf] at h; cases h; exact .int _
      | str => simp only [pyOf] at h; cases h; exact .str _
      | tup t r =>
        simp only [pyOf, Option.map_eq_some_iff] at h
        obtain ⟨ps, h1, rfl⟩ := h
        exact .tup t (ih2 _ _ _ h1 r)
      | rol t r =>
        simp only [pyOf, Option.map_eq_some_iff] at h
        obtain ⟨ps, h1, rfl⟩ := h
        exact .lst t.sql (ih2 _ _ _ h1 r)
      | obj e =>
        simp only [pyOf] at h
        split at h
        · rename_i l hl
          simp only [Option.map_eq_some_iff] at h
          obtain ⟨ps, h1, rfl⟩ := h
          obtain ⟨_, xs, he, _, m, r⟩ := r_lst hR (.obj e) hl
          cases he
          exact .lst (SqL.of m) (ih2 _ _ _ h1 r)
        · cases h
    · intro ds ps vs h r
      cases r with
      | nil => simp only [pyOfs] at h; cases h; exact .nil
      | cons r1 r2 =>
        simp only [pyOfs] at h
        split at h
        · rename_i p ps' h1 h2
          cases h
          exact .cons (ih1 _ _ _ h1 r1) (ih2 _ _ _ h2 r2)
        · cases h
def scalD : D → Bool
  | .non => true | .bl _ => true | .int _ => true | .str _ => true | _ => false
/-- == of what is told at once -/
def eqS : D → D → Option Bool
  | .int i, .int j => some (i == j)
  | .str x, .str y => some (decide (x = y))
  | .bl x, .bl y => some (x == y)
  | .non, .non => some true
  | .non, .int _ => some false | .int _, .non => some false | .non, .str _ => some false | .str _, .non => some false | .non, .bl _ => some false | .bl _, .non => some false
  | .int _, .str _ => some false | .str _, .int _ => some false | .bl _, .str _ => some false | .str _, .bl _ => some false
  | _, _ => none
def eqO : Op2 := fun d e S => match eqS d e with
  | some b => some (.bl b, S)
  | none => match pyOf S 60 d, pyOf S 60 e with
    | some p, some q => if SeqAt.shaped p = true ∧ SeqAt.shaped q = true then some (.bl (PyData.eqv p q), S) else none
    | _, _ => none
def neO : Op2 := fun d e S => match eqO d e S with
  | some (.bl b, S) => some (.bl (!b), S)
  | _ => none
theorem eqS_ok {d e : D} {x y : V} {b : Bool} (h : eqS d e = some b) (rx : RD K ρ H d x) (ry : RD K ρ H e y) : scal x y = true ∧ decide (x = y) = b := by
  cases rx <;> cases ry <;> simp only [eqS] at h <;> cases h <;> refine ⟨rfl, ?_⟩ <;> first | rfl | (rw [Bool.eq_iff_iff]; simp; done) | (simp; done)
theorem eqO_cases {d e : D} {z : D × AH} (h : eqO d e S = some z) : (∃ b, z = (.bl b, S) ∧ eqS d e = some b) ∨ ∃ p q, z = (.bl (PyData.eqv p q), S) ∧ pyOf S 60 d = some p ∧ pyOf S 60 e = some q ∧ SeqAt.shaped p = true ∧ SeqAt.shaped q = true := by
  unfold eqO at h
  split at h
  · rename_i b w
    cases h
    exact .inl ⟨b, rfl, w⟩
  · split at h
    · rename_i p q h1 h2
      split at h
      · rename_i hs
        cases h
        exact .inr ⟨p, q, rfl, h1, h2, hs.1, hs.2⟩
      · cases h
    · cases h
theorem o_eq (hu : X.A.units + 64 < cLine) : OpR X (compareOp .Eq) (rdO X.K eqO) := opr_ok (opr_or op_eq (op_eqD hu)) fun ρ S H d e x y d' S' Q hR rx ry z q => by
  rcases eqO_cases z with ⟨b, w, hb⟩ | ⟨p1, p2, w, h1, h2, s1, s2⟩
  · cases w
    obtain ⟨k1, k2⟩ := eqS_ok hb rx ry
    exact .inl ⟨k1, by rw [k2]; exact q ρ H _ (Le.refl _) hR .bl⟩
  · cases w
    exact .inr ⟨p1, p2, (pyOf_dp hR 60).1 _ _ _ h1 rx, (pyOf_dp hR 60).1 _ _ _ h2 ry, s1, s2, q ρ H _ (Le.refl _) hR .bl⟩
theorem o_ne (hu : X.A.units + 64 < cLine) : OpR X (compareOp .NotEq) (rdO X.K neO) := opr_ok (opr_or op_ne (op_neD hu)) fun ρ S H d e x y d' S' Q hR rx ry z q => by
  unfold neO at z
  split at z
  · rename_i b S2 w0
    cases z
    rcases eqO_cases w0 with ⟨b, w, hb⟩ | ⟨p1, p2, w, h1, h2, s1, s2⟩
    · cases w
      obtain ⟨k1, k2⟩ := eqS_ok hb rx ry
      exact .inl ⟨k1, by rw [k2]; exact q ρ H _ (Le.refl _) hR .bl⟩
    · cases w
      exact .inr ⟨p1, p2, (pyOf_dp hR 60).1 _ _ _ h1 rx, (pyOf_dp hR 60).1 _ _ _ h2 ry, s1, s2, q ρ H _ (Le.refl _) hR .bl⟩
  · cases z
end
end Y

set_option Elab.async false
set_option linter.all false
set_option maxRecDepth 100000
namespace Y
open PySem PySem.Spec L2

section
variable {X : Cx} {W : WX} {e a b c : Expr} {es : List Expr} {f g h : Ev} {pos : Pos} {ft gt : Et} {fa : Ea} {K : PySem.W.Frag} {ρ : List Addr} {S : AH} {H : Hp}
/-! ### built-ins, called -/
abbrev OpN := List D → AH → Option (D × AH)
def rdC (K : PySem.W.Frag) (h : OpN) : List V → Hp → VK → Prop := fun xs H Q => ∃ ρ S ds d' S', R K ρ S H ∧ RDs K ρ H ds xs ∧ h ds S = some (d', S') ∧ ∀ ρ' H' v, Le K ρ H ρ' H' → R K ρ' S' H' → RD K ρ' H' d' v → Q v H'
theorem clr_ok {fv : Value} {r : List V → Hp → VK → Prop} {h : OpN} (hp : CallR X fv r) (i : ∀ ρ S H ds xs d' S' Q, R X.K ρ S H → RDs X.K ρ H ds xs → h ds S = some (d', S') →
    (∀ ρ' H' v, Le X.K ρ H ρ' H' → R X.K ρ' S' H' → RD X.K ρ' H' d' v → Q v H') → r xs H Q) : CallR X fv (rdC X.K h) := fun pins s σ H xs us Q I rv ⟨ρ, S, ds, d', S', hR, rx, z, q⟩ => hp pins s σ H xs us Q I rv (i ρ S H ds xs d' S' Q hR rx z q)
theorem clr_or {fv : Value} {r r' : List V → Hp → VK → Prop} (h : CallR X fv r) (h' : CallR X fv r') : CallR X fv (fun x H Q => r x H Q ∨ r' x H Q) := fun pins s σ H xs us Q I rv q => q.elim (h pins s σ H xs us Q I rv) (h' pins s σ H xs us Q I rv)
def eCall (h : OpN) (g : Ea) : Ev := fun env S => (g env S).bind fun ds S1 => lf (h ds S1)
theorem call_rd {h : OpN} : ∀ σ H Q, rd X.K W (eCall h fa) σ H Q → tCB (rdC X.K h) (rdA X.K W fa) σ H Q := by
  rintro σ H Q ⟨ρ, env, S, hR, hE, q⟩
  refine ⟨ρ, env, S, hR, hE, Aft.imp (Aft.bind q) fun ds ρ1 S1 H1 l1 r1 q1 v rv => ?_⟩
  cases z : h ds S1 with
  | none => rw [z] at q1; exact q1.elim
  | some p =>
    obtain ⟨d', S'⟩ := p
    rw [z] at q1
    exact ⟨ρ1, S1, ds, d', S', r1, rv, z, fun ρ' H' w l r rw => q1.ok l r w rw⟩
theorem fe_callB {h : OpN} {x : Str} {p : Pos} {id : String} (hc : CallR X (.builtin id) (rdC X.K h)) (hg : Gl X x) (hm : X.mg x = none) (hv : bootBuiltins x = some (.builtin id)) (ha : FA X W (e :: es) fa) (hn : x ≠ "__name__" := by decide) (hdb : (x == ("__debug__" : Str)) = false := by decide)
    (he : starEach (e :: es) X.env = (false, eval e X.env) :: starEach es X.env := by rfl) (hpl : (backTo pos (starEach es X.env)).any (·.1) = false := by rfl) : FE X W (.Call (.Name x p) (e :: es) [] pos) (eCall h fa) := fe_of (pe_callB hc hg hm hv ha hn hdb he hpl) call_rd
theorem fe_callTy {h : OpN} {x : Str} {p : Pos} {T : String} (hc : CallR X (.type T) (rdC X.K h)) (hg : Gl X x) (hm : X.mg x = none) (hv : bootBuiltins x = some (.type T)) (ha : FA X W (e :: es) fa) (hn : x ≠ "__name__" := by decide) (hdb : (x == ("__debug__" : Str)) = false := by decide)
    (he : starEach (e :: es) X.env = (false, eval e X.env) :: starEach es X.env := by rfl) (hpl : (backTo pos (starEach es X.env)).any (·.1) = false := by rfl) : FE X W (.Call (.Name x p) (e :: es) [] pos) (eCall h fa) := fe_of (pe_callTy hc hg hm hv ha hn hdb he hpl) call_rd

/-- a list or tuple, read -/
def seqOf (S : AH) : D → Option (List D)
  | .tup l => some l
  | .rol l => some l
  | .obj i => match S[i]? with
    | some (.lst l) => some l
    | _ => none
  | _ => none
theorem seq_ok (hR : R K ρ S H) {d : D} {v : V} {l : List D} (h : seqOf S d = some l) (r : RD K ρ H d v) : ∃ a xs, v = .ref a ∧ RDs K ρ H l xs ∧ ((SqL K H a xs ∧ ∀ l', d ≠ .tup l') ∨ (SqT K H a xs ∧ d = .tup l)) := by
  cases r with
  | tup t r => simp only [seqOf] at h; cases h; exact ⟨_, _, rfl, r, .inr ⟨t, rfl⟩⟩
  | rol t r => simp only [seqOf] at h; cases h; exact ⟨_, _, rfl, r, .inl ⟨t.sql, fun _ e => by cases e⟩⟩
  | obj e =>
    simp only [seqOf] at h
    split at h
    · rename_i l' hl
      cases h
      obtain ⟨_, xs, he, _, m, r⟩ := r_lst hR (.obj e) hl
      cases he
      exact ⟨_, _, rfl, r, .inl ⟨SqL.of m, fun _ e => by cases e⟩⟩
    · cases h
  | _ => simp [seqOf] at h
theorem rds1 {ds : List D} {xs : List V} (r : RDs K ρ H ds xs) {d : D} (h : ds = [d]) : ∃ v, xs = [v] ∧ RD K ρ H d v := by
  subst h
  cases r with
  | cons r1 r2 => cases r2; exact ⟨_, rfl, r1⟩
theorem rds2 {xs : List V} {d e : D} (r : RDs K ρ H [d, e] xs) : ∃ v w, xs = [v, w] ∧ RD K ρ H d v ∧ RD K ρ H e w := by
  cases r with
  | cons r1 r2 => cases r2 with
    | cons r2 r3 => cases r3; exact ⟨_, _, rfl, r1, r2⟩
def lenD (S : AH) : D → Option Nat
  | .str z => if z.length ≤ sizeLine then some z.length else none
  | .obj i => match S[i]? with
    | some (.lst l) => some l.length
    | some (.dic l) => some l.length
    | _ => none
  | d => (seqOf S d).map List.length
def lenO : OpN := fun ds S => match ds with
  | [d] => (lenD S d).map fun n => (.int n, S)
  | _ => none
theorem r_dic (r : R K ρ S H) {i : Nat} {v : V} {kvs : List (Key × D)} (hv : RD K ρ H (.obj i) v) (h : S[i]? = some (.dic kvs)) : ∃ a ys, v = .ref a ∧ ρ[i]? = some a ∧ H a = some (.dK ys) ∧ ys.map (·.1) = kvs.map (·.1) ∧ RDs K ρ H (kvs.map (·.2)) (ys.map (·.2)) := by
  cases hv with
  | obj e =>
    obtain ⟨ys, e1, k, r1⟩ := r.at_ _ _ _ e h
    exact ⟨_, ys, rfl, e, e1, k, r1⟩
theorem r_ins (r : R K ρ S H) {i : Nat} {v : V} {C : Str} {fs : List (Str × D)} (hv : RD K ρ H (.obj i) v) (h : S[i]? = some (.ins C fs)) : ∃ a dx ys, v = .ref a ∧ ρ[i]? = some a ∧ H a = some (.ins (He.ga K C) dx ys) ∧ ys.map (·.1) = fs.map (·.1) ∧ RDs K ρ H (fs.map (·.2)) (ys.map (·.2)) := by
  cases hv with
  | obj e =>
    obtain ⟨dx, ys, e1, k, r1⟩ := r.at_ _ _ _ e h
    exact ⟨_, dx, ys, rfl, e, e1, k, r1⟩
theorem o_len : CallR X (.builtin "len") (rdC X.K lenO) := clr_ok (clr_or call_len call_lenD) fun ρ S H ds xs d' S' Q hR rx z q => by
  unfold lenO at z
  split at z
  · rename_i d
    obtain ⟨v, rfl, rv⟩ := rds1 rx rfl
    cases w : lenD S d with
    | none => rw [w] at z; cases z
    | some n =>
      rw [w] at z
      cases z
      have fin := q ρ H _ (Le.refl _) hR .int
      have sq : ∀ l, seqOf S d = some l → n = l.length → (∃ x n, [v] = [x] ∧ LenV X.K x H n ∧ Q (V.int n) H) := fun l h1 h2 => by
        obtain ⟨a, ys, rfl, r2, hh⟩ := seq_ok hR h1 rv
        refine ⟨_, n, rfl, ?_, fin⟩
        rcases hh with ⟨hh, _⟩ | ⟨hh, _⟩
        · exact .inl ⟨ys, hh, by rw [h2, r2.length]⟩
        · exact .inr ⟨ys, hh, by rw [h2, r2.length]⟩
      unfold lenD at w
      split at w
      · cases rv
        split at w
        · cases w
          exact .inl ⟨_, _, rfl, ⟨by assumption, rfl⟩, fin⟩
        · cases w
      · rename_i i
        split at w
        · rename_i l hl
          cases w
          exact .inl (sq l (by simp only [seqOf, hl]) rfl)
        · rename_i l hl
          cases w
          obtain ⟨a, ys, rfl, _, m, k, r2⟩ := r_dic hR rv hl
          refine .inr ⟨a, ys, rfl, m, ?_⟩
          have e1 : ys.length = l.length := by simpa using congrArg List.length k
          rw [e1]
          exact fin
        · cases w
      · cases w2 : seqOf S d with
        | none => rw [w2] at w; cases w
        | some l =>
          rw [w2] at w
          cases w
          exact .inl (sq l w2 rfl)
  · cases z
def absO : OpN := fun ds S => match ds with
  | [.int i] => some (.int (if i < 0 then -i else i), S)
  | _ => none
theorem o_abs : CallR X (.builtin "abs") (rdC X.K absO) := clr_ok call_abs fun ρ S H ds xs d' S' Q hR rx z q => by
  unfold absO at z
  split at z
  · obtain ⟨v, rfl, rv⟩ := rds1 rx rfl
    cases rv
    cases z
    exact ⟨_, rfl, q ρ H _ (Le.refl _) hR .int⟩
  · cases z
def intC : OpN := fun ds S => match ds with
  | [.int i] => some (.int i, S)
  | _ => none
theorem o_int : CallR X (.type "int") (rdC X.K intC) := clr_ok call_int1 fun ρ S H ds xs d' S' Q hR rx z q => by
  unfold intC at z
  split at z
  · obtain ⟨v, rfl, rv⟩ := rds1 rx rfl
    cases rv
    cases z
    exact .inl ⟨_, rfl, q ρ H _ (Le.refl _) hR .int⟩
  · cases z
def minO : OpN := fun ds S => match ds with
  | [.int i, .int j] => some (.int (if j < i then j else i), S)
  | _ => none
theorem o_min (hc : X.calm = true) : CallR X (.builtin "min") (rdC X.K minO) := clr_ok (call_min2 hc) fun ρ S H ds xs d' S' Q hR rx z q => by
  unfold minO at z
  split at z
  · obtain ⟨v, w, rfl, rv, rw'⟩ := rds2 rx
    cases rv
    cases rw'
    cases z
    exact ⟨_, _, rfl, q ρ H _ (Le.refl _) hR .int⟩
  · cases z
def tupO : OpN := fun ds S => match ds with
  | [d] => (seqOf S d).map fun l => (.tup l, S)
  | _ => none
theorem o_tuple : CallR X (.type "tuple") (rdC X.K tupO) := clr_ok call_tuple_of fun ρ S H ds xs d' S' Q hR rx z q => by
  unfold tupO at z
  split at z
  · rename_i d
    obtain ⟨v, rfl, rv⟩ := rds1 rx rfl
    cases w : seqOf S d with
    | none => rw [w] at z; cases z
    | some l =>
      rw [w] at z
      cases z
      obtain ⟨a, ys, rfl, r2, hh⟩ := seq_ok hR w rv
      refine ⟨a, ys, rfl, ?_⟩
      rcases hh with ⟨hh, _⟩ | ⟨hh, _⟩
      · exact .inl ⟨hh, fun p hp => q ρ _ _ (le_new0 hp) (hR.side hp) (.tup (SqT.of upd_same) (r2.mono _ (le_new0 hp)))⟩
      · exact .inr ⟨hh, q ρ _ _ (Le.refl _) hR (.tup hh r2)⟩
  · cases z
def lstO : OpN := fun ds S => match ds with
  | [d] => (seqOf S d).map fun l => (.obj S.length, S ++ [.lst l])
  | _ => none
theorem o_list : CallR X (.type "list") (rdC X.K lstO) := clr_ok call_list_of fun ρ S H ds xs d' S' Q hR rx z q => by
  unfold lstO at z
  split at z
  · rename_i d
    obtain ⟨v, rfl, rv⟩ := rds1 rx rfl
    cases w : seqOf S d with
    | none => rw [w] at z; cases z
    | some l =>
      rw [w] at z
      cases z
      obtain ⟨a, ys, rfl, r2, hh⟩ := seq_ok hR w rv
      refine ⟨a, ys, rfl, hh.imp (·.1) (·.1), fun p hp => ?_⟩
      exact q (ρ ++ [p]) _ _ (le_new hp _) (hR.new hp ⟨_, upd_same, r2.mono _ (le_new hp _)⟩) hR.newv
  · cases z
/-! ### lists of ints, of bools -/
def intsOf : List D → Option (List Int)
  | [] => some []
  | .int i :: ds => (intsOf ds).map (i :: ·)
  | _ => none
def blsOf : List D → Option (List Bool)
  | [] => some []
  | .bl i :: ds => (blsOf ds).map (i :: ·)
  | _ => none
theorem ints_ok {ds xs} (r : RDs K ρ H ds xs) : ∀ {ns}, intsOf ds = some ns → xs = ns.map V.int := by
  match r with
  | .nil => intro ns h; simp [intsOf] at h; subst h; rfl
  | .cons r1 r2 =>
    intro ns h
    cases r1 <;> simp only [intsOf] at h <;> try (cases h; done)
    simp only [Option.map_eq_some_iff] at h
    obtain ⟨ms, h1, rfl⟩ := h
    rw [ints_ok r2 h1]
    rfl
theorem bls_ok {ds xs} (r : RDs K ρ H ds xs) : ∀ {ns}, blsOf ds = some ns → xs = ns.map V.bl := by
  match r with
  | .nil => intro ns h; simp [blsOf] at h; subst h; rfl
  | .cons r1 r2 =>
    intro ns h
    cases r1 <;> simp only [blsOf] at h <;> try (cases h; done)
    simp only [Option.map_eq_some_iff] at h
    obtain ⟨ms, h1, rfl⟩ := h
    rw [bls_ok r2 h1]
    rfl
/-- a list object's (or read only list's) items -/
def lstOf (S : AH) : D → Option (List D)
  | .rol l => some l
  | .obj i => match S[i]? with
    | some (.lst l) => some l
    | _ => none
  | _ => none
theorem lst_ok (hR : R K ρ S H) {d : D} {v : V} {l : List D} (h : lstOf S d = some l) (r : RD K ρ H d v) : ∃ a xs, v = .ref a ∧ RDs K ρ H l xs ∧ SqL K H a xs := by
  cases r with
  | rol t r => simp only [lstOf] at h; cases h; exact ⟨_, _, rfl, r, t.sql⟩
  | obj e =>
    simp only [lstOf] at h
    split at h
    · rename_i l' hl
      cases h
      obtain ⟨_, xs, he, _, m, r⟩ := r_lst hR (.obj e) hl
      cases he
      exact ⟨_, _, rfl, r, SqL.of m⟩
    · cases h
  | _ => simp [lstOf] at h
def sumO : OpN := fun ds S => match ds with
  | [d] => ((lstOf S d).bind intsOf).map fun ns => (.int ns.sum, S)
  | _ => none
def maxL : List Int → Int
  | [] => 0
  | [i] => i
  | i :: is => max i (maxL is)
def maxO : OpN := fun ds S => match ds with
  | [d] => ((lstOf S d).bind intsOf).bind fun ns => if ns = [] then none else some (.int (maxL ns), S)
  | _ => none
def allO : OpN := fun ds S => match ds with
  | [d] => ((lstOf S d).bind blsOf).map fun bs => (.bl (bs.all id), S)
  | _ => none
def anyO : OpN := fun ds S => match ds with
  | [d] => ((lstOf S d).bind blsOf).map fun bs => (.bl (bs.any id), S)
  | _ => none
theorem o_sum (hc : X.calm = true) : CallR X (.builtin "sum") (rdC X.K sumO) := clr_ok (cr_sum hc) fun ρ S H ds xs d' S' Q hR rx z q => by
  unfold sumO at z
  split at z
  · rename_i d
    obtain ⟨v, rfl, rv⟩ := rds1 rx rfl
    simp only [Option.map_eq_some_iff, Option.bind_eq_some_iff] at z
    obtain ⟨ns, ⟨l, h1, h2⟩, h3⟩ := z
    cases h3
    obtain ⟨a, ys, rfl, r2, hh⟩ := lst_ok hR h1 rv
    refine ⟨a, ns, rfl, by rw [← ints_ok r2 h2]; exact hh, q ρ H _ (Le.refl _) hR .int⟩
  · cases z
theorem maxL_spec : ∀ ns : List Int, ns ≠ [] → maxL ns ∈ ns ∧ ∀ y ∈ ns, y ≤ maxL ns
  | [], h => absurd rfl h
  | [i], _ => by simp [maxL]
  | i :: j :: is, _ => by
    obtain ⟨h1, h2⟩ := maxL_spec (j :: is) (by simp)
    have e : maxL (i :: j :: is) = max i (maxL (j :: is)) := rfl
    rw [e]
    constructor
    · by_cases hle : i ≤ maxL (j :: is)
      · rw [Int.max_eq_right hle]; exact List.mem_cons_of_mem _ h1
      · rw [Int.max_eq_left (by omega)]; exact List.mem_cons_self
    · intro y hy
      rcases List.mem_cons.mp hy with rfl | hy
      · exact Int.le_max_left _ _
      · exact Int.le_trans (h2 y hy) (Int.le_max_right _ _)
theorem o_max (hc : X.calm = true) : CallR X (.builtin "max") (rdC X.K maxO) := clr_ok (cr_max hc) fun ρ S H ds xs d' S' Q hR rx z q => by
  unfold maxO at z
  split at z
  · rename_i d
    obtain ⟨v, rfl, rv⟩ := rds1 rx rfl
    simp only [Option.bind_eq_some_iff] at z
    obtain ⟨ns, ⟨l, h1, h2⟩, h3⟩ := z
    split at h3
    · cases h3
    · rename_i hne
      cases h3
      obtain ⟨a, ys, rfl, r2, hh⟩ := lst_ok hR h1 rv
      refine ⟨a, ns, rfl, by rw [← ints_ok r2 h2]; exact hh, List.length_pos_iff.mpr hne, fun m hm hy => ?_⟩
      obtain ⟨k1, k2⟩ := maxL_spec ns hne
      have : m = maxL ns := by
        have := hy _ k1
        have := k2 _ hm
        omega
      rw [this]
      exact q ρ H _ (Le.refl _) hR .int
  · cases z
theorem o_all (hc : X.calm = true) : CallR X (.builtin "all") (rdC X.K allO) := clr_ok (cr_all hc) fun ρ S H ds xs d' S' Q hR rx z q => by
  unfold allO at z
  split at z
  · rename_i d
    obtain ⟨v, rfl, rv⟩ := rds1 rx rfl
    simp only [Option.map_eq_some_iff, Option.bind_eq_some_iff] at z
    obtain ⟨ns, ⟨l, h1, h2⟩, h3⟩ := z
    cases h3
    obtain ⟨a, ys, rfl, r2, hh⟩ := lst_ok hR h1 rv
    refine ⟨a, ns, rfl, by rw [← bls_ok r2 h2]; exact hh, q ρ H _ (Le.refl _) hR .bl⟩
  · cases z
theorem o_any (hc : X.calm = true) : CallR X (.builtin "any") (rdC X.K anyO) := clr_ok (cr_any hc) fun ρ S H ds xs d' S' Q hR rx z q => by
  unfold anyO at z
  split at z
  · rename_i d
    obtain ⟨v, rfl, rv⟩ := rds1 rx rfl
    simp only [Option.map_eq_some_iff, Option.bind_eq_some_iff] at z
    obtain ⟨ns, ⟨l, h1, h2⟩, h3⟩ := z
    cases h3
    obtain ⟨a, ys, rfl, r2, hh⟩ := lst_ok hR h1 rv
    refine ⟨a, ns, rfl, by rw [← bls_ok r2 h2]; exact hh, q ρ H _ (Le.refl _) hR .bl⟩
  · cases z

/-! ### isinstance -/
def tyOf (S : AH) : D → Option String
  | .non => some "NoneType" | .bl _ => some "bool" | .int _ => some "int" | .str _ => some "str" | .tup _ => some "tuple" | .rol _ => some "list"
  | .obj i => match S[i]? with
    | some (.lst _) => some "list"
    | some (.dic _) => some "dict"
    | _ => none
def isiO (T : String) : Op1 := fun d S => ((tyOf S d).bind fun t => kitB t T).map fun b => (.bl b, S)
theorem sqt_ty {a xs} (h : SqT K H a xs) : TyX K H (.ref a) (.type "tuple") := by
  rcases h with (h | ⟨o, h⟩) | ⟨o, its, n, h1, h2, _⟩
  · exact .base (.tup h)
  · exact .fTuple h
  · exact .kTuple h1 h2
theorem ty_ok (hR : R K ρ S H) {d : D} {v : V} {t : String} (h : tyOf S d = some t) (r : RD K ρ H d v) : TyX K H v (.type t) := by
  cases r with
  | non => cases h; exact .base .non
  | bl => cases h; exact .base (.bl _)
  | int => cases h; exact .base (.int _)
  | str => cases h; exact .base (.str _)
  | tup t r => cases h; exact sqt_ty t
  | rol t r =>
    cases h
    rcases t with ⟨o, t⟩ | ⟨o, its, n, h1, h2, _⟩
    · exact .base (.frz t)
    · exact .kList h1 h2
  | obj e =>
    simp only [tyOf] at h
    split at h
    · rename_i l' hl
      cases h
      obtain ⟨_, xs, he, _, m, r⟩ := r_lst hR (.obj e) hl
      cases he
      exact .base (.lst m)
    · rename_i l' hl
      cases h
      obtain ⟨_, xs, he, _, m, r⟩ := r_dic hR (.obj e) hl
      cases he
      exact .base (.dK m)
    · cases h
theorem isi_rd {T : String} : ∀ σ H Q, rd X.K W (e1 (isiO T) f) σ H Q → tCB (rIsi X.K) (tCons (rd X.K W f) (tCons (tC (.ty T)) tNil)) σ H Q := by
  rintro σ H Q ⟨ρ, env, S, hR, hE, q⟩
  refine ⟨ρ, env, S, hR, hE, Aft.imp (Aft.bind q) fun d ρ1 S1 H1 l1 r1 q1 v rv => ?_⟩
  cases z : isiO T d S1 with
  | none => rw [z] at q1; exact q1.elim
  | some p =>
    rw [z] at q1
    simp only [isiO, Option.map_eq_some_iff, Option.bind_eq_some_iff] at z
    obtain ⟨b, ⟨t, h1, h2⟩, h3⟩ := z
    subst h3
    exact ⟨v, .ty T, .type t, .type T, b, rfl, .ty T, ty_ok r1 h1 rv, kit_ty h2, q1.ok (Le.refl _) r1 _ .bl⟩
theorem fe_isi {T : String} {x : Str} {p p2 : Pos} (hg : Gl X "isinstance") (hm : X.mg "isinstance" = none) (hg2 : Gl X x) (hm2 : X.mg x = none) (hv2 : bootBuiltins x = some (.type T)) (ha : FE X W a f) (hn : x ≠ "__name__" := by decide) (hd2 : (x == ("__debug__" : Str)) = false := by decide)
    (hv : bootBuiltins "isinstance" = some (.builtin "isinstance") := by first | exact PySem.boot_isinstance | decide +kernel) (hs1 : starEach [a, .Name x p2] X.env = (false, eval a X.env) :: starEach [.Name x p2] X.env := by rfl) (hs2 : starEach [.Name x p2] X.env = (false, eval (.Name x p2) X.env) :: starEach [] X.env := by rfl)
    (hpl : (backTo pos (starEach [.Name x p2] X.env)).any (·.1) = false := by rfl) : FE X W (.Call (.Name "isinstance" p) [a, .Name x p2] [] pos) (e1 (isiO T) f) := fe_of (pe_callB call_isi hg hm hv (pa_cons ha (pa_cons (pe_bltn (v := .ty T) hg2 hm2 hv2 rfl hn hd2) pa_nil hs2) hs1) (by decide) (by decide) hs1 hpl) isi_rd
end
end Y

set_option Elab.async false
set_option linter.all false
set_option maxRecDepth 100000
namespace Y
open PySem PySem.Spec L2

section
variable {X : Cx} {W : WX} {e a b c : Expr} {es : List Expr} {f g h : Ev} {pos : Pos} {ft gt : Et} {fa : Ea} {K : PySem.W.Frag} {ρ : List Addr} {S : AH} {H : Hp}
/-! ### xs[i] -/
def ixO : Op2 := fun d e S => match e with
  | .int i => match seqOf S d with
    | some l => (atI l i).map fun d => (d, S)
    | none => match d with
      | .str z => if z.length ≤ sizeLine then (atI z.cps.toList i).map fun c => (.str ⟨#[c]⟩, S) else none
      | _ => none
  | _ => none
theorem rds_atI {l : List D} {xs : List V} (r : RDs K ρ H l xs) {i : Int} {d : D} (h : atI l i = some d) : ∃ v, atI xs i = some v ∧ RD K ρ H d v := by
  unfold atI at h ⊢
  rw [← r.length]
  cases q : ixN l.length i with
  | none => rw [q] at h; cases h
  | some j =>
    rw [q] at h
    exact r.get h
theorem o_ix : IxR X (rdO X.K ixO) := fun value slice pins s σ H x y v u Q I rx ry q hs => by
  refine (IxR.or ix_list (IxR.or ix_tup ix_str)) value slice pins s σ H x y v u Q I rx ry ?_ hs
  obtain ⟨ρ, S, d, e, d', S', hR, rd1, rd2, z, q⟩ := q
  unfold ixO at z
  split at z
  · cases rd2
    rename_i i
    split at z
    · rename_i l hl
      obtain ⟨a, xs, rfl, r2, hh⟩ := seq_ok hR hl rd1
      simp only [Option.map_eq_some_iff] at z
      obtain ⟨d2, h1, h2⟩ := z
      cases h2
      obtain ⟨w, h3, r3⟩ := rds_atI r2 h1
      rcases hh with ⟨hh, _⟩ | ⟨hh, _⟩
      · exact .inl ⟨a, xs, i, w, rfl, rfl, hh, h3, q ρ H _ (Le.refl _) hR r3⟩
      · exact .inr (.inl ⟨a, xs, i, w, rfl, rfl, hh, h3, q ρ H _ (Le.refl _) hR r3⟩)
    · split at z
      · cases rd1
        split at z
        · rename_i hz
          simp only [Option.map_eq_some_iff] at z
          obtain ⟨c, h1, h2⟩ := z
          cases h2
          exact .inr (.inr ⟨_, i, c, rfl, rfl, hz, h1, q ρ H _ (Le.refl _) hR .str⟩)
        · cases z
      · cases z
  · cases z
theorem fe_ix (ha : FE X W a f) (hb : FE X W b g) (hs : PlainIx b := by exact fun _ _ => rfl) : FE X W (.Subscript a b pos) (e2 ixO f g) := fe_of (pe_ix o_ix ha hb hs) two_rd

/-! ### xs[i:j] -/
abbrev Ep := En → AH → Rs (Option Int)
def FO (X : Cx) (W : WX) (e : Option Expr) (p : Ep) : Prop := PO X e (fun σ H Q => ∃ ρ env S, R X.K ρ S H ∧ RE X.K ρ H env σ ∧ Aft X.K W ρ σ H (p env S) fun o ρ' S' H' => Q o H')
def pNone : Ep := fun _ S => .ok none S
def pSome (f : Ev) : Ep := fun env S => (f env S).bind fun d S1 => match d with
  | .int i => .ok (some i) S1
  | _ => .bad
theorem po_of {e : Option Expr} {p : Ep} {t : TO} (hp : PO X e t) (i : ∀ σ H Q, (∃ ρ env S, R X.K ρ S H ∧ RE X.K ρ H env σ ∧ Aft X.K W ρ σ H (p env S) fun o ρ' S' H' => Q o H') → t σ H Q) : FO X W e p := ⟨fun pins s σ H Q I h => hp.run pins s σ H Q I (i σ H Q h)⟩
theorem fo_none : FO X W none pNone := po_of po_none fun σ H Q ⟨ρ, env, S, hR, hE, q⟩ => q.ok (Le.refl _) hR
theorem fo_some (h : FE X W a f) : FO X W (some a) (pSome f) := po_of (po_some h) fun σ H Q ⟨ρ, env, S, hR, hE, q⟩ => by
  refine ⟨ρ, env, S, hR, hE, Aft.imp (Aft.bind q) fun d ρ1 S1 H1 l1 r1 q1 v rv => ?_⟩
  cases rv <;> first | exact q1.elim | exact ⟨_, rfl, q1.ok (Le.refl _) r1⟩
def cutD (xs : List D) (lo hi : Option Int) : List D := (xs.drop (HT.sIx xs.length 0 lo)).take (HT.sIx xs.length xs.length hi - HT.sIx xs.length 0 lo)
theorem rds_cut {l : List D} {xs : List V} (r : RDs K ρ H l xs) (lo hi : Option Int) : RDs K ρ H (cutD l lo hi) (cutV xs lo hi) := by
  unfold cutD cutV
  rw [r.length]
  exact (r.drop _).take _
theorem cut_whole {l : List D} {lo hi : Option Int} (h : HT.sIx l.length 0 lo = 0 ∧ HT.sIx l.length l.length hi = l.length) : cutD l lo hi = l := by
  unfold cutD
  rw [h.1, h.2]
  simp
def slO (d : D) (lo hi : Option Int) (S : AH) : Option (D × AH) := match d with
  | .tup l => some (.tup (cutD l lo hi), S)
  | .str z => if z.length ≤ sizeLine then some (.str (cutS z lo hi), S) else none
  | d => (lstOf S d).map fun l => (.obj S.length, S ++ [.lst (cutD l lo hi)])
def eSl (f : Ev) (p q : Ep) : Ev := fun env S => (f env S).bind fun d S1 => (p env S1).bind fun lo S2 => (q env S2).bind fun hi S3 => lf (slO d lo hi S3)
theorem fe_slice {lo hi : Option Expr} {p q : Ep} {p2 : Pos} (he : FE X W a f) (hl : FO X W lo p) (hu : FO X W hi q) : FE X W (.Subscript a (.Slice lo hi none p2) pos) (eSl f p q) := fe_of (pe_slice (SlR.or sl_list (SlR.or sl_tupA sl_str)) he hl hu) fun σ H Q z => by
  obtain ⟨ρ, env, S, hR, hE, z⟩ := z
  refine ⟨ρ, env, S, hR, hE, Aft.imp (Aft.bind z) fun d ρ1 S1 H1 l1 r1 q1 v rv => ?_⟩
  refine ⟨ρ1, env, S1, r1, hE.mono _ l1, Aft.imp (Aft.bind q1) fun lo ρ2 S2 H2 l2 r2 q2 => ?_⟩
  refine ⟨ρ2, env, S2, r2, (hE.mono _ l1).mono _ l2, Aft.imp (Aft.bind q2) fun hi ρ3 S3 H3 l3 r3 q3 => ?_⟩
  have rv := (rv.mono _ l2).mono _ l3
  unfold slO at q3
  cases rv with
  | tup t r =>
    have q3 := q3.ok (l := Le.refl _) (r := r3)
    refine .inr (.inl ⟨_, _, rfl, t, fun hw => ?_, fun _ p hp => ?_⟩)
    · rw [← r.length] at hw
      rw [cut_whole hw] at q3
      exact q3 _ (.tup t r)
    · have z := (show Aft X.K W ρ3 σ H3 (.ok (D.tup (cutD _ lo hi)) S3) _ from ‹_›)
      exact z.ok (le_new0 hp) (r3.side hp) _ (.tup (SqT.of upd_same) ((rds_cut r lo hi).mono _ (le_new0 hp)))
  | str =>
    simp only at q3
    split at q3
    · rename_i hz
      exact .inr (.inr ⟨_, rfl, hz, q3.ok (Le.refl _) r3 _ .str⟩)
    · exact q3.elim
  | obj e =>
    rename_i i a
    simp only at q3
    cases w : lstOf S3 (.obj i) with
    | none => rw [w] at q3; exact q3.elim
    | some l =>
      rw [w] at q3
      obtain ⟨a, xs, hv, rr, hs⟩ := lst_ok r3 w (.obj e)
      cases hv
      refine .inl ⟨_, xs, rfl, hs, fun p hp => ?_⟩
      exact q3.ok (le_new hp _) (r3.new hp ⟨_, upd_same, (rds_cut rr lo hi).mono _ (le_new hp _)⟩) _ r3.newv
  | rol t r =>
    simp only [lstOf, Option.map_some, lf] at q3
    refine .inl ⟨_, _, rfl, t.sql, fun p hp => ?_⟩
    exact q3.ok (le_new hp _) (r3.new hp ⟨_, upd_same, (rds_cut r lo hi).mono _ (le_new hp _)⟩) _ r3.newv
  | _ => exact q3.elim
end
end Y

set_option Elab.async false
set_option linter.all false
set_option maxRecDepth 100000
namespace HT
open PySem PySem.Spec PyProof.Rows PySem.Calls
section
variable {prog : Program} {w : World} {A : Around} {E : Value → Shared → Prop} {s : Shared}
theorem sliceApplied_rev {sl : Addr} {n : Nat} {vs : Value} {Q : Int × Int × Nat → Shared → Prop} (hs : s.heap.IsSliceOf sl .none .none vs) (ps : IsPart vs (some (-1)))
    (h : Q ((n : Int) - 1, -1, n) s) : wpAny (model prog w) A (Builtin.Slice.sliceApplied (.ref sl) (pure (n : Int))) Q E s := by
  obtain ⟨os, hos, hcs, hds⟩ := id hs
  unfold Builtin.Slice.sliceApplied Builtin.Slice.sliceFields
  refine wpAny_bind (wpAny_bind (wpAny_field hos hds (x := .none) rfl (wpAny_bind (wpAny_field hos hds (x := .none) rfl (wpAny_bind (wpAny_field hos hds (x := vs) rfl (wpAny_pure ?_)))))))
  refine wpAny_bind (slicePart_ ps ?_)
  show wpAny _ _ (if ((-1 : Int) == 0) = true then _ else _) _ _ s
  rw [if_neg (by decide)]
  refine wpAny_bind (slicePart_none (wpAny_bind (slicePart_none (wpAny_bind (wpAny_pure ?_)))))
  show wpAny _ _ (match Builtin.Slice.sliceAdjust none none (-1) (n : Int) with | (lo, hi) => pure (lo, (-1 : Int), Builtin.Slice.slicePlaces lo hi (-1))) _ _ s
  have e1 : Builtin.Slice.sliceAdjust none none (-1) (n : Int) = ((n : Int) - 1, -1) := by
    unfold Builtin.Slice.sliceAdjust
    simp
  rw [e1]
  show wpAny _ _ (pure ((n : Int) - 1, (-1 : Int), Builtin.Slice.slicePlaces ((n : Int) - 1) (-1) (-1))) _ _ s
  have e2 : Builtin.Slice.slicePlaces ((n : Int) - 1) (-1) (-1) = n := by
    unfold Builtin.Slice.slicePlaces
    have h1 : ¬ ((-1 : Int) > 0) := by decide
    simp only [h1, if_false]
    split
    · rename_i h2
      have : ((n : Int) - 1 - -1 - -1 - 1) / (- -1) = (n : Int) := by
        rw [show (- -1 : Int) = 1 by decide, Int.ediv_one]
        omega
      first | omega | simp_all | (simp; omega)
    · omega
  rw [e2]
  exact wpAny_pure h
theorem fm_congr {α β : Type} {f g : α → Option β} : ∀ {l : List α}, (∀ x ∈ l, f x = g x) → l.filterMap f = l.filterMap g
  | [], _ => rfl
  | x :: l, h => by
    rw [List.filterMap_cons, List.filterMap_cons, h x List.mem_cons_self, fm_congr fun y hy => h y (List.mem_cons_of_mem _ hy)]
theorem pick_rev (xs : Array Value) (n : Nat) (hn : n = xs.size) : ((List.range n).filterMap fun (m : Nat) => xs[((n : Int) - 1 + (m : Int) * -1).toNat]?).toArray = xs.toList.reverse.toArray := by
  subst hn
  congr 1
  rw [← PySem.W.krv_all xs, ← List.filterMap_reverse, ← PySem.W.krv_range, List.filterMap_map]
  apply fm_congr
  intro m hm
  have := List.mem_range.mp hm
  have e : ((xs.size : Int) - 1 + (m : Int) * -1).toNat = xs.size - 1 - m := by omega
  rw [e]
  rfl
theorem getItem_tuple_rev {t sl : Addr} {items : Array Value} {vs : Value} {Q : Value → Shared → Prop} (ht : IsTup s.heap t items) (hs : s.heap.IsSliceOf sl .none .none vs) (ps : IsPart vs (some (-1)))
    (h : Q (.ref s.heap.objs.size) { s with heap := s.heap.push { cls := .type "tuple", data := .seq items.toList.reverse.toArray } })
    (hsz : items.size ≤ sizeLine) : wpAny (model prog w) A (getItem (.ref t) (.ref sl)) Q E s := by
  have htake : sizeOk (.seq items.toList.reverse.toArray) := by
    show items.toList.reverse.toArray.size ≤ sizeLine
    simpa using hsz
  obtain ⟨os, hos, hcs, hds⟩ := id hs
  have hTs : s.TypeIs (.ref sl) "slice" := ⟨os, hos, hcs⟩
  unfold getItem
  try with_reducible refine wpAny_holding ?_
  first | refine wpAny_bind (wpAny_pure ?_) | skip
  refine wpAny_bind (wpAny_sequenceKey ht.typeIs (by decide) ?_)
  refine wpAny_bind (wpAny_callSpecial?_slot (name := Str.ofString "__getitem__") ht.typeIs PyProof.Rows.slot_tuple_getitem
    (wpAny_call_entry PyProof.Rows.slot_tuple_getitem ht.typeIs entry_tuple_getitem ?_ (args_tuple_getitem _ _)))
  show wpAny _ _ (Builtin.Tuple.tupleItemsOf (.ref t) >>= _) _ _ s
  refine wpAny_bind (tupleItemsOf_ ht ?_)
  refine wpAny_bind (wpAny_typeOf hTs ?_)
  rw [if_pos (by decide)]
  refine wpAny_bind (sliceApplied_rev hs ps ?_)
  show wpAny _ _ (if (((items.size : Int) - 1 == 0) && (-1 : Int) == 1 && items.size == items.size) = true then _ else _) _ _ s
  rw [if_neg (by simp), pick_rev _ _ rfl]
  first
    | exact wpAny_bind (m := Builtin.Tuple.tupleExact _) (wpAny_newObj_type (wpAny_pure ⟨_, rfl, wpAny_pure h⟩) htake)
    | exact wpAny_bind (m := Builtin.Tuple.tupleExact _) (wpAny_newObj_type (wpAny_bind (wpAny_pure (wpAny_pure ⟨_, rfl, wpAny_pure h⟩))) htake)
    | exact wpAny_bind (wpAny_bind (m := Builtin.Tuple.tupleExact _) (wpAny_newObj_type (wpAny_pure (wpAny_pure ⟨_, rfl, wpAny_pure h⟩)) htake))
    | exact wpAny_bind (wpAny_bind (m := Builtin.Tuple.tupleExact _) (wpAny_newObj_type (wpAny_pure ⟨_, rfl, wpAny_pure h⟩) htake))
end
end HT
namespace Y
open PySem PySem.Spec L2
open PyProof.Rows (IsTup tail_any subscriptTail)
def tRevA (K : PySem.W.Frag) (te : TE) : TE := fun σ H Q => te σ H fun x H1 => ∃ a xs, x = .ref a ∧ (SqL K H1 a xs ∧ (∀ p, H1 p = none → Q (.ref p) (upd H1 p (.lst xs.reverse))) ∨ SqT K H1 a xs ∧ ∀ p, H1 p = none → Q (.ref p) (upd H1 p (.tup xs.reverse)))
theorem pe_revA {X : Cx} {e : Expr} {te : TE} {k : Nat} {p1 p2 p3 pos : Pos} (he : PE X e te) : PE X (.Subscript e (.Slice none none (some (.UnaryOp .USub (.Constant (.int 1) k p1) p2)) p3) pos) (tRevA X.K te) := by
  refine ⟨fun pins s σ H Q I h => ?_⟩
  refine PyProof.Rows.Subscript_ (thn (he.run pins s σ H _ I h) fun v s1 ⟨x, H1, I1, r1, q1⟩ => ?_)
  obtain ⟨a, xs, ex, hx⟩ := q1
  subst ex
  cases r1
  have hst : PO X (some (.UnaryOp .USub (.Constant (.int 1) k p1) p2)) (tPart (tUn (rU fun i => .int (-i)) (tC (.int 1)))) := po_some (pe_un un_neg pe_int)
  refine wpAny_Slice (thn (po_none.run pins s1 σ H1 (fun o H2 => o = none ∧ H2 = H1) I1 ⟨rfl, rfl⟩) fun vl s2 ⟨l, H2, I2, pl, el, e2⟩ => ?_)
  subst el e2
  refine thn (po_none.run pins s2 σ H2 (fun o H3 => o = none ∧ H3 = H2) I2 ⟨rfl, rfl⟩) fun vu s3 ⟨u, H3, I3, pu, eu, e3⟩ => ?_
  subst eu e3
  refine thn (hst.run pins s3 σ H3 (fun o H4 => o = some (-1) ∧ H4 = H3) I3 ⟨1, rfl, -1, rfl, rfl, rfl⟩) fun vs s4 ⟨o, H4, I4, ps, eo, e4⟩ => ?_
  subst eo e4
  have I5 : Inv X pins σ H4 { s4 with heap := s4.heap.push { cls := .type "slice", data := .fields #[vl, vu, vs] } } := I4.kept (t' := s4.toks) fun b ob q => Heap.get?_push_of_some _ q
  show wpAny (model X.prog X.w) X.A (subscriptTail e (.Slice none none (some (.UnaryOp .USub (.Constant (.int 1) k p1) p2)) p3) (.ref a) (.ref s4.heap.objs.size)) (EP X pins σ Q) X.xe { s4 with heap := s4.heap.push { cls := .type "slice", data := .fields #[vl, vu, vs] } }
  rcases hx with ⟨hx, q⟩ | ⟨hx, q⟩
  · obtain ⟨its, r, ht, hz⟩ := I5.list hx
    have hlen := r.length
    refine tail_any (ops := [.ref a, .ref s4.heap.objs.size]) ht.isList.typeIs (PySem.slot_list_getitem.lookup) ?_ (by with_unfolding_all rfl)
    refine wpAny_getItem_list_slice ht.isList (Heap.IsSliceOf.new _ vl vu vs) pl pu ps (by decide) ?_ (by rw [List.size_toArray]; omega)
    rw [PySem.W.krv_pick]
    refine ⟨.ref _, _, I5.laid (t' := s4.toks) (o := .lst xs.reverse) (fun b ob q => Heap.get?_push_of_some _ q) (Nat.le_refl _) ?_, rfl, q _ (I5.hok.fresh (Nat.le_refl _))⟩
    exact ⟨by rw [List.length_reverse]; exact hz, _, 0, r.reverse, Heap.get?_push_size _ rfl⟩
  · obtain ⟨its, r, ht, hz⟩ := I5.tuple hx
    have hlen := r.length
    refine tail_any (ops := [.ref a, .ref s4.heap.objs.size]) ht.typeIs (PyProof.Rows.slot_tuple_getitem.lookup) ?_ (by with_unfolding_all rfl)
    cases pl
    cases pu
    refine HT.getItem_tuple_rev ht (Heap.IsSliceOf.new _ .none .none vs) ps ?_ (by rw [List.size_toArray]; omega)
    refine ⟨.ref _, _, I5.laid (t' := s4.toks) (o := .tup xs.reverse) (fun b ob q => Heap.get?_push_of_some _ q) (Nat.le_refl _) ?_, rfl, q _ (I5.hok.fresh (Nat.le_refl _))⟩
    exact ⟨by rw [List.length_reverse]; exact hz, _, r.reverse, IsTup.new _ _⟩

section
variable {X : Cx} {W : WX} {e a b c : Expr} {es : List Expr} {f g h : Ev} {pos : Pos} {ft gt : Et} {fa : Ea} {K : PySem.W.Frag} {ρ : List Addr} {S : AH} {H : Hp}
def revO : Op1 := fun d S => match d with
  | .tup l => some (.tup l.reverse, S)
  | d => (lstOf S d).map fun l => (.obj S.length, S ++ [.lst l.reverse])
theorem fe_rev {k : Nat} {p1 p2 p3 : Pos} (he : FE X W a f) : FE X W (.Subscript a (.Slice none none (some (.UnaryOp .USub (.Constant (.int 1) k p1) p2)) p3) pos) (e1 revO f) := fe_of (pe_revA he) fun σ H Q z => by
  obtain ⟨ρ, env, S, hR, hE, z⟩ := z
  refine ⟨ρ, env, S, hR, hE, Aft.imp (Aft.bind z) fun d ρ1 S1 H1 l1 r1 q1 v rv => ?_⟩
  cases rv with
  | tup t r =>
    refine ⟨_, _, rfl, .inr ⟨t, fun p hp => ?_⟩⟩
    have z := (show Aft X.K W ρ1 σ H1 (.ok (D.tup (List.reverse _)) S1) _ from q1)
    exact z.ok (le_new0 hp) (r1.side hp) _ (.tup (SqT.of upd_same) (r.rev.mono _ (le_new0 hp)))
  | obj e =>
    rename_i i a
    simp only [revO] at q1
    cases w : lstOf S1 (.obj i) with
    | none => rw [w] at q1; exact q1.elim
    | some l =>
      rw [w] at q1
      obtain ⟨a, xs, hv, rr, hs⟩ := lst_ok r1 w (.obj e)
      cases hv
      refine ⟨_, xs, rfl, .inl ⟨hs, fun p hp => ?_⟩⟩
      exact q1.ok (le_new hp _) (r1.new hp ⟨_, upd_same, rr.rev.mono _ (le_new hp _)⟩) _ r1.newv
  | rol t r =>
    simp only [revO, lstOf, Option.map_some, lf] at q1
    refine ⟨_, _, rfl, .inl ⟨t.sql, fun p hp => ?_⟩⟩
    exact q1.ok (le_new hp _) (r1.new hp ⟨_, upd_same, r.rev.mono _ (le_new hp _)⟩) _ r1.newv
  | _ => exact q1.elim
end
end Y

set_option Elab.async false
set_option linter.all false
set_option maxRecDepth 100000
namespace Y
open PySem PySem.Spec L2

section
variable {X : Cx} {W : WX} {e a b c : Expr} {es : List Expr} {f g h : Ev} {pos : Pos} {ft gt : Et} {fa : Ea} {K : PySem.W.Frag} {ρ : List Addr} {S : AH} {H : Hp}
/-! ### in -/
def flatD : D → Bool
  | .non => true | .bl _ => true | .int _ => true | .str _ => true | _ => false
def eqF : D → D → Bool
  | .non, .non => true
  | .bl a, .bl b => a == b
  | .bl a, .int b => (if a then 1 else 0) == b
  | .int a, .bl b => a == (if b then 1 else 0)
  | .int a, .int b => a == b
  | .str a, .str b => a == b
  | _, _ => false
theorem flat_ok {d v} (r : RD K ρ H d v) (h : flatD d = true) : flatV v = true := by cases r <;> simp_all [flatD, flatV]
theorem flats_ok {l xs} (r : RDs K ρ H l xs) : l.all flatD = true → xs.all flatV = true := by
  match r with
  | .nil => intro _; rfl
  | .cons r1 r2 =>
    intro h
    simp only [List.all_cons, Bool.and_eq_true] at h ⊢
    exact ⟨flat_ok r1 h.1, flats_ok r2 h.2⟩
theorem eqF_ok {d v d' v'} (r : RD K ρ H d v) (r' : RD K ρ H d' v') (h : flatD d = true) (h' : flatD d' = true) : eqV v v' = eqF d d' := by
  cases r <;> simp [flatD] at h <;> cases r' <;> simp [flatD] at h' <;> rfl
theorem inF_ok {d v} (r : RD K ρ H d v) (h : flatD d = true) {l xs} (rs : RDs K ρ H l xs) : l.all flatD = true → inV v xs = l.any fun y => eqF y d := by
  match rs with
  | .nil => intro _; rfl
  | .cons r1 r2 =>
    intro hl
    simp only [List.all_cons, Bool.and_eq_true] at hl
    have := inF_ok r h r2 hl.2
    unfold inV at this ⊢
    rw [List.any_cons, List.any_cons, this, eqF_ok r1 r hl.1 h]
def inD (d e : D) (S : AH) : Option Bool := match seqOf S e with
  | some l => if flatD d = true ∧ l.all flatD = true then some (l.any fun y => eqF y d) else none
  | none => match d, e with
    | .str ⟨⟨[c]⟩⟩, .str z => some (decide (c ∈ z.cps.toList))
    | _, _ => none
def inO : Op2 := fun d e S => (inD d e S).map fun b => (.bl b, S)
def ninO : Op2 := fun d e S => (inD d e S).map fun b => (.bl (!b), S)
theorem in_core (hR : R K ρ S H) {d e : D} {x y : V} (rx : RD K ρ H d x) (ry : RD K ρ H e y) {bb : Bool} (z : inD d e S = some bb) :
    (∃ p xs, y = .ref p ∧ (SqL K H p xs ∨ SqT K H p xs) ∧ flatV x = true ∧ xs.all flatV = true ∧ inV x xs = bb) ∨ ∃ (c : Nat) (z : Str), x = .str ⟨#[c]⟩ ∧ y = .str z ∧ decide (c ∈ z.cps.toList) = bb := by
  unfold inD at z
  split at z
  · rename_i l hl
    split at z
    · rename_i hf
      cases z
      obtain ⟨a, xs, rfl, r2, hh⟩ := seq_ok hR hl ry
      exact .inl ⟨a, xs, rfl, hh.imp (·.1) (·.1), flat_ok rx hf.1, flats_ok r2 hf.2, inF_ok rx hf.1 r2 hf.2⟩
    · cases z
  · split at z
    · cases rx
      cases ry
      cases z
      exact .inr ⟨_, _, rfl, rfl, rfl⟩
    · cases z
theorem o_in : OpR X (compareOp .In) (rdO X.K inO) := opr_ok (opr_or op_in_seq op_in_sign) fun ρ S H d e x y d' S' Q hR rx ry z q => by
  simp only [inO, Option.map_eq_some_iff] at z
  obtain ⟨bb, h1, h2⟩ := z
  cases h2
  have fin := q ρ H _ (Le.refl _) hR .bl
  rcases in_core hR rx ry h1 with ⟨p, xs, e1, e2, e3, e4, e5⟩ | ⟨c, z, e1, e2, e3⟩
  · exact .inl ⟨p, xs, e1, e2, e3, e4, by rw [if_neg (by simp), e5]; exact fin⟩
  · exact .inr ⟨c, z, e1, e2, by rw [e3]; exact fin⟩
theorem o_nin : OpR X (compareOp .NotIn) (rdO X.K ninO) := opr_ok (opr_or op_notIn_seq op_notIn_sign) fun ρ S H d e x y d' S' Q hR rx ry z q => by
  simp only [ninO, Option.map_eq_some_iff] at z
  obtain ⟨bb, h1, h2⟩ := z
  cases h2
  have fin := q ρ H _ (Le.refl _) hR .bl
  rcases in_core hR rx ry h1 with ⟨p, xs, e1, e2, e3, e4, e5⟩ | ⟨c, z, e1, e2, e3⟩
  · exact .inl ⟨p, xs, e1, e2, e3, e4, by rw [if_pos rfl, e5]; exact fin⟩
  · exact .inr ⟨c, z, e1, e2, by rw [e3]; exact fin⟩

/-! ### methods of lists -/
theorem extT (l : Addr) (items : Array Value) (n : Nat) (b : Addr) (items2 : Array Value) (n2 : Nat) (dd : Option Addr) (sl : Array (Option Value)) (hs0 : ¬(!items.isEmpty && Builtin.List.listTooLong (items.size + items2.size)) = true) (hs1 : items.size ≤ sizeLine) (hs2 : items.size + items2.size ≤ sizeLine + 1) :
    Meets (Builtin.«list.extend» ⟨[.ref l, .ref b], []⟩) (fun _ R s => s.heap.get? l = some { cls := .type "list", dict := none, data := .seq items n, slots := #[] } ∧ s.heap.get? b = some { cls := .type "tuple", dict := dd, data := .seq items2 n2, slots := sl } ∧ R (.ok (.ret Value.none)) { s with heap := s.heap.update l (Obj.mapSeq fun x => x ++ items2), toks := s.toks }) :=
  .of_wp fun prog w A R s h => by
    obtain ⟨hp, g, d, tk, os⟩ := s; obtain ⟨hl, hb, h⟩ := h; have f1 := AutoSeq1.idx_int; have f2 := AutoSeq1.sub_tuple_tuple; have f3 := AutoSeq1.sub_list_list; have f4 := AutoSeq1.sub_tuple_list; have f5 := AutoSeq1.sub_list_tuple;
    have hz' : (items ++ items2).size ≤ sizeLine + 1 := by rw [Array.size_append]; exact hs2
    wp_walk using (wpAny_updateSeq hl rfl (hz := hs1) (_hz' := hz')), wpAny_loadPart' hl, wpAny_loadPart' hb; exact ⟨_, rfl, h⟩
/-- a method with one argument that changes a list and gives None, or none at all -/
abbrev OpM := D → List D → AH → Option (D × AH)
def rdM (K : PySem.W.Frag) (h : OpM) : V → List V → Hp → VK → Prop := fun x vs H Q => ∃ ρ S d ds d' S', R K ρ S H ∧ RD K ρ H d x ∧ RDs K ρ H ds vs ∧ h d ds S = some (d', S') ∧ ∀ ρ' H' v, Le K ρ H ρ' H' → R K ρ' S' H' → RD K ρ' H' d' v → Q v H'
theorem mtr_ok {id : String} {r : V → List V → Hp → VK → Prop} {h : OpM} (hp : MtR X id r) (i : ∀ ρ S H d ds x vs d' S' Q, R X.K ρ S H → RD X.K ρ H d x → RDs X.K ρ H ds vs → h d ds S = some (d', S') →
    (∀ ρ' H' v, Le X.K ρ H ρ' H' → R X.K ρ' S' H' → RD X.K ρ' H' d' v → Q v H') → r x vs H Q) : MtR X id (rdM X.K h) := fun pins s σ H x xs v us Q I rx rv ⟨ρ, S, d, ds, d', S', hR, r1, r2, z, q⟩ => hp pins s σ H x xs v us Q I rx rv (i ρ S H d ds x xs d' S' Q hR r1 r2 z q)
theorem mtr_or {id : String} {r r' : V → List V → Hp → VK → Prop} (h : MtR X id r) (h' : MtR X id r') : MtR X id (fun x vs H Q => r x vs H Q ∨ r' x vs H Q) := fun pins s σ H x xs v us Q I rx rv q => q.elim (h pins s σ H x xs v us Q I rx rv) (h' pins s σ H x xs v us Q I rx rv)
/-- the receiver is a list -/
def isLst (S : AH) (d : D) : Bool := match d with
  | .obj i => match S[i]? with
    | some (.lst _) => true
    | _ => false
  | _ => false
def eMeth (h : OpM) (f : Ev) (g : Ea) : Ev := fun env S => (f env S).bind fun d S1 => if isLst S1 d = true then (g env S1).bind fun ds S2 => lf (h d ds S2) else .bad
theorem isLst_ty (hR : R K ρ S H) {d : D} {v : V} (h : isLst S d = true) (r : RD K ρ H d v) : tyV K "list" v H := by
  unfold isLst at h
  split at h
  · split at h
    · rename_i l hl
      obtain ⟨a, xs, rfl, _, m, _⟩ := r_lst hR r hl
      exact .inl ⟨rfl, xs, SqL.of m⟩
    · cases h
  · cases h
theorem meth_rd {h : OpM} : ∀ σ H Q, rd X.K W (eMeth h f fa) σ H Q → tBM X.K "list" (rdM X.K h) (rd X.K W f) (rdA X.K W fa) σ H Q := by
  rintro σ H Q ⟨ρ, env, S, hR, hE, q⟩
  refine ⟨ρ, env, S, hR, hE, Aft.imp (Aft.bind q) fun d ρ1 S1 H1 l1 r1 q1 v rv => ?_⟩
  split at q1
  · rename_i hl
    refine ⟨isLst_ty r1 hl rv, ρ1, env, S1, r1, hE.mono _ l1, Aft.imp (Aft.bind q1) fun ds ρ2 S2 H2 l2 r2 q2 vs rvs => ?_⟩
    cases z : h d ds S2 with
    | none => rw [z] at q2; exact q2.elim
    | some p =>
      obtain ⟨d', S'⟩ := p
      rw [z] at q2
      exact ⟨ρ2, S2, d, ds, d', S', r2, rv.mono _ l2, rvs, z, fun ρ' H' w l r rw => q2.ok l r w rw⟩
  · exact q1.elim
theorem fe_meth {h : OpM} {o : Expr} {name : Str} {apos cpos : Pos} {id : String} (slot : PySem.Slot "list" name id) (hty : typeOf (.builtin id) = pure (.type "method_descriptor")) (hm : MtR X id (rdM X.K h)) (ho : FE X W o f) (ha : FA X W (e :: es) fa)
    (hbase : attributeBase o name X.env (eval o X.env) = eval o X.env := by rfl)
    (hfew : ((backTo cpos (starEach (e :: es) X.env)).all (fun x => !x.1) && (backToKw cpos (keywordEach [] X.env)).all (fun x => x.1.isSome)
      && decide ((e :: es).length + ([] : List Keyword).length + (if ([] : List Keyword).isEmpty then 0 else 1) < 30)) = true := by rfl)
    (hline : (apos.endLine == cpos.line) = true := by rfl) (hs : starEach (e :: es) X.env = (false, eval e X.env) :: starEach es X.env := by rfl) (hplain : (backTo cpos (starEach es X.env)).any (·.1) = false := by rfl) :
    FE X W (.Call (.Attribute o name apos) (e :: es) [] cpos) (eMeth h f fa) := fe_of (pe_bm PySem.F.plainAttrs_list slot hty hm ho ha hbase hfew hline hs hplain) meth_rd
theorem meth_rd0 {h : OpM} : ∀ σ H Q, rd X.K W (eMeth h f aNil) σ H Q → tBM0 X.K "list" (rdM X.K h) (rd X.K W f) σ H Q := by
  rintro σ H Q ⟨ρ, env, S, hR, hE, q⟩
  refine ⟨ρ, env, S, hR, hE, Aft.imp (Aft.bind q) fun d ρ1 S1 H1 l1 r1 q1 v rv => ?_⟩
  split at q1
  · rename_i hl
    refine ⟨isLst_ty r1 hl rv, ?_⟩
    have q2 : Aft X.K W ρ1 σ H1 (lf (h d [] S1)) _ := q1
    cases z : h d [] S1 with
    | none => rw [z] at q2; exact q2.elim
    | some p =>
      obtain ⟨d', S'⟩ := p
      rw [z] at q2
      exact ⟨ρ1, S1, d, [], d', S', r1, rv, .nil, z, fun ρ' H' w l r rw => q2.ok l r w rw⟩
  · exact q1.elim
theorem fe_meth0 {h : OpM} {o : Expr} {name : Str} {apos cpos : Pos} {id : String} (slot : PySem.Slot "list" name id) (hty : typeOf (.builtin id) = pure (.type "method_descriptor")) (hm : MtR X id (rdM X.K h)) (ho : FE X W o f)
    (hbase : attributeBase o name X.env (eval o X.env) = eval o X.env := by rfl) (hline : (apos.endLine == cpos.line) = true := by rfl) : FE X W (.Call (.Attribute o name apos) [] [] cpos) (eMeth h f aNil) := fe_of (pe_bm0 PySem.F.plainAttrs_list slot hty hm ho hbase hline) meth_rd0
def appO : OpM := fun d ds S => match d, ds with
  | .obj i, [x] => match S[i]? with
    | some (.lst l) => if l.length < sizeLine then some (.non, S.set i (.lst (l ++ [x]))) else none
    | _ => none
  | _, _ => none
theorem o_app : MtR X "list.append" (rdM X.K appO) := mtr_ok mt_append fun ρ S H d ds x vs d' S' Q hR rx rv z q => by
  unfold appO at z
  split at z
  · rename_i i y
    obtain ⟨w, rfl, rw'⟩ := rds1 rv rfl
    split at z
    · rename_i l hl
      split at z
      · rename_i hz
        cases z
        obtain ⟨a, xs, rfl, ha, m, r⟩ := r_lst hR rx hl
        exact ⟨a, xs, w, rfl, rfl, m, by rw [← r.length]; exact hz, q ρ _ _ (le_wr m trivial) (hR.wr ha m trivial ⟨_, upd_same, (r.append (.cons rw' .nil)).mono _ (le_wr m trivial)⟩) .non⟩
      · cases z
    · cases z
  · cases z
/-- xs.extend(t), t a tuple -/
theorem mt_extendT : MtR X "list.extend" (fun x vs H Q => ∃ l b xs zs, x = .ref l ∧ vs = [.ref b] ∧ H l = some (.lst xs) ∧ SqT X.K H b zs ∧ xs.length + zs.length ≤ sizeLine ∧ Q .non (upd H l (.lst (xs ++ zs)))) := by
  intro pins s σ H x vs v us Q I rx rv h
  obtain ⟨l, b, xs, zs, rfl, rfl, hH, hB, hz, q⟩ := h
  cases rx
  obtain ⟨u, rfl, ru⟩ := rv.one
  cases ru
  obtain ⟨z, its, n, r, hl, e⟩ := I.lstM hH
  obtain ⟨its2, r2, t2, z2⟩ := I.tuple hB
  obtain ⟨⟨c2, dd, d2, sl⟩, e2, h2, n2, h3⟩ := t2
  simp only at h2 h3
  subst h2 h3
  have hl2 := r2.length
  have hsz : its.toArray.size + its2.toArray.size ≤ sizeLine := by rw [List.size_toArray, List.size_toArray]; omega
  have hlong : ¬ (!its.toArray.isEmpty && Builtin.List.listTooLong (its.toArray.size + its2.toArray.size)) = true := by
    rw [notLongL hsz, Bool.and_false]
    exact Bool.false_ne_true
  refine call_meets PySem.F.slot_list_extend ⟨_, e, rfl⟩ PySem.F.entry_list_extend (PySem.F.args_list_extend_2 _ _)
    (extT l its.toArray n b its2.toArray n2 dd sl hlong (by rw [List.size_toArray]; omega) (by omega)) ⟨e, e2, ?_⟩
  refine ⟨.non, _, I.lset (its' := its ++ its2) hH e (by simp) (r.append r2) ?_, rfl, q⟩
  rw [List.length_append]
  omega
end
end Y

set_option Elab.async false
set_option linter.all false
set_option maxRecDepth 100000
namespace Y
open PySem PySem.Spec L2

section
variable {X : Cx} {W : WX} {e a b c : Expr} {es : List Expr} {f g h : Ev} {pos : Pos} {ft gt : Et} {fa : Ea} {K : PySem.W.Frag} {ρ : List Addr} {S : AH} {H : Hp}
def extO : OpM := fun d ds S => match d, ds with
  | .obj i, [x] => match S[i]? with
    | some (.lst l) => match x with
      | .tup m => if l.length + m.length ≤ sizeLine then some (.non, S.set i (.lst (l ++ m))) else none
      | .obj j => match S[j]? with
        | some (.lst m) => if l.length + m.length ≤ sizeLine then some (.non, S.set i (.lst (l ++ m))) else none
        | _ => none
      | _ => none
    | _ => none
  | _, _ => none
theorem o_ext : MtR X "list.extend" (rdM X.K extO) := mtr_ok (mtr_or mt_extend mt_extendT) fun ρ S H d ds x vs d' S' Q hR rx rv z q => by
  unfold extO at z
  split at z
  · rename_i i y
    obtain ⟨w, rfl, rw'⟩ := rds1 rv rfl
    split at z
    · rename_i l hl
      obtain ⟨a, xs, rfl, ha, m, r⟩ := r_lst hR rx hl
      split at z
      · rename_i l2
        cases rw' with
        | tup t r2 =>
          split at z
          · rename_i hz
            cases z
            exact .inr ⟨a, _, xs, _, rfl, rfl, m, t, by rw [← r.length, ← r2.length]; exact hz, q ρ _ _ (le_wr m trivial) (hR.wr ha m trivial ⟨_, upd_same, (r.append r2).mono _ (le_wr m trivial)⟩) .non⟩
          · cases z
      · split at z
        · rename_i l2 hl2
          obtain ⟨b, ys, rfl, hb, m2, r2⟩ := r_lst hR rw' hl2
          split at z
          · rename_i hz
            cases z
            exact .inl ⟨a, _, xs, _, rfl, rfl, m, m2, by rw [← r.length, ← r2.length]; exact hz, q ρ _ _ (le_wr m trivial) (hR.wr ha m trivial ⟨_, upd_same, (r.append r2).mono _ (le_wr m trivial)⟩) .non⟩
          · cases z
        · cases z
      · cases z
    · cases z
  · cases z
theorem RDs.dropLast {ds vs} (r : RDs K ρ H ds vs) : RDs K ρ H ds.dropLast vs.dropLast := by
  rw [List.dropLast_eq_take, List.dropLast_eq_take, r.length]
  exact r.take _
def popO : OpM := fun d ds S => match d, ds with
  | .obj i, [] => match S[i]? with
    | some (.lst l) => match l.getLast? with
      | some x => some (x, S.set i (.lst l.dropLast))
      | none => none
    | _ => none
  | .obj i, [.int k] => match S[i]? with
    | some (.lst l) => if 0 ≤ k ∧ k < 2 ^ 63 then match l[k.toNat]? with
      | some x => some (x, S.set i (.lst (l.eraseIdx k.toNat)))
      | none => none else none
    | _ => none
  | _, _ => none
theorem RDs.erase {ds vs} (r : RDs K ρ H ds vs) : ∀ i, RDs K ρ H (ds.eraseIdx i) (vs.eraseIdx i) := by
  match r with
  | .nil => intro i; exact .nil
  | .cons r1 r2 =>
    intro i
    cases i with
    | zero => exact r2
    | succ i => exact .cons r1 (RDs.erase r2 i)
theorem o_pop : MtR X "list.pop" (rdM X.K popO) := mtr_ok (mtr_or mt_pop mt_popAt) fun ρ S H d ds x vs d' S' Q hR rx rv z q => by
  unfold popO at z
  split at z
  · rename_i i
    split at z
    · rename_i l hl
      obtain ⟨a, xs, rfl, ha, m, r⟩ := r_lst hR rx hl
      split at z
      · rename_i y hy
        simp only [Option.some.injEq, Prod.mk.injEq] at z
        obtain ⟨z1, z2⟩ := z
        subst z1 z2
        cases rv
        have hy2 := hy
        rw [List.getLast?_eq_getElem?] at hy2
        obtain ⟨w, hw, rw'⟩ := r.get hy2
        exact .inl ⟨a, xs, w, rfl, rfl, m, by rw [← r.length]; exact hw, q ρ _ _ (le_wr m trivial) (hR.wr ha m trivial ⟨_, upd_same, r.dropLast.mono _ (le_wr m trivial)⟩) (rw'.mono _ (le_wr m trivial))⟩
      · cases z
    · cases z
  · rename_i i k
    split at z
    · rename_i l hl
      obtain ⟨a, xs, rfl, ha, m, r⟩ := r_lst hR rx hl
      split at z
      · rename_i hk
        split at z
        · rename_i y hy
          cases z
          obtain ⟨v, rfl, rv'⟩ := rds1 rv rfl
          cases rv'
          obtain ⟨w, hw, rw'⟩ := r.get hy
          have hlen : k.toNat < xs.length := (List.getElem?_eq_some_iff.mp hw).1
          refine .inr ⟨a, xs, k, k.toNat, w, rfl, rfl, m, by omega, hk.2, ?_, hw, q ρ _ _ (le_wr m trivial) (hR.wr ha m trivial ⟨_, upd_same, (r.erase _).mono _ (le_wr m trivial)⟩) (rw'.mono _ (le_wr m trivial))⟩
          have e : ixN xs.length k = some k.toNat := by
            unfold ixN
            rw [if_pos hk.1, if_pos (by omega)]
          exact (ixN_seq e).1
        · cases z
      · cases z
    · cases z
  · cases z

/-! ### o[i] = e -/
def stO (d i v : D) (S : AH) : Option AH := match d, i with
  | .obj k, .int j => match S[k]? with
    | some (.lst l) => (ixN l.length j).map fun m => S.set k (.lst (l.set m v))
    | _ => none
  | _, _ => none
def lfS (o : Option AH) : Rs Unit := match o with
  | some S => .ok () S
  | none => .bad
def sSub (f g h : Ev) : Es := fun env S => xnB env (f env S) fun v S1 => xnB env (g env S1) fun d S2 => xnB env (h env S2) fun i S3 => xnB env (lfS (stO d i v S3)) fun _ S4 => .ok (.nx env) S4
theorem fs_sub {o i : Expr} {p1 : Pos} (he : FE X W e f) (ho : FE X W o g) (hi : FE X W i h) (hs : swapsWithSole [.Subscript o i p1] e pos.line X.env = pure false := by rfl) (hw : swappedStores [.Subscript o i p1] e X.env = pure none := by rfl) (hg : PG X (.Subscript o i p1) (gSub (rd X.K W g) (rd X.K W h) rSetL) := by exact pg_sub (by assumption) (by assumption) set_list) : FS X W (.Assign [.Subscript o i p1] e pos) (sSub f g h) := fs_of (ps_asg he hg hs hw) fun D σ H z => by
  obtain ⟨ρ, env, S, hR, hE, z⟩ := z
  refine ⟨ρ, env, S, hR, hE, Aft.imp (xnB_aft hE z) fun v ρ1 S1 H1 l1 r1 q1 x rx => ?_⟩
  have hE1 := hE.mono _ l1
  refine ⟨ρ1, env, S1, r1, hE1, Aft.imp (xnB_aft hE1 q1) fun d ρ2 S2 H2 l2 r2 q2 y ry => ?_⟩
  have hE2 := hE1.mono _ l2
  refine ⟨ρ2, env, S2, r2, hE2, Aft.imp (xnB_aft hE2 q2) fun i ρ3 S3 H3 l3 r3 q3 w rw' => ?_⟩
  have rx3 := (rx.mono _ l2).mono _ l3
  have ry3 := ry.mono _ l3
  clear rx ry
  unfold stO at q3
  split at q3
  · rename_i k j
    cases rw'
    cases e1 : S3[k]? with
    | none => rw [e1] at q3; exact q3.elim
    | some ob =>
      rw [e1] at q3
      cases ob with
      | lst l =>
        obtain ⟨a, xs, rfl, ha, m, r⟩ := r_lst r3 ry3 e1
        simp only at q3
        cases e2 : ixN l.length j with
        | none => rw [e2] at q3; exact q3.elim
        | some n =>
          rw [e2] at q3
          refine ⟨a, xs, j, n, rfl, rfl, m, by rw [← r.length]; exact e2, ?_⟩
          have q3 : Aft X.K _ ρ3 σ H3 (.ok (Fl.nx env) (S3.set k (.lst (l.set n v)))) _ := q3
          exact q3.ok (le_wr m trivial) (r3.wr ha m trivial ⟨_, upd_same, (r.set rx3 _).mono _ (le_wr m trivial)⟩) _ ((hE2.mono _ l3).mono _ (le_wr m trivial))
      | dic _ => exact q3.elim
      | ins _ _ => exact q3.elim
      | lck => exact q3.elim
  · exact q3.elim

/-! ### dicts -/
def kD : D → Option Key
  | .int i => some (.inl i)
  | .str s => some (.inr s)
  | _ => none
theorem kD_ok {d : D} {k : Key} {v : V} (h : kD d = some k) (r : RD K ρ H d v) : v = kV k := by
  cases r <;> simp [kD] at h <;> subst h <;> rfl
def getK (kvs : List (Key × D)) (k : Key) : Option D := (kvs.find? fun kv => decide (kv.1 = k)).map (·.2)
def putD (kvs : List (Key × D)) (k : Key) (v : D) : List (Key × D) := if (kvs.any fun kv => decide (kv.1 = k)) = true then kvs.map (fun kv => if kv.1 = k then (kv.1, v) else kv) else kvs ++ [(k, v)]
theorem getK_ok : ∀ {kvs : List (Key × D)} {ys : List (Key × V)}, ys.map (·.1) = kvs.map (·.1) → RDs K ρ H (kvs.map (·.2)) (ys.map (·.2)) → ∀ k, (∀ d, getK kvs k = some d → ∃ v, valV ys k = some v ∧ RD K ρ H d v) ∧ (getK kvs k = none → valV ys k = none)
  | [], [], _, _, k => ⟨fun d h => by simp [getK] at h, fun _ => rfl⟩
  | (k1, d1) :: kvs, (k2, v2) :: ys, e, r, k => by
    simp only [List.map_cons, List.cons.injEq] at e
    obtain ⟨e1, e2⟩ := e
    subst e1
    cases r with
    | cons r1 r2 =>
      by_cases hk : k2 = k
      · subst hk
        refine ⟨fun d h => ?_, fun h => ?_⟩
        · simp [getK] at h
          subst h
          exact ⟨v2, valV_pos rfl, r1⟩
        · simp [getK] at h
      · obtain ⟨i1, i2⟩ := getK_ok e2 r2 k
        have : getK ((k2, d1) :: kvs) k = getK kvs k := by simp [getK, List.find?_cons, hk]
        rw [this, valV_neg hk]
        exact ⟨i1, i2⟩
  | [], _ :: _, e, _, _ => by simp at e
  | _ :: _, [], e, _, _ => by simp at e
theorem putD_keys {kvs : List (Key × D)} {ys : List (Key × V)} (e : ys.map (·.1) = kvs.map (·.1)) (k : Key) (d : D) (v : V) : (putK ys k v).map (·.1) = (putD kvs k d).map (·.1) := by
  have ea : (ys.any fun kv => decide (kv.1 = k)) = (kvs.any fun kv => decide (kv.1 = k)) := by
    have h1 : (ys.any fun kv => decide (kv.1 = k)) = ((ys.map (·.1)).any fun z => decide (z = k)) := by rw [List.any_map]; rfl
    have h2 : (kvs.any fun kv => decide (kv.1 = k)) = ((kvs.map (·.1)).any fun z => decide (z = k)) := by rw [List.any_map]; rfl
    rw [h1, h2, e]
  unfold putK putD
  rw [ea]
  split
  · rw [List.map_map, List.map_map]
    have h1 : ys.map ((fun x => x.1) ∘ fun kv => if kv.1 = k then (kv.1, v) else kv) = ys.map (·.1) := List.map_congr_left fun p _ => by simp only [Function.comp]; split <;> rfl
    have h2 : kvs.map ((fun x => x.1) ∘ fun kv => if kv.1 = k then (kv.1, d) else kv) = kvs.map (·.1) := List.map_congr_left fun p _ => by simp only [Function.comp]; split <;> rfl
    rw [h1, h2, e]
  · simp [e]
theorem putD_vals {d : D} {v : V} {k : Key} (rv : RD K ρ H d v) : ∀ {kvs : List (Key × D)} {ys : List (Key × V)}, ys.map (·.1) = kvs.map (·.1) → RDs K ρ H (kvs.map (·.2)) (ys.map (·.2)) →
    RDs K ρ H ((putD kvs k d).map (·.2)) ((putK ys k v).map (·.2)) := fun {kvs ys} e r => by
  have ea : (ys.any fun kv => decide (kv.1 = k)) = (kvs.any fun kv => decide (kv.1 = k)) := by
    have h1 : (ys.any fun kv => decide (kv.1 = k)) = ((ys.map (·.1)).any fun z => decide (z = k)) := by rw [List.any_map]; rfl
    have h2 : (kvs.any fun kv => decide (kv.1 = k)) = ((kvs.map (·.1)).any fun z => decide (z = k)) := by rw [List.any_map]; rfl
    rw [h1, h2, e]
  unfold putK putD
  rw [ea]
  split
  · have go : ∀ {kvs : List (Key × D)} {ys : List (Key × V)}, ys.map (·.1) = kvs.map (·.1) → RDs K ρ H (kvs.map (·.2)) (ys.map (·.2)) →
        RDs K ρ H ((kvs.map (fun kv => if kv.1 = k then (kv.1, d) else kv)).map (·.2)) ((ys.map (fun kv => if kv.1 = k then (kv.1, v) else kv)).map (·.2)) := by
      intro kvs
      induction kvs with
      | nil => intro ys e r; cases ys <;> simp at e; exact .nil
      | cons p kvs ih =>
        intro ys e r
        cases ys with
        | nil => simp at e
        | cons q ys =>
          simp only [List.map_cons, List.cons.injEq] at e
          cases r with
          | cons r1 r2 =>
            simp only [List.map_cons]
            refine .cons ?_ (ih e.2 r2)
            rw [e.1]
            split
            · exact rv
            · exact r1
    exact go e r
  · simp only [List.map_append, List.map_cons, List.map_nil]
    exact r.append (.cons rv .nil)
def dgetO : Op2 := fun d e S => match d with
  | .obj i => match S[i]?, kD e with
    | some (.dic kvs), some k => (getK kvs k).map fun d => (d, S)
    | _, _ => none
  | _ => none
theorem fe_dget (hu : X.A.units + 1 < cLine) (ha : FE X W a f) (hb : FE X W b g) (hs : NoSl b := by exact fun _ _ => rfl) : FE X W (.Subscript a b pos) (e2 dgetO f g) := fe_of (pe_dget hu ha hb hs) fun σ H Q z => by
  obtain ⟨ρ, env, S, hR, hE, q⟩ := z
  refine ⟨ρ, env, S, hR, hE, Aft.imp (Aft.bind q) fun d ρ1 S1 H1 l1 r1 q1 v rv => ?_⟩
  refine ⟨ρ1, env, S1, r1, hE.mono _ l1, Aft.imp (Aft.bind q1) fun e ρ2 S2 H2 l2 r2 q2 u ru => ?_⟩
  have rv := rv.mono _ l2
  unfold dgetO at q2
  split at q2
  · rename_i i
    split at q2
    · rename_i kvs k h1 h2
      obtain ⟨a, ys, rfl, ha, m, ek, rr⟩ := r_dic r2 rv h1
      cases h3 : getK kvs k with
      | none => rw [h3] at q2; exact q2.elim
      | some d' =>
        rw [h3] at q2
        obtain ⟨w, hw, rw'⟩ := (getK_ok ek rr k).1 d' h3
        refine ⟨a, w, rfl, ?_, q2.ok (Le.refl _) r2 _ rw'⟩
        rw [kD_ok h2 ru, ← hw]
        exact DGet.k m
    · exact q2.elim
  · exact q2.elim
def dinO : Op2 := fun e d S => match d with
  | .obj i => match S[i]?, kD e with
    | some (.dic kvs), some k => some (.bl (getK kvs k).isSome, S)
    | _, _ => none
  | _ => none
def dninO : Op2 := fun e d S => match d with
  | .obj i => match S[i]?, kD e with
    | some (.dic kvs), some k => some (.bl (!(getK kvs k).isSome), S)
    | _, _ => none
  | _ => none
theorem valV_isSome {kvs : List (Key × D)} {ys : List (Key × V)} (e : ys.map (·.1) = kvs.map (·.1)) (r : RDs K ρ H (kvs.map (·.2)) (ys.map (·.2))) (k : Key) : (valV ys k).isSome = (getK kvs k).isSome := by
  obtain ⟨h1, h2⟩ := getK_ok e r k
  cases q : getK kvs k with
  | none => rw [h2 q]; rfl
  | some d => obtain ⟨v, hv, _⟩ := h1 d q; rw [hv]; rfl
theorem din_rd : ∀ σ H Q, rd X.K W (e2 dinO f g) σ H Q → tDIn (rd X.K W f) (rd X.K W g) σ H Q := by
  rintro σ H Q ⟨ρ, env, S, hR, hE, q⟩
  refine ⟨ρ, env, S, hR, hE, Aft.imp (Aft.bind q) fun d ρ1 S1 H1 l1 r1 q1 v rv => ?_⟩
  refine ⟨ρ1, env, S1, r1, hE.mono _ l1, Aft.imp (Aft.bind q1) fun e ρ2 S2 H2 l2 r2 q2 u ru => ?_⟩
  have rv := rv.mono _ l2
  unfold dinO at q2
  split at q2
  · split at q2
    · rename_i kvs k h1 h2
      obtain ⟨a, ys, rfl, ha, m, ek, rr⟩ := r_dic r2 ru h1
      refine ⟨a, valV ys k, rfl, by rw [kD_ok h2 rv]; exact DGet.k m, ?_⟩
      rw [valV_isSome ek rr]
      exact q2.ok (Le.refl _) r2 _ .bl
    · exact q2.elim
  · exact q2.elim
theorem dnin_rd : ∀ σ H Q, rd X.K W (e2 dninO f g) σ H Q → tDNotIn (rd X.K W f) (rd X.K W g) σ H Q := by
  rintro σ H Q ⟨ρ, env, S, hR, hE, q⟩
  refine ⟨ρ, env, S, hR, hE, Aft.imp (Aft.bind q) fun d ρ1 S1 H1 l1 r1 q1 v rv => ?_⟩
  refine ⟨ρ1, env, S1, r1, hE.mono _ l1, Aft.imp (Aft.bind q1) fun e ρ2 S2 H2 l2 r2 q2 u ru => ?_⟩
  have rv := rv.mono _ l2
  unfold dninO at q2
  split at q2
  · split at q2
    · rename_i kvs k h1 h2
      obtain ⟨a, ys, rfl, ha, m, ek, rr⟩ := r_dic r2 ru h1
      refine ⟨a, valV ys k, rfl, by rw [kD_ok h2 rv]; exact DGet.k m, ?_⟩
      rw [valV_isSome ek rr]
      exact q2.ok (Le.refl _) r2 _ .bl
    · exact q2.elim
  · exact q2.elim
theorem fe_din (hu : X.A.units + 1 < cLine) (ha : FE X W a f) (hb : FE X W b g) (hm : behindInMarks .In b = false) : FE X W (.Compare a [.In] [b] pos) (e2 dinO f g) := fe_of (pe_cmp (pc_din hu ha hb) hm) din_rd
theorem fe_dnin (hu : X.A.units + 1 < cLine) (ha : FE X W a f) (hb : FE X W b g) (hm : behindInMarks .NotIn b = false) : FE X W (.Compare a [.NotIn] [b] pos) (e2 dninO f g) := fe_of (pe_cmp (pc_dnotin hu ha hb) hm) dnin_rd
theorem asB_rdB {t : TE} (i : ∀ σ H Q, rd X.K W f σ H Q → t σ H Q) : ∀ σ H Q, rdT X.K W (asB f) σ H Q → tB t σ H Q := by
  rintro σ H Q ⟨ρ, env, S, hR, hE, q⟩
  refine i σ H _ ⟨ρ, env, S, hR, hE, Aft.imp (Aft.bind q) fun d ρ1 S1 H1 l1 r1 q1 v rv => ?_⟩
  cases rv <;> first | exact ⟨_, rfl, q1.ok (Le.refl _) r1⟩ | exact q1.elim
theorem ft_din (hu : X.A.units + 1 < cLine) (ha : FE X W a f) (hb : FE X W b g) (hm : behindInMarks .In b = false) : FT X W (.Compare a [.In] [b] pos) (asB (e2 dinO f g)) := ft_of (pt_cmp (pc_din hu ha hb) hm) (asB_rdB din_rd)
theorem ft_dnin (hu : X.A.units + 1 < cLine) (ha : FE X W a f) (hb : FE X W b g) (hm : behindInMarks .NotIn b = false) : FT X W (.Compare a [.NotIn] [b] pos) (asB (e2 dninO f g)) := ft_of (pt_cmp (pc_dnotin hu ha hb) hm) (asB_rdB dnin_rd)
def eDnew : Ev := fun _ S => .ok (.obj S.length) (S ++ [.dic []])
theorem fe_dnew : FE X W (.Dict [] [] pos) eDnew := fe_of pe_dnewK fun σ H Q z => by
  obtain ⟨ρ, env, S, hR, hE, q⟩ := z
  exact fun p hp => q.ok (le_new hp _) (hR.new hp ⟨[], upd_same, rfl, .nil⟩) _ hR.newv
def dputO (d i v : D) (S : AH) : Option AH := match d with
  | .obj k => match S[k]?, kD i with
    | some (.dic kvs), some key => if kvs.length < sizeLine then some (S.set k (.dic (putD kvs key v))) else none
    | _, _ => none
  | _ => none
def sDput (f g h : Ev) : Es := fun env S => xnB env (f env S) fun v S1 => xnB env (g env S1) fun d S2 => xnB env (h env S2) fun i S3 => xnB env (lfS (dputO d i v S3)) fun _ S4 => .ok (.nx env) S4
theorem fs_dput {o i : Expr} {p1 : Pos} (hu : X.A.units + 1 < cLine) (he : FE X W e f) (ho : FE X W o g) (hi : FE X W i h) (hs : swapsWith e (some (.Subscript o i p1)) pos.line X.env = pure false := by rfl) : FS X W (.Assign [.Subscript o i p1] e pos) (sDput f g h) := fs_of (ps_dput hu ho hi he hs) fun D σ H z => by
  obtain ⟨ρ, env, S, hR, hE, z⟩ := z
  refine ⟨ρ, env, S, hR, hE, Aft.imp (xnB_aft hE z) fun v ρ1 S1 H1 l1 r1 q1 x rx => ?_⟩
  have hE1 := hE.mono _ l1
  refine ⟨ρ1, env, S1, r1, hE1, Aft.imp (xnB_aft hE1 q1) fun d ρ2 S2 H2 l2 r2 q2 y ry => ?_⟩
  have hE2 := hE1.mono _ l2
  refine ⟨ρ2, env, S2, r2, hE2, Aft.imp (xnB_aft hE2 q2) fun i ρ3 S3 H3 l3 r3 q3 w rw' => ?_⟩
  have rx3 := (rx.mono _ l2).mono _ l3
  have ry3 := ry.mono _ l3
  clear rx ry
  unfold dputO at q3
  split at q3
  · rename_i k
    split at q3
    · rename_i kvs key h1 h2
      split at q3
      · rename_i hz
        obtain ⟨a, ys, rfl, ha, m, ek, rr⟩ := r_dic r3 ry3 h1
        have el : ys.length = kvs.length := by simpa using congrArg List.length ek
        refine ⟨a, _, rfl, by rw [kD_ok h2 rw']; exact DPut.k m (by rw [el]; exact hz), ?_⟩
        have q3 : Aft X.K _ ρ3 σ H3 (.ok (Fl.nx env) (S3.set k (.dic (putD kvs key v)))) _ := q3
        exact q3.ok (le_wr m trivial) (r3.wr ha m trivial ⟨_, upd_same, putD_keys ek key v x, (putD_vals rx3 ek rr).mono _ (le_wr m trivial)⟩) _ ((hE2.mono _ l3).mono _ (le_wr m trivial))
      · exact q3.elim
    · exact q3.elim
  · exact q3.elim
end
end Y

set_option Elab.async false
set_option linter.all false
set_option maxRecDepth 100000
namespace Y
open PySem PySem.Spec L2

section
variable {X : Cx} {W : WX} {e a b c : Expr} {es : List Expr} {f g h : Ev} {pos : Pos} {ft gt : Et} {fa : Ea} {K : PySem.W.Frag} {ρ : List Addr} {S : AH} {H : Hp}
/-! ### fields -/
theorem look_ok : ∀ {fs : List (Str × D)} {ys : List (Str × V)}, ys.map (·.1) = fs.map (·.1) → RDs K ρ H (fs.map (·.2)) (ys.map (·.2)) → ∀ f, (∀ d, fs.lookup f = some d → ∃ v, ys.lookup f = some v ∧ RD K ρ H d v) ∧ (fs.lookup f = none → ys.lookup f = none)
  | [], [], _, _, f => ⟨fun d h => by simp at h, fun _ => rfl⟩
  | (k1, d1) :: fs, (k2, v2) :: ys, e, r, f => by
    simp only [List.map_cons, List.cons.injEq] at e
    obtain ⟨e1, e2⟩ := e
    subst e1
    cases r with
    | cons r1 r2 =>
      obtain ⟨i1, i2⟩ := look_ok e2 r2 f
      simp only [List.lookup_cons]
      cases f == k2 with
      | true => exact ⟨fun d h => by cases h; exact ⟨v2, rfl, r1⟩, fun h => nomatch h⟩
      | false => exact ⟨i1, i2⟩
  | [], _ :: _, e, _, _ => by simp at e
  | _ :: _, [], e, _, _ => by simp at e
def putF' (f : Str) (v : D) : List (Str × D) → List (Str × D)
  | [] => [(f, v)]
  | (g, x) :: r => if g = f then (g, v) :: r else (g, x) :: putF' f v r
theorem putF_ok {f : Str} {d : D} {v : V} (rv : RD K ρ H d v) : ∀ {fs : List (Str × D)} {ys : List (Str × V)}, ys.map (·.1) = fs.map (·.1) → RDs K ρ H (fs.map (·.2)) (ys.map (·.2)) →
    (putF f v ys).map (·.1) = (putF' f d fs).map (·.1) ∧ RDs K ρ H ((putF' f d fs).map (·.2)) ((putF f v ys).map (·.2))
  | [], [], _, _ => ⟨rfl, .cons rv .nil⟩
  | (k1, d1) :: fs, (k2, v2) :: ys, e, r => by
    simp only [List.map_cons, List.cons.injEq] at e
    obtain ⟨e1, e2⟩ := e
    subst e1
    cases r with
    | cons r1 r2 =>
      unfold putF putF'
      split
      · exact ⟨by simp [e2], .cons rv r2⟩
      · obtain ⟨i1, i2⟩ := putF_ok rv e2 r2
        exact ⟨by simp [i1], .cons r1 i2⟩
  | [], _ :: _, e, _ => by simp at e
  | _ :: _, [], e, _ => by simp at e
def fldO (C f : Str) : Op1 := fun d S => match d with
  | .obj i => match S[i]? with
    | some (.ins C' fs) => if C' = C then (fs.lookup f).map fun d => (d, S) else none
    | _ => none
  | _ => none
theorem fe_fld {C fn : Str} (he : FE X W a f) (c : Cls X.K (He.ga X.K C)) (n : NoAttr X.K (He.ga X.K C) fn) (hb : attributeBase a fn X.env (eval a X.env) = eval a X.env := by rfl) : FE X W (.Attribute a fn pos) (e1 (fldO C fn) f) := fe_of (pe_fld he hb) fun σ H Q z => by
  obtain ⟨ρ, env, S, hR, hE, q⟩ := z
  refine ⟨ρ, env, S, hR, hE, Aft.imp (Aft.bind q) fun d ρ1 S1 H1 l1 r1 q1 v rv => ?_⟩
  unfold fldO at q1
  split at q1
  · split at q1
    · rename_i C' fs h1
      split at q1
      · rename_i hC
        subst hC
        obtain ⟨a, dx, ys, rfl, ha, m, ek, rr⟩ := r_ins r1 rv h1
        cases h2 : fs.lookup fn with
        | none => rw [h2] at q1; exact q1.elim
        | some d' =>
          rw [h2] at q1
          obtain ⟨w, hw, rw'⟩ := (look_ok ek rr fn).1 d' h2
          exact ⟨a, _, dx, ys, w, rfl, m, c, n, hw, q1.ok (Le.refl _) r1 _ rw'⟩
      · exact q1.elim
    · exact q1.elim
  · exact q1.elim
def fstO (C fn : Str) (d v : D) (S : AH) : Option AH := match d with
  | .obj i => match S[i]? with
    | some (.ins C' fs) => if C' = C ∧ fs.length < 1000 then some (S.set i (.ins C (putF' fn v fs))) else none
    | _ => none
  | _ => none
theorem fst_core {C fn : Str} {d v : D} {S' : AH} (hR : R K ρ S H) {x y : V} (rd1 : RD K ρ H d x) (rv : RD K ρ H v y) (h : fstO C fn d v S = some S') :
    ∃ a dx ys, x = .ref a ∧ H a = some (.ins (He.ga K C) dx ys) ∧ ys.length < 1000 ∧ Le K ρ H ρ (upd H a (.ins (He.ga K C) dx (putF fn y ys))) ∧ R K ρ S' (upd H a (.ins (He.ga K C) dx (putF fn y ys))) := by
  unfold fstO at h
  split at h
  · split at h
    · rename_i C' fs h1
      split at h
      · rename_i hC
        obtain ⟨hC, hz⟩ := hC
        subst hC
        cases h
        obtain ⟨a, dx, ys, rfl, ha, m, ek, rr⟩ := r_ins hR rd1 h1
        have el : ys.length = fs.length := by simpa using congrArg List.length ek
        obtain ⟨k1, k2⟩ := putF_ok (f := fn) rv ek rr
        exact ⟨a, dx, ys, rfl, m, by omega, le_wr m trivial, hR.wr ha m trivial ⟨dx, _, upd_same, k1, k2.mono _ (le_wr m trivial)⟩⟩
      · cases h
    · cases h
  · cases h
def sFld' (C fn : Str) (f g : Ev) : Es := fun env S => xnB env (f env S) fun v S1 => xnB env (g env S1) fun d S2 => xnB env (lfS (fstO C fn d v S2)) fun _ S3 => .ok (.nx env) S3
theorem fs_fld {C fn : Str} {o : Expr} {p1 : Pos} (he : FE X W e f) (ho : FE X W o g) (c : Cls X.K (He.ga X.K C)) (n : NoAttr X.K (He.ga X.K C) fn) (hs : swapsWith e (some (.Attribute o fn p1)) pos.line X.env = pure false := by rfl) : FS X W (.Assign [.Attribute o fn p1] e pos) (sFld' C fn f g) := fs_of (ps_fld ho he hs) fun D σ H z => by
  obtain ⟨ρ, env, S, hR, hE, z⟩ := z
  refine ⟨ρ, env, S, hR, hE, Aft.imp (xnB_aft hE z) fun v ρ1 S1 H1 l1 r1 q1 x rx => ?_⟩
  have hE1 := hE.mono _ l1
  refine ⟨ρ1, env, S1, r1, hE1, Aft.imp (xnB_aft hE1 q1) fun d ρ2 S2 H2 l2 r2 q2 y ry => ?_⟩
  have hE2 := hE1.mono _ l2
  cases w : fstO C fn d v S2 with
  | none => rw [w] at q2; exact q2.elim
  | some S3 =>
    rw [w] at q2
    obtain ⟨a, dx, ys, rfl, m, hz, l3, r3⟩ := fst_core r2 ry (rx.mono _ l2) w
    have q2 : Aft X.K _ ρ2 σ H2 (.ok (Fl.nx env) S3) _ := q2
    exact ⟨a, _, dx, ys, rfl, m, c, n, hz, q2.ok l3 r3 _ (hE2.mono _ l3)⟩
/-- o.f += e, whole numbers -/
def sFldAug' (C fn : Str) (g f : Ev) : Es := fun env S => xnB env (g env S) fun d S1 => xnB env (lf (fldO C fn d S1)) fun x S2 => xnB env (f env S2) fun y S3 => xnB env (lf (intO (fun i j => some (.int (i + j))) x y S3)) fun z S4 => xnB env (lfS (fstO C fn d z S4)) fun _ S5 => .ok (.nx env) S5
theorem fs_fldaug {C fn : Str} {o : Expr} {p1 : Pos} (ho : FE X W o g) (he : FE X W e f) (c : Cls X.K (He.ga X.K C)) (n : NoAttr X.K (He.ga X.K C) fn) : FS X W (.AugAssign (.Attribute o fn p1) .Add e pos) (sFldAug' C fn g f) := fs_of (ps_fldaug ho he in_add) fun D σ H z => by
  obtain ⟨ρ, env, S, hR, hE, z⟩ := z
  refine ⟨ρ, env, S, hR, hE, Aft.imp (xnB_aft hE z) fun d ρ1 S1 H1 l1 r1 q1 x rx => ?_⟩
  have hE1 := hE.mono _ l1
  cases h0 : fldO C fn d S1 with
  | none => rw [h0] at q1; exact q1.elim
  | some p =>
    obtain ⟨d', S1'⟩ := p
    rw [h0] at q1
    unfold fldO at h0
    split at h0
    · rename_i i
      split at h0
      · rename_i C' fs h1
        split at h0
        · rename_i hC
          subst hC
          obtain ⟨a, dx, ys, rfl, ha, m, ek, rr⟩ := r_ins r1 rx h1
          simp only [Option.map_eq_some_iff] at h0
          obtain ⟨d2, h2, h3⟩ := h0
          cases h3
          obtain ⟨w, hw, rw'⟩ := (look_ok ek rr fn).1 _ h2
          refine ⟨a, _, dx, ys, w, rfl, m, c, n, hw, ?_⟩
          have q1 : Aft X.K _ ρ1 σ H1 (xnB env (f env S1) _) _ := q1
          refine ⟨ρ1, env, S1, r1, hE1, Aft.imp (xnB_aft hE1 q1) fun y ρ2 S2 H2 l2 r2 q2 u ru => ?_⟩
          cases h4 : intO (fun i j => some (.int (i + j))) d' y S2 with
          | none => rw [h4] at q2; exact q2.elim
          | some p2 =>
            obtain ⟨z, S3⟩ := p2
            rw [h4] at q2
            have rw2 := rw'.mono _ l2
            clear rw'
            unfold intO at h4
            split at h4
            · cases rw2
              cases ru
              simp only [Option.map_some, Option.some.injEq, Prod.mk.injEq] at h4
              obtain ⟨rfl, rfl⟩ := h4
              refine ⟨_, _, rfl, rfl, ?_⟩
              have q2 : Aft X.K _ ρ2 σ H2 (xnB env (lfS (fstO C' fn (.obj i) (.int _) S2)) fun _ S5 => .ok (.nx env) S5) _ := q2
              cases h5 : fstO C' fn (.obj i) (.int _) S2 with
              | none => rw [h5] at q2; exact q2.elim
              | some S5 =>
                rw [h5] at q2
                obtain ⟨a2, dx2, ys2, ea, m2, hz2, l5, r5⟩ := fst_core r2 (rx.mono _ l2) (.int) h5
                cases ea
                have q2 : Aft X.K _ ρ2 σ H2 (.ok (Fl.nx env) S5) _ := q2
                exact ⟨dx2, ys2, m2, hz2, q2.ok l5 r5 _ ((hE1.mono _ l2).mono _ l5)⟩
            · cases h4
        · cases h0
      · cases h0
    · cases h0

/-! ### targets -/
abbrev Eg := D → En → AH → Option (En × AH)
abbrev Egs := List D → En → AH → Option (En × AH)
/-- where a target leads: what stands behind it -/
def AfG (K : PySem.W.Frag) (ρ : List Addr) (H : Hp) (r : Option (En × AH)) (Q : St → Hp → Prop) : Prop := match r with
  | some (env', S') => ∀ ρ' H' σ', Le K ρ H ρ' H' → R K ρ' S' H' → RE K ρ' H' env' σ' → Q σ' H'
  | none => False
theorem AfG.from {r : Option (En × AH)} {Q : L2.St → Hp → Prop} {ρ1 H1} (h : AfG K ρ H r Q) (l : Le K ρ H ρ1 H1) : AfG K ρ1 H1 r Q := by
  cases r with
  | none => exact h
  | some p => exact fun ρ' H' σ' l' r' e' => h ρ' H' σ' (l.trans _ l') r' e'
def rdG (K : PySem.W.Frag) (t : Eg) : TG := fun v σ H Q => ∃ ρ env S d, R K ρ S H ∧ RE K ρ H env σ ∧ RD K ρ H d v ∧ AfG K ρ H (t d env S) Q
def FG (X : Cx) (tg : Expr) (t : Eg) : Prop := PG X tg (rdG X.K t)
theorem pg_of {tg : Expr} {t : Eg} {u : TG} (hp : PG X tg u) (i : ∀ v σ H Q, rdG X.K t v σ H Q → u v σ H Q) : FG X tg t := ⟨fun pins s σ H v u' Q I r h => hp.run pins s σ H v u' Q I r (i v σ H Q h)⟩
def gNm (i : Nat) : Eg := fun d env S => some (env.set i (some d), S)
theorem fg_name {i : Nat} {x : Str} (hN : X.N.Nodup) (hi : X.N[i]? = some x) (hx : Loc X.env.scope x) (hf : X.fn x = true ∨ X.env.scope.names.lookup x = some .local := by first | exact .inl rfl | exact .inr rfl | assumption) : FG X (.Name x pos) (gNm i) := pg_of (pg_name hN hi hx hf) fun v σ H Q z => by
  obtain ⟨ρ, env, S, d, hR, hE, r, q⟩ := z
  exact q ρ H _ (Le.refl _) hR (hE.set _ r)
def gNils : Egs := fun ds env S => match ds with
  | [] => some (env, S)
  | _ => none
def gConss (t : Eg) (u : Egs) : Egs := fun ds env S => match ds with
  | d :: r => (t d env S).bind fun p => u r p.1 p.2
  | [] => none
def rdGs (K : PySem.W.Frag) (t : Egs) : TGs := fun vs σ H Q => ∃ ρ env S ds, R K ρ S H ∧ RE K ρ H env σ ∧ RDs K ρ H ds vs ∧ AfG K ρ H (t ds env S) Q
def FGs (X : Cx) (tg : List Expr) (t : Egs) : Prop := PGs X tg (rdGs X.K t)
theorem pgs_of {tg : List Expr} {t : Egs} {u : TGs} (hp : PGs X tg u) (i : ∀ v σ H Q, rdGs X.K t v σ H Q → u v σ H Q) : FGs X tg t := ⟨fun pins s σ H v u' Q I r h => hp.run pins s σ H v u' Q I r (i v σ H Q h)⟩
theorem fgs_nil : FGs X [] gNils := pgs_of pgs_nil fun vs σ H Q z => by
  obtain ⟨ρ, env, S, ds, hR, hE, r, q⟩ := z
  cases r with
  | nil => exact ⟨rfl, q ρ H _ (Le.refl _) hR hE⟩
  | cons _ _ => exact q.elim
theorem fgs_cons {ts : List Expr} {t : Eg} {u : Egs} (hp : PGs X (e :: ts) (gCons (rdG X.K t) (rdGs X.K u))) : FGs X (e :: ts) (gConss t u) := pgs_of hp fun vs σ H Q z => by
  obtain ⟨ρ, env, S, ds, hR, hE, r, q⟩ := z
  cases r with
  | nil => exact q.elim
  | cons r1 r2 =>
    rename_i d v ds vs
    refine ⟨_, _, rfl, ρ, env, S, _, hR, hE, r1, ?_⟩
    simp only [gConss] at q
    cases w : t d env S with
    | none => rw [w] at q; exact q.elim
    | some p =>
      rw [w] at q
      exact fun ρ' H' σ' l r' e' => ⟨ρ', p.1, p.2, ds, r', e', r2.mono _ l, AfG.from q l⟩
def gTp (n : Nat) (u : Egs) : Eg := fun d env S => match d with
  | .tup l => if l.length = n then u l env S else none
  | _ => none
theorem fg_tup {ts : List Expr} {u : Egs} {n : Nat} {k : Nat} (hp : PG X (.Tuple ts k pos) (gTup X.K n (rdGs X.K u))) : FG X (.Tuple ts k pos) (gTp n u) := pg_of hp fun v σ H Q z => by
  obtain ⟨ρ, env, S, d, hR, hE, r, q⟩ := z
  cases r with
  | tup t r =>
    simp only [gTp] at q
    split at q
    · rename_i hl
      exact ⟨_, _, rfl, t, by rw [← r.length]; exact hl, ρ, env, S, _, hR, hE, r, q⟩
    · exact q.elim
  | _ => exact q.elim
def sAsg (f : Ev) (t : Eg) : Es := fun env S => xnB env (f env S) fun d S1 => xnB env (lf (t d env S1)) fun env' S2 => .ok (.nx env') S2
theorem fs_asg {tg : Expr} {t : Eg} (hp : PS X (.Assign [tg] e pos) (tAsg (rd X.K W f) (rdG X.K t))) : FS X W (.Assign [tg] e pos) (sAsg f t) := fs_of hp fun D σ H z => by
  obtain ⟨ρ, env, S, hR, hE, z⟩ := z
  refine ⟨ρ, env, S, hR, hE, Aft.imp (xnB_aft hE z) fun d ρ1 S1 H1 l1 r1 q1 v rv => ?_⟩
  refine ⟨ρ1, env, S1, d, r1, hE.mono _ l1, rv, ?_⟩
  cases w : t d env S1 with
  | none => rw [w] at q1; exact q1.elim
  | some p => rw [w] at q1; exact fun ρ' H' σ' l r hE' => q1.ok l r σ' hE'
/-- x += e -/
def sAug (i : Nat) (f : Ev) : Es := fun env S => match env[i]? with
  | some (some d) => xnB env (f env S) fun e S1 => xnB env (lf (intO (fun i j => some (.int (i + j))) d e S1)) fun z S2 => .ok (.nx (env.set i (some z))) S2
  | _ => .bad
theorem fs_aug {i : Nat} {x : Str} {pos' : Pos} (hN : X.N.Nodup) (hi : X.N[i]? = some x) (hx : Loc X.env.scope x) (he : FE X W e f) (hp : PS X (.AugAssign (.Name x pos') .Add e pos) (tAug i (rd X.K W f) (ipI fun i j => i + j))) : FS X W (.AugAssign (.Name x pos') .Add e pos) (sAug i f) := fs_of hp fun D σ H z => by
  obtain ⟨ρ, env, S, hR, hE, z⟩ := z
  unfold sAug at z
  split at z
  · rename_i d hd
    obtain ⟨v, e2, r⟩ := hE.2 i d hd
    refine ⟨v, e2, ρ, env, S, hR, hE, Aft.imp (xnB_aft hE z) fun e ρ1 S1 H1 l1 r1 q1 u ru => ?_⟩
    cases h4 : intO (fun i j => some (.int (i + j))) d e S1 with
    | none => rw [h4] at q1; exact q1.elim
    | some p2 =>
      obtain ⟨z, S3⟩ := p2
      rw [h4] at q1
      have rw2 := r.mono _ l1
      clear r
      unfold intO at h4
      split at h4
      · cases rw2
        cases ru
        simp only [Option.map_some, Option.some.injEq, Prod.mk.injEq] at h4
        obtain ⟨rfl, rfl⟩ := h4
        have q1 : Aft X.K _ ρ1 σ H1 (.ok (Fl.nx _) S1) _ := q1
        exact ⟨_, _, rfl, rfl, q1.ok (Le.refl _) r1 _ ((hE.mono _ l1).set _ .int)⟩
      · cases h4
  · exact z.elim
end
end Y

set_option Elab.async false
set_option linter.all false
set_option maxRecDepth 100000
namespace Y
open PySem PySem.Spec L2

/-! ### equality of values, decided -/
mutual
def eqD : D → D → Bool
  | .non, .non => true
  | .bl a, .bl b => a == b
  | .int a, .int b => a == b
  | .str a, .str b => decide (a = b)
  | .tup a, .tup b => eqDs a b
  | .obj a, .obj b => a == b
  | .rol a, .rol b => eqDs a b
  | _, _ => false
def eqDs : List D → List D → Bool
  | [], [] => true
  | a :: as, b :: bs => eqD a b && eqDs as bs
  | _, _ => false
end
mutual
theorem eqD_eq : ∀ {a b : D}, eqD a b = true → a = b
  | .non, b, h => by cases b <;> simp [eqD] at h ⊢
  | .bl a, b, h => by cases b <;> simp [eqD] at h ⊢; exact h
  | .int a, b, h => by cases b <;> simp [eqD] at h ⊢; exact h
  | .str a, b, h => by cases b <;> simp [eqD] at h ⊢; exact h
  | .tup a, b, h => by cases b <;> simp [eqD] at h ⊢; exact eqDs_eq h
  | .obj a, b, h => by cases b <;> simp [eqD] at h ⊢; exact h
  | .rol a, b, h => by cases b <;> simp [eqD] at h ⊢; exact eqDs_eq h
theorem eqDs_eq : ∀ {a b : List D}, eqDs a b = true → a = b
  | [], b, h => by cases b <;> simp [eqDs] at h ⊢
  | x :: a, b, h => by
    cases b with
    | nil => simp [eqDs] at h
    | cons y b =>
      simp only [eqDs, Bool.and_eq_true] at h
      rw [eqD_eq h.1, eqDs_eq h.2]
end
mutual
@[simp] theorem eqD_refl : ∀ a : D, eqD a a = true
  | .non => by simp [eqD]
  | .bl a => by simp [eqD]
  | .int a => by simp [eqD]
  | .str a => by simp [eqD]
  | .tup a => by simp only [eqD]; exact eqDs_refl a
  | .obj a => by simp [eqD]
  | .rol a => by simp only [eqD]; exact eqDs_refl a
@[simp] theorem eqDs_refl : ∀ a : List D, eqDs a a = true
  | [] => by simp [eqDs]
  | x :: a => by simp only [eqDs, Bool.and_eq_true]; exact ⟨eqD_refl x, eqDs_refl a⟩
end

/-! ### while -/
def whileF (c : Et) (b : Es) : Nat → Es
  | 0 => fun _ _ => .bad
  | n + 1 => fun env S => xnB env (c env S) fun k S1 => if k = true then (b env S1).bind fun fl S2 => match fl with
      | .nx e => whileF c b n e S2
      | .ct e => whileF c b n e S2
      | .bk e => .ok (.nx e) S2
      | fl => .ok fl S2
    else .ok (.nx env) S1
def fuel : Nat := 1000000
def sWhile (c : Et) (b : Es) : Es := whileF c b fuel
section
variable {X : Cx} {W : WX} {e a b c : Expr} {es : List Expr} {f g h : Ev} {pos : Pos} {ft gt : Et} {fa : Ea} {K : PySem.W.Frag} {ρ : List Addr} {S : AH} {H : Hp} {fs gs : Es}
theorem fs_while {body : List Stmt} (hp : PassesOwn (model X.prog X.w) X.A X.env X.xe) (hc : FT X W c ft) (hb : FSs X W body fs) : FS X W (.While c body [] pos) (sWhile ft fs) := fs_of (ps_while hp hc hb) fun D σ H z => by
  refine ⟨fun m σ H => ∃ ρ env S, R X.K ρ S H ∧ RE X.K ρ H env σ ∧ Aft X.K (fun _ _ _ _ => False) ρ σ H (whileF ft fs m env S) (postS X.K W D), ⟨fuel, z⟩, ?_⟩
  rintro m σ H ⟨ρ, env, S, hR, hE, q⟩
  cases m with
  | zero => exact q.elim
  | succ n =>
    refine ⟨ρ, env, S, hR, hE, Aft.imp (xnB_aft hE q) fun k ρ1 S1 H1 l1 r1 q1 => ?_⟩
    cases k with
    | false => exact (show Aft X.K _ ρ1 σ H1 (.ok (Fl.nx env) S1) _ from q1).ok (Le.refl _) r1 σ (hE.mono _ l1)
    | true =>
      rw [if_pos rfl]
      refine ⟨fun σ' H' => ∃ ρ env S, R X.K ρ S H' ∧ RE X.K ρ H' env σ' ∧ Aft X.K (fun _ _ _ _ => False) ρ σ' H' (whileF ft fs n env S) (postS X.K W D), fun σ' H' w => ⟨n, Nat.lt_succ_self _, w⟩, ?_⟩
      have q1 : Aft X.K _ ρ1 σ H1 ((fs env S1).bind _) _ := q1
      refine ⟨ρ1, env, S1, r1, hE.mono _ l1, Aft.imp (Aft.bind q1) fun fl ρ2 S2 H2 l2 r2 q2 => ?_⟩
      cases fl with
      | nx env' => exact fun σ' hE' => ⟨ρ2, env', S2, r2, hE', by
          cases q3 : whileF ft fs n env' S2 with
          | bad => simp only [q3] at q2; exact q2
          | ok fl S2 => simp only [q3] at q2; exact q2
          | ex x S2 => simp only [q3] at q2; exact q2⟩
      | ct env' => exact fun σ' hE' => ⟨ρ2, env', S2, r2, hE', by
          cases q3 : whileF ft fs n env' S2 with
          | bad => simp only [q3] at q2; exact q2
          | ok fl S2 => simp only [q3] at q2; exact q2
          | ex x S2 => simp only [q3] at q2; exact q2⟩
      | rt d => exact q2.ok (Le.refl _) r2
      | bk e => exact q2.ok (Le.refl _) r2
      | xn x e => exact q2.ok (Le.refl _) r2

/-! ### iterators -/
structure AIt where
  items : List D
  guard : AH → Bool
abbrev Ei := En → AH → Rs AIt
def RJ (K : PySem.W.Frag) (ρ : List Addr) (H : Hp) (J : It) (A : AIt) : Prop := ∀ ρ' S' H', Le K ρ H ρ' H' → R K ρ' S' H' → A.guard S' = true →
  (∀ i, A.items.length ≤ i → J.stop i H') ∧ ∀ i d, A.items[i]? = some d → J.go i H' ∧ ∀ x H'', J.yld i H' x H'' → Le K ρ' H' ρ' H'' ∧ R K ρ' S' H'' ∧ RD K ρ' H'' d x
def rdI (K : PySem.W.Frag) (W : WX) (f : Ei) : TI := fun σ H Q => ∃ ρ env S, R K ρ S H ∧ RE K ρ H env σ ∧ Aft K W ρ σ H (f env S) fun A ρ' S' H' => ∀ J, RJ K ρ' H' J A → Q J H'
def FI (X : Cx) (W : WX) (tg iter : Expr) (f : Ei) : Prop := PI X tg iter (rdI X.K W f)
theorem fi_of {tg iter : Expr} {fi : Ei} {t : TI} (hp : PI X tg iter t) (i : ∀ σ H Q, rdI X.K W fi σ H Q → t σ H Q) : FI X W tg iter fi := ⟨fun pins s σ H Q I h => hp.run pins s σ H Q I (i σ H Q h)⟩
def chrs (z : Str) : List D := z.cps.toList.map fun c => .str ⟨#[c]⟩
def seqIt (S : AH) (d : D) : Option AIt := match d with
  | .str z => some ⟨chrs z, fun _ => true⟩
  | .tup l => some ⟨l, fun _ => true⟩
  | .rol l => some ⟨l, fun _ => true⟩
  | .obj i => match S[i]? with
    | some (.lst l) => some ⟨l, fun S' => match S'[i]? with
      | some (.lst l') => eqDs l' l
      | _ => false⟩
    | _ => none
  | _ => none
def lfI (o : Option AIt) (S : AH) : Rs AIt := match o with
  | some A => .ok A S
  | none => .bad
def iSeq (f : Ev) : Ei := fun env S => (f env S).bind fun d S1 => lfI (seqIt S1 d) S1
/-- over a tuple or a list -/
def iSq (K : PySem.W.Frag) (tl : TE) : TI := fun σ H R => tl σ H fun x H1 => (∃ z, x = .str z ∧ R (Its z) H1) ∨ ∃ a, x = .ref a ∧ (((∃ xs, SqL K H1 a xs) ∧ R (Itl K a) H1) ∨ ((∃ xs, SqT K H1 a xs) ∧ R (Itt K a) H1))
theorem pi_sq {tg l : Expr} {tl : TE} (hl : PE X l tl) : PI X tg l (iSq X.K tl) := by
  refine ⟨fun pins s σ H R I h => ?_⟩
  refine thn (hl.run pins s σ H _ I h) fun v s1 ⟨x, H1, I1, r1, q1⟩ => ?_
  rcases q1 with ⟨x, ex, q⟩ | ⟨a, e, q1⟩
  · subst ex
    obtain ⟨t, rfl⟩ := r1
    cases ha : x.cps.all (· < 128)
    · exact wpAny_pyIter_wide ha (pi_one (tk := s1.toks) I1 _ (turn_str _ x t "str_iterator" (.inr rfl)) ⟨_, Heap.get?_push_size _ rfl, rfl, rfl⟩ q)
    · exact wpAny_pyIter_ascii ha (pi_one (tk := s1.toks) I1 _ (turn_str _ x t "str_ascii_iterator" (.inl rfl)) ⟨_, Heap.get?_push_size _ rfl, rfl, rfl⟩ q)
  subst e
  cases r1
  rcases q1 with ⟨⟨xs, hq⟩, q⟩ | ⟨⟨xs, hq⟩, q⟩
  · obtain ⟨its, rv, p, hz⟩ := I1.list hq
    refine wpAny_pyIter_list p.isList ?_
    refine ⟨s1.heap.objs.size, [s1.heap.objs.size], _, _, H1, rfl, I1.kept (t' := s1.toks) fun b o e => Heap.get?_push_of_some _ e, turn_list a _, ⟨_, Heap.get?_push_size _ rfl, rfl, rfl⟩, fun b hb => ?_, q⟩
    have e : b = s1.heap.objs.size := by simpa using hb
    subst e
    exact I1.fpOk (Nat.le_refl _) (I1.hok.fresh (Nat.le_refl _))
  · obtain ⟨its, rv, p, hz⟩ := I1.tuple hq
    refine wpAny_pyIter_tuple (show s1.heap.IsTuple a its.toArray from p) ?_
    refine ⟨s1.heap.objs.size, [s1.heap.objs.size], _, _, H1, rfl, I1.kept (t' := s1.toks) fun b o e => Heap.get?_push_of_some _ e, turn_tuple a _, ⟨_, Heap.get?_push_size _ rfl, rfl, rfl⟩, fun b hb => ?_, q⟩
    have e : b = s1.heap.objs.size := by simpa using hb
    subst e
    exact I1.fpOk (Nat.le_refl _) (I1.hok.fresh (Nat.le_refl _))
theorem rj_lst {J : It} {a : Addr} {l : List D} (hJ : J = Itl K a) {gd : AH → Bool} (h : ∀ ρ' S' H', Le K ρ H ρ' H' → R K ρ' S' H' → gd S' = true → ∃ xs, SqL K H' a xs ∧ RDs K ρ' H' l xs) : RJ K ρ H J ⟨l, gd⟩ := by
  subst hJ
  intro ρ' S' H' l1 r1 hg
  obtain ⟨xs, hq, rr⟩ := h ρ' S' H' l1 r1 hg
  refine ⟨fun i hi => ⟨xs, hq, by rw [← rr.length]; exact hi⟩, fun i d hd => ?_⟩
  obtain ⟨v, hv, rv⟩ := rr.get hd
  exact ⟨⟨xs, v, hq, hv⟩, fun x H'' y => by
    obtain ⟨rfl, y⟩ := y
    have := y xs hq
    rw [hv] at this; cases this
    exact ⟨Le.refl _, r1, rv⟩⟩
theorem rj_tup {a : Addr} {l : List D} {gd : AH → Bool} (h : ∀ ρ' S' H', Le K ρ H ρ' H' → R K ρ' S' H' → gd S' = true → ∃ xs, SqT K H' a xs ∧ RDs K ρ' H' l xs) : RJ K ρ H (Itt K a) ⟨l, gd⟩ := by
  intro ρ' S' H' l1 r1 hg
  obtain ⟨xs, hq, rr⟩ := h ρ' S' H' l1 r1 hg
  refine ⟨fun i hi => ⟨xs, hq, by rw [← rr.length]; exact hi⟩, fun i d hd => ?_⟩
  obtain ⟨v, hv, rv⟩ := rr.get hd
  exact ⟨⟨xs, v, hq, hv⟩, fun x H'' y => by
    obtain ⟨rfl, y⟩ := y
    have := y xs hq
    rw [hv] at this; cases this
    exact ⟨Le.refl _, r1, rv⟩⟩
/-- what a sequence gives: a list or a tuple there -/
theorem seqIt_ok (hR : R K ρ S H) {d : D} {v : V} {A : AIt} (h : seqIt S d = some A) (r : RD K ρ H d v) : (∃ z, v = .str z ∧ A = ⟨chrs z, fun _ => true⟩) ∨ ∃ a, v = .ref a ∧
    (((∃ xs, SqL K H a xs) ∧ ∀ ρ' S' H', Le K ρ H ρ' H' → R K ρ' S' H' → A.guard S' = true → ∃ xs, SqL K H' a xs ∧ RDs K ρ' H' A.items xs) ∨
     ((∃ xs, SqT K H a xs) ∧ ∀ ρ' S' H', Le K ρ H ρ' H' → R K ρ' S' H' → A.guard S' = true → ∃ xs, SqT K H' a xs ∧ RDs K ρ' H' A.items xs)) := by
  cases r <;> simp only [seqIt] at h <;> first | cases h | skip
  · exact .inl ⟨_, rfl, rfl⟩
  · rename_i a xs ds t r
    exact .inr ⟨a, rfl, .inr ⟨⟨_, t⟩, fun ρ' S' H' l r' _ => ⟨_, l.tup _ _ t, r.mono _ l⟩⟩⟩
  · rename_i i a ha
    split at h
    · rename_i l hl
      cases h
      obtain ⟨a', xs, e, ha', m, r⟩ := r_lst hR (.obj ha) hl
      cases e
      refine .inr ⟨a, rfl, .inl ⟨⟨xs, SqL.of m⟩, fun ρ' S' H' l1 r1 hg => ?_⟩⟩
      have hg : (match S'[i]? with | some (.lst l') => eqDs l' l | _ => false) = true := hg
      split at hg
      · rename_i l' hl'
        have e := eqDs_eq hg
        subst e
        obtain ⟨a', xs', e, ha', m', r'⟩ := r_lst r1 (.obj (pre_get l1.pre ha)) hl'
        cases e
        exact ⟨xs', SqL.of m', r'⟩
      · cases hg
    · cases h
  · rename_i a xs ds t r
    exact .inr ⟨a, rfl, .inl ⟨⟨_, t.sql⟩, fun ρ' S' H' l r' _ => ⟨_, (l.rol _ _ t).sql, r.mono _ l⟩⟩⟩
theorem rj_str {z : Str} {gd : AH → Bool} : RJ K ρ H (Its z) ⟨chrs z, gd⟩ := by
  intro ρ' S' H' l1 r1 hg
  refine ⟨fun i hi => by simpa [chrs, Its] using hi, fun i d hd => ?_⟩
  simp only [chrs, List.getElem?_map, Option.map_eq_some_iff] at hd
  obtain ⟨c, hc, rfl⟩ := hd
  have hc' : z.cps[i]? = some c := by simpa using hc
  refine ⟨?_, fun x H'' y => ?_⟩
  · exact (Array.getElem?_eq_some_iff.mp hc').1
  · obtain ⟨rfl, c', h1, rfl⟩ := y
    rw [hc'] at h1; cases h1
    exact ⟨Le.refl _, r1, .str⟩
theorem fi_seq {tg : Expr} (he : FE X W e f) : FI X W tg e (iSeq f) := fi_of (pi_sq he) fun σ H Q z => by
  obtain ⟨ρ, env, S, hR, hE, q⟩ := z
  refine ⟨ρ, env, S, hR, hE, Aft.imp (Aft.bind q) fun d ρ1 S1 H1 l1 r1 q1 v rv => ?_⟩
  cases w : seqIt S1 d with
  | none => rw [w] at q1; exact q1.elim
  | some A =>
    rw [w] at q1
    have q1 : Aft X.K W ρ1 σ H1 (.ok A S1) _ := q1
    obtain ⟨z, rfl, rfl⟩ | ⟨a, rfl, ⟨hx, k⟩ | ⟨hx, k⟩⟩ := seqIt_ok r1 w rv
    · exact .inl ⟨z, rfl, q1.ok (Le.refl _) r1 _ rj_str⟩
    · exact .inr ⟨a, rfl, .inl ⟨hx, q1.ok (Le.refl _) r1 _ (rj_lst rfl k)⟩⟩
    · exact .inr ⟨a, rfl, .inr ⟨hx, q1.ok (Le.refl _) r1 _ (rj_tup k)⟩⟩
/-- ranges -/
def rngL (lo : Int) (n : Nat) : List D := (List.range n).map fun i => .int (lo + (i : Nat))
theorem rj_rng {lo : Int} {n : Nat} {gd : AH → Bool} : RJ K ρ H (Itr lo n) ⟨rngL lo n, gd⟩ := by
  intro ρ' S' H' l1 r1 hg
  refine ⟨fun i hi => by simp [rngL] at hi; exact hi, fun i d hd => ?_⟩
  simp only [rngL, List.getElem?_map, Option.map_eq_some_iff] at hd
  obtain ⟨j, hj, rfl⟩ := hd
  obtain ⟨hlt, e⟩ := List.getElem?_eq_some_iff.mp hj
  have hlt : i < n := by simpa using hlt
  simp at e
  subst e
  exact ⟨hlt, fun x H'' y => by
    obtain ⟨rfl, rfl⟩ := y
    exact ⟨Le.refl _, r1, .int⟩⟩
@[irreducible] def rngIt1 : List D → Option AIt
  | [.int j] => if -(2 ^ 62) ≤ j ∧ j < 2 ^ 62 then some ⟨rngL 0 j.toNat, fun _ => true⟩ else none
  | _ => none
def rngIt2 : List D → Option AIt
  | [.int i, .int j] => if -(2 ^ 62) ≤ i ∧ i < 2 ^ 62 ∧ -(2 ^ 62) ≤ j ∧ j < 2 ^ 62 then some ⟨rngL i (j - i).toNat, fun _ => true⟩ else none
  | _ => none
def iOf (h : List D → AH → Option AIt) (g : Ea) : Ei := fun env S => (g env S).bind fun ds S1 => lfI (h ds S1) S1
theorem ofI_rd {h : List D → AH → Option AIt} {r : List V → Hp → (It → Hp → Prop) → Prop} (i : ∀ ρ S H ds vs A (Q : It → Hp → Prop), R X.K ρ S H → RDs X.K ρ H ds vs → h ds S = some A → (∀ J, RJ X.K ρ H J A → Q J H) → r vs H Q) :
    ∀ σ H Q, rdI X.K W (iOf h fa) σ H Q → rdA X.K W fa σ H fun vs H1 => r vs H1 Q := fun σ H Q z => by
  obtain ⟨ρ, env, S, hR, hE, q⟩ := z
  refine ⟨ρ, env, S, hR, hE, Aft.imp (Aft.bind q) fun ds ρ1 S1 H1 l1 r1 q1 vs rvs => ?_⟩
  cases w : h ds S1 with
  | none => rw [w] at q1; exact q1.elim
  | some A =>
    rw [w] at q1
    have q1 : Aft X.K W ρ1 σ H1 (.ok A S1) _ := q1
    exact i ρ1 S1 H1 ds vs A Q r1 rvs w (q1.ok (Le.refl _) r1)
theorem fi_range1 {tg : Expr} {p : Pos} (hg : Gl X "range") (hm : X.mg "range" = none) (ha : FA X W [a] fa) (hs : starEach [a] X.env = [(false, eval a X.env)] := by rfl) : FI X W tg (.Call (.Name "range" p) [a] [] pos) (iOf (fun ds _ => rngIt1 ds) fa) := fi_of (pi_range1 hg hm ha hs) (ofI_rd fun ρ S H ds vs A Q hR rv w q => by
  unfold rngIt1 at w
  split at w
  · split at w
    · rename_i hj
      cases w
      obtain ⟨v, rfl, rv2⟩ := rds1 rv rfl
      cases rv2
      exact ⟨_, rfl, hj.1, hj.2, q _ rj_rng⟩
    · cases w
  · cases w)
theorem fi_range2 {tg : Expr} {p : Pos} (hg : Gl X "range") (hm : X.mg "range" = none) (ha : FA X W [a, b] fa) (hs : starEach [a, b] X.env = [(false, eval a X.env), (false, eval b X.env)] := by rfl) (hs2 : starEach [b] X.env = [(false, eval b X.env)] := by rfl) :
    FI X W tg (.Call (.Name "range" p) [a, b] [] pos) (iOf (fun ds _ => rngIt2 ds) fa) := fi_of (pi_range2 hg hm ha hs hs2) (ofI_rd fun ρ S H ds vs A Q hR rv w q => by
  unfold rngIt2 at w
  split at w
  · split at w
    · rename_i hj
      cases w
      obtain ⟨v, w, rfl, rv, rw'⟩ := rds2 rv
      cases rv
      cases rw'
      exact ⟨_, _, rfl, hj, q _ rj_rng⟩
    · cases w
  · cases w)
/-- enumerate of a list -/
def enumL (n : Nat) : List D → List D
  | [] => []
  | d :: r => .tup [.int (n : Nat), d] :: enumL (n + 1) r
theorem enumL_get : ∀ {l : List D} {n i : Nat} {d : D}, (enumL n l)[i]? = some d → ∃ e, l[i]? = some e ∧ d = .tup [.int ((n + i : Nat)), e]
  | [], n, i, d, h => by simp [enumL] at h
  | x :: l, n, 0, d, h => by simp [enumL] at h; exact ⟨x, rfl, by simp [h]⟩
  | x :: l, n, i + 1, d, h => by
    simp only [enumL, List.getElem?_cons_succ] at h
    obtain ⟨e, h1, h2⟩ := enumL_get h
    exact ⟨e, by simpa using h1, by rw [h2]; congr 4; omega⟩
theorem enumL_length : ∀ {l : List D} {n : Nat}, (enumL n l).length = l.length
  | [], _ => rfl
  | x :: l, n => by simp [enumL, enumL_length]
theorem pair_new {ρ' : List Addr} {S' : AH} {H' : Hp} {T : Addr} {d e : D} {x y : V} (r : R K ρ' S' H') (hT : H' T = none) (rx : RD K ρ' H' d x) (ry : RD K ρ' H' e y) :
    Le K ρ' H' ρ' (upd H' T (.tup [x, y])) ∧ R K ρ' S' (upd H' T (.tup [x, y])) ∧ RD K ρ' (upd H' T (.tup [x, y])) (.tup [d, e]) (.ref T) :=
  ⟨le_new0 hT, r.side hT, .tup (SqT.of upd_same) (.cons (rx.mono _ (le_new0 hT)) (.cons (ry.mono _ (le_new0 hT)) .nil))⟩
def lstIt (S : AH) (d : D) : Option AIt := match d with
  | .rol l => some ⟨l, fun _ => true⟩
  | .obj i => match S[i]? with
    | some (.lst l) => some ⟨l, fun S' => match S'[i]? with
      | some (.lst l') => eqDs l' l
      | _ => false⟩
    | _ => none
  | _ => none
def tupIt (d : D) : Option (List D) := match d with
  | .tup l => some l
  | _ => none
theorem lstIt_ok (hR : R K ρ S H) {d : D} {v : V} {A : AIt} (h : lstIt S d = some A) (r : RD K ρ H d v) : ∃ a, v = .ref a ∧ (∃ xs, SqL K H a xs) ∧ ∀ ρ' S' H', Le K ρ H ρ' H' → R K ρ' S' H' → A.guard S' = true → ∃ xs, SqL K H' a xs ∧ RDs K ρ' H' A.items xs := by
  cases r <;> simp only [lstIt] at h <;> first | cases h | skip
  · rename_i i a ha
    split at h
    · rename_i l hl
      cases h
      obtain ⟨a', xs, e, ha', m, r⟩ := r_lst hR (.obj ha) hl
      cases e
      refine ⟨a, rfl, ⟨xs, SqL.of m⟩, fun ρ' S' H' l1 r1 hg => ?_⟩
      have hg : (match S'[i]? with | some (.lst l') => eqDs l' l | _ => false) = true := hg
      split at hg
      · rename_i l' hl'
        have e := eqDs_eq hg
        subst e
        obtain ⟨a', xs', e, ha', m', r'⟩ := r_lst r1 (.obj (pre_get l1.pre ha)) hl'
        cases e
        exact ⟨xs', SqL.of m', r'⟩
      · cases hg
    · cases h
  · rename_i a xs ds t r
    exact ⟨a, rfl, ⟨_, t.sql⟩, fun ρ' S' H' l r' _ => ⟨_, (l.rol _ _ t).sql, r.mono _ l⟩⟩
def enumIt (ds : List D) (S : AH) : Option AIt := match ds with
  | [d] => (lstIt S d).map fun A => ⟨enumL 0 A.items, A.guard⟩
  | _ => none
theorem fi_enum {elts : List Expr} {kk : Nat} {p tpos : Pos} (hg : Gl X "enumerate") (hm : X.mg "enumerate" = none) (ha : FA X W [e] fa) (hs : starEach [e] X.env = [(false, eval e X.env)] := by rfl) :
    FI X W (.Tuple elts kk tpos) (.Call (.Name "enumerate" p) [e] [] pos) (iOf enumIt fa) := fi_of (pi_enum hg hm ha hs) (ofI_rd fun ρ S H ds vs A Q hR rv w q => by
  unfold enumIt at w
  split at w
  · simp only [Option.map_eq_some_iff] at w
    obtain ⟨B, hB, rfl⟩ := w
    obtain ⟨v, rfl, rv2⟩ := rds1 rv rfl
    obtain ⟨a, rfl, ⟨xs, hx⟩, k⟩ := lstIt_ok hR hB rv2
    refine ⟨a, xs, rfl, hx, q _ fun ρ' S' H' l1 r1 hg => ?_⟩
    obtain ⟨ys, hq, rr⟩ := k ρ' S' H' l1 r1 hg
    refine ⟨fun i hi => ⟨ys, hq, by rw [← rr.length]; simpa [enumL_length] using hi⟩, fun i d hd => ?_⟩
    obtain ⟨e, he, rfl⟩ := enumL_get hd
    obtain ⟨v, hv, rv⟩ := rr.get he
    refine ⟨⟨ys, v, hq, hv⟩, fun x H'' y => ?_⟩
    obtain ⟨T, z, rfl, hT, rfl, y⟩ := y
    have := y ys hq
    rw [hv] at this; cases this
    rw [Nat.zero_add]
    exact pair_new r1 hT .int rv
  · cases w)
/-- zip of two lists or of two tuples -/
def zipL : List D → List D → List D
  | a :: as, b :: bs => .tup [a, b] :: zipL as bs
  | _, _ => []
theorem zipL_get : ∀ {l m : List D} {i : Nat} {d : D}, (zipL l m)[i]? = some d → ∃ a b, l[i]? = some a ∧ m[i]? = some b ∧ d = .tup [a, b]
  | [], m, i, d, h => by simp [zipL] at h
  | _ :: _, [], i, d, h => by simp [zipL] at h
  | x :: l, y :: m, 0, d, h => by simp [zipL] at h; exact ⟨x, y, rfl, rfl, h.symm⟩
  | x :: l, y :: m, i + 1, d, h => by
    simp only [zipL, List.getElem?_cons_succ] at h ⊢
    exact zipL_get h
theorem zipL_length : ∀ {l m : List D}, (zipL l m).length = min l.length m.length
  | [], m => by simp [zipL]
  | _ :: _, [] => by simp [zipL]
  | x :: l, y :: m => by simp [zipL, zipL_length]
def zipIt (ds : List D) (S : AH) : Option AIt := match ds with
  | [d, e] => match tupIt d, tupIt e with
    | some l, some m => some ⟨zipL l m, fun _ => true⟩
    | _, _ => match lstIt S d, lstIt S e with
      | some A, some B => some ⟨zipL A.items B.items, fun S' => A.guard S' && B.guard S'⟩
      | _, _ => none
  | _ => none
theorem tupIt_ok {d : D} {v : V} {l : List D} (h : tupIt d = some l) (r : RD K ρ H d v) : ∃ a xs, v = .ref a ∧ SqT K H a xs ∧ RDs K ρ H l xs := by
  cases r <;> simp only [tupIt] at h <;> cases h
  exact ⟨_, _, rfl, by assumption, by assumption⟩
theorem fi_zip {elts : List Expr} {kk : Nat} {p tpos : Pos} {e2 : Expr} (hg : Gl X "zip") (hm : X.mg "zip" = none) (ha : FA X W [e, e2] fa)
    (hs : starEach [e, e2] X.env = (false, eval e X.env) :: starEach [e2] X.env := by rfl) (hpl : (backTo pos (starEach [e2] X.env)).any (·.1) = false := by rfl) :
    FI X W (.Tuple elts kk tpos) (.Call (.Name "zip" p) [e, e2] [] pos) (iOf zipIt fa) := fi_of (RZ.pi_zipA hg hm ha hs hpl) (ofI_rd fun ρ S H ds vs A Q hR rv w q => by
  unfold zipIt at w
  split at w
  · obtain ⟨v, u, rfl, rv, ru⟩ := rds2 rv
    split at w
    · rename_i l m hl hm
      cases w
      obtain ⟨a, xs, rfl, t, r⟩ := tupIt_ok hl rv
      obtain ⟨b, ys, rfl, t', r'⟩ := tupIt_ok hm ru
      refine ⟨a, b, xs, ys, rfl, .inr ⟨t, t', q _ fun ρ' S' H' l1 r1 hg => ?_⟩⟩
      have t1 := l1.tup _ _ t
      have t2 := l1.tup _ _ t'
      have rr1 := r.mono _ l1
      have rr2 := r'.mono _ l1
      refine ⟨fun i hi => ⟨xs, ys, t1, t2, by rw [← rr1.length, ← rr2.length]; simp [zipL_length] at hi; omega⟩, fun i d hd => ?_⟩
      obtain ⟨e1, e2, h1, h2, rfl⟩ := zipL_get hd
      obtain ⟨v, hv, rv⟩ := rr1.get h1
      obtain ⟨u, hu, ru⟩ := rr2.get h2
      refine ⟨⟨xs, ys, v, u, t1, t2, hv, hu⟩, fun x H'' y => ?_⟩
      obtain ⟨T, z, z', rfl, hT, rfl, y1, y2⟩ := y
      have := y1 xs t1
      rw [hv] at this; cases this
      have := y2 ys t2
      rw [hu] at this; cases this
      exact pair_new r1 hT rv ru
    · split at w
      · rename_i A B hA hB
        cases w
        obtain ⟨a, rfl, ⟨xs, hx⟩, k⟩ := lstIt_ok hR hA rv
        obtain ⟨b, rfl, ⟨ys, hy⟩, k'⟩ := lstIt_ok hR hB ru
        refine ⟨a, b, xs, ys, rfl, .inl ⟨hx, hy, q _ fun ρ' S' H' l1 r1 hg => ?_⟩⟩
        have hg : (A.guard S' && B.guard S') = true := hg
        rw [Bool.and_eq_true] at hg
        obtain ⟨xs, t1, rr1⟩ := k ρ' S' H' l1 r1 hg.1
        obtain ⟨ys, t2, rr2⟩ := k' ρ' S' H' l1 r1 hg.2
        refine ⟨fun i hi => ⟨xs, ys, t1, t2, by rw [← rr1.length, ← rr2.length]; simp [zipL_length] at hi; omega⟩, fun i d hd => ?_⟩
        obtain ⟨e1, e2, h1, h2, rfl⟩ := zipL_get hd
        obtain ⟨v, hv, rv⟩ := rr1.get h1
        obtain ⟨u, hu, ru⟩ := rr2.get h2
        refine ⟨⟨xs, ys, v, u, t1, t2, hv, hu⟩, fun x H'' y => ?_⟩
        obtain ⟨T, z, z', rfl, hT, rfl, y1, y2⟩ := y
        have := y1 xs t1
        rw [hv] at this; cases this
        have := y2 ys t2
        rw [hu] at this; cases this
        exact pair_new r1 hT rv ru
      · cases w
  · cases w)

/-! ### for -/
def forL (gd : AH → Bool) (t : Eg) (b : Es) : List D → Es
  | [] => fun env S => if gd S = true then .ok (.nx env) S else .bad
  | d :: r => fun env S => if gd S = true then (lf (t d env S)).bind fun e1 S1 => (b e1 S1).bind fun fl S2 => match fl with
      | .nx e => forL gd t b r e S2
      | .ct e => forL gd t b r e S2
      | .bk e => .ok (.nx e) S2
      | fl => .ok fl S2
    else .bad
def sFor (i : Ei) (t : Eg) (b : Es) : Es := fun env S => xnB env (i env S) fun A S1 => forL A.guard t b A.items env S1
theorem lf_aft {α β : Type} {ρ σ H} {o : Option (α × AH)} {k : α → AH → Rs β} {post : β → List Addr → AH → Hp → Prop} (h : Aft K W ρ σ H ((lf o).bind k) post) : ∃ a S', o = some (a, S') ∧ Aft K W ρ σ H (k a S') post := by
  cases o with
  | none => exact h.elim
  | some p => exact ⟨p.1, p.2, rfl, h⟩
/-- where no exception is let through the slots are of no matter -/
theorem aft_any {α : Type} {ρ σ σ' H} {r : Rs α} {post : α → List Addr → AH → Hp → Prop} (h : Aft K (fun _ _ _ _ => False) ρ σ H r post) : Aft K (fun _ _ _ _ => False) ρ σ' H r post := by
  cases r with
  | ok a S' => exact h
  | ex e S' => exact h
  | bad => exact h
theorem fs_for {tg iter : Expr} {body : List Stmt} {fi : Ei} {t : Eg} (hp : PassesOwn (model X.prog X.w) X.A X.env X.xe) (hc : X.calm = true) (hi : FI X W tg iter fi) (hg : FG X tg t) (hb : FSs X W body fs)
    (hs : ∀ x, foldedSetIterable iter X.env x = pure x := by intro _; rfl) : FS X W (.For tg iter body [] pos) (sFor fi t fs) := fs_of (ps_for hp hc hi hg hb hs) fun D σ H z => by
  obtain ⟨ρ, env, S, hR, hE, q⟩ := z
  refine ⟨ρ, env, S, hR, hE, Aft.imp (xnB_aft hE q) fun A ρ1 S1 H1 l1 r1 q1 J hJ => ?_⟩
  refine ⟨fun i m σ H => m = A.items.length - i ∧ i ≤ A.items.length ∧ ∃ ρ env S, R X.K ρ S H ∧ RE X.K ρ H env σ ∧ Le X.K ρ1 H1 ρ H ∧ Aft X.K (fun _ _ _ _ => False) ρ σ H (forL A.guard t fs (A.items.drop i) env S) (postS X.K W D),
    ⟨_, rfl, Nat.zero_le _, ρ1, env, S1, r1, hE.mono _ l1, Le.refl _, by simpa using q1⟩, ?_⟩
  rintro i m σ H ⟨rfl, hi, ρ2, env2, S2, r2, hE2, l2, q2⟩
  by_cases hlt : i < A.items.length
  · rw [List.drop_eq_getElem_cons hlt] at q2
    unfold forL at q2
    split at q2
    · rename_i hgd
      obtain ⟨_, k⟩ := hJ ρ2 S2 H l2 r2 hgd
      obtain ⟨go, step⟩ := k i _ (List.getElem?_eq_getElem hlt)
      refine .inr ⟨go, _, fun σ' H' w => ⟨A.items.length - (i + 1), by omega, rfl, hlt, w⟩, fun x H' y => ?_⟩
      obtain ⟨l3, r3, rx⟩ := step x H' y
      refine ⟨ρ2, env2, S2, _, r3, hE2.mono _ l3, rx, ?_⟩
      obtain ⟨e1, S1', h1, q3⟩ := lf_aft (q2.from l3)
      rw [h1]
      intro ρ4 H4 σ4 l4 r4 hE4
      refine ⟨ρ4, e1, S1', r4, hE4, Aft.imp (Aft.bind (aft_any (q3.from l4))) fun fl ρ5 S5 H5 l5 r5 q5 => ?_⟩
      have l25 : Le X.K ρ1 H1 ρ5 H5 := ((l2.trans _ l3).trans _ l4).trans _ l5
      cases fl with
      | nx env' => exact fun σ' hE' => ⟨ρ5, env', S5, r5, hE', l25, aft_any (by
          cases q6 : forL A.guard t fs (A.items.drop (i + 1)) env' S5 with
          | bad => simp only [q6] at q5; exact q5
          | ok fl S2 => simp only [q6] at q5; exact q5
          | ex x S2 => simp only [q6] at q5; exact q5)⟩
      | ct env' => exact fun σ' hE' => ⟨ρ5, env', S5, r5, hE', l25, aft_any (by
          cases q6 : forL A.guard t fs (A.items.drop (i + 1)) env' S5 with
          | bad => simp only [q6] at q5; exact q5
          | ok fl S2 => simp only [q6] at q5; exact q5
          | ex x S2 => simp only [q6] at q5; exact q5)⟩
      | rt d => exact q5.ok (Le.refl _) r5
      | bk e => exact q5.ok (Le.refl _) r5
      | xn x e => exact q5.ok (Le.refl _) r5
    · exact q2.elim
  · have e : A.items.drop i = [] := List.drop_eq_nil_of_le (by omega)
    rw [e] at q2
    unfold forL at q2
    split at q2
    · rename_i hgd
      exact .inl ⟨(hJ ρ2 S2 H l2 r2 hgd).1 i (by omega), q2.ok (Le.refl _) r2 σ hE2⟩
    · exact q2.elim
end
end Y

set_option Elab.async false
set_option linter.all false
set_option maxRecDepth 100000
namespace Y
open PySem PySem.Spec L2

/-! ### blocks of comprehensions -/
def wipeE (env : En) : List Nat → En
  | [] => env
  | v :: vs => (wipeE env vs).set v none
section
variable {X : Cx} {W : WX} {e a b c : Expr} {es : List Expr} {f g h : Ev} {pos : Pos} {ft gt : Et} {fa : Ea} {K : PySem.W.Frag} {ρ : List Addr} {S : AH} {H : Hp} {fs gs : Es}
theorem RE.wipe {env : En} {σ : L2.St} (h : RE K ρ H env σ) : ∀ vs, RE K ρ H (wipeE env vs) (wipe σ vs)
  | [] => h
  | v :: vs => by
    obtain ⟨h1, h2⟩ := RE.wipe h vs
    refine ⟨by simp only [wipeE, L2.wipe, List.length_set]; exact h1, fun i d q => ?_⟩
    simp only [wipeE, L2.wipe] at q ⊢
    by_cases hi : v = i
    · subst hi
      by_cases hv : v < (wipeE env vs).length
      · rw [List.getElem?_set_self hv] at q; cases q
      · rw [List.getElem?_eq_none (by simpa using hv)] at q; cases q
    · rw [List.getElem?_set_ne hi] at q ⊢
      exact h2 i d q
theorem wipe_get {σ : L2.St} {i : Nat} : ∀ {vs : List Nat}, (wipe σ vs)[i]? = if i ∈ vs then (if i < σ.length then some none else none) else σ[i]?
  | [] => by simp [wipe]
  | v :: vs => by
    unfold wipe
    by_cases hi : v = i
    · subst hi
      by_cases hv : v < σ.length
      · rw [List.getElem?_set_self (by rw [wipe_length]; exact hv)]; simp [hv]
      · rw [List.getElem?_eq_none (by rw [List.length_set, wipe_length]; omega)]; simp [hv]
    · rw [List.getElem?_set_ne hi, wipe_get (vs := vs)]
      have : i ∈ v :: vs ↔ i ∈ vs := by simp only [List.mem_cons]; exact ⟨fun h => h.resolve_left fun e => hi e.symm, .inr⟩
      simp only [this]
theorem wipe_eq {σ σ' : L2.St} {ws vs : List Nat} (hl : σ'.length = (wipe σ vs).length) (h : ∀ i, i ∉ ws → σ'[i]? = (wipe σ vs)[i]?) (hw : ∀ i ∈ ws, i ∈ vs) : wipe σ' vs = wipe σ vs := by
  rw [wipe_length] at hl
  refine List.ext_getElem? fun i => ?_
  rw [wipe_get, wipe_get, hl]
  by_cases hi : i ∈ vs
  · rw [if_pos hi, if_pos hi]
  · rw [if_neg hi, if_neg hi, h i (fun z => hi (hw i z)), wipe_get, if_neg hi]
/-- targets whose stores stay within ws -/
def AfW (K : PySem.W.Frag) (ρ : List Addr) (H : Hp) (σ : L2.St) (ws : List Nat) (r : Option (En × AH)) (Q : L2.St → Hp → Prop) : Prop := match r with
  | some (env', S') => ∀ ρ' H' σ', Le K ρ H ρ' H' → R K ρ' S' H' → RE K ρ' H' env' σ' → σ'.length = σ.length → (∀ i, i ∉ ws → σ'[i]? = σ[i]?) → Q σ' H'
  | none => False
def rdW (K : PySem.W.Frag) (t : Eg) (ws : List Nat) : TG := fun v σ H Q => ∃ ρ env S d, R K ρ S H ∧ RE K ρ H env σ ∧ RD K ρ H d v ∧ AfW K ρ H σ ws (t d env S) Q
def rdWs (K : PySem.W.Frag) (t : Egs) (ws : List Nat) : TGs := fun vs σ H Q => ∃ ρ env S ds, R K ρ S H ∧ RE K ρ H env σ ∧ RDs K ρ H ds vs ∧ AfW K ρ H σ ws (t ds env S) Q
def FW' (X : Cx) (tg : Expr) (t : Eg) (ws : List Nat) : Prop := PG X tg (rdW X.K t ws)
def FWs' (X : Cx) (tg : List Expr) (t : Egs) (ws : List Nat) : Prop := PGs X tg (rdWs X.K t ws)
theorem pw_of {tg : Expr} {t : Eg} {ws} {u : TG} (hp : PG X tg u) (i : ∀ v σ H Q, rdW X.K t ws v σ H Q → u v σ H Q) : FW' X tg t ws := ⟨fun pins s σ H v u' Q I r h => hp.run pins s σ H v u' Q I r (i v σ H Q h)⟩
theorem pws_of {tg : List Expr} {t : Egs} {ws} {u : TGs} (hp : PGs X tg u) (i : ∀ v σ H Q, rdWs X.K t ws v σ H Q → u v σ H Q) : FWs' X tg t ws := ⟨fun pins s σ H v u' Q I r h => hp.run pins s σ H v u' Q I r (i v σ H Q h)⟩
theorem fw_name {i : Nat} {x : Str} (hN : X.N.Nodup) (hi : X.N[i]? = some x) (hx : Loc X.env.scope x) (hf : X.fn x = true ∨ X.env.scope.names.lookup x = some .local := by first | exact .inl rfl | exact .inr rfl | assumption) : FW' X (.Name x pos) (gNm i) [i] := pw_of (pg_name hN hi hx hf) fun v σ H Q z => by
  obtain ⟨ρ, env, S, d, hR, hE, r, q⟩ := z
  exact q ρ H _ (Le.refl _) hR (hE.set _ r) (by simp) fun j hj => List.getElem?_set_ne (fun e => hj (by simp [e]))
theorem fws_nil : FWs' X [] gNils [] := pws_of pgs_nil fun vs σ H Q z => by
  obtain ⟨ρ, env, S, ds, hR, hE, r, q⟩ := z
  cases r with
  | nil => exact ⟨rfl, q ρ H _ (Le.refl _) hR hE rfl fun _ _ => rfl⟩
  | cons _ _ => exact q.elim
theorem fws_cons {ts : List Expr} {t : Eg} {u : Egs} {ws vs : List Nat} (h1 : FW' X e t ws) (h2 : FWs' X ts u vs) (hs : (assignEach (e :: ts) X.env).map (·.2) = assign e X.env :: (assignEach ts X.env).map (·.2) := by rfl) : FWs' X (e :: ts) (gConss t u) (ws ++ vs) := pws_of (pgs_cons h1 h2 hs) fun vs' σ H Q z => by
  obtain ⟨ρ, env, S, ds, hR, hE, r, q⟩ := z
  cases r with
  | nil => exact q.elim
  | cons r1 r2 =>
    rename_i d v ds vs
    refine ⟨_, _, rfl, ρ, env, S, _, hR, hE, r1, ?_⟩
    simp only [gConss] at q
    cases w : t d env S with
    | none => rw [w] at q; exact q.elim
    | some p =>
      rw [w] at q
      refine fun ρ' H' σ' l r' e' hl hk => ⟨ρ', p.1, p.2, ds, r', e', r2.mono _ l, ?_⟩
      have q : AfW X.K ρ H σ _ (u ds p.1 p.2) Q := q
      cases w2 : u ds p.1 p.2 with
      | none => rw [w2] at q; exact q
      | some p2 =>
        rw [w2] at q
        exact fun ρ2 H2 σ2 l2 r2 e2 hl2 hk2 => q ρ2 H2 σ2 (l.trans _ l2) r2 e2 (hl2.trans hl) fun i hi => by
          rw [List.mem_append, not_or] at hi
          rw [hk2 i hi.2, hk i hi.1]
theorem fw_tup {ts : List Expr} {u : Egs} {ws : List Nat} {n : Nat} {k : Nat} (hc : X.calm = true) (h : FWs' X ts u ws)
    (hn : (assignEach ts X.env).length = n := by rfl) (hst : (assignEach ts X.env).findIdx? (·.1) = none := by rfl) : FW' X (.Tuple ts k pos) (gTp n u) ws := pw_of (pg_tup hc h hn hst) fun v σ H Q z => by
  obtain ⟨ρ, env, S, d, hR, hE, r, q⟩ := z
  cases r with
  | tup t r =>
    simp only [gTp] at q
    split at q
    · rename_i hl
      exact ⟨_, _, rfl, t, by rw [← r.length]; exact hl, ρ, env, S, _, hR, hE, r, q⟩
    · exact q.elim
  | _ => exact q.elim
/-- nothing is raised -/
def noX {α : Type} : Rs α → Rs α
  | .ok a S => .ok a S
  | _ => .bad
theorem noX_aft {α β : Type} {ρ σ σ' H} {r : Rs α} {k : α → AH → Rs β} {post : β → List Addr → AH → Hp → Prop} (h : Aft K W ρ σ H ((noX r).bind k) post) :
    Aft K (fun _ _ _ _ => False) ρ σ' H r (fun a ρ' S' H' => Aft K W ρ' σ H' (k a S') post) := by
  cases r with
  | ok a S' => exact fun ρ' H' l' r' => Aft.from h l'
  | ex e S' => exact h.elim
  | bad => exact h
def apd (j : Nat) (y : D) (S : AH) : Option (Unit × AH) := match S[j]? with
  | some (.lst acc) => if acc.length < sizeLine then some ((), S.set j (.lst (acc ++ [y]))) else none
  | _ => none
/-- the turns of a comprehension: the list grows at j -/
def lcL (j : Nat) (gd : AH → Bool) (t : Eg) (tt : Et) (te : Ev) (env : En) : List D → AH → Rs Unit
  | [] => fun S => if gd S = true then .ok () S else .bad
  | d :: r => fun S => if gd S = true then (lf (t d env S)).bind fun e1 S1 => (noX (tt e1 S1)).bind fun b S2 =>
      if b = true then (noX (te e1 S2)).bind fun y S3 => (lf (apd j y S3)).bind fun _ S4 => lcL j gd t tt te env r S4 else lcL j gd t tt te env r S2
    else .bad
abbrev WN : WX := fun _ _ _ _ => False
theorem apd_ok (hR : R K ρ S H) {j : Nat} {y : D} {S' : AH} {D' : Addr} {v : V} (hD : ρ[j]? = some D') (rv : RD K ρ H y v) (h : apd j y S = some ((), S')) :
    ∃ acc, H D' = some (.lst acc) ∧ acc.length < sizeLine ∧ Le K ρ H ρ (upd H D' (.lst (acc ++ [v]))) ∧ R K ρ S' (upd H D' (.lst (acc ++ [v]))) := by
  unfold apd at h
  split at h
  · rename_i acc hacc
    split at h
    · rename_i hz
      cases h
      obtain ⟨a, xs, e, ha, m, r⟩ := r_lst hR (.obj hD) hacc
      cases e
      exact ⟨xs, m, by rw [← r.length]; exact hz, le_wr m trivial, hR.wr ha m trivial ⟨_, upd_same, (r.append (.cons rv .nil)).mono _ (le_wr m trivial)⟩⟩
    · cases h
  · cases h
theorem lc_turns {J : It} {A : AIt} {ρ1 : List Addr} {H1 : Hp} (hJ : RJ K ρ1 H1 J A) {t : Eg} {ws vs : List Nat} {tt : Et} {te : Ev} {env : En} {σ : L2.St} {j : Nat} {L : Addr} {Fin : Hp → Prop} (hw : ∀ i ∈ ws, i ∈ vs)
    {ρ0 : List Addr} {S0 : AH} {H0 : Hp} (l0 : Le K ρ1 H1 ρ0 H0) (hR : R K ρ0 S0 H0) (hE : RE K ρ0 H0 env σ) (hL : ρ0[j]? = some L)
    (q : Aft K WN ρ0 [] H0 (lcL j A.guard t tt te (wipeE env vs) A.items S0) fun _ _ _ H' => Fin H') :
    ∃ Wt : Nat → Nat → Hp → Prop, (∃ m, Wt 0 m H0) ∧ ∀ i m H, Wt i m H →
      (J.stop i H ∧ Fin H) ∨ (J.go i H ∧ ∃ Nx : Hp → Prop, (∀ H', Nx H' → ∃ m', m' < m ∧ Wt (i + 1) m' H') ∧ ∀ x H', J.yld i H x H' → rdW K t ws x (wipe σ vs) H' fun σ2 H2 => wipe σ2 vs = wipe σ vs ∧ rdT K WN tt σ2 H2 fun b H3 =>
        if b = true then rd K WN te σ2 H3 fun y H4 => ∃ acc, H4 L = some (.lst acc) ∧ acc.length < sizeLine ∧ Nx (upd H4 L (.lst (acc ++ [y]))) else Nx H3) := by
  refine ⟨fun i m H => m = A.items.length - i ∧ i ≤ A.items.length ∧ ∃ ρ S, R K ρ S H ∧ Le K ρ0 H0 ρ H ∧ Aft K WN ρ [] H (lcL j A.guard t tt te (wipeE env vs) (A.items.drop i) S) fun _ _ _ H' => Fin H', ⟨_, rfl, Nat.zero_le _, ρ0, S0, hR, Le.refl _, q⟩, ?_⟩
  rintro i m H ⟨rfl, hi, ρ2, S2, r2, l2, q2⟩
  by_cases hlt : i < A.items.length
  · rw [List.drop_eq_getElem_cons hlt] at q2
    unfold lcL at q2
    split at q2
    · rename_i hgd
      obtain ⟨_, k⟩ := hJ ρ2 S2 H (l0.trans _ l2) r2 hgd
      obtain ⟨go, step⟩ := k i _ (List.getElem?_eq_getElem hlt)
      refine .inr ⟨go, _, fun H' w => ⟨A.items.length - (i + 1), by omega, rfl, hlt, w⟩, fun x H' y => ?_⟩
      obtain ⟨l3, r3, rx⟩ := step x H' y
      have l23 := l2.trans _ l3
      refine ⟨ρ2, wipeE env vs, S2, _, r3, (hE.mono _ l23).wipe vs, rx, ?_⟩
      obtain ⟨e1, S1', h1, q3⟩ := lf_aft (q2.from l3)
      rw [h1]
      intro ρ4 H4 σ4 l4 r4 hE4 hl4 hk4
      refine ⟨wipe_eq hl4 hk4 hw, ρ4, e1, S1', r4, hE4, Aft.imp (noX_aft (q3.from l4)) fun bb ρ5 S5 H5 l5 r5 q5 => ?_⟩
      have l5' := (l23.trans _ l4).trans _ l5
      cases bb with
      | false => exact ⟨ρ5, S5, r5, l5', q5⟩
      | true =>
        refine ⟨ρ5, e1, S5, r5, hE4.mono _ l5, Aft.imp (noX_aft (show Aft K WN ρ5 [] H5 ((noX (te e1 S5)).bind _) _ from q5)) fun y ρ6 S6 H6 l6 r6 q6 v rv => ?_⟩
        have l6' := l5'.trans _ l6
        obtain ⟨_, S7, h7, q7⟩ := lf_aft q6
        obtain ⟨acc, hacc, hz, l7, r7⟩ := apd_ok r6 (pre_get l6'.pre hL) rv h7
        exact ⟨acc, hacc, hz, ρ6, S7, r7, l6'.trans _ l7, q7.from l7⟩
    · exact q2.elim
  · have e : A.items.drop i = [] := List.drop_eq_nil_of_le (by omega)
    rw [e] at q2
    unfold lcL at q2
    split at q2
    · rename_i hgd
      exact .inl ⟨(hJ ρ2 S2 H (l0.trans _ l2) r2 hgd).1 i (by omega), q2.ok (Le.refl _) r2⟩
    · exact q2.elim
/-- [e for t in i if ..] -/
def eLc (i : Ei) (t : Eg) (tt : Et) (te : Ev) (vs : List Nat) : Ev := fun env S => (i env S).bind fun A S1 => (lcL S1.length A.guard t tt te (wipeE env vs) A.items (S1 ++ [.lst []])).bind fun _ S2 => .ok (.obj S1.length) S2
theorem lcL_ok : ∀ {l : List D} {j gd t tt te env S x S'}, lcL j gd t tt te env l S = .ex x S' → False
  | [], j, gd, t, tt, te, env, S, x, S', h => by
    unfold lcL at h
    split at h <;> cases h
  | d :: r, j, gd, t, tt, te, env, S, x, S', h => by
    unfold lcL at h
    split at h
    · cases h1 : t d env S with
      | none => rw [h1] at h; cases h
      | some p =>
        rw [h1] at h
        have h : (noX (tt p.1 p.2)).bind _ = _ := h
        cases h2 : tt p.1 p.2 with
        | bad => rw [h2] at h; cases h
        | ex _ _ => rw [h2] at h; cases h
        | ok b S2 =>
          rw [h2] at h
          simp only [noX, Rs.bind] at h
          split at h
          · cases h3 : te p.1 S2 with
            | bad => rw [h3] at h; cases h
            | ex _ _ => rw [h3] at h; cases h
            | ok y S3 =>
              rw [h3] at h
              simp only at h
              cases h4 : apd j y S3 with
              | none => rw [h4] at h; cases h
              | some p2 => rw [h4] at h; exact lcL_ok h
          · exact lcL_ok h
    · cases h
theorem lcL_aft {β : Type} {ρ σ H} {j gd t tt te env} {l : List D} {S} {k : Unit → AH → Rs β} {post : β → List Addr → AH → Hp → Prop} (h : Aft K W ρ σ H ((lcL j gd t tt te env l S).bind k) post) :
    Aft K WN ρ [] H (lcL j gd t tt te env l S) fun a ρ' S' H' => Aft K W ρ' σ H' (k a S') post := by
  cases q : lcL j gd t tt te env l S with
  | ok a S' => rw [q] at h; exact fun ρ' H' l' r' => Aft.from h l'
  | ex _ _ => exact (lcL_ok q).elim
  | bad => rw [q] at h; exact h.elim
/-- the comprehension's blocks, whatever they start from -/
def FTs (X : Cx) (ifs : List Expr) (tt : Et) : Prop := PTs X ifs (rdT X.K WN tt)
def tYes' : Et := fun _ S => .ok true S
theorem fts_nil : FTs X [] tYes' := ⟨fun pins s σ H Q I h => pts_nil.run pins s σ H Q I (by
  obtain ⟨ρ, env, S, hR, hE, q⟩ := h
  exact q.ok (Le.refl _) hR)⟩
theorem fts_one (h : FT X WN c ft) : FTs X [c] ft := pts_one h
section
variable {elt tg iter : Expr} {ifs : List Expr} {scope : Scope} {own : List (Str × Nat)} {fi : Ei} {t : Eg} {ws : List Nat} {tt : Et} {te : Ev}
theorem lc_rd (hw : ∀ i ∈ ws, i ∈ own.map (·.2)) : ∀ σ H Q, rd X.K W (eLc fi t tt te (own.map (·.2))) σ H Q → tLc (rdI X.K W fi) (rdW X.K t ws) (rdT X.K WN tt) (rd X.K WN te) (own.map (·.2)) σ H Q := by
  rintro σ H Q ⟨ρ, env, S, hR, hE, q⟩
  refine ⟨ρ, env, S, hR, hE, Aft.imp (Aft.bind q) fun A ρ1 S1 H1 l1 r1 q1 J hJ L hL => ?_⟩
  have l2 : Le X.K ρ1 H1 (ρ1 ++ [L]) (upd H1 L (.lst [])) := le_new hL _
  have r2 := r1.new (ob := .lst []) hL ⟨[], upd_same, .nil⟩
  have hj : (ρ1 ++ [L])[S1.length]? = some L := by rw [← r1.len]; simp
  exact lc_turns hJ hw l2 r2 (hE.mono _ (l1.trans _ l2)) hj (Aft.imp (lcL_aft (q1.from l2)) fun _ ρ3 S3 H3 l3 r3 q3 => q3.ok (Le.refl _) r3 _ (.obj (pre_get l3.pre hj)))
theorem fe_lc (hc : X.calm = true) (hN : X.N.Nodup) (hi : FI X W tg iter fi) (ok : BlkOk X.N X.env.scope scope own) (hw : ∀ i ∈ ws, i ∈ own.map (·.2))
    (hg : ∀ (s : Shared) (H : Hp) (C : Addr) (cl : List (Str × Addr)) (fp : List Addr), FW' (X.blk s H scope (compEnvC scope cl C X.env) fp) tg t ws)
    (ht : ∀ (s : Shared) (H : Hp) (C : Addr) (cl : List (Str × Addr)) (fp : List Addr), FTs (X.blk s H scope (compEnvC scope cl C X.env) fp) ifs tt)
    (he : ∀ (s : Shared) (H : Hp) (C : Addr) (cl : List (Str × Addr)) (fp : List Addr), FE (X.blk s H scope (compEnvC scope cl C X.env) fp) WN elt te) (hs : ∀ x, foldedSetIterable iter X.env x = pure x := by intro _; rfl) :
    FE X W (.ListComp elt [⟨tg, iter, ifs, 0⟩] scope pos) (eLc fi t tt te (own.map (·.2))) := fe_of (pe_lc (g := rdW X.K t ws) (tt := rdT X.K WN tt) (te := rd X.K WN te) hc hN hi ok hg ht he hs) (lc_rd hw)
/-- x = [..] on one line -/
theorem fs_setLc {i : Nat} {y : Str} {py spos : Pos} (hc : X.calm = true) (hN : X.N.Nodup) (hy : X.N[i]? = some y) (hyl : X.env.scope.names.lookup y = some .local)
    (hsw : swapsWith (.ListComp elt [⟨tg, iter, ifs, 0⟩] scope pos) (some (.Name y py)) spos.line X.env = pure true) (hi : FI X W tg iter fi) (ok : BlkOk X.N X.env.scope scope own) (hw : ∀ i ∈ ws, i ∈ own.map (·.2))
    (hg : ∀ (s : Shared) (H : Hp) (C : Addr) (cl : List (Str × Addr)) (fp : List Addr), FW' (X.blk s H scope (compEnvC scope cl C X.env) fp) tg t ws)
    (ht : ∀ (s : Shared) (H : Hp) (C : Addr) (cl : List (Str × Addr)) (fp : List Addr), FTs (X.blk s H scope (compEnvC scope cl C X.env) fp) ifs tt)
    (he : ∀ (s : Shared) (H : Hp) (C : Addr) (cl : List (Str × Addr)) (fp : List Addr), FE (X.blk s H scope (compEnvC scope cl C X.env) fp) WN elt te) (hs : ∀ x, foldedSetIterable iter X.env x = pure x := by intro _; rfl) :
    FS X W (.Assign [.Name y py] (.ListComp elt [⟨tg, iter, ifs, 0⟩] scope pos) spos) (sSet i (eLc fi t tt te (own.map (·.2)))) := fs_of (ps_setLc (g := rdW X.K t ws) (tt := rdT X.K WN tt) (te := rd X.K WN te) hc hN hy hyl hsw hi ok hg ht he hs) fun D σ H z => by
  obtain ⟨ρ, env, S, hR, hE, q⟩ := z
  refine lc_rd hw σ H _ ⟨ρ, env, S, hR, hE, Aft.imp (xnB_aft hE q) fun d ρ1 S1 H1 l1 r1 q1 v rv => q1.ok (Le.refl _) r1 _ ((hE.mono _ l1).set _ rv)⟩
end
end
end Y

set_option Elab.async false
set_option linter.all false
set_option maxRecDepth 100000
namespace Y
open PySem PySem.Spec L2
section
variable {X : Cx} {W : WX} {e a b c : Expr} {es : List Expr} {f g h : Ev} {pos : Pos} {ft gt : Et} {fa : Ea} {K : PySem.W.Frag} {ρ : List Addr} {S : AH} {H : Hp} {fs gs : Es}

/-! ### two clauses -/
def lc2L (j : Nat) (gd : AH → Bool) (t : Eg) (tt : Et) (i1 : Ei) (t1 : Eg) (tt1 : Et) (te : Ev) (vs1 : List Nat) (env : En) : List D → AH → Rs Unit
  | [] => fun S => if gd S = true then .ok () S else .bad
  | d :: r => fun S => if gd S = true then (lf (t d env S)).bind fun e1 S1 => (noX (tt e1 S1)).bind fun b S2 =>
      if b = true then (noX (i1 e1 S2)).bind fun A S3 => (noX (lcL j A.guard t1 tt1 te (wipeE e1 vs1) A.items S3)).bind fun _ S4 => lc2L j gd t tt i1 t1 tt1 te vs1 env r S4 else lc2L j gd t tt i1 t1 tt1 te vs1 env r S2
    else .bad
def eLc2 (i : Ei) (t : Eg) (tt : Et) (i1 : Ei) (t1 : Eg) (tt1 : Et) (te : Ev) (vs vs1 : List Nat) : Ev := fun env S => (i env S).bind fun A S1 => (noX (lc2L S1.length A.guard t tt i1 t1 tt1 te vs1 (wipeE env vs) A.items (S1 ++ [.lst []]))).bind fun _ S2 => .ok (.obj S1.length) S2
section
variable {elt tg iter tg1 iter1 : Expr} {ifs ifs1 : List Expr} {scope : Scope} {own : List (Str × Nat)} {vs1 : List Nat} {fi fi1 : Ei} {t t1 : Eg} {ws ws1 : List Nat} {tt tt1 : Et} {te : Ev}
theorem lc2_rd (hw : ∀ i ∈ ws, i ∈ own.map (·.2)) (hw1 : ∀ i ∈ ws1, i ∈ vs1) : ∀ σ H Q, rd X.K W (eLc2 fi t tt fi1 t1 tt1 te (own.map (·.2)) vs1) σ H Q →
    tLc2 (rdI X.K W fi) (rdW X.K t ws) (rdT X.K WN tt) (rdI X.K WN fi1) (rdW X.K t1 ws1) (rdT X.K WN tt1) (rd X.K WN te) (own.map (·.2)) vs1 σ H Q := by
  rintro σ H Q ⟨ρ, env, S, hR, hE, q⟩
  refine ⟨ρ, env, S, hR, hE, Aft.imp (Aft.bind q) fun A ρ1 S1 H1 l1 r1 q1 J hJ L hL => ?_⟩
  have l2 : Le X.K ρ1 H1 (ρ1 ++ [L]) (upd H1 L (.lst [])) := le_new hL _
  have r2 := r1.new (ob := .lst []) hL ⟨[], upd_same, .nil⟩
  have hj : (ρ1 ++ [L])[S1.length]? = some L := by rw [← r1.len]; simp
  have hE2 := hE.mono _ (l1.trans _ l2)
  have q2 := Aft.imp (post' := fun _ _ _ H' => Q (.ref L) H') (noX_aft (σ' := []) (q1.from l2)) fun _ ρ3 S3 H3 l3 r3 q3 => q3.ok (Le.refl _) r3 _ (.obj (pre_get l3.pre hj))
  refine ⟨fun i m H => m = A.items.length - i ∧ i ≤ A.items.length ∧ ∃ ρ S, R X.K ρ S H ∧ Le X.K (ρ1 ++ [L]) (upd H1 L (.lst [])) ρ H ∧ Aft X.K WN ρ [] H (lc2L S1.length A.guard t tt fi1 t1 tt1 te vs1 (wipeE env (own.map (·.2))) (A.items.drop i) S) fun _ _ _ H' => Q (.ref L) H', ⟨_, rfl, Nat.zero_le _, _, _, r2, Le.refl _, q2⟩, ?_⟩
  rintro i m H3 ⟨rfl, hi, ρ3, S3, r3, l3, q3⟩
  by_cases hlt : i < A.items.length
  · rw [List.drop_eq_getElem_cons hlt] at q3
    unfold lc2L at q3
    split at q3
    · rename_i hgd
      obtain ⟨_, k⟩ := hJ ρ3 S3 H3 (l2.trans _ l3) r3 hgd
      obtain ⟨go, step⟩ := k i _ (List.getElem?_eq_getElem hlt)
      refine .inr ⟨go, _, fun H' w => ⟨A.items.length - (i + 1), by omega, rfl, hlt, w⟩, fun x H' y => ?_⟩
      obtain ⟨l4, r4, rx⟩ := step x H' y
      have l24 := l3.trans _ l4
      refine ⟨ρ3, wipeE env _, S3, _, r4, (hE2.mono _ l24).wipe _, rx, ?_⟩
      obtain ⟨e1, S1', h1, q4⟩ := lf_aft (q3.from l4)
      rw [h1]
      intro ρ5 H5 σ5 l5 r5 hE5 hl5 hk5
      refine ⟨wipe_eq hl5 hk5 hw, ρ5, e1, S1', r5, hE5, Aft.imp (noX_aft (q4.from l5)) fun bb ρ6 S6 H6 l6 r6 q6 => ?_⟩
      have l6' := (l24.trans _ l5).trans _ l6
      cases bb with
      | false => exact ⟨ρ6, S6, r6, l6', q6⟩
      | true =>
        refine ⟨ρ6, e1, S6, r6, hE5.mono _ l6, Aft.imp (noX_aft (show Aft X.K WN ρ6 [] H6 ((noX (fi1 e1 S6)).bind _) _ from q6)) fun A1 ρ7 S7 H7 l7 r7 q7 J1 hJ1 => ?_⟩
        have l7' := l6'.trans _ l7
        exact lc_turns hJ1 hw1 (Le.refl _) r7 (hE5.mono _ (l6.trans _ l7)) (pre_get l7'.pre hj) (Aft.imp (noX_aft q7) fun _ ρ8 S8 H8 l8 r8 q8 => ⟨ρ8, S8, r8, l7'.trans _ l8, q8⟩)
    · exact q3.elim
  · have e : A.items.drop i = [] := List.drop_eq_nil_of_le (by omega)
    rw [e] at q3
    unfold lc2L at q3
    split at q3
    · rename_i hgd
      exact .inl ⟨(hJ ρ3 S3 H3 (l2.trans _ l3) r3 hgd).1 i (by omega), q3.ok (Le.refl _) r3⟩
    · exact q3.elim
theorem fe_lc2 (hc : X.calm = true) (hN : X.N.Nodup) (hi : FI X W tg iter fi) (ok : BlkOk X.N X.env.scope scope own) (hv : ∀ i ∈ vs1, i ∈ own.map (·.2)) (hw : ∀ i ∈ ws, i ∈ own.map (·.2)) (hw1 : ∀ i ∈ ws1, i ∈ vs1)
    (hg : ∀ (s : Shared) (H : Hp) (C : Addr) (cl : List (Str × Addr)) (fp : List Addr), FW' (X.blk s H scope (compEnvC scope cl C X.env) fp) tg t ws)
    (ht : ∀ (s : Shared) (H : Hp) (C : Addr) (cl : List (Str × Addr)) (fp : List Addr), FTs (X.blk s H scope (compEnvC scope cl C X.env) fp) ifs tt)
    (hi1 : ∀ (s : Shared) (H : Hp) (C : Addr) (cl : List (Str × Addr)) (fp : List Addr), FI (X.blk s H scope (compEnvC scope cl C X.env) fp) WN tg1 iter1 fi1)
    (hg1 : ∀ (s : Shared) (H : Hp) (C : Addr) (cl : List (Str × Addr)) (fp : List Addr), FW' (X.blk s H scope (compEnvC scope cl C X.env) fp) tg1 t1 ws1)
    (ht1 : ∀ (s : Shared) (H : Hp) (C : Addr) (cl : List (Str × Addr)) (fp : List Addr), FTs (X.blk s H scope (compEnvC scope cl C X.env) fp) ifs1 tt1)
    (he : ∀ (s : Shared) (H : Hp) (C : Addr) (cl : List (Str × Addr)) (fp : List Addr), FE (X.blk s H scope (compEnvC scope cl C X.env) fp) WN elt te) (hs : ∀ x, foldedSetIterable iter X.env x = pure x := by intro _; rfl) (hs1 : ∀ env x, foldedSetIterable iter1 env x = pure x := by intro _ _; rfl) :
    FE X W (.ListComp elt [⟨tg, iter, ifs, 0⟩, ⟨tg1, iter1, ifs1, 0⟩] scope pos) (eLc2 fi t tt fi1 t1 tt1 te (own.map (·.2)) vs1) :=
  fe_of (pe_lc2 (g := rdW X.K t ws) (tt := rdT X.K WN tt) (te := rd X.K WN te) (wi1 := rdI X.K WN fi1) (g1 := rdW X.K t1 ws1) (tt1 := rdT X.K WN tt1) hc hN hi ok hv hg ht hi1 hg1 ht1 he hs hs1) (lc2_rd hw hw1)
end

/-! ### dict comprehensions -/
def dpd (j : Nat) (k v : D) (S : AH) : Option (Unit × AH) := match S[j]?, kD k with
  | some (.dic kvs), some key => if kvs.length < sizeLine then some ((), S.set j (.dic (putD kvs key v))) else none
  | _, _ => none
def dcL (j : Nat) (gd : AH → Bool) (t : Eg) (tt : Et) (tk tv : Ev) (env : En) : List D → AH → Rs Unit
  | [] => fun S => if gd S = true then .ok () S else .bad
  | d :: r => fun S => if gd S = true then (lf (t d env S)).bind fun e1 S1 => (noX (tt e1 S1)).bind fun b S2 =>
      if b = true then (noX (tk e1 S2)).bind fun k S3 => (noX (tv e1 S3)).bind fun y S4 => (lf (dpd j k y S4)).bind fun _ S5 => dcL j gd t tt tk tv env r S5 else dcL j gd t tt tk tv env r S2
    else .bad
def eDc (i : Ei) (t : Eg) (tt : Et) (tk tv : Ev) (vs : List Nat) : Ev := fun env S => (i env S).bind fun A S1 => (noX (dcL S1.length A.guard t tt tk tv (wipeE env vs) A.items (S1 ++ [.dic []]))).bind fun _ S2 => .ok (.obj S1.length) S2
theorem dpd_ok (hR : R K ρ S H) {j : Nat} {k y : D} {S' : AH} {D' : Addr} {u v : V} (hD : ρ[j]? = some D') (ru : RD K ρ H k u) (rv : RD K ρ H y v) (h : dpd j k y S = some ((), S')) :
    ∃ kvs key, u = kV key ∧ H D' = some (.dK kvs) ∧ kvs.length < sizeLine ∧ Le K ρ H ρ (upd H D' (.dK (putK kvs key v))) ∧ R K ρ S' (upd H D' (.dK (putK kvs key v))) := by
  unfold dpd at h
  split at h
  · rename_i kvs key h1 h2
    split at h
    · rename_i hz
      cases h
      obtain ⟨a, ys, e, ha, m, ek, r⟩ := r_dic hR (.obj hD) h1
      cases e
      have el : ys.length = kvs.length := by simpa using congrArg List.length ek
      exact ⟨ys, key, kD_ok h2 ru, m, by omega, le_wr m trivial, hR.wr ha m trivial ⟨_, upd_same, putD_keys ek key y v, (putD_vals rv ek r).mono _ (le_wr m trivial)⟩⟩
    · cases h
  · cases h
section
variable {kx vx tg iter : Expr} {ifs : List Expr} {scope : Scope} {own : List (Str × Nat)} {fi : Ei} {t : Eg} {ws : List Nat} {tt : Et} {tk tv : Ev}
theorem dc_rd (hw : ∀ i ∈ ws, i ∈ own.map (·.2)) : ∀ σ H Q, rd X.K W (eDc fi t tt tk tv (own.map (·.2))) σ H Q → tDc (rdI X.K W fi) (rdW X.K t ws) (rdT X.K WN tt) (rd X.K WN tk) (rd X.K WN tv) (own.map (·.2)) σ H Q := by
  rintro σ H Q ⟨ρ, env, S, hR, hE, q⟩
  refine ⟨ρ, env, S, hR, hE, Aft.imp (Aft.bind q) fun A ρ1 S1 H1 l1 r1 q1 J hJ L hL => ?_⟩
  have l2 : Le X.K ρ1 H1 (ρ1 ++ [L]) (upd H1 L (.dK [])) := le_new hL _
  have r2 := r1.new (ob := .dic []) hL ⟨[], upd_same, rfl, .nil⟩
  have hj : (ρ1 ++ [L])[S1.length]? = some L := by rw [← r1.len]; simp
  have hE2 := hE.mono _ (l1.trans _ l2)
  have q2 := Aft.imp (post' := fun _ _ _ H' => Q (.ref L) H') (noX_aft (σ' := []) (q1.from l2)) fun _ ρ3 S3 H3 l3 r3 q3 => q3.ok (Le.refl _) r3 _ (.obj (pre_get l3.pre hj))
  refine ⟨fun i m H => m = A.items.length - i ∧ i ≤ A.items.length ∧ ∃ ρ S, R X.K ρ S H ∧ Le X.K (ρ1 ++ [L]) (upd H1 L (.dK [])) ρ H ∧ Aft X.K WN ρ [] H (dcL S1.length A.guard t tt tk tv (wipeE env (own.map (·.2))) (A.items.drop i) S) fun _ _ _ H' => Q (.ref L) H', ⟨_, rfl, Nat.zero_le _, _, _, r2, Le.refl _, q2⟩, ?_⟩
  rintro i m H3 ⟨rfl, hi, ρ3, S3, r3, l3, q3⟩
  by_cases hlt : i < A.items.length
  · rw [List.drop_eq_getElem_cons hlt] at q3
    unfold dcL at q3
    split at q3
    · rename_i hgd
      obtain ⟨_, k⟩ := hJ ρ3 S3 H3 (l2.trans _ l3) r3 hgd
      obtain ⟨go, step⟩ := k i _ (List.getElem?_eq_getElem hlt)
      refine .inr ⟨go, _, fun H' w => ⟨A.items.length - (i + 1), by omega, rfl, hlt, w⟩, fun x H' y => ?_⟩
      obtain ⟨l4, r4, rx⟩ := step x H' y
      have l24 := l3.trans _ l4
      refine ⟨ρ3, wipeE env _, S3, _, r4, (hE2.mono _ l24).wipe _, rx, ?_⟩
      obtain ⟨e1, S1', h1, q4⟩ := lf_aft (q3.from l4)
      rw [h1]
      intro ρ5 H5 σ5 l5 r5 hE5 hl5 hk5
      refine ⟨wipe_eq hl5 hk5 hw, ρ5, e1, S1', r5, hE5, Aft.imp (noX_aft (q4.from l5)) fun bb ρ6 S6 H6 l6 r6 q6 => ?_⟩
      have l6' := (l24.trans _ l5).trans _ l6
      cases bb with
      | false => exact ⟨ρ6, S6, r6, l6', q6⟩
      | true =>
        refine ⟨ρ6, e1, S6, r6, hE5.mono _ l6, Aft.imp (noX_aft (show Aft X.K WN ρ6 [] H6 ((noX (tk e1 S6)).bind _) _ from q6)) fun k ρ7 S7 H7 l7 r7 q7 u ru => ?_⟩
        refine ⟨ρ7, e1, S7, r7, (hE5.mono _ l6).mono _ l7, Aft.imp (noX_aft q7) fun y ρ8 S8 H8 l8 r8 q8 v rv => ?_⟩
        have l8' := (l6'.trans _ l7).trans _ l8
        obtain ⟨_, S9, h9, q9⟩ := lf_aft q8
        obtain ⟨kvs, key, hk, hacc, hz, l9, r9⟩ := dpd_ok r8 (pre_get l8'.pre hj) (ru.mono _ l8) rv h9
        exact ⟨kvs, key, hk, hacc, hz, ρ8, S9, r9, l8'.trans _ l9, q9.from l9⟩
    · exact q3.elim
  · have e : A.items.drop i = [] := List.drop_eq_nil_of_le (by omega)
    rw [e] at q3
    unfold dcL at q3
    split at q3
    · rename_i hgd
      exact .inl ⟨(hJ ρ3 S3 H3 (l2.trans _ l3) r3 hgd).1 i (by omega), q3.ok (Le.refl _) r3⟩
    · exact q3.elim
theorem fe_dc (hc : X.calm = true) (hN : X.N.Nodup) (hi : FI X W tg iter fi) (ok : BlkOk X.N X.env.scope scope own) (hw : ∀ i ∈ ws, i ∈ own.map (·.2))
    (hg : ∀ (s : Shared) (H : Hp) (C : Addr) (cl : List (Str × Addr)) (fp : List Addr), FW' (X.blk s H scope (compEnvC scope cl C X.env) fp) tg t ws)
    (ht : ∀ (s : Shared) (H : Hp) (C : Addr) (cl : List (Str × Addr)) (fp : List Addr), FTs (X.blk s H scope (compEnvC scope cl C X.env) fp) ifs tt)
    (hk : ∀ (s : Shared) (H : Hp) (C : Addr) (cl : List (Str × Addr)) (fp : List Addr), FE (X.blk s H scope (compEnvC scope cl C X.env) fp) WN kx tk)
    (he : ∀ (s : Shared) (H : Hp) (C : Addr) (cl : List (Str × Addr)) (fp : List Addr), FE (X.blk s H scope (compEnvC scope cl C X.env) fp) WN vx tv) (hs : ∀ x, foldedSetIterable iter X.env x = pure x := by intro _; rfl) :
    FE X W (.DictComp kx vx [⟨tg, iter, ifs, 0⟩] scope pos) (eDc fi t tt tk tv (own.map (·.2))) := fe_of (pe_dc (g := rdW X.K t ws) (tt := rdT X.K WN tt) (tk := rd X.K WN tk) (tv := rd X.K WN tv) hc hN hi ok hg ht hk he hs) (dc_rd hw)
end
end
end Y

set_option Elab.async false
set_option linter.all false
set_option maxRecDepth 100000
namespace Y
open PySem PySem.Spec PyProof.Rows L2
section
variable {X : Cx} {W : WX} {e a b c : Expr} {es : List Expr} {f g h : Ev} {pos : Pos} {ft gt : Et} {fa : Ea} {K : PySem.W.Frag} {ρ : List Addr} {S : AH} {H : Hp} {fs gs : Es}

/-! ### a dict that is walked -/
mutual
theorem RD.mono0 {ρ ρ' : List Addr} {H H' : Hp} (p : ρ <+: ρ') (lt : ∀ a xs, SqT K H a xs → SqT K H' a xs) (lr : ∀ a xs, RoL K H a xs → RoL K H' a xs) : ∀ {d v}, RD K ρ H d v → RD K ρ' H' d v
  | _, _, .non => .non
  | _, _, .bl => .bl
  | _, _, .int => .int
  | _, _, .str => .str
  | _, _, .tup h r => .tup (lt _ _ h) (RDs.mono0 p lt lr r)
  | _, _, .obj h => .obj (pre_get p h)
  | _, _, .rol h r => .rol (lr _ _ h) (RDs.mono0 p lt lr r)
theorem RDs.mono0 {ρ ρ' : List Addr} {H H' : Hp} (p : ρ <+: ρ') (lt : ∀ a xs, SqT K H a xs → SqT K H' a xs) (lr : ∀ a xs, RoL K H a xs → RoL K H' a xs) : ∀ {d v}, RDs K ρ H d v → RDs K ρ' H' d v
  | _, _, .nil => .nil
  | _, _, .cons h r => .cons (RD.mono0 p lt lr h) (RDs.mono0 p lt lr r)
end
theorem RO.keep0 {a : Addr} {o : Ob} {ρ' : List Addr} {H' : Hp} (h : RO K ρ H a o) (p : ρ <+: ρ') (lt : ∀ a xs, SqT K H a xs → SqT K H' a xs) (lr : ∀ a xs, RoL K H a xs → RoL K H' a xs) (e : H' a = H a) : RO K ρ' H' a o := by
  cases o with
  | lst ds => obtain ⟨xs, e1, r⟩ := h; exact ⟨xs, e.trans e1, r.mono0 p lt lr⟩
  | dic kvs => obtain ⟨xs, e1, k, r⟩ := h; exact ⟨xs, e.trans e1, k, r.mono0 p lt lr⟩
  | ins C fs => obtain ⟨dx, ys, e1, k, r⟩ := h; exact ⟨dx, ys, e.trans e1, k, r.mono0 p lt lr⟩
  | lck => obtain ⟨o, kvs, e1⟩ := h; exact ⟨o, kvs, e.trans e1⟩
theorem unl_t {p : Addr} {od : Obj} {kvs : List (Key × V)} {o : HO} (hp : H p = some (.frz od (.dK kvs))) : ∀ a xs, SqT K H a xs → SqT K (upd H p o) a xs := fun a xs h => sqt_upd h (by rw [hp]; rintro _ _ (h | h) <;> cases h)
theorem unl_r {p : Addr} {od : Obj} {kvs : List (Key × V)} {o : HO} (hp : H p = some (.frz od (.dK kvs))) : ∀ a xs, RoL K H a xs → RoL K (upd H p o) a xs := fun a xs h => rol_upd h (by rw [hp]; rintro _ _ h; cases h)
/-- the walk is over -/
theorem R.unlock (r : R K ρ S H) {k : Nat} {a : Addr} {od : Obj} {ys : List (Key × V)} {kvs : List (Key × D)} (ha : ρ[k]? = some a) (hp : H a = some (.frz od (.dK ys))) (ek : ys.map (·.1) = kvs.map (·.1)) (rr : RDs K ρ H (kvs.map (·.2)) (ys.map (·.2))) :
    R K ρ (S.set k (.dic kvs)) (upd H a (.dK ys)) := by
  refine ⟨by simp [r.len], r.nd, fun j b ob' h1 h2 => ?_⟩
  by_cases hj : k = j
  · subst hj
    rw [ha] at h1; cases h1
    have hi := (List.getElem?_eq_some_iff.mp ha).1
    rw [List.getElem?_set_self (by rw [← r.len]; exact hi)] at h2
    cases h2
    exact ⟨ys, upd_same, ek, rr.mono0 (List.prefix_refl _) (unl_t hp) (unl_r hp)⟩
  · rw [List.getElem?_set_ne hj] at h2
    have hb : b ≠ a := fun q => hj (by
      subst q
      obtain ⟨l1, e1⟩ := List.getElem?_eq_some_iff.mp ha
      obtain ⟨l2, e2⟩ := List.getElem?_eq_some_iff.mp h1
      exact (List.getElem_inj r.nd).mp (e1.trans e2.symm))
    exact (r.at_ j b ob' h1 h2).keep0 (List.prefix_refl _) (unl_t hp) (unl_r hp) (upd_ne hb)
def keyD : Key → D
  | .inl i => .int i
  | .inr s => .str s
theorem keyD_rd (k : Key) : RD K ρ H (keyD k) (kV k) := by cases k <;> first | exact .int | exact .str
/-- [e for x in d if ..], d a name -/
def eLcK (i : Nat) (t : Eg) (tt : Et) (te : Ev) (vs : List Nat) : Ev := fun env S => match env[i]? with
  | some (some (.obj k)) => match S[k]? with
    | some (.dic kvs) => (noX (lcL S.length (fun _ => true) t tt te (wipeE env vs) (kvs.map fun kv => keyD kv.1) (S.set k .lck ++ [.lst []]))).bind fun _ S2 => .ok (.obj S.length) (S2.set k (.dic kvs))
    | _ => .bad
  | _ => .bad
section
variable {elt tg iter : Expr} {ifs : List Expr} {scope : Scope} {own : List (Str × Nat)} {i : Nat} {t : Eg} {ws : List Nat} {tt : Et} {te : Ev}
theorem rj_keys {a : Addr} {od : Obj} {ys : List (Key × V)} {kvs : List (Key × D)} (ha : H a = some (.frz od (.dK ys))) (ek : ys.map (·.1) = kvs.map (·.1)) : RJ K ρ H (Itk a od ys) ⟨kvs.map fun kv => keyD kv.1, fun _ => true⟩ := by
  have el : ys.length = kvs.length := by simpa using congrArg List.length ek
  intro ρ' S' H' l1 r1 hg
  have m := l1.frz _ _ _ ha
  refine ⟨fun i hi => ⟨m, by simp at hi; omega⟩, fun i d hd => ?_⟩
  simp only [List.getElem?_map, Option.map_eq_some_iff] at hd
  obtain ⟨kv, hk, rfl⟩ := hd
  have hlt := (List.getElem?_eq_some_iff.mp hk).1
  have h1 : ys[i]? = some (ys[i]'(by omega)) := List.getElem?_eq_getElem _
  have h2 : (ys.map (·.1))[i]? = (kvs.map (·.1))[i]? := by rw [ek]
  refine ⟨⟨m, by omega⟩, fun x H'' y => ?_⟩
  obtain ⟨rfl, k, v, h3, rfl⟩ := y
  simp only [List.getElem?_map, h3, hk, Option.map_some, Option.some.injEq] at h2
  rw [h2]
  exact ⟨Le.refl _, r1, keyD_rd _⟩
theorem fe_lcK (hc : X.calm = true) (hN : X.N.Nodup) (hi : FE X WN iter (eVar i)) (ok : BlkOk X.N X.env.scope scope own) (hw : ∀ i ∈ ws, i ∈ own.map (·.2))
    (hg : ∀ (s : Shared) (H : Hp) (C : Addr) (cl : List (Str × Addr)) (fp : List Addr), FW' (X.blk s H scope (compEnvC scope cl C X.env) fp) tg t ws)
    (ht : ∀ (s : Shared) (H : Hp) (C : Addr) (cl : List (Str × Addr)) (fp : List Addr), FTs (X.blk s H scope (compEnvC scope cl C X.env) fp) ifs tt)
    (he : ∀ (s : Shared) (H : Hp) (C : Addr) (cl : List (Str × Addr)) (fp : List Addr), FE (X.blk s H scope (compEnvC scope cl C X.env) fp) WN elt te) (hs : ∀ x, foldedSetIterable iter X.env x = pure x := by intro _; rfl) :
    FE X W (.ListComp elt [⟨tg, iter, ifs, 0⟩] scope pos) (eLcK i t tt te (own.map (·.2))) := fe_of (pe_lock (pe_lc (g := rdW X.K t ws) (tt := rdT X.K WN tt) (te := rd X.K WN te) hc hN (pi_keys hi) ok hg ht he hs)) fun σ H Q z => by
  obtain ⟨ρ, env, S, hR, hE, q⟩ := z
  unfold eLcK at q
  split at q
  · rename_i k hk
    obtain ⟨v, hv, rv⟩ := hE.2 i _ hk
    split at q
    · rename_i kvs hkv
      obtain ⟨a, ys, rfl, ha, m, ek, rr⟩ := r_dic hR rv hkv
      refine ⟨a, .dK ys, m, trivial, fun od => ?_⟩
      have l1 : Le X.K ρ H ρ (upd H a (.frz od (.dK ys))) := le_wr m trivial
      have r1 : R X.K ρ (S.set k .lck) (upd H a (.frz od (.dK ys))) := hR.wr ha m trivial ⟨od, ys, upd_same⟩
      have hE1 := hE.mono _ l1
      refine ⟨ρ, env, _, r1, hE1, ?_⟩
      have e1 : eVar i env (S.set k .lck) = .ok (.obj k) (S.set k .lck) := by unfold eVar; rw [hk]
      rw [e1]
      intro ρ2 H2 l2 r2 u ru
      have a2 := l2.frz a od ys upd_same
      have ha2 : ρ2[k]? = some a := pre_get l2.pre ha
      have hu : u = .ref a := by
        cases ru with
        | obj h => rw [ha2] at h; cases h; rfl
      subst hu
      refine ⟨a, od, rfl, .inl ⟨ys, a2, ?_⟩⟩
      intro L hL
      have l3 : Le X.K ρ2 H2 (ρ2 ++ [L]) (upd H2 L (.lst [])) := le_new hL _
      have r3 := r2.new (ob := .lst []) hL ⟨[], upd_same, .nil⟩
      have hlen : S.length = ρ2.length := by rw [r2.len]; simp
      have hj : (ρ2 ++ [L])[S.length]? = some L := by rw [hlen]; simp
      have hE3 := (hE1.mono _ l2).mono _ l3
      have l13 := (l1.trans _ l2).trans _ l3
      refine lc_turns (rj_keys a2 ek) hw l3 r3 hE3 hj ?_
      cases hq : lcL S.length (fun _ => true) t tt te (wipeE env (own.map (·.2))) (kvs.map fun kv => keyD kv.1) (S.set k .lck ++ [.lst []]) with
      | bad => rw [hq] at q; exact q.elim
      | ex _ _ => rw [hq] at q; exact q.elim
      | ok _ S4 =>
      rw [hq] at q
      have q : Aft X.K W ρ σ H (.ok (D.obj S.length) (S4.set k (.dic kvs))) _ := q
      intro ρ4 H4 l4 r4
      have l24 := (l2.trans _ l3).trans _ l4
      have m4 := l24.frz a od ys upd_same
      refine ⟨m4, ?_⟩
      have l14 := l1.trans _ l24
      have ha4 : ρ4[k]? = some a := pre_get l24.pre ha
      have hfin := R.unlock r4 ha4 m4 ek (rr.mono _ l14)
      exact q.ok ⟨l14.pre, fun b xs hb => unl_t m4 b xs (l14.tup b xs hb), fun b xs hb => unl_r m4 b xs (l14.rol b xs hb), fun b o kv hb => by
        rw [upd_ne (fun e => by subst e; rw [m] at hb; cases hb)]; exact l14.frz b o kv hb, fun b zs hb => by rw [upd_ne (fun e => by subst e; rw [m] at hb; cases hb)]; exact l14.xd b zs hb⟩ hfin _ (.obj (pre_get l4.pre hj))
    · exact q.elim
  · exact q.elim
end

/-! ### sorted -/
def leS (x y : Str) : Bool := !ltCps y.cps.toList x.cps.toList
theorem leS_iff {x y : Str} : leS x y = true ↔ ¬ y.cps.toList < x.cps.toList := by
  unfold leS
  rw [ltCps_eq]
  simp
theorem leS_total (x y : Str) : (leS x y || leS y x) = true := by
  rw [Bool.or_eq_true, leS_iff, leS_iff]
  by_cases h : y.cps.toList < x.cps.toList
  · exact .inr (List.lt_asymm h)
  · exact .inl h
theorem leS_trans (x y z : Str) (h1 : leS x y = true) (h2 : leS y z = true) : leS x z = true := by
  rw [leS_iff] at *
  exact List.le_trans (α := Nat) h1 h2
theorem leS_anti {x y : Str} (h1 : leS x y = true) (h2 : leS y x = true) : x = y := by
  rw [leS_iff] at *
  have := List.le_antisymm (α := Nat) h1 h2
  cases x; cases y
  simp only [Str.mk.injEq]
  exact Array.ext' this
theorem rising_pw : ∀ {ys : List Str} {p : Str}, risingS p ys = true → (p :: ys).Pairwise (fun a b => leS a b = true)
  | [], p, _ => by simp
  | x :: r, p, h => by
    simp only [risingS, Bool.and_eq_true] at h
    have ih := rising_pw h.2
    refine List.pairwise_cons.mpr ⟨fun z hz => ?_, ih⟩
    rcases List.mem_cons.mp hz with rfl | hz
    · exact h.1
    · exact leS_trans p x z h.1 ((List.pairwise_cons.mp ih).1 z hz)
def srtS (xs : List Str) : List Str := xs.mergeSort leS
theorem srtS_eq {xs ys : List Str} (p : ys.Perm xs) (s : sortedS ys = true) : ys = srtS xs := by
  have hy : ys.Pairwise (fun a b => leS a b = true) := by
    cases ys with
    | nil => simp
    | cons y r => exact rising_pw s
  exact List.Perm.eq_of_pairwise (le := fun a b => leS a b = true) (fun a b _ _ => leS_anti) hy (List.pairwise_mergeSort (fun a b c => leS_trans a b c) leS_total xs) (p.trans (List.mergeSort_perm xs leS).symm)
def srtI (xs : List Int) : List Int := xs.mergeSort fun a b => decide (a ≤ b)
theorem srtI_eq {xs ys : List Int} (p : ys.Perm xs) (s : ys.Pairwise (· ≤ ·)) : ys = srtI xs := by
  refine List.Perm.eq_of_pairwise (le := fun a b => a ≤ b) (fun a b _ _ => Int.le_antisymm) s ?_ (p.trans (List.mergeSort_perm xs _).symm)
  exact (List.pairwise_mergeSort (le := fun a b : Int => decide (a ≤ b)) (fun a b c h1 h2 => by simp only [decide_eq_true_eq] at *; omega) (fun a b => by simp only [Bool.or_eq_true, decide_eq_true_eq]; omega) xs).imp fun h => by simpa using h
def strsOf : List D → Option (List Str)
  | [] => some []
  | .str z :: r => (strsOf r).map (z :: ·)
  | _ :: _ => none
theorem strs_ok {ds xs} (r : RDs K ρ H ds xs) : ∀ {ns}, strsOf ds = some ns → xs = ns.map V.str := by
  match r with
  | .nil => intro ns h; cases h; rfl
  | .cons r1 r2 =>
    intro ns h
    cases r1 <;> simp only [strsOf] at h <;> first | cases h | skip
    simp only [Option.map_eq_some_iff] at h
    obtain ⟨ms, h1, rfl⟩ := h
    rw [strs_ok r2 h1]
    rfl
def ksI : List Key → Option (List Int)
  | [] => some []
  | .inl i :: r => (ksI r).map (i :: ·)
  | _ :: _ => none
def ksS : List Key → Option (List Str)
  | [] => some []
  | .inr i :: r => (ksS r).map (i :: ·)
  | _ :: _ => none
theorem ksI_ok : ∀ {ks : List Key} {ns}, ksI ks = some ns → ks = ns.map Sum.inl
  | [], ns, h => by cases h; rfl
  | .inl i :: r, ns, h => by
    simp only [ksI, Option.map_eq_some_iff] at h
    obtain ⟨ms, h1, rfl⟩ := h
    rw [ksI_ok h1]; rfl
  | .inr _ :: _, ns, h => by cases h
theorem ksS_ok : ∀ {ks : List Key} {ns}, ksS ks = some ns → ks = ns.map Sum.inr
  | [], ns, h => by cases h; rfl
  | .inr i :: r, ns, h => by
    simp only [ksS, Option.map_eq_some_iff] at h
    obtain ⟨ms, h1, rfl⟩ := h
    rw [ksS_ok h1]; rfl
  | .inl _ :: _, ns, h => by cases h
theorem rds_ints : ∀ (ns : List Int), RDs K ρ H (ns.map D.int) (ns.map V.int)
  | [] => .nil
  | _ :: r => .cons .int (rds_ints r)
theorem rds_strs : ∀ (ns : List Str), RDs K ρ H (ns.map D.str) (ns.map V.str)
  | [] => .nil
  | _ :: r => .cons .str (rds_strs r)
/-- sorted of a list of texts, of a dict with ints or texts for keys -/
def sortedO : OpN := fun ds S => match ds with
  | [d] => match lstOf S d with
    | some l => match strsOf l with
      | some ns => if ns.length < 64 then some (.obj S.length, S ++ [.lst ((srtS ns).map D.str)]) else none
      | none => none
    | none => match d with
      | .obj i => match S[i]? with
        | some (.dic kvs) => match ksI (kvs.map (·.1)) with
          | some ns => if ns.length < 64 then some (.obj S.length, S ++ [.lst ((srtI ns).map D.int)]) else none
          | none => match ksS (kvs.map (·.1)) with
            | some ns => if ns.length < 64 then some (.obj S.length, S ++ [.lst ((srtS ns).map D.str)]) else none
            | none => none
        | _ => none
      | _ => none
  | _ => none
theorem o_sorted (hc : X.calm = true) : CallR X (.builtin "sorted") (rdC X.K sortedO) := clr_ok (clr_or cr_sortedS (clr_or (call_sortedDI hc) (call_sortedD hc))) fun ρ S H ds xs d' S' Q hR rx z q => by
  unfold sortedO at z
  split at z
  · obtain ⟨v, rfl, rv⟩ := rds1 rx rfl
    split at z
    · rename_i l hl
      split at z
      · rename_i ns hn
        split at z
        · rename_i h64
          cases z
          obtain ⟨a, ys, rfl, rr, hq⟩ := lst_ok hR hl rv
          have ey := strs_ok rr hn
          subst ey
          refine .inl ⟨a, ns, rfl, hq, h64, fun ys p hp hs hn => ?_⟩
          rw [srtS_eq hp hs]
          exact q _ _ _ (le_new hn _) (hR.new hn ⟨_, upd_same, rds_strs _⟩) hR.newv
        · cases z
      · cases z
    · split at z
      · rename_i i
        split at z
        · rename_i kvs hkv
          obtain ⟨a, ys, rfl, ha, m, ek, rr⟩ := r_dic hR rv hkv
          split at z
          · rename_i ns hn
            split at z
            · rename_i h64
              cases z
              refine .inr (.inl ⟨a, ys, ns, rfl, Rd.of m, ek.trans (ksI_ok hn), h64, fun zs p hp hs hn => ?_⟩)
              rw [srtI_eq hp hs]
              exact q _ _ _ (le_new hn _) (hR.new hn ⟨_, upd_same, rds_ints _⟩) hR.newv
            · cases z
          · split at z
            · rename_i ns hn
              split at z
              · rename_i h64
                cases z
                refine .inr (.inr ⟨a, ys, ns, rfl, Rd.of m, ek.trans (ksS_ok hn), h64, fun zs p hp hs hn => ?_⟩)
                rw [srtS_eq hp hs]
                exact q _ _ _ (le_new hn _) (hR.new hn ⟨_, upd_same, rds_strs _⟩) hR.newv
              · cases z
            · cases z
        · cases z
      · cases z
  · cases z

/-! ### tuple of a text -/
theorem vals_of : ∀ (xs : List V) (us : List Value), xs.length = us.length → (∀ (j : Nat) u, us[j]? = some u → ∃ x, xs[j]? = some x ∧ RelV x u) → Vals xs us
  | [], [], _, _ => .nil
  | x :: xs, u :: us, h, k => .cons (by obtain ⟨y, e, r⟩ := k 0 u rfl; cases e; exact r) (vals_of xs us (by simpa using h) fun j w hj => by simpa using k (j + 1) w (by simpa using hj))
  | [], _ :: _, h, _ => by simp at h
  | _ :: _, [], h, _ => by simp at h
theorem call_tupleS (hc : X.calm = true) : CallR X (.type "tuple") (fun xs H Q => ∃ z, xs = [V.str z] ∧ z.cps.size ≤ sizeLine ∧ ∀ l, H l = none → Q (.ref l) (upd H l (.tup (z.cps.toList.map fun c => V.str ⟨#[c]⟩)))) := by
  intro pins s σ H xs us Q I r h
  obtain ⟨z, rfl, hz, q⟩ := h
  obtain ⟨u, rfl, rx⟩ := vals1 r
  obtain ⟨t, rfl⟩ := rx
  refine call_tuple_str (I.ok.hd hc) z t (fun h' tk acc kp hacc => ?_) hz
  have I1 : Inv X pins σ H { s with heap := h', toks := tk } := I.kept (t' := tk) kp
  have vl : Vals (z.cps.toList.map fun c => V.str ⟨#[c]⟩) acc.toList := by
    refine vals_of _ _ (by simpa using hacc.1.symm) fun j w hj => ?_
    obtain ⟨c, u, hc, rfl⟩ := hacc.2 j w (by simpa using hj)
    exact ⟨.str ⟨#[c]⟩, by simp [hc], u, rfl⟩
  have I2 : Inv X pins σ (upd H h'.objs.size (.tup (z.cps.toList.map fun c => V.str ⟨#[c]⟩))) { s with heap := h'.push { cls := .type "tuple", data := .seq acc }, toks := tk } :=
    I1.laid (t' := tk) (fun b o e => Heap.get?_push_of_some _ e) (Nat.le_refl _) (show ObjOk X.prog X.w _ _ _ (.tup _) from ⟨by simpa using hz, acc.toList, vl, by simpa using IsTup.new _ _⟩)
  exact ⟨.ref h'.objs.size, _, I2, rfl, q _ (I1.hok.fresh (Nat.le_refl _))⟩
theorem chrs_rd : ∀ (cs : List Nat), RDs K ρ H (cs.map fun c => D.str ⟨#[c]⟩) (cs.map fun c => V.str ⟨#[c]⟩)
  | [] => .nil
  | _ :: r => .cons .str (chrs_rd r)
def tupSO : OpN := fun ds S => match ds with
  | [.str z] => if z.cps.size ≤ sizeLine then some (.tup (chrs z), S) else none
  | _ => none
theorem o_tupleS (hc : X.calm = true) : CallR X (.type "tuple") (rdC X.K tupSO) := clr_ok (call_tupleS hc) fun ρ S H ds xs d' S' Q hR rx z q => by
  unfold tupSO at z
  split at z
  · split at z
    · rename_i hz
      cases z
      obtain ⟨v, rfl, rv⟩ := rds1 rx rfl
      cases rv
      refine ⟨_, rfl, hz, fun l hl => q _ _ _ (le_new0 hl) (hR.side hl) (.tup (SqT.of upd_same) ?_)⟩
      exact chrs_rd _
    · cases z
  · cases z

/-! ### a op b op' c -/
def eChain (h h' : Op2) (f g k : Ev) : Ev := fun env S => (f env S).bind fun d S1 => (g env S1).bind fun e S2 => (lf (h d e S2)).bind fun z S3 => match z with
  | .bl false => .ok (.bl false) S3
  | .bl true => (k env S3).bind fun u S4 => lf (h' e u S4)
  | _ => .bad
theorem chain_rd {h h' : Op2} {f g k : Ev} : ∀ σ H Q, rd X.K W (eChain h h' f g k) σ H Q → tChain (rdO X.K h) (rdO X.K h') (rd X.K W f) (rd X.K W g) (rd X.K W k) σ H Q := by
  rintro σ H Q ⟨ρ, env, S, hR, hE, q⟩
  refine ⟨ρ, env, S, hR, hE, Aft.imp (Aft.bind q) fun d ρ1 S1 H1 l1 r1 q1 v rv => ?_⟩
  have hE1 := hE.mono _ l1
  refine ⟨ρ1, env, S1, r1, hE1, Aft.imp (Aft.bind q1) fun e ρ2 S2 H2 l2 r2 q2 u ru => ?_⟩
  have hE2 := hE1.mono _ l2
  obtain ⟨z, S3, hz, q3⟩ := lf_aft q2
  refine ⟨ρ2, S2, d, e, z, S3, r2, rv.mono _ l2, ru, hz, fun ρ3 H3 w l3 r3 rw' => ?_⟩
  cases rw' <;> first | exact (q3.from l3).elim | skip
  rename_i b
  refine ⟨b, rfl, ?_⟩
  cases b with
  | false => exact q3.ok l3 r3 _ .bl
  | true =>
    refine ⟨ρ3, env, S3, r3, hE2.mono _ l3, Aft.imp (Aft.bind (q3.from l3)) fun y ρ4 S4 H4 l4 r4 q4 w rw2 => ?_⟩
    cases h4 : h' e y S4 with
    | none => rw [h4] at q4; exact q4.elim
    | some p =>
      obtain ⟨d', S'⟩ := p
      rw [h4] at q4
      exact ⟨ρ4, S4, e, y, d', S', r4, (ru.mono _ l3).mono _ l4, rw2, h4, fun ρ' H' w l r rw => q4.ok l r w rw⟩
theorem fe_chain {op op' : CmpOp} {h h' : Op2} {k : Ev} (ho : OpR X (compareOp op) (rdO X.K h)) (ho' : OpR X (compareOp op') (rdO X.K h')) (ha : FE X W a f) (hb : FE X W b g) (hc : FE X W c k)
    (hm : lastMarks [op, op'] [b, c] = false := by with_unfolding_all rfl) : FE X W (.Compare a [op, op'] [b, c] pos) (eChain h h' f g k) := fe_of (pe_chain ho ho' ha hb hc hm) chain_rd
theorem ft_chain {op op' : CmpOp} {h h' : Op2} {k : Ev} (ho : OpR X (compareOp op) (rdO X.K h)) (ho' : OpR X (compareOp op') (rdO X.K h')) (ha : FE X W a f) (hb : FE X W b g) (hc : FE X W c k)
    (hm : lastMarks [op, op'] [b, c] = false := by with_unfolding_all rfl) : FT X W (.Compare a [op, op'] [b, c] pos) (asB (eChain h h' f g k)) := ft_of (pt_chain ho ho' ha hb hc hm) (asB_rd chain_rd)
end
end Y

set_option Elab.async false
set_option linter.all false
set_option maxRecDepth 100000
namespace Y
open PySem PySem.Spec PyProof.Rows L2

/-! ### defs -/
abbrev Fd := List D → AH → Rs D
def rsF (r : Rs Fl) : Rs D := match r with
  | .ok (.nx _) S => .ok .non S
  | .ok (.rt d) S => .ok d S
  | .ok (.xn x _) S => .ex x S
  | _ => .bad
def startE (n : Nat) (ds : List D) : En := ds.map some ++ List.replicate (n - ds.length) none
def funOf (n : Nat) (fs : Es) : Fd := fun ds S => rsF (fs (startE n ds) S)
def spOf (K : PySem.W.Frag) (n : Nat) (F : Fd) : Sp := fun vs H Q E => ∃ ρ ds S, R K ρ S H ∧ RDs K ρ H ds vs ∧ ds.length = n ∧ Aft K (fun cls d _ H' => E cls d H') ρ [] H (F ds S) fun d ρ' S' H' => ∀ v, RD K ρ' H' d v → Q v H'
section
variable {X : Cx} {W : WX} {e a b c o : Expr} {es : List Expr} {f g h : Ev} {pos p apos : Pos} {ft gt : Et} {fa : Ea} {K : PySem.W.Frag} {ρ : List Addr} {S : AH} {H : Hp} {fs gs : Es}
theorem spOf_len {n : Nat} {F : Fd} {vs H Q E} (h : spOf K n F vs H Q E) : vs.length = n := by
  obtain ⟨ρ, ds, S, _, r, hl, _⟩ := h
  rw [← r.length]; exact hl
theorem RE.start {ds : List D} {vs : List V} (r : RDs K ρ H ds vs) (N : List Str) : RE K ρ H (startE N.length ds) (start N vs) := by
  have hl := r.length
  refine ⟨by simp [startE, L2.start, hl], fun i d q => ?_⟩
  unfold startE at q
  unfold L2.start
  by_cases hi : i < ds.length
  · rw [List.getElem?_append_left (by simpa using hi)] at q
    simp only [List.getElem?_map, Option.map_eq_some_iff] at q
    obtain ⟨d', h1, h2⟩ := q
    cases h2
    obtain ⟨v, hv, rv⟩ := r.get h1
    exact ⟨v, by rw [List.getElem?_append_left (by simpa [← hl] using hi)]; simp [hv], rv⟩
  · rw [List.getElem?_append_right (by simpa using hi)] at q
    rw [List.getElem?_replicate] at q
    split at q <;> cases q
/-- the body of a def, from its promise -/
theorem body_rd {n : Nat} {N : List Str} {vs : List V} {Q : VK} {E : XK} (hn : N.length = n) (h : spOf K m (funOf n fs) vs H Q E) :
    rdS K (fun cls d _ H => E cls d H) fs { nx := fun _ H' => Q .non H', rt := Q } (start N vs) H := by
  obtain ⟨ρ, ds, S, hR, r, hl, q⟩ := h
  subst hn
  refine ⟨ρ, startE N.length ds, S, hR, RE.start r N, ?_⟩
  unfold funOf at q
  cases z : fs (startE N.length ds) S with
  | bad => rw [z] at q; exact q
  | ex x S1 => rw [z] at q; exact q.elim
  | ok fl S1 =>
    rw [z] at q
    intro ρ1 H1 l1 r1
    cases fl with
    | nx env => exact fun σ' hE => q ρ1 H1 l1 r1 _ .non
    | rt d => exact q ρ1 H1 l1 r1
    | bk env => exact q.elim
    | ct env => exact q.elim
    | xn x env => exact fun σ' c d hE rx => q ρ1 H1 c d l1 r1 rx

/-- a def that may be called by its name -/
structure Fok (P : Program) (w : World) (K : PySem.W.Frag) (mg : Str → Option Value) (base : Heap) (x : Str) (k n : Nat) (F : Fd) : Prop where
  ex : ∃ (f : Addr) (fd : FuncData) (ps : List Str), FnOk P w K mg base (L2.CX P w) k f fd ps (spOf K n F) ∧ mg x = some (.ref f) ∧ PySem.W.keepIn K (.ref f) = true ∧ Binds K fd ps []
/-- a method of the class C of the module -/
structure Mok (P : Program) (w : World) (K : PySem.W.Frag) (mg : Str → Option Value) (base : Heap) (C m : Str) (k n : Nat) (F : Fd) : Prop where
  ex : ∃ (f : Addr) (fd : FuncData) (ps : List Str), Cls K (He.ga K C) ∧ Meth K (He.ga K C) m f ∧ FnOk P w K mg base (L2.CX P w) k f fd ps (spOf K n F) ∧ Binds K fd ps []
/-- a class that may be made by its name; F: its __init__ -/
structure Kok (P : Program) (w : World) (K : PySem.W.Frag) (mg : Str → Option Value) (base : Heap) (C : Str) (k n : Nat) (F : Fd) : Prop where
  ex : ∃ (f : Addr) (fd : FuncData) (ps : List Str), Mk K (He.ga K C) f ∧ FnOk P w K mg base (L2.CX P w) k f fd ps (spOf K n F) ∧ mg C = some (.ref (He.ga K C)) ∧ Binds K fd ps []
theorem aft_E {α : Type} {ρ σ H} {r : Rs α} {post : α → List Addr → AH → Hp → Prop} (h : Aft K W ρ σ H r post) : Aft K (fun cls d _ H' => WE W σ cls d H') ρ [] H r post := by
  cases r with
  | ok a S' => exact h
  | ex e S' => exact h
  | bad => exact h
/-- f(..) -/
def eFn (n : Nat) (F : Fd) (g : Ea) : Ev := fun env S => (g env S).bind fun ds S1 => if ds.length = n then F ds S1 else .bad
theorem fn_rd {n : Nat} {F : Fd} : ∀ σ H Q, rd X.K W (eFn n F fa) σ H Q → tCallS (spOf X.K n F) (WE W) (rdA X.K W fa) σ H Q := fun σ H Q z => by
  obtain ⟨ρ, env, S, hR, hE, q⟩ := z
  refine ⟨ρ, env, S, hR, hE, Aft.imp (Aft.bind q) fun ds ρ1 S1 H1 l1 r1 q1 vs rvs => ?_⟩
  split at q1
  · rename_i hl
    exact ⟨ρ1, ds, S1, r1, rvs, hl, aft_E q1⟩
  · exact q1.elim
theorem fe_fn {x : Str} {k j n : Nat} {F : Fd} (T : Fok X.prog X.w X.K X.mg X.base x k n F) (tk : Takes X W) (hr : Room j X.A) (hk : k ≤ j) (hg : Gl X x) (ha : FA X W (e :: es) fa)
    (hdb : (x == ("__debug__" : Str)) = false := by decide) (he : starEach (e :: es) X.env = (false, eval e X.env) :: starEach es X.env := by rfl) (hpl : (backTo pos (starEach es X.env)).any (·.1) = false := by rfl) :
    FE X W (.Call (.Name x p) (e :: es) [] pos) (eFn n F fa) := by
  obtain ⟨f, fd, ps, Fk, hm, kp, hb⟩ := T.ex
  exact fe_of (pe_callS (E := WE W) Fk (hr.mono hk) hg hm kp hb (passAt tk) ha hdb he hpl) fn_rd
/-- o.m(..), what is raised wished for at the caller's slots -/
def tMethS (C : Addr) (m : Str) (sp : Sp) (E : L2.St → XK) (ta : TE) (t : TA) : TE := fun σ H Q => ta σ H fun x H1 => ∃ a dx fs, x = .ref a ∧ H1 a = some (.ins C dx fs) ∧ fs.lookup m = none ∧ t σ H1 fun vs H2 => sp (x :: vs) H2 Q (E σ)
theorem pe_methS {C f : Addr} {m : Str} {CX : CXT} {k : Nat} {fd : FuncData} {ps : List Str} {sp : Sp} {E : L2.St → XK} {ta : TE} {t : TA} {pl : Sem Bool} (he : PE X o ta) (c : Cls X.K C) (hm : Meth X.K C m f) (F : FnOk X.prog X.w X.K X.mg X.base CX k f fd ps sp) (hr : Room k X.A) (hb : Binds X.K fd ps []) (hx : ∀ σ, PassesAt CX X σ (E σ)) (ha : PA X (e :: es) t)
    (hst : starEach (e :: es) X.env = (false, eval e X.env) :: starEach es X.env := by rfl) (hpl : (backTo pos (starEach es X.env)).any (·.1) = false := by rfl)
    (ht : eval (.Call (.Attribute o m apos) (e :: es) [] pos) X.env = (do
      let ov ← eval o X.env
      standAt apos.atName
      let (f, first) ← PySem.holding [ov] (getMethod ov m pl)
      callWith pos f first (backTo pos (starEach (e :: es) X.env)) (backToKw pos (keywordEach [] X.env))) := by rfl) :
    PE X (.Call (.Attribute o m apos) (e :: es) [] pos) (tMethS C m sp E ta t) := by
  refine ⟨fun pins s σ H Q I h => ?_⟩
  refine PySem.W.methodCall_KW (pl := pl) (thn (he.run pins s σ H _ I h) fun u s1 ⟨x, H1, I1, rx, a, dx, fs, ex, ea, l, q⟩ => ?_) ht
  subst ex
  obtain rfl : u = Value.ref a := rx
  refine getmeth_ok I1 ea c hm l ?_
  refine PySem.W.callWith_K (first := [.ref a]) (h₀ := X.base) I.ok.mod.kin hm.kp (thn (ha.run pos pins s1 σ H1 _ I1 q) fun us s2 ⟨vs, H2, I2, r, q2⟩ => ⟨I2.kIn, ?_⟩) hst hpl
  exact run_fnS (us := .ref a :: us) (vs := .ref a :: vs) F hr hb (hx σ) I2 (.cons rfl r) q2
theorem pe_methS0 {C f : Addr} {m : Str} {CX : CXT} {k : Nat} {fd : FuncData} {ps : List Str} {sp : Sp} {E : L2.St → XK} {ta : TE} {pl : Sem Bool} (he : PE X o ta) (c : Cls X.K C) (hm : Meth X.K C m f) (F : FnOk X.prog X.w X.K X.mg X.base CX k f fd ps sp) (hr : Room k X.A) (hb : Binds X.K fd ps []) (hx : ∀ σ, PassesAt CX X σ (E σ))
    (ht : eval (.Call (.Attribute o m apos) [] [] pos) X.env = (do
      let ov ← eval o X.env
      standAt apos.atName
      let (f, first) ← PySem.holding [ov] (getMethod ov m pl)
      callWith pos f first (backTo pos (starEach [] X.env)) (backToKw pos (keywordEach [] X.env))) := by rfl) :
    PE X (.Call (.Attribute o m apos) [] [] pos) (tMethS C m sp E ta tNil) := by
  refine ⟨fun pins s σ H Q I h => ?_⟩
  refine PySem.W.methodCall_KW (pl := pl) (thn (he.run pins s σ H _ I h) fun u s1 ⟨x, H1, I1, rx, a, dx, fs, ex, ea, l, q⟩ => ?_) ht
  subst ex
  obtain rfl : u = Value.ref a := rx
  refine getmeth_ok I1 ea c hm l ?_
  exact PySem.W.callWith_K0 (first := [.ref a]) I1.kIn hm.kp (run_fnS (us := [.ref a]) (vs := [.ref a]) F hr hb (hx σ) I1 (.cons rfl .nil) q)
def hasM (C m : Str) (d : D) (S : AH) : Bool := match d with
  | .obj i => match S[i]? with
    | some (.ins C' fs) => decide (C' = C) && (fs.lookup m).isNone
    | _ => false
  | _ => false
def eMt (C m : Str) (n : Nat) (F : Fd) (f : Ev) (g : Ea) : Ev := fun env S => (f env S).bind fun d S1 => if hasM C m d S1 = true then (g env S1).bind fun ds S2 => if (d :: ds).length = n then F (d :: ds) S2 else .bad else .bad
theorem hasM_ok {C m : Str} (hR : R K ρ S H) {d : D} {x : V} (rx : RD K ρ H d x) (h : hasM C m d S = true) : ∃ a dx fs, x = .ref a ∧ H a = some (.ins (He.ga K C) dx fs) ∧ fs.lookup m = none := by
  unfold hasM at h
  split at h
  · split at h
    · rename_i C' fs h1
      rw [Bool.and_eq_true, decide_eq_true_eq, Option.isNone_iff_eq_none] at h
      obtain ⟨rfl, hl⟩ := h
      obtain ⟨a, dx, ys, rfl, ha, m', ek, rr⟩ := r_ins hR rx h1
      exact ⟨a, dx, ys, rfl, m', (look_ok ek rr m).2 hl⟩
    · cases h
  · cases h
theorem mt_rd {C m : Str} {n : Nat} {F : Fd} : ∀ σ H Q, rd X.K W (eMt C m n F f fa) σ H Q → tMethS (He.ga X.K C) m (spOf X.K n F) (WE W) (rd X.K W f) (rdA X.K W fa) σ H Q := fun σ H Q z => by
  obtain ⟨ρ, env, S, hR, hE, q⟩ := z
  refine ⟨ρ, env, S, hR, hE, Aft.imp (Aft.bind q) fun d ρ1 S1 H1 l1 r1 q1 x rx => ?_⟩
  split at q1
  · rename_i hm
    obtain ⟨a, dx, fs, rfl, ha, hl⟩ := hasM_ok r1 rx hm
    refine ⟨a, dx, fs, rfl, ha, hl, ρ1, env, S1, r1, hE.mono _ l1, Aft.imp (Aft.bind q1) fun ds ρ2 S2 H2 l2 r2 q2 vs rvs => ?_⟩
    split at q2
    · rename_i hn
      exact ⟨ρ2, d :: ds, S2, r2, .cons (rx.mono _ l2) rvs, hn, aft_E q2⟩
    · exact q2.elim
  · exact q1.elim
theorem fe_mt {C m : Str} {k j n : Nat} {F : Fd} {pl : Sem Bool} (T : Mok X.prog X.w X.K X.mg X.base C m k n F) (tk : Takes X W) (hr : Room j X.A) (hk : k ≤ j) (ho : FE X W o f) (ha : FA X W (e :: es) fa)
    (hst : starEach (e :: es) X.env = (false, eval e X.env) :: starEach es X.env := by rfl) (hpl : (backTo pos (starEach es X.env)).any (·.1) = false := by rfl)
    (ht : eval (.Call (.Attribute o m apos) (e :: es) [] pos) X.env = (do
      let ov ← eval o X.env
      standAt apos.atName
      let (f, first) ← PySem.holding [ov] (getMethod ov m pl)
      callWith pos f first (backTo pos (starEach (e :: es) X.env)) (backToKw pos (keywordEach [] X.env))) := by rfl) :
    FE X W (.Call (.Attribute o m apos) (e :: es) [] pos) (eMt C m n F f fa) := by
  obtain ⟨fA, fd, ps, hc, hm, Fk, hb⟩ := T.ex
  exact fe_of (pe_methS (pl := pl) (E := WE W) ho hc hm Fk (hr.mono hk) hb (passAt tk) ha hst hpl ht) mt_rd
theorem fe_mt0 {C m : Str} {k j n : Nat} {F : Fd} {pl : Sem Bool} (T : Mok X.prog X.w X.K X.mg X.base C m k n F) (tk : Takes X W) (hr : Room j X.A) (hk : k ≤ j) (ho : FE X W o f)
    (ht : eval (.Call (.Attribute o m apos) [] [] pos) X.env = (do
      let ov ← eval o X.env
      standAt apos.atName
      let (f, first) ← PySem.holding [ov] (getMethod ov m pl)
      callWith pos f first (backTo pos (starEach [] X.env)) (backToKw pos (keywordEach [] X.env))) := by rfl) :
    FE X W (.Call (.Attribute o m apos) [] [] pos) (eMt C m n F f aNil) := by
  obtain ⟨fA, fd, ps, hc, hm, Fk, hb⟩ := T.ex
  refine fe_of (pe_methS0 (pl := pl) (E := WE W) ho hc hm Fk (hr.mono hk) hb (passAt tk) ht) fun σ H Q z => ?_
  obtain ⟨ρ, env, S, hR, hE, q⟩ := z
  refine ⟨ρ, env, S, hR, hE, Aft.imp (Aft.bind q) fun d ρ1 S1 H1 l1 r1 q1 x rx => ?_⟩
  split at q1
  · rename_i hm
    obtain ⟨a, dx, fs, rfl, ha, hl⟩ := hasM_ok r1 rx hm
    refine ⟨a, dx, fs, rfl, ha, hl, ?_⟩
    have q1 : Aft X.K W ρ1 σ H1 (if [d].length = n then F [d] S1 else .bad) _ := q1
    split at q1
    · rename_i hn
      exact ⟨ρ1, [d], S1, r1, .cons rx .nil, hn, aft_E q1⟩
    · exact q1.elim
  · exact q1.elim
/-- C(..), what is raised wished for at the caller's slots -/
def tMakeS (C : Addr) (sp : Sp) (E : L2.St → XK) (t : TA) : TE := fun σ H Q => t σ H fun vs H1 => ∀ x dx, H1 x = none → H1 dx = none → dx ≠ x →
  sp (.ref x :: vs) (upd (upd H1 dx (.own x)) x (.ins C dx [])) (fun v H2 => v = .non ∧ Q (.ref x) H2) (E σ)
theorem run_makeS {C f : Addr} {CX : CXT} {k : Nat} {fd : FuncData} {ps : List Str} {sp : Sp} {E : XK} {pins : List (Addr × Obj)} {σ : L2.St} {H : Hp} {s : Shared} {Q : VK} {us : List Value} {vs : List V} (M : Mk X.K C f) (F : FnOk X.prog X.w X.K X.mg X.base CX k f fd ps sp) (hr : Room (k + 1) X.A) (hb : Binds X.K fd ps [])
    (hx : PassesAt CX X σ E) (I : Inv X pins σ H s) (r : Vals vs us)
    (h : ∀ x dx, H x = none → H dx = none → dx ≠ x → sp (.ref x :: vs) (upd (upd H dx (.own x)) x (.ins C dx [])) (fun v H2 => v = .non ∧ Q (.ref x) H2) E) :
    wpAny (model X.prog X.w) X.A (call (.ref C) us) (EP X pins σ Q) X.xe s := by
  have hq := h (s.heap.objs.size + 1) s.heap.objs.size (I.hok.fresh (Nat.le_succ _)) (I.hok.fresh (Nat.le_refl _)) (Nat.ne_of_lt (Nat.lt_succ_self _))
  have I2 := Inv.made (C := C) I
  have r2 : Vals (V.ref (s.heap.objs.size + 1) :: vs) (Value.ref (s.heap.objs.size + 1) :: us) := .cons rfl r
  have hl : (Value.ref (s.heap.objs.size + 1) :: us).length = ps.length := by
    have e := r2.length
    rw [F.len _ _ _ _ hq] at e
    exact e.symm
  have bb := hb _ (Value.ref (s.heap.objs.size + 1) :: us) I2.kIn (by rw [List.append_nil]; exact hl)
  rw [List.append_nil] at bb
  refine wpAny_call (make_map (f := f) I.kIn M.makes M.init (beq_iff_eq.mp M.fn) (codeAny_mono (F.run _ X.stack _ _ ⟨Value.ref (s.heap.objs.size + 1) :: us, []⟩ (Value.ref (s.heap.objs.size + 1) :: us) _ _ E (hr.make C us [])
    (I2.env0.make C us []) bb r2 hq) fun r s' hq' => ?_))
  cases r with
  | error e => exact hx pins _ _ e s' I2 hq'
  | ok fl =>
    cases fl with
    | ret u =>
      obtain ⟨v, H', I3, rv, ev, q3⟩ := I2.after hq'
      subst ev
      exact ⟨rv, ⟨V.ref (s.heap.objs.size + 1), H', I3, rfl, q3⟩⟩
    | next => exact False.elim hq'
    | brk => exact False.elim hq'
    | cont => exact False.elim hq'
theorem pe_makeS {x : Str} {C f : Addr} {CX : CXT} {k : Nat} {fd : FuncData} {ps : List Str} {sp : Sp} {E : L2.St → XK} {t : TA} (M : Mk X.K C f) (F : FnOk X.prog X.w X.K X.mg X.base CX k f fd ps sp) (hr : Room (k + 1) X.A) (hg : Gl X x) (hm : X.mg x = some (.ref C)) (hb : Binds X.K fd ps []) (hx : ∀ σ, PassesAt CX X σ (E σ))
    (ha : PA X (e :: es) t) (hdb : (x == ("__debug__" : Str)) = false := by decide) (he : starEach (e :: es) X.env = (false, eval e X.env) :: starEach es X.env := by rfl) (hpl : (backTo pos (starEach es X.env)).any (·.1) = false := by rfl) :
    PE X (.Call (.Name x p) (e :: es) [] pos) (tMakeS C sp E t) := by
  refine ⟨fun pins s σ H Q I h => ?_⟩
  refine wpAny_Call_Name_kw (ld_glob I hg hm ?_ hdb)
  refine PySem.W.callWith_K (h₀ := X.base) I.ok.mod.kin M.kp (thn (ha.run pos pins s σ H _ I h) fun us s1 ⟨vs, H1, I1, r, q⟩ => ⟨I1.kIn, ?_⟩) he hpl
  exact run_makeS M F hr hb (hx σ) I1 r q
def eMk (C : Str) (n : Nat) (F : Fd) (g : Ea) : Ev := fun env S => (g env S).bind fun ds S1 => if ds.length + 1 = n then (F (.obj S1.length :: ds) (S1 ++ [.ins C []])).bind fun d S2 => (match d with
  | .non => .ok (.obj S1.length) S2
  | _ => .bad) else .bad
theorem fe_mk {C : Str} {k j n : Nat} {F : Fd} (T : Kok X.prog X.w X.K X.mg X.base C k n F) (tk : Takes X W) (hr : Room j X.A) (hk : k + 1 ≤ j) (hg : Gl X C) (ha : FA X W (e :: es) fa)
    (hdb : (C == ("__debug__" : Str)) = false := by decide) (he : starEach (e :: es) X.env = (false, eval e X.env) :: starEach es X.env := by rfl) (hpl : (backTo pos (starEach es X.env)).any (·.1) = false := by rfl) :
    FE X W (.Call (.Name C p) (e :: es) [] pos) (eMk C n F fa) := by
  obtain ⟨f, fd, ps, M, Fk, hm, hb⟩ := T.ex
  refine fe_of (pe_makeS (E := WE W) M Fk (hr.mono hk) hg hm hb (passAt tk) ha hdb he hpl) fun σ H Q z => ?_
  obtain ⟨ρ, env, S, hR, hE, q⟩ := z
  refine ⟨ρ, env, S, hR, hE, Aft.imp (Aft.bind q) fun ds ρ1 S1 H1 l1 r1 q1 vs rvs x dx hx hdx hne => ?_⟩
  split at q1
  · rename_i hn
    have l2 : Le X.K ρ1 H1 ρ1 (upd H1 dx (.own x)) := le_new0 hdx
    have r2 : R X.K ρ1 S1 (upd H1 dx (.own x)) := r1.side hdx
    have hx2 : upd H1 dx (HO.own x) x = none := by rw [upd_ne (Ne.symm hne)]; exact hx
    have l3 : Le X.K ρ1 (upd H1 dx (.own x)) (ρ1 ++ [x]) (upd (upd H1 dx (.own x)) x (.ins (He.ga X.K C) dx [])) := le_new hx2 _
    have r3 := r2.new (o := .ins (He.ga X.K C) dx []) (ob := .ins C []) hx2 ⟨dx, [], upd_same, rfl, .nil⟩
    refine ⟨ρ1 ++ [x], .obj S1.length :: ds, _, r3, .cons r2.newv ((rvs.mono _ l2).mono _ l3), by simpa using hn, aft_E (W := W) (σ := σ) ?_⟩
    refine Aft.imp (Aft.bind (q1.from (l2.trans _ l3))) fun d ρ4 S4 H4 l4 r4 q4 v rv => ?_
    have hj : (ρ1 ++ [x])[S1.length]? = some x := by rw [← r1.len]; simp
    cases rv <;> first | exact q4.elim | skip
    exact ⟨rfl, q4.ok (Le.refl _) r4 _ (.obj (pre_get l4.pre hj))⟩
  · exact q1.elim
end
end Y

set_option Elab.async false
set_option linter.all false
set_option maxRecDepth 100000
namespace Y
open PySem PySem.Spec PyProof.Rows L2
/-! ### several except clauses, with or without names -/
abbrev Sui := Addr → Value → Option Addr → TS
/-- the ends of a suite whose name goes -/
def goneD (i : Option Nat) (D : Ends) : Ends := match i with
  | none => D
  | some i => { nx := fun σ' H' => D.nx (σ'.set i none) H', rt := D.rt, bk := fun σ' H' => D.bk (σ'.set i none) H', ct := fun σ' H' => D.ct (σ'.set i none) H' }
def nameSt (i : Option Nat) (σ : L2.St) (a : Addr) : L2.St := match i with
  | none => σ
  | some i => σ.set i (some (.ref a))
def wManyN (K : PySem.W.Frag) (Wout : WX) (D : Ends) : List (Value × Option Nat × Sui) → WX
  | [] => Wout
  | (c, i, ts) :: r => fun cls d σ H => ∃ b, PySem.W.exmOne K cls c = some b ∧ (b = true → ∀ a, H a = none → ts a cls d (goneD i D) (nameSt i σ a) H) ∧ (b = false → wManyN K Wout D r cls d σ H)
inductive HdsN (X : Cx) : List ExceptHandler → List (Value × Option Nat × Sui) → Prop
  | nil : HdsN X [] []
  | cons {x : Str} {c : Value} {ts : Sui} {b₀ : Stmt} {suite : List Stmt} {np pos' : Pos} {hds : List ExceptHandler} {l : List (Value × Option Nat × Sui)} (hc : Names X x c)
      (hsu : ∀ (a : Addr) (oe : Obj) (cls : Value) (d : Option Addr) (pn : List (Addr × Obj)), Zc cls d oe → (∃ vs, oe.data = .fields vs) → PSs (X.suite a ((a, oe) :: pn)) (b₀ :: suite) (ts a cls d)) (r : HdsN X hds l) :
      HdsN X (.ExceptHandler (some (.Name x np)) none (b₀ :: suite) pos' :: hds) ((c, none, ts) :: l)
  | as_ {x n : Str} {i : Nat} {c : Value} {ts : Sui} {b₀ : Stmt} {suite : List Stmt} {np pos' : Pos} {hds : List ExceptHandler} {l : List (Value × Option Nat × Sui)} (hc : Names X x c) (hi : X.N[i]? = some n) (hln : X.env.kindOf n = some .local)
      (hsu : ∀ (a : Addr) (oe : Obj) (cls : Value) (d : Option Addr) (pn : List (Addr × Obj)), Zc cls d oe → (∃ vs, oe.data = .fields vs) → PSs (X.suite a ((a, oe) :: pn)) (b₀ :: suite) (ts a cls d)) (r : HdsN X hds l) :
      HdsN X (.ExceptHandler (some (.Name x np)) (some n) (b₀ :: suite) pos' :: hds) ((c, some i, ts) :: l)
section
variable {X : Cx} {body : List Stmt} {h₀ : ExceptHandler} {hds : List ExceptHandler} {l : List (Value × Option Nat × Sui)} {pos : Pos} {tb : WX → TS} {Wout : WX}
theorem ps_tryN (hs : X.stack = X.env :: X.outer) (hf : X.env.frame = some X.env.locals) (hN : X.N.Nodup) (tk : Takes X Wout)
    (hb : ∀ (W : WX) (pn : List (Addr × Obj)) (xe : Value → Shared → Prop), Takes (X.tr pn xe) W → PassesOwn (model X.prog X.w) X.A X.env xe → PSs (X.tr pn xe) body (tb W))
    (hh : HdsN X (h₀ :: hds) l) : PS X (.Try body (h₀ :: hds) [] [] pos) (fun D σ H => tb (wManyN X.K Wout D l) D σ H) := by
  refine ⟨fun pins s σ H D I h => ?_⟩
  have ok := I.ok
  have hfr : X.A.frames = some (X.env :: X.outer) := by rw [ok.frames, hs]
  refine wpAny_Try_except ?_
  refine wpAny_mono ((hb (wManyN X.K Wout D l) (X.pn ++ pins) (fun e s₁ => wpAny (model X.prog X.w) X.A (noteFrame e X.env) (fun _ s₂ => wpAny (model X.prog X.w) X.A (setFlight e none) (fun _ s₃ =>
    wpAny (model X.prog X.w) X.A (handleBy e X.env (h₀ :: hds)) (SP X pins D) X.xe s₃) X.xe s₂) X.xe s₁) (fun u s' xx => ?_) PassesOwn.looking).run [] s σ H D (I.toTry _) h) (fun f s1 hsp => ?_) (fun e s1 he => he)
  · -- the catch
    obtain ⟨a, B, sI, pins', σ', H', cls, d, rfl, J', nb, up, sky, na, os, ag, w⟩ := xx
    have J : Inv X pins σ' H' sI := J'.ofTry ok
    have sky' : Sky B (X.env :: X.outer) a (Zc cls d) X.env.locals s'.heap := by rw [← hs]; exact sky
    show wpAny (model X.prog X.w) X.A (noteFrame (.ref a) X.env) _ _ _
    refine Sky.land Zc.steady hfr hf sky' fun h3 fl3 up3 => ?_
    have J3 : Inv X pins σ' H' { s' with heap := h3 } := J.landed nb fl3.1 (up.trans up3) os ag
    obtain ⟨oe3, vs3, he3, hz3, hd3⟩ := fl3.there
    have notFr : ∀ {h : Heap} {o : Obj} {vs : Array Value}, h.FunFrames B (X.env :: X.outer) → h.get? a = some o → o.data = .fields vs → a ∉ frs (X.env :: X.outer) := fun {h o vs} ff e dd hm => by
      obtain ⟨_, o', e', hnf⟩ := ff.mem hm
      rw [e] at e'; cases e'
      exact hnf _ dd
    have nfr := notFr fl3.2.2.1 he3 hd3
    have nL : a ≠ X.env.locals := fun z => nfr (List.mem_filterMap.mpr ⟨X.env, List.mem_cons_self, by rw [hf, z]⟩)
    have nF : a ∉ X.fs := fun hm => by
      obtain ⟨e, he, q⟩ := List.mem_filterMap.mp hm
      exact nfr (List.mem_filterMap.mpr ⟨e, List.mem_cons_of_mem _ he, q⟩)
    have S3 := J3.suite he3 hd3 na nL nF
    have LT : PySem.W.Looks (model X.prog X.w) h3 (typeOf (.ref a)) cls := fun A Q E s k q => wpAny_typeOf_ref (k _ _ he3) (by rw [hz3.1]; exact q)
    have test : ∀ {x : Str} {np : Pos} {c : Value} {Q : Value → Shared → Prop} {E : Value → Shared → Prop}, Names X x c → Q c { s' with heap := h3 } → wpAny (model X.prog X.w) (X.A.mark (some (.ref a))) (eval (.Name x np) X.env) Q E { s' with heap := h3 } := fun {x np c Q E} hc q => by
      obtain ⟨hg, hdbg, hm | ⟨hm, hv, hnn⟩⟩ := hc
      · exact ld_glob (X := X.suite a ((a, oe3) :: (X.pn ++ pins))) S3 hg hm q hdbg
      · exact ld_blt (X := X.suite a ((a, oe3) :: (X.pn ++ pins))) S3 hg hm hv q hnn hdbg
    have go : ∀ {hds' : List ExceptHandler} {l' : List (Value × Option Nat × Sui)}, HdsN X hds' l' → wManyN X.K Wout D l' cls d σ' H' →
        wpAny (model X.prog X.w) X.A (handleBy (.ref a) X.env hds') (SP X pins D) X.xe { s' with heap := h3 } := by
      intro hds' l' hk
      induction hk with
      | nil =>
        intro w
        refine wpAny_handleBy_nil ?_
        obtain ⟨k1, k2, k3, oe, vs, T, oT, ts', he, hz, hd, h1, hr⟩ := id fl3
        unfold PySem.passOn
        refine wpAny_bind (wpAny_field he hd h1 ?_)
        rw [if_neg (show ¬ ((Value.ref T == Value.none) = true) from by simp)]
        have fin : wpAny (model X.prog X.w) X.A (setFlight (.ref a) X.env.frame) (fun _ s4 => wpAny (model X.prog X.w) X.A (throw (.ref a) : Sem Flow) (SP X pins D) X.xe s4) X.xe { s' with heap := h3 } := by
          rw [hf]
          refine HandSPX.setFlight_upZ fl3 fun h4 hh4 up4 => wpAny_throw (tk _ _ ?_)
          exact ⟨a, B, sI, pins, σ', H', cls, d, rfl, J, nb, (up.trans up3).trans up4, .inr (.inr (by rw [hs]; exact hh4)), na, os, ag, w⟩
        first
          | exact wpAny_bind (wpAny_pure (wpAny_bind fin))
          | exact wpAny_bind fin
      | @cons x c ts b₀ suite np pos' hds2 l2 hc hsu r ih =>
        intro w
        obtain ⟨b, hb1, hyes, hno⟩ := w
        refine wpAny_handleBy_cons (codeAny_handlers_test ?_) (by intro q; cases q)
        have LM := PySem.W.exm_one (M := model X.prog X.w) (J3.kIn) LT hb1
        refine test hc (LM.here ?_)
        cases b with
        | true =>
          refine codeAny_handlers_suite ?_
          refine HandSPX.lands_againZ fl3 fun h4 fl4 up4 => ?_
          have J4 : Inv X pins σ' H' { s' with heap := h4 } := J.landed nb fl4.1 ((up.trans up3).trans up4) os ag
          obtain ⟨oe4, vs4, he4, hz4, hd4⟩ := fl4.there
          have S4 := J4.suite he4 hd4 na nL nF
          refine wpAny_mono ((hsu a oe4 cls d (X.pn ++ pins) hz4 ⟨_, hd4⟩).run [] _ _ H' _ S4 (hyes rfl a na)) (fun f s6 hsp => ?_) (fun _ _ z => False.elim z)
          cases f with
          | next =>
            obtain ⟨σ6, H6, S6, q6⟩ := hsp
            exact ⟨_, _, S6.unsuite ok, q6⟩
          | brk =>
            obtain ⟨σ6, H6, S6, q6⟩ := hsp
            exact ⟨_, _, S6.unsuite ok, q6⟩
          | cont =>
            obtain ⟨σ6, H6, S6, q6⟩ := hsp
            exact ⟨_, _, S6.unsuite ok, q6⟩
          | ret u =>
            obtain ⟨v6, σ6, H6, S6, r6, q6⟩ := hsp
            exact ⟨_, _, _, S6.unsuite ok, r6, q6⟩
        | false =>
          show wpAny _ X.A (handleBy (.ref a) X.env hds2) _ _ _
          exact ih (hno rfl)
      | @as_ x n i c ts b₀ suite np pos' hds2 l2 hc hi hln hsu r ih =>
        intro w
        obtain ⟨b, hb1, hyes, hno⟩ := w
        refine wpAny_handleBy_cons (codeAny_handlers_test ?_) (by intro q; cases q)
        have LM := PySem.W.exm_one (M := model X.prog X.w) (J3.kIn) LT hb1
        refine test hc (LM.here ?_)
        cases b with
        | true =>
          refine codeAny_handlers_suite_as ?_
          refine HandSPX.lands_againZ fl3 fun h4 fl4 up4 => ?_
          have J4 : Inv X pins σ' H' { s' with heap := h4 } := J.landed nb fl4.1 ((up.trans up3).trans up4) os ag
          obtain ⟨oe4, vs4, he4, hz4, hd4⟩ := fl4.there
          have S4 := J4.suite he4 hd4 na nL nF
          refine store_ok (X := X.suite a ((a, oe4) :: (X.pn ++ pins))) (v := .ref a) S4 hN hi (.inl hln) rfl (fun s5 S5 => ?_) (.inr hln)
          refine wpAny_mono ((hsu a oe4 cls d (X.pn ++ pins) hz4 ⟨_, hd4⟩).run [] s5 _ H' _ S5 (hyes rfl a na)) (fun f s6 hsp => ?_) (fun _ _ z => False.elim z)
          have end_ : ∀ {σ6 : L2.St} {H6 : Hp} {Q : Shared → Prop}, Inv (X.suite a ((a, oe4) :: (X.pn ++ pins))) [] σ6 H6 s6 → (∀ s7, Inv X pins (σ6.set i none) H6 s7 → Q s7) →
              wpAny (model X.prog X.w) X.A (do bindName X.env n .none; unbindBehindTheSuite X.env n pos') (fun _ s7 => Q s7) X.xe s6 := fun {σ6 H6 Q} S6 hq => gone_ok (S6.unsuite ok) hN hi hln hq
          cases f with
          | next =>
            obtain ⟨σ6, H6, S6, q6⟩ := hsp
            exact end_ S6 fun s7 J7 => ⟨_, _, J7, q6⟩
          | brk =>
            obtain ⟨σ6, H6, S6, q6⟩ := hsp
            exact end_ S6 fun s7 J7 => ⟨_, _, J7, q6⟩
          | cont =>
            obtain ⟨σ6, H6, S6, q6⟩ := hsp
            exact end_ S6 fun s7 J7 => ⟨_, _, J7, q6⟩
          | ret u =>
            obtain ⟨v6, σ6, H6, S6, r6, q6⟩ := hsp
            exact end_ S6 fun s7 J7 => ⟨_, _, _, J7, r6, q6⟩
        | false =>
          show wpAny _ X.A (handleBy (.ref a) X.env hds2) _ _ _
          exact ih (hno rfl)
    exact go hh w
  · cases f with
    | next =>
      obtain ⟨σ', H', J', q⟩ := hsp
      exact wpAny_execs_nil ⟨σ', H', J'.ofTry ok, q⟩
    | brk =>
      obtain ⟨σ', H', J', q⟩ := hsp
      exact ⟨σ', H', J'.ofTry ok, q⟩
    | cont =>
      obtain ⟨σ', H', J', q⟩ := hsp
      exact ⟨σ', H', J'.ofTry ok, q⟩
    | ret u =>
      obtain ⟨v, σ', H', J', r, q⟩ := hsp
      exact ⟨v, σ', H', J'.ofTry ok, r, q⟩
end
end Y

set_option Elab.async false
set_option linter.all false
set_option maxRecDepth 100000
namespace Y
open PySem PySem.Spec PyProof.Rows L2
section
variable {X : Cx} {W : WX} {e a b c o : Expr} {es : List Expr} {f g h : Ev} {pos p p2 apos : Pos} {ft gt : Et} {fa : Ea} {K : PySem.W.Frag} {ρ : List Addr} {S : AH} {H : Hp} {fs gs : Es}

/-! ### code that is never reached -/
theorem fs_bad {st : Stmt} : FS X W st (fun _ _ => .bad) := ⟨fun pins s σ H D I h => by obtain ⟨ρ, env, S, _, _, q⟩ := h; exact q.elim⟩
theorem fss_bad {st : List Stmt} : FSs X W st (fun _ _ => .bad) := ⟨fun pins s σ H D I h => by obtain ⟨ρ, env, S, _, _, q⟩ := h; exact q.elim⟩
theorem fe_bad : FE X W e (fun _ _ => .bad) := ⟨fun pins s σ H Q I h => by obtain ⟨ρ, env, S, _, _, q⟩ := h; exact q.elim⟩

/-! ### raise -/
theorem pmk_own0 {C : Addr} {bmB : List Value} {B newId initId : String} {x : Str} (F : ExcBaseFacts B newId initId bmB) (q : PySem.W.excIn X.K C bmB newId = true) (gC : X.mg x = some (.ref C)) (kC : PySem.W.keepIn X.K (.ref C) = true) (r : Raises X (.ref C)) (hg : Gl X x)
    (hdb : (x == ("__debug__" : Str)) = false := by decide) : PMk X (.Call (.Name x p) [] [] pos) (fun _ H Q => Q (.ref C) none H) := by
  intro pins s σ H Q I h
  refine wpAny_Call_Name_kw (ld_glob I hg gC ?_ hdb)
  refine PySem.W.callWith_K0 I.kIn kC ?_
  obtain ⟨bm, N, nm, qn, bs, hdct, sn, sub, ab, col, dd, k0, k1, k2, k3, k5, mN, hC, hN, hni, T⟩ := exc_obj I.kIn q
  refine wpAny_call_exc_subT F T hC hN hni (fun h' e hm => ?_) (by show 0 ≤ sizeLine; rw [sizeLine_eq]; omega)
  exact mk_of I hm r h (I.hok.gone hm.new)
def sRaise (C : Str) : Es := fun env S => .ok (.xn ⟨C, none⟩ env) S
theorem fs_raise {x : Str} (hc : X.calm = true) (tk : Takes X W) (q : PySem.W.excIn X.K (He.ga X.K x) He.veBase "ValueError.__new__" = true) (gC : X.mg x = some (.ref (He.ga X.K x))) (kC : PySem.W.keepIn X.K (.ref (He.ga X.K x)) = true) (r : Raises X (.ref (He.ga X.K x))) (hg : Gl X x)
    (hdb : (x == ("__debug__" : Str)) = false := by decide) : FS X W (.Raise (some (.Call (.Name x p) [] [] p2)) none pos) (sRaise x) := fs_of (ps_raise hc tk (pmk_own0 F.excBase_ValueError q gC kC r hg hdb)) fun D σ H z => by
  obtain ⟨ρ, env, S, hR, hE, q⟩ := z
  exact q ρ H (Le.refl _) hR σ _ none hE ⟨rfl, rfl⟩
/-- an exception class whose __init__ keeps its one argument as its field fn -/
def sp1 (K : PySem.W.Frag) (fn : Str) : Sp := fun vs H Q _ => ∃ a C v, vs = [V.ref a, v] ∧ OexC K C ∧ PySem.W.findIn K (.ref C) fn = some none ∧ H a = some (exo a C none) ∧ ∀ dx, H dx = none → dx ≠ a → Q .non (upd (upd H dx (exd dx [(fn, v)])) a (exo a C (some dx)))
theorem ps1 {fn x y : Str} {p1 p3 p4 : Pos} (h0 : X.N[0]? = some x) (h1 : X.N[1]? = some y) (v0 : Vis X.env.scope x) (v1 : Vis X.env.scope y) (d0 : (x == ("__debug__" : Str)) = false) (d1 : (y == ("__debug__" : Str)) = false) (c0 : (x == ("__classdict__" : Str)) = false) (c1 : (y == ("__classdict__" : Str)) = false)
    (hs : swapsWith (.Name y p4) (some (.Attribute (.Name x p1) fn p3)) pos.line X.env = pure false) : PSs X [.Assign [.Attribute (.Name x p1) fn p3] (.Name y p4) pos] (tOst X.K fn (tVar 0) (tVar 1)) := pss_one (ps_ost (pe_var h0 v0 d0 c0) (pe_var h1 v1 d1 c1) hs)
theorem body1 {fn : Str} {N : List Str} {vs : List V} {Q : VK} {E : XK} (h : sp1 K fn vs H Q E) : tOst K fn (tVar 0) (tVar 1) { nx := fun _ H' => Q .non H', rt := Q } (L2.start N vs) H := by
  obtain ⟨a, C, v, rfl, T, hno, ha, q⟩ := h
  refine ⟨v, rfl, _, rfl, a, C, rfl, T, hno, .inl ⟨ha, fun dx h1 h2 => q dx h1 h2⟩⟩
structure XO (P : Program) (w : World) (K : PySem.W.Frag) (mg : Str → Option Value) (base : Heap) (C fn : Str) (k : Nat) : Prop where
  ex : ∃ (f : Addr) (fd : FuncData) (ps : List Str), OexC K (He.ga K C) ∧ PySem.W.findIn K (.ref (He.ga K C)) "__init__" = some (some (.ref f)) ∧ PySem.W.typeIn K (.ref f) = some (.type "function") ∧ PySem.W.findIn K (.ref (He.ga K C)) fn = some none ∧
    FnOk P w K mg base (L2.CX P w) k f fd ps (sp1 K fn) ∧ mg C = some (.ref (He.ga K C)) ∧ Binds K fd ps []
def sRaise1 (C fn : Str) (g : Ev) : Es := fun env S => xnB env (g env S) fun d S1 => .ok (.xn ⟨C, some [(fn, d)]⟩ env) S1
theorem fs_raise1 {x fn : Str} {k j : Nat} (T : XO X.prog X.w X.K X.mg X.base x fn k) (hc : X.calm = true) (tk : Takes X W) (hr : Room j X.A) (hk : k + 1 ≤ j) (hg : Gl X x) (he : FE X W e g)
    (hdb : (x == ("__debug__" : Str)) = false := by decide) (hs : starEach [e] X.env = (false, eval e X.env) :: starEach [] X.env := by rfl) : FS X W (.Raise (some (.Call (.Name x p) [e] [] p2)) none pos) (sRaise1 x fn g) := by
  obtain ⟨f, fd, ps, ox, hi, ht, hno, Fk, hm, hb⟩ := T.ex
  have ha : FA X W [e] (aCons g aNil) := fa_cons he fa_nil hs
  refine fs_of (ps_raise hc tk (pmk_oex (CX := L2.CX X.prog X.w) ox hi ht Fk (hr.mono hk) hb .nil (fun pins σ H s e' s' I c => tk e' s' (XE.of_call I (fun _ _ _ z => z.elim) c)) hg hm ha hdb hs (by rfl))) fun D σ H z => ?_
  obtain ⟨ρ, env, S, hR, hE, q⟩ := z
  refine ⟨ρ, env, S, hR, hE, ?_⟩
  unfold aCons aNil
  have q := xnB_aft (W := W) hE q
  cases hg0 : g env S with
  | bad => rw [hg0] at q; exact q
  | ex y S1 => rw [hg0] at q; exact q
  | ok d S1 =>
    rw [hg0] at q
    intro ρ1 H1 l1 r1 vs rvs
    obtain ⟨v, rfl, rv⟩ := rds1 rvs rfl
    have q1 := q ρ1 H1 l1 r1
    refine ⟨by show 1 ≤ 1000; decide, fun a0 ha0 => ⟨a0, _, v, rfl, ox, hno, upd_same, fun dx h1 h2 => ⟨rfl, dx, [(fn, v)], upd_same, ?_, ?_, ?_⟩⟩⟩
    · rw [upd_ne h2, upd_same]
    · rwa [upd_ne h2] at h1
    · have h1' : H1 dx = none := by rwa [upd_ne h2] at h1
      have eq : upd (del (upd (upd (upd H1 a0 (exo a0 (He.ga X.K x) none)) dx (exd dx [(fn, v)])) a0 (exo a0 (He.ga X.K x) (some dx))) a0) dx (HO.xd [(fn, v)]) = upd H1 dx (HO.xd [(fn, v)]) := by
        funext z
        by_cases hz : z = dx
        · subst hz; rw [upd_same, upd_same]
        · rw [upd_ne hz, upd_ne hz]
          by_cases ha : z = a0
          · subst ha; rw [del_same, ha0]
          · rw [del_ne ha, upd_ne ha, upd_ne hz, upd_ne ha]
      rw [eq]
      have l2 : Le X.K ρ1 H1 ρ1 (upd H1 dx (HO.xd [(fn, v)])) := le_new0 h1'
      exact q1 ρ1 _ l2 (r1.side h1') σ _ (some dx) ((hE.mono _ l1).mono _ l2) ⟨rfl, dx, [(fn, v)], rfl, upd_same, rfl, .cons (rv.mono _ l2) .nil⟩

/-! ### try -/
def wipeO (i : Option Nat) (env : En) : En := match i with
  | none => env
  | some i => env.set i none
def goneF (i : Option Nat) (r : Rs Fl) : Rs Fl := match r with
  | .ok (.nx e) S => .ok (.nx (wipeO i e)) S
  | .ok (.ct e) S => .ok (.ct (wipeO i e)) S
  | .ok (.bk e) S => .ok (.bk (wipeO i e)) S
  | .ok (.rt d) S => .ok (.rt d) S
  | _ => .bad
abbrev Cl := Str × Option Nat × (Xn → Es)
def clE (sub : Str → Str → Option Bool) : List Cl → Xn → Es
  | [], x => fun env S => .ok (.xn x env) S
  | (C, i, fs) :: r, x => fun env S => match sub x.cls C with
    | some true => goneF i (fs x (wipeO i env) S)
    | some false => clE sub r x env S
    | none => .bad
def sTry (sub : Str → Str → Option Bool) (b : Es) (cl : List Cl) : Es := fun env S => (b env S).bind fun fl S1 => match fl with
  | .xn x e1 => clE sub cl x e1 S1
  | fl => .ok fl S1
def tsOf (K : PySem.W.Frag) (i : Option Nat) (fs : Xn → Es) : Sui := fun a cls d D σ H => (∀ j, i = some j → j < σ.length → σ[j]? = some (some (.ref a))) ∧ ∃ ρ env S x, R K ρ S H ∧ RE K ρ H env σ ∧ RX K ρ H x cls d ∧ Aft K WN ρ σ H (fs x env S) (postS K WN D)
/-- the clauses -/
inductive HdsF (X : Cx) : List ExceptHandler → List Cl → Prop
  | nil : HdsF X [] []
  | cons {x : Str} {fs : Xn → Es} {b₀ : Stmt} {suite : List Stmt} {np pos' : Pos} {hds : List ExceptHandler} {l : List Cl} (hg : Gl X x) (hdb : (x == ("__debug__" : Str)) = false) (hm : X.mg x = some (.ref (He.ga X.K x)))
      (hsu : ∀ (a : Addr) (oe : Obj) (cls : Value) (d : Option Addr) (pn : List (Addr × Obj)), Zc cls d oe → (∃ vs, oe.data = .fields vs) → PSs (X.suite a ((a, oe) :: pn)) (b₀ :: suite) (tsOf X.K none fs a cls d)) (r : HdsF X hds l) :
      HdsF X (.ExceptHandler (some (.Name x np)) none (b₀ :: suite) pos' :: hds) ((x, none, fs) :: l)
  | as_ {x n : Str} {i : Nat} {fs : Xn → Es} {b₀ : Stmt} {suite : List Stmt} {np pos' : Pos} {hds : List ExceptHandler} {l : List Cl} (hg : Gl X x) (hdb : (x == ("__debug__" : Str)) = false) (hm : X.mg x = some (.ref (He.ga X.K x))) (hi : X.N[i]? = some n) (hln : X.env.kindOf n = some .local)
      (hsu : ∀ (a : Addr) (oe : Obj) (cls : Value) (d : Option Addr) (pn : List (Addr × Obj)), Zc cls d oe → (∃ vs, oe.data = .fields vs) → PSs (X.suite a ((a, oe) :: pn)) (b₀ :: suite) (tsOf X.K (some i) fs a cls d)) (r : HdsF X hds l) :
      HdsF X (.ExceptHandler (some (.Name x np)) (some n) (b₀ :: suite) pos' :: hds) ((x, some i, fs) :: l)
def clN (K : PySem.W.Frag) (l : List Cl) : List (Value × Option Nat × Sui) := l.map fun c => (.ref (He.ga K c.1), c.2.1, tsOf K c.2.1 c.2.2)
theorem HdsF.n {hds : List ExceptHandler} {l : List Cl} (h : HdsF X hds l) : HdsN X hds (clN X.K l) := by
  induction h with
  | nil => exact .nil
  | cons hg hdb hm hsu r ih => exact .cons ⟨hg, hdb, .inl hm⟩ hsu ih
  | as_ hg hdb hm hi hln hsu r ih => exact .as_ ⟨hg, hdb, .inl hm⟩ hi hln hsu ih
theorem RE.wipeO {env : En} {σ : L2.St} (h : RE K ρ H env σ) (i : Option Nat) : RE K ρ H (wipeO i env) (match i with
    | none => σ
    | some i => σ.set i none) := by
  cases i with
  | none => exact h
  | some i => exact h.wipe [i]
theorem RE.nameSt {env : En} {σ : L2.St} (h : RE K ρ H env σ) (i : Option Nat) (a : Addr) : RE K ρ H (Y.wipeO i env) (Y.nameSt i σ a) := by
  cases i with
  | none => exact h
  | some i =>
    refine ⟨by simp only [Y.wipeO, Y.nameSt, List.length_set]; exact h.1, fun j d q => ?_⟩
    simp only [Y.wipeO, Y.nameSt] at q ⊢
    by_cases hj : i = j
    · subst hj
      by_cases hv : i < env.length
      · rw [List.getElem?_set_self hv] at q; cases q
      · rw [List.getElem?_eq_none (by simpa using hv)] at q; cases q
    · rw [List.getElem?_set_ne hj] at q ⊢
      exact h.2 j d q
theorem clE_ok {sub : Str → Str → Option Bool} (hsub : ∀ c C b, sub c C = some b → PySem.W.exmOne K (.ref (He.ga K c)) (.ref (He.ga K C)) = some b) {D' : Ends} : ∀ {l : List Cl} {x : Xn} {env : En} {σ : L2.St} {cc : Value} {d : Option Addr}, R K ρ S H → RE K ρ H env σ → RX K ρ H x cc d →
    Aft K WN ρ σ H (clE sub l x env S) (postS K W D') → wManyN K W D' (clN K l) cc d σ H
  | [], x, env, σ, cc, d, hR, hE, hX, q => q ρ H (Le.refl _) hR σ cc d hE hX
  | (C, i, fs) :: r, x, env, σ, cc, d, hR, hE, hX, q => by
    unfold clE at q
    cases hs : sub x.cls C with
    | none => simp only [hs] at q; exact q.elim
    | some b =>
      have ec : cc = .ref (He.ga K x.cls) := hX.1
      refine ⟨b, by rw [ec]; exact hsub _ _ _ hs, fun hb a0 ha0 => ?_, fun hb => ?_⟩
      · subst hb
        simp only [hs] at q
        refine ⟨fun j hj hlt => ?_, ρ, wipeO i env, S, x, hR, hE.nameSt i a0, hX, ?_⟩
        · have hj : i = some j := hj
          subst hj
          exact List.getElem?_set_self (by simpa [Y.nameSt] using hlt)
        · show Aft K WN ρ _ H (fs x (wipeO i env) S) _
          cases hq : fs x (wipeO i env) S with
          | bad => rw [hq] at q; exact q
          | ex y S1 => rw [hq] at q; exact q.elim
          | ok fl S1 =>
            rw [hq] at q
            intro ρ1 H1 l1 r1
            cases fl with
            | nx e1 =>
              intro σ' hE'
              have z := q ρ1 H1 l1 r1 _ (hE'.wipeO i)
              cases i with
              | none => exact z
              | some i => exact z
            | ct e1 =>
              intro σ' hE'
              have z := q ρ1 H1 l1 r1 _ (hE'.wipeO i)
              cases i with
              | none => exact z
              | some i => exact z
            | bk e1 =>
              intro σ' hE'
              have z := q ρ1 H1 l1 r1 _ (hE'.wipeO i)
              cases i with
              | none => exact z
              | some i => exact z
            | rt d1 =>
              have z := q ρ1 H1 l1 r1
              cases i with
              | none => exact z
              | some i => exact z
            | xn y e1 => exact q.elim
      · subst hb
        simp only [hs] at q
        exact clE_ok hsub hR hE hX q
theorem fs_try {sub : Str → Str → Option Bool} {body : List Stmt} {h₀ : ExceptHandler} {hds : List ExceptHandler} {l : List Cl} (hsub : ∀ c C b, sub c C = some b → PySem.W.exmOne X.K (.ref (He.ga X.K c)) (.ref (He.ga X.K C)) = some b)
    (hs : X.stack = X.env :: X.outer) (hf : X.env.frame = some X.env.locals) (hN : X.N.Nodup) (tk : Takes X W)
    (hb : ∀ (W' : WX) (pn : List (Addr × Obj)) (xe : Value → Shared → Prop), Takes (X.tr pn xe) W' → PassesOwn (model X.prog X.w) X.A X.env xe → FSs (X.tr pn xe) W' body fs)
    (hh : HdsF X (h₀ :: hds) l) : FS X W (.Try body (h₀ :: hds) [] [] pos) (sTry sub fs l) := fs_of (ps_tryN (tb := fun W' => rdS X.K W' fs) hs hf hN tk hb hh.n) fun D' σ H z => by
  obtain ⟨ρ, env, S, hR, hE, q⟩ := z
  refine ⟨ρ, env, S, hR, hE, Aft.imp (Aft.bind q) fun fl ρ1 S1 H1 l1 r1 q1 => ?_⟩
  cases fl with
  | nx e1 => exact q1.ok (Le.refl _) r1
  | ct e1 => exact q1.ok (Le.refl _) r1
  | bk e1 => exact q1.ok (Le.refl _) r1
  | rt d1 => exact q1.ok (Le.refl _) r1
  | xn x e1 => exact fun σ' c d hE' hX => clE_ok hsub r1 hE' hX (aft_any q1)
/-- a suite that does not look at the exception -/
theorem su_plain {i : Option Nat} {a : Addr} {oe : Obj} {cls : Value} {d : Option Addr} {pn : List (Addr × Obj)} {st : List Stmt} (h : FSs (X.suite a ((a, oe) :: pn)) WN st fs) : PSs (X.suite a ((a, oe) :: pn)) st (tsOf X.K i (fun _ => fs) a cls d) :=
  ⟨fun pins s σ H D' I z => h.run pins s σ H D' I (by
    obtain ⟨_, ρ, env, S, x, hR, hE, hX, q⟩ := z
    exact ⟨ρ, env, S, hR, hE, q⟩)⟩
/-- return [z, e.f] -/
def suAt (i : Nat) (C fn : Str) (z : Str) : Xn → Es := fun x env S => if x.cls = C ∧ i < env.length then match x.fs with
  | some fl => match fl.lookup fn with
    | some d => .ok (.rt (.obj S.length)) (S ++ [.lst [.str z, d]])
    | none => .bad
  | none => .bad
  else .bad
theorem su_at {i : Nat} {C fn z n : Str} {k : Nat} {p1 p3 p4 p5 p6 : Pos} {a : Addr} {oe : Obj} {cls : Value} {d : Option Addr} {pn : List (Addr × Obj)} (T : XfC X.K (He.ga X.K C)) (hno : PySem.W.findIn X.K (.ref (He.ga X.K C)) fn = some none) (hN : X.N[i]? = some n) (hv : Vis X.env.scope n) (hd : (n == ("__debug__" : Str)) = false) (hcd : (n == ("__classdict__" : Str)) = false)
    (hz : Zc cls d oe) (hf : ∃ vs, oe.data = .fields vs) (hb : attributeBase (.Name n p4) fn X.env (eval (.Name n p4) X.env) = eval (.Name n p4) X.env := by rfl)
    (hs1 : starEach [.Constant (.str z) k p3, .Attribute (.Name n p4) fn p5] X.env = (false, eval (.Constant (.str z) k p3) X.env) :: starEach [.Attribute (.Name n p4) fn p5] X.env := by rfl) (hs2 : starEach [.Attribute (.Name n p4) fn p5] X.env = (false, eval (.Attribute (.Name n p4) fn p5) X.env) :: starEach [] X.env := by rfl) :
    PSs (X.suite a ((a, oe) :: pn)) [.Return (some (.List [.Constant (.str z) k p3, .Attribute (.Name n p4) fn p5] p1)) p6] (tsOf X.K (some i) (suAt i C fn z) a cls d) := by
  have hx : PE (X.suite a ((a, oe) :: pn)) (.Attribute (.Name n p4) fn p5) _ := pe_xf T hno hz hf (pe_var (X := X.suite a ((a, oe) :: pn)) hN hv hd hcd) hb
  refine ⟨fun pins s σ H D' I zz => (pss_one (ps_ret (pe_lst (pa_cons (X := X.suite a ((a, oe) :: pn)) pe_str (pa_cons (X := X.suite a ((a, oe) :: pn)) hx pa_nil hs2) hs1)))).run pins s σ H D' I ?_⟩
  obtain ⟨hi, ρ, env, S, x, hR, hE, hX, q⟩ := zz
  unfold suAt at q
  split at q
  · rename_i hc
    obtain ⟨rfl, hl⟩ := hc
    have hl : i < σ.length := by rw [← hE.1]; exact hl
    obtain ⟨ec, hX⟩ := hX
    split at q
    · rename_i fl hfl
      rw [hfl] at hX
      obtain ⟨dd, ys, ed, hdd, ek, rr⟩ := hX
      split at q
      · rename_i v0 hv0
        obtain ⟨w0, hw, rw0⟩ := (look_ok ek rr fn).1 _ hv0
        refine ⟨_, hi i rfl hl, rfl, ec, dd, ys, w0, ed, hdd, hw, by show 2 ≤ sizeLine; decide, fun p hp => ?_⟩
        have l1 : Le X.K ρ H (ρ ++ [p]) (upd H p (.lst [.str z, w0])) := le_new hp _
        exact q (ρ ++ [p]) _ l1 (hR.new hp ⟨_, upd_same, .cons .str (.cons (rw0.mono _ l1) .nil)⟩) _ hR.newv
      · exact q.elim
    · exact q.elim
  · exact q.elim
end
end Y

set_option Elab.async false
set_option linter.all false
set_option maxRecDepth 100000
namespace Y
open PySem PySem.Spec PyProof.Rows L2
/-- a dict of the module's top: texts to whole numbers -/
structure KT (K : PySem.W.Frag) (w : World) (mg : Str → Option Value) (x : Str) (kvs : List (Str × Int)) : Prop where
  mg_ : mg x = some (.ref (He.ga K x))
  kd : ∃ es n, KDict K w (He.ga K x) es n
  has : ∀ z i, kvs.lookup z = some i → ∃ t, PySem.W.nsIn K (He.ga K x) z = some (some (.int i t))
  not_ : ∀ z, kvs.lookup z = none → PySem.W.nsIn K (He.ga K x) z = some none
section
variable {X : Cx} {W : WX} {e a b c o : Expr} {es : List Expr} {f g h : Ev} {pos p p2 apos : Pos} {ft gt : Et} {fa : Ea} {K : PySem.W.Frag} {ρ : List Addr} {S : AH} {H : Hp} {fs gs : Es}
def kinO (kvs : List (Str × Int)) : Op1 := fun d S => match d with
  | .str z => some (.bl (kvs.lookup z).isSome, S)
  | _ => none
def kninO (kvs : List (Str × Int)) : Op1 := fun d S => match d with
  | .str z => some (.bl (!(kvs.lookup z).isSome), S)
  | _ => none
def kgetO (kvs : List (Str × Int)) : Op1 := fun d S => match d with
  | .str z => (kvs.lookup z).map fun i => (.int i, S)
  | _ => none
theorem KT.look {w : World} {mg : Str → Option Value} {x : Str} {kvs : List (Str × Int)} (T : KT K w mg x kvs) (z : Str) : ∃ r : Option Value, PySem.W.nsIn K (He.ga K x) z = some r ∧ r.isSome = (kvs.lookup z).isSome := by
  cases h : kvs.lookup z with
  | none => exact ⟨_, T.not_ z h, rfl⟩
  | some i => obtain ⟨t, e⟩ := T.has z i h; exact ⟨_, e, rfl⟩
theorem kin_rd {w : World} {mg : Str → Option Value} {x : Str} {kvs : List (Str × Int)} (T : KT X.K w mg x kvs) : ∀ σ H Q, rd X.K W (e1 (kinO kvs) f) σ H Q → tOp (fun x' y H Q => ∃ (z : Str) (r : Option Value), x' = V.str z ∧ y = .ref (He.ga X.K x) ∧ PySem.W.nsIn X.K (He.ga X.K x) z = some r ∧ Q (.bl r.isSome) H) (rd X.K W f) (tC (.ref (He.ga X.K x))) σ H Q := fun σ H Q z => by
  obtain ⟨ρ, env, S, hR, hE, q⟩ := z
  refine ⟨ρ, env, S, hR, hE, Aft.imp (Aft.bind q) fun d ρ1 S1 H1 l1 r1 q1 v rv => ?_⟩
  cases rv <;> first | exact q1.elim | skip
  rename_i z
  obtain ⟨r, h1, h2⟩ := T.look z
  refine ⟨z, r, rfl, rfl, h1, ?_⟩
  rw [h2]
  exact q1.ok (Le.refl _) r1 _ .bl
theorem knin_rd {w : World} {mg : Str → Option Value} {x : Str} {kvs : List (Str × Int)} (T : KT X.K w mg x kvs) : ∀ σ H Q, rd X.K W (e1 (kninO kvs) f) σ H Q → tOp (fun x' y H Q => ∃ (z : Str) (r : Option Value), x' = V.str z ∧ y = .ref (He.ga X.K x) ∧ PySem.W.nsIn X.K (He.ga X.K x) z = some r ∧ Q (.bl (!r.isSome)) H) (rd X.K W f) (tC (.ref (He.ga X.K x))) σ H Q := fun σ H Q z => by
  obtain ⟨ρ, env, S, hR, hE, q⟩ := z
  refine ⟨ρ, env, S, hR, hE, Aft.imp (Aft.bind q) fun d ρ1 S1 H1 l1 r1 q1 v rv => ?_⟩
  cases rv <;> first | exact q1.elim | skip
  rename_i z
  obtain ⟨r, h1, h2⟩ := T.look z
  refine ⟨z, r, rfl, rfl, h1, ?_⟩
  rw [h2]
  exact q1.ok (Le.refl _) r1 _ .bl
theorem pe_kd {x : Str} {kvs : List (Str × Int)} (T : KT X.K X.w X.mg x kvs) (hg : Gl X x) (hd : (x == ("__debug__" : Str)) = false) : PE X (.Name x p) (tC (.ref (He.ga X.K x))) := pe_glob hg T.mg_ rfl hd
theorem fe_kin {x : Str} {kvs : List (Str × Int)} (T : KT X.K X.w X.mg x kvs) (hg : Gl X x) (ha : FE X W a f) (hd : (x == ("__debug__" : Str)) = false := by decide) (hm : behindInMarks .In (.Name x p) = false := by rfl) : FE X W (.Compare a [.In] [.Name x p] pos) (e1 (kinO kvs) f) := by
  obtain ⟨es, n, kd⟩ := T.kd
  exact fe_of (pe_cmpR (op_in_kd kd) ha (pe_kd T hg hd) hm) (kin_rd T)
theorem fe_knin {x : Str} {kvs : List (Str × Int)} (T : KT X.K X.w X.mg x kvs) (hg : Gl X x) (ha : FE X W a f) (hd : (x == ("__debug__" : Str)) = false := by decide) (hm : behindInMarks .NotIn (.Name x p) = false := by rfl) : FE X W (.Compare a [.NotIn] [.Name x p] pos) (e1 (kninO kvs) f) := by
  obtain ⟨es, n, kd⟩ := T.kd
  exact fe_of (pe_cmpR (op_notIn_kd kd) ha (pe_kd T hg hd) hm) (knin_rd T)
theorem ft_kin {x : Str} {kvs : List (Str × Int)} (T : KT X.K X.w X.mg x kvs) (hg : Gl X x) (ha : FE X W a f) (hd : (x == ("__debug__" : Str)) = false := by decide) (hm : behindInMarks .In (.Name x p) = false := by rfl) : FT X W (.Compare a [.In] [.Name x p] pos) (asB (e1 (kinO kvs) f)) := by
  obtain ⟨es, n, kd⟩ := T.kd
  exact ft_of (pt_cmpR (op_in_kd kd) ha (pe_kd T hg hd) hm) (asB_rd (kin_rd T))
theorem ft_knin {x : Str} {kvs : List (Str × Int)} (T : KT X.K X.w X.mg x kvs) (hg : Gl X x) (ha : FE X W a f) (hd : (x == ("__debug__" : Str)) = false := by decide) (hm : behindInMarks .NotIn (.Name x p) = false := by rfl) : FT X W (.Compare a [.NotIn] [.Name x p] pos) (asB (e1 (kninO kvs) f)) := by
  obtain ⟨es, n, kd⟩ := T.kd
  exact ft_of (pt_cmpR (op_notIn_kd kd) ha (pe_kd T hg hd) hm) (asB_rd (knin_rd T))
theorem fe_kget {x : Str} {kvs : List (Str × Int)} (T : KT X.K X.w X.mg x kvs) (hg : Gl X x) (hb : FE X W b g) (hd : (x == ("__debug__" : Str)) = false := by decide) (hs : PlainIx b := by exact fun _ _ => rfl) : FE X W (.Subscript (.Name x p) b pos) (e1 (kgetO kvs) g) := by
  obtain ⟨es, n, kd⟩ := T.kd
  refine fe_of (pe_ix ix_kdict (pe_kd T hg hd) hb hs) fun σ H Q z => ?_
  obtain ⟨ρ, env, S, hR, hE, q⟩ := z
  refine ⟨ρ, env, S, hR, hE, Aft.imp (Aft.bind q) fun d ρ1 S1 H1 l1 r1 q1 v rv => ?_⟩
  cases rv <;> first | exact q1.elim | skip
  rename_i z
  have q1 : Aft X.K W ρ1 σ H1 (lf ((kvs.lookup z).map fun i => (D.int i, S1))) _ := q1
  cases hz : kvs.lookup z with
  | none => rw [hz] at q1; exact q1.elim
  | some i =>
    rw [hz] at q1
    obtain ⟨t, e⟩ := T.has z i hz
    exact ⟨_, z, .int i, rfl, rfl, ⟨es, n, .int i t, kd.at_, kd.lit, e, ⟨t, rfl⟩⟩, (show Aft X.K W ρ1 σ H1 (.ok (D.int i) S1) _ from q1).ok (Le.refl _) r1 _ .int⟩
end
end Y

set_option Elab.async false
set_option linter.all false
set_option maxRecDepth 100000
namespace Y
open PySem PySem.Spec PyProof.Rows L2
section
variable {X : Cx} {W : WX} {e a b c o : Expr} {es : List Expr} {f g h : Ev} {pos p p1 p2 apos : Pos} {ft gt : Et} {fa : Ea} {K : PySem.W.Frag} {ρ : List Addr} {S : AH} {H : Hp} {fs gs : Es}
/-! ### constants of the module -/
theorem fe_gint {x : Str} {i : Int} (hg : Gl X x) (h : ∃ t, X.mg x = some (.int i t)) (hd : (x == ("__debug__" : Str)) = false := by decide) : FE X W (.Name x pos) (eC (.int i)) := by
  obtain ⟨t, h⟩ := h
  exact fe_glob (v := .int i) hg h ⟨t, rfl⟩ (fun _ _ => .int) hd
theorem fe_gstr {x z : Str} (hg : Gl X x) (h : ∃ t, X.mg x = some (.str z t)) (hd : (x == ("__debug__" : Str)) = false := by decide) : FE X W (.Name x pos) (eC (.str z)) := by
  obtain ⟨t, h⟩ := h
  exact fe_glob (v := .str z) hg h ⟨t, rfl⟩ (fun _ _ => .str) hd
theorem fe_gtup {x : Str} {zs : List Str} (hg : Gl X x) (h : ∃ p, X.mg x = some (.ref p) ∧ ∀ H, SqT X.K H p (zs.map V.str)) (hd : (x == ("__debug__" : Str)) = false := by decide) : FE X W (.Name x pos) (eC (.tup (zs.map D.str))) := by
  obtain ⟨p, h, hq⟩ := h
  exact fe_glob (v := .ref p) hg h rfl (fun _ H => .tup (hq H) (rds_strs zs)) hd
theorem fe_neg {i : Int} {k : Nat} : FE X W (.UnaryOp .USub (.Constant (.int i) k p) pos) (eC (.int (-i))) := fe_of (pe_un un_neg pe_int) fun σ H Q z => by
  obtain ⟨ρ, env, S, hR, hE, q⟩ := z
  exact ⟨i, rfl, q.ok (Le.refl _) hR _ .int⟩
theorem fs_brk : FS X W (.Break pos) sBrk := fs_of ps_break fun D σ H q => by
  obtain ⟨ρ, env, S, hR, hE, q⟩ := q
  exact q ρ H (Le.refl _) hR σ hE

/-! ### targets, stores -/
theorem fgs_consA {ts : List Expr} {t : Eg} {u : Egs} (h1 : FG X e t) (h2 : FGs X ts u) (hs : (assignEach (e :: ts) X.env).map (·.2) = assign e X.env :: (assignEach ts X.env).map (·.2) := by rfl) : FGs X (e :: ts) (gConss t u) := fgs_cons (pgs_cons h1 h2 hs)
theorem fg_tupA {ts : List Expr} {u : Egs} {n : Nat} {k : Nat} (hc : X.calm = true) (h : FGs X ts u)
    (hn : (assignEach ts X.env).length = n := by rfl) (hst : (assignEach ts X.env).findIdx? (·.1) = none := by rfl) : FG X (.Tuple ts k pos) (gTp n u) := fg_tup (pg_tup hc h hn hst)
theorem fs_asgT {tg : Expr} {t : Eg} (he : FE X W e f) (hg : FG X tg t) (hs : swapsWithSole [tg] e pos.line X.env = pure false := by rfl) (hw : swappedStores [tg] e X.env = pure none := by rfl)
    (h1 : (assignEach [tg] X.env).map (·.2) = [assign tg X.env] := by rfl) : FS X W (.Assign [tg] e pos) (sAsg f t) := fs_asg (ps_asg he hg hs hw h1)
theorem fs_augA {i : Nat} {x : Str} {pos' : Pos} (hN : X.N.Nodup) (hi : X.N[i]? = some x) (hx : Loc X.env.scope x) (he : FE X W e f) (hf : X.fn x = true ∨ X.env.scope.names.lookup x = some .local := by first | exact .inl rfl | exact .inr rfl | assumption) :
    FS X W (.AugAssign (.Name x pos') .Add e pos) (sAug i f) := fs_aug hN hi hx he (ps_aug hN hi hx he ip_add hf)
theorem fs_subL {o i : Expr} (he : FE X W e f) (ho : FE X W o g) (hi : FE X W i h) (hs : swapsWithSole [.Subscript o i p1] e pos.line X.env = pure false := by rfl) (hw : swappedStores [.Subscript o i p1] e X.env = pure none := by rfl)
    (ha : ∀ v, assign (.Subscript o i p1) X.env v = (do
      let ov ← PySem.holding [v] (eval o X.env)
      let iv ← PySem.holding [v, ov] (eval i X.env)
      standAt p1
      PySem.holding [v, ov, iv] (setItem ov iv v)
      release [v, ov, iv] []) := by intro _; rfl) : FS X W (.Assign [.Subscript o i p1] e pos) (sSub f g h) := fs_sub he ho hi hs hw (pg_sub ho hi set_list ha)
end

/-! ### a, b = x, y -/
section
variable {X : Cx} {W : WX} {a b c : Expr} {pos : Pos} {fa : Ea} {K : PySem.W.Frag} {ρ : List Addr} {S : AH} {H : Hp}
def sPar (i j : Nat) (g : Ea) : Es := fun env S => xnB env (g env S) fun ds S1 => match ds with
  | [x, y] => .ok (.nx ((env.set i (some x)).set j (some y))) S1
  | _ => .bad
def sPar3 (i j l : Nat) (g : Ea) : Es := fun env S => xnB env (g env S) fun ds S1 => match ds with
  | [x, y, z] => .ok (.nx (((env.set i (some x)).set j (some y)).set l (some z))) S1
  | _ => .bad
theorem fs_par {i j : Nat} {x y : Str} {px py pt : Pos} {kt k2 pt2} (hc : X.calm = true) (hN : X.N.Nodup) (hi : X.N[i]? = some x) (hj : X.N[j]? = some y) (hij : i ≠ j)
    (hx : X.env.scope.names.lookup x = some .local) (hy : X.env.scope.names.lookup y = some .local) (ha : FA X W [a, b] fa)
    (hw : swappedStores [.Tuple [.Name x px, .Name y py] kt pt] (.Tuple [a, b] k2 pt2) X.env = pure (some [x, y]) := by rfl)
    (hs : swapsWithSole [.Tuple [.Name x px, .Name y py] kt pt] (.Tuple [a, b] k2 pt2) pos.line X.env = pure false := by rfl) :
    FS X W (.Assign [.Tuple [.Name x px, .Name y py] kt pt] (.Tuple [a, b] k2 pt2) pos) (sPar i j fa) := fs_of (ps_par hc hN hi hj hij hx hy ha hw hs) fun D' σ H z => by
  obtain ⟨ρ, env, S, hR, hE, q⟩ := z
  refine ⟨ρ, env, S, hR, hE, Aft.imp (xnB_aft hE q) fun ds ρ1 S1 H1 l1 r1 q1 vs rvs => ?_⟩
  have hE1 := hE.mono _ l1
  split at q1
  · cases rvs with
    | cons ra rb =>
      cases rb with
      | cons rb rc =>
        cases rc
        exact ⟨_, _, rfl, q1.ok (Le.refl _) r1 _ ((hE1.set _ ra).set _ rb)⟩
  · exact q1.elim
theorem fs_par3 {i j l : Nat} {x y z : Str} {px py pz pt : Pos} {kt k2 pt2} (hc : X.calm = true) (hN : X.N.Nodup) (hi : X.N[i]? = some x) (hj : X.N[j]? = some y) (hl : X.N[l]? = some z) (hij : i ≠ j) (hil : i ≠ l) (hjl : j ≠ l)
    (hx : X.env.scope.names.lookup x = some .local) (hy : X.env.scope.names.lookup y = some .local) (hz : X.env.scope.names.lookup z = some .local) (ha : FA X W [a, b, c] fa)
    (hw : swappedStores [.Tuple [.Name x px, .Name y py, .Name z pz] kt pt] (.Tuple [a, b, c] k2 pt2) X.env = pure (some [x, y, z]) := by rfl)
    (hs : swapsWithSole [.Tuple [.Name x px, .Name y py, .Name z pz] kt pt] (.Tuple [a, b, c] k2 pt2) pos.line X.env = pure false := by rfl) :
    FS X W (.Assign [.Tuple [.Name x px, .Name y py, .Name z pz] kt pt] (.Tuple [a, b, c] k2 pt2) pos) (sPar3 i j l fa) := fs_of (ps_par3 hc hN hi hj hl hij hil hjl hx hy hz ha hw hs) fun D' σ H z => by
  obtain ⟨ρ, env, S, hR, hE, q⟩ := z
  refine ⟨ρ, env, S, hR, hE, Aft.imp (xnB_aft hE q) fun ds ρ1 S1 H1 l1 r1 q1 vs rvs => ?_⟩
  have hE1 := hE.mono _ l1
  split at q1
  · cases rvs with
    | cons ra rb =>
      cases rb with
      | cons rb rc =>
        cases rc with
        | cons rc rd =>
          cases rd
          exact ⟨_, _, _, rfl, q1.ok (Le.refl _) r1 _ (((hE1.set _ ra).set _ rb).set _ rc)⟩
  · exact q1.elim
end

/-! ### defs from their bodies -/
section
variable {P : Program} {w : World} {K : PySem.W.Frag} {mg : Str → Option Value} {base : Heap} {x qual m C : Str} {params : Arguments} {body : List Stmt} {scope : Scope} {f : Addr} {fd : FuncData} {N ps : List Str} {k n : Nat} {fs : Es}
abbrev BodyOk (P : Program) (w : World) (K : PySem.W.Frag) (mg : Str → Option Value) (base : Heap) (N : List Str) (qual : Str) (scope : Scope) (f : Addr) (body : List Stmt) (k : Nat) (fs : Es) : Prop :=
  ∀ (cdv : Value) (A : Around) (outer : List Env) (s : Shared) (H : Hp) (E : XK), Room k (A.deeper (envOfC qual scope s.heap.objs.size f cdv)) → FSs (cxOf (L2.CX P w) P w K mg base N qual scope f cdv A outer s H E) (fun cls d _ H => E cls d H) body fs
theorem fnok_of (F : FunD K x qual params body scope [] [] f fd) (S : FnScope N ps scope) (hm : ps.length = n) (hb : BodyOk P w K mg base N qual scope f body k fs) : FnOk P w K mg base (L2.CX P w) (k + 1) f fd ps (spOf K n (funOf N.length fs)) :=
  F.ok S (fun vs H Q E h => (spOf_len h).trans hm.symm) fun cdv A outer s H vs Q E hr h => ⟨_, hb cdv A outer s H E hr, body_rd rfl h⟩
theorem fnok_bad (hm : ps.length = n) : FnOk P w K mg base (L2.CX P w) k f fd ps (spOf K n fun _ _ => .bad) := ⟨fun vs H Q E h => (spOf_len h).trans hm.symm, fun A outer s H args us vs Q E _ _ _ _ h => by
  obtain ⟨ρ, ds, S, _, _, _, q⟩ := h
  exact q.elim⟩
theorem fok_of (F : FunD K x qual params body scope [] [] f fd) (hg : mg x = some (.ref f)) (S : FnScope N ps scope) (hm : ps.length = n) (b : Binds K fd ps []) (hb : BodyOk P w K mg base N qual scope f body k fs) : Fok P w K mg base x (k + 1) n (funOf N.length fs) :=
  ⟨f, fd, ps, fnok_of F S hm hb, hg, F.kp, b⟩
theorem fok_bad (F : FunD K x qual params body scope [] [] f fd) (hg : mg x = some (.ref f)) (hm : ps.length = n) (b : Binds K fd ps []) : Fok P w K mg base x k n (fun _ _ => .bad) := ⟨f, fd, ps, fnok_bad hm, hg, F.kp, b⟩
theorem mok_of (F : FunD K m qual params body scope [] [] f fd) (c : Cls K (He.ga K C)) (hm' : Meth K (He.ga K C) m f) (S : FnScope N ps scope) (hm : ps.length = n) (b : Binds K fd ps []) (hb : BodyOk P w K mg base N qual scope f body k fs) : Mok P w K mg base C m (k + 1) n (funOf N.length fs) :=
  ⟨f, fd, ps, c, hm', fnok_of F S hm hb, b⟩
theorem mok_bad (F : FunD K m qual params body scope [] [] f fd) (c : Cls K (He.ga K C)) (hm' : Meth K (He.ga K C) m f) (hm : ps.length = n) (b : Binds K fd ps []) : Mok P w K mg base C m k n (fun _ _ => .bad) := ⟨f, fd, ps, c, hm', fnok_bad hm, b⟩
theorem kok_of (F : FunD K m qual params body scope [] [] f fd) (M : Mk K (He.ga K C) f) (hg : mg C = some (.ref (He.ga K C))) (S : FnScope N ps scope) (hm : ps.length = n) (b : Binds K fd ps []) (hb : BodyOk P w K mg base N qual scope f body k fs) : Kok P w K mg base C (k + 1) n (funOf N.length fs) :=
  ⟨f, fd, ps, M, fnok_of F S hm hb, hg, b⟩
end
end Y

set_option Elab.async false
set_option linter.all false
set_option maxRecDepth 100000
namespace Y
open PySem PySem.Spec PyProof.Rows L2
/-! ### looks at what the head leaves -/
def oexB (K : PySem.W.Frag) (C : Addr) : Bool := (match K.lookup C with
  | some ⟨.type "type", _, .cls cd, sl⟩ => (match cd.mro, sl.toList with
    | .ref C' :: bm, [_, _, _, _, some (.builtin n), _] => C' == C && n == "ValueError.__new__" && cd.hasDict && !cd.hasDel && PySem.HandSPX.refsVE bm
    | _, _ => false)
  | _ => false) && (decide (PySem.W.findIn K (.ref C) "__setattr__" = some (some (.builtin "object.__setattr__"))) && (decide (PySem.W.subIn K (.ref C) (.type "BaseException") = some true) && (decide (PySem.W.typeIn K (.ref C) = some (.type "type")) && PySem.W.keepIn K (.ref C))))
theorem oexB_ok {K : PySem.W.Frag} {C : Addr} (h : oexB K C = true) : OexC K C := by
  unfold oexB at h
  rw [Bool.and_eq_true] at h
  obtain ⟨h0, h⟩ := h
  obtain ⟨h1, h⟩ := Bool.and_eq_true_iff.mp h
  obtain ⟨h2, h⟩ := Bool.and_eq_true_iff.mp h
  obtain ⟨h3, h4⟩ := Bool.and_eq_true_iff.mp h
  refine ⟨?_, of_decide_eq_true h1, of_decide_eq_true h2, of_decide_eq_true h3, h4⟩
  split at h0
  · rename_i dd cd sl hl
    split at h0
    · rename_i C' bm k0 k1 k2 k3 n k5 hm hs
      simp only [Bool.and_eq_true, beq_iff_eq, Bool.not_eq_true'] at h0
      obtain ⟨⟨⟨⟨rfl, rfl⟩, e3⟩, e4⟩, e5⟩ := h0
      obtain ⟨nm, bs, mro, ns, qn, hd, sn, sb, ab, col, del⟩ := cd
      dsimp only at hm e3 e4
      subst hm e3 e4
      refine ⟨nm, qn, ns, bs, bm, sn, sb, ab, col, dd, k0, k1, k2, k3, k5, ?_, e5⟩
      have e : sl = #[k0, k1, k2, k3, some (.builtin "ValueError.__new__"), k5] := Array.ext' hs
      rw [hl, e]
    · cases h0
  · cases h0
theorem find_none {P : Params} {z : Str} : ∀ {es : List DictEntry} {ks : List Str}, es.map He.keyOf = He.keysIn P ks → z ∉ ks → es.find? (·.key.isStr z) = none ∧ es.any (·.refKey) = false
  | [], _, _, _ => ⟨rfl, rfl⟩
  | e :: r, [], h, _ => by cases h
  | e :: r, k :: ks, h, hz => by
    have h1 : He.keyOf e :: r.map He.keyOf = some (k, PyData.keyHash P k) :: He.keysIn P ks := h
    injection h1 with h2 h3
    obtain ⟨i1, i2⟩ := find_none (z := z) h3 fun hm => hz (List.mem_cons_of_mem _ hm)
    unfold He.keyOf at h2
    split at h2
    · rename_i x t q
      have hx : x = k := congrArg Prod.fst (Option.some.inj h2)
      subst hx
      have hne : (e.key.isStr z) = false := by
        rw [q]
        show (_ == _) = false
        rw [beq_eq_false_iff_ne]
        exact fun e => hz (by rw [e]; exact List.mem_cons_self ..)
      constructor
      · rw [List.find?_cons, hne]; exact i1
      · rw [List.any_cons, i2, Bool.or_false]
        unfold DictEntry.refKey
        rw [q]
    · cases h2
theorem nsIn_none {K : PySem.W.Frag} {P : Params} {a : Addr} {ks : List Str} {z : Str} (h : He.dicW K a = some (He.keysIn P ks)) (hz : z ∉ ks) : PySem.W.nsIn K a z = some none := by
  unfold He.dicW at h
  split at h
  · rename_i c es n sl hl
    split at h
    · obtain ⟨h1, h2⟩ := find_none (z := z) (Option.some.inj h) hz
      unfold PySem.W.nsIn
      rw [hl]
      simp only [h1, h2]
      rfl
    · cases h
  · cases h
def iv (i : Int) : He.Dv := .int i
theorem kt_of {K : PySem.W.Frag} {w : World} {mg : Str → Option Value} {x : Str} {kvs : List (Str × Int)} (hg : mg x = some (.ref (He.ga K x))) (hd : He.dicW K (He.ga K x) = some (He.keysIn w.params (kvs.map (·.1)))) (hv : He.valsB K (He.ga K x) (kvs.map fun q => (q.1, iv q.2)) = true) : KT K w mg x kvs := by
  refine ⟨hg, He.dicW_ok hd, fun z i hz => ?_, fun z hz => nsIn_none hd fun hm => ?_⟩
  · have hm : (z, i) ∈ kvs := by
      clear hd hv
      induction kvs with
      | nil => cases hz
      | cons q r ih =>
        rw [List.lookup_cons] at hz
        split at hz
        · rename_i hq
          cases hz
          rw [beq_iff_eq.mp hq]
          exact List.mem_cons_self ..
        · exact List.mem_cons_of_mem _ (ih hz)
    obtain ⟨u, e, r⟩ := He.valsB_ok hv (q := (z, iv i)) (List.mem_map.mpr ⟨(z, i), hm, rfl⟩)
    obtain ⟨t, rfl⟩ := r
    exact ⟨t, e⟩
  · clear hd hv
    induction kvs with
    | nil => simp at hm
    | cons q r ih =>
      rw [List.lookup_cons] at hz
      split at hz
      · cases hz
      · rename_i hq
        simp only [List.map_cons, List.mem_cons] at hm
        rcases hm with e | hm
        · rw [e] at hq; simp at hq
        · exact ih hz hm
end Y
namespace Y
open PySem PySem.Spec PyProof.Rows L2
/-! ### a slim look: what stands behind the module's names, by the ways that the facts go -/
def funA (g : Addr → Option Obj) (a : Addr) : List Addr := match g a with
  | some ⟨_, _, .func fd, _⟩ => a :: He.refV fd.code
  | _ => [a]
def dicA (g : Addr → Option Obj) (a : Addr) (k : Addr → List Addr) : List Addr := match g a with
  | some ⟨_, _, .dict es _, _⟩ => es.toList.flatMap fun e => match e.val with
    | .ref b => k b
    | _ => []
  | _ => []
def deepA (g : Addr → Option Obj) (a : Addr) : List Addr := match g a with
  | some ⟨_, _, .func fd, _⟩ => a :: He.refV fd.code
  | some ⟨_, _, .cls cd, _⟩ => a :: cd.ns :: dicA g cd.ns (funA g)
  | _ => [a]
def asS (g : Addr → Option Obj) : List Addr := mainGlobals :: dicA g mainGlobals (deepA g)
structure SaysS (fa : List He.Fa) (fn : List He.DefD) (ts : List He.Tab) (ex : PySem.W.Frag → Bool) (w : World) (K : PySem.W.Frag) : Prop where
  t : He.SaysT fa fn ts w K
  more : ex K = true
abbrev AlS : Type := He.AlT × Bool
def obsS (fa : List He.Fa) (fn : List He.DefD) (ts : List He.Tab) (ex : PySem.W.Frag → Bool) (g : Addr → Option Obj) : AlS := (fun K => (He.obsT fa fn ts K, ex K)) (He.frG g (asS g))
def hookS (fa : List He.Fa) (fn : List He.DefD) (ts : List He.Tab) (ex : PySem.W.Frag → Bool) : PySem.W.Hook where
  α := AlS
  obs := fun s => obsS fa fn ts ex s.heap.get?
  val := fun w => (He.valT fn ts w, true)
  says := fun w h => ∃ K : PySem.W.Frag, K.In h ∧ SaysS fa fn ts ex w K
  of := fun _ _ e => ⟨_, He.frG_in, congrArg (fun z : AlS => z.1) e, congrArg (fun z : AlS => z.2) e⟩
  keeps := fun _ _ _ ⟨K, hK, c⟩ k => ⟨K, PySem.W.Frag.In.keeps hK k, c⟩
theorem obsS_eq {fa : List He.Fa} {fn : List He.DefD} {ts : List He.Tab} {ex : PySem.W.Frag → Bool} {g : Addr → Option Obj} {s : Shared} (h : ∀ a, g a = s.heap.get? a) : obsS fa fn ts ex g = (hookS fa fn ts ex).obs s := by
  have e : g = s.heap.get? := funext h
  rw [e] <;> rfl
end Y

set_option Elab.async false
set_option linter.all false
set_option maxRecDepth 100000
set_option maxHeartbeats 0
namespace Z
open PySem PySem.Spec PyProof.Rows L2 Y
def top (i : Nat) : Stmt := PySem.Challenge.pw_sentandheard_k78_logs_of_live_houses.main.body.getD i (.Pass ⟨0, 0, 0, 0⟩)
def clsB : Stmt → List Stmt
  | .ClassDef (body := b) .. => b
  | _ => []
def meth (i j : Nat) : Stmt := (clsB (top i)).getD j (.Pass ⟨0, 0, 0, 0⟩)
def tup_SIGNS : List Str := ["+", "-", "*", "/", "rest", "==", "!=", "<", "<=", "and", "or"]
def tup_WORDS : List Str := ["house", "mod", "wire", "room", "person", "help", "do", "send", "take", "say", "if", "else", "rounds", "end", "not", "and", "or", "rest"]
def tab_STATEMENTS : List (Str × Int) := [("set", 3), ("send", 3), ("take", 3), ("say", 2), ("if", 4), ("rounds", 3), ("do", 2)]
def tab_MANY : List (Str × Int) := [("put", 4), ("drop", 3), ("change", 4), ("room", 3)]
def subT : List ((Str × Str) × Bool) := [(("NoHouse", "HouseError"), true), (("NoHouse", "NoHouse"), true), (("NoHouse", "NoPerson"), false), (("NoHouse", "NoInputs"), false), (("NoHouse", "BadLog"), false), (("NoPerson", "HouseError"), true), (("NoPerson", "NoHouse"), false), (("NoPerson", "NoPerson"), true), (("NoPerson", "NoInputs"), false), (("NoPerson", "BadLog"), false), (("NoWire", "HouseError"), true), (("NoWire", "NoHouse"), false), (("NoWire", "NoPerson"), false), (("NoWire", "NoInputs"), false), (("NoWire", "BadLog"), false), (("NoInputs", "HouseError"), true), (("NoInputs", "NoHouse"), false), (("NoInputs", "NoPerson"), false), (("NoInputs", "NoInputs"), true), (("NoInputs", "BadLog"), false), (("NoSpot", "HouseError"), true), (("NoSpot", "NoHouse"), false), (("NoSpot", "NoPerson"), false), (("NoSpot", "NoInputs"), false), (("NoSpot", "BadLog"), false), (("BadLog", "HouseError"), true), (("BadLog", "NoHouse"), false), (("BadLog", "NoPerson"), false), (("BadLog", "NoInputs"), false), (("BadLog", "BadLog"), true)]
def subX (c d : Str) : Option Bool := subT.lookup (c, d)
structure Fx (P : Program) (w : World) (K : PySem.W.Frag) (mg : Str → Option Value) (base : Heap) : Prop where
  c_Edit : Cls K (He.ga K "Edit")
  c_Live : Cls K (He.ga K "Live")
  d_MANY : KT K w mg "MANY" tab_MANY
  d_STATEMENTS : KT K w mg "STATEMENTS" tab_STATEMENTS
  x_NoHouse : PySem.W.excIn K (He.ga K "NoHouse") He.veBase "ValueError.__new__" = true ∧ mg "NoHouse" = some (.ref (He.ga K "NoHouse")) ∧ PySem.W.keepIn K (.ref (He.ga K "NoHouse")) = true ∧ ∀ X : Cx, X.K = K → Raises X (.ref (He.ga K "NoHouse"))
  x_NoInputs : PySem.W.excIn K (He.ga K "NoInputs") He.veBase "ValueError.__new__" = true ∧ mg "NoInputs" = some (.ref (He.ga K "NoInputs")) ∧ PySem.W.keepIn K (.ref (He.ga K "NoInputs")) = true ∧ ∀ X : Cx, X.K = K → Raises X (.ref (He.ga K "NoInputs"))
  x_NoPerson : PySem.W.excIn K (He.ga K "NoPerson") He.veBase "ValueError.__new__" = true ∧ mg "NoPerson" = some (.ref (He.ga K "NoPerson")) ∧ PySem.W.keepIn K (.ref (He.ga K "NoPerson")) = true ∧ ∀ X : Cx, X.K = K → Raises X (.ref (He.ga K "NoPerson"))
  x_NoSpot : PySem.W.excIn K (He.ga K "NoSpot") He.veBase "ValueError.__new__" = true ∧ mg "NoSpot" = some (.ref (He.ga K "NoSpot")) ∧ PySem.W.keepIn K (.ref (He.ga K "NoSpot")) = true ∧ ∀ X : Cx, X.K = K → Raises X (.ref (He.ga K "NoSpot"))
  x_NoWire : PySem.W.excIn K (He.ga K "NoWire") He.veBase "ValueError.__new__" = true ∧ mg "NoWire" = some (.ref (He.ga K "NoWire")) ∧ PySem.W.keepIn K (.ref (He.ga K "NoWire")) = true ∧ ∀ X : Cx, X.K = K → Raises X (.ref (He.ga K "NoWire"))
  g_BadLog : mg "BadLog" = some (.ref (He.ga K "BadLog"))
  g_HouseError : mg "HouseError" = some (.ref (He.ga K "HouseError"))
  g_NoHouse : mg "NoHouse" = some (.ref (He.ga K "NoHouse"))
  g_NoInputs : mg "NoInputs" = some (.ref (He.ga K "NoInputs"))
  g_NoPerson : mg "NoPerson" = some (.ref (He.ga K "NoPerson"))
  f_abs : mg "abs" = none
  f_all : mg "all" = none
  f_bool : mg "bool" = none
  f_enumerate : mg "enumerate" = none
  f_int : mg "int" = none
  f_isinstance : mg "isinstance" = none
  f_len : mg "len" = none
  f_list : mg "list" = none
  f_max : mg "max" = none
  f_min : mg "min" = none
  f_range : mg "range" = none
  f_sorted : mg "sorted" = none
  f_str : mg "str" = none
  f_sum : mg "sum" = none
  f_tuple : mg "tuple" = none
  f_zip : mg "zip" = none
  g_Edit : mg "Edit" = some (.ref (He.ga K "Edit"))
  g_Live : mg "Live" = some (.ref (He.ga K "Live"))
  g__law_draw : mg "_law_draw" = some (.ref (He.ga K "_law_draw"))
  g__law_expression : mg "_law_expression" = some (.ref (He.ga K "_law_expression"))
  g__law_hand : mg "_law_hand" = some (.ref (He.ga K "_law_hand"))
  g__law_house : mg "_law_house" = some (.ref (He.ga K "_law_house"))
  g__law_inputs : mg "_law_inputs" = some (.ref (He.ga K "_law_inputs"))
  g__law_kept : mg "_law_kept" = some (.ref (He.ga K "_law_kept"))
  g__law_local : mg "_law_local" = some (.ref (He.ga K "_law_local"))
  g__law_message : mg "_law_message" = some (.ref (He.ga K "_law_message"))
  g__law_mixed : mg "_law_mixed" = some (.ref (He.ga K "_law_mixed"))
  g__law_no_house : mg "_law_no_house" = some (.ref (He.ga K "_law_no_house"))
  g__law_no_inputs : mg "_law_no_inputs" = some (.ref (He.ga K "_law_no_inputs"))
  g__law_outcome : mg "_law_outcome" = some (.ref (He.ga K "_law_outcome"))
  g__law_roomed : mg "_law_roomed" = some (.ref (He.ga K "_law_roomed"))
  g__law_some : mg "_law_some" = some (.ref (He.ga K "_law_some"))
  g_are_inputs_of : mg "are_inputs_of" = some (.ref (He.ga K "are_inputs_of"))
  g_are_unlike : mg "are_unlike" = some (.ref (He.ga K "are_unlike"))
  g_block_weight : mg "block_weight" = some (.ref (He.ga K "block_weight"))
  g_blocks_in : mg "blocks_in" = some (.ref (He.ga K "blocks_in"))
  g_calls_of : mg "calls_of" = some (.ref (He.ga K "calls_of"))
  g_edited : mg "edited" = some (.ref (He.ga K "edited"))
  g_expressions_in : mg "expressions_in" = some (.ref (He.ga K "expressions_in"))
  g_fault_of : mg "fault_of" = some (.ref (He.ga K "fault_of"))
  g_from_log : mg "from_log" = some (.ref (He.ga K "from_log"))
  g_goes_on : mg "goes_on" = some (.ref (He.ga K "goes_on"))
  g_has_form : mg "has_form" = some (.ref (He.ga K "has_form"))
  g_help_order : mg "help_order" = some (.ref (He.ga K "help_order"))
  g_inner_of : mg "inner_of" = some (.ref (He.ga K "inner_of"))
  g_is_between : mg "is_between" = some (.ref (He.ga K "is_between"))
  g_is_block : mg "is_block" = some (.ref (He.ga K "is_block"))
  g_is_expression_of : mg "is_expression_of" = some (.ref (He.ga K "is_expression_of"))
  g_is_help : mg "is_help" = some (.ref (He.ga K "is_help"))
  g_is_house : mg "is_house" = some (.ref (He.ga K "is_house"))
  g_is_integer : mg "is_integer" = some (.ref (He.ga K "is_integer"))
  g_is_leaf_right : mg "is_leaf_right" = some (.ref (He.ga K "is_leaf_right"))
  g_is_name : mg "is_name" = some (.ref (He.ga K "is_name"))
  g_is_person : mg "is_person" = some (.ref (He.ga K "is_person"))
  g_is_statement : mg "is_statement" = some (.ref (He.ga K "is_statement"))
  g_is_wire : mg "is_wire" = some (.ref (He.ga K "is_wire"))
  g_law : mg "law" = some (.ref (He.ga K "law"))
  g_names_in : mg "names_in" = some (.ref (He.ga K "names_in"))
  g_need_house : mg "need_house" = some (.ref (He.ga K "need_house"))
  g_need_inputs : mg "need_inputs" = some (.ref (He.ga K "need_inputs"))
  g_need_person : mg "need_person" = some (.ref (He.ga K "need_person"))
  g_need_wire : mg "need_wire" = some (.ref (He.ga K "need_wire"))
  g_person_fault : mg "person_fault" = some (.ref (He.ga K "person_fault"))
  g_person_names : mg "person_names" = some (.ref (He.ga K "person_names"))
  g_person_weight : mg "person_weight" = some (.ref (He.ga K "person_weight"))
  g_spots : mg "spots" = some (.ref (He.ga K "spots"))
  g_statements_in : mg "statements_in" = some (.ref (He.ga K "statements_in"))
  g_whole_blocks : mg "whole_blocks" = some (.ref (He.ga K "whole_blocks"))
  g_wire_fault : mg "wire_fault" = some (.ref (He.ga K "wire_fault"))
  i_MOST_DEPTH : ∃ t, mg "MOST_DEPTH" = some (.int 8 t)
  i_MOST_INPUTS : ∃ t, mg "MOST_INPUTS" = some (.int 4 t)
  i_MOST_LONG : ∃ t, mg "MOST_LONG" = some (.int 60 t)
  i_MOST_MODULUS : ∃ t, mg "MOST_MODULUS" = some (.int 16 t)
  i_MOST_NESTED : ∃ t, mg "MOST_NESTED" = some (.int 6 t)
  i_MOST_PERSONS : ∃ t, mg "MOST_PERSONS" = some (.int 6 t)
  i_MOST_ROOM : ∃ t, mg "MOST_ROOM" = some (.int 9 t)
  i_MOST_WEIGHT : ∃ t, mg "MOST_WEIGHT" = some (.int 5000 t)
  i_MOST_WIRES : ∃ t, mg "MOST_WIRES" = some (.int 12 t)
  m_Edit_block : Meth K (He.ga K "Edit") "block" (He.ma K (He.ga K "Edit") "block")
  m_Edit_person : Meth K (He.ga K "Edit") "person" (He.ma K (He.ga K "Edit") "person")
  m_Live_behaviour : Meth K (He.ga K "Live") "behaviour" (He.ma K (He.ga K "Live") "behaviour")
  m_Live_done : Meth K (He.ga K "Live") "done" (He.ma K (He.ga K "Live") "done")
  m_Live_end : Meth K (He.ga K "Live") "end" (He.ma K (He.ga K "Live") "end")
  m_Live_now : Meth K (He.ga K "Live") "now" (He.ma K (He.ga K "Live") "now")
  k_Edit : Mk K (He.ga K "Edit") (He.ma K (He.ga K "Edit") "__init__")
  k_Live : Mk K (He.ga K "Live") (He.ma K (He.ga K "Live") "__init__")
  n_Edit_at : NoAttr K (He.ga K "Edit") "at"
  n_Edit_deed : NoAttr K (He.ga K "Edit") "deed"
  n_Edit_met : NoAttr K (He.ga K "Edit") "met"
  n_Edit_statement : NoAttr K (He.ga K "Edit") "statement"
  n_Live_books : NoAttr K (He.ga K "Live") "books"
  n_Live_deeds : NoAttr K (He.ga K "Live") "deeds"
  n_Live_houses : NoAttr K (He.ga K "Live") "houses"
  n_Live_undone : NoAttr K (He.ga K "Live") "undone"
  s_LETTERS : ∃ t, mg "LETTERS" = some (.str "abcdefghijklmnopqrstuvwxyz" t)
  t_SIGNS : ∃ p, mg "SIGNS" = some (.ref p) ∧ ∀ H, SqT K H p (tup_SIGNS.map V.str)
  t_WORDS : ∃ p, mg "WORDS" = some (.ref p) ∧ ∀ H, SqT K H p (tup_WORDS.map V.str)
  xf_BadLog : XfC K (He.ga K "BadLog")
  xn_BadLog_at : PySem.W.findIn K (.ref (He.ga K "BadLog")) "at" = some none
  xi_BadLog : XO P w K mg base "BadLog" "at" 1
  sub : ∀ c C b, subX c C = some b → PySem.W.exmOne K (.ref (He.ga K c)) (.ref (He.ga K C)) = some b
  d_is_integer : ∃ fd, FunD K "is_integer" "is_integer" (defArgs (top 17)) (defBody (top 17)) (defScope (top 17)) [] [] (He.fAd K ("is_integer", none)) fd
  d_is_between : ∃ fd, FunD K "is_between" "is_between" (defArgs (top 18)) (defBody (top 18)) (defScope (top 18)) [] [] (He.fAd K ("is_between", none)) fd
  d_is_name : ∃ fd, FunD K "is_name" "is_name" (defArgs (top 19)) (defBody (top 19)) (defScope (top 19)) [] [] (He.fAd K ("is_name", none)) fd
  d_inner_of : ∃ fd, FunD K "inner_of" "inner_of" (defArgs (top 20)) (defBody (top 20)) (defScope (top 20)) [] [] (He.fAd K ("inner_of", none)) fd
  d_is_leaf_right : ∃ fd, FunD K "is_leaf_right" "is_leaf_right" (defArgs (top 21)) (defBody (top 21)) (defScope (top 21)) [] [] (He.fAd K ("is_leaf_right", none)) fd
  d_is_expression_of : ∃ fd, FunD K "is_expression_of" "is_expression_of" (defArgs (top 22)) (defBody (top 22)) (defScope (top 22)) [] [] (He.fAd K ("is_expression_of", none)) fd
  d_names_in : ∃ fd, FunD K "names_in" "names_in" (defArgs (top 23)) (defBody (top 23)) (defScope (top 23)) [] [] (He.fAd K ("names_in", none)) fd
  d_are_unlike : ∃ fd, FunD K "are_unlike" "are_unlike" (defArgs (top 35)) (defBody (top 35)) (defScope (top 35)) [] [] (He.fAd K ("are_unlike", none)) fd
  d_is_wire : ∃ fd, FunD K "is_wire" "is_wire" (defArgs (top 36)) (defBody (top 36)) (defScope (top 36)) [] [] (He.fAd K ("is_wire", none)) fd
  d_blocks_in : ∃ fd, FunD K "blocks_in" "blocks_in" (defArgs (top 37)) (defBody (top 37)) (defScope (top 37)) [] [] (He.fAd K ("blocks_in", none)) fd
  d_is_statement : ∃ fd, FunD K "is_statement" "is_statement" (defArgs (top 38)) (defBody (top 38)) (defScope (top 38)) [] [] (He.fAd K ("is_statement", none)) fd
  d_is_block : ∃ fd, FunD K "is_block" "is_block" (defArgs (top 39)) (defBody (top 39)) (defScope (top 39)) [] [] (He.fAd K ("is_block", none)) fd
  d_is_help : ∃ fd, FunD K "is_help" "is_help" (defArgs (top 40)) (defBody (top 40)) (defScope (top 40)) [] [] (He.fAd K ("is_help", none)) fd
  d_is_person : ∃ fd, FunD K "is_person" "is_person" (defArgs (top 41)) (defBody (top 41)) (defScope (top 41)) [] [] (He.fAd K ("is_person", none)) fd
  d_has_form : ∃ fd, FunD K "has_form" "has_form" (defArgs (top 42)) (defBody (top 42)) (defScope (top 42)) [] [] (He.fAd K ("has_form", none)) fd
  d_statements_in : ∃ fd, FunD K "statements_in" "statements_in" (defArgs (top 43)) (defBody (top 43)) (defScope (top 43)) [] [] (He.fAd K ("statements_in", none)) fd
  d_whole_blocks : ∃ fd, FunD K "whole_blocks" "whole_blocks" (defArgs (top 44)) (defBody (top 44)) (defScope (top 44)) [] [] (He.fAd K ("whole_blocks", none)) fd
  d_calls_of : ∃ fd, FunD K "calls_of" "calls_of" (defArgs (top 45)) (defBody (top 45)) (defScope (top 45)) [] [] (He.fAd K ("calls_of", none)) fd
  d_help_order : ∃ fd, FunD K "help_order" "help_order" (defArgs (top 46)) (defBody (top 46)) (defScope (top 46)) [] [] (He.fAd K ("help_order", none)) fd
  d_block_weight : ∃ fd, FunD K "block_weight" "block_weight" (defArgs (top 47)) (defBody (top 47)) (defScope (top 47)) [] [] (He.fAd K ("block_weight", none)) fd
  d_person_weight : ∃ fd, FunD K "person_weight" "person_weight" (defArgs (top 48)) (defBody (top 48)) (defScope (top 48)) [] [] (He.fAd K ("person_weight", none)) fd
  d_wire_fault : ∃ fd, FunD K "wire_fault" "wire_fault" (defArgs (top 49)) (defBody (top 49)) (defScope (top 49)) [] [] (He.fAd K ("wire_fault", none)) fd
  d_expressions_in : ∃ fd, FunD K "expressions_in" "expressions_in" (defArgs (top 56)) (defBody (top 56)) (defScope (top 56)) [] [] (He.fAd K ("expressions_in", none)) fd
  d_person_names : ∃ fd, FunD K "person_names" "person_names" (defArgs (top 57)) (defBody (top 57)) (defScope (top 57)) [] [] (He.fAd K ("person_names", none)) fd
  d_person_fault : ∃ fd, FunD K "person_fault" "person_fault" (defArgs (top 50)) (defBody (top 50)) (defScope (top 50)) [] [] (He.fAd K ("person_fault", none)) fd
  d_fault_of : ∃ fd, FunD K "fault_of" "fault_of" (defArgs (top 51)) (defBody (top 51)) (defScope (top 51)) [] [] (He.fAd K ("fault_of", none)) fd
  d_is_house : ∃ fd, FunD K "is_house" "is_house" (defArgs (top 52)) (defBody (top 52)) (defScope (top 52)) [] [] (He.fAd K ("is_house", none)) fd
  d_need_house : ∃ fd, FunD K "need_house" "need_house" (defArgs (top 53)) (defBody (top 53)) (defScope (top 53)) [] [] (He.fAd K ("need_house", none)) fd
  d_need_person : ∃ fd, FunD K "need_person" "need_person" (defArgs (top 54)) (defBody (top 54)) (defScope (top 54)) [] [] (He.fAd K ("need_person", none)) fd
  d_need_wire : ∃ fd, FunD K "need_wire" "need_wire" (defArgs (top 55)) (defBody (top 55)) (defScope (top 55)) [] [] (He.fAd K ("need_wire", none)) fd
  d_are_inputs_of : ∃ fd, FunD K "are_inputs_of" "are_inputs_of" (defArgs (top 61)) (defBody (top 61)) (defScope (top 61)) [] [] (He.fAd K ("are_inputs_of", none)) fd
  d_need_inputs : ∃ fd, FunD K "need_inputs" "need_inputs" (defArgs (top 62)) (defBody (top 62)) (defScope (top 62)) [] [] (He.fAd K ("need_inputs", none)) fd
  d_spots : ∃ fd, FunD K "spots" "spots" (defArgs (top 79)) (defBody (top 79)) (defScope (top 79)) [] [] (He.fAd K ("spots", none)) fd
  d_Edit___init__ : ∃ fd, FunD K "__init__" "Edit.__init__" (defArgs (meth 80 0)) (defBody (meth 80 0)) (defScope (meth 80 0)) [] [] (He.fAd K ("Edit", some "__init__")) fd
  d_Edit_block : ∃ fd, FunD K "block" "Edit.block" (defArgs (meth 80 1)) (defBody (meth 80 1)) (defScope (meth 80 1)) [] [] (He.fAd K ("Edit", some "block")) fd
  d_Edit_person : ∃ fd, FunD K "person" "Edit.person" (defArgs (meth 80 2)) (defBody (meth 80 2)) (defScope (meth 80 2)) [] [] (He.fAd K ("Edit", some "person")) fd
  d_edited : ∃ fd, FunD K "edited" "edited" (defArgs (top 81)) (defBody (top 81)) (defScope (top 81)) [] [] (He.fAd K ("edited", none)) fd
  d_Live___init__ : ∃ fd, FunD K "__init__" "Live.__init__" (defArgs (meth 82 0)) (defBody (meth 82 0)) (defScope (meth 82 0)) [] [] (He.fAd K ("Live", some "__init__")) fd
  d_Live_done : ∃ fd, FunD K "done" "Live.done" (defArgs (meth 82 2)) (defBody (meth 82 2)) (defScope (meth 82 2)) [] [] (He.fAd K ("Live", some "done")) fd
  d_Live_now : ∃ fd, FunD K "now" "Live.now" (defArgs (meth 82 3)) (defBody (meth 82 3)) (defScope (meth 82 3)) [] [] (He.fAd K ("Live", some "now")) fd
  d_Live_end : ∃ fd, FunD K "end" "Live.end" (defArgs (meth 82 10)) (defBody (meth 82 10)) (defScope (meth 82 10)) [] [] (He.fAd K ("Live", some "end")) fd
  d_Live_behaviour : ∃ fd, FunD K "behaviour" "Live.behaviour" (defArgs (meth 82 11)) (defBody (meth 82 11)) (defScope (meth 82 11)) [] [] (He.fAd K ("Live", some "behaviour")) fd
  d_goes_on : ∃ fd, FunD K "goes_on" "goes_on" (defArgs (top 83)) (defBody (top 83)) (defScope (top 83)) [] [] (He.fAd K ("goes_on", none)) fd
  d_from_log : ∃ fd, FunD K "from_log" "from_log" (defArgs (top 84)) (defBody (top 84)) (defScope (top 84)) [] [] (He.fAd K ("from_log", none)) fd
  d__law_hand : ∃ fd, FunD K "_law_hand" "_law_hand" (defArgs (top 86)) (defBody (top 86)) (defScope (top 86)) [] [] (He.fAd K ("_law_hand", none)) fd
  d__law_draw : ∃ fd, FunD K "_law_draw" "_law_draw" (defArgs (top 87)) (defBody (top 87)) (defScope (top 87)) [] [] (He.fAd K ("_law_draw", none)) fd
  d__law_some : ∃ fd, FunD K "_law_some" "_law_some" (defArgs (top 88)) (defBody (top 88)) (defScope (top 88)) [] [] (He.fAd K ("_law_some", none)) fd
  d__law_kept : ∃ fd, FunD K "_law_kept" "_law_kept" (defArgs (top 89)) (defBody (top 89)) (defScope (top 89)) [] [] (He.fAd K ("_law_kept", none)) fd
  d__law_mixed : ∃ fd, FunD K "_law_mixed" "_law_mixed" (defArgs (top 90)) (defBody (top 90)) (defScope (top 90)) [] [] (He.fAd K ("_law_mixed", none)) fd
  d__law_expression : ∃ fd, FunD K "_law_expression" "_law_expression" (defArgs (top 91)) (defBody (top 91)) (defScope (top 91)) [] [] (He.fAd K ("_law_expression", none)) fd
  d__law_local : ∃ fd, FunD K "_law_local" "_law_local" (defArgs (top 92)) (defBody (top 92)) (defScope (top 92)) [] [] (He.fAd K ("_law_local", none)) fd
  d__law_message : ∃ fd, FunD K "_law_message" "_law_message" (defArgs (top 93)) (defBody (top 93)) (defScope (top 93)) [] [] (He.fAd K ("_law_message", none)) fd
  d__law_house : ∃ fd, FunD K "_law_house" "_law_house" (defArgs (top 94)) (defBody (top 94)) (defScope (top 94)) [] [] (He.fAd K ("_law_house", none)) fd
  d__law_inputs : ∃ fd, FunD K "_law_inputs" "_law_inputs" (defArgs (top 95)) (defBody (top 95)) (defScope (top 95)) [] [] (He.fAd K ("_law_inputs", none)) fd
  d__law_roomed : ∃ fd, FunD K "_law_roomed" "_law_roomed" (defArgs (top 96)) (defBody (top 96)) (defScope (top 96)) [] [] (He.fAd K ("_law_roomed", none)) fd
  d__law_no_house : ∃ fd, FunD K "_law_no_house" "_law_no_house" (defArgs (top 97)) (defBody (top 97)) (defScope (top 97)) [] [] (He.fAd K ("_law_no_house", none)) fd
  d__law_no_inputs : ∃ fd, FunD K "_law_no_inputs" "_law_no_inputs" (defArgs (top 98)) (defBody (top 98)) (defScope (top 98)) [] [] (He.fAd K ("_law_no_inputs", none)) fd
  d__law_outcome : ∃ fd, FunD K "_law_outcome" "_law_outcome" (defArgs (top 99)) (defBody (top 99)) (defScope (top 99)) [] [] (He.fAd K ("_law_outcome", none)) fd
  d_law : ∃ fd, FunD K "law" "law" (defArgs (top 100)) (defBody (top 100)) (defScope (top 100)) [] [] (He.fAd K ("law", none)) fd
end Z

set_option Elab.async false
set_option linter.all false
set_option maxRecDepth 100000
set_option maxHeartbeats 0
namespace Z
open PySem PySem.Spec PyProof.Rows L2 Y
def N_is_integer : List Str := ["thing"]
def b_is_integer : Es :=
    (sRet (eAnd (e1 (isiO "int") (eVar 0)) (eNot (e1 (isiO "bool") (eVar 0)))))
def F_is_integer : Fd := funOf 1 b_is_integer
def N_is_between : List Str := ["thing", "least", "greatest"]
def b_is_between : Es :=
    (sRet (eAnd (eFn 1 F_is_integer (aCons (eVar 0) aNil)) (eChain leO leO (eVar 1) (eVar 0) (eVar 2))))
def F_is_between : Fd := funOf 3 b_is_between
def N_is_name : List Str := ["thing", "letter"]
def b_is_name : Es :=
    (sSeq (sIf (tOr' (tNot' (asB (e1 (isiO "str") (eVar 0)))) (tOr' (tNot' (asB (eChain leO leO (eC (.int 1)) (eCall lenO (aCons (eVar 0) aNil)) (eC (.int 8))))) (asB (e2 inO (eVar 0) (eC (.tup (tup_WORDS.map D.str)))))))
    (sRet (eC (.bl false)))
    sNil)
    (sRet (eCall allO (aCons (eLc (iSeq (eVar 0)) (gNm 1) tYes' (e2 inO (eVar 1) (eC (.str "abcdefghijklmnopqrstuvwxyz"))) [1]) aNil))))
def F_is_name : Fd := funOf 2 b_is_name
def N_inner_of : List Str := ["thing"]
def b_inner_of : Es :=
    (sSeq (sIf (tOr' (tNot' (asB (e1 (isiO "tuple") (eVar 0)))) (tOr' (asB (e2 ltO (eCall lenO (aCons (eVar 0) aNil)) (eC (.int 2)))) (tNot' (asB (e1 (isiO "str") (e2 ixO (eVar 0) (eC (.int 0))))))))
    (sRet (eC .non))
    sNil)
    (sSeq (sIf (asB (e2 inO (e2 ixO (eVar 0) (eC (.int 0))) (eTup 2 (aCons (eC (.str "number")) (aCons (eC (.str "name")) aNil)))))
    (sRet (eIf (asB (e2 eqO (eCall lenO (aCons (eVar 0) aNil)) (eC (.int 2)))) (eLst aNil) (eC .non)))
    sNil)
    (sSeq (sIf (asB (e2 eqO (e2 ixO (eVar 0) (eC (.int 0))) (eC (.str "not"))))
    (sRet (eIf (asB (e2 eqO (eCall lenO (aCons (eVar 0) aNil)) (eC (.int 2)))) (eLst (aCons (e2 ixO (eVar 0) (eC (.int 1))) aNil)) (eC .non)))
    sNil)
    (sRet (eIf (tAnd' (asB (e2 inO (e2 ixO (eVar 0) (eC (.int 0))) (eC (.tup (tup_SIGNS.map D.str))))) (asB (e2 eqO (eCall lenO (aCons (eVar 0) aNil)) (eC (.int 3))))) (eLst (aCons (e2 ixO (eVar 0) (eC (.int 1))) (aCons (e2 ixO (eVar 0) (eC (.int 2))) aNil))) (eC .non))))))
def F_inner_of : Fd := funOf 1 b_inner_of
def N_is_leaf_right : List Str := ["thing", "modulus"]
def b_is_leaf_right : Es :=
    (sSeq (sIf (asB (e2 eqO (e2 ixO (eVar 0) (eC (.int 0))) (eC (.str "number"))))
    (sRet (eFn 3 F_is_between (aCons (e2 ixO (eVar 0) (eC (.int 1))) (aCons (eC (.int 0)) (aCons (e2 subO (eVar 1) (eC (.int 1))) aNil)))))
    sNil)
    (sRet (eOr (e2 neO (e2 ixO (eVar 0) (eC (.int 0))) (eC (.str "name"))) (eFn 1 F_is_name (aCons (e2 ixO (eVar 0) (eC (.int 1))) aNil)))))
def F_is_leaf_right : Fd := funOf 2 b_is_leaf_right
def N_is_expression_of : List Str := ["modulus", "thing", "row", "_", "further", "here", "inner"]
def b_is_expression_of : Es :=
    (sSeq (sSet 2 (eLst (aCons (eVar 1) aNil)))
    (sSeq (sFor (iOf (fun ds _ => rngIt1 ds) (aCons (eC (.int 8)) aNil)) (gNm 3)
    (sSeq (sSet 4 (eLst aNil))
    (sSeq (sFor (iSeq (eVar 2)) (gNm 5)
    (sSeq (sSet 6 (eFn 1 F_inner_of (aCons (eVar 5) aNil)))
    (sSeq (sIf (tOr' (asB (e2 isNO (eVar 6) (eC .non))) (tNot' (asB (eFn 2 F_is_leaf_right (aCons (eVar 5) (aCons (eVar 0) aNil))))))
    (sRet (eC (.bl false)))
    sNil)
    (sExp (eMeth extO (eVar 4) (aCons (eVar 6) aNil))))))
    (sSet 2 (eVar 4)))))
    (sRet (e2 eqO (eCall lenO (aCons (eVar 2) aNil)) (eC (.int 0))))))
def F_is_expression_of : Fd := funOf 7 b_is_expression_of
def N_names_in : List Str := ["expression", "found", "waiting", "here"]
def b_names_in : Es :=
    (sSeq (sSet 1 (eLst aNil))
    (sSeq (sSet 2 (eLst (aCons (eVar 0) aNil)))
    (sSeq (sWhile (asB (e2 gtO (eCall lenO (aCons (eVar 2) aNil)) (eC (.int 0))))
    (sSeq (sSet 3 (eMeth popO (eVar 2) aNil))
    (sIf (asB (e2 eqO (e2 ixO (eVar 3) (eC (.int 0))) (eC (.str "name"))))
    (sIf (asB (e2 ninO (e2 ixO (eVar 3) (eC (.int 1))) (eVar 1)))
    (sExp (eMeth appO (eVar 1) (aCons (e2 ixO (eVar 3) (eC (.int 1))) aNil)))
    sNil)
    (sIf (asB (e2 neO (e2 ixO (eVar 3) (eC (.int 0))) (eC (.str "number"))))
    (sExp (eMeth extO (eVar 2) (aCons (e1 revO (eSl (eVar 3) (pSome (eC (.int 1))) pNone)) aNil)))
    sNil))))
    (sRet (eVar 1)))))
def F_names_in : Fd := funOf 4 b_names_in
def N_are_unlike : List Str := ["items", "item"]
def b_are_unlike : Es :=
    (sRet (e2 eqO (eCall lenO (aCons (eDc (iSeq (eVar 0)) (gNm 1) tYes' (eVar 1) (eC (.bl true)) [1]) aNil)) (eCall lenO (aCons (eVar 0) aNil))))
def F_are_unlike : Fd := funOf 2 b_are_unlike
def N_is_wire : List Str := ["thing", "many"]
def b_is_wire : Es :=
    (sSeq (sIf (tOr' (tNot' (asB (e1 (isiO "tuple") (eVar 0)))) (tOr' (asB (e2 neO (eCall lenO (aCons (eVar 0) aNil)) (eC (.int 4)))) (tNot' (asB (eFn 1 F_is_name (aCons (e2 ixO (eVar 0) (eC (.int 0))) aNil))))))
    (sRet (eC (.bl false)))
    sNil)
    (sSeq (sIf (tOr' (tNot' (asB (eFn 3 F_is_between (aCons (e2 ixO (eVar 0) (eC (.int 1))) (aCons (eC (.int 0)) (aCons (e2 subO (eVar 1) (eC (.int 1))) aNil)))))) (tOr' (tNot' (asB (eFn 3 F_is_between (aCons (e2 ixO (eVar 0) (eC (.int 2))) (aCons (eC (.int 0)) (aCons (e2 subO (eVar 1) (eC (.int 1))) aNil)))))) (asB (e2 eqO (e2 ixO (eVar 0) (eC (.int 1))) (e2 ixO (eVar 0) (eC (.int 2)))))))
    (sRet (eC (.bl false)))
    sNil)
    (sRet (eFn 3 F_is_between (aCons (e2 ixO (eVar 0) (eC (.int 3))) (aCons (eC (.int 0)) (aCons (eC (.int 9)) aNil)))))))
def F_is_wire : Fd := funOf 2 b_is_wire
def N_blocks_in : List Str := ["statement"]
def b_blocks_in : Es :=
    (sSeq (sIf (asB (e2 eqO (e2 ixO (eVar 0) (eC (.int 0))) (eC (.str "if"))))
    (sRet (eLst (aCons (e2 ixO (eVar 0) (eC (.int 2))) (aCons (e2 ixO (eVar 0) (eC (.int 3))) aNil))))
    sNil)
    (sRet (eIf (asB (e2 eqO (e2 ixO (eVar 0) (eC (.int 0))) (eC (.str "rounds")))) (eLst (aCons (e2 ixO (eVar 0) (eC (.int 2))) aNil)) (eLst aNil))))
def F_blocks_in : Fd := funOf 1 b_blocks_in
def N_is_statement : List Str := ["thing", "modulus", "wires", "helps"]
def b_is_statement : Es :=
    (sSeq (sIf (tOr' (tNot' (asB (e1 (isiO "tuple") (eVar 0)))) (tOr' (asB (e2 eqO (eCall lenO (aCons (eVar 0) aNil)) (eC (.int 0)))) (tNot' (asB (e1 (isiO "str") (e2 ixO (eVar 0) (eC (.int 0))))))))
    (sRet (eC (.bl false)))
    sNil)
    (sSeq (sIf (tOr' (asB (e1 (kninO tab_STATEMENTS) (e2 ixO (eVar 0) (eC (.int 0))))) (asB (e2 neO (eCall lenO (aCons (eVar 0) aNil)) (e1 (kgetO tab_STATEMENTS) (e2 ixO (eVar 0) (eC (.int 0)))))))
    (sRet (eC (.bl false)))
    sNil)
    (sSeq (sIf (asB (e2 eqO (e2 ixO (eVar 0) (eC (.int 0))) (eC (.str "do"))))
    (sRet (eFn 3 F_is_between (aCons (e2 ixO (eVar 0) (eC (.int 1))) (aCons (eC (.int 0)) (aCons (e2 subO (eVar 3) (eC (.int 1))) aNil)))))
    sNil)
    (sSeq (sIf (tAnd' (asB (e2 inO (e2 ixO (eVar 0) (eC (.int 0))) (eTup 2 (aCons (eC (.str "send")) (aCons (eC (.str "take")) aNil))))) (tNot' (asB (eFn 3 F_is_between (aCons (e2 ixO (eVar 0) (eC (.int 1))) (aCons (eC (.int 0)) (aCons (e2 subO (eVar 2) (eC (.int 1))) aNil)))))))
    (sRet (eC (.bl false)))
    sNil)
    (sSeq (sIf (asB (e2 eqO (e2 ixO (eVar 0) (eC (.int 0))) (eC (.str "take"))))
    (sRet (eFn 1 F_is_name (aCons (e2 ixO (eVar 0) (eC (.int 2))) aNil)))
    sNil)
    (sSeq (sIf (tAnd' (asB (e2 eqO (e2 ixO (eVar 0) (eC (.int 0))) (eC (.str "set")))) (tNot' (asB (eFn 1 F_is_name (aCons (e2 ixO (eVar 0) (eC (.int 1))) aNil)))))
    (sRet (eC (.bl false)))
    sNil)
    (sRet (eFn 2 F_is_expression_of (aCons (eVar 1) (aCons (eIf (asB (e2 inO (e2 ixO (eVar 0) (eC (.int 0))) (eTup 2 (aCons (eC (.str "set")) (aCons (eC (.str "send")) aNil))))) (e2 ixO (eVar 0) (eC (.int 2))) (e2 ixO (eVar 0) (eC (.int 1)))) aNil))))))))))
def F_is_statement : Fd := funOf 4 b_is_statement
def N_is_block : List Str := ["thing", "modulus", "wires", "helps", "row", "_", "further", "block", "here", "inner"]
def b_is_block : Es :=
    (sSeq (sSet 4 (eLst (aCons (eVar 0) aNil)))
    (sSeq (sFor (iOf (fun ds _ => rngIt1 ds) (aCons (eC (.int 6)) aNil)) (gNm 5)
    (sSeq (sSet 6 (eLst aNil))
    (sSeq (sFor (iSeq (eVar 4)) (gNm 7)
    (sSeq (sIf (tOr' (tNot' (asB (e1 (isiO "tuple") (eVar 7)))) (asB (e2 gtO (eCall lenO (aCons (eVar 7) aNil)) (eC (.int 60)))))
    (sRet (eC (.bl false)))
    sNil)
    (sSeq (sIf (tNot' (asB (eCall allO (aCons (eLc (iSeq (eVar 7)) (gNm 8) tYes' (eFn 4 F_is_statement (aCons (eVar 8) (aCons (eVar 1) (aCons (eVar 2) (aCons (eVar 3) aNil))))) [8]) aNil))))
    (sRet (eC (.bl false)))
    sNil)
    (sExp (eMeth extO (eVar 6) (aCons (eLc2 (iSeq (eVar 7)) (gNm 8) tYes' (iSeq (eFn 1 F_blocks_in (aCons (eVar 8) aNil))) (gNm 9) tYes' (eVar 9) [8, 9] [9]) aNil))))))
    (sSet 4 (eVar 6)))))
    (sRet (e2 eqO (eCall lenO (aCons (eVar 4) aNil)) (eC (.int 0))))))
def F_is_block : Fd := funOf 10 b_is_block
def N_is_help : List Str := ["thing", "modulus", "wires", "helps"]
def b_is_help : Es :=
    (sSeq (sIf (tOr' (tNot' (asB (e1 (isiO "tuple") (eVar 0)))) (tOr' (asB (e2 neO (eCall lenO (aCons (eVar 0) aNil)) (eC (.int 2)))) (tNot' (asB (eFn 1 F_is_name (aCons (e2 ixO (eVar 0) (eC (.int 0))) aNil))))))
    (sRet (eC (.bl false)))
    sNil)
    (sRet (eFn 4 F_is_block (aCons (e2 ixO (eVar 0) (eC (.int 1))) (aCons (eVar 1) (aCons (eVar 2) (aCons (eVar 3) aNil)))))))
def F_is_help : Fd := funOf 4 b_is_help
def N_is_person : List Str := ["thing", "modulus", "wires", "inputs", "helps", "name", "help_told"]
def b_is_person : Es :=
    (sSeq (sIf (tOr' (tNot' (asB (e1 (isiO "tuple") (eVar 0)))) (tOr' (asB (e2 neO (eCall lenO (aCons (eVar 0) aNil)) (eC (.int 4)))) (tNot' (asB (eFn 1 F_is_name (aCons (e2 ixO (eVar 0) (eC (.int 0))) aNil))))))
    (sRet (eC (.bl false)))
    sNil)
    (sSeq (sAsg (eTup 2 (aCons (e2 ixO (eVar 0) (eC (.int 1))) (aCons (e2 ixO (eVar 0) (eC (.int 2))) aNil))) (gTp 2 (gConss (gNm 3) (gConss (gNm 4) gNils))))
    (sSeq (sIf (tOr' (tNot' (asB (e1 (isiO "tuple") (eVar 3)))) (tOr' (asB (e2 gtO (eCall lenO (aCons (eVar 3) aNil)) (eC (.int 4)))) (tNot' (asB (eCall allO (aCons (eLc (iSeq (eVar 3)) (gNm 5) tYes' (eFn 1 F_is_name (aCons (eVar 5) aNil)) [5]) aNil))))))
    (sRet (eC (.bl false)))
    sNil)
    (sSeq (sIf (tOr' (tNot' (asB (e1 (isiO "tuple") (eVar 4)))) (asB (e2 gtO (eCall lenO (aCons (eVar 4) aNil)) (eC (.int 6)))))
    (sRet (eC (.bl false)))
    sNil)
    (sSeq (sIf (tNot' (asB (eCall allO (aCons (eLc (iSeq (eVar 4)) (gNm 6) tYes' (eFn 4 F_is_help (aCons (eVar 6) (aCons (eVar 1) (aCons (eVar 2) (aCons (eCall lenO (aCons (eVar 4) aNil)) aNil))))) [6]) aNil))))
    (sRet (eC (.bl false)))
    sNil)
    (sRet (eFn 4 F_is_block (aCons (e2 ixO (eVar 0) (eC (.int 3))) (aCons (eVar 1) (aCons (eVar 2) (aCons (eCall lenO (aCons (eVar 4) aNil)) aNil)))))))))))
def F_is_person : Fd := funOf 7 b_is_person
def N_has_form : List Str := ["thing", "modulus", "wires", "persons", "wire", "person"]
def b_has_form : Es :=
    (sSeq (sIf (tOr' (tNot' (asB (e1 (isiO "tuple") (eVar 0)))) (tOr' (asB (e2 neO (eCall lenO (aCons (eVar 0) aNil)) (eC (.int 3)))) (tNot' (asB (eFn 3 F_is_between (aCons (e2 ixO (eVar 0) (eC (.int 0))) (aCons (eC (.int 2)) (aCons (eC (.int 16)) aNil))))))))
    (sRet (eC (.bl false)))
    sNil)
    (sSeq (sAsg (eVar 0) (gTp 3 (gConss (gNm 1) (gConss (gNm 2) (gConss (gNm 3) gNils)))))
    (sSeq (sIf (tOr' (tNot' (asB (e1 (isiO "tuple") (eVar 3)))) (tNot' (asB (eChain leO leO (eC (.int 1)) (eCall lenO (aCons (eVar 3) aNil)) (eC (.int 6))))))
    (sRet (eC (.bl false)))
    sNil)
    (sSeq (sIf (tOr' (tNot' (asB (e1 (isiO "tuple") (eVar 2)))) (asB (e2 gtO (eCall lenO (aCons (eVar 2) aNil)) (eC (.int 12)))))
    (sRet (eC (.bl false)))
    sNil)
    (sSeq (sIf (tNot' (asB (eCall allO (aCons (eLc (iSeq (eVar 2)) (gNm 4) tYes' (eFn 2 F_is_wire (aCons (eVar 4) (aCons (eCall lenO (aCons (eVar 3) aNil)) aNil))) [4]) aNil))))
    (sRet (eC (.bl false)))
    sNil)
    (sRet (eCall allO (aCons (eLc (iSeq (eVar 3)) (gNm 5) tYes' (eFn 3 F_is_person (aCons (eVar 5) (aCons (eVar 1) (aCons (eCall lenO (aCons (eVar 2) aNil)) aNil)))) [5]) aNil))))))))
def F_has_form : Fd := funOf 6 b_has_form
def N_statements_in : List Str := ["block", "found", "waiting", "here", "inner"]
def b_statements_in : Es :=
    (sSeq (sSet 1 (eLst aNil))
    (sSeq (sSet 2 (eCall lstO (aCons (e1 revO (eVar 0)) aNil)))
    (sSeq (sWhile (asB (e2 gtO (eCall lenO (aCons (eVar 2) aNil)) (eC (.int 0))))
    (sSeq (sSet 3 (eMeth popO (eVar 2) aNil))
    (sSeq (sExp (eMeth appO (eVar 1) (aCons (eVar 3) aNil)))
    (sFor (iSeq (e1 revO (eFn 1 F_blocks_in (aCons (eVar 3) aNil)))) (gNm 4)
    (sExp (eMeth extO (eVar 2) (aCons (e1 revO (eVar 4)) aNil)))))))
    (sRet (eVar 1)))))
def F_statements_in : Fd := funOf 5 b_statements_in
def N_whole_blocks : List Str := ["person", "help_told"]
def b_whole_blocks : Es :=
    (sRet (e2 addO (eLc (iSeq (e2 ixO (eVar 0) (eC (.int 2)))) (gNm 1) tYes' (e2 ixO (eVar 1) (eC (.int 1))) [1]) (eLst (aCons (e2 ixO (eVar 0) (eC (.int 3))) aNil))))
def F_whole_blocks : Fd := funOf 2 b_whole_blocks
def N_calls_of : List Str := ["block", "here"]
def b_calls_of : Es :=
    (sRet (eCall sortedO (aCons (eDc (iSeq (eFn 1 F_statements_in (aCons (eVar 0) aNil))) (gNm 1) (asB (e2 eqO (e2 ixO (eVar 1) (eC (.int 0))) (eC (.str "do")))) (e2 ixO (eVar 1) (eC (.int 1))) (eC (.bl true)) [1]) aNil)))
def F_calls_of : Fd := funOf 2 b_calls_of
def N_help_order : List Str := ["person", "calls", "order", "_", "free", "help_told", "inner", "at"]
def b_help_order : Es :=
    (sSeq (sSet 1 (eLc (iSeq (e2 ixO (eVar 0) (eC (.int 2)))) (gNm 5) tYes' (eFn 1 F_calls_of (aCons (e2 ixO (eVar 5) (eC (.int 1))) aNil)) [5]))
    (sSeq (sSet 2 (eLst aNil))
    (sSeq (sFor (iSeq (eVar 1)) (gNm 3)
    (sSeq (sSet 4 (eLc (iOf (fun ds _ => rngIt1 ds) (aCons (eCall lenO (aCons (eVar 1) aNil)) aNil)) (gNm 7) (tAnd' (asB (e2 ninO (eVar 7) (eVar 2))) (asB (eCall allO (aCons (eLc (iSeq (e2 ixO (eVar 1) (eVar 7))) (gNm 6) tYes' (e2 inO (eVar 6) (eVar 2)) [6]) aNil)))) (eVar 7) [7]))
    (sSeq (sIf (asB (e2 eqO (eCall lenO (aCons (eVar 4) aNil)) (eC (.int 0))))
    (sRet (eC .non))
    sNil)
    (sExp (eMeth appO (eVar 2) (aCons (e2 ixO (eVar 4) (eC (.int 0))) aNil))))))
    (sRet (eVar 2)))))
def F_help_order : Fd := funOf 8 b_help_order
def N_block_weight : List Str := ["block", "modulus", "helps", "total", "here", "inner"]
def b_block_weight (F : Fd) : Es :=
    (sSeq (sSet 3 (eC (.int 0)))
    (sSeq (sFor (iSeq (eVar 0)) (gNm 4)
    (sSeq (sAug 3 (eC (.int 1)))
    (sIf (asB (e2 eqO (e2 ixO (eVar 4) (eC (.int 0))) (eC (.str "do"))))
    (sAug 3 (e2 dgetO (eVar 2) (e2 ixO (eVar 4) (eC (.int 1)))))
    (sIf (asB (e2 eqO (e2 ixO (eVar 4) (eC (.int 0))) (eC (.str "if"))))
    (sAug 3 (eCall maxO (aCons (eLc (iSeq (eFn 1 F_blocks_in (aCons (eVar 4) aNil))) (gNm 5) tYes' (eFn 3 (F) (aCons (eVar 5) (aCons (eVar 1) (aCons (eVar 2) aNil)))) [5]) aNil)))
    (sIf (asB (e2 eqO (e2 ixO (eVar 4) (eC (.int 0))) (eC (.str "rounds"))))
    (sAug 3 (e2 mulO (e2 subO (eVar 1) (eC (.int 1))) (eFn 3 (F) (aCons (e2 ixO (eVar 4) (eC (.int 2))) (aCons (eVar 1) (aCons (eVar 2) aNil))))))
    sNil)))))
    (sRet (eVar 3))))
def F_block_weight : Nat → Fd
  | 0 => fun _ _ => .bad
  | n + 1 => funOf 6 (b_block_weight (F_block_weight n))
def N_person_weight : List Str := ["person", "modulus", "helps", "at"]
def b_person_weight : Es :=
    (sSeq (sSet 2 eDnew)
    (sSeq (sFor (iSeq (eFn 1 F_help_order (aCons (eVar 0) aNil))) (gNm 3)
    (sDput (eFn 3 (F_block_weight 20) (aCons (e2 ixO (e2 ixO (e2 ixO (eVar 0) (eC (.int 2))) (eVar 3)) (eC (.int 1))) (aCons (eVar 1) (aCons (eVar 2) aNil)))) (eVar 2) (eVar 3)))
    (sRet (eFn 3 (F_block_weight 20) (aCons (e2 ixO (eVar 0) (eC (.int 3))) (aCons (eVar 1) (aCons (eVar 2) aNil)))))))
def F_person_weight : Fd := funOf 4 b_person_weight
def N_wire_fault : List Str := ["wires", "at", "person", "block", "here"]
def b_wire_fault : Es :=
    (sSeq (sFor (iSeq (eFn 1 F_whole_blocks (aCons (eVar 2) aNil))) (gNm 3)
    (sFor (iSeq (eFn 1 F_statements_in (aCons (eVar 3) aNil))) (gNm 4)
    (sSeq (sIf (tAnd' (asB (e2 eqO (e2 ixO (eVar 4) (eC (.int 0))) (eC (.str "send")))) (asB (e2 neO (e2 ixO (e2 ixO (eVar 0) (e2 ixO (eVar 4) (eC (.int 1)))) (eC (.int 1))) (eVar 1))))
    (sRet (eTup 3 (aCons (eC (.str "sends")) (aCons (eVar 1) (aCons (e2 ixO (eVar 4) (eC (.int 1))) aNil)))))
    sNil)
    (sIf (tAnd' (asB (e2 eqO (e2 ixO (eVar 4) (eC (.int 0))) (eC (.str "take")))) (asB (e2 neO (e2 ixO (e2 ixO (eVar 0) (e2 ixO (eVar 4) (eC (.int 1)))) (eC (.int 2))) (eVar 1))))
    (sRet (eTup 3 (aCons (eC (.str "takes")) (aCons (eVar 1) (aCons (e2 ixO (eVar 4) (eC (.int 1))) aNil)))))
    sNil))))
    (sRet (eC .non)))
def F_wire_fault : Fd := funOf 5 b_wire_fault
def N_expressions_in : List Str := ["block", "found", "here"]
def b_expressions_in : Es :=
    (sSeq (sSet 1 (eLst aNil))
    (sSeq (sFor (iSeq (eFn 1 F_statements_in (aCons (eVar 0) aNil))) (gNm 2)
    (sIf (asB (e2 inO (e2 ixO (eVar 2) (eC (.int 0))) (eTup 2 (aCons (eC (.str "set")) (aCons (eC (.str "send")) aNil)))))
    (sExp (eMeth appO (eVar 1) (aCons (e2 ixO (eVar 2) (eC (.int 2))) aNil)))
    (sIf (asB (e2 inO (e2 ixO (eVar 2) (eC (.int 0))) (eTup 3 (aCons (eC (.str "say")) (aCons (eC (.str "if")) (aCons (eC (.str "rounds")) aNil))))))
    (sExp (eMeth appO (eVar 1) (aCons (e2 ixO (eVar 2) (eC (.int 1))) aNil)))
    sNil)))
    (sRet (eVar 1))))
def F_expressions_in : Fd := funOf 3 b_expressions_in
def N_person_names : List Str := ["person", "others", "block", "here", "expression", "name"]
def b_person_names : Es :=
    (sSeq (sSet 1 eDnew)
    (sSeq (sFor (iSeq (eFn 1 F_whole_blocks (aCons (eVar 0) aNil))) (gNm 2)
    (sSeq (sFor (iSeq (eFn 1 F_statements_in (aCons (eVar 2) aNil))) (gNm 3)
    (sIf (asB (e2 eqO (e2 ixO (eVar 3) (eC (.int 0))) (eC (.str "set"))))
    (sDput (eC (.bl true)) (eVar 1) (e2 ixO (eVar 3) (eC (.int 1))))
    (sIf (asB (e2 eqO (e2 ixO (eVar 3) (eC (.int 0))) (eC (.str "take"))))
    (sDput (eC (.bl true)) (eVar 1) (e2 ixO (eVar 3) (eC (.int 2))))
    sNil)))
    (sFor (iSeq (eFn 1 F_expressions_in (aCons (eVar 2) aNil))) (gNm 4)
    (sFor (iSeq (eFn 1 F_names_in (aCons (eVar 4) aNil))) (gNm 5)
    (sDput (eC (.bl true)) (eVar 1) (eVar 5))))))
    (sRet (e2 addO (eCall lstO (aCons (e2 ixO (eVar 0) (eC (.int 1))) aNil)) (eCall sortedO (aCons (eLcK 1 (gNm 5) (asB (e2 ninO (eVar 5) (e2 ixO (eVar 0) (eC (.int 1))))) (eVar 5) [5]) aNil))))))
def F_person_names : Fd := funOf 6 b_person_names
def N_person_fault : List Str := ["house", "at", "modulus", "wires", "persons", "person", "fault", "help_told"]
def b_person_fault : Es :=
    (sSeq (sAsg (eVar 0) (gTp 3 (gConss (gNm 2) (gConss (gNm 3) (gConss (gNm 4) gNils)))))
    (sSeq (sSet 5 (e2 ixO (eVar 4) (eVar 1)))
    (sSeq (sIf (tNot' (asB (eFn 1 F_are_unlike (aCons (e2 ixO (eVar 5) (eC (.int 1))) aNil))))
    (sRet (eTup 2 (aCons (eC (.str "inputs")) (aCons (eVar 1) aNil))))
    sNil)
    (sSeq (sIf (tNot' (asB (eFn 1 F_are_unlike (aCons (eLc (iSeq (e2 ixO (eVar 5) (eC (.int 2)))) (gNm 7) tYes' (e2 ixO (eVar 7) (eC (.int 0))) [7]) aNil))))
    (sRet (eTup 2 (aCons (eC (.str "helps")) (aCons (eVar 1) aNil))))
    sNil)
    (sSeq (sIf (asB (e2 isNO (eFn 1 F_help_order (aCons (eVar 5) aNil)) (eC .non)))
    (sRet (eTup 2 (aCons (eC (.str "round")) (aCons (eVar 1) aNil))))
    sNil)
    (sSeq (sSet 6 (eFn 3 F_wire_fault (aCons (eVar 3) (aCons (eVar 1) (aCons (eVar 5) aNil)))))
    (sSeq (sIf (asB (e2 notNO (eVar 6) (eC .non)))
    (sRet (eVar 6))
    sNil)
    (sSeq (sIf (asB (e2 gtO (eCall lenO (aCons (eFn 1 F_person_names (aCons (eVar 5) aNil)) aNil)) (eC (.int 60))))
    (sRet (eTup 2 (aCons (eC (.str "names")) (aCons (eVar 1) aNil))))
    sNil)
    (sRet (eIf (asB (e2 gtO (eFn 2 F_person_weight (aCons (eVar 5) (aCons (eVar 2) aNil))) (eC (.int 5000)))) (eTup 2 (aCons (eC (.str "weight")) (aCons (eVar 1) aNil))) (eC .non)))))))))))
def F_person_fault : Fd := funOf 8 b_person_fault
def N_fault_of : List Str := ["thing", "_", "wires", "persons", "at", "fault", "wire", "person"]
def b_fault_of : Es :=
    (sSeq (sAsg (eVar 0) (gTp 3 (gConss (gNm 1) (gConss (gNm 2) (gConss (gNm 3) gNils)))))
    (sSeq (sIf (tNot' (asB (eFn 1 F_are_unlike (aCons (eLc (iSeq (eVar 2)) (gNm 6) tYes' (e2 ixO (eVar 6) (eC (.int 0))) [6]) aNil))))
    (sRet (eTup 1 (aCons (eC (.str "wires")) aNil)))
    sNil)
    (sSeq (sIf (tNot' (asB (eFn 1 F_are_unlike (aCons (eLc (iSeq (eVar 3)) (gNm 7) tYes' (e2 ixO (eVar 7) (eC (.int 0))) [7]) aNil))))
    (sRet (eTup 1 (aCons (eC (.str "persons")) aNil)))
    sNil)
    (sSeq (sFor (iOf (fun ds _ => rngIt1 ds) (aCons (eCall lenO (aCons (eVar 3) aNil)) aNil)) (gNm 4)
    (sSeq (sSet 5 (eFn 2 F_person_fault (aCons (eVar 0) (aCons (eVar 4) aNil))))
    (sIf (asB (e2 notNO (eVar 5) (eC .non)))
    (sRet (eVar 5))
    sNil)))
    (sRet (eC .non))))))
def F_fault_of : Fd := funOf 8 b_fault_of
def N_is_house : List Str := ["thing"]
def b_is_house : Es :=
    (sRet (eAnd (eFn 1 F_has_form (aCons (eVar 0) aNil)) (e2 isNO (eFn 1 F_fault_of (aCons (eVar 0) aNil)) (eC .non))))
def F_is_house : Fd := funOf 1 b_is_house
def N_need_house : List Str := ["thing"]
def b_need_house : Es :=
    (sIf (tNot' (asB (eFn 1 F_is_house (aCons (eVar 0) aNil))))
    (sRaise "NoHouse")
    sNil)
def F_need_house : Fd := funOf 1 b_need_house
def N_need_person : List Str := ["house", "thing"]
def b_need_person : Es :=
    (sIf (tNot' (asB (eFn 3 F_is_between (aCons (eVar 1) (aCons (eC (.int 0)) (aCons (e2 subO (eCall lenO (aCons (e2 ixO (eVar 0) (eC (.int 2))) aNil)) (eC (.int 1))) aNil))))))
    (sRaise "NoPerson")
    sNil)
def F_need_person : Fd := funOf 2 b_need_person
def N_need_wire : List Str := ["house", "thing"]
def b_need_wire : Es :=
    (sIf (tNot' (asB (eFn 3 F_is_between (aCons (eVar 1) (aCons (eC (.int 0)) (aCons (e2 subO (eCall lenO (aCons (e2 ixO (eVar 0) (eC (.int 1))) aNil)) (eC (.int 1))) aNil))))))
    (sRaise "NoWire")
    sNil)
def F_need_wire : Fd := funOf 2 b_need_wire
def N_are_inputs_of : List Str := ["house", "thing", "row", "person", "number"]
def b_are_inputs_of : Es :=
    (sSeq (sIf (tOr' (tNot' (asB (e1 (isiO "tuple") (eVar 1)))) (asB (e2 neO (eCall lenO (aCons (eVar 1) aNil)) (eCall lenO (aCons (e2 ixO (eVar 0) (eC (.int 2))) aNil)))))
    (sRet (eC (.bl false)))
    sNil)
    (sSeq (sFor (iOf zipIt (aCons (eVar 1) (aCons (e2 ixO (eVar 0) (eC (.int 2))) aNil))) (gTp 2 (gConss (gNm 2) (gConss (gNm 3) gNils)))
    (sSeq (sIf (tOr' (tNot' (asB (e1 (isiO "tuple") (eVar 2)))) (asB (e2 neO (eCall lenO (aCons (eVar 2) aNil)) (eCall lenO (aCons (e2 ixO (eVar 3) (eC (.int 1))) aNil)))))
    (sRet (eC (.bl false)))
    sNil)
    (sIf (tNot' (asB (eCall allO (aCons (eLc (iSeq (eVar 2)) (gNm 4) tYes' (eFn 3 F_is_between (aCons (eVar 4) (aCons (eC (.int 0)) (aCons (e2 subO (e2 ixO (eVar 0) (eC (.int 0))) (eC (.int 1))) aNil)))) [4]) aNil))))
    (sRet (eC (.bl false)))
    sNil)))
    (sRet (eC (.bl true)))))
def F_are_inputs_of : Fd := funOf 5 b_are_inputs_of
def N_need_inputs : List Str := ["house", "thing"]
def b_need_inputs : Es :=
    (sSeq (sExp (eFn 1 F_need_house (aCons (eVar 0) aNil)))
    (sIf (tNot' (asB (eFn 2 F_are_inputs_of (aCons (eVar 0) (aCons (eVar 1) aNil)))))
    (sRaise "NoInputs")
    sNil))
def F_need_inputs : Fd := funOf 2 b_need_inputs
def N_spots : List Str := ["person", "block", "here"]
def b_spots : Es :=
    (sRet (eLc2 (iSeq (eFn 1 F_whole_blocks (aCons (eVar 0) aNil))) (gNm 1) tYes' (iSeq (eFn 1 F_statements_in (aCons (eVar 1) aNil))) (gNm 2) tYes' (eVar 2) [1, 2] [2]))
def F_spots : Fd := funOf 3 b_spots
def N_Edit___init__ : List Str := ["self", "at", "deed", "statement"]
def b_Edit___init__ : Es :=
    (sSeq (sFld' "Edit" "at" (eVar 1) (eVar 0))
    (sSeq (sFld' "Edit" "deed" (eVar 2) (eVar 0))
    (sSeq (sFld' "Edit" "statement" (eVar 3) (eVar 0))
    (sFld' "Edit" "met" (eC (.int 0)) (eVar 0)))))
def F_Edit___init__ : Fd := funOf 4 b_Edit___init__
def N_Edit_block : List Str := ["self", "block", "found", "here", "is_here", "inner", "whole", "part"]
def b_Edit_block (F : Fd) : Es :=
    (sSeq (sSet 2 (eLst aNil))
    (sSeq (sFor (iSeq (eVar 1)) (gNm 3)
    (sSeq (sSet 4 (e2 eqO (e1 (fldO "Edit" "met") (eVar 0)) (e1 (fldO "Edit" "at") (eVar 0))))
    (sSeq (sFldAug' "Edit" "met" (eVar 0) (eC (.int 1)))
    (sSeq (sSet 5 (eLc (iSeq (eFn 1 F_blocks_in (aCons (eVar 3) aNil))) (gNm 7) tYes' (eMt "Edit" "block" 2 (F) (eVar 0) (aCons (eVar 7) aNil)) [7]))
    (sSeq (sSet 6 (e2 addO (eSl (eVar 3) pNone (pSome (e2 subO (eCall lenO (aCons (eVar 3) aNil)) (eCall lenO (aCons (eVar 5) aNil))))) (eCall tupO (aCons (eVar 5) aNil))))
    (sIf (tNot' (asB (eVar 4)))
    (sExp (eMeth appO (eVar 2) (aCons (eVar 6) aNil)))
    (sIf (asB (e2 eqO (e1 (fldO "Edit" "deed") (eVar 0)) (eC (.str "put"))))
    (sExp (eMeth extO (eVar 2) (aCons (eLst (aCons (e1 (fldO "Edit" "statement") (eVar 0)) (aCons (eVar 6) aNil))) aNil)))
    (sIf (asB (e2 eqO (e1 (fldO "Edit" "deed") (eVar 0)) (eC (.str "change"))))
    (sExp (eMeth appO (eVar 2) (aCons (e1 (fldO "Edit" "statement") (eVar 0)) aNil)))
    sNil))))))))
    (sRet (eCall tupO (aCons (eVar 2) aNil)))))
def F_Edit_block : Nat → Fd
  | 0 => fun _ _ => .bad
  | n + 1 => funOf 8 (b_Edit_block (F_Edit_block n))
def N_Edit_person : List Str := ["self", "person", "helps", "body", "block", "name"]
def b_Edit_person : Es :=
    (sSeq (sSet 2 (eCall tupO (aCons (eLc (iSeq (e2 ixO (eVar 1) (eC (.int 2)))) (gTp 2 (gConss (gNm 5) (gConss (gNm 4) gNils))) tYes' (eTup 2 (aCons (eVar 5) (aCons (eMt "Edit" "block" 2 (F_Edit_block 20) (eVar 0) (aCons (eVar 4) aNil)) aNil))) [5, 4]) aNil)))
    (sSeq (sSet 3 (eMt "Edit" "block" 2 (F_Edit_block 20) (eVar 0) (aCons (e2 ixO (eVar 1) (eC (.int 3))) aNil)))
    (sSeq (sIf (tAnd' (asB (e2 eqO (e1 (fldO "Edit" "met") (eVar 0)) (e1 (fldO "Edit" "at") (eVar 0)))) (asB (e2 eqO (e1 (fldO "Edit" "deed") (eVar 0)) (eC (.str "put")))))
    (sSet 3 (e2 addO (eVar 3) (eTup 1 (aCons (e1 (fldO "Edit" "statement") (eVar 0)) aNil))))
    sNil)
    (sRet (eTup 4 (aCons (e2 ixO (eVar 1) (eC (.int 0))) (aCons (e2 ixO (eVar 1) (eC (.int 1))) (aCons (eVar 2) (aCons (eVar 3) aNil)))))))))
def F_Edit_person : Fd := funOf 6 b_Edit_person
def N_edited : List Str := ["house", "entry", "deed", "wires", "made", "most", "edit", "persons"]
def b_edited : Es :=
    (sSeq (sSet 2 (e2 ixO (eVar 1) (eC (.int 0))))
    (sSeq (sIf (asB (e2 eqO (eVar 2) (eC (.str "room"))))
    (sSeq (sExp (eFn 2 F_need_wire (aCons (eVar 0) (aCons (e2 ixO (eVar 1) (eC (.int 1))) aNil))))
    (sSeq (sSet 3 (eCall lstO (aCons (e2 ixO (eVar 0) (eC (.int 1))) aNil)))
    (sSeq (sSub (e2 addO (eSl (e2 ixO (eVar 3) (e2 ixO (eVar 1) (eC (.int 1)))) pNone (pSome (eC (.int 3)))) (eTup 1 (aCons (e2 ixO (eVar 1) (eC (.int 2))) aNil))) (eVar 3) (e2 ixO (eVar 1) (eC (.int 1))))
    (sSet 4 (eTup 3 (aCons (e2 ixO (eVar 0) (eC (.int 0))) (aCons (eCall tupO (aCons (eVar 3) aNil)) (aCons (e2 ixO (eVar 0) (eC (.int 2))) aNil))))))))
    (sSeq (sExp (eFn 2 F_need_person (aCons (eVar 0) (aCons (e2 ixO (eVar 1) (eC (.int 1))) aNil))))
    (sSeq (sSet 5 (e2 subO (eCall lenO (aCons (eFn 1 F_spots (aCons (e2 ixO (e2 ixO (eVar 0) (eC (.int 2))) (e2 ixO (eVar 1) (eC (.int 1)))) aNil)) aNil)) (eIf (asB (e2 eqO (eVar 2) (eC (.str "put")))) (eC (.int 0)) (eC (.int 1)))))
    (sSeq (sIf (tNot' (asB (eFn 3 F_is_between (aCons (e2 ixO (eVar 1) (eC (.int 2))) (aCons (eC (.int 0)) (aCons (eVar 5) aNil))))))
    (sRaise "NoSpot")
    sNil)
    (sSeq (sSet 6 (eMk "Edit" 4 F_Edit___init__ (aCons (e2 ixO (eVar 1) (eC (.int 2))) (aCons (eVar 2) (aCons (eIf (asB (e2 neO (eVar 2) (eC (.str "drop")))) (e2 ixO (eVar 1) (eC (.int 3))) (eC .non)) aNil)))))
    (sSeq (sSet 7 (eCall lstO (aCons (e2 ixO (eVar 0) (eC (.int 2))) aNil)))
    (sSeq (sSub (eMt "Edit" "person" 2 F_Edit_person (eVar 6) (aCons (e2 ixO (eVar 7) (e2 ixO (eVar 1) (eC (.int 1)))) aNil)) (eVar 7) (e2 ixO (eVar 1) (eC (.int 1))))
    (sSet 4 (eTup 3 (aCons (e2 ixO (eVar 0) (eC (.int 0))) (aCons (e2 ixO (eVar 0) (eC (.int 1))) (aCons (eCall tupO (aCons (eVar 7) aNil)) aNil))))))))))))
    (sSeq (sIf (tNot' (asB (eFn 1 F_is_house (aCons (eVar 4) aNil))))
    (sRaise "NoHouse")
    sNil)
    (sRet (eVar 4)))))
def F_edited : Fd := funOf 8 b_edited
def N_Live___init__ : List Str := ["self", "house"]
def b_Live___init__ : Es :=
    (sSeq (sExp (eFn 1 F_need_house (aCons (eVar 1) aNil)))
    (sSeq (sFld' "Live" "houses" (eLst (aCons (eVar 1) aNil)) (eVar 0))
    (sSeq (sFld' "Live" "deeds" (eLst aNil) (eVar 0))
    (sSeq (sFld' "Live" "undone" (eLst aNil) (eVar 0))
    (sFld' "Live" "books" eDnew (eVar 0))))))
def F_Live___init__ : Fd := funOf 2 b_Live___init__
def N_Live_done : List Str := ["self", "entry"]
def b_Live_done : Es :=
    (sSeq (sExp (eMeth appO (e1 (fldO "Live" "houses") (eVar 0)) (aCons (eFn 2 F_edited (aCons (e2 ixO (e1 (fldO "Live" "houses") (eVar 0)) (eC (.int (-1)))) (aCons (eVar 1) aNil))) aNil)))
    (sSeq (sExp (eMeth appO (e1 (fldO "Live" "deeds") (eVar 0)) (aCons (eVar 1) aNil)))
    (sFld' "Live" "undone" (eLst aNil) (eVar 0))))
def F_Live_done : Fd := funOf 2 b_Live_done
def N_Live_now : List Str := ["self"]
def b_Live_now : Es :=
    (sRet (e2 ixO (e1 (fldO "Live" "houses") (eVar 0)) (eC (.int (-1)))))
def F_Live_now : Fd := funOf 1 b_Live_now
def N_Live_end : List Str := ["self", "inputs"]
def b_Live_end : Es :=
    (sSeq (sExp (eFn 2 F_need_inputs (aCons (e2 ixO (e1 (fldO "Live" "houses") (eVar 0)) (eC (.int (-1)))) (aCons (eVar 1) aNil))))
    (fun _ _ => .bad))
def F_Live_end : Fd := funOf 2 b_Live_end
def N_Live_behaviour : List Str := ["self", "person", "house", "key"]
def b_Live_behaviour : Es :=
    (sSeq (sSet 2 (e2 ixO (e1 (fldO "Live" "houses") (eVar 0)) (eC (.int (-1)))))
    (sSeq (sExp (eFn 2 F_need_person (aCons (eVar 2) (aCons (eVar 1) aNil))))
    (sSeq (fun _ _ => .bad)
    (sSeq (fun _ _ => .bad)
    (fun _ _ => .bad)))))
def F_Live_behaviour : Fd := funOf 4 b_Live_behaviour
def N_goes_on : List Str := ["live", "entry"]
def b_goes_on : Es :=
    (sSeq (sIf (tOr' (tNot' (asB (e1 (isiO "tuple") (eVar 1)))) (tOr' (asB (e2 eqO (eCall lenO (aCons (eVar 1) aNil)) (eC (.int 0)))) (tNot' (asB (e1 (isiO "str") (e2 ixO (eVar 1) (eC (.int 0))))))))
    (sRet (eC (.bl false)))
    sNil)
    (sSeq (sIf (tOr' (asB (e1 (kninO tab_MANY) (e2 ixO (eVar 1) (eC (.int 0))))) (asB (e2 neO (eCall lenO (aCons (eVar 1) aNil)) (e1 (kgetO tab_MANY) (e2 ixO (eVar 1) (eC (.int 0)))))))
    (sRet (eC (.bl false)))
    sNil)
    (sSeq (sTry subX
    (sExp (eMt "Live" "done" 2 F_Live_done (eVar 0) (aCons (eVar 1) aNil)))
    [("HouseError", none, fun _ => (sRet (eC (.bl false))))])
    (sRet (eC (.bl true))))))
def F_goes_on : Fd := funOf 2 b_goes_on
def N_from_log : List Str := ["house", "log", "live", "at", "entry"]
def b_from_log : Es :=
    (sSeq (sSet 2 (eMk "Live" 2 F_Live___init__ (aCons (eVar 0) aNil)))
    (sSeq (sIf (tNot' (asB (e1 (isiO "list") (eVar 1))))
    (sRaise1 "BadLog" "at" (eC (.int (-1))))
    sNil)
    (sSeq (sFor (iOf enumIt (aCons (eVar 1) aNil)) (gTp 2 (gConss (gNm 3) (gConss (gNm 4) gNils)))
    (sIf (tNot' (asB (eFn 2 F_goes_on (aCons (eVar 2) (aCons (eVar 4) aNil)))))
    (sRaise1 "BadLog" "at" (eVar 3))
    sNil))
    (sRet (eVar 2)))))
def F_from_log : Fd := funOf 5 b_from_log
def N__law_hand : List Str := ["script", "cells", "cell"]
def b__law_hand : Es :=
    (sSeq (sSet 1 (eLc (iSeq (eSl (eVar 0) pNone (pSome (eC (.int 63))))) (gNm 2) tYes' (eCall absO (aCons (eCall intC (aCons (eVar 2) aNil)) aNil)) [2]))
    (sRet (eLst (aCons (eVar 1) (aCons (eC (.int 0)) (aCons (eC (.int 0)) (aCons (e2 addO (eC (.int 31)) (e2 mulO (eC (.int 7)) (eCall lenO (aCons (eVar 1) aNil)))) (aCons (eC (.int 0)) aNil))))))))
def F__law_hand : Fd := funOf 3 b__law_hand
def N__law_draw : List Str := ["hand", "many", "cell", "digit", "number"]
def b__law_draw : Es :=
    (sSeq (sIf (tAnd' (asB (e2 eqO (e2 ixO (eVar 0) (eC (.int 2))) (eC (.int 0)))) (asB (e2 ltO (e2 ixO (eVar 0) (eC (.int 1))) (eCall lenO (aCons (e2 ixO (eVar 0) (eC (.int 0))) aNil)))))
    (sSeq (sSet 2 (e2 ixO (e2 ixO (eVar 0) (eC (.int 0))) (e2 ixO (eVar 0) (eC (.int 1)))))
    (sSeq (sSub (e2 addO (e2 ixO (eVar 0) (eC (.int 1))) (eC (.int 1))) (eVar 0) (eC (.int 1)))
    (sSeq (sSub (e2 modO (eCall intC (aCons (e2 addO (e2 addO (e2 mulO (e2 ixO (eVar 0) (eC (.int 3))) (eC (.int 48271))) (eVar 2)) (eC (.int 11))) aNil)) (eC (.int 2147483647))) (eVar 0) (eC (.int 3)))
    (sIf (asB (e2 geO (eVar 2) (e2 powO (eC (.int 10)) (eC (.int 18)))))
    (sSub (eVar 2) (eVar 0) (eC (.int 2)))
    sNil))))
    sNil)
    (sSeq (sIf (asB (e2 gtO (e2 ixO (eVar 0) (eC (.int 2))) (eC (.int 0))))
    (sSeq (sSet 3 (e2 modO (eCall intC (aCons (e2 ixO (eVar 0) (eC (.int 2))) aNil)) (eVar 1)))
    (sSeq (sSub (e2 fdivO (e2 ixO (eVar 0) (eC (.int 2))) (eVar 1)) (eVar 0) (eC (.int 2)))
    (sRet (eVar 3))))
    sNil)
    (sSeq (sSub (e2 addO (e2 ixO (eVar 0) (eC (.int 4))) (eC (.int 1))) (eVar 0) (eC (.int 4)))
    (sSeq (sSet 4 (e2 modO (eCall intC (aCons (e2 mulO (eCall intC (aCons (e2 addO (e2 ixO (eVar 0) (eC (.int 3))) (e2 mulO (eC (.int 6007)) (e2 ixO (eVar 0) (eC (.int 4))))) aNil)) (eC (.int 69621))) aNil)) (eC (.int 2147483629))))
    (sSeq (sSet 4 (e2 modO (eCall intC (aCons (e2 mulO (eVar 4) (e2 addO (e2 fdivO (eVar 4) (eC (.int 1013))) (eC (.int 48271)))) aNil)) (eC (.int 2147483647))))
    (sSeq (sSet 4 (e2 modO (eCall intC (aCons (e2 mulO (eVar 4) (e2 addO (e2 fdivO (eVar 4) (eC (.int 2011))) (eC (.int 16807)))) aNil)) (eC (.int 2147483587))))
    (sRet (e2 modO (eCall intC (aCons (e2 fdivO (eVar 4) (eC (.int 32))) aNil)) (eVar 1)))))))))
def F__law_draw : Fd := funOf 5 b__law_draw
def N__law_some : List Str := ["hand", "things"]
def b__law_some : Es :=
    (sRet (e2 ixO (eVar 1) (eFn 2 F__law_draw (aCons (eVar 0) (aCons (eCall lenO (aCons (eVar 1) aNil)) aNil)))))
def F__law_some : Fd := funOf 2 b__law_some
def N__law_kept : List Str := ["told", "due", "at"]
def b__law_kept (F : Fd) : Es :=
    (sSeq (sIf (tOr' (asB (e1 (isiO "tuple") (eVar 1))) (asB (e1 (isiO "list") (eVar 1))))
    (sSeq (sIf (tOr' (asB (e2 neO (e1 (isiO "tuple") (eVar 0)) (e1 (isiO "tuple") (eVar 1)))) (asB (e2 neO (e1 (isiO "list") (eVar 0)) (e1 (isiO "list") (eVar 1)))))
    (sRet (eC (.bl false)))
    sNil)
    (sRet (eAnd (e2 eqO (eCall lenO (aCons (eVar 0) aNil)) (eCall lenO (aCons (eVar 1) aNil))) (eCall allO (aCons (eLc (iOf (fun ds _ => rngIt1 ds) (aCons (eCall lenO (aCons (eVar 1) aNil)) aNil)) (gNm 2) tYes' (eFn 2 (F) (aCons (e2 ixO (eVar 0) (eVar 2)) (aCons (e2 ixO (eVar 1) (eVar 2)) aNil))) [2]) aNil)))))
    sNil)
    (sSeq (sIf (asB (e2 isNO (eVar 1) (eC .non)))
    (sRet (e2 isNO (eVar 0) (eC .non)))
    sNil)
    (sSeq (sIf (asB (e1 (isiO "bool") (eVar 1)))
    (fun _ _ => .bad)
    sNil)
    (sSeq (sIf (asB (e1 (isiO "int") (eVar 1)))
    (sRet (eAnd (e1 (isiO "int") (eVar 0)) (eAnd (eNot (e1 (isiO "bool") (eVar 0))) (e2 eqO (eVar 0) (eVar 1)))))
    sNil)
    (sRet (eAnd (e1 (isiO "str") (eVar 0)) (e2 eqO (eVar 0) (eVar 1))))))))
def F__law_kept : Nat → Fd
  | 0 => fun _ _ => .bad
  | n + 1 => funOf 3 (b__law_kept (F__law_kept n))
def N__law_mixed : List Str := ["hand", "things", "left", "found"]
def b__law_mixed : Es :=
    (sSeq (sPar 2 3 (aCons (eCall lstO (aCons (eVar 1) aNil)) (aCons (eLst aNil) aNil)))
    (sSeq (sWhile (asB (e2 gtO (eCall lenO (aCons (eVar 2) aNil)) (eC (.int 0))))
    (sExp (eMeth appO (eVar 3) (aCons (eMeth popO (eVar 2) (aCons (eFn 2 F__law_draw (aCons (eVar 0) (aCons (eCall lenO (aCons (eVar 2) aNil)) aNil))) aNil)) aNil))))
    (sRet (eVar 3))))
def F__law_mixed : Fd := funOf 4 b__law_mixed
def N__law_expression : List Str := ["hand", "modulus", "names", "depth", "kind", "sign"]
def b__law_expression (F : Fd) : Es :=
    (sSeq (sSet 4 (eFn 2 F__law_draw (aCons (eVar 0) (aCons (eC (.int 6)) aNil))))
    (sSeq (sIf (tOr' (asB (e2 eqO (eVar 3) (eC (.int 0)))) (asB (e2 ltO (eVar 4) (eC (.int 2)))))
    (sSeq (sIf (tAnd' (asB (e2 gtO (eCall lenO (aCons (eVar 2) aNil)) (eC (.int 0)))) (asB (e2 gtO (eFn 2 F__law_draw (aCons (eVar 0) (aCons (eC (.int 3)) aNil))) (eC (.int 0)))))
    (sRet (eTup 2 (aCons (eC (.str "name")) (aCons (eFn 2 F__law_some (aCons (eVar 0) (aCons (eVar 2) aNil))) aNil))))
    sNil)
    (sRet (eTup 2 (aCons (eC (.str "number")) (aCons (eFn 2 F__law_draw (aCons (eVar 0) (aCons (eVar 1) aNil))) aNil)))))
    sNil)
    (sSeq (sIf (asB (e2 eqO (eVar 4) (eC (.int 2))))
    (sRet (eTup 2 (aCons (eC (.str "not")) (aCons (eFn 4 (F) (aCons (eVar 0) (aCons (eVar 1) (aCons (eVar 2) (aCons (e2 subO (eVar 3) (eC (.int 1))) aNil))))) aNil))))
    sNil)
    (sSeq (sSet 5 (eFn 2 F__law_some (aCons (eVar 0) (aCons (eLst (aCons (eC (.str "+")) (aCons (eC (.str "-")) (aCons (eC (.str "*")) (aCons (eC (.str "/")) (aCons (eC (.str "/")) (aCons (eC (.str "==")) (aCons (eC (.str "!=")) (aCons (eC (.str "<")) (aCons (eC (.str "<=")) (aCons (eC (.str "and")) (aCons (eC (.str "or")) (aCons (eC (.str "+")) (aCons (eC (.str "+")) aNil)))))))))))))) aNil))))
    (sRet (eTup 3 (aCons (eVar 5) (aCons (eFn 4 (F) (aCons (eVar 0) (aCons (eVar 1) (aCons (eVar 2) (aCons (e2 subO (eVar 3) (eC (.int 1))) aNil))))) (aCons (eFn 4 (F) (aCons (eVar 0) (aCons (eVar 1) (aCons (eVar 2) (aCons (e2 subO (eVar 3) (eC (.int 1))) aNil))))) aNil)))))))))
def F__law_expression : Nat → Fd
  | 0 => fun _ _ => .bad
  | n + 1 => funOf 6 (b__law_expression (F__law_expression n))
def N__law_local : List Str := ["hand", "modulus", "names", "helps", "depth", "kind", "value", "inner", "again"]
def b__law_local (F : Fd) : Es :=
    (sSeq (sPar 5 6 (aCons (eFn 2 F__law_draw (aCons (eVar 0) (aCons (eC (.int 8)) aNil))) (aCons (eFn 4 (F__law_expression 10) (aCons (eVar 0) (aCons (eVar 1) (aCons (eVar 2) (aCons (eC (.int 2)) aNil))))) aNil)))
    (sSeq (sIf (asB (e2 ltO (eVar 5) (eC (.int 3))))
    (sRet (eTup 2 (aCons (eC (.str "say")) (aCons (eVar 6) aNil))))
    sNil)
    (sSeq (sIf (tOr' (asB (e2 ltO (eVar 5) (eC (.int 5)))) (asB (e2 eqO (eVar 4) (eC (.int 0)))))
    (sRet (eTup 3 (aCons (eC (.str "set")) (aCons (eFn 2 F__law_some (aCons (eVar 0) (aCons (eVar 2) aNil))) (aCons (eVar 6) aNil)))))
    sNil)
    (sSeq (sIf (asB (e2 eqO (eVar 5) (eC (.int 5))))
    (sRet (eIf (asB (e2 gtO (eVar 3) (eC (.int 0)))) (eTup 2 (aCons (eC (.str "do")) (aCons (eFn 2 F__law_draw (aCons (eVar 0) (aCons (eVar 3) aNil))) aNil))) (eTup 2 (aCons (eC (.str "say")) (aCons (eVar 6) aNil)))))
    sNil)
    (sSeq (sSet 7 (eCall tupO (aCons (eLc (iOf (fun ds _ => rngIt1 ds) (aCons (eFn 2 F__law_draw (aCons (eVar 0) (aCons (eC (.int 3)) aNil))) aNil)) (gNm 8) tYes' (eFn 5 (F) (aCons (eVar 0) (aCons (eVar 1) (aCons (eVar 2) (aCons (eVar 3) (aCons (e2 subO (eVar 4) (eC (.int 1))) aNil)))))) [8]) aNil)))
    (sSeq (sIf (asB (e2 eqO (eVar 5) (eC (.int 6))))
    (sRet (eTup 4 (aCons (eC (.str "if")) (aCons (eVar 6) (aCons (eVar 7) (aCons (eCall tupO (aCons (eLc (iOf (fun ds _ => rngIt1 ds) (aCons (eFn 2 F__law_draw (aCons (eVar 0) (aCons (eC (.int 2)) aNil))) aNil)) (gNm 8) tYes' (eFn 5 (F) (aCons (eVar 0) (aCons (eVar 1) (aCons (eVar 2) (aCons (eVar 3) (aCons (e2 subO (eVar 4) (eC (.int 1))) aNil)))))) [8]) aNil)) aNil))))))
    sNil)
    (sRet (eTup 3 (aCons (eC (.str "rounds")) (aCons (eIf (asB (e2 ltO (eVar 1) (eC (.int 5)))) (eVar 6) (eTup 2 (aCons (eC (.str "number")) (aCons (eFn 2 F__law_draw (aCons (eVar 0) (aCons (eC (.int 3)) aNil))) aNil)))) (aCons (eVar 7) aNil)))))))))))
def F__law_local : Nat → Fd
  | 0 => fun _ _ => .bad
  | n + 1 => funOf 9 (b__law_local (F__law_local n))
def N__law_message : List Str := ["hand", "modulus", "wire", "mine", "theirs", "name", "value", "kind", "other", "many"]
def b__law_message : Es :=
    (sSeq (sPar3 5 6 7 (aCons (eFn 2 F__law_some (aCons (eVar 0) (aCons (eVar 4) aNil))) (aCons (eFn 4 (F__law_expression 10) (aCons (eVar 0) (aCons (eVar 1) (aCons (eVar 3) (aCons (eC (.int 2)) aNil))))) (aCons (eFn 2 F__law_draw (aCons (eVar 0) (aCons (eC (.int 8)) aNil))) aNil))))
    (sSeq (sIf (asB (e2 ltO (eVar 7) (eC (.int 4))))
    (sRet (eTup 2 (aCons (eLst (aCons (eTup 3 (aCons (eC (.str "send")) (aCons (eVar 2) (aCons (eVar 6) aNil)))) aNil)) (aCons (eLst (aCons (eTup 3 (aCons (eC (.str "take")) (aCons (eVar 2) (aCons (eVar 5) aNil)))) aNil)) aNil))))
    sNil)
    (sSeq (sIf (asB (e2 eqO (eVar 7) (eC (.int 4))))
    (sSeq (sSet 8 (eFn 4 (F__law_expression 10) (aCons (eVar 0) (aCons (eVar 1) (aCons (eVar 3) (aCons (eC (.int 2)) aNil))))))
    (sRet (eTup 2 (aCons (eLst (aCons (eTup 4 (aCons (eC (.str "if")) (aCons (eVar 6) (aCons (eTup 1 (aCons (eTup 3 (aCons (eC (.str "send")) (aCons (eVar 2) (aCons (eVar 8) aNil)))) aNil)) (aCons (eTup 1 (aCons (eTup 3 (aCons (eC (.str "send")) (aCons (eVar 2) (aCons (eVar 6) aNil)))) aNil)) aNil))))) aNil)) (aCons (eLst (aCons (eTup 3 (aCons (eC (.str "take")) (aCons (eVar 2) (aCons (eVar 5) aNil)))) (aCons (eTup 2 (aCons (eC (.str "say")) (aCons (eTup 2 (aCons (eC (.str "name")) (aCons (eVar 5) aNil))) aNil))) aNil))) aNil)))))
    sNil)
    (sSeq (sIf (asB (e2 eqO (eVar 7) (eC (.int 5))))
    (sSeq (sSet 9 (eTup 2 (aCons (eC (.str "number")) (aCons (eCall minO (aCons (e2 subO (eVar 1) (eC (.int 1))) (aCons (e2 addO (eC (.int 1)) (eFn 2 F__law_draw (aCons (eVar 0) (aCons (eC (.int 3)) aNil)))) aNil))) aNil))))
    (sRet (eTup 2 (aCons (eLst (aCons (eTup 3 (aCons (eC (.str "rounds")) (aCons (eVar 9) (aCons (eTup 2 (aCons (eTup 3 (aCons (eC (.str "send")) (aCons (eVar 2) (aCons (eVar 6) aNil)))) (aCons (eTup 3 (aCons (eC (.str "set")) (aCons (e2 ixO (eVar 3) (eC (.int 0))) (aCons (eTup 3 (aCons (eC (.str "+")) (aCons (eTup 2 (aCons (eC (.str "name")) (aCons (e2 ixO (eVar 3) (eC (.int 0))) aNil))) (aCons (eTup 2 (aCons (eC (.str "number")) (aCons (eC (.int 1)) aNil))) aNil)))) aNil)))) aNil))) aNil)))) aNil)) (aCons (eLst (aCons (eTup 3 (aCons (eC (.str "rounds")) (aCons (eVar 9) (aCons (eTup 2 (aCons (eTup 3 (aCons (eC (.str "take")) (aCons (eVar 2) (aCons (eVar 5) aNil)))) (aCons (eTup 2 (aCons (eC (.str "say")) (aCons (eTup 2 (aCons (eC (.str "name")) (aCons (eVar 5) aNil))) aNil))) aNil))) aNil)))) aNil)) aNil)))))
    sNil)
    (sSeq (sIf (asB (e2 eqO (eVar 7) (eC (.int 6))))
    (sRet (eTup 2 (aCons (eLst (aCons (eTup 3 (aCons (eC (.str "send")) (aCons (eVar 2) (aCons (eVar 6) aNil)))) (aCons (eTup 4 (aCons (eC (.str "if")) (aCons (eVar 6) (aCons (eTup 1 (aCons (eTup 3 (aCons (eC (.str "send")) (aCons (eVar 2) (aCons (eTup 2 (aCons (eC (.str "number")) (aCons (eC (.int 1)) aNil))) aNil)))) aNil)) (aCons (eTup 0 aNil) aNil))))) aNil))) (aCons (eLst (aCons (eTup 3 (aCons (eC (.str "take")) (aCons (eVar 2) (aCons (eVar 5) aNil)))) (aCons (eTup 4 (aCons (eC (.str "if")) (aCons (eTup 2 (aCons (eC (.str "name")) (aCons (eVar 5) aNil))) (aCons (eTup 1 (aCons (eTup 3 (aCons (eC (.str "take")) (aCons (eVar 2) (aCons (eVar 5) aNil)))) aNil)) (aCons (eTup 0 aNil) aNil))))) aNil))) aNil))))
    sNil)
    (sRet (eTup 2 (aCons (eLst (aCons (eTup 3 (aCons (eC (.str "send")) (aCons (eVar 2) (aCons (eVar 6) aNil)))) aNil)) (aCons (eLst (aCons (eTup 3 (aCons (eC (.str "take")) (aCons (eVar 2) (aCons (eVar 5) aNil)))) (aCons (eTup 4 (aCons (eC (.str "if")) (aCons (eTup 2 (aCons (eC (.str "name")) (aCons (eVar 5) aNil))) (aCons (eTup 1 (aCons (eTup 2 (aCons (eC (.str "say")) (aCons (eTup 2 (aCons (eC (.str "number")) (aCons (eC (.int 1)) aNil))) aNil))) aNil)) (aCons (eTup 2 (aCons (eTup 2 (aCons (eC (.str "say")) (aCons (eTup 2 (aCons (eC (.str "name")) (aCons (eVar 5) aNil))) aNil))) (aCons (eTup 3 (aCons (eC (.str "set")) (aCons (eVar 5) (aCons (eTup 2 (aCons (eC (.str "number")) (aCons (eC (.int 0)) aNil))) aNil)))) aNil))) aNil))))) aNil))) aNil)))))))))
def F__law_message : Fd := funOf 10 b__law_message
def N__law_house : List Str := ["hand", "most", "inputs", "modulus", "many", "wires", "rows", "asked", "step", "sender", "taker", "person", "helps", "wire", "mine", "theirs", "persons", "told", "at"]
def b__law_house : Es :=
    (sSeq (sAsg (eTup 2 (aCons (eFn 2 F__law_some (aCons (eVar 0) (aCons (eLst (aCons (eC (.int 2)) (aCons (eC (.int 3)) (aCons (eC (.int 4)) (aCons (eC (.int 5)) (aCons (eC (.int 2)) (aCons (eC (.int 3)) aNil))))))) aNil))) (aCons (e2 addO (eC (.int 1)) (eFn 2 F__law_draw (aCons (eVar 0) (aCons (eVar 1) aNil)))) aNil))) (gTp 2 (gConss (gNm 3) (gConss (gNm 4) gNils))))
    (sSeq (sPar3 5 6 7 (aCons (eLst aNil) (aCons (eLc (iOf (fun ds _ => rngIt1 ds) (aCons (eVar 4) aNil)) (gNm 11) tYes' (eLst aNil) [11]) (aCons (e2 mulO (eLst (aCons (eC (.int 0)) aNil)) (eVar 4)) aNil))))
    (sSeq (sFor (iOf (fun ds _ => rngIt1 ds) (aCons (eIf (asB (e2 gtO (eVar 4) (eC (.int 1)))) (eFn 2 F__law_draw (aCons (eVar 0) (aCons (eC (.int 5)) aNil))) (eC (.int 0))) aNil)) (gNm 8)
    (sSeq (sSet 9 (eFn 2 F__law_draw (aCons (eVar 0) (aCons (eVar 4) aNil))))
    (sSeq (sSet 10 (eFn 2 F__law_some (aCons (eVar 0) (aCons (eLc (iOf (fun ds _ => rngIt1 ds) (aCons (eVar 4) aNil)) (gNm 11) (asB (e2 neO (eVar 11) (eVar 9))) (eVar 11) [11]) aNil))))
    (sExp (eMeth appO (eVar 5) (aCons (eTup 4 (aCons (e2 addO (eC (.str "w")) (e2 ixO (eC (.str "abcdef")) (eVar 8))) (aCons (eVar 9) (aCons (eVar 10) (aCons (eFn 2 F__law_some (aCons (eVar 0) (aCons (eLst (aCons (eC (.int 0)) (aCons (eC (.int 0)) (aCons (eC (.int 1)) (aCons (eC (.int 1)) (aCons (eC (.int 2)) (aCons (eC (.int 9)) aNil))))))) aNil))) aNil))))) aNil))))))
    (sSeq (sFor (iOf (fun ds _ => rngIt1 ds) (aCons (eFn 2 F__law_draw (aCons (eVar 0) (aCons (e2 addO (eVar 2) (eC (.int 1))) aNil))) aNil)) (gNm 8)
    (sSeq (sSet 11 (eFn 2 F__law_draw (aCons (eVar 0) (aCons (eVar 4) aNil))))
    (sSub (eCall minO (aCons (eC (.int 4)) (aCons (e2 addO (e2 ixO (eVar 7) (eVar 11)) (eC (.int 1))) aNil))) (eVar 7) (eVar 11))))
    (sSeq (sSet 12 (eLc (iOf (fun ds _ => rngIt1 ds) (aCons (eVar 4) aNil)) (gNm 11) tYes' (e2 fdivO (eFn 2 F__law_draw (aCons (eVar 0) (aCons (eC (.int 3)) aNil))) (eC (.int 2))) [11]))
    (sSeq (sFor (iOf (fun ds _ => rngIt1 ds) (aCons (e2 addO (eC (.int 1)) (eFn 2 F__law_draw (aCons (eVar 0) (aCons (eC (.int 9)) aNil)))) aNil)) (gNm 8)
    (sIf (tAnd' (asB (e2 gtO (eCall lenO (aCons (eVar 5) aNil)) (eC (.int 0)))) (asB (e2 gtO (eFn 2 F__law_draw (aCons (eVar 0) (aCons (eC (.int 3)) aNil))) (eC (.int 0)))))
    (sSeq (sSet 13 (eFn 2 F__law_draw (aCons (eVar 0) (aCons (eCall lenO (aCons (eVar 5) aNil)) aNil))))
    (sSeq (sAsg (eTup 2 (aCons (e2 ixO (e2 ixO (eVar 5) (eVar 13)) (eC (.int 1))) (aCons (e2 ixO (e2 ixO (eVar 5) (eVar 13)) (eC (.int 2))) aNil))) (gTp 2 (gConss (gNm 9) (gConss (gNm 10) gNils))))
    (sSeq (sAsg (eFn 5 F__law_message (aCons (eVar 0) (aCons (eVar 3) (aCons (eVar 13) (aCons (eLst (aCons (eC (.str "a")) (aCons (eC (.str "b")) (aCons (eC (.str "c")) aNil)))) (aCons (eLst (aCons (eC (.str "a")) (aCons (eC (.str "b")) (aCons (eC (.str "c")) aNil)))) aNil)))))) (gTp 2 (gConss (gNm 14) (gConss (gNm 15) gNils))))
    (sSeq (sIf (asB (e2 gtO (eFn 2 F__law_draw (aCons (eVar 0) (aCons (eC (.int 12)) aNil))) (eC (.int 0))))
    (sExp (eMeth extO (e2 ixO (eVar 6) (eVar 9)) (aCons (eVar 14) aNil)))
    sNil)
    (sIf (asB (e2 gtO (eFn 2 F__law_draw (aCons (eVar 0) (aCons (eC (.int 12)) aNil))) (eC (.int 0))))
    (sExp (eMeth extO (e2 ixO (eVar 6) (eVar 10)) (aCons (eVar 15) aNil)))
    sNil)))))
    (sSeq (sSet 11 (eFn 2 F__law_draw (aCons (eVar 0) (aCons (eVar 4) aNil))))
    (sExp (eMeth appO (e2 ixO (eVar 6) (eVar 11)) (aCons (eFn 5 (F__law_local 10) (aCons (eVar 0) (aCons (eVar 3) (aCons (eLst (aCons (eC (.str "a")) (aCons (eC (.str "b")) (aCons (eC (.str "c")) aNil)))) (aCons (e2 ixO (eVar 12) (eVar 11)) (aCons (eC (.int 2)) aNil)))))) aNil))))))
    (sSeq (sIf (asB (e2 eqO (eFn 2 F__law_draw (aCons (eVar 0) (aCons (eC (.int 5)) aNil))) (eC (.int 0))))
    (sSeq (sSet 11 (eFn 2 F__law_draw (aCons (eVar 0) (aCons (eVar 4) aNil))))
    (sSub (eFn 2 F__law_mixed (aCons (eVar 0) (aCons (e2 ixO (eVar 6) (eVar 11)) aNil))) (eVar 6) (eVar 11)))
    sNil)
    (sSeq (sSet 16 (eLst aNil))
    (sSeq (sFor (iOf (fun ds _ => rngIt1 ds) (aCons (eVar 4) aNil)) (gNm 11)
    (sSeq (sSet 17 (eCall tupO (aCons (eLc (iOf (fun ds _ => rngIt1 ds) (aCons (e2 ixO (eVar 12) (eVar 11)) aNil)) (gNm 18) tYes' (eTup 2 (aCons (e2 addO (eC (.str "h")) (e2 ixO (eC (.str "xy")) (eVar 18))) (aCons (eTup 2 (aCons (eFn 5 (F__law_local 10) (aCons (eVar 0) (aCons (eVar 3) (aCons (eLst (aCons (eC (.str "a")) (aCons (eC (.str "b")) aNil))) (aCons (eC (.int 0)) (aCons (eC (.int 1)) aNil)))))) (aCons (eFn 5 (F__law_local 10) (aCons (eVar 0) (aCons (eVar 3) (aCons (eLst (aCons (eC (.str "a")) (aCons (eC (.str "b")) aNil))) (aCons (eC (.int 0)) (aCons (eC (.int 1)) aNil)))))) aNil))) aNil))) [18]) aNil)))
    (sExp (eMeth appO (eVar 16) (aCons (eTup 4 (aCons (e2 addO (eC (.str "p")) (e2 ixO (eC (.str "stuvwx")) (eVar 11))) (aCons (eCall tupSO (aCons (eSl (eC (.str "abcd")) pNone (pSome (e2 ixO (eVar 7) (eVar 11)))) aNil)) (aCons (eVar 17) (aCons (eCall tupO (aCons (e2 ixO (eVar 6) (eVar 11)) aNil)) aNil))))) aNil)))))
    (sRet (eTup 3 (aCons (eVar 3) (aCons (eCall tupO (aCons (eVar 5) aNil)) (aCons (eCall tupO (aCons (eVar 16) aNil)) aNil))))))))))))))
def F__law_house : Fd := funOf 19 b__law_house
def N__law_inputs : List Str := ["hand", "house", "name", "person"]
def b__law_inputs : Es :=
    (sRet (eCall tupO (aCons (eLc (iSeq (e2 ixO (eVar 1) (eC (.int 2)))) (gNm 3) tYes' (eCall tupO (aCons (eLc (iSeq (e2 ixO (eVar 3) (eC (.int 1)))) (gNm 2) tYes' (eFn 2 F__law_draw (aCons (eVar 0) (aCons (e2 ixO (eVar 1) (eC (.int 0))) aNil))) [2]) aNil)) [3]) aNil)))
def F__law_inputs : Fd := funOf 4 b__law_inputs
def N__law_roomed : List Str := ["house", "rooms", "at"]
def b__law_roomed : Es :=
    (sRet (eTup 3 (aCons (e2 ixO (eVar 0) (eC (.int 0))) (aCons (eCall tupO (aCons (eLc (iOf (fun ds _ => rngIt1 ds) (aCons (eCall lenO (aCons (eVar 1) aNil)) aNil)) (gNm 2) tYes' (e2 addO (eSl (e2 ixO (e2 ixO (eVar 0) (eC (.int 1))) (eVar 2)) pNone (pSome (eC (.int 3)))) (eTup 1 (aCons (e2 ixO (eVar 1) (eVar 2)) aNil))) [2]) aNil)) (aCons (e2 ixO (eVar 0) (eC (.int 2))) aNil)))))
def F__law_roomed : Fd := funOf 3 b__law_roomed
def N__law_no_house : List Str := ["hand", "house", "modulus", "wires", "persons", "odd", "first"]
def b__law_no_house : Es :=
    (sSeq (sAsg (eVar 1) (gTp 3 (gConss (gNm 2) (gConss (gNm 3) (gConss (gNm 4) gNils)))))
    (sSeq (sSet 5 (eLst (aCons (eC .non) (aCons (eTup 2 (aCons (eVar 2) (aCons (eVar 3) aNil))) (aCons (eLst (aCons (eVar 2) (aCons (eVar 3) (aCons (eVar 4) aNil)))) (aCons (eTup 4 (aCons (eVar 2) (aCons (eVar 3) (aCons (eVar 4) (aCons (eC (.int 0)) aNil))))) (aCons (eTup 3 (aCons (eC (.int 1)) (aCons (eVar 3) (aCons (eVar 4) aNil)))) (aCons (eTup 3 (aCons (eC (.int 17)) (aCons (eVar 3) (aCons (eVar 4) aNil)))) (aCons (eTup 3 (aCons (eC (.bl true)) (aCons (eVar 3) (aCons (eVar 4) aNil)))) aNil)))))))))
    (sSeq (sSet 5 (e2 addO (eVar 5) (eLst (aCons (eTup 3 (aCons (eVar 2) (aCons (eCall lstO (aCons (eVar 3) aNil)) (aCons (eVar 4) aNil)))) (aCons (eTup 3 (aCons (eVar 2) (aCons (eVar 3) (aCons (eCall lstO (aCons (eVar 4) aNil)) aNil)))) (aCons (eTup 3 (aCons (eVar 2) (aCons (eVar 3) (aCons (eTup 0 aNil) aNil)))) (aCons (eTup 3 (aCons (eVar 2) (aCons (eVar 3) (aCons (e2 addO (eVar 4) (eSl (eVar 4) pNone (pSome (eC (.int 1))))) aNil)))) (aCons (eC (.str "house")) (aCons (eC (.int 0)) (aCons eDnew aNil))))))))))
    (sSeq (sSet 6 (e2 ixO (eVar 4) (eC (.int 0))))
    (sSeq (sSet 5 (e2 addO (eVar 5) (eLst (aCons (eTup 3 (aCons (eVar 2) (aCons (eVar 3) (aCons (e2 addO (eTup 1 (aCons (eSl (eVar 6) pNone (pSome (eC (.int 3)))) aNil)) (eSl (eVar 4) (pSome (eC (.int 1))) pNone)) aNil)))) (aCons (eTup 3 (aCons (eVar 2) (aCons (eVar 3) (aCons (e2 addO (eTup 1 (aCons (e2 addO (eSl (eVar 6) pNone (pSome (eC (.int 3)))) (eTup 1 (aCons (e2 addO (e2 ixO (eVar 6) (eC (.int 3))) (eTup 1 (aCons (eTup 2 (aCons (eC (.str "say")) (aCons (eTup 2 (aCons (eC (.str "number")) (aCons (eVar 2) aNil))) aNil))) aNil))) aNil))) aNil)) (eSl (eVar 4) (pSome (eC (.int 1))) pNone)) aNil)))) aNil)))))
    (sSeq (sSet 5 (e2 addO (eVar 5) (eLst (aCons (eTup 3 (aCons (eVar 2) (aCons (eVar 3) (aCons (e2 addO (eTup 1 (aCons (e2 addO (eSl (eVar 6) pNone (pSome (eC (.int 3)))) (eTup 1 (aCons (e2 addO (e2 ixO (eVar 6) (eC (.int 3))) (eTup 1 (aCons (eTup 3 (aCons (eC (.str "send")) (aCons (eCall lenO (aCons (eVar 3) aNil)) (aCons (eTup 2 (aCons (eC (.str "number")) (aCons (eC (.int 0)) aNil))) aNil)))) aNil))) aNil))) aNil)) (eSl (eVar 4) (pSome (eC (.int 1))) pNone)) aNil)))) (aCons (eTup 3 (aCons (eVar 2) (aCons (eVar 3) (aCons (e2 addO (eTup 1 (aCons (e2 addO (eTup 1 (aCons (eC (.str "end")) aNil)) (eSl (eVar 6) (pSome (eC (.int 1))) pNone)) aNil)) (eSl (eVar 4) (pSome (eC (.int 1))) pNone)) aNil)))) aNil)))))
    (sSeq (sSet 5 (e2 addO (eVar 5) (eLst (aCons (eTup 3 (aCons (eVar 2) (aCons (e2 addO (eVar 3) (eTup 1 (aCons (eTup 4 (aCons (eC (.str "zz")) (aCons (eC (.int 0)) (aCons (eC (.int 0)) (aCons (eC (.int 1)) aNil))))) aNil))) (aCons (eVar 4) aNil)))) (aCons (eTup 3 (aCons (eVar 2) (aCons (e2 addO (eVar 3) (eTup 1 (aCons (eTup 4 (aCons (eC (.str "zz")) (aCons (eC (.int 0)) (aCons (eCall lenO (aCons (eVar 4) aNil)) (aCons (eC (.int 1)) aNil))))) aNil))) (aCons (eVar 4) aNil)))) (aCons (eTup 3 (aCons (eVar 2) (aCons (e2 addO (eVar 3) (eTup 1 (aCons (eTup 4 (aCons (eC (.str "zz")) (aCons (eC (.int 0)) (aCons (eC (.int 1)) (aCons (eC (.int 10)) aNil))))) aNil))) (aCons (eVar 4) aNil)))) aNil))))))
    (sRet (eFn 2 F__law_some (aCons (eVar 0) (aCons (eVar 5) aNil)))))))))))
def F__law_no_house : Fd := funOf 7 b__law_no_house
def N__law_no_inputs : List Str := ["hand", "house", "inputs", "odd"]
def b__law_no_inputs : Es :=
    (sSeq (sSet 3 (eLst (aCons (eC .non) (aCons (eCall lstO (aCons (eVar 2) aNil)) (aCons (e2 addO (eVar 2) (eTup 1 (aCons (eTup 0 aNil) aNil))) (aCons (eSl (eVar 2) (pSome (eC (.int 1))) pNone) (aCons (e2 addO (eTup 1 (aCons (e2 addO (e2 ixO (eVar 2) (eC (.int 0))) (eTup 1 (aCons (eC (.int 0)) aNil))) aNil)) (eSl (eVar 2) (pSome (eC (.int 1))) pNone)) (aCons (e2 addO (eTup 1 (aCons (eCall lstO (aCons (e2 ixO (eVar 2) (eC (.int 0))) aNil)) aNil)) (eSl (eVar 2) (pSome (eC (.int 1))) pNone)) (aCons (eC (.str "0")) (aCons (eC (.int 0)) aNil))))))))))
    (sSeq (sIf (asB (e2 gtO (eCall lenO (aCons (e2 ixO (eVar 2) (eC (.int 0))) aNil)) (eC (.int 0))))
    (sSet 3 (e2 addO (eVar 3) (eLst (aCons (e2 addO (eTup 1 (aCons (e2 addO (eTup 1 (aCons (e2 ixO (eVar 1) (eC (.int 0))) aNil)) (eSl (e2 ixO (eVar 2) (eC (.int 0))) (pSome (eC (.int 1))) pNone)) aNil)) (eSl (eVar 2) (pSome (eC (.int 1))) pNone)) (aCons (e2 addO (eTup 1 (aCons (e2 addO (eTup 1 (aCons (eC (.int (-1))) aNil)) (eSl (e2 ixO (eVar 2) (eC (.int 0))) (pSome (eC (.int 1))) pNone)) aNil)) (eSl (eVar 2) (pSome (eC (.int 1))) pNone)) (aCons (e2 addO (eTup 1 (aCons (e2 addO (eTup 1 (aCons (eC .non) aNil)) (eSl (e2 ixO (eVar 2) (eC (.int 0))) (pSome (eC (.int 1))) pNone)) aNil)) (eSl (eVar 2) (pSome (eC (.int 1))) pNone)) (aCons (e2 addO (eTup 1 (aCons (eSl (e2 ixO (eVar 2) (eC (.int 0))) (pSome (eC (.int 1))) pNone) aNil)) (eSl (eVar 2) (pSome (eC (.int 1))) pNone)) aNil)))))))
    sNil)
    (sRet (eFn 2 F__law_some (aCons (eVar 0) (aCons (eVar 3) aNil))))))
def F__law_no_inputs : Fd := funOf 4 b__law_no_inputs
def N__law_outcome : List Str := ["house", "log", "e"]
def b__law_outcome : Es :=
    (sTry subX
    (sRet (eLst (aCons (eC (.str "now")) (aCons (eMt "Live" "now" 1 F_Live_now (eFn 2 F_from_log (aCons (eVar 0) (aCons (eVar 1) aNil))) aNil) aNil))))
    [("NoHouse", some 2, fun _ => (sRet (eLst (aCons (eC (.str "house")) aNil)))), ("BadLog", some 2, suAt 2 "BadLog" "at" "at"), ("HouseError", none, fun _ => (sRet (eLst (aCons (eC (.str "other")) aNil))))])
def F__law_outcome : Fd := funOf 3 b__law_outcome
def N_law : List Str := ["script", "hand", "turn", "first", "house", "log", "step", "at", "odd", "live", "person", "told", "kind", "helped", "flat", "e", "wire", "room", "spot", "said", "body", "pair", "here"]
def b_law : Es :=
    (sSeq (sSet 1 (eFn 1 F__law_hand (aCons (eVar 0) aNil)))
    (sSeq (sFor (iOf (fun ds _ => rngIt1 ds) (aCons (eC (.int 5)) aNil)) (gNm 2)
    (sSeq (sSet 3 (eFn 3 F__law_house (aCons (eVar 1) (aCons (eC (.int 3)) (aCons (eC (.int 2)) aNil)))))
    (sSeq (sAsg (eTup 2 (aCons (eVar 3) (aCons (eLst aNil) aNil))) (gTp 2 (gConss (gNm 4) (gConss (gNm 5) gNils))))
    (sSeq (sFor (iOf (fun ds _ => rngIt1 ds) (aCons (eFn 2 F__law_draw (aCons (eVar 1) (aCons (eC (.int 6)) aNil))) aNil)) (gNm 6)
    (sSeq (sSet 10 (eFn 2 F__law_draw (aCons (eVar 1) (aCons (eCall lenO (aCons (e2 ixO (eVar 4) (eC (.int 2))) aNil)) aNil))))
    (sSeq (sPar 11 12 (aCons (e2 ixO (e2 ixO (eVar 4) (eC (.int 2))) (eVar 10)) (aCons (eFn 2 F__law_draw (aCons (eVar 1) (aCons (eC (.int 3)) aNil))) aNil)))
    (sSeq (sSet 13 (eCall sumO (aCons (eLc (iSeq (e2 ixO (eVar 11) (eC (.int 2)))) (gNm 21) tYes' (eCall lenO (aCons (e2 ixO (eVar 21) (eC (.int 1))) aNil)) [21]) aNil)))
    (sSeq (sSet 14 (eAnd (eCall allO (aCons (eLc (iSeq (e2 ixO (eVar 11) (eC (.int 3)))) (gNm 22) tYes' (e2 ninO (e2 ixO (eVar 22) (eC (.int 0))) (eLst (aCons (eC (.str "if")) (aCons (eC (.str "rounds")) aNil)))) [22]) aNil)) (e2 eqO (eCall lenO (aCons (e2 ixO (eVar 11) (eC (.int 2))) aNil)) (eC (.int 0)))))
    (sIf (tAnd' (asB (e2 eqO (eVar 12) (eC (.int 0)))) (asB (e2 gtO (eCall lenO (aCons (e2 ixO (eVar 4) (eC (.int 1))) aNil)) (eC (.int 0)))))
    (sSeq (sAsg (eTup 2 (aCons (eFn 2 F__law_draw (aCons (eVar 1) (aCons (eCall lenO (aCons (e2 ixO (eVar 4) (eC (.int 1))) aNil)) aNil))) (aCons (eFn 2 F__law_draw (aCons (eVar 1) (aCons (eC (.int 10)) aNil))) aNil))) (gTp 2 (gConss (gNm 16) (gConss (gNm 17) gNils))))
    (sSeq (sExp (eMeth appO (eVar 5) (aCons (eTup 3 (aCons (eC (.str "room")) (aCons (eVar 16) (aCons (eVar 17) aNil)))) aNil)))
    (sSet 4 (eFn 2 F__law_roomed (aCons (eVar 4) (aCons (eLc (iOf (fun ds _ => rngIt1 ds) (aCons (eCall lenO (aCons (e2 ixO (eVar 4) (eC (.int 1))) aNil)) aNil)) (gNm 7) tYes' (eIf (asB (e2 eqO (eVar 7) (eVar 16))) (eVar 17) (e2 ixO (e2 ixO (e2 ixO (eVar 4) (eC (.int 1))) (eVar 7)) (eC (.int 3)))) [7]) aNil))))))
    (sIf (tAnd' (asB (eVar 14)) (asB (e2 ltO (eCall lenO (aCons (e2 ixO (eVar 11) (eC (.int 3))) aNil)) (eC (.int 50)))))
    (sSeq (sPar 18 19 (aCons (eFn 2 F__law_draw (aCons (eVar 1) (aCons (e2 addO (eCall lenO (aCons (e2 ixO (eVar 11) (eC (.int 3))) aNil)) (eC (.int 1))) aNil))) (aCons (eTup 2 (aCons (eC (.str "say")) (aCons (eTup 2 (aCons (eC (.str "number")) (aCons (eFn 2 F__law_draw (aCons (eVar 1) (aCons (e2 ixO (eVar 4) (eC (.int 0))) aNil))) aNil))) aNil))) aNil)))
    (sSeq (sExp (eMeth appO (eVar 5) (aCons (eTup 4 (aCons (eC (.str "put")) (aCons (eVar 10) (aCons (eVar 18) (aCons (eVar 19) aNil))))) aNil)))
    (sSeq (sSet 20 (e2 addO (e2 addO (eSl (e2 ixO (eVar 11) (eC (.int 3))) pNone (pSome (eVar 18))) (eTup 1 (aCons (eVar 19) aNil))) (eSl (e2 ixO (eVar 11) (eC (.int 3))) (pSome (eVar 18)) pNone)))
    (sSet 4 (eTup 3 (aCons (e2 ixO (eVar 4) (eC (.int 0))) (aCons (e2 ixO (eVar 4) (eC (.int 1))) (aCons (e2 addO (e2 addO (eSl (e2 ixO (eVar 4) (eC (.int 2))) pNone (pSome (eVar 10))) (eTup 1 (aCons (e2 addO (eSl (eVar 11) pNone (pSome (eC (.int 3)))) (eTup 1 (aCons (eVar 20) aNil))) aNil))) (eSl (e2 ixO (eVar 4) (eC (.int 2))) (pSome (e2 addO (eVar 10) (eC (.int 1)))) pNone)) aNil))))))))
    sNil)))))))
    (sSeq (sIf (tOr' (tNot' (asB (eFn 2 (F__law_kept 60) (aCons (eFn 2 F__law_outcome (aCons (eVar 3) (aCons (eCall lstO (aCons (eVar 5) aNil)) aNil))) (aCons (eLst (aCons (eC (.str "now")) (aCons (eVar 4) aNil))) aNil))))) (tNot' (asB (eFn 2 (F__law_kept 60) (aCons (eFn 2 F__law_outcome (aCons (eVar 3) (aCons (eLst aNil) aNil))) (aCons (eLst (aCons (eC (.str "now")) (aCons (eVar 3) aNil))) aNil))))))
    (sRet (eC (.bl false)))
    sNil)
    (sSeq (sSet 7 (eFn 2 F__law_draw (aCons (eVar 1) (aCons (e2 addO (eCall lenO (aCons (eVar 5) aNil)) (eC (.int 1))) aNil))))
    (sSeq (sSet 8 (eLst (aCons (eTup 3 (aCons (eC (.str "put")) (aCons (eC (.int 0)) (aCons (eC (.int 0)) aNil)))) (aCons (eTup 4 (aCons (eC (.str "put")) (aCons (eC (.int 9)) (aCons (eC (.int 0)) (aCons (eTup 2 (aCons (eC (.str "say")) (aCons (eTup 2 (aCons (eC (.str "number")) (aCons (eC (.int 1)) aNil))) aNil))) aNil))))) (aCons (eTup 4 (aCons (eC (.str "put")) (aCons (eC (.int 0)) (aCons (eC (.int 0)) (aCons (eTup 1 (aCons (eC (.str "say")) aNil)) aNil))))) (aCons (eTup 2 (aCons (eC (.str "drop")) (aCons (eC (.int 0)) aNil))) (aCons (eTup 3 (aCons (eC (.str "drop")) (aCons (eC (.int 0)) (aCons (eC (.int 9999)) aNil)))) (aCons (eTup 3 (aCons (eC (.str "room")) (aCons (eC (.int 99)) (aCons (eC (.int 1)) aNil)))) (aCons (eTup 2 (aCons (eC (.str "room")) (aCons (eC (.int 0)) aNil))) (aCons (eTup 0 aNil) aNil))))))))))
    (sSeq (sSet 8 (e2 addO (eVar 8) (eLst (aCons (eC .non) (aCons (eC (.str "put")) (aCons (eLst (aCons (eC (.str "drop")) (aCons (eC (.int 0)) (aCons (eC (.int 0)) aNil)))) (aCons (eTup 4 (aCons (eC (.str "Put")) (aCons (eC (.int 0)) (aCons (eC (.int 0)) (aCons (eC (.int 0)) aNil))))) (aCons (eTup 3 (aCons (eC (.int 0)) (aCons (eC (.int 0)) (aCons (eC (.int 0)) aNil)))) (aCons (eTup 3 (aCons (eC (.str "room")) (aCons (eC (.int 0)) (aCons (eC (.int 10)) aNil)))) (aCons (eTup 4 (aCons (eC (.str "change")) (aCons (eC (.int 0)) (aCons (eC (.int 0)) (aCons (eC .non) aNil))))) (aCons (eTup 1 (aCons (eC (.str "undo")) aNil)) (aCons (eTup 4 (aCons (eC (.str "put")) (aCons (eC (.int 0)) (aCons (eC (.int 0)) (aCons (eC .non) aNil))))) (aCons (eC (.int 7)) (aCons eDnew (aCons (eTup 1 (aCons (eC .non) aNil)) aNil)))))))))))))))
    (sSeq (sIf (tNot' (asB (eFn 2 (F__law_kept 60) (aCons (eFn 2 F__law_outcome (aCons (eVar 3) (aCons (e2 addO (e2 addO (eSl (eVar 5) pNone (pSome (eVar 7))) (eLst (aCons (eFn 2 F__law_some (aCons (eVar 1) (aCons (eVar 8) aNil))) aNil))) (eSl (eVar 5) (pSome (eVar 7)) pNone)) aNil))) (aCons (eLst (aCons (eC (.str "at")) (aCons (eVar 7) aNil))) aNil)))))
    (sRet (eC (.bl false)))
    sNil)
    (sSeq (sIf (tOr' (asB (e2 neO (eFn 2 F__law_outcome (aCons (eVar 3) (aCons (eFn 2 F__law_some (aCons (eVar 1) (aCons (eLst (aCons (eC .non) (aCons (eCall tupO (aCons (eVar 5) aNil)) (aCons (eC (.str "log")) (aCons (eC (.int 0)) (aCons eDnew aNil)))))) aNil))) aNil))) (eLst (aCons (eC (.str "at")) (aCons (eC (.int (-1))) aNil))))) (asB (e2 neO (eFn 2 F__law_outcome (aCons (eFn 2 F__law_no_house (aCons (eVar 1) (aCons (eVar 3) aNil))) (aCons (eLst aNil) aNil))) (eLst (aCons (eC (.str "house")) aNil)))))
    (sRet (eC (.bl false)))
    sNil)
    (sSeq (sSet 9 (eMk "Live" 2 F_Live___init__ (aCons (eVar 3) aNil)))
    (sSeq (sTry subX
    (sSeq (sExp (eMt "Live" "end" 2 F_Live_end (eVar 9) (aCons (eFn 3 F__law_no_inputs (aCons (eVar 1) (aCons (eVar 3) (aCons (eFn 2 F__law_inputs (aCons (eVar 1) (aCons (eVar 3) aNil))) aNil)))) aNil)))
    (sRet (eC (.bl false))))
    [("NoInputs", some 15, fun _ => (sSet 8 (eLst aNil))), ("HouseError", none, fun _ => (sRet (eC (.bl false))))])
    (sTry subX
    (sSeq (sExp (eMt "Live" "behaviour" 2 F_Live_behaviour (eVar 9) (aCons (eFn 2 F__law_some (aCons (eVar 1) (aCons (eLst (aCons (eC (.int (-1))) (aCons (eCall lenO (aCons (e2 ixO (eVar 3) (eC (.int 2))) aNil)) (aCons (eC .non) (aCons (eC (.bl true)) (aCons (eC (.str "0")) aNil)))))) aNil))) aNil)))
    (sRet (eC (.bl false))))
    [("NoPerson", some 15, fun _ => (sSet 8 (eLst aNil))), ("HouseError", none, fun _ => (sRet (eC (.bl false))))])))))))))))))
    (sRet (eC (.bl true)))))
def F_law : Fd := funOf 23 b_law
end Z

set_option Elab.async false
set_option linter.all false
set_option maxRecDepth 100000
set_option maxHeartbeats 0
namespace Z
open PySem PySem.Spec PyProof.Rows L2 Y
abbrev st_is_integer : Stmt := top 17
theorem sc_is_integer : FnScope N_is_integer ["thing"] (defScope st_is_integer) := C8.fnScope_by (by decide +kernel)
theorem w_is_integer {P : Program} {w : World} {K : PySem.W.Frag} {mg : Str → Option Value} {base : Heap} (G : Fx P w K mg base) {f : Addr} : BodyOk P w K mg base N_is_integer "is_integer" (defScope st_is_integer) f (defBody st_is_integer) (0) (b_is_integer) := by
  intro cdv A outer s H E hr
  have hN : N_is_integer.Nodup := sc_is_integer.nd
  have tk := takes_of (X := cxOf (L2.CX P w) P w K mg base N_is_integer "is_integer" (defScope st_is_integer) f cdv A outer s H E) (E := E) rfl rfl rfl rfl
  have hp := passes_of (X := cxOf (L2.CX P w) P w K mg base N_is_integer "is_integer" (defScope st_is_integer) f cdv A outer s H E) rfl
  have hu := hr.units
  have hu1 : _ + 1 < _ := Nat.lt_of_le_of_lt (Nat.add_le_add_left (by decide : 1 ≤ 64) _) hu
  exact (fss_one (fs_ret (fe_and (fe_isi rfl G.f_isinstance rfl G.f_int PyProof.Rows.Boot.«int» (fe_var 0)) (fe_one (fe_not (fe_isi rfl G.f_isinstance rfl G.f_bool PyProof.Rows.Boot.«bool» (fe_var 0)))))))
theorem ok_is_integer {P : Program} {w : World} {K : PySem.W.Frag} {mg : Str → Option Value} {base : Heap} (G : Fx P w K mg base) : Fok P w K mg base "is_integer" (1) 1 F_is_integer := by
  obtain ⟨fd, F⟩ := G.d_is_integer
  exact fok_of F G.g_is_integer sc_is_integer rfl (FunD.bindsN (ps := ["thing"]) F fun _ _ _ _ _ _ us hl => match us, hl with | [_], _ => rfl) (w_is_integer G)
abbrev st_is_between : Stmt := top 18
theorem sc_is_between : FnScope N_is_between ["thing", "least", "greatest"] (defScope st_is_between) := C8.fnScope_by (by decide +kernel)
theorem w_is_between {P : Program} {w : World} {K : PySem.W.Frag} {mg : Str → Option Value} {base : Heap} (G : Fx P w K mg base) {f : Addr} : BodyOk P w K mg base N_is_between "is_between" (defScope st_is_between) f (defBody st_is_between) (1) (b_is_between) := by
  intro cdv A outer s H E hr
  have hN : N_is_between.Nodup := sc_is_between.nd
  have tk := takes_of (X := cxOf (L2.CX P w) P w K mg base N_is_between "is_between" (defScope st_is_between) f cdv A outer s H E) (E := E) rfl rfl rfl rfl
  have hp := passes_of (X := cxOf (L2.CX P w) P w K mg base N_is_between "is_between" (defScope st_is_between) f cdv A outer s H E) rfl
  have hu := hr.units
  have hu1 : _ + 1 < _ := Nat.lt_of_le_of_lt (Nat.add_le_add_left (by decide : 1 ≤ 64) _) hu
  exact (fss_one (fs_ret (fe_and (fe_fn (ok_is_integer G) tk hr (by omega) rfl (fa_cons (fe_var 0) fa_nil)) (fe_one (fe_chain o_le o_le (fe_var 1) (fe_var 0) (fe_var 2))))))
theorem ok_is_between {P : Program} {w : World} {K : PySem.W.Frag} {mg : Str → Option Value} {base : Heap} (G : Fx P w K mg base) : Fok P w K mg base "is_between" (2) 3 F_is_between := by
  obtain ⟨fd, F⟩ := G.d_is_between
  exact fok_of F G.g_is_between sc_is_between rfl (FunD.bindsN (ps := ["thing", "least", "greatest"]) F fun _ _ _ _ _ _ us hl => match us, hl with | [_, _, _], _ => rfl) (w_is_between G)
abbrev st_is_name : Stmt := top 19
theorem sc_is_name : FnScope N_is_name ["thing"] (defScope st_is_name) := C8.fnScope_by (by decide +kernel)
theorem w_is_name {P : Program} {w : World} {K : PySem.W.Frag} {mg : Str → Option Value} {base : Heap} (G : Fx P w K mg base) {f : Addr} : BodyOk P w K mg base N_is_name "is_name" (defScope st_is_name) f (defBody st_is_name) (0) (b_is_name) := by
  intro cdv A outer s H E hr
  have hN : N_is_name.Nodup := sc_is_name.nd
  have tk := takes_of (X := cxOf (L2.CX P w) P w K mg base N_is_name "is_name" (defScope st_is_name) f cdv A outer s H E) (E := E) rfl rfl rfl rfl
  have hp := passes_of (X := cxOf (L2.CX P w) P w K mg base N_is_name "is_name" (defScope st_is_name) f cdv A outer s H E) rfl
  have hu := hr.units
  have hu1 : _ + 1 < _ := Nat.lt_of_le_of_lt (Nat.add_le_add_left (by decide : 1 ≤ 64) _) hu
  exact (fss_cons (fs_if (fw_test (fw_or (ft_not (ft_val (fe_isi rfl G.f_isinstance rfl G.f_str PyProof.Rows.Boot.«str» (fe_var 0)))) (fw_or (ft_not (ft_chain o_le o_le fe_int (fe_callB o_len rfl G.f_len PyProof.Rows.Boot.«len» (fa_cons (fe_var 0) fa_nil)) fe_int)) (fw_or1 (ft_cmp (o_in) (fe_var 0) (fe_gtup rfl G.t_WORDS) rfl)))))
    (fss_one (fs_ret fe_bl))
    fss_nil)
    (fss_one (fs_ret (fe_callB (o_all rfl) rfl G.f_all PyProof.Rows.Boot.«all» (fa_cons (fe_lc rfl hN (fi_seq (fe_var 0)) (own := [("letter", 1)]) (blkOk_by (by kernel_rfl)) (by decide) (fun s H C cl fp => (fw_name (i := 1) hN rfl (.inl rfl))) (fun s H C cl fp => fts_nil) (fun s H C cl fp => (fe_cmp (o_in) (fe_var 1) (fe_gstr rfl G.s_LETTERS) rfl))) fa_nil)))))
theorem ok_is_name {P : Program} {w : World} {K : PySem.W.Frag} {mg : Str → Option Value} {base : Heap} (G : Fx P w K mg base) : Fok P w K mg base "is_name" (1) 1 F_is_name := by
  obtain ⟨fd, F⟩ := G.d_is_name
  exact fok_of F G.g_is_name sc_is_name rfl (FunD.bindsN (ps := ["thing"]) F fun _ _ _ _ _ _ us hl => match us, hl with | [_], _ => rfl) (w_is_name G)
abbrev st_inner_of : Stmt := top 20
theorem sc_inner_of : FnScope N_inner_of ["thing"] (defScope st_inner_of) := C8.fnScope_by (by decide +kernel)
theorem w_inner_of {P : Program} {w : World} {K : PySem.W.Frag} {mg : Str → Option Value} {base : Heap} (G : Fx P w K mg base) {f : Addr} : BodyOk P w K mg base N_inner_of "inner_of" (defScope st_inner_of) f (defBody st_inner_of) (0) (b_inner_of) := by
  intro cdv A outer s H E hr
  have hN : N_inner_of.Nodup := sc_inner_of.nd
  have tk := takes_of (X := cxOf (L2.CX P w) P w K mg base N_inner_of "inner_of" (defScope st_inner_of) f cdv A outer s H E) (E := E) rfl rfl rfl rfl
  have hp := passes_of (X := cxOf (L2.CX P w) P w K mg base N_inner_of "inner_of" (defScope st_inner_of) f cdv A outer s H E) rfl
  have hu := hr.units
  have hu1 : _ + 1 < _ := Nat.lt_of_le_of_lt (Nat.add_le_add_left (by decide : 1 ≤ 64) _) hu
  exact (fss_cons (fs_if (fw_test (fw_or (ft_not (ft_val (fe_isi rfl G.f_isinstance rfl G.f_tuple PyProof.Rows.Boot.«tuple» (fe_var 0)))) (fw_or (ft_cmp o_lt (fe_callB o_len rfl G.f_len PyProof.Rows.Boot.«len» (fa_cons (fe_var 0) fa_nil)) fe_int rfl) (fw_or1 (ft_not (ft_val (fe_isi rfl G.f_isinstance rfl G.f_str PyProof.Rows.Boot.«str» (fe_ix (fe_var 0) fe_int))))))))
    (fss_one (fs_ret fe_non))
    fss_nil)
    (fss_cons (fs_if (ft_cmp (o_in) (fe_ix (fe_var 0) fe_int) (fe_tup (fa_cons fe_str (fa_cons fe_str fa_nil)) (small_cons (small_cons small_nil))) rfl)
    (fss_one (fs_ret (fe_if (ft_cmp (o_eq hu) (fe_callB o_len rfl G.f_len PyProof.Rows.Boot.«len» (fa_cons (fe_var 0) fa_nil)) fe_int rfl) (fe_lst fa_nil small_nil) fe_non)))
    fss_nil)
    (fss_cons (fs_if (ft_cmp (o_eq hu) (fe_ix (fe_var 0) fe_int) fe_str rfl)
    (fss_one (fs_ret (fe_if (ft_cmp (o_eq hu) (fe_callB o_len rfl G.f_len PyProof.Rows.Boot.«len» (fa_cons (fe_var 0) fa_nil)) fe_int rfl) (fe_lst (fa_cons (fe_ix (fe_var 0) fe_int) fa_nil) (small_cons small_nil)) fe_non)))
    fss_nil)
    (fss_one (fs_ret (fe_if (fw_test (fw_and (ft_cmp (o_in) (fe_ix (fe_var 0) fe_int) (fe_gtup rfl G.t_SIGNS) rfl) (fw_and1 (ft_cmp (o_eq hu) (fe_callB o_len rfl G.f_len PyProof.Rows.Boot.«len» (fa_cons (fe_var 0) fa_nil)) fe_int rfl)))) (fe_lst (fa_cons (fe_ix (fe_var 0) fe_int) (fa_cons (fe_ix (fe_var 0) fe_int) fa_nil)) (small_cons (small_cons small_nil))) fe_non))))))
theorem ok_inner_of {P : Program} {w : World} {K : PySem.W.Frag} {mg : Str → Option Value} {base : Heap} (G : Fx P w K mg base) : Fok P w K mg base "inner_of" (1) 1 F_inner_of := by
  obtain ⟨fd, F⟩ := G.d_inner_of
  exact fok_of F G.g_inner_of sc_inner_of rfl (FunD.bindsN (ps := ["thing"]) F fun _ _ _ _ _ _ us hl => match us, hl with | [_], _ => rfl) (w_inner_of G)
abbrev st_is_leaf_right : Stmt := top 21
theorem sc_is_leaf_right : FnScope N_is_leaf_right ["thing", "modulus"] (defScope st_is_leaf_right) := C8.fnScope_by (by decide +kernel)
theorem w_is_leaf_right {P : Program} {w : World} {K : PySem.W.Frag} {mg : Str → Option Value} {base : Heap} (G : Fx P w K mg base) {f : Addr} : BodyOk P w K mg base N_is_leaf_right "is_leaf_right" (defScope st_is_leaf_right) f (defBody st_is_leaf_right) (2) (b_is_leaf_right) := by
  intro cdv A outer s H E hr
  have hN : N_is_leaf_right.Nodup := sc_is_leaf_right.nd
  have tk := takes_of (X := cxOf (L2.CX P w) P w K mg base N_is_leaf_right "is_leaf_right" (defScope st_is_leaf_right) f cdv A outer s H E) (E := E) rfl rfl rfl rfl
  have hp := passes_of (X := cxOf (L2.CX P w) P w K mg base N_is_leaf_right "is_leaf_right" (defScope st_is_leaf_right) f cdv A outer s H E) rfl
  have hu := hr.units
  have hu1 : _ + 1 < _ := Nat.lt_of_le_of_lt (Nat.add_le_add_left (by decide : 1 ≤ 64) _) hu
  exact (fss_cons (fs_if (ft_cmp (o_eq hu) (fe_ix (fe_var 0) fe_int) fe_str rfl)
    (fss_one (fs_ret (fe_fn (ok_is_between G) tk hr (by omega) rfl (fa_cons (fe_ix (fe_var 0) fe_int) (fa_cons fe_int (fa_cons (fe_op o_sub (fe_var 1) fe_int) fa_nil))))))
    fss_nil)
    (fss_one (fs_ret (fe_or (fe_cmp (o_ne hu) (fe_ix (fe_var 0) fe_int) fe_str rfl) (fe_one (fe_fn (ok_is_name G) tk hr (by omega) rfl (fa_cons (fe_ix (fe_var 0) fe_int) fa_nil)))))))
theorem ok_is_leaf_right {P : Program} {w : World} {K : PySem.W.Frag} {mg : Str → Option Value} {base : Heap} (G : Fx P w K mg base) : Fok P w K mg base "is_leaf_right" (3) 2 F_is_leaf_right := by
  obtain ⟨fd, F⟩ := G.d_is_leaf_right
  exact fok_of F G.g_is_leaf_right sc_is_leaf_right rfl (FunD.bindsN (ps := ["thing", "modulus"]) F fun _ _ _ _ _ _ us hl => match us, hl with | [_, _], _ => rfl) (w_is_leaf_right G)
abbrev st_is_expression_of : Stmt := top 22
theorem sc_is_expression_of : FnScope N_is_expression_of ["modulus", "thing"] (defScope st_is_expression_of) := C8.fnScope_by (by decide +kernel)
theorem w_is_expression_of {P : Program} {w : World} {K : PySem.W.Frag} {mg : Str → Option Value} {base : Heap} (G : Fx P w K mg base) {f : Addr} : BodyOk P w K mg base N_is_expression_of "is_expression_of" (defScope st_is_expression_of) f (defBody st_is_expression_of) (3) (b_is_expression_of) := by
  intro cdv A outer s H E hr
  have hN : N_is_expression_of.Nodup := sc_is_expression_of.nd
  have tk := takes_of (X := cxOf (L2.CX P w) P w K mg base N_is_expression_of "is_expression_of" (defScope st_is_expression_of) f cdv A outer s H E) (E := E) rfl rfl rfl rfl
  have hp := passes_of (X := cxOf (L2.CX P w) P w K mg base N_is_expression_of "is_expression_of" (defScope st_is_expression_of) f cdv A outer s H E) rfl
  have hu := hr.units
  have hu1 : _ + 1 < _ := Nat.lt_of_le_of_lt (Nat.add_le_add_left (by decide : 1 ≤ 64) _) hu
  exact (fss_cons (fs_set (i := 2) hN rfl (.inl rfl) (fe_lst (fa_cons (fe_var 1) fa_nil) (small_cons small_nil)))
    (fss_cons (fs_for hp rfl (fi_range1 rfl G.f_range (fa_cons (fe_gint rfl G.i_MOST_DEPTH) fa_nil)) (fg_name (i := 3) hN rfl (.inl rfl))
    (fss_cons (fs_set (i := 4) hN rfl (.inl rfl) (fe_lst fa_nil small_nil))
    (fss_cons (fs_for hp rfl (fi_seq (fe_var 2)) (fg_name (i := 5) hN rfl (.inl rfl))
    (fss_cons (fs_set (i := 6) hN rfl (.inl rfl) (fe_fn (ok_inner_of G) tk hr (by omega) rfl (fa_cons (fe_var 5) fa_nil)))
    (fss_cons (fs_if (fw_test (fw_or (ft_cmp o_isN (fe_var 6) fe_non rfl) (fw_or1 (ft_not (ft_val (fe_fn (ok_is_leaf_right G) tk hr (by omega) rfl (fa_cons (fe_var 5) (fa_cons (fe_var 0) fa_nil))))))))
    (fss_one (fs_ret fe_bl))
    fss_nil)
    (fss_one (fs_expr (fe_meth PySem.F.slot_list_extend PySem.F.type_list_extend o_ext (fe_var 4) (fa_cons (fe_var 6) fa_nil)))))))
    (fss_one (fs_set (i := 2) hN rfl (.inl rfl) (fe_var 4))))))
    (fss_one (fs_ret (fe_cmp (o_eq hu) (fe_callB o_len rfl G.f_len PyProof.Rows.Boot.«len» (fa_cons (fe_var 2) fa_nil)) fe_int rfl)))))
theorem ok_is_expression_of {P : Program} {w : World} {K : PySem.W.Frag} {mg : Str → Option Value} {base : Heap} (G : Fx P w K mg base) : Fok P w K mg base "is_expression_of" (4) 2 F_is_expression_of := by
  obtain ⟨fd, F⟩ := G.d_is_expression_of
  exact fok_of F G.g_is_expression_of sc_is_expression_of rfl (FunD.bindsN (ps := ["modulus", "thing"]) F fun _ _ _ _ _ _ us hl => match us, hl with | [_, _], _ => rfl) (w_is_expression_of G)
abbrev st_names_in : Stmt := top 23
theorem sc_names_in : FnScope N_names_in ["expression"] (defScope st_names_in) := C8.fnScope_by (by decide +kernel)
theorem w_names_in {P : Program} {w : World} {K : PySem.W.Frag} {mg : Str → Option Value} {base : Heap} (G : Fx P w K mg base) {f : Addr} : BodyOk P w K mg base N_names_in "names_in" (defScope st_names_in) f (defBody st_names_in) (0) (b_names_in) := by
  intro cdv A outer s H E hr
  have hN : N_names_in.Nodup := sc_names_in.nd
  have tk := takes_of (X := cxOf (L2.CX P w) P w K mg base N_names_in "names_in" (defScope st_names_in) f cdv A outer s H E) (E := E) rfl rfl rfl rfl
  have hp := passes_of (X := cxOf (L2.CX P w) P w K mg base N_names_in "names_in" (defScope st_names_in) f cdv A outer s H E) rfl
  have hu := hr.units
  have hu1 : _ + 1 < _ := Nat.lt_of_le_of_lt (Nat.add_le_add_left (by decide : 1 ≤ 64) _) hu
  exact (fss_cons (fs_set (i := 1) hN rfl (.inl rfl) (fe_lst fa_nil small_nil))
    (fss_cons (fs_set (i := 2) hN rfl (.inl rfl) (fe_lst (fa_cons (fe_var 0) fa_nil) (small_cons small_nil)))
    (fss_cons (fs_while hp (ft_cmp o_gt (fe_callB o_len rfl G.f_len PyProof.Rows.Boot.«len» (fa_cons (fe_var 2) fa_nil)) fe_int rfl)
    (fss_cons (fs_set (i := 3) hN rfl (.inl rfl) (fe_meth0 PySem.F.slot_list_pop PySem.F.type_list_pop o_pop (fe_var 2)))
    (fss_one (fs_if (ft_cmp (o_eq hu) (fe_ix (fe_var 3) fe_int) fe_str rfl)
    (fss_one (fs_if (ft_cmp (o_nin) (fe_ix (fe_var 3) fe_int) (fe_var 1) rfl)
    (fss_one (fs_expr (fe_meth PySem.F.slot_list_append PySem.F.type_list_append o_app (fe_var 1) (fa_cons (fe_ix (fe_var 3) fe_int) fa_nil))))
    fss_nil))
    (fss_one (fs_if (ft_cmp (o_ne hu) (fe_ix (fe_var 3) fe_int) fe_str rfl)
    (fss_one (fs_expr (fe_meth PySem.F.slot_list_extend PySem.F.type_list_extend o_ext (fe_var 2) (fa_cons (fe_rev (fe_slice (fe_var 3) (fo_some fe_int) fo_none)) fa_nil))))
    fss_nil))))))
    (fss_one (fs_ret (fe_var 1))))))
theorem ok_names_in {P : Program} {w : World} {K : PySem.W.Frag} {mg : Str → Option Value} {base : Heap} (G : Fx P w K mg base) : Fok P w K mg base "names_in" (1) 1 F_names_in := by
  obtain ⟨fd, F⟩ := G.d_names_in
  exact fok_of F G.g_names_in sc_names_in rfl (FunD.bindsN (ps := ["expression"]) F fun _ _ _ _ _ _ us hl => match us, hl with | [_], _ => rfl) (w_names_in G)
abbrev st_are_unlike : Stmt := top 35
theorem sc_are_unlike : FnScope N_are_unlike ["items"] (defScope st_are_unlike) := C8.fnScope_by (by decide +kernel)
theorem w_are_unlike {P : Program} {w : World} {K : PySem.W.Frag} {mg : Str → Option Value} {base : Heap} (G : Fx P w K mg base) {f : Addr} : BodyOk P w K mg base N_are_unlike "are_unlike" (defScope st_are_unlike) f (defBody st_are_unlike) (0) (b_are_unlike) := by
  intro cdv A outer s H E hr
  have hN : N_are_unlike.Nodup := sc_are_unlike.nd
  have tk := takes_of (X := cxOf (L2.CX P w) P w K mg base N_are_unlike "are_unlike" (defScope st_are_unlike) f cdv A outer s H E) (E := E) rfl rfl rfl rfl
  have hp := passes_of (X := cxOf (L2.CX P w) P w K mg base N_are_unlike "are_unlike" (defScope st_are_unlike) f cdv A outer s H E) rfl
  have hu := hr.units
  have hu1 : _ + 1 < _ := Nat.lt_of_le_of_lt (Nat.add_le_add_left (by decide : 1 ≤ 64) _) hu
  exact (fss_one (fs_ret (fe_cmp (o_eq hu) (fe_callB o_len rfl G.f_len PyProof.Rows.Boot.«len» (fa_cons (fe_dc rfl hN (fi_seq (fe_var 0)) (own := [("item", 1)]) (blkOk_by (by kernel_rfl)) (by decide) (fun s H C cl fp => (fw_name (i := 1) hN rfl (.inl rfl))) (fun s H C cl fp => fts_nil) (fun s H C cl fp => (fe_var 1)) (fun s H C cl fp => fe_bl)) fa_nil)) (fe_callB o_len rfl G.f_len PyProof.Rows.Boot.«len» (fa_cons (fe_var 0) fa_nil)) rfl)))
theorem ok_are_unlike {P : Program} {w : World} {K : PySem.W.Frag} {mg : Str → Option Value} {base : Heap} (G : Fx P w K mg base) : Fok P w K mg base "are_unlike" (1) 1 F_are_unlike := by
  obtain ⟨fd, F⟩ := G.d_are_unlike
  exact fok_of F G.g_are_unlike sc_are_unlike rfl (FunD.bindsN (ps := ["items"]) F fun _ _ _ _ _ _ us hl => match us, hl with | [_], _ => rfl) (w_are_unlike G)
abbrev st_is_wire : Stmt := top 36
theorem sc_is_wire : FnScope N_is_wire ["thing", "many"] (defScope st_is_wire) := C8.fnScope_by (by decide +kernel)
theorem w_is_wire {P : Program} {w : World} {K : PySem.W.Frag} {mg : Str → Option Value} {base : Heap} (G : Fx P w K mg base) {f : Addr} : BodyOk P w K mg base N_is_wire "is_wire" (defScope st_is_wire) f (defBody st_is_wire) (2) (b_is_wire) := by
  intro cdv A outer s H E hr
  have hN : N_is_wire.Nodup := sc_is_wire.nd
  have tk := takes_of (X := cxOf (L2.CX P w) P w K mg base N_is_wire "is_wire" (defScope st_is_wire) f cdv A outer s H E) (E := E) rfl rfl rfl rfl
  have hp := passes_of (X := cxOf (L2.CX P w) P w K mg base N_is_wire "is_wire" (defScope st_is_wire) f cdv A outer s H E) rfl
  have hu := hr.units
  have hu1 : _ + 1 < _ := Nat.lt_of_le_of_lt (Nat.add_le_add_left (by decide : 1 ≤ 64) _) hu
  exact (fss_cons (fs_if (fw_test (fw_or (ft_not (ft_val (fe_isi rfl G.f_isinstance rfl G.f_tuple PyProof.Rows.Boot.«tuple» (fe_var 0)))) (fw_or (ft_cmp (o_ne hu) (fe_callB o_len rfl G.f_len PyProof.Rows.Boot.«len» (fa_cons (fe_var 0) fa_nil)) fe_int rfl) (fw_or1 (ft_not (ft_val (fe_fn (ok_is_name G) tk hr (by omega) rfl (fa_cons (fe_ix (fe_var 0) fe_int) fa_nil))))))))
    (fss_one (fs_ret fe_bl))
    fss_nil)
    (fss_cons (fs_if (fw_test (fw_or (ft_not (ft_val (fe_fn (ok_is_between G) tk hr (by omega) rfl (fa_cons (fe_ix (fe_var 0) fe_int) (fa_cons fe_int (fa_cons (fe_op o_sub (fe_var 1) fe_int) fa_nil)))))) (fw_or (ft_not (ft_val (fe_fn (ok_is_between G) tk hr (by omega) rfl (fa_cons (fe_ix (fe_var 0) fe_int) (fa_cons fe_int (fa_cons (fe_op o_sub (fe_var 1) fe_int) fa_nil)))))) (fw_or1 (ft_cmp (o_eq hu) (fe_ix (fe_var 0) fe_int) (fe_ix (fe_var 0) fe_int) rfl)))))
    (fss_one (fs_ret fe_bl))
    fss_nil)
    (fss_one (fs_ret (fe_fn (ok_is_between G) tk hr (by omega) rfl (fa_cons (fe_ix (fe_var 0) fe_int) (fa_cons fe_int (fa_cons (fe_gint rfl G.i_MOST_ROOM) fa_nil))))))))
theorem ok_is_wire {P : Program} {w : World} {K : PySem.W.Frag} {mg : Str → Option Value} {base : Heap} (G : Fx P w K mg base) : Fok P w K mg base "is_wire" (3) 2 F_is_wire := by
  obtain ⟨fd, F⟩ := G.d_is_wire
  exact fok_of F G.g_is_wire sc_is_wire rfl (FunD.bindsN (ps := ["thing", "many"]) F fun _ _ _ _ _ _ us hl => match us, hl with | [_, _], _ => rfl) (w_is_wire G)
abbrev st_blocks_in : Stmt := top 37
theorem sc_blocks_in : FnScope N_blocks_in ["statement"] (defScope st_blocks_in) := C8.fnScope_by (by decide +kernel)
theorem w_blocks_in {P : Program} {w : World} {K : PySem.W.Frag} {mg : Str → Option Value} {base : Heap} (G : Fx P w K mg base) {f : Addr} : BodyOk P w K mg base N_blocks_in "blocks_in" (defScope st_blocks_in) f (defBody st_blocks_in) (0) (b_blocks_in) := by
  intro cdv A outer s H E hr
  have hN : N_blocks_in.Nodup := sc_blocks_in.nd
  have tk := takes_of (X := cxOf (L2.CX P w) P w K mg base N_blocks_in "blocks_in" (defScope st_blocks_in) f cdv A outer s H E) (E := E) rfl rfl rfl rfl
  have hp := passes_of (X := cxOf (L2.CX P w) P w K mg base N_blocks_in "blocks_in" (defScope st_blocks_in) f cdv A outer s H E) rfl
  have hu := hr.units
  have hu1 : _ + 1 < _ := Nat.lt_of_le_of_lt (Nat.add_le_add_left (by decide : 1 ≤ 64) _) hu
  exact (fss_cons (fs_if (ft_cmp (o_eq hu) (fe_ix (fe_var 0) fe_int) fe_str rfl)
    (fss_one (fs_ret (fe_lst (fa_cons (fe_ix (fe_var 0) fe_int) (fa_cons (fe_ix (fe_var 0) fe_int) fa_nil)) (small_cons (small_cons small_nil)))))
    fss_nil)
    (fss_one (fs_ret (fe_if (ft_cmp (o_eq hu) (fe_ix (fe_var 0) fe_int) fe_str rfl) (fe_lst (fa_cons (fe_ix (fe_var 0) fe_int) fa_nil) (small_cons small_nil)) (fe_lst fa_nil small_nil)))))
theorem ok_blocks_in {P : Program} {w : World} {K : PySem.W.Frag} {mg : Str → Option Value} {base : Heap} (G : Fx P w K mg base) : Fok P w K mg base "blocks_in" (1) 1 F_blocks_in := by
  obtain ⟨fd, F⟩ := G.d_blocks_in
  exact fok_of F G.g_blocks_in sc_blocks_in rfl (FunD.bindsN (ps := ["statement"]) F fun _ _ _ _ _ _ us hl => match us, hl with | [_], _ => rfl) (w_blocks_in G)
end Z

set_option Elab.async false
set_option linter.all false
set_option maxRecDepth 100000
set_option maxHeartbeats 0
namespace Z
open PySem PySem.Spec PyProof.Rows L2 Y
abbrev st_is_statement : Stmt := top 38
theorem sc_is_statement : FnScope N_is_statement ["thing", "modulus", "wires", "helps"] (defScope st_is_statement) := C8.fnScope_by (by decide +kernel)
theorem w_is_statement {P : Program} {w : World} {K : PySem.W.Frag} {mg : Str → Option Value} {base : Heap} (G : Fx P w K mg base) {f : Addr} : BodyOk P w K mg base N_is_statement "is_statement" (defScope st_is_statement) f (defBody st_is_statement) (4) (b_is_statement) := by
  intro cdv A outer s H E hr
  have hN : N_is_statement.Nodup := sc_is_statement.nd
  have tk := takes_of (X := cxOf (L2.CX P w) P w K mg base N_is_statement "is_statement" (defScope st_is_statement) f cdv A outer s H E) (E := E) rfl rfl rfl rfl
  have hp := passes_of (X := cxOf (L2.CX P w) P w K mg base N_is_statement "is_statement" (defScope st_is_statement) f cdv A outer s H E) rfl
  have hu := hr.units
  have hu1 : _ + 1 < _ := Nat.lt_of_le_of_lt (Nat.add_le_add_left (by decide : 1 ≤ 64) _) hu
  exact (fss_cons (fs_if (fw_test (fw_or (ft_not (ft_val (fe_isi rfl G.f_isinstance rfl G.f_tuple PyProof.Rows.Boot.«tuple» (fe_var 0)))) (fw_or (ft_cmp (o_eq hu) (fe_callB o_len rfl G.f_len PyProof.Rows.Boot.«len» (fa_cons (fe_var 0) fa_nil)) fe_int rfl) (fw_or1 (ft_not (ft_val (fe_isi rfl G.f_isinstance rfl G.f_str PyProof.Rows.Boot.«str» (fe_ix (fe_var 0) fe_int))))))))
    (fss_one (fs_ret fe_bl))
    fss_nil)
    (fss_cons (fs_if (fw_test (fw_or (ft_knin G.d_STATEMENTS rfl (fe_ix (fe_var 0) fe_int)) (fw_or1 (ft_cmp (o_ne hu) (fe_callB o_len rfl G.f_len PyProof.Rows.Boot.«len» (fa_cons (fe_var 0) fa_nil)) (fe_kget G.d_STATEMENTS rfl (fe_ix (fe_var 0) fe_int)) rfl))))
    (fss_one (fs_ret fe_bl))
    fss_nil)
    (fss_cons (fs_if (ft_cmp (o_eq hu) (fe_ix (fe_var 0) fe_int) fe_str rfl)
    (fss_one (fs_ret (fe_fn (ok_is_between G) tk hr (by omega) rfl (fa_cons (fe_ix (fe_var 0) fe_int) (fa_cons fe_int (fa_cons (fe_op o_sub (fe_var 3) fe_int) fa_nil))))))
    fss_nil)
    (fss_cons (fs_if (fw_test (fw_and (ft_cmp (o_in) (fe_ix (fe_var 0) fe_int) (fe_tup (fa_cons fe_str (fa_cons fe_str fa_nil)) (small_cons (small_cons small_nil))) rfl) (fw_and1 (ft_not (ft_val (fe_fn (ok_is_between G) tk hr (by omega) rfl (fa_cons (fe_ix (fe_var 0) fe_int) (fa_cons fe_int (fa_cons (fe_op o_sub (fe_var 2) fe_int) fa_nil)))))))))
    (fss_one (fs_ret fe_bl))
    fss_nil)
    (fss_cons (fs_if (ft_cmp (o_eq hu) (fe_ix (fe_var 0) fe_int) fe_str rfl)
    (fss_one (fs_ret (fe_fn (ok_is_name G) tk hr (by omega) rfl (fa_cons (fe_ix (fe_var 0) fe_int) fa_nil))))
    fss_nil)
    (fss_cons (fs_if (fw_test (fw_and (ft_cmp (o_eq hu) (fe_ix (fe_var 0) fe_int) fe_str rfl) (fw_and1 (ft_not (ft_val (fe_fn (ok_is_name G) tk hr (by omega) rfl (fa_cons (fe_ix (fe_var 0) fe_int) fa_nil)))))))
    (fss_one (fs_ret fe_bl))
    fss_nil)
    (fss_one (fs_ret (fe_fn (ok_is_expression_of G) tk hr (by omega) rfl (fa_cons (fe_var 1) (fa_cons (fe_if (ft_cmp (o_in) (fe_ix (fe_var 0) fe_int) (fe_tup (fa_cons fe_str (fa_cons fe_str fa_nil)) (small_cons (small_cons small_nil))) rfl) (fe_ix (fe_var 0) fe_int) (fe_ix (fe_var 0) fe_int)) fa_nil)))))))))))
theorem ok_is_statement {P : Program} {w : World} {K : PySem.W.Frag} {mg : Str → Option Value} {base : Heap} (G : Fx P w K mg base) : Fok P w K mg base "is_statement" (5) 4 F_is_statement := by
  obtain ⟨fd, F⟩ := G.d_is_statement
  exact fok_of F G.g_is_statement sc_is_statement rfl (FunD.bindsN (ps := ["thing", "modulus", "wires", "helps"]) F fun _ _ _ _ _ _ us hl => match us, hl with | [_, _, _, _], _ => rfl) (w_is_statement G)
abbrev st_is_block : Stmt := top 39
theorem sc_is_block : FnScope N_is_block ["thing", "modulus", "wires", "helps"] (defScope st_is_block) := C8.fnScope_by (by decide +kernel)
theorem w_is_block {P : Program} {w : World} {K : PySem.W.Frag} {mg : Str → Option Value} {base : Heap} (G : Fx P w K mg base) {f : Addr} : BodyOk P w K mg base N_is_block "is_block" (defScope st_is_block) f (defBody st_is_block) (5) (b_is_block) := by
  intro cdv A outer s H E hr
  have hN : N_is_block.Nodup := sc_is_block.nd
  have tk := takes_of (X := cxOf (L2.CX P w) P w K mg base N_is_block "is_block" (defScope st_is_block) f cdv A outer s H E) (E := E) rfl rfl rfl rfl
  have hp := passes_of (X := cxOf (L2.CX P w) P w K mg base N_is_block "is_block" (defScope st_is_block) f cdv A outer s H E) rfl
  have hu := hr.units
  have hu1 : _ + 1 < _ := Nat.lt_of_le_of_lt (Nat.add_le_add_left (by decide : 1 ≤ 64) _) hu
  exact (fss_cons (fs_set (i := 4) hN rfl (.inl rfl) (fe_lst (fa_cons (fe_var 0) fa_nil) (small_cons small_nil)))
    (fss_cons (fs_for hp rfl (fi_range1 rfl G.f_range (fa_cons (fe_gint rfl G.i_MOST_NESTED) fa_nil)) (fg_name (i := 5) hN rfl (.inl rfl))
    (fss_cons (fs_set (i := 6) hN rfl (.inl rfl) (fe_lst fa_nil small_nil))
    (fss_cons (fs_for hp rfl (fi_seq (fe_var 4)) (fg_name (i := 7) hN rfl (.inl rfl))
    (fss_cons (fs_if (fw_test (fw_or (ft_not (ft_val (fe_isi rfl G.f_isinstance rfl G.f_tuple PyProof.Rows.Boot.«tuple» (fe_var 7)))) (fw_or1 (ft_cmp o_gt (fe_callB o_len rfl G.f_len PyProof.Rows.Boot.«len» (fa_cons (fe_var 7) fa_nil)) (fe_gint rfl G.i_MOST_LONG) rfl))))
    (fss_one (fs_ret fe_bl))
    fss_nil)
    (fss_cons (fs_if (ft_not (ft_val (fe_callB (o_all rfl) rfl G.f_all PyProof.Rows.Boot.«all» (fa_cons (fe_lc rfl hN (fi_seq (fe_var 7)) (own := [("here", 8)]) (blkOk_by (by kernel_rfl)) (by decide) (fun s H C cl fp => (fw_name (i := 8) hN rfl (.inl rfl))) (fun s H C cl fp => fts_nil) (fun s H C cl fp => (fe_fn (ok_is_statement G) takes_none5 hr (by omega) rfl (fa_cons (fe_var 8) (fa_cons (fe_var 1) (fa_cons (fe_var 2) (fa_cons (fe_var 3) fa_nil))))))) fa_nil))))
    (fss_one (fs_ret fe_bl))
    fss_nil)
    (fss_one (fs_expr (fe_meth PySem.F.slot_list_extend PySem.F.type_list_extend o_ext (fe_var 6) (fa_cons (fe_lc2 rfl hN (fi_seq (fe_var 7)) (own := [("here", 8), ("inner", 9)]) (blkOk_by (by kernel_rfl)) (by decide) (by decide) (by decide) (fun s H C cl fp => (fw_name (i := 8) hN rfl (.inl rfl))) (fun s H C cl fp => fts_nil) (fun s H C cl fp => (fi_seq (fe_fn (ok_blocks_in G) takes_none5 hr (by omega) rfl (fa_cons (fe_var 8) fa_nil)))) (fun s H C cl fp => (fw_name (i := 9) hN rfl (.inl rfl))) (fun s H C cl fp => fts_nil) (fun s H C cl fp => (fe_var 9))) fa_nil)))))))
    (fss_one (fs_set (i := 4) hN rfl (.inl rfl) (fe_var 6))))))
    (fss_one (fs_ret (fe_cmp (o_eq hu) (fe_callB o_len rfl G.f_len PyProof.Rows.Boot.«len» (fa_cons (fe_var 4) fa_nil)) fe_int rfl)))))
theorem ok_is_block {P : Program} {w : World} {K : PySem.W.Frag} {mg : Str → Option Value} {base : Heap} (G : Fx P w K mg base) : Fok P w K mg base "is_block" (6) 4 F_is_block := by
  obtain ⟨fd, F⟩ := G.d_is_block
  exact fok_of F G.g_is_block sc_is_block rfl (FunD.bindsN (ps := ["thing", "modulus", "wires", "helps"]) F fun _ _ _ _ _ _ us hl => match us, hl with | [_, _, _, _], _ => rfl) (w_is_block G)
abbrev st_is_help : Stmt := top 40
theorem sc_is_help : FnScope N_is_help ["thing", "modulus", "wires", "helps"] (defScope st_is_help) := C8.fnScope_by (by decide +kernel)
theorem w_is_help {P : Program} {w : World} {K : PySem.W.Frag} {mg : Str → Option Value} {base : Heap} (G : Fx P w K mg base) {f : Addr} : BodyOk P w K mg base N_is_help "is_help" (defScope st_is_help) f (defBody st_is_help) (6) (b_is_help) := by
  intro cdv A outer s H E hr
  have hN : N_is_help.Nodup := sc_is_help.nd
  have tk := takes_of (X := cxOf (L2.CX P w) P w K mg base N_is_help "is_help" (defScope st_is_help) f cdv A outer s H E) (E := E) rfl rfl rfl rfl
  have hp := passes_of (X := cxOf (L2.CX P w) P w K mg base N_is_help "is_help" (defScope st_is_help) f cdv A outer s H E) rfl
  have hu := hr.units
  have hu1 : _ + 1 < _ := Nat.lt_of_le_of_lt (Nat.add_le_add_left (by decide : 1 ≤ 64) _) hu
  exact (fss_cons (fs_if (fw_test (fw_or (ft_not (ft_val (fe_isi rfl G.f_isinstance rfl G.f_tuple PyProof.Rows.Boot.«tuple» (fe_var 0)))) (fw_or (ft_cmp (o_ne hu) (fe_callB o_len rfl G.f_len PyProof.Rows.Boot.«len» (fa_cons (fe_var 0) fa_nil)) fe_int rfl) (fw_or1 (ft_not (ft_val (fe_fn (ok_is_name G) tk hr (by omega) rfl (fa_cons (fe_ix (fe_var 0) fe_int) fa_nil))))))))
    (fss_one (fs_ret fe_bl))
    fss_nil)
    (fss_one (fs_ret (fe_fn (ok_is_block G) tk hr (by omega) rfl (fa_cons (fe_ix (fe_var 0) fe_int) (fa_cons (fe_var 1) (fa_cons (fe_var 2) (fa_cons (fe_var 3) fa_nil))))))))
theorem ok_is_help {P : Program} {w : World} {K : PySem.W.Frag} {mg : Str → Option Value} {base : Heap} (G : Fx P w K mg base) : Fok P w K mg base "is_help" (7) 4 F_is_help := by
  obtain ⟨fd, F⟩ := G.d_is_help
  exact fok_of F G.g_is_help sc_is_help rfl (FunD.bindsN (ps := ["thing", "modulus", "wires", "helps"]) F fun _ _ _ _ _ _ us hl => match us, hl with | [_, _, _, _], _ => rfl) (w_is_help G)
abbrev st_is_person : Stmt := top 41
theorem sc_is_person : FnScope N_is_person ["thing", "modulus", "wires"] (defScope st_is_person) := C8.fnScope_by (by decide +kernel)
theorem w_is_person {P : Program} {w : World} {K : PySem.W.Frag} {mg : Str → Option Value} {base : Heap} (G : Fx P w K mg base) {f : Addr} : BodyOk P w K mg base N_is_person "is_person" (defScope st_is_person) f (defBody st_is_person) (7) (b_is_person) := by
  intro cdv A outer s H E hr
  have hN : N_is_person.Nodup := sc_is_person.nd
  have tk := takes_of (X := cxOf (L2.CX P w) P w K mg base N_is_person "is_person" (defScope st_is_person) f cdv A outer s H E) (E := E) rfl rfl rfl rfl
  have hp := passes_of (X := cxOf (L2.CX P w) P w K mg base N_is_person "is_person" (defScope st_is_person) f cdv A outer s H E) rfl
  have hu := hr.units
  have hu1 : _ + 1 < _ := Nat.lt_of_le_of_lt (Nat.add_le_add_left (by decide : 1 ≤ 64) _) hu
  exact (fss_cons (fs_if (fw_test (fw_or (ft_not (ft_val (fe_isi rfl G.f_isinstance rfl G.f_tuple PyProof.Rows.Boot.«tuple» (fe_var 0)))) (fw_or (ft_cmp (o_ne hu) (fe_callB o_len rfl G.f_len PyProof.Rows.Boot.«len» (fa_cons (fe_var 0) fa_nil)) fe_int rfl) (fw_or1 (ft_not (ft_val (fe_fn (ok_is_name G) tk hr (by omega) rfl (fa_cons (fe_ix (fe_var 0) fe_int) fa_nil))))))))
    (fss_one (fs_ret fe_bl))
    fss_nil)
    (fss_cons (fs_asgT (fe_tup (fa_cons (fe_ix (fe_var 0) fe_int) (fa_cons (fe_ix (fe_var 0) fe_int) fa_nil)) (small_cons (small_cons small_nil))) (fg_tupA rfl (fgs_consA (fg_name (i := 3) hN rfl (.inl rfl)) (fgs_consA (fg_name (i := 4) hN rfl (.inr rfl)) fgs_nil))))
    (fss_cons (fs_if (fw_test (fw_or (ft_not (ft_val (fe_isi rfl G.f_isinstance rfl G.f_tuple PyProof.Rows.Boot.«tuple» (fe_var 3)))) (fw_or (ft_cmp o_gt (fe_callB o_len rfl G.f_len PyProof.Rows.Boot.«len» (fa_cons (fe_var 3) fa_nil)) (fe_gint rfl G.i_MOST_INPUTS) rfl) (fw_or1 (ft_not (ft_val (fe_callB (o_all rfl) rfl G.f_all PyProof.Rows.Boot.«all» (fa_cons (fe_lc rfl hN (fi_seq (fe_var 3)) (own := [("name", 5)]) (blkOk_by (by kernel_rfl)) (by decide) (fun s H C cl fp => (fw_name (i := 5) hN rfl (.inl rfl))) (fun s H C cl fp => fts_nil) (fun s H C cl fp => (fe_fn (ok_is_name G) takes_none5 hr (by omega) rfl (fa_cons (fe_var 5) fa_nil)))) fa_nil))))))))
    (fss_one (fs_ret fe_bl))
    fss_nil)
    (fss_cons (fs_if (fw_test (fw_or (ft_not (ft_val (fe_isi rfl G.f_isinstance rfl G.f_tuple PyProof.Rows.Boot.«tuple» (fe_var 4)))) (fw_or1 (ft_cmp o_gt (fe_callB o_len rfl G.f_len PyProof.Rows.Boot.«len» (fa_cons (fe_var 4) fa_nil)) (fe_gint rfl G.i_MOST_PERSONS) rfl))))
    (fss_one (fs_ret fe_bl))
    fss_nil)
    (fss_cons (fs_if (ft_not (ft_val (fe_callB (o_all rfl) rfl G.f_all PyProof.Rows.Boot.«all» (fa_cons (fe_lc rfl hN (fi_seq (fe_var 4)) (own := [("help_told", 6)]) (blkOk_by (by kernel_rfl)) (by decide) (fun s H C cl fp => (fw_name (i := 6) hN rfl (.inl rfl))) (fun s H C cl fp => fts_nil) (fun s H C cl fp => (fe_fn (ok_is_help G) takes_none5 hr (by omega) rfl (fa_cons (fe_var 6) (fa_cons (fe_var 1) (fa_cons (fe_var 2) (fa_cons (fe_callB o_len rfl G.f_len PyProof.Rows.Boot.«len» (fa_cons (fe_var 4) fa_nil)) fa_nil))))))) fa_nil))))
    (fss_one (fs_ret fe_bl))
    fss_nil)
    (fss_one (fs_ret (fe_fn (ok_is_block G) tk hr (by omega) rfl (fa_cons (fe_ix (fe_var 0) fe_int) (fa_cons (fe_var 1) (fa_cons (fe_var 2) (fa_cons (fe_callB o_len rfl G.f_len PyProof.Rows.Boot.«len» (fa_cons (fe_var 4) fa_nil)) fa_nil))))))))))))
theorem ok_is_person {P : Program} {w : World} {K : PySem.W.Frag} {mg : Str → Option Value} {base : Heap} (G : Fx P w K mg base) : Fok P w K mg base "is_person" (8) 3 F_is_person := by
  obtain ⟨fd, F⟩ := G.d_is_person
  exact fok_of F G.g_is_person sc_is_person rfl (FunD.bindsN (ps := ["thing", "modulus", "wires"]) F fun _ _ _ _ _ _ us hl => match us, hl with | [_, _, _], _ => rfl) (w_is_person G)
abbrev st_has_form : Stmt := top 42
theorem sc_has_form : FnScope N_has_form ["thing"] (defScope st_has_form) := C8.fnScope_by (by decide +kernel)
theorem w_has_form {P : Program} {w : World} {K : PySem.W.Frag} {mg : Str → Option Value} {base : Heap} (G : Fx P w K mg base) {f : Addr} : BodyOk P w K mg base N_has_form "has_form" (defScope st_has_form) f (defBody st_has_form) (8) (b_has_form) := by
  intro cdv A outer s H E hr
  have hN : N_has_form.Nodup := sc_has_form.nd
  have tk := takes_of (X := cxOf (L2.CX P w) P w K mg base N_has_form "has_form" (defScope st_has_form) f cdv A outer s H E) (E := E) rfl rfl rfl rfl
  have hp := passes_of (X := cxOf (L2.CX P w) P w K mg base N_has_form "has_form" (defScope st_has_form) f cdv A outer s H E) rfl
  have hu := hr.units
  have hu1 : _ + 1 < _ := Nat.lt_of_le_of_lt (Nat.add_le_add_left (by decide : 1 ≤ 64) _) hu
  exact (fss_cons (fs_if (fw_test (fw_or (ft_not (ft_val (fe_isi rfl G.f_isinstance rfl G.f_tuple PyProof.Rows.Boot.«tuple» (fe_var 0)))) (fw_or (ft_cmp (o_ne hu) (fe_callB o_len rfl G.f_len PyProof.Rows.Boot.«len» (fa_cons (fe_var 0) fa_nil)) fe_int rfl) (fw_or1 (ft_not (ft_val (fe_fn (ok_is_between G) tk hr (by omega) rfl (fa_cons (fe_ix (fe_var 0) fe_int) (fa_cons fe_int (fa_cons (fe_gint rfl G.i_MOST_MODULUS) fa_nil))))))))))
    (fss_one (fs_ret fe_bl))
    fss_nil)
    (fss_cons (fs_asgT (fe_var 0) (fg_tupA rfl (fgs_consA (fg_name (i := 1) hN rfl (.inr rfl)) (fgs_consA (fg_name (i := 2) hN rfl (.inr rfl)) (fgs_consA (fg_name (i := 3) hN rfl (.inr rfl)) fgs_nil)))))
    (fss_cons (fs_if (fw_test (fw_or (ft_not (ft_val (fe_isi rfl G.f_isinstance rfl G.f_tuple PyProof.Rows.Boot.«tuple» (fe_var 3)))) (fw_or1 (ft_not (ft_chain o_le o_le fe_int (fe_callB o_len rfl G.f_len PyProof.Rows.Boot.«len» (fa_cons (fe_var 3) fa_nil)) (fe_gint rfl G.i_MOST_PERSONS))))))
    (fss_one (fs_ret fe_bl))
    fss_nil)
    (fss_cons (fs_if (fw_test (fw_or (ft_not (ft_val (fe_isi rfl G.f_isinstance rfl G.f_tuple PyProof.Rows.Boot.«tuple» (fe_var 2)))) (fw_or1 (ft_cmp o_gt (fe_callB o_len rfl G.f_len PyProof.Rows.Boot.«len» (fa_cons (fe_var 2) fa_nil)) (fe_gint rfl G.i_MOST_WIRES) rfl))))
    (fss_one (fs_ret fe_bl))
    fss_nil)
    (fss_cons (fs_if (ft_not (ft_val (fe_callB (o_all rfl) rfl G.f_all PyProof.Rows.Boot.«all» (fa_cons (fe_lc rfl hN (fi_seq (fe_var 2)) (own := [("wire", 4)]) (blkOk_by (by kernel_rfl)) (by decide) (fun s H C cl fp => (fw_name (i := 4) hN rfl (.inl rfl))) (fun s H C cl fp => fts_nil) (fun s H C cl fp => (fe_fn (ok_is_wire G) takes_none5 hr (by omega) rfl (fa_cons (fe_var 4) (fa_cons (fe_callB o_len rfl G.f_len PyProof.Rows.Boot.«len» (fa_cons (fe_var 3) fa_nil)) fa_nil))))) fa_nil))))
    (fss_one (fs_ret fe_bl))
    fss_nil)
    (fss_one (fs_ret (fe_callB (o_all rfl) rfl G.f_all PyProof.Rows.Boot.«all» (fa_cons (fe_lc rfl hN (fi_seq (fe_var 3)) (own := [("person", 5)]) (blkOk_by (by kernel_rfl)) (by decide) (fun s H C cl fp => (fw_name (i := 5) hN rfl (.inl rfl))) (fun s H C cl fp => fts_nil) (fun s H C cl fp => (fe_fn (ok_is_person G) takes_none5 hr (by omega) rfl (fa_cons (fe_var 5) (fa_cons (fe_var 1) (fa_cons (fe_callB o_len rfl G.f_len PyProof.Rows.Boot.«len» (fa_cons (fe_var 2) fa_nil)) fa_nil)))))) fa_nil)))))))))
theorem ok_has_form {P : Program} {w : World} {K : PySem.W.Frag} {mg : Str → Option Value} {base : Heap} (G : Fx P w K mg base) : Fok P w K mg base "has_form" (9) 1 F_has_form := by
  obtain ⟨fd, F⟩ := G.d_has_form
  exact fok_of F G.g_has_form sc_has_form rfl (FunD.bindsN (ps := ["thing"]) F fun _ _ _ _ _ _ us hl => match us, hl with | [_], _ => rfl) (w_has_form G)
abbrev st_statements_in : Stmt := top 43
theorem sc_statements_in : FnScope N_statements_in ["block"] (defScope st_statements_in) := C8.fnScope_by (by decide +kernel)
theorem w_statements_in {P : Program} {w : World} {K : PySem.W.Frag} {mg : Str → Option Value} {base : Heap} (G : Fx P w K mg base) {f : Addr} : BodyOk P w K mg base N_statements_in "statements_in" (defScope st_statements_in) f (defBody st_statements_in) (1) (b_statements_in) := by
  intro cdv A outer s H E hr
  have hN : N_statements_in.Nodup := sc_statements_in.nd
  have tk := takes_of (X := cxOf (L2.CX P w) P w K mg base N_statements_in "statements_in" (defScope st_statements_in) f cdv A outer s H E) (E := E) rfl rfl rfl rfl
  have hp := passes_of (X := cxOf (L2.CX P w) P w K mg base N_statements_in "statements_in" (defScope st_statements_in) f cdv A outer s H E) rfl
  have hu := hr.units
  have hu1 : _ + 1 < _ := Nat.lt_of_le_of_lt (Nat.add_le_add_left (by decide : 1 ≤ 64) _) hu
  exact (fss_cons (fs_set (i := 1) hN rfl (.inl rfl) (fe_lst fa_nil small_nil))
    (fss_cons (fs_set (i := 2) hN rfl (.inl rfl) (fe_callTy o_list rfl G.f_list PyProof.Rows.Boot.«list» (fa_cons (fe_rev (fe_var 0)) fa_nil)))
    (fss_cons (fs_while hp (ft_cmp o_gt (fe_callB o_len rfl G.f_len PyProof.Rows.Boot.«len» (fa_cons (fe_var 2) fa_nil)) fe_int rfl)
    (fss_cons (fs_set (i := 3) hN rfl (.inl rfl) (fe_meth0 PySem.F.slot_list_pop PySem.F.type_list_pop o_pop (fe_var 2)))
    (fss_cons (fs_expr (fe_meth PySem.F.slot_list_append PySem.F.type_list_append o_app (fe_var 1) (fa_cons (fe_var 3) fa_nil)))
    (fss_one (fs_for hp rfl (fi_seq (fe_rev (fe_fn (ok_blocks_in G) tk hr (by omega) rfl (fa_cons (fe_var 3) fa_nil)))) (fg_name (i := 4) hN rfl (.inl rfl))
    (fss_one (fs_expr (fe_meth PySem.F.slot_list_extend PySem.F.type_list_extend o_ext (fe_var 2) (fa_cons (fe_rev (fe_var 4)) fa_nil)))))))))
    (fss_one (fs_ret (fe_var 1))))))
theorem ok_statements_in {P : Program} {w : World} {K : PySem.W.Frag} {mg : Str → Option Value} {base : Heap} (G : Fx P w K mg base) : Fok P w K mg base "statements_in" (2) 1 F_statements_in := by
  obtain ⟨fd, F⟩ := G.d_statements_in
  exact fok_of F G.g_statements_in sc_statements_in rfl (FunD.bindsN (ps := ["block"]) F fun _ _ _ _ _ _ us hl => match us, hl with | [_], _ => rfl) (w_statements_in G)
abbrev st_whole_blocks : Stmt := top 44
theorem sc_whole_blocks : FnScope N_whole_blocks ["person"] (defScope st_whole_blocks) := C8.fnScope_by (by decide +kernel)
theorem w_whole_blocks {P : Program} {w : World} {K : PySem.W.Frag} {mg : Str → Option Value} {base : Heap} (G : Fx P w K mg base) {f : Addr} : BodyOk P w K mg base N_whole_blocks "whole_blocks" (defScope st_whole_blocks) f (defBody st_whole_blocks) (0) (b_whole_blocks) := by
  intro cdv A outer s H E hr
  have hN : N_whole_blocks.Nodup := sc_whole_blocks.nd
  have tk := takes_of (X := cxOf (L2.CX P w) P w K mg base N_whole_blocks "whole_blocks" (defScope st_whole_blocks) f cdv A outer s H E) (E := E) rfl rfl rfl rfl
  have hp := passes_of (X := cxOf (L2.CX P w) P w K mg base N_whole_blocks "whole_blocks" (defScope st_whole_blocks) f cdv A outer s H E) rfl
  have hu := hr.units
  have hu1 : _ + 1 < _ := Nat.lt_of_le_of_lt (Nat.add_le_add_left (by decide : 1 ≤ 64) _) hu
  exact (fss_one (fs_ret (fe_op o_add (fe_lc rfl hN (fi_seq (fe_ix (fe_var 0) fe_int)) (own := [("help_told", 1)]) (blkOk_by (by kernel_rfl)) (by decide) (fun s H C cl fp => (fw_name (i := 1) hN rfl (.inl rfl))) (fun s H C cl fp => fts_nil) (fun s H C cl fp => (fe_ix (fe_var 1) fe_int))) (fe_lst (fa_cons (fe_ix (fe_var 0) fe_int) fa_nil) (small_cons small_nil)))))
theorem ok_whole_blocks {P : Program} {w : World} {K : PySem.W.Frag} {mg : Str → Option Value} {base : Heap} (G : Fx P w K mg base) : Fok P w K mg base "whole_blocks" (1) 1 F_whole_blocks := by
  obtain ⟨fd, F⟩ := G.d_whole_blocks
  exact fok_of F G.g_whole_blocks sc_whole_blocks rfl (FunD.bindsN (ps := ["person"]) F fun _ _ _ _ _ _ us hl => match us, hl with | [_], _ => rfl) (w_whole_blocks G)
abbrev st_calls_of : Stmt := top 45
theorem sc_calls_of : FnScope N_calls_of ["block"] (defScope st_calls_of) := C8.fnScope_by (by decide +kernel)
theorem w_calls_of {P : Program} {w : World} {K : PySem.W.Frag} {mg : Str → Option Value} {base : Heap} (G : Fx P w K mg base) {f : Addr} : BodyOk P w K mg base N_calls_of "calls_of" (defScope st_calls_of) f (defBody st_calls_of) (2) (b_calls_of) := by
  intro cdv A outer s H E hr
  have hN : N_calls_of.Nodup := sc_calls_of.nd
  have tk := takes_of (X := cxOf (L2.CX P w) P w K mg base N_calls_of "calls_of" (defScope st_calls_of) f cdv A outer s H E) (E := E) rfl rfl rfl rfl
  have hp := passes_of (X := cxOf (L2.CX P w) P w K mg base N_calls_of "calls_of" (defScope st_calls_of) f cdv A outer s H E) rfl
  have hu := hr.units
  have hu1 : _ + 1 < _ := Nat.lt_of_le_of_lt (Nat.add_le_add_left (by decide : 1 ≤ 64) _) hu
  exact (fss_one (fs_ret (fe_callB (o_sorted rfl) rfl G.f_sorted PyProof.Rows.Boot.«sorted» (fa_cons (fe_dc rfl hN (fi_seq (fe_fn (ok_statements_in G) tk hr (by omega) rfl (fa_cons (fe_var 0) fa_nil))) (own := [("here", 1)]) (blkOk_by (by kernel_rfl)) (by decide) (fun s H C cl fp => (fw_name (i := 1) hN rfl (.inl rfl))) (fun s H C cl fp => (fts_one (ft_cmp (o_eq hu) (fe_ix (fe_var 1) fe_int) fe_str rfl))) (fun s H C cl fp => (fe_ix (fe_var 1) fe_int)) (fun s H C cl fp => fe_bl)) fa_nil))))
theorem ok_calls_of {P : Program} {w : World} {K : PySem.W.Frag} {mg : Str → Option Value} {base : Heap} (G : Fx P w K mg base) : Fok P w K mg base "calls_of" (3) 1 F_calls_of := by
  obtain ⟨fd, F⟩ := G.d_calls_of
  exact fok_of F G.g_calls_of sc_calls_of rfl (FunD.bindsN (ps := ["block"]) F fun _ _ _ _ _ _ us hl => match us, hl with | [_], _ => rfl) (w_calls_of G)
abbrev st_help_order : Stmt := top 46
theorem sc_help_order : FnScope N_help_order ["person"] (defScope st_help_order) := C8.fnScope_by (by decide +kernel)
theorem w_help_order {P : Program} {w : World} {K : PySem.W.Frag} {mg : Str → Option Value} {base : Heap} (G : Fx P w K mg base) {f : Addr} : BodyOk P w K mg base N_help_order "help_order" (defScope st_help_order) f (defBody st_help_order) (3) (b_help_order) := by
  intro cdv A outer s H E hr
  have hN : N_help_order.Nodup := sc_help_order.nd
  have tk := takes_of (X := cxOf (L2.CX P w) P w K mg base N_help_order "help_order" (defScope st_help_order) f cdv A outer s H E) (E := E) rfl rfl rfl rfl
  have hp := passes_of (X := cxOf (L2.CX P w) P w K mg base N_help_order "help_order" (defScope st_help_order) f cdv A outer s H E) rfl
  have hu := hr.units
  have hu1 : _ + 1 < _ := Nat.lt_of_le_of_lt (Nat.add_le_add_left (by decide : 1 ≤ 64) _) hu
  exact (fss_cons (fs_set (i := 1) hN rfl (.inr rfl) (fe_lc rfl hN (fi_seq (fe_ix (fe_var 0) fe_int)) (own := [("help_told", 5)]) (blkOk_by (by kernel_rfl)) (by decide) (fun s H C cl fp => (fw_name (i := 5) hN rfl (.inl rfl))) (fun s H C cl fp => fts_nil) (fun s H C cl fp => (fe_fn (ok_calls_of G) takes_none5 hr (by omega) rfl (fa_cons (fe_ix (fe_var 5) fe_int) fa_nil)))))
    (fss_cons (fs_set (i := 2) hN rfl (.inr rfl) (fe_lst fa_nil small_nil))
    (fss_cons (fs_for hp rfl (fi_seq (fe_var 1)) (fg_name (i := 3) hN rfl (.inl rfl))
    (fss_cons (fs_setLc rfl hN (i := 4) rfl rfl (sw_true rfl rfl rfl (by decide)) (fi_range1 rfl G.f_range (fa_cons (fe_callB o_len rfl G.f_len PyProof.Rows.Boot.«len» (fa_cons (fe_var 1) fa_nil)) fa_nil)) (own := [("at", 7)]) (blkOk_by (by kernel_rfl)) (by decide) (fun s H C cl fp => (fw_name (i := 7) hN rfl (.inl rfl))) (fun s H C cl fp => (fts_one (fw_test (fw_and (ft_cmp (o_nin) (fe_var 7) (fe_var 2) rfl) (fw_and1 (ft_val (fe_callB (o_all rfl) rfl G.f_all PyProof.Rows.Boot.«all» (fa_cons (fe_lc rfl hN (fi_seq (fe_ix (fe_var 1) (fe_var 7))) (own := [("inner", 6)]) (blkOk_by (by kernel_rfl)) (by decide) (fun s H C cl fp => (fw_name (i := 6) hN rfl (.inl rfl))) (fun s H C cl fp => fts_nil) (fun s H C cl fp => (fe_cmp (o_in) (fe_var 6) (fe_var 2) rfl))) fa_nil)))))))) (fun s H C cl fp => (fe_var 7)))
    (fss_cons (fs_if (ft_cmp (o_eq hu) (fe_callB o_len rfl G.f_len PyProof.Rows.Boot.«len» (fa_cons (fe_var 4) fa_nil)) fe_int rfl)
    (fss_one (fs_ret fe_non))
    fss_nil)
    (fss_one (fs_expr (fe_meth PySem.F.slot_list_append PySem.F.type_list_append o_app (fe_var 2) (fa_cons (fe_ix (fe_var 4) fe_int) fa_nil)))))))
    (fss_one (fs_ret (fe_var 2))))))
theorem ok_help_order {P : Program} {w : World} {K : PySem.W.Frag} {mg : Str → Option Value} {base : Heap} (G : Fx P w K mg base) : Fok P w K mg base "help_order" (4) 1 F_help_order := by
  obtain ⟨fd, F⟩ := G.d_help_order
  exact fok_of F G.g_help_order sc_help_order rfl (FunD.bindsN (ps := ["person"]) F fun _ _ _ _ _ _ us hl => match us, hl with | [_], _ => rfl) (w_help_order G)
abbrev st_block_weight : Stmt := top 47
theorem sc_block_weight : FnScope N_block_weight ["block", "modulus", "helps"] (defScope st_block_weight) := C8.fnScope_by (by decide +kernel)
theorem w_block_weight {P : Program} {w : World} {K : PySem.W.Frag} {mg : Str → Option Value} {base : Heap} (G : Fx P w K mg base) {f : Addr} {n : Nat} {F : Fd} (T : Fok P w K mg base "block_weight" (1 + n) 3 F) : BodyOk P w K mg base N_block_weight "block_weight" (defScope st_block_weight) f (defBody st_block_weight) (1 + n) (b_block_weight F) := by
  intro cdv A outer s H E hr
  have hN : N_block_weight.Nodup := sc_block_weight.nd
  have tk := takes_of (X := cxOf (L2.CX P w) P w K mg base N_block_weight "block_weight" (defScope st_block_weight) f cdv A outer s H E) (E := E) rfl rfl rfl rfl
  have hp := passes_of (X := cxOf (L2.CX P w) P w K mg base N_block_weight "block_weight" (defScope st_block_weight) f cdv A outer s H E) rfl
  have hu := hr.units
  have hu1 : _ + 1 < _ := Nat.lt_of_le_of_lt (Nat.add_le_add_left (by decide : 1 ≤ 64) _) hu
  exact (fss_cons (fs_set (i := 3) hN rfl (.inl rfl) fe_int)
    (fss_cons (fs_for hp rfl (fi_seq (fe_var 0)) (fg_name (i := 4) hN rfl (.inl rfl))
    (fss_cons (fs_augA (i := 3) hN rfl (.inl rfl) fe_int)
    (fss_one (fs_if (ft_cmp (o_eq hu) (fe_ix (fe_var 4) fe_int) fe_str rfl)
    (fss_one (fs_augA (i := 3) hN rfl (.inl rfl) (fe_dget hu1 (fe_var 2) (fe_ix (fe_var 4) fe_int))))
    (fss_one (fs_if (ft_cmp (o_eq hu) (fe_ix (fe_var 4) fe_int) fe_str rfl)
    (fss_one (fs_augA (i := 3) hN rfl (.inl rfl) (fe_callB (o_max rfl) rfl G.f_max PyProof.Rows.Boot.«max» (fa_cons (fe_lc rfl hN (fi_seq (fe_fn (ok_blocks_in G) tk hr (by omega) rfl (fa_cons (fe_var 4) fa_nil))) (own := [("inner", 5)]) (blkOk_by (by kernel_rfl)) (by decide) (fun s H C cl fp => (fw_name (i := 5) hN rfl (.inl rfl))) (fun s H C cl fp => fts_nil) (fun s H C cl fp => (fe_fn T takes_none5 hr (by omega) rfl (fa_cons (fe_var 5) (fa_cons (fe_var 1) (fa_cons (fe_var 2) fa_nil)))))) fa_nil))))
    (fss_one (fs_if (ft_cmp (o_eq hu) (fe_ix (fe_var 4) fe_int) fe_str rfl)
    (fss_one (fs_augA (i := 3) hN rfl (.inl rfl) (fe_op o_mul (fe_op o_sub (fe_var 1) fe_int) (fe_fn T tk hr (by omega) rfl (fa_cons (fe_ix (fe_var 4) fe_int) (fa_cons (fe_var 1) (fa_cons (fe_var 2) fa_nil)))))))
    fss_nil))))))))
    (fss_one (fs_ret (fe_var 3)))))
theorem ok_block_weight {P : Program} {w : World} {K : PySem.W.Frag} {mg : Str → Option Value} {base : Heap} (G : Fx P w K mg base) : ∀ n, Fok P w K mg base "block_weight" (1 + n) 3 (F_block_weight n)
  | 0 => by
    obtain ⟨fd, F⟩ := G.d_block_weight
    exact fok_bad F G.g_block_weight rfl (FunD.bindsN (ps := ["block", "modulus", "helps"]) F fun _ _ _ _ _ _ us hl => match us, hl with | [_, _, _], _ => rfl)
  | n + 1 => by
    obtain ⟨fd, F⟩ := G.d_block_weight
    exact fok_of F G.g_block_weight sc_block_weight rfl (FunD.bindsN (ps := ["block", "modulus", "helps"]) F fun _ _ _ _ _ _ us hl => match us, hl with | [_, _, _], _ => rfl) (w_block_weight G (ok_block_weight G n))
end Z

set_option Elab.async false
set_option linter.all false
set_option maxRecDepth 100000
set_option maxHeartbeats 0
namespace Z
open PySem PySem.Spec PyProof.Rows L2 Y
abbrev st_person_weight : Stmt := top 48
theorem sc_person_weight : FnScope N_person_weight ["person", "modulus"] (defScope st_person_weight) := C8.fnScope_by (by decide +kernel)
theorem w_person_weight {P : Program} {w : World} {K : PySem.W.Frag} {mg : Str → Option Value} {base : Heap} (G : Fx P w K mg base) {f : Addr} : BodyOk P w K mg base N_person_weight "person_weight" (defScope st_person_weight) f (defBody st_person_weight) (21) (b_person_weight) := by
  intro cdv A outer s H E hr
  have hN : N_person_weight.Nodup := sc_person_weight.nd
  have tk := takes_of (X := cxOf (L2.CX P w) P w K mg base N_person_weight "person_weight" (defScope st_person_weight) f cdv A outer s H E) (E := E) rfl rfl rfl rfl
  have hp := passes_of (X := cxOf (L2.CX P w) P w K mg base N_person_weight "person_weight" (defScope st_person_weight) f cdv A outer s H E) rfl
  have hu := hr.units
  have hu1 : _ + 1 < _ := Nat.lt_of_le_of_lt (Nat.add_le_add_left (by decide : 1 ≤ 64) _) hu
  exact (fss_cons (fs_set (i := 2) hN rfl (.inl rfl) fe_dnew)
    (fss_cons (fs_for hp rfl (fi_seq (fe_fn (ok_help_order G) tk hr (by omega) rfl (fa_cons (fe_var 0) fa_nil))) (fg_name (i := 3) hN rfl (.inl rfl))
    (fss_one (fs_dput hu1 (fe_fn (ok_block_weight G 20) tk hr (by omega) rfl (fa_cons (fe_ix (fe_ix (fe_ix (fe_var 0) fe_int) (fe_var 3)) fe_int) (fa_cons (fe_var 1) (fa_cons (fe_var 2) fa_nil)))) (fe_var 2) (fe_var 3))))
    (fss_one (fs_ret (fe_fn (ok_block_weight G 20) tk hr (by omega) rfl (fa_cons (fe_ix (fe_var 0) fe_int) (fa_cons (fe_var 1) (fa_cons (fe_var 2) fa_nil))))))))
theorem ok_person_weight {P : Program} {w : World} {K : PySem.W.Frag} {mg : Str → Option Value} {base : Heap} (G : Fx P w K mg base) : Fok P w K mg base "person_weight" (22) 2 F_person_weight := by
  obtain ⟨fd, F⟩ := G.d_person_weight
  exact fok_of F G.g_person_weight sc_person_weight rfl (FunD.bindsN (ps := ["person", "modulus"]) F fun _ _ _ _ _ _ us hl => match us, hl with | [_, _], _ => rfl) (w_person_weight G)
abbrev st_wire_fault : Stmt := top 49
theorem sc_wire_fault : FnScope N_wire_fault ["wires", "at", "person"] (defScope st_wire_fault) := C8.fnScope_by (by decide +kernel)
theorem w_wire_fault {P : Program} {w : World} {K : PySem.W.Frag} {mg : Str → Option Value} {base : Heap} (G : Fx P w K mg base) {f : Addr} : BodyOk P w K mg base N_wire_fault "wire_fault" (defScope st_wire_fault) f (defBody st_wire_fault) (2) (b_wire_fault) := by
  intro cdv A outer s H E hr
  have hN : N_wire_fault.Nodup := sc_wire_fault.nd
  have tk := takes_of (X := cxOf (L2.CX P w) P w K mg base N_wire_fault "wire_fault" (defScope st_wire_fault) f cdv A outer s H E) (E := E) rfl rfl rfl rfl
  have hp := passes_of (X := cxOf (L2.CX P w) P w K mg base N_wire_fault "wire_fault" (defScope st_wire_fault) f cdv A outer s H E) rfl
  have hu := hr.units
  have hu1 : _ + 1 < _ := Nat.lt_of_le_of_lt (Nat.add_le_add_left (by decide : 1 ≤ 64) _) hu
  exact (fss_cons (fs_for hp rfl (fi_seq (fe_fn (ok_whole_blocks G) tk hr (by omega) rfl (fa_cons (fe_var 2) fa_nil))) (fg_name (i := 3) hN rfl (.inl rfl))
    (fss_one (fs_for hp rfl (fi_seq (fe_fn (ok_statements_in G) tk hr (by omega) rfl (fa_cons (fe_var 3) fa_nil))) (fg_name (i := 4) hN rfl (.inl rfl))
    (fss_cons (fs_if (fw_test (fw_and (ft_cmp (o_eq hu) (fe_ix (fe_var 4) fe_int) fe_str rfl) (fw_and1 (ft_cmp (o_ne hu) (fe_ix (fe_ix (fe_var 0) (fe_ix (fe_var 4) fe_int)) fe_int) (fe_var 1) rfl))))
    (fss_one (fs_ret (fe_tup (fa_cons fe_str (fa_cons (fe_var 1) (fa_cons (fe_ix (fe_var 4) fe_int) fa_nil))) (small_cons (small_cons (small_cons small_nil))))))
    fss_nil)
    (fss_one (fs_if (fw_test (fw_and (ft_cmp (o_eq hu) (fe_ix (fe_var 4) fe_int) fe_str rfl) (fw_and1 (ft_cmp (o_ne hu) (fe_ix (fe_ix (fe_var 0) (fe_ix (fe_var 4) fe_int)) fe_int) (fe_var 1) rfl))))
    (fss_one (fs_ret (fe_tup (fa_cons fe_str (fa_cons (fe_var 1) (fa_cons (fe_ix (fe_var 4) fe_int) fa_nil))) (small_cons (small_cons (small_cons small_nil))))))
    fss_nil))))))
    (fss_one (fs_ret fe_non)))
theorem ok_wire_fault {P : Program} {w : World} {K : PySem.W.Frag} {mg : Str → Option Value} {base : Heap} (G : Fx P w K mg base) : Fok P w K mg base "wire_fault" (3) 3 F_wire_fault := by
  obtain ⟨fd, F⟩ := G.d_wire_fault
  exact fok_of F G.g_wire_fault sc_wire_fault rfl (FunD.bindsN (ps := ["wires", "at", "person"]) F fun _ _ _ _ _ _ us hl => match us, hl with | [_, _, _], _ => rfl) (w_wire_fault G)
abbrev st_expressions_in : Stmt := top 56
theorem sc_expressions_in : FnScope N_expressions_in ["block"] (defScope st_expressions_in) := C8.fnScope_by (by decide +kernel)
theorem w_expressions_in {P : Program} {w : World} {K : PySem.W.Frag} {mg : Str → Option Value} {base : Heap} (G : Fx P w K mg base) {f : Addr} : BodyOk P w K mg base N_expressions_in "expressions_in" (defScope st_expressions_in) f (defBody st_expressions_in) (2) (b_expressions_in) := by
  intro cdv A outer s H E hr
  have hN : N_expressions_in.Nodup := sc_expressions_in.nd
  have tk := takes_of (X := cxOf (L2.CX P w) P w K mg base N_expressions_in "expressions_in" (defScope st_expressions_in) f cdv A outer s H E) (E := E) rfl rfl rfl rfl
  have hp := passes_of (X := cxOf (L2.CX P w) P w K mg base N_expressions_in "expressions_in" (defScope st_expressions_in) f cdv A outer s H E) rfl
  have hu := hr.units
  have hu1 : _ + 1 < _ := Nat.lt_of_le_of_lt (Nat.add_le_add_left (by decide : 1 ≤ 64) _) hu
  exact (fss_cons (fs_set (i := 1) hN rfl (.inl rfl) (fe_lst fa_nil small_nil))
    (fss_cons (fs_for hp rfl (fi_seq (fe_fn (ok_statements_in G) tk hr (by omega) rfl (fa_cons (fe_var 0) fa_nil))) (fg_name (i := 2) hN rfl (.inl rfl))
    (fss_one (fs_if (ft_cmp (o_in) (fe_ix (fe_var 2) fe_int) (fe_tup (fa_cons fe_str (fa_cons fe_str fa_nil)) (small_cons (small_cons small_nil))) rfl)
    (fss_one (fs_expr (fe_meth PySem.F.slot_list_append PySem.F.type_list_append o_app (fe_var 1) (fa_cons (fe_ix (fe_var 2) fe_int) fa_nil))))
    (fss_one (fs_if (ft_cmp (o_in) (fe_ix (fe_var 2) fe_int) (fe_tup (fa_cons fe_str (fa_cons fe_str (fa_cons fe_str fa_nil))) (small_cons (small_cons (small_cons small_nil)))) rfl)
    (fss_one (fs_expr (fe_meth PySem.F.slot_list_append PySem.F.type_list_append o_app (fe_var 1) (fa_cons (fe_ix (fe_var 2) fe_int) fa_nil))))
    fss_nil)))))
    (fss_one (fs_ret (fe_var 1)))))
theorem ok_expressions_in {P : Program} {w : World} {K : PySem.W.Frag} {mg : Str → Option Value} {base : Heap} (G : Fx P w K mg base) : Fok P w K mg base "expressions_in" (3) 1 F_expressions_in := by
  obtain ⟨fd, F⟩ := G.d_expressions_in
  exact fok_of F G.g_expressions_in sc_expressions_in rfl (FunD.bindsN (ps := ["block"]) F fun _ _ _ _ _ _ us hl => match us, hl with | [_], _ => rfl) (w_expressions_in G)
abbrev st_person_names : Stmt := top 57
theorem sc_person_names : FnScope N_person_names ["person"] (defScope st_person_names) := C8.fnScope_by (by decide +kernel)
theorem w_person_names {P : Program} {w : World} {K : PySem.W.Frag} {mg : Str → Option Value} {base : Heap} (G : Fx P w K mg base) {f : Addr} : BodyOk P w K mg base N_person_names "person_names" (defScope st_person_names) f (defBody st_person_names) (3) (b_person_names) := by
  intro cdv A outer s H E hr
  have hN : N_person_names.Nodup := sc_person_names.nd
  have tk := takes_of (X := cxOf (L2.CX P w) P w K mg base N_person_names "person_names" (defScope st_person_names) f cdv A outer s H E) (E := E) rfl rfl rfl rfl
  have hp := passes_of (X := cxOf (L2.CX P w) P w K mg base N_person_names "person_names" (defScope st_person_names) f cdv A outer s H E) rfl
  have hu := hr.units
  have hu1 : _ + 1 < _ := Nat.lt_of_le_of_lt (Nat.add_le_add_left (by decide : 1 ≤ 64) _) hu
  exact (fss_cons (fs_set (i := 1) hN rfl (.inl rfl) fe_dnew)
    (fss_cons (fs_for hp rfl (fi_seq (fe_fn (ok_whole_blocks G) tk hr (by omega) rfl (fa_cons (fe_var 0) fa_nil))) (fg_name (i := 2) hN rfl (.inl rfl))
    (fss_cons (fs_for hp rfl (fi_seq (fe_fn (ok_statements_in G) tk hr (by omega) rfl (fa_cons (fe_var 2) fa_nil))) (fg_name (i := 3) hN rfl (.inl rfl))
    (fss_one (fs_if (ft_cmp (o_eq hu) (fe_ix (fe_var 3) fe_int) fe_str rfl)
    (fss_one (fs_dput hu1 fe_bl (fe_var 1) (fe_ix (fe_var 3) fe_int)))
    (fss_one (fs_if (ft_cmp (o_eq hu) (fe_ix (fe_var 3) fe_int) fe_str rfl)
    (fss_one (fs_dput hu1 fe_bl (fe_var 1) (fe_ix (fe_var 3) fe_int)))
    fss_nil)))))
    (fss_one (fs_for hp rfl (fi_seq (fe_fn (ok_expressions_in G) tk hr (by omega) rfl (fa_cons (fe_var 2) fa_nil))) (fg_name (i := 4) hN rfl (.inl rfl))
    (fss_one (fs_for hp rfl (fi_seq (fe_fn (ok_names_in G) tk hr (by omega) rfl (fa_cons (fe_var 4) fa_nil))) (fg_name (i := 5) hN rfl (.inl rfl))
    (fss_one (fs_dput hu1 fe_bl (fe_var 1) (fe_var 5)))))))))
    (fss_one (fs_ret (fe_op o_add (fe_callTy o_list rfl G.f_list PyProof.Rows.Boot.«list» (fa_cons (fe_ix (fe_var 0) fe_int) fa_nil)) (fe_callB (o_sorted rfl) rfl G.f_sorted PyProof.Rows.Boot.«sorted» (fa_cons (fe_lcK rfl hN (fe_var 1) (own := [("name", 5)]) (blkOk_by (by kernel_rfl)) (by decide) (fun s H C cl fp => (fw_name (i := 5) hN rfl (.inl rfl))) (fun s H C cl fp => (fts_one (ft_cmp (o_nin) (fe_var 5) (fe_ix (fe_var 0) fe_int) rfl))) (fun s H C cl fp => (fe_var 5))) fa_nil)))))))
theorem ok_person_names {P : Program} {w : World} {K : PySem.W.Frag} {mg : Str → Option Value} {base : Heap} (G : Fx P w K mg base) : Fok P w K mg base "person_names" (4) 1 F_person_names := by
  obtain ⟨fd, F⟩ := G.d_person_names
  exact fok_of F G.g_person_names sc_person_names rfl (FunD.bindsN (ps := ["person"]) F fun _ _ _ _ _ _ us hl => match us, hl with | [_], _ => rfl) (w_person_names G)
abbrev st_person_fault : Stmt := top 50
theorem sc_person_fault : FnScope N_person_fault ["house", "at"] (defScope st_person_fault) := C8.fnScope_by (by decide +kernel)
theorem w_person_fault {P : Program} {w : World} {K : PySem.W.Frag} {mg : Str → Option Value} {base : Heap} (G : Fx P w K mg base) {f : Addr} : BodyOk P w K mg base N_person_fault "person_fault" (defScope st_person_fault) f (defBody st_person_fault) (22) (b_person_fault) := by
  intro cdv A outer s H E hr
  have hN : N_person_fault.Nodup := sc_person_fault.nd
  have tk := takes_of (X := cxOf (L2.CX P w) P w K mg base N_person_fault "person_fault" (defScope st_person_fault) f cdv A outer s H E) (E := E) rfl rfl rfl rfl
  have hp := passes_of (X := cxOf (L2.CX P w) P w K mg base N_person_fault "person_fault" (defScope st_person_fault) f cdv A outer s H E) rfl
  have hu := hr.units
  have hu1 : _ + 1 < _ := Nat.lt_of_le_of_lt (Nat.add_le_add_left (by decide : 1 ≤ 64) _) hu
  exact (fss_cons (fs_asgT (fe_var 0) (fg_tupA rfl (fgs_consA (fg_name (i := 2) hN rfl (.inl rfl)) (fgs_consA (fg_name (i := 3) hN rfl (.inl rfl)) (fgs_consA (fg_name (i := 4) hN rfl (.inl rfl)) fgs_nil)))))
    (fss_cons (fs_set (i := 5) hN rfl (.inl rfl) (fe_ix (fe_var 4) (fe_var 1)))
    (fss_cons (fs_if (ft_not (ft_val (fe_fn (ok_are_unlike G) tk hr (by omega) rfl (fa_cons (fe_ix (fe_var 5) fe_int) fa_nil))))
    (fss_one (fs_ret (fe_tup (fa_cons fe_str (fa_cons (fe_var 1) fa_nil)) (small_cons (small_cons small_nil)))))
    fss_nil)
    (fss_cons (fs_if (ft_not (ft_val (fe_fn (ok_are_unlike G) tk hr (by omega) rfl (fa_cons (fe_lc rfl hN (fi_seq (fe_ix (fe_var 5) fe_int)) (own := [("help_told", 7)]) (blkOk_by (by kernel_rfl)) (by decide) (fun s H C cl fp => (fw_name (i := 7) hN rfl (.inl rfl))) (fun s H C cl fp => fts_nil) (fun s H C cl fp => (fe_ix (fe_var 7) fe_int))) fa_nil))))
    (fss_one (fs_ret (fe_tup (fa_cons fe_str (fa_cons (fe_var 1) fa_nil)) (small_cons (small_cons small_nil)))))
    fss_nil)
    (fss_cons (fs_if (ft_cmp o_isN (fe_fn (ok_help_order G) tk hr (by omega) rfl (fa_cons (fe_var 5) fa_nil)) fe_non rfl)
    (fss_one (fs_ret (fe_tup (fa_cons fe_str (fa_cons (fe_var 1) fa_nil)) (small_cons (small_cons small_nil)))))
    fss_nil)
    (fss_cons (fs_set (i := 6) hN rfl (.inl rfl) (fe_fn (ok_wire_fault G) tk hr (by omega) rfl (fa_cons (fe_var 3) (fa_cons (fe_var 1) (fa_cons (fe_var 5) fa_nil)))))
    (fss_cons (fs_if (ft_cmp o_notN (fe_var 6) fe_non rfl)
    (fss_one (fs_ret (fe_var 6)))
    fss_nil)
    (fss_cons (fs_if (ft_cmp o_gt (fe_callB o_len rfl G.f_len PyProof.Rows.Boot.«len» (fa_cons (fe_fn (ok_person_names G) tk hr (by omega) rfl (fa_cons (fe_var 5) fa_nil)) fa_nil)) (fe_gint rfl G.i_MOST_LONG) rfl)
    (fss_one (fs_ret (fe_tup (fa_cons fe_str (fa_cons (fe_var 1) fa_nil)) (small_cons (small_cons small_nil)))))
    fss_nil)
    (fss_one (fs_ret (fe_if (ft_cmp o_gt (fe_fn (ok_person_weight G) tk hr (by omega) rfl (fa_cons (fe_var 5) (fa_cons (fe_var 2) fa_nil))) (fe_gint rfl G.i_MOST_WEIGHT) rfl) (fe_tup (fa_cons fe_str (fa_cons (fe_var 1) fa_nil)) (small_cons (small_cons small_nil))) fe_non)))))))))))
theorem ok_person_fault {P : Program} {w : World} {K : PySem.W.Frag} {mg : Str → Option Value} {base : Heap} (G : Fx P w K mg base) : Fok P w K mg base "person_fault" (23) 2 F_person_fault := by
  obtain ⟨fd, F⟩ := G.d_person_fault
  exact fok_of F G.g_person_fault sc_person_fault rfl (FunD.bindsN (ps := ["house", "at"]) F fun _ _ _ _ _ _ us hl => match us, hl with | [_, _], _ => rfl) (w_person_fault G)
abbrev st_fault_of : Stmt := top 51
theorem sc_fault_of : FnScope N_fault_of ["thing"] (defScope st_fault_of) := C8.fnScope_by (by decide +kernel)
theorem w_fault_of {P : Program} {w : World} {K : PySem.W.Frag} {mg : Str → Option Value} {base : Heap} (G : Fx P w K mg base) {f : Addr} : BodyOk P w K mg base N_fault_of "fault_of" (defScope st_fault_of) f (defBody st_fault_of) (23) (b_fault_of) := by
  intro cdv A outer s H E hr
  have hN : N_fault_of.Nodup := sc_fault_of.nd
  have tk := takes_of (X := cxOf (L2.CX P w) P w K mg base N_fault_of "fault_of" (defScope st_fault_of) f cdv A outer s H E) (E := E) rfl rfl rfl rfl
  have hp := passes_of (X := cxOf (L2.CX P w) P w K mg base N_fault_of "fault_of" (defScope st_fault_of) f cdv A outer s H E) rfl
  have hu := hr.units
  have hu1 : _ + 1 < _ := Nat.lt_of_le_of_lt (Nat.add_le_add_left (by decide : 1 ≤ 64) _) hu
  exact (fss_cons (fs_asgT (fe_var 0) (fg_tupA rfl (fgs_consA (fg_name (i := 1) hN rfl (.inl rfl)) (fgs_consA (fg_name (i := 2) hN rfl (.inl rfl)) (fgs_consA (fg_name (i := 3) hN rfl (.inl rfl)) fgs_nil)))))
    (fss_cons (fs_if (ft_not (ft_val (fe_fn (ok_are_unlike G) tk hr (by omega) rfl (fa_cons (fe_lc rfl hN (fi_seq (fe_var 2)) (own := [("wire", 6)]) (blkOk_by (by kernel_rfl)) (by decide) (fun s H C cl fp => (fw_name (i := 6) hN rfl (.inl rfl))) (fun s H C cl fp => fts_nil) (fun s H C cl fp => (fe_ix (fe_var 6) fe_int))) fa_nil))))
    (fss_one (fs_ret (fe_tup (fa_cons fe_str fa_nil) (small_cons small_nil))))
    fss_nil)
    (fss_cons (fs_if (ft_not (ft_val (fe_fn (ok_are_unlike G) tk hr (by omega) rfl (fa_cons (fe_lc rfl hN (fi_seq (fe_var 3)) (own := [("person", 7)]) (blkOk_by (by kernel_rfl)) (by decide) (fun s H C cl fp => (fw_name (i := 7) hN rfl (.inl rfl))) (fun s H C cl fp => fts_nil) (fun s H C cl fp => (fe_ix (fe_var 7) fe_int))) fa_nil))))
    (fss_one (fs_ret (fe_tup (fa_cons fe_str fa_nil) (small_cons small_nil))))
    fss_nil)
    (fss_cons (fs_for hp rfl (fi_range1 rfl G.f_range (fa_cons (fe_callB o_len rfl G.f_len PyProof.Rows.Boot.«len» (fa_cons (fe_var 3) fa_nil)) fa_nil)) (fg_name (i := 4) hN rfl (.inl rfl))
    (fss_cons (fs_set (i := 5) hN rfl (.inl rfl) (fe_fn (ok_person_fault G) tk hr (by omega) rfl (fa_cons (fe_var 0) (fa_cons (fe_var 4) fa_nil))))
    (fss_one (fs_if (ft_cmp o_notN (fe_var 5) fe_non rfl)
    (fss_one (fs_ret (fe_var 5)))
    fss_nil))))
    (fss_one (fs_ret fe_non))))))
theorem ok_fault_of {P : Program} {w : World} {K : PySem.W.Frag} {mg : Str → Option Value} {base : Heap} (G : Fx P w K mg base) : Fok P w K mg base "fault_of" (24) 1 F_fault_of := by
  obtain ⟨fd, F⟩ := G.d_fault_of
  exact fok_of F G.g_fault_of sc_fault_of rfl (FunD.bindsN (ps := ["thing"]) F fun _ _ _ _ _ _ us hl => match us, hl with | [_], _ => rfl) (w_fault_of G)
abbrev st_is_house : Stmt := top 52
theorem sc_is_house : FnScope N_is_house ["thing"] (defScope st_is_house) := C8.fnScope_by (by decide +kernel)
theorem w_is_house {P : Program} {w : World} {K : PySem.W.Frag} {mg : Str → Option Value} {base : Heap} (G : Fx P w K mg base) {f : Addr} : BodyOk P w K mg base N_is_house "is_house" (defScope st_is_house) f (defBody st_is_house) (24) (b_is_house) := by
  intro cdv A outer s H E hr
  have hN : N_is_house.Nodup := sc_is_house.nd
  have tk := takes_of (X := cxOf (L2.CX P w) P w K mg base N_is_house "is_house" (defScope st_is_house) f cdv A outer s H E) (E := E) rfl rfl rfl rfl
  have hp := passes_of (X := cxOf (L2.CX P w) P w K mg base N_is_house "is_house" (defScope st_is_house) f cdv A outer s H E) rfl
  have hu := hr.units
  have hu1 : _ + 1 < _ := Nat.lt_of_le_of_lt (Nat.add_le_add_left (by decide : 1 ≤ 64) _) hu
  exact (fss_one (fs_ret (fe_and (fe_fn (ok_has_form G) tk hr (by omega) rfl (fa_cons (fe_var 0) fa_nil)) (fe_one (fe_cmp o_isN (fe_fn (ok_fault_of G) tk hr (by omega) rfl (fa_cons (fe_var 0) fa_nil)) fe_non rfl)))))
theorem ok_is_house {P : Program} {w : World} {K : PySem.W.Frag} {mg : Str → Option Value} {base : Heap} (G : Fx P w K mg base) : Fok P w K mg base "is_house" (25) 1 F_is_house := by
  obtain ⟨fd, F⟩ := G.d_is_house
  exact fok_of F G.g_is_house sc_is_house rfl (FunD.bindsN (ps := ["thing"]) F fun _ _ _ _ _ _ us hl => match us, hl with | [_], _ => rfl) (w_is_house G)
abbrev st_need_house : Stmt := top 53
theorem sc_need_house : FnScope N_need_house ["thing"] (defScope st_need_house) := C8.fnScope_by (by decide +kernel)
theorem w_need_house {P : Program} {w : World} {K : PySem.W.Frag} {mg : Str → Option Value} {base : Heap} (G : Fx P w K mg base) {f : Addr} : BodyOk P w K mg base N_need_house "need_house" (defScope st_need_house) f (defBody st_need_house) (25) (b_need_house) := by
  intro cdv A outer s H E hr
  have hN : N_need_house.Nodup := sc_need_house.nd
  have tk := takes_of (X := cxOf (L2.CX P w) P w K mg base N_need_house "need_house" (defScope st_need_house) f cdv A outer s H E) (E := E) rfl rfl rfl rfl
  have hp := passes_of (X := cxOf (L2.CX P w) P w K mg base N_need_house "need_house" (defScope st_need_house) f cdv A outer s H E) rfl
  have hu := hr.units
  have hu1 : _ + 1 < _ := Nat.lt_of_le_of_lt (Nat.add_le_add_left (by decide : 1 ≤ 64) _) hu
  exact (fss_one (fs_if (ft_not (ft_val (fe_fn (ok_is_house G) tk hr (by omega) rfl (fa_cons (fe_var 0) fa_nil))))
    (fss_one (fs_raise rfl tk G.x_NoHouse.1 G.x_NoHouse.2.1 G.x_NoHouse.2.2.1 (G.x_NoHouse.2.2.2 _ rfl) rfl))
    fss_nil))
theorem ok_need_house {P : Program} {w : World} {K : PySem.W.Frag} {mg : Str → Option Value} {base : Heap} (G : Fx P w K mg base) : Fok P w K mg base "need_house" (26) 1 F_need_house := by
  obtain ⟨fd, F⟩ := G.d_need_house
  exact fok_of F G.g_need_house sc_need_house rfl (FunD.bindsN (ps := ["thing"]) F fun _ _ _ _ _ _ us hl => match us, hl with | [_], _ => rfl) (w_need_house G)
abbrev st_need_person : Stmt := top 54
theorem sc_need_person : FnScope N_need_person ["house", "thing"] (defScope st_need_person) := C8.fnScope_by (by decide +kernel)
theorem w_need_person {P : Program} {w : World} {K : PySem.W.Frag} {mg : Str → Option Value} {base : Heap} (G : Fx P w K mg base) {f : Addr} : BodyOk P w K mg base N_need_person "need_person" (defScope st_need_person) f (defBody st_need_person) (2) (b_need_person) := by
  intro cdv A outer s H E hr
  have hN : N_need_person.Nodup := sc_need_person.nd
  have tk := takes_of (X := cxOf (L2.CX P w) P w K mg base N_need_person "need_person" (defScope st_need_person) f cdv A outer s H E) (E := E) rfl rfl rfl rfl
  have hp := passes_of (X := cxOf (L2.CX P w) P w K mg base N_need_person "need_person" (defScope st_need_person) f cdv A outer s H E) rfl
  have hu := hr.units
  have hu1 : _ + 1 < _ := Nat.lt_of_le_of_lt (Nat.add_le_add_left (by decide : 1 ≤ 64) _) hu
  exact (fss_one (fs_if (ft_not (ft_val (fe_fn (ok_is_between G) tk hr (by omega) rfl (fa_cons (fe_var 1) (fa_cons fe_int (fa_cons (fe_op o_sub (fe_callB o_len rfl G.f_len PyProof.Rows.Boot.«len» (fa_cons (fe_ix (fe_var 0) fe_int) fa_nil)) fe_int) fa_nil))))))
    (fss_one (fs_raise rfl tk G.x_NoPerson.1 G.x_NoPerson.2.1 G.x_NoPerson.2.2.1 (G.x_NoPerson.2.2.2 _ rfl) rfl))
    fss_nil))
theorem ok_need_person {P : Program} {w : World} {K : PySem.W.Frag} {mg : Str → Option Value} {base : Heap} (G : Fx P w K mg base) : Fok P w K mg base "need_person" (3) 2 F_need_person := by
  obtain ⟨fd, F⟩ := G.d_need_person
  exact fok_of F G.g_need_person sc_need_person rfl (FunD.bindsN (ps := ["house", "thing"]) F fun _ _ _ _ _ _ us hl => match us, hl with | [_, _], _ => rfl) (w_need_person G)
abbrev st_need_wire : Stmt := top 55
theorem sc_need_wire : FnScope N_need_wire ["house", "thing"] (defScope st_need_wire) := C8.fnScope_by (by decide +kernel)
theorem w_need_wire {P : Program} {w : World} {K : PySem.W.Frag} {mg : Str → Option Value} {base : Heap} (G : Fx P w K mg base) {f : Addr} : BodyOk P w K mg base N_need_wire "need_wire" (defScope st_need_wire) f (defBody st_need_wire) (2) (b_need_wire) := by
  intro cdv A outer s H E hr
  have hN : N_need_wire.Nodup := sc_need_wire.nd
  have tk := takes_of (X := cxOf (L2.CX P w) P w K mg base N_need_wire "need_wire" (defScope st_need_wire) f cdv A outer s H E) (E := E) rfl rfl rfl rfl
  have hp := passes_of (X := cxOf (L2.CX P w) P w K mg base N_need_wire "need_wire" (defScope st_need_wire) f cdv A outer s H E) rfl
  have hu := hr.units
  have hu1 : _ + 1 < _ := Nat.lt_of_le_of_lt (Nat.add_le_add_left (by decide : 1 ≤ 64) _) hu
  exact (fss_one (fs_if (ft_not (ft_val (fe_fn (ok_is_between G) tk hr (by omega) rfl (fa_cons (fe_var 1) (fa_cons fe_int (fa_cons (fe_op o_sub (fe_callB o_len rfl G.f_len PyProof.Rows.Boot.«len» (fa_cons (fe_ix (fe_var 0) fe_int) fa_nil)) fe_int) fa_nil))))))
    (fss_one (fs_raise rfl tk G.x_NoWire.1 G.x_NoWire.2.1 G.x_NoWire.2.2.1 (G.x_NoWire.2.2.2 _ rfl) rfl))
    fss_nil))
theorem ok_need_wire {P : Program} {w : World} {K : PySem.W.Frag} {mg : Str → Option Value} {base : Heap} (G : Fx P w K mg base) : Fok P w K mg base "need_wire" (3) 2 F_need_wire := by
  obtain ⟨fd, F⟩ := G.d_need_wire
  exact fok_of F G.g_need_wire sc_need_wire rfl (FunD.bindsN (ps := ["house", "thing"]) F fun _ _ _ _ _ _ us hl => match us, hl with | [_, _], _ => rfl) (w_need_wire G)
end Z

set_option Elab.async false
set_option linter.all false
set_option maxRecDepth 100000
set_option maxHeartbeats 0
namespace Z
open PySem PySem.Spec PyProof.Rows L2 Y
abbrev st_are_inputs_of : Stmt := top 61
theorem sc_are_inputs_of : FnScope N_are_inputs_of ["house", "thing"] (defScope st_are_inputs_of) := C8.fnScope_by (by decide +kernel)
theorem w_are_inputs_of {P : Program} {w : World} {K : PySem.W.Frag} {mg : Str → Option Value} {base : Heap} (G : Fx P w K mg base) {f : Addr} : BodyOk P w K mg base N_are_inputs_of "are_inputs_of" (defScope st_are_inputs_of) f (defBody st_are_inputs_of) (2) (b_are_inputs_of) := by
  intro cdv A outer s H E hr
  have hN : N_are_inputs_of.Nodup := sc_are_inputs_of.nd
  have tk := takes_of (X := cxOf (L2.CX P w) P w K mg base N_are_inputs_of "are_inputs_of" (defScope st_are_inputs_of) f cdv A outer s H E) (E := E) rfl rfl rfl rfl
  have hp := passes_of (X := cxOf (L2.CX P w) P w K mg base N_are_inputs_of "are_inputs_of" (defScope st_are_inputs_of) f cdv A outer s H E) rfl
  have hu := hr.units
  have hu1 : _ + 1 < _ := Nat.lt_of_le_of_lt (Nat.add_le_add_left (by decide : 1 ≤ 64) _) hu
  exact (fss_cons (fs_if (fw_test (fw_or (ft_not (ft_val (fe_isi rfl G.f_isinstance rfl G.f_tuple PyProof.Rows.Boot.«tuple» (fe_var 1)))) (fw_or1 (ft_cmp (o_ne hu) (fe_callB o_len rfl G.f_len PyProof.Rows.Boot.«len» (fa_cons (fe_var 1) fa_nil)) (fe_callB o_len rfl G.f_len PyProof.Rows.Boot.«len» (fa_cons (fe_ix (fe_var 0) fe_int) fa_nil)) rfl))))
    (fss_one (fs_ret fe_bl))
    fss_nil)
    (fss_cons (fs_for hp rfl (fi_zip rfl G.f_zip (fa_cons (fe_var 1) (fa_cons (fe_ix (fe_var 0) fe_int) fa_nil))) (fg_tupA rfl (fgs_consA (fg_name (i := 2) hN rfl (.inl rfl)) (fgs_consA (fg_name (i := 3) hN rfl (.inl rfl)) fgs_nil)))
    (fss_cons (fs_if (fw_test (fw_or (ft_not (ft_val (fe_isi rfl G.f_isinstance rfl G.f_tuple PyProof.Rows.Boot.«tuple» (fe_var 2)))) (fw_or1 (ft_cmp (o_ne hu) (fe_callB o_len rfl G.f_len PyProof.Rows.Boot.«len» (fa_cons (fe_var 2) fa_nil)) (fe_callB o_len rfl G.f_len PyProof.Rows.Boot.«len» (fa_cons (fe_ix (fe_var 3) fe_int) fa_nil)) rfl))))
    (fss_one (fs_ret fe_bl))
    fss_nil)
    (fss_one (fs_if (ft_not (ft_val (fe_callB (o_all rfl) rfl G.f_all PyProof.Rows.Boot.«all» (fa_cons (fe_lc rfl hN (fi_seq (fe_var 2)) (own := [("number", 4)]) (blkOk_by (by kernel_rfl)) (by decide) (fun s H C cl fp => (fw_name (i := 4) hN rfl (.inl rfl))) (fun s H C cl fp => fts_nil) (fun s H C cl fp => (fe_fn (ok_is_between G) takes_none5 hr (by omega) rfl (fa_cons (fe_var 4) (fa_cons fe_int (fa_cons (fe_op o_sub (fe_ix (fe_var 0) fe_int) fe_int) fa_nil)))))) fa_nil))))
    (fss_one (fs_ret fe_bl))
    fss_nil))))
    (fss_one (fs_ret fe_bl))))
theorem ok_are_inputs_of {P : Program} {w : World} {K : PySem.W.Frag} {mg : Str → Option Value} {base : Heap} (G : Fx P w K mg base) : Fok P w K mg base "are_inputs_of" (3) 2 F_are_inputs_of := by
  obtain ⟨fd, F⟩ := G.d_are_inputs_of
  exact fok_of F G.g_are_inputs_of sc_are_inputs_of rfl (FunD.bindsN (ps := ["house", "thing"]) F fun _ _ _ _ _ _ us hl => match us, hl with | [_, _], _ => rfl) (w_are_inputs_of G)
abbrev st_need_inputs : Stmt := top 62
theorem sc_need_inputs : FnScope N_need_inputs ["house", "thing"] (defScope st_need_inputs) := C8.fnScope_by (by decide +kernel)
theorem w_need_inputs {P : Program} {w : World} {K : PySem.W.Frag} {mg : Str → Option Value} {base : Heap} (G : Fx P w K mg base) {f : Addr} : BodyOk P w K mg base N_need_inputs "need_inputs" (defScope st_need_inputs) f (defBody st_need_inputs) (26) (b_need_inputs) := by
  intro cdv A outer s H E hr
  have hN : N_need_inputs.Nodup := sc_need_inputs.nd
  have tk := takes_of (X := cxOf (L2.CX P w) P w K mg base N_need_inputs "need_inputs" (defScope st_need_inputs) f cdv A outer s H E) (E := E) rfl rfl rfl rfl
  have hp := passes_of (X := cxOf (L2.CX P w) P w K mg base N_need_inputs "need_inputs" (defScope st_need_inputs) f cdv A outer s H E) rfl
  have hu := hr.units
  have hu1 : _ + 1 < _ := Nat.lt_of_le_of_lt (Nat.add_le_add_left (by decide : 1 ≤ 64) _) hu
  exact (fss_cons (fs_expr (fe_fn (ok_need_house G) tk hr (by omega) rfl (fa_cons (fe_var 0) fa_nil)))
    (fss_one (fs_if (ft_not (ft_val (fe_fn (ok_are_inputs_of G) tk hr (by omega) rfl (fa_cons (fe_var 0) (fa_cons (fe_var 1) fa_nil)))))
    (fss_one (fs_raise rfl tk G.x_NoInputs.1 G.x_NoInputs.2.1 G.x_NoInputs.2.2.1 (G.x_NoInputs.2.2.2 _ rfl) rfl))
    fss_nil)))
theorem ok_need_inputs {P : Program} {w : World} {K : PySem.W.Frag} {mg : Str → Option Value} {base : Heap} (G : Fx P w K mg base) : Fok P w K mg base "need_inputs" (27) 2 F_need_inputs := by
  obtain ⟨fd, F⟩ := G.d_need_inputs
  exact fok_of F G.g_need_inputs sc_need_inputs rfl (FunD.bindsN (ps := ["house", "thing"]) F fun _ _ _ _ _ _ us hl => match us, hl with | [_, _], _ => rfl) (w_need_inputs G)
abbrev st_spots : Stmt := top 79
theorem sc_spots : FnScope N_spots ["person"] (defScope st_spots) := C8.fnScope_by (by decide +kernel)
theorem w_spots {P : Program} {w : World} {K : PySem.W.Frag} {mg : Str → Option Value} {base : Heap} (G : Fx P w K mg base) {f : Addr} : BodyOk P w K mg base N_spots "spots" (defScope st_spots) f (defBody st_spots) (2) (b_spots) := by
  intro cdv A outer s H E hr
  have hN : N_spots.Nodup := sc_spots.nd
  have tk := takes_of (X := cxOf (L2.CX P w) P w K mg base N_spots "spots" (defScope st_spots) f cdv A outer s H E) (E := E) rfl rfl rfl rfl
  have hp := passes_of (X := cxOf (L2.CX P w) P w K mg base N_spots "spots" (defScope st_spots) f cdv A outer s H E) rfl
  have hu := hr.units
  have hu1 : _ + 1 < _ := Nat.lt_of_le_of_lt (Nat.add_le_add_left (by decide : 1 ≤ 64) _) hu
  exact (fss_one (fs_ret (fe_lc2 rfl hN (fi_seq (fe_fn (ok_whole_blocks G) tk hr (by omega) rfl (fa_cons (fe_var 0) fa_nil))) (own := [("block", 1), ("here", 2)]) (blkOk_by (by kernel_rfl)) (by decide) (by decide) (by decide) (fun s H C cl fp => (fw_name (i := 1) hN rfl (.inl rfl))) (fun s H C cl fp => fts_nil) (fun s H C cl fp => (fi_seq (fe_fn (ok_statements_in G) takes_none5 hr (by omega) rfl (fa_cons (fe_var 1) fa_nil)))) (fun s H C cl fp => (fw_name (i := 2) hN rfl (.inl rfl))) (fun s H C cl fp => fts_nil) (fun s H C cl fp => (fe_var 2)))))
theorem ok_spots {P : Program} {w : World} {K : PySem.W.Frag} {mg : Str → Option Value} {base : Heap} (G : Fx P w K mg base) : Fok P w K mg base "spots" (3) 1 F_spots := by
  obtain ⟨fd, F⟩ := G.d_spots
  exact fok_of F G.g_spots sc_spots rfl (FunD.bindsN (ps := ["person"]) F fun _ _ _ _ _ _ us hl => match us, hl with | [_], _ => rfl) (w_spots G)
abbrev st_Edit___init__ : Stmt := meth 80 0
theorem sc_Edit___init__ : FnScope N_Edit___init__ ["self", "at", "deed", "statement"] (defScope st_Edit___init__) := C8.fnScope_by (by decide +kernel)
theorem w_Edit___init__ {P : Program} {w : World} {K : PySem.W.Frag} {mg : Str → Option Value} {base : Heap} (G : Fx P w K mg base) {f : Addr} : BodyOk P w K mg base N_Edit___init__ "Edit.__init__" (defScope st_Edit___init__) f (defBody st_Edit___init__) (0) (b_Edit___init__) := by
  intro cdv A outer s H E hr
  have hN : N_Edit___init__.Nodup := sc_Edit___init__.nd
  have tk := takes_of (X := cxOf (L2.CX P w) P w K mg base N_Edit___init__ "Edit.__init__" (defScope st_Edit___init__) f cdv A outer s H E) (E := E) rfl rfl rfl rfl
  have hp := passes_of (X := cxOf (L2.CX P w) P w K mg base N_Edit___init__ "Edit.__init__" (defScope st_Edit___init__) f cdv A outer s H E) rfl
  have hu := hr.units
  have hu1 : _ + 1 < _ := Nat.lt_of_le_of_lt (Nat.add_le_add_left (by decide : 1 ≤ 64) _) hu
  exact (fss_cons (fs_fld (fe_var 1) (fe_var 0) G.c_Edit G.n_Edit_at)
    (fss_cons (fs_fld (fe_var 2) (fe_var 0) G.c_Edit G.n_Edit_deed)
    (fss_cons (fs_fld (fe_var 3) (fe_var 0) G.c_Edit G.n_Edit_statement)
    (fss_one (fs_fld fe_int (fe_var 0) G.c_Edit G.n_Edit_met)))))
theorem ok_Edit___init__ {P : Program} {w : World} {K : PySem.W.Frag} {mg : Str → Option Value} {base : Heap} (G : Fx P w K mg base) : Kok P w K mg base "Edit" (1) 4 F_Edit___init__ := by
  obtain ⟨fd, F⟩ := G.d_Edit___init__
  exact kok_of F G.k_Edit G.g_Edit sc_Edit___init__ rfl (FunD.bindsN (ps := ["self", "at", "deed", "statement"]) F fun _ _ _ _ _ _ us hl => match us, hl with | [_, _, _, _], _ => rfl) (w_Edit___init__ G)
abbrev st_Edit_block : Stmt := meth 80 1
theorem sc_Edit_block : FnScope N_Edit_block ["self", "block"] (defScope st_Edit_block) := C8.fnScope_by (by decide +kernel)
theorem w_Edit_block {P : Program} {w : World} {K : PySem.W.Frag} {mg : Str → Option Value} {base : Heap} (G : Fx P w K mg base) {f : Addr} {n : Nat} {F : Fd} (T : Mok P w K mg base "Edit" "block" (1 + n) 2 F) : BodyOk P w K mg base N_Edit_block "Edit.block" (defScope st_Edit_block) f (defBody st_Edit_block) (1 + n) (b_Edit_block F) := by
  intro cdv A outer s H E hr
  have hN : N_Edit_block.Nodup := sc_Edit_block.nd
  have tk := takes_of (X := cxOf (L2.CX P w) P w K mg base N_Edit_block "Edit.block" (defScope st_Edit_block) f cdv A outer s H E) (E := E) rfl rfl rfl rfl
  have hp := passes_of (X := cxOf (L2.CX P w) P w K mg base N_Edit_block "Edit.block" (defScope st_Edit_block) f cdv A outer s H E) rfl
  have hu := hr.units
  have hu1 : _ + 1 < _ := Nat.lt_of_le_of_lt (Nat.add_le_add_left (by decide : 1 ≤ 64) _) hu
  exact (fss_cons (fs_set (i := 2) hN rfl (.inl rfl) (fe_lst fa_nil small_nil))
    (fss_cons (fs_for hp rfl (fi_seq (fe_var 1)) (fg_name (i := 3) hN rfl (.inl rfl))
    (fss_cons (fs_set (i := 4) hN rfl (.inl rfl) (fe_cmp (o_eq hu) (fe_fld (fe_var 0) G.c_Edit G.n_Edit_met) (fe_fld (fe_var 0) G.c_Edit G.n_Edit_at) rfl))
    (fss_cons (fs_fldaug (fe_var 0) fe_int G.c_Edit G.n_Edit_met)
    (fss_cons (fs_setLc rfl hN (i := 5) rfl rfl (sw_true rfl rfl rfl (by decide)) (fi_seq (fe_fn (ok_blocks_in G) tk hr (by omega) rfl (fa_cons (fe_var 3) fa_nil))) (own := [("part", 7)]) (blkOk_by (by kernel_rfl)) (by decide) (fun s H C cl fp => (fw_name (i := 7) hN rfl (.inl rfl))) (fun s H C cl fp => fts_nil) (fun s H C cl fp => (fe_mt T takes_none5 hr (by omega) (fe_var 0) (fa_cons (fe_var 7) fa_nil))))
    (fss_cons (fs_set (i := 6) hN rfl (.inl rfl) (fe_op o_add (fe_slice (fe_var 3) fo_none (fo_some (fe_op o_sub (fe_callB o_len rfl G.f_len PyProof.Rows.Boot.«len» (fa_cons (fe_var 3) fa_nil)) (fe_callB o_len rfl G.f_len PyProof.Rows.Boot.«len» (fa_cons (fe_var 5) fa_nil))))) (fe_callTy o_tuple rfl G.f_tuple PyProof.Rows.Boot.«tuple» (fa_cons (fe_var 5) fa_nil))))
    (fss_one (fs_if (ft_not (ft_val (fe_var 4)))
    (fss_one (fs_expr (fe_meth PySem.F.slot_list_append PySem.F.type_list_append o_app (fe_var 2) (fa_cons (fe_var 6) fa_nil))))
    (fss_one (fs_if (ft_cmp (o_eq hu) (fe_fld (fe_var 0) G.c_Edit G.n_Edit_deed) fe_str rfl)
    (fss_one (fs_expr (fe_meth PySem.F.slot_list_extend PySem.F.type_list_extend o_ext (fe_var 2) (fa_cons (fe_lst (fa_cons (fe_fld (fe_var 0) G.c_Edit G.n_Edit_statement) (fa_cons (fe_var 6) fa_nil)) (small_cons (small_cons small_nil))) fa_nil))))
    (fss_one (fs_if (ft_cmp (o_eq hu) (fe_fld (fe_var 0) G.c_Edit G.n_Edit_deed) fe_str rfl)
    (fss_one (fs_expr (fe_meth PySem.F.slot_list_append PySem.F.type_list_append o_app (fe_var 2) (fa_cons (fe_fld (fe_var 0) G.c_Edit G.n_Edit_statement) fa_nil))))
    fss_nil)))))))))))
    (fss_one (fs_ret (fe_callTy o_tuple rfl G.f_tuple PyProof.Rows.Boot.«tuple» (fa_cons (fe_var 2) fa_nil))))))
theorem ok_Edit_block {P : Program} {w : World} {K : PySem.W.Frag} {mg : Str → Option Value} {base : Heap} (G : Fx P w K mg base) : ∀ n, Mok P w K mg base "Edit" "block" (1 + n) 2 (F_Edit_block n)
  | 0 => by
    obtain ⟨fd, F⟩ := G.d_Edit_block
    exact mok_bad F G.c_Edit G.m_Edit_block rfl (FunD.bindsN (ps := ["self", "block"]) F fun _ _ _ _ _ _ us hl => match us, hl with | [_, _], _ => rfl)
  | n + 1 => by
    obtain ⟨fd, F⟩ := G.d_Edit_block
    exact mok_of F G.c_Edit G.m_Edit_block sc_Edit_block rfl (FunD.bindsN (ps := ["self", "block"]) F fun _ _ _ _ _ _ us hl => match us, hl with | [_, _], _ => rfl) (w_Edit_block G (ok_Edit_block G n))
abbrev st_Edit_person : Stmt := meth 80 2
theorem sc_Edit_person : FnScope N_Edit_person ["self", "person"] (defScope st_Edit_person) := C8.fnScope_by (by decide +kernel)
theorem w_Edit_person {P : Program} {w : World} {K : PySem.W.Frag} {mg : Str → Option Value} {base : Heap} (G : Fx P w K mg base) {f : Addr} : BodyOk P w K mg base N_Edit_person "Edit.person" (defScope st_Edit_person) f (defBody st_Edit_person) (21) (b_Edit_person) := by
  intro cdv A outer s H E hr
  have hN : N_Edit_person.Nodup := sc_Edit_person.nd
  have tk := takes_of (X := cxOf (L2.CX P w) P w K mg base N_Edit_person "Edit.person" (defScope st_Edit_person) f cdv A outer s H E) (E := E) rfl rfl rfl rfl
  have hp := passes_of (X := cxOf (L2.CX P w) P w K mg base N_Edit_person "Edit.person" (defScope st_Edit_person) f cdv A outer s H E) rfl
  have hu := hr.units
  have hu1 : _ + 1 < _ := Nat.lt_of_le_of_lt (Nat.add_le_add_left (by decide : 1 ≤ 64) _) hu
  exact (fss_cons (fs_set (i := 2) hN rfl (.inl rfl) (fe_callTy o_tuple rfl G.f_tuple PyProof.Rows.Boot.«tuple» (fa_cons (fe_lc rfl hN (fi_seq (fe_ix (fe_var 1) fe_int)) (own := [("name", 5), ("block", 4)]) (blkOk_by (by kernel_rfl)) (by decide) (fun s H C cl fp => (fw_tup rfl (fws_cons (fw_name (i := 5) hN rfl (.inl rfl)) (fws_cons (fw_name (i := 4) hN rfl (.inl rfl)) fws_nil)))) (fun s H C cl fp => fts_nil) (fun s H C cl fp => (fe_tup (fa_cons (fe_var 5) (fa_cons (fe_mt (ok_Edit_block G 20) takes_none5 hr (by omega) (fe_var 0) (fa_cons (fe_var 4) fa_nil)) fa_nil)) (small_cons (small_cons small_nil))))) fa_nil)))
    (fss_cons (fs_set (i := 3) hN rfl (.inl rfl) (fe_mt (ok_Edit_block G 20) tk hr (by omega) (fe_var 0) (fa_cons (fe_ix (fe_var 1) fe_int) fa_nil)))
    (fss_cons (fs_if (fw_test (fw_and (ft_cmp (o_eq hu) (fe_fld (fe_var 0) G.c_Edit G.n_Edit_met) (fe_fld (fe_var 0) G.c_Edit G.n_Edit_at) rfl) (fw_and1 (ft_cmp (o_eq hu) (fe_fld (fe_var 0) G.c_Edit G.n_Edit_deed) fe_str rfl))))
    (fss_one (fs_set (i := 3) hN rfl (.inl rfl) (fe_op o_add (fe_var 3) (fe_tup (fa_cons (fe_fld (fe_var 0) G.c_Edit G.n_Edit_statement) fa_nil) (small_cons small_nil)))))
    fss_nil)
    (fss_one (fs_ret (fe_tup (fa_cons (fe_ix (fe_var 1) fe_int) (fa_cons (fe_ix (fe_var 1) fe_int) (fa_cons (fe_var 2) (fa_cons (fe_var 3) fa_nil)))) (small_cons (small_cons (small_cons (small_cons small_nil))))))))))
theorem ok_Edit_person {P : Program} {w : World} {K : PySem.W.Frag} {mg : Str → Option Value} {base : Heap} (G : Fx P w K mg base) : Mok P w K mg base "Edit" "person" (22) 2 F_Edit_person := by
  obtain ⟨fd, F⟩ := G.d_Edit_person
  exact mok_of F G.c_Edit G.m_Edit_person sc_Edit_person rfl (FunD.bindsN (ps := ["self", "person"]) F fun _ _ _ _ _ _ us hl => match us, hl with | [_, _], _ => rfl) (w_Edit_person G)
abbrev st_edited : Stmt := top 81
theorem sc_edited : FnScope N_edited ["house", "entry"] (defScope st_edited) := C8.fnScope_by (by decide +kernel)
theorem w_edited {P : Program} {w : World} {K : PySem.W.Frag} {mg : Str → Option Value} {base : Heap} (G : Fx P w K mg base) {f : Addr} : BodyOk P w K mg base N_edited "edited" (defScope st_edited) f (defBody st_edited) (25) (b_edited) := by
  intro cdv A outer s H E hr
  have hN : N_edited.Nodup := sc_edited.nd
  have tk := takes_of (X := cxOf (L2.CX P w) P w K mg base N_edited "edited" (defScope st_edited) f cdv A outer s H E) (E := E) rfl rfl rfl rfl
  have hp := passes_of (X := cxOf (L2.CX P w) P w K mg base N_edited "edited" (defScope st_edited) f cdv A outer s H E) rfl
  have hu := hr.units
  have hu1 : _ + 1 < _ := Nat.lt_of_le_of_lt (Nat.add_le_add_left (by decide : 1 ≤ 64) _) hu
  exact (fss_cons (fs_set (i := 2) hN rfl (.inl rfl) (fe_ix (fe_var 1) fe_int))
    (fss_cons (fs_if (ft_cmp (o_eq hu) (fe_var 2) fe_str rfl)
    (fss_cons (fs_expr (fe_fn (ok_need_wire G) tk hr (by omega) rfl (fa_cons (fe_var 0) (fa_cons (fe_ix (fe_var 1) fe_int) fa_nil))))
    (fss_cons (fs_set (i := 3) hN rfl (.inl rfl) (fe_callTy o_list rfl G.f_list PyProof.Rows.Boot.«list» (fa_cons (fe_ix (fe_var 0) fe_int) fa_nil)))
    (fss_cons (fs_subL (fe_op o_add (fe_slice (fe_ix (fe_var 3) (fe_ix (fe_var 1) fe_int)) fo_none (fo_some fe_int)) (fe_tup (fa_cons (fe_ix (fe_var 1) fe_int) fa_nil) (small_cons small_nil))) (fe_var 3) (fe_ix (fe_var 1) fe_int))
    (fss_one (fs_set (i := 4) hN rfl (.inl rfl) (fe_tup (fa_cons (fe_ix (fe_var 0) fe_int) (fa_cons (fe_callTy o_tuple rfl G.f_tuple PyProof.Rows.Boot.«tuple» (fa_cons (fe_var 3) fa_nil)) (fa_cons (fe_ix (fe_var 0) fe_int) fa_nil))) (small_cons (small_cons (small_cons small_nil)))))))))
    (fss_cons (fs_expr (fe_fn (ok_need_person G) tk hr (by omega) rfl (fa_cons (fe_var 0) (fa_cons (fe_ix (fe_var 1) fe_int) fa_nil))))
    (fss_cons (fs_set (i := 5) hN rfl (.inl rfl) (fe_op o_sub (fe_callB o_len rfl G.f_len PyProof.Rows.Boot.«len» (fa_cons (fe_fn (ok_spots G) tk hr (by omega) rfl (fa_cons (fe_ix (fe_ix (fe_var 0) fe_int) (fe_ix (fe_var 1) fe_int)) fa_nil)) fa_nil)) (fe_if (ft_cmp (o_eq hu) (fe_var 2) fe_str rfl) fe_int fe_int)))
    (fss_cons (fs_if (ft_not (ft_val (fe_fn (ok_is_between G) tk hr (by omega) rfl (fa_cons (fe_ix (fe_var 1) fe_int) (fa_cons fe_int (fa_cons (fe_var 5) fa_nil))))))
    (fss_one (fs_raise rfl tk G.x_NoSpot.1 G.x_NoSpot.2.1 G.x_NoSpot.2.2.1 (G.x_NoSpot.2.2.2 _ rfl) rfl))
    fss_nil)
    (fss_cons (fs_set (i := 6) hN rfl (.inl rfl) (fe_mk (ok_Edit___init__ G) tk hr (by decide) rfl (fa_cons (fe_ix (fe_var 1) fe_int) (fa_cons (fe_var 2) (fa_cons (fe_if (ft_cmp (o_ne hu) (fe_var 2) fe_str rfl) (fe_ix (fe_var 1) fe_int) fe_non) fa_nil)))))
    (fss_cons (fs_set (i := 7) hN rfl (.inl rfl) (fe_callTy o_list rfl G.f_list PyProof.Rows.Boot.«list» (fa_cons (fe_ix (fe_var 0) fe_int) fa_nil)))
    (fss_cons (fs_subL (fe_mt (ok_Edit_person G) tk hr (by omega) (fe_var 6) (fa_cons (fe_ix (fe_var 7) (fe_ix (fe_var 1) fe_int)) fa_nil)) (fe_var 7) (fe_ix (fe_var 1) fe_int))
    (fss_one (fs_set (i := 4) hN rfl (.inl rfl) (fe_tup (fa_cons (fe_ix (fe_var 0) fe_int) (fa_cons (fe_ix (fe_var 0) fe_int) (fa_cons (fe_callTy o_tuple rfl G.f_tuple PyProof.Rows.Boot.«tuple» (fa_cons (fe_var 7) fa_nil)) fa_nil))) (small_cons (small_cons (small_cons small_nil)))))))))))))
    (fss_cons (fs_if (ft_not (ft_val (fe_fn (ok_is_house G) tk hr (by omega) rfl (fa_cons (fe_var 4) fa_nil))))
    (fss_one (fs_raise rfl tk G.x_NoHouse.1 G.x_NoHouse.2.1 G.x_NoHouse.2.2.1 (G.x_NoHouse.2.2.2 _ rfl) rfl))
    fss_nil)
    (fss_one (fs_ret (fe_var 4))))))
theorem ok_edited {P : Program} {w : World} {K : PySem.W.Frag} {mg : Str → Option Value} {base : Heap} (G : Fx P w K mg base) : Fok P w K mg base "edited" (26) 2 F_edited := by
  obtain ⟨fd, F⟩ := G.d_edited
  exact fok_of F G.g_edited sc_edited rfl (FunD.bindsN (ps := ["house", "entry"]) F fun _ _ _ _ _ _ us hl => match us, hl with | [_, _], _ => rfl) (w_edited G)
abbrev st_Live___init__ : Stmt := meth 82 0
theorem sc_Live___init__ : FnScope N_Live___init__ ["self", "house"] (defScope st_Live___init__) := C8.fnScope_by (by decide +kernel)
theorem w_Live___init__ {P : Program} {w : World} {K : PySem.W.Frag} {mg : Str → Option Value} {base : Heap} (G : Fx P w K mg base) {f : Addr} : BodyOk P w K mg base N_Live___init__ "Live.__init__" (defScope st_Live___init__) f (defBody st_Live___init__) (26) (b_Live___init__) := by
  intro cdv A outer s H E hr
  have hN : N_Live___init__.Nodup := sc_Live___init__.nd
  have tk := takes_of (X := cxOf (L2.CX P w) P w K mg base N_Live___init__ "Live.__init__" (defScope st_Live___init__) f cdv A outer s H E) (E := E) rfl rfl rfl rfl
  have hp := passes_of (X := cxOf (L2.CX P w) P w K mg base N_Live___init__ "Live.__init__" (defScope st_Live___init__) f cdv A outer s H E) rfl
  have hu := hr.units
  have hu1 : _ + 1 < _ := Nat.lt_of_le_of_lt (Nat.add_le_add_left (by decide : 1 ≤ 64) _) hu
  exact (fss_cons (fs_expr (fe_fn (ok_need_house G) tk hr (by omega) rfl (fa_cons (fe_var 1) fa_nil)))
    (fss_cons (fs_fld (fe_lst (fa_cons (fe_var 1) fa_nil) (small_cons small_nil)) (fe_var 0) G.c_Live G.n_Live_houses)
    (fss_cons (fs_fld (fe_lst fa_nil small_nil) (fe_var 0) G.c_Live G.n_Live_deeds)
    (fss_cons (fs_fld (fe_lst fa_nil small_nil) (fe_var 0) G.c_Live G.n_Live_undone)
    (fss_one (fs_fld fe_dnew (fe_var 0) G.c_Live G.n_Live_books))))))
theorem ok_Live___init__ {P : Program} {w : World} {K : PySem.W.Frag} {mg : Str → Option Value} {base : Heap} (G : Fx P w K mg base) : Kok P w K mg base "Live" (27) 2 F_Live___init__ := by
  obtain ⟨fd, F⟩ := G.d_Live___init__
  exact kok_of F G.k_Live G.g_Live sc_Live___init__ rfl (FunD.bindsN (ps := ["self", "house"]) F fun _ _ _ _ _ _ us hl => match us, hl with | [_, _], _ => rfl) (w_Live___init__ G)
abbrev st_Live_done : Stmt := meth 82 2
theorem sc_Live_done : FnScope N_Live_done ["self", "entry"] (defScope st_Live_done) := C8.fnScope_by (by decide +kernel)
theorem w_Live_done {P : Program} {w : World} {K : PySem.W.Frag} {mg : Str → Option Value} {base : Heap} (G : Fx P w K mg base) {f : Addr} : BodyOk P w K mg base N_Live_done "Live.done" (defScope st_Live_done) f (defBody st_Live_done) (26) (b_Live_done) := by
  intro cdv A outer s H E hr
  have hN : N_Live_done.Nodup := sc_Live_done.nd
  have tk := takes_of (X := cxOf (L2.CX P w) P w K mg base N_Live_done "Live.done" (defScope st_Live_done) f cdv A outer s H E) (E := E) rfl rfl rfl rfl
  have hp := passes_of (X := cxOf (L2.CX P w) P w K mg base N_Live_done "Live.done" (defScope st_Live_done) f cdv A outer s H E) rfl
  have hu := hr.units
  have hu1 : _ + 1 < _ := Nat.lt_of_le_of_lt (Nat.add_le_add_left (by decide : 1 ≤ 64) _) hu
  exact (fss_cons (fs_expr (fe_meth PySem.F.slot_list_append PySem.F.type_list_append o_app (fe_fld (fe_var 0) G.c_Live G.n_Live_houses) (fa_cons (fe_fn (ok_edited G) tk hr (by omega) rfl (fa_cons (fe_ix (fe_fld (fe_var 0) G.c_Live G.n_Live_houses) fe_neg) (fa_cons (fe_var 1) fa_nil))) fa_nil)))
    (fss_cons (fs_expr (fe_meth PySem.F.slot_list_append PySem.F.type_list_append o_app (fe_fld (fe_var 0) G.c_Live G.n_Live_deeds) (fa_cons (fe_var 1) fa_nil)))
    (fss_one (fs_fld (fe_lst fa_nil small_nil) (fe_var 0) G.c_Live G.n_Live_undone))))
theorem ok_Live_done {P : Program} {w : World} {K : PySem.W.Frag} {mg : Str → Option Value} {base : Heap} (G : Fx P w K mg base) : Mok P w K mg base "Live" "done" (27) 2 F_Live_done := by
  obtain ⟨fd, F⟩ := G.d_Live_done
  exact mok_of F G.c_Live G.m_Live_done sc_Live_done rfl (FunD.bindsN (ps := ["self", "entry"]) F fun _ _ _ _ _ _ us hl => match us, hl with | [_, _], _ => rfl) (w_Live_done G)
abbrev st_Live_now : Stmt := meth 82 3
theorem sc_Live_now : FnScope N_Live_now ["self"] (defScope st_Live_now) := C8.fnScope_by (by decide +kernel)
theorem w_Live_now {P : Program} {w : World} {K : PySem.W.Frag} {mg : Str → Option Value} {base : Heap} (G : Fx P w K mg base) {f : Addr} : BodyOk P w K mg base N_Live_now "Live.now" (defScope st_Live_now) f (defBody st_Live_now) (0) (b_Live_now) := by
  intro cdv A outer s H E hr
  have hN : N_Live_now.Nodup := sc_Live_now.nd
  have tk := takes_of (X := cxOf (L2.CX P w) P w K mg base N_Live_now "Live.now" (defScope st_Live_now) f cdv A outer s H E) (E := E) rfl rfl rfl rfl
  have hp := passes_of (X := cxOf (L2.CX P w) P w K mg base N_Live_now "Live.now" (defScope st_Live_now) f cdv A outer s H E) rfl
  have hu := hr.units
  have hu1 : _ + 1 < _ := Nat.lt_of_le_of_lt (Nat.add_le_add_left (by decide : 1 ≤ 64) _) hu
  exact (fss_one (fs_ret (fe_ix (fe_fld (fe_var 0) G.c_Live G.n_Live_houses) fe_neg)))
theorem ok_Live_now {P : Program} {w : World} {K : PySem.W.Frag} {mg : Str → Option Value} {base : Heap} (G : Fx P w K mg base) : Mok P w K mg base "Live" "now" (1) 1 F_Live_now := by
  obtain ⟨fd, F⟩ := G.d_Live_now
  exact mok_of F G.c_Live G.m_Live_now sc_Live_now rfl (FunD.bindsN (ps := ["self"]) F fun _ _ _ _ _ _ us hl => match us, hl with | [_], _ => rfl) (w_Live_now G)
end Z

set_option Elab.async false
set_option linter.all false
set_option maxRecDepth 100000
set_option maxHeartbeats 0
namespace Z
open PySem PySem.Spec PyProof.Rows L2 Y
abbrev st_Live_end : Stmt := meth 82 10
theorem sc_Live_end : FnScope N_Live_end ["self", "inputs"] (defScope st_Live_end) := C8.fnScope_by (by decide +kernel)
theorem w_Live_end {P : Program} {w : World} {K : PySem.W.Frag} {mg : Str → Option Value} {base : Heap} (G : Fx P w K mg base) {f : Addr} : BodyOk P w K mg base N_Live_end "Live.end" (defScope st_Live_end) f (defBody st_Live_end) (27) (b_Live_end) := by
  intro cdv A outer s H E hr
  have hN : N_Live_end.Nodup := sc_Live_end.nd
  have tk := takes_of (X := cxOf (L2.CX P w) P w K mg base N_Live_end "Live.end" (defScope st_Live_end) f cdv A outer s H E) (E := E) rfl rfl rfl rfl
  have hp := passes_of (X := cxOf (L2.CX P w) P w K mg base N_Live_end "Live.end" (defScope st_Live_end) f cdv A outer s H E) rfl
  have hu := hr.units
  have hu1 : _ + 1 < _ := Nat.lt_of_le_of_lt (Nat.add_le_add_left (by decide : 1 ≤ 64) _) hu
  exact (fss_cons (fs_expr (fe_fn (ok_need_inputs G) tk hr (by omega) rfl (fa_cons (fe_ix (fe_fld (fe_var 0) G.c_Live G.n_Live_houses) fe_neg) (fa_cons (fe_var 1) fa_nil))))
    (fss_one fs_bad))
theorem ok_Live_end {P : Program} {w : World} {K : PySem.W.Frag} {mg : Str → Option Value} {base : Heap} (G : Fx P w K mg base) : Mok P w K mg base "Live" "end" (28) 2 F_Live_end := by
  obtain ⟨fd, F⟩ := G.d_Live_end
  exact mok_of F G.c_Live G.m_Live_end sc_Live_end rfl (FunD.bindsN (ps := ["self", "inputs"]) F fun _ _ _ _ _ _ us hl => match us, hl with | [_, _], _ => rfl) (w_Live_end G)
abbrev st_Live_behaviour : Stmt := meth 82 11
theorem sc_Live_behaviour : FnScope N_Live_behaviour ["self", "person"] (defScope st_Live_behaviour) := C8.fnScope_by (by decide +kernel)
theorem w_Live_behaviour {P : Program} {w : World} {K : PySem.W.Frag} {mg : Str → Option Value} {base : Heap} (G : Fx P w K mg base) {f : Addr} : BodyOk P w K mg base N_Live_behaviour "Live.behaviour" (defScope st_Live_behaviour) f (defBody st_Live_behaviour) (3) (b_Live_behaviour) := by
  intro cdv A outer s H E hr
  have hN : N_Live_behaviour.Nodup := sc_Live_behaviour.nd
  have tk := takes_of (X := cxOf (L2.CX P w) P w K mg base N_Live_behaviour "Live.behaviour" (defScope st_Live_behaviour) f cdv A outer s H E) (E := E) rfl rfl rfl rfl
  have hp := passes_of (X := cxOf (L2.CX P w) P w K mg base N_Live_behaviour "Live.behaviour" (defScope st_Live_behaviour) f cdv A outer s H E) rfl
  have hu := hr.units
  have hu1 : _ + 1 < _ := Nat.lt_of_le_of_lt (Nat.add_le_add_left (by decide : 1 ≤ 64) _) hu
  exact (fss_cons (fs_set (i := 2) hN rfl (.inl rfl) (fe_ix (fe_fld (fe_var 0) G.c_Live G.n_Live_houses) fe_neg))
    (fss_cons (fs_expr (fe_fn (ok_need_person G) tk hr (by omega) rfl (fa_cons (fe_var 2) (fa_cons (fe_var 1) fa_nil))))
    (fss_cons fs_bad
    (fss_cons fs_bad
    (fss_one fs_bad)))))
theorem ok_Live_behaviour {P : Program} {w : World} {K : PySem.W.Frag} {mg : Str → Option Value} {base : Heap} (G : Fx P w K mg base) : Mok P w K mg base "Live" "behaviour" (4) 2 F_Live_behaviour := by
  obtain ⟨fd, F⟩ := G.d_Live_behaviour
  exact mok_of F G.c_Live G.m_Live_behaviour sc_Live_behaviour rfl (FunD.bindsN (ps := ["self", "person"]) F fun _ _ _ _ _ _ us hl => match us, hl with | [_, _], _ => rfl) (w_Live_behaviour G)
abbrev st_goes_on : Stmt := top 83
theorem sc_goes_on : FnScope N_goes_on ["live", "entry"] (defScope st_goes_on) := C8.fnScope_by (by decide +kernel)
theorem w_goes_on {P : Program} {w : World} {K : PySem.W.Frag} {mg : Str → Option Value} {base : Heap} (G : Fx P w K mg base) {f : Addr} : BodyOk P w K mg base N_goes_on "goes_on" (defScope st_goes_on) f (defBody st_goes_on) (27) (b_goes_on) := by
  intro cdv A outer s H E hr
  have hN : N_goes_on.Nodup := sc_goes_on.nd
  have tk := takes_of (X := cxOf (L2.CX P w) P w K mg base N_goes_on "goes_on" (defScope st_goes_on) f cdv A outer s H E) (E := E) rfl rfl rfl rfl
  have hp := passes_of (X := cxOf (L2.CX P w) P w K mg base N_goes_on "goes_on" (defScope st_goes_on) f cdv A outer s H E) rfl
  have hu := hr.units
  have hu1 : _ + 1 < _ := Nat.lt_of_le_of_lt (Nat.add_le_add_left (by decide : 1 ≤ 64) _) hu
  exact (fss_cons (fs_if (fw_test (fw_or (ft_not (ft_val (fe_isi rfl G.f_isinstance rfl G.f_tuple PyProof.Rows.Boot.«tuple» (fe_var 1)))) (fw_or (ft_cmp (o_eq hu) (fe_callB o_len rfl G.f_len PyProof.Rows.Boot.«len» (fa_cons (fe_var 1) fa_nil)) fe_int rfl) (fw_or1 (ft_not (ft_val (fe_isi rfl G.f_isinstance rfl G.f_str PyProof.Rows.Boot.«str» (fe_ix (fe_var 1) fe_int))))))))
    (fss_one (fs_ret fe_bl))
    fss_nil)
    (fss_cons (fs_if (fw_test (fw_or (ft_knin G.d_MANY rfl (fe_ix (fe_var 1) fe_int)) (fw_or1 (ft_cmp (o_ne hu) (fe_callB o_len rfl G.f_len PyProof.Rows.Boot.«len» (fa_cons (fe_var 1) fa_nil)) (fe_kget G.d_MANY rfl (fe_ix (fe_var 1) fe_int)) rfl))))
    (fss_one (fs_ret fe_bl))
    fss_nil)
    (fss_cons (fs_try G.sub rfl rfl hN tk (fun W' pn xe tk1 hp1 => (fss_one (fs_expr (fe_mt (ok_Live_done G) tk1 hr (by omega) (fe_var 0) (fa_cons (fe_var 1) fa_nil)))))
    (HdsF.cons rfl (by decide) G.g_HouseError (fun a oe cls d pn hz hf => su_plain (fss_one (fs_ret fe_bl))) HdsF.nil))
    (fss_one (fs_ret fe_bl)))))
theorem ok_goes_on {P : Program} {w : World} {K : PySem.W.Frag} {mg : Str → Option Value} {base : Heap} (G : Fx P w K mg base) : Fok P w K mg base "goes_on" (28) 2 F_goes_on := by
  obtain ⟨fd, F⟩ := G.d_goes_on
  exact fok_of F G.g_goes_on sc_goes_on rfl (FunD.bindsN (ps := ["live", "entry"]) F fun _ _ _ _ _ _ us hl => match us, hl with | [_, _], _ => rfl) (w_goes_on G)
abbrev st_from_log : Stmt := top 84
theorem sc_from_log : FnScope N_from_log ["house", "log"] (defScope st_from_log) := C8.fnScope_by (by decide +kernel)
theorem w_from_log {P : Program} {w : World} {K : PySem.W.Frag} {mg : Str → Option Value} {base : Heap} (G : Fx P w K mg base) {f : Addr} : BodyOk P w K mg base N_from_log "from_log" (defScope st_from_log) f (defBody st_from_log) (28) (b_from_log) := by
  intro cdv A outer s H E hr
  have hN : N_from_log.Nodup := sc_from_log.nd
  have tk := takes_of (X := cxOf (L2.CX P w) P w K mg base N_from_log "from_log" (defScope st_from_log) f cdv A outer s H E) (E := E) rfl rfl rfl rfl
  have hp := passes_of (X := cxOf (L2.CX P w) P w K mg base N_from_log "from_log" (defScope st_from_log) f cdv A outer s H E) rfl
  have hu := hr.units
  have hu1 : _ + 1 < _ := Nat.lt_of_le_of_lt (Nat.add_le_add_left (by decide : 1 ≤ 64) _) hu
  exact (fss_cons (fs_set (i := 2) hN rfl (.inl rfl) (fe_mk (ok_Live___init__ G) tk hr (by decide) rfl (fa_cons (fe_var 0) fa_nil)))
    (fss_cons (fs_if (ft_not (ft_val (fe_isi rfl G.f_isinstance rfl G.f_list PyProof.Rows.Boot.«list» (fe_var 1))))
    (fss_one (fs_raise1 G.xi_BadLog rfl tk hr (by decide) rfl fe_neg))
    fss_nil)
    (fss_cons (fs_for hp rfl (fi_enum rfl G.f_enumerate (fa_cons (fe_var 1) fa_nil)) (fg_tupA rfl (fgs_consA (fg_name (i := 3) hN rfl (.inl rfl)) (fgs_consA (fg_name (i := 4) hN rfl (.inl rfl)) fgs_nil)))
    (fss_one (fs_if (ft_not (ft_val (fe_fn (ok_goes_on G) tk hr (by omega) rfl (fa_cons (fe_var 2) (fa_cons (fe_var 4) fa_nil)))))
    (fss_one (fs_raise1 G.xi_BadLog rfl tk hr (by decide) rfl (fe_var 3)))
    fss_nil)))
    (fss_one (fs_ret (fe_var 2))))))
theorem ok_from_log {P : Program} {w : World} {K : PySem.W.Frag} {mg : Str → Option Value} {base : Heap} (G : Fx P w K mg base) : Fok P w K mg base "from_log" (29) 2 F_from_log := by
  obtain ⟨fd, F⟩ := G.d_from_log
  exact fok_of F G.g_from_log sc_from_log rfl (FunD.bindsN (ps := ["house", "log"]) F fun _ _ _ _ _ _ us hl => match us, hl with | [_, _], _ => rfl) (w_from_log G)
abbrev st__law_hand : Stmt := top 86
theorem sc__law_hand : FnScope N__law_hand ["script"] (defScope st__law_hand) := C8.fnScope_by (by decide +kernel)
theorem w__law_hand {P : Program} {w : World} {K : PySem.W.Frag} {mg : Str → Option Value} {base : Heap} (G : Fx P w K mg base) {f : Addr} : BodyOk P w K mg base N__law_hand "_law_hand" (defScope st__law_hand) f (defBody st__law_hand) (0) (b__law_hand) := by
  intro cdv A outer s H E hr
  have hN : N__law_hand.Nodup := sc__law_hand.nd
  have tk := takes_of (X := cxOf (L2.CX P w) P w K mg base N__law_hand "_law_hand" (defScope st__law_hand) f cdv A outer s H E) (E := E) rfl rfl rfl rfl
  have hp := passes_of (X := cxOf (L2.CX P w) P w K mg base N__law_hand "_law_hand" (defScope st__law_hand) f cdv A outer s H E) rfl
  have hu := hr.units
  have hu1 : _ + 1 < _ := Nat.lt_of_le_of_lt (Nat.add_le_add_left (by decide : 1 ≤ 64) _) hu
  exact (fss_cons (fs_setLc rfl hN (i := 1) rfl rfl (sw_true rfl rfl rfl (by decide)) (fi_seq (fe_slice (fe_var 0) fo_none (fo_some fe_int))) (own := [("cell", 2)]) (blkOk_by (by kernel_rfl)) (by decide) (fun s H C cl fp => (fw_name (i := 2) hN rfl (.inl rfl))) (fun s H C cl fp => fts_nil) (fun s H C cl fp => (fe_callB o_abs rfl G.f_abs PyProof.Rows.Boot.«abs» (fa_cons (fe_callTy o_int rfl G.f_int PyProof.Rows.Boot.«int» (fa_cons (fe_var 2) fa_nil)) fa_nil))))
    (fss_one (fs_ret (fe_lst (fa_cons (fe_var 1) (fa_cons fe_int (fa_cons fe_int (fa_cons (fe_op o_add fe_int (fe_op o_mul fe_int (fe_callB o_len rfl G.f_len PyProof.Rows.Boot.«len» (fa_cons (fe_var 1) fa_nil)))) (fa_cons fe_int fa_nil))))) (small_cons (small_cons (small_cons (small_cons (small_cons small_nil)))))))))
theorem ok__law_hand {P : Program} {w : World} {K : PySem.W.Frag} {mg : Str → Option Value} {base : Heap} (G : Fx P w K mg base) : Fok P w K mg base "_law_hand" (1) 1 F__law_hand := by
  obtain ⟨fd, F⟩ := G.d__law_hand
  exact fok_of F G.g__law_hand sc__law_hand rfl (FunD.bindsN (ps := ["script"]) F fun _ _ _ _ _ _ us hl => match us, hl with | [_], _ => rfl) (w__law_hand G)
abbrev st__law_draw : Stmt := top 87
theorem sc__law_draw : FnScope N__law_draw ["hand", "many"] (defScope st__law_draw) := C8.fnScope_by (by decide +kernel)
theorem w__law_draw {P : Program} {w : World} {K : PySem.W.Frag} {mg : Str → Option Value} {base : Heap} (G : Fx P w K mg base) {f : Addr} : BodyOk P w K mg base N__law_draw "_law_draw" (defScope st__law_draw) f (defBody st__law_draw) (0) (b__law_draw) := by
  intro cdv A outer s H E hr
  have hN : N__law_draw.Nodup := sc__law_draw.nd
  have tk := takes_of (X := cxOf (L2.CX P w) P w K mg base N__law_draw "_law_draw" (defScope st__law_draw) f cdv A outer s H E) (E := E) rfl rfl rfl rfl
  have hp := passes_of (X := cxOf (L2.CX P w) P w K mg base N__law_draw "_law_draw" (defScope st__law_draw) f cdv A outer s H E) rfl
  have hu := hr.units
  have hu1 : _ + 1 < _ := Nat.lt_of_le_of_lt (Nat.add_le_add_left (by decide : 1 ≤ 64) _) hu
  exact (fss_cons (fs_if (fw_test (fw_and (ft_cmp (o_eq hu) (fe_ix (fe_var 0) fe_int) fe_int rfl) (fw_and1 (ft_cmp o_lt (fe_ix (fe_var 0) fe_int) (fe_callB o_len rfl G.f_len PyProof.Rows.Boot.«len» (fa_cons (fe_ix (fe_var 0) fe_int) fa_nil)) rfl))))
    (fss_cons (fs_set (i := 2) hN rfl (.inl rfl) (fe_ix (fe_ix (fe_var 0) fe_int) (fe_ix (fe_var 0) fe_int)))
    (fss_cons (fs_subL (fe_op o_add (fe_ix (fe_var 0) fe_int) fe_int) (fe_var 0) fe_int)
    (fss_cons (fs_subL (fe_op o_mod (fe_callTy o_int rfl G.f_int PyProof.Rows.Boot.«int» (fa_cons (fe_op o_add (fe_op o_add (fe_op o_mul (fe_ix (fe_var 0) fe_int) fe_int) (fe_var 2)) fe_int) fa_nil)) fe_int) (fe_var 0) fe_int)
    (fss_one (fs_if (ft_cmp o_ge (fe_var 2) (fe_op o_pow fe_int fe_int) rfl)
    (fss_one (fs_subL (fe_var 2) (fe_var 0) fe_int))
    fss_nil)))))
    fss_nil)
    (fss_cons (fs_if (ft_cmp o_gt (fe_ix (fe_var 0) fe_int) fe_int rfl)
    (fss_cons (fs_set (i := 3) hN rfl (.inl rfl) (fe_op o_mod (fe_callTy o_int rfl G.f_int PyProof.Rows.Boot.«int» (fa_cons (fe_ix (fe_var 0) fe_int) fa_nil)) (fe_var 1)))
    (fss_cons (fs_subL (fe_op o_fdiv (fe_ix (fe_var 0) fe_int) (fe_var 1)) (fe_var 0) fe_int)
    (fss_one (fs_ret (fe_var 3)))))
    fss_nil)
    (fss_cons (fs_subL (fe_op o_add (fe_ix (fe_var 0) fe_int) fe_int) (fe_var 0) fe_int)
    (fss_cons (fs_set (i := 4) hN rfl (.inl rfl) (fe_op o_mod (fe_callTy o_int rfl G.f_int PyProof.Rows.Boot.«int» (fa_cons (fe_op o_mul (fe_callTy o_int rfl G.f_int PyProof.Rows.Boot.«int» (fa_cons (fe_op o_add (fe_ix (fe_var 0) fe_int) (fe_op o_mul fe_int (fe_ix (fe_var 0) fe_int))) fa_nil)) fe_int) fa_nil)) fe_int))
    (fss_cons (fs_set (i := 4) hN rfl (.inl rfl) (fe_op o_mod (fe_callTy o_int rfl G.f_int PyProof.Rows.Boot.«int» (fa_cons (fe_op o_mul (fe_var 4) (fe_op o_add (fe_op o_fdiv (fe_var 4) fe_int) fe_int)) fa_nil)) fe_int))
    (fss_cons (fs_set (i := 4) hN rfl (.inl rfl) (fe_op o_mod (fe_callTy o_int rfl G.f_int PyProof.Rows.Boot.«int» (fa_cons (fe_op o_mul (fe_var 4) (fe_op o_add (fe_op o_fdiv (fe_var 4) fe_int) fe_int)) fa_nil)) fe_int))
    (fss_one (fs_ret (fe_op o_mod (fe_callTy o_int rfl G.f_int PyProof.Rows.Boot.«int» (fa_cons (fe_op o_fdiv (fe_var 4) fe_int) fa_nil)) (fe_var 1))))))))))
theorem ok__law_draw {P : Program} {w : World} {K : PySem.W.Frag} {mg : Str → Option Value} {base : Heap} (G : Fx P w K mg base) : Fok P w K mg base "_law_draw" (1) 2 F__law_draw := by
  obtain ⟨fd, F⟩ := G.d__law_draw
  exact fok_of F G.g__law_draw sc__law_draw rfl (FunD.bindsN (ps := ["hand", "many"]) F fun _ _ _ _ _ _ us hl => match us, hl with | [_, _], _ => rfl) (w__law_draw G)
abbrev st__law_some : Stmt := top 88
theorem sc__law_some : FnScope N__law_some ["hand", "things"] (defScope st__law_some) := C8.fnScope_by (by decide +kernel)
theorem w__law_some {P : Program} {w : World} {K : PySem.W.Frag} {mg : Str → Option Value} {base : Heap} (G : Fx P w K mg base) {f : Addr} : BodyOk P w K mg base N__law_some "_law_some" (defScope st__law_some) f (defBody st__law_some) (1) (b__law_some) := by
  intro cdv A outer s H E hr
  have hN : N__law_some.Nodup := sc__law_some.nd
  have tk := takes_of (X := cxOf (L2.CX P w) P w K mg base N__law_some "_law_some" (defScope st__law_some) f cdv A outer s H E) (E := E) rfl rfl rfl rfl
  have hp := passes_of (X := cxOf (L2.CX P w) P w K mg base N__law_some "_law_some" (defScope st__law_some) f cdv A outer s H E) rfl
  have hu := hr.units
  have hu1 : _ + 1 < _ := Nat.lt_of_le_of_lt (Nat.add_le_add_left (by decide : 1 ≤ 64) _) hu
  exact (fss_one (fs_ret (fe_ix (fe_var 1) (fe_fn (ok__law_draw G) tk hr (by omega) rfl (fa_cons (fe_var 0) (fa_cons (fe_callB o_len rfl G.f_len PyProof.Rows.Boot.«len» (fa_cons (fe_var 1) fa_nil)) fa_nil))))))
theorem ok__law_some {P : Program} {w : World} {K : PySem.W.Frag} {mg : Str → Option Value} {base : Heap} (G : Fx P w K mg base) : Fok P w K mg base "_law_some" (2) 2 F__law_some := by
  obtain ⟨fd, F⟩ := G.d__law_some
  exact fok_of F G.g__law_some sc__law_some rfl (FunD.bindsN (ps := ["hand", "things"]) F fun _ _ _ _ _ _ us hl => match us, hl with | [_, _], _ => rfl) (w__law_some G)
abbrev st__law_kept : Stmt := top 89
theorem sc__law_kept : FnScope N__law_kept ["told", "due"] (defScope st__law_kept) := C8.fnScope_by (by decide +kernel)
theorem w__law_kept {P : Program} {w : World} {K : PySem.W.Frag} {mg : Str → Option Value} {base : Heap} (G : Fx P w K mg base) {f : Addr} {n : Nat} {F : Fd} (T : Fok P w K mg base "_law_kept" (0 + n) 2 F) : BodyOk P w K mg base N__law_kept "_law_kept" (defScope st__law_kept) f (defBody st__law_kept) (0 + n) (b__law_kept F) := by
  intro cdv A outer s H E hr
  have hN : N__law_kept.Nodup := sc__law_kept.nd
  have tk := takes_of (X := cxOf (L2.CX P w) P w K mg base N__law_kept "_law_kept" (defScope st__law_kept) f cdv A outer s H E) (E := E) rfl rfl rfl rfl
  have hp := passes_of (X := cxOf (L2.CX P w) P w K mg base N__law_kept "_law_kept" (defScope st__law_kept) f cdv A outer s H E) rfl
  have hu := hr.units
  have hu1 : _ + 1 < _ := Nat.lt_of_le_of_lt (Nat.add_le_add_left (by decide : 1 ≤ 64) _) hu
  exact (fss_cons (fs_if (fw_test (fw_or (ft_val (fe_isi rfl G.f_isinstance rfl G.f_tuple PyProof.Rows.Boot.«tuple» (fe_var 1))) (fw_or1 (ft_val (fe_isi rfl G.f_isinstance rfl G.f_list PyProof.Rows.Boot.«list» (fe_var 1))))))
    (fss_cons (fs_if (fw_test (fw_or (ft_cmp (o_ne hu) (fe_isi rfl G.f_isinstance rfl G.f_tuple PyProof.Rows.Boot.«tuple» (fe_var 0)) (fe_isi rfl G.f_isinstance rfl G.f_tuple PyProof.Rows.Boot.«tuple» (fe_var 1)) rfl) (fw_or1 (ft_cmp (o_ne hu) (fe_isi rfl G.f_isinstance rfl G.f_list PyProof.Rows.Boot.«list» (fe_var 0)) (fe_isi rfl G.f_isinstance rfl G.f_list PyProof.Rows.Boot.«list» (fe_var 1)) rfl))))
    (fss_one (fs_ret fe_bl))
    fss_nil)
    (fss_one (fs_ret (fe_and (fe_cmp (o_eq hu) (fe_callB o_len rfl G.f_len PyProof.Rows.Boot.«len» (fa_cons (fe_var 0) fa_nil)) (fe_callB o_len rfl G.f_len PyProof.Rows.Boot.«len» (fa_cons (fe_var 1) fa_nil)) rfl) (fe_one (fe_callB (o_all rfl) rfl G.f_all PyProof.Rows.Boot.«all» (fa_cons (fe_lc rfl hN (fi_range1 rfl G.f_range (fa_cons (fe_callB o_len rfl G.f_len PyProof.Rows.Boot.«len» (fa_cons (fe_var 1) fa_nil)) fa_nil)) (own := [("at", 2)]) (blkOk_by (by kernel_rfl)) (by decide) (fun s H C cl fp => (fw_name (i := 2) hN rfl (.inl rfl))) (fun s H C cl fp => fts_nil) (fun s H C cl fp => (fe_fn T takes_none5 hr (by omega) rfl (fa_cons (fe_ix (fe_var 0) (fe_var 2)) (fa_cons (fe_ix (fe_var 1) (fe_var 2)) fa_nil))))) fa_nil)))))))
    fss_nil)
    (fss_cons (fs_if (ft_cmp o_isN (fe_var 1) fe_non rfl)
    (fss_one (fs_ret (fe_cmp o_isN (fe_var 0) fe_non rfl)))
    fss_nil)
    (fss_cons (fs_if (ft_val (fe_isi rfl G.f_isinstance rfl G.f_bool PyProof.Rows.Boot.«bool» (fe_var 1)))
    (fss_one fs_bad)
    fss_nil)
    (fss_cons (fs_if (ft_val (fe_isi rfl G.f_isinstance rfl G.f_int PyProof.Rows.Boot.«int» (fe_var 1)))
    (fss_one (fs_ret (fe_and (fe_isi rfl G.f_isinstance rfl G.f_int PyProof.Rows.Boot.«int» (fe_var 0)) (fe_and (fe_not (fe_isi rfl G.f_isinstance rfl G.f_bool PyProof.Rows.Boot.«bool» (fe_var 0))) (fe_one (fe_cmp (o_eq hu) (fe_var 0) (fe_var 1) rfl))))))
    fss_nil)
    (fss_one (fs_ret (fe_and (fe_isi rfl G.f_isinstance rfl G.f_str PyProof.Rows.Boot.«str» (fe_var 0)) (fe_one (fe_cmp (o_eq hu) (fe_var 0) (fe_var 1) rfl)))))))))
theorem ok__law_kept {P : Program} {w : World} {K : PySem.W.Frag} {mg : Str → Option Value} {base : Heap} (G : Fx P w K mg base) : ∀ n, Fok P w K mg base "_law_kept" (0 + n) 2 (F__law_kept n)
  | 0 => by
    obtain ⟨fd, F⟩ := G.d__law_kept
    exact fok_bad F G.g__law_kept rfl (FunD.bindsN (ps := ["told", "due"]) F fun _ _ _ _ _ _ us hl => match us, hl with | [_, _], _ => rfl)
  | n + 1 => by
    obtain ⟨fd, F⟩ := G.d__law_kept
    exact fok_of F G.g__law_kept sc__law_kept rfl (FunD.bindsN (ps := ["told", "due"]) F fun _ _ _ _ _ _ us hl => match us, hl with | [_, _], _ => rfl) (w__law_kept G (ok__law_kept G n))
abbrev st__law_mixed : Stmt := top 90
theorem sc__law_mixed : FnScope N__law_mixed ["hand", "things"] (defScope st__law_mixed) := C8.fnScope_by (by decide +kernel)
theorem w__law_mixed {P : Program} {w : World} {K : PySem.W.Frag} {mg : Str → Option Value} {base : Heap} (G : Fx P w K mg base) {f : Addr} : BodyOk P w K mg base N__law_mixed "_law_mixed" (defScope st__law_mixed) f (defBody st__law_mixed) (1) (b__law_mixed) := by
  intro cdv A outer s H E hr
  have hN : N__law_mixed.Nodup := sc__law_mixed.nd
  have tk := takes_of (X := cxOf (L2.CX P w) P w K mg base N__law_mixed "_law_mixed" (defScope st__law_mixed) f cdv A outer s H E) (E := E) rfl rfl rfl rfl
  have hp := passes_of (X := cxOf (L2.CX P w) P w K mg base N__law_mixed "_law_mixed" (defScope st__law_mixed) f cdv A outer s H E) rfl
  have hu := hr.units
  have hu1 : _ + 1 < _ := Nat.lt_of_le_of_lt (Nat.add_le_add_left (by decide : 1 ≤ 64) _) hu
  exact (fss_cons (fs_par (i := 2) (j := 3) rfl hN rfl rfl (by decide) rfl rfl (fa_cons (fe_callTy o_list rfl G.f_list PyProof.Rows.Boot.«list» (fa_cons (fe_var 1) fa_nil)) (fa_cons (fe_lst fa_nil small_nil) fa_nil)))
    (fss_cons (fs_while hp (ft_cmp o_gt (fe_callB o_len rfl G.f_len PyProof.Rows.Boot.«len» (fa_cons (fe_var 2) fa_nil)) fe_int rfl)
    (fss_one (fs_expr (fe_meth PySem.F.slot_list_append PySem.F.type_list_append o_app (fe_var 3) (fa_cons (fe_meth PySem.F.slot_list_pop PySem.F.type_list_pop o_pop (fe_var 2) (fa_cons (fe_fn (ok__law_draw G) tk hr (by omega) rfl (fa_cons (fe_var 0) (fa_cons (fe_callB o_len rfl G.f_len PyProof.Rows.Boot.«len» (fa_cons (fe_var 2) fa_nil)) fa_nil))) fa_nil)) fa_nil)))))
    (fss_one (fs_ret (fe_var 3)))))
theorem ok__law_mixed {P : Program} {w : World} {K : PySem.W.Frag} {mg : Str → Option Value} {base : Heap} (G : Fx P w K mg base) : Fok P w K mg base "_law_mixed" (2) 2 F__law_mixed := by
  obtain ⟨fd, F⟩ := G.d__law_mixed
  exact fok_of F G.g__law_mixed sc__law_mixed rfl (FunD.bindsN (ps := ["hand", "things"]) F fun _ _ _ _ _ _ us hl => match us, hl with | [_, _], _ => rfl) (w__law_mixed G)
abbrev st__law_expression : Stmt := top 91
theorem sc__law_expression : FnScope N__law_expression ["hand", "modulus", "names", "depth"] (defScope st__law_expression) := C8.fnScope_by (by decide +kernel)
theorem w__law_expression {P : Program} {w : World} {K : PySem.W.Frag} {mg : Str → Option Value} {base : Heap} (G : Fx P w K mg base) {f : Addr} {n : Nat} {F : Fd} (T : Fok P w K mg base "_law_expression" (2 + n) 4 F) : BodyOk P w K mg base N__law_expression "_law_expression" (defScope st__law_expression) f (defBody st__law_expression) (2 + n) (b__law_expression F) := by
  intro cdv A outer s H E hr
  have hN : N__law_expression.Nodup := sc__law_expression.nd
  have tk := takes_of (X := cxOf (L2.CX P w) P w K mg base N__law_expression "_law_expression" (defScope st__law_expression) f cdv A outer s H E) (E := E) rfl rfl rfl rfl
  have hp := passes_of (X := cxOf (L2.CX P w) P w K mg base N__law_expression "_law_expression" (defScope st__law_expression) f cdv A outer s H E) rfl
  have hu := hr.units
  have hu1 : _ + 1 < _ := Nat.lt_of_le_of_lt (Nat.add_le_add_left (by decide : 1 ≤ 64) _) hu
  exact (fss_cons (fs_set (i := 4) hN rfl (.inl rfl) (fe_fn (ok__law_draw G) tk hr (by omega) rfl (fa_cons (fe_var 0) (fa_cons fe_int fa_nil))))
    (fss_cons (fs_if (fw_test (fw_or (ft_cmp (o_eq hu) (fe_var 3) fe_int rfl) (fw_or1 (ft_cmp o_lt (fe_var 4) fe_int rfl))))
    (fss_cons (fs_if (fw_test (fw_and (ft_cmp o_gt (fe_callB o_len rfl G.f_len PyProof.Rows.Boot.«len» (fa_cons (fe_var 2) fa_nil)) fe_int rfl) (fw_and1 (ft_cmp o_gt (fe_fn (ok__law_draw G) tk hr (by omega) rfl (fa_cons (fe_var 0) (fa_cons fe_int fa_nil))) fe_int rfl))))
    (fss_one (fs_ret (fe_tup (fa_cons fe_str (fa_cons (fe_fn (ok__law_some G) tk hr (by omega) rfl (fa_cons (fe_var 0) (fa_cons (fe_var 2) fa_nil))) fa_nil)) (small_cons (small_cons small_nil)))))
    fss_nil)
    (fss_one (fs_ret (fe_tup (fa_cons fe_str (fa_cons (fe_fn (ok__law_draw G) tk hr (by omega) rfl (fa_cons (fe_var 0) (fa_cons (fe_var 1) fa_nil))) fa_nil)) (small_cons (small_cons small_nil))))))
    fss_nil)
    (fss_cons (fs_if (ft_cmp (o_eq hu) (fe_var 4) fe_int rfl)
    (fss_one (fs_ret (fe_tup (fa_cons fe_str (fa_cons (fe_fn T tk hr (by omega) rfl (fa_cons (fe_var 0) (fa_cons (fe_var 1) (fa_cons (fe_var 2) (fa_cons (fe_op o_sub (fe_var 3) fe_int) fa_nil))))) fa_nil)) (small_cons (small_cons small_nil)))))
    fss_nil)
    (fss_cons (fs_set (i := 5) hN rfl (.inl rfl) (fe_fn (ok__law_some G) tk hr (by omega) rfl (fa_cons (fe_var 0) (fa_cons (fe_lst (fa_cons fe_str (fa_cons fe_str (fa_cons fe_str (fa_cons fe_str (fa_cons fe_str (fa_cons fe_str (fa_cons fe_str (fa_cons fe_str (fa_cons fe_str (fa_cons fe_str (fa_cons fe_str (fa_cons fe_str (fa_cons fe_str fa_nil))))))))))))) (small_cons (small_cons (small_cons (small_cons (small_cons (small_cons (small_cons (small_cons (small_cons (small_cons (small_cons (small_cons (small_cons small_nil)))))))))))))) fa_nil))))
    (fss_one (fs_ret (fe_tup (fa_cons (fe_var 5) (fa_cons (fe_fn T tk hr (by omega) rfl (fa_cons (fe_var 0) (fa_cons (fe_var 1) (fa_cons (fe_var 2) (fa_cons (fe_op o_sub (fe_var 3) fe_int) fa_nil))))) (fa_cons (fe_fn T tk hr (by omega) rfl (fa_cons (fe_var 0) (fa_cons (fe_var 1) (fa_cons (fe_var 2) (fa_cons (fe_op o_sub (fe_var 3) fe_int) fa_nil))))) fa_nil))) (small_cons (small_cons (small_cons small_nil))))))))))
theorem ok__law_expression {P : Program} {w : World} {K : PySem.W.Frag} {mg : Str → Option Value} {base : Heap} (G : Fx P w K mg base) : ∀ n, Fok P w K mg base "_law_expression" (2 + n) 4 (F__law_expression n)
  | 0 => by
    obtain ⟨fd, F⟩ := G.d__law_expression
    exact fok_bad F G.g__law_expression rfl (FunD.bindsN (ps := ["hand", "modulus", "names", "depth"]) F fun _ _ _ _ _ _ us hl => match us, hl with | [_, _, _, _], _ => rfl)
  | n + 1 => by
    obtain ⟨fd, F⟩ := G.d__law_expression
    exact fok_of F G.g__law_expression sc__law_expression rfl (FunD.bindsN (ps := ["hand", "modulus", "names", "depth"]) F fun _ _ _ _ _ _ us hl => match us, hl with | [_, _, _, _], _ => rfl) (w__law_expression G (ok__law_expression G n))
end Z

set_option Elab.async false
set_option linter.all false
set_option maxRecDepth 100000
set_option maxHeartbeats 0
namespace Z
open PySem PySem.Spec PyProof.Rows L2 Y
abbrev st__law_local : Stmt := top 92
theorem sc__law_local : FnScope N__law_local ["hand", "modulus", "names", "helps", "depth"] (defScope st__law_local) := C8.fnScope_by (by decide +kernel)
theorem w__law_local {P : Program} {w : World} {K : PySem.W.Frag} {mg : Str → Option Value} {base : Heap} (G : Fx P w K mg base) {f : Addr} {n : Nat} {F : Fd} (T : Fok P w K mg base "_law_local" (12 + n) 5 F) : BodyOk P w K mg base N__law_local "_law_local" (defScope st__law_local) f (defBody st__law_local) (12 + n) (b__law_local F) := by
  intro cdv A outer s H E hr
  have hN : N__law_local.Nodup := sc__law_local.nd
  have tk := takes_of (X := cxOf (L2.CX P w) P w K mg base N__law_local "_law_local" (defScope st__law_local) f cdv A outer s H E) (E := E) rfl rfl rfl rfl
  have hp := passes_of (X := cxOf (L2.CX P w) P w K mg base N__law_local "_law_local" (defScope st__law_local) f cdv A outer s H E) rfl
  have hu := hr.units
  have hu1 : _ + 1 < _ := Nat.lt_of_le_of_lt (Nat.add_le_add_left (by decide : 1 ≤ 64) _) hu
  exact (fss_cons (fs_par (i := 5) (j := 6) rfl hN rfl rfl (by decide) rfl rfl (fa_cons (fe_fn (ok__law_draw G) tk hr (by omega) rfl (fa_cons (fe_var 0) (fa_cons fe_int fa_nil))) (fa_cons (fe_fn (ok__law_expression G 10) tk hr (by omega) rfl (fa_cons (fe_var 0) (fa_cons (fe_var 1) (fa_cons (fe_var 2) (fa_cons fe_int fa_nil))))) fa_nil)))
    (fss_cons (fs_if (ft_cmp o_lt (fe_var 5) fe_int rfl)
    (fss_one (fs_ret (fe_tup (fa_cons fe_str (fa_cons (fe_var 6) fa_nil)) (small_cons (small_cons small_nil)))))
    fss_nil)
    (fss_cons (fs_if (fw_test (fw_or (ft_cmp o_lt (fe_var 5) fe_int rfl) (fw_or1 (ft_cmp (o_eq hu) (fe_var 4) fe_int rfl))))
    (fss_one (fs_ret (fe_tup (fa_cons fe_str (fa_cons (fe_fn (ok__law_some G) tk hr (by omega) rfl (fa_cons (fe_var 0) (fa_cons (fe_var 2) fa_nil))) (fa_cons (fe_var 6) fa_nil))) (small_cons (small_cons (small_cons small_nil))))))
    fss_nil)
    (fss_cons (fs_if (ft_cmp (o_eq hu) (fe_var 5) fe_int rfl)
    (fss_one (fs_ret (fe_if (ft_cmp o_gt (fe_var 3) fe_int rfl) (fe_tup (fa_cons fe_str (fa_cons (fe_fn (ok__law_draw G) tk hr (by omega) rfl (fa_cons (fe_var 0) (fa_cons (fe_var 3) fa_nil))) fa_nil)) (small_cons (small_cons small_nil))) (fe_tup (fa_cons fe_str (fa_cons (fe_var 6) fa_nil)) (small_cons (small_cons small_nil))))))
    fss_nil)
    (fss_cons (fs_set (i := 7) hN rfl (.inl rfl) (fe_callTy o_tuple rfl G.f_tuple PyProof.Rows.Boot.«tuple» (fa_cons (fe_lc rfl hN (fi_range1 rfl G.f_range (fa_cons (fe_fn (ok__law_draw G) tk hr (by omega) rfl (fa_cons (fe_var 0) (fa_cons fe_int fa_nil))) fa_nil)) (own := [("again", 8)]) (blkOk_by (by kernel_rfl)) (by decide) (fun s H C cl fp => (fw_name (i := 8) hN rfl (.inl rfl))) (fun s H C cl fp => fts_nil) (fun s H C cl fp => (fe_fn T takes_none5 hr (by omega) rfl (fa_cons (fe_var 0) (fa_cons (fe_var 1) (fa_cons (fe_var 2) (fa_cons (fe_var 3) (fa_cons (fe_op o_sub (fe_var 4) fe_int) fa_nil)))))))) fa_nil)))
    (fss_cons (fs_if (ft_cmp (o_eq hu) (fe_var 5) fe_int rfl)
    (fss_one (fs_ret (fe_tup (fa_cons fe_str (fa_cons (fe_var 6) (fa_cons (fe_var 7) (fa_cons (fe_callTy o_tuple rfl G.f_tuple PyProof.Rows.Boot.«tuple» (fa_cons (fe_lc rfl hN (fi_range1 rfl G.f_range (fa_cons (fe_fn (ok__law_draw G) tk hr (by omega) rfl (fa_cons (fe_var 0) (fa_cons fe_int fa_nil))) fa_nil)) (own := [("again", 8)]) (blkOk_by (by kernel_rfl)) (by decide) (fun s H C cl fp => (fw_name (i := 8) hN rfl (.inl rfl))) (fun s H C cl fp => fts_nil) (fun s H C cl fp => (fe_fn T takes_none5 hr (by omega) rfl (fa_cons (fe_var 0) (fa_cons (fe_var 1) (fa_cons (fe_var 2) (fa_cons (fe_var 3) (fa_cons (fe_op o_sub (fe_var 4) fe_int) fa_nil)))))))) fa_nil)) fa_nil)))) (small_cons (small_cons (small_cons (small_cons small_nil)))))))
    fss_nil)
    (fss_one (fs_ret (fe_tup (fa_cons fe_str (fa_cons (fe_if (ft_cmp o_lt (fe_var 1) fe_int rfl) (fe_var 6) (fe_tup (fa_cons fe_str (fa_cons (fe_fn (ok__law_draw G) tk hr (by omega) rfl (fa_cons (fe_var 0) (fa_cons fe_int fa_nil))) fa_nil)) (small_cons (small_cons small_nil)))) (fa_cons (fe_var 7) fa_nil))) (small_cons (small_cons (small_cons small_nil))))))))))))
theorem ok__law_local {P : Program} {w : World} {K : PySem.W.Frag} {mg : Str → Option Value} {base : Heap} (G : Fx P w K mg base) : ∀ n, Fok P w K mg base "_law_local" (12 + n) 5 (F__law_local n)
  | 0 => by
    obtain ⟨fd, F⟩ := G.d__law_local
    exact fok_bad F G.g__law_local rfl (FunD.bindsN (ps := ["hand", "modulus", "names", "helps", "depth"]) F fun _ _ _ _ _ _ us hl => match us, hl with | [_, _, _, _, _], _ => rfl)
  | n + 1 => by
    obtain ⟨fd, F⟩ := G.d__law_local
    exact fok_of F G.g__law_local sc__law_local rfl (FunD.bindsN (ps := ["hand", "modulus", "names", "helps", "depth"]) F fun _ _ _ _ _ _ us hl => match us, hl with | [_, _, _, _, _], _ => rfl) (w__law_local G (ok__law_local G n))
abbrev st__law_message : Stmt := top 93
theorem sc__law_message : FnScope N__law_message ["hand", "modulus", "wire", "mine", "theirs"] (defScope st__law_message) := C8.fnScope_by (by decide +kernel)
theorem w__law_message {P : Program} {w : World} {K : PySem.W.Frag} {mg : Str → Option Value} {base : Heap} (G : Fx P w K mg base) {f : Addr} : BodyOk P w K mg base N__law_message "_law_message" (defScope st__law_message) f (defBody st__law_message) (12) (b__law_message) := by
  intro cdv A outer s H E hr
  have hN : N__law_message.Nodup := sc__law_message.nd
  have tk := takes_of (X := cxOf (L2.CX P w) P w K mg base N__law_message "_law_message" (defScope st__law_message) f cdv A outer s H E) (E := E) rfl rfl rfl rfl
  have hp := passes_of (X := cxOf (L2.CX P w) P w K mg base N__law_message "_law_message" (defScope st__law_message) f cdv A outer s H E) rfl
  have hu := hr.units
  have hu1 : _ + 1 < _ := Nat.lt_of_le_of_lt (Nat.add_le_add_left (by decide : 1 ≤ 64) _) hu
  exact (fss_cons (fs_par3 (i := 5) (j := 6) (l := 7) rfl hN rfl rfl rfl (by decide) (by decide) (by decide) rfl rfl rfl (fa_cons (fe_fn (ok__law_some G) tk hr (by omega) rfl (fa_cons (fe_var 0) (fa_cons (fe_var 4) fa_nil))) (fa_cons (fe_fn (ok__law_expression G 10) tk hr (by omega) rfl (fa_cons (fe_var 0) (fa_cons (fe_var 1) (fa_cons (fe_var 3) (fa_cons fe_int fa_nil))))) (fa_cons (fe_fn (ok__law_draw G) tk hr (by omega) rfl (fa_cons (fe_var 0) (fa_cons fe_int fa_nil))) fa_nil))))
    (fss_cons (fs_if (ft_cmp o_lt (fe_var 7) fe_int rfl)
    (fss_one (fs_ret (fe_tup (fa_cons (fe_lst (fa_cons (fe_tup (fa_cons fe_str (fa_cons (fe_var 2) (fa_cons (fe_var 6) fa_nil))) (small_cons (small_cons (small_cons small_nil)))) fa_nil) (small_cons small_nil)) (fa_cons (fe_lst (fa_cons (fe_tup (fa_cons fe_str (fa_cons (fe_var 2) (fa_cons (fe_var 5) fa_nil))) (small_cons (small_cons (small_cons small_nil)))) fa_nil) (small_cons small_nil)) fa_nil)) (small_cons (small_cons small_nil)))))
    fss_nil)
    (fss_cons (fs_if (ft_cmp (o_eq hu) (fe_var 7) fe_int rfl)
    (fss_cons (fs_set (i := 8) hN rfl (.inl rfl) (fe_fn (ok__law_expression G 10) tk hr (by omega) rfl (fa_cons (fe_var 0) (fa_cons (fe_var 1) (fa_cons (fe_var 3) (fa_cons fe_int fa_nil))))))
    (fss_one (fs_ret (fe_tup (fa_cons (fe_lst (fa_cons (fe_tup (fa_cons fe_str (fa_cons (fe_var 6) (fa_cons (fe_tup (fa_cons (fe_tup (fa_cons fe_str (fa_cons (fe_var 2) (fa_cons (fe_var 8) fa_nil))) (small_cons (small_cons (small_cons small_nil)))) fa_nil) (small_cons small_nil)) (fa_cons (fe_tup (fa_cons (fe_tup (fa_cons fe_str (fa_cons (fe_var 2) (fa_cons (fe_var 6) fa_nil))) (small_cons (small_cons (small_cons small_nil)))) fa_nil) (small_cons small_nil)) fa_nil)))) (small_cons (small_cons (small_cons (small_cons small_nil))))) fa_nil) (small_cons small_nil)) (fa_cons (fe_lst (fa_cons (fe_tup (fa_cons fe_str (fa_cons (fe_var 2) (fa_cons (fe_var 5) fa_nil))) (small_cons (small_cons (small_cons small_nil)))) (fa_cons (fe_tup (fa_cons fe_str (fa_cons (fe_tup (fa_cons fe_str (fa_cons (fe_var 5) fa_nil)) (small_cons (small_cons small_nil))) fa_nil)) (small_cons (small_cons small_nil))) fa_nil)) (small_cons (small_cons small_nil))) fa_nil)) (small_cons (small_cons small_nil))))))
    fss_nil)
    (fss_cons (fs_if (ft_cmp (o_eq hu) (fe_var 7) fe_int rfl)
    (fss_cons (fs_set (i := 9) hN rfl (.inl rfl) (fe_tup (fa_cons fe_str (fa_cons (fe_callB (o_min rfl) rfl G.f_min PyProof.Rows.Boot.«min» (fa_cons (fe_op o_sub (fe_var 1) fe_int) (fa_cons (fe_op o_add fe_int (fe_fn (ok__law_draw G) tk hr (by omega) rfl (fa_cons (fe_var 0) (fa_cons fe_int fa_nil)))) fa_nil))) fa_nil)) (small_cons (small_cons small_nil))))
    (fss_one (fs_ret (fe_tup (fa_cons (fe_lst (fa_cons (fe_tup (fa_cons fe_str (fa_cons (fe_var 9) (fa_cons (fe_tup (fa_cons (fe_tup (fa_cons fe_str (fa_cons (fe_var 2) (fa_cons (fe_var 6) fa_nil))) (small_cons (small_cons (small_cons small_nil)))) (fa_cons (fe_tup (fa_cons fe_str (fa_cons (fe_ix (fe_var 3) fe_int) (fa_cons (fe_tup (fa_cons fe_str (fa_cons (fe_tup (fa_cons fe_str (fa_cons (fe_ix (fe_var 3) fe_int) fa_nil)) (small_cons (small_cons small_nil))) (fa_cons (fe_tup (fa_cons fe_str (fa_cons fe_int fa_nil)) (small_cons (small_cons small_nil))) fa_nil))) (small_cons (small_cons (small_cons small_nil)))) fa_nil))) (small_cons (small_cons (small_cons small_nil)))) fa_nil)) (small_cons (small_cons small_nil))) fa_nil))) (small_cons (small_cons (small_cons small_nil)))) fa_nil) (small_cons small_nil)) (fa_cons (fe_lst (fa_cons (fe_tup (fa_cons fe_str (fa_cons (fe_var 9) (fa_cons (fe_tup (fa_cons (fe_tup (fa_cons fe_str (fa_cons (fe_var 2) (fa_cons (fe_var 5) fa_nil))) (small_cons (small_cons (small_cons small_nil)))) (fa_cons (fe_tup (fa_cons fe_str (fa_cons (fe_tup (fa_cons fe_str (fa_cons (fe_var 5) fa_nil)) (small_cons (small_cons small_nil))) fa_nil)) (small_cons (small_cons small_nil))) fa_nil)) (small_cons (small_cons small_nil))) fa_nil))) (small_cons (small_cons (small_cons small_nil)))) fa_nil) (small_cons small_nil)) fa_nil)) (small_cons (small_cons small_nil))))))
    fss_nil)
    (fss_cons (fs_if (ft_cmp (o_eq hu) (fe_var 7) fe_int rfl)
    (fss_one (fs_ret (fe_tup (fa_cons (fe_lst (fa_cons (fe_tup (fa_cons fe_str (fa_cons (fe_var 2) (fa_cons (fe_var 6) fa_nil))) (small_cons (small_cons (small_cons small_nil)))) (fa_cons (fe_tup (fa_cons fe_str (fa_cons (fe_var 6) (fa_cons (fe_tup (fa_cons (fe_tup (fa_cons fe_str (fa_cons (fe_var 2) (fa_cons (fe_tup (fa_cons fe_str (fa_cons fe_int fa_nil)) (small_cons (small_cons small_nil))) fa_nil))) (small_cons (small_cons (small_cons small_nil)))) fa_nil) (small_cons small_nil)) (fa_cons (fe_tup fa_nil small_nil) fa_nil)))) (small_cons (small_cons (small_cons (small_cons small_nil))))) fa_nil)) (small_cons (small_cons small_nil))) (fa_cons (fe_lst (fa_cons (fe_tup (fa_cons fe_str (fa_cons (fe_var 2) (fa_cons (fe_var 5) fa_nil))) (small_cons (small_cons (small_cons small_nil)))) (fa_cons (fe_tup (fa_cons fe_str (fa_cons (fe_tup (fa_cons fe_str (fa_cons (fe_var 5) fa_nil)) (small_cons (small_cons small_nil))) (fa_cons (fe_tup (fa_cons (fe_tup (fa_cons fe_str (fa_cons (fe_var 2) (fa_cons (fe_var 5) fa_nil))) (small_cons (small_cons (small_cons small_nil)))) fa_nil) (small_cons small_nil)) (fa_cons (fe_tup fa_nil small_nil) fa_nil)))) (small_cons (small_cons (small_cons (small_cons small_nil))))) fa_nil)) (small_cons (small_cons small_nil))) fa_nil)) (small_cons (small_cons small_nil)))))
    fss_nil)
    (fss_one (fs_ret (fe_tup (fa_cons (fe_lst (fa_cons (fe_tup (fa_cons fe_str (fa_cons (fe_var 2) (fa_cons (fe_var 6) fa_nil))) (small_cons (small_cons (small_cons small_nil)))) fa_nil) (small_cons small_nil)) (fa_cons (fe_lst (fa_cons (fe_tup (fa_cons fe_str (fa_cons (fe_var 2) (fa_cons (fe_var 5) fa_nil))) (small_cons (small_cons (small_cons small_nil)))) (fa_cons (fe_tup (fa_cons fe_str (fa_cons (fe_tup (fa_cons fe_str (fa_cons (fe_var 5) fa_nil)) (small_cons (small_cons small_nil))) (fa_cons (fe_tup (fa_cons (fe_tup (fa_cons fe_str (fa_cons (fe_tup (fa_cons fe_str (fa_cons fe_int fa_nil)) (small_cons (small_cons small_nil))) fa_nil)) (small_cons (small_cons small_nil))) fa_nil) (small_cons small_nil)) (fa_cons (fe_tup (fa_cons (fe_tup (fa_cons fe_str (fa_cons (fe_tup (fa_cons fe_str (fa_cons (fe_var 5) fa_nil)) (small_cons (small_cons small_nil))) fa_nil)) (small_cons (small_cons small_nil))) (fa_cons (fe_tup (fa_cons fe_str (fa_cons (fe_var 5) (fa_cons (fe_tup (fa_cons fe_str (fa_cons fe_int fa_nil)) (small_cons (small_cons small_nil))) fa_nil))) (small_cons (small_cons (small_cons small_nil)))) fa_nil)) (small_cons (small_cons small_nil))) fa_nil)))) (small_cons (small_cons (small_cons (small_cons small_nil))))) fa_nil)) (small_cons (small_cons small_nil))) fa_nil)) (small_cons (small_cons small_nil))))))))))
theorem ok__law_message {P : Program} {w : World} {K : PySem.W.Frag} {mg : Str → Option Value} {base : Heap} (G : Fx P w K mg base) : Fok P w K mg base "_law_message" (13) 5 F__law_message := by
  obtain ⟨fd, F⟩ := G.d__law_message
  exact fok_of F G.g__law_message sc__law_message rfl (FunD.bindsN (ps := ["hand", "modulus", "wire", "mine", "theirs"]) F fun _ _ _ _ _ _ us hl => match us, hl with | [_, _, _, _, _], _ => rfl) (w__law_message G)
abbrev st__law_house : Stmt := top 94
theorem sc__law_house : FnScope N__law_house ["hand", "most", "inputs"] (defScope st__law_house) := C8.fnScope_by (by decide +kernel)
theorem w__law_house {P : Program} {w : World} {K : PySem.W.Frag} {mg : Str → Option Value} {base : Heap} (G : Fx P w K mg base) {f : Addr} : BodyOk P w K mg base N__law_house "_law_house" (defScope st__law_house) f (defBody st__law_house) (22) (b__law_house) := by
  intro cdv A outer s H E hr
  have hN : N__law_house.Nodup := sc__law_house.nd
  have tk := takes_of (X := cxOf (L2.CX P w) P w K mg base N__law_house "_law_house" (defScope st__law_house) f cdv A outer s H E) (E := E) rfl rfl rfl rfl
  have hp := passes_of (X := cxOf (L2.CX P w) P w K mg base N__law_house "_law_house" (defScope st__law_house) f cdv A outer s H E) rfl
  have hu := hr.units
  have hu1 : _ + 1 < _ := Nat.lt_of_le_of_lt (Nat.add_le_add_left (by decide : 1 ≤ 64) _) hu
  exact (fss_cons (fs_asgT (fe_tup (fa_cons (fe_fn (ok__law_some G) tk hr (by omega) rfl (fa_cons (fe_var 0) (fa_cons (fe_lst (fa_cons fe_int (fa_cons fe_int (fa_cons fe_int (fa_cons fe_int (fa_cons fe_int (fa_cons fe_int fa_nil)))))) (small_cons (small_cons (small_cons (small_cons (small_cons (small_cons small_nil))))))) fa_nil))) (fa_cons (fe_op o_add fe_int (fe_fn (ok__law_draw G) tk hr (by omega) rfl (fa_cons (fe_var 0) (fa_cons (fe_var 1) fa_nil)))) fa_nil)) (small_cons (small_cons small_nil))) (fg_tupA rfl (fgs_consA (fg_name (i := 3) hN rfl (.inr rfl)) (fgs_consA (fg_name (i := 4) hN rfl (.inl rfl)) fgs_nil))))
    (fss_cons (fs_par3 (i := 5) (j := 6) (l := 7) rfl hN rfl rfl rfl (by decide) (by decide) (by decide) rfl rfl rfl (fa_cons (fe_lst fa_nil small_nil) (fa_cons (fe_lc rfl hN (fi_range1 rfl G.f_range (fa_cons (fe_var 4) fa_nil)) (own := [("person", 11)]) (blkOk_by (by kernel_rfl)) (by decide) (fun s H C cl fp => (fw_name (i := 11) hN rfl (.inl rfl))) (fun s H C cl fp => fts_nil) (fun s H C cl fp => (fe_lst fa_nil small_nil))) (fa_cons (fe_op o_mul (fe_lst (fa_cons fe_int fa_nil) (small_cons small_nil)) (fe_var 4)) fa_nil))))
    (fss_cons (fs_for hp rfl (fi_range1 rfl G.f_range (fa_cons (fe_if (ft_cmp o_gt (fe_var 4) fe_int rfl) (fe_fn (ok__law_draw G) tk hr (by omega) rfl (fa_cons (fe_var 0) (fa_cons fe_int fa_nil))) fe_int) fa_nil)) (fg_name (i := 8) hN rfl (.inl rfl))
    (fss_cons (fs_set (i := 9) hN rfl (.inr rfl) (fe_fn (ok__law_draw G) tk hr (by omega) rfl (fa_cons (fe_var 0) (fa_cons (fe_var 4) fa_nil))))
    (fss_cons (fs_set (i := 10) hN rfl (.inl rfl) (fe_fn (ok__law_some G) tk hr (by omega) rfl (fa_cons (fe_var 0) (fa_cons (fe_lc rfl hN (fi_range1 rfl G.f_range (fa_cons (fe_var 4) fa_nil)) (own := [("person", 11)]) (blkOk_by (by kernel_rfl)) (by decide) (fun s H C cl fp => (fw_name (i := 11) hN rfl (.inl rfl))) (fun s H C cl fp => (fts_one (ft_cmp (o_ne hu) (fe_var 11) (fe_var 9) rfl))) (fun s H C cl fp => (fe_var 11))) fa_nil))))
    (fss_one (fs_expr (fe_meth PySem.F.slot_list_append PySem.F.type_list_append o_app (fe_var 5) (fa_cons (fe_tup (fa_cons (fe_op o_add fe_str (fe_ix fe_str (fe_var 8))) (fa_cons (fe_var 9) (fa_cons (fe_var 10) (fa_cons (fe_fn (ok__law_some G) tk hr (by omega) rfl (fa_cons (fe_var 0) (fa_cons (fe_lst (fa_cons fe_int (fa_cons fe_int (fa_cons fe_int (fa_cons fe_int (fa_cons fe_int (fa_cons fe_int fa_nil)))))) (small_cons (small_cons (small_cons (small_cons (small_cons (small_cons small_nil))))))) fa_nil))) fa_nil)))) (small_cons (small_cons (small_cons (small_cons small_nil))))) fa_nil)))))))
    (fss_cons (fs_for hp rfl (fi_range1 rfl G.f_range (fa_cons (fe_fn (ok__law_draw G) tk hr (by omega) rfl (fa_cons (fe_var 0) (fa_cons (fe_op o_add (fe_var 2) fe_int) fa_nil))) fa_nil)) (fg_name (i := 8) hN rfl (.inl rfl))
    (fss_cons (fs_set (i := 11) hN rfl (.inl rfl) (fe_fn (ok__law_draw G) tk hr (by omega) rfl (fa_cons (fe_var 0) (fa_cons (fe_var 4) fa_nil))))
    (fss_one (fs_subL (fe_callB (o_min rfl) rfl G.f_min PyProof.Rows.Boot.«min» (fa_cons fe_int (fa_cons (fe_op o_add (fe_ix (fe_var 7) (fe_var 11)) fe_int) fa_nil))) (fe_var 7) (fe_var 11)))))
    (fss_cons (fs_setLc rfl hN (i := 12) rfl rfl (sw_true rfl rfl rfl (by decide)) (fi_range1 rfl G.f_range (fa_cons (fe_var 4) fa_nil)) (own := [("person", 11)]) (blkOk_by (by kernel_rfl)) (by decide) (fun s H C cl fp => (fw_name (i := 11) hN rfl (.inl rfl))) (fun s H C cl fp => fts_nil) (fun s H C cl fp => (fe_op o_fdiv (fe_fn (ok__law_draw G) takes_none5 hr (by omega) rfl (fa_cons (fe_var 0) (fa_cons fe_int fa_nil))) fe_int)))
    (fss_cons (fs_for hp rfl (fi_range1 rfl G.f_range (fa_cons (fe_op o_add fe_int (fe_fn (ok__law_draw G) tk hr (by omega) rfl (fa_cons (fe_var 0) (fa_cons fe_int fa_nil)))) fa_nil)) (fg_name (i := 8) hN rfl (.inl rfl))
    (fss_one (fs_if (fw_test (fw_and (ft_cmp o_gt (fe_callB o_len rfl G.f_len PyProof.Rows.Boot.«len» (fa_cons (fe_var 5) fa_nil)) fe_int rfl) (fw_and1 (ft_cmp o_gt (fe_fn (ok__law_draw G) tk hr (by omega) rfl (fa_cons (fe_var 0) (fa_cons fe_int fa_nil))) fe_int rfl))))
    (fss_cons (fs_set (i := 13) hN rfl (.inl rfl) (fe_fn (ok__law_draw G) tk hr (by omega) rfl (fa_cons (fe_var 0) (fa_cons (fe_callB o_len rfl G.f_len PyProof.Rows.Boot.«len» (fa_cons (fe_var 5) fa_nil)) fa_nil))))
    (fss_cons (fs_asgT (fe_tup (fa_cons (fe_ix (fe_ix (fe_var 5) (fe_var 13)) fe_int) (fa_cons (fe_ix (fe_ix (fe_var 5) (fe_var 13)) fe_int) fa_nil)) (small_cons (small_cons small_nil))) (fg_tupA rfl (fgs_consA (fg_name (i := 9) hN rfl (.inr rfl)) (fgs_consA (fg_name (i := 10) hN rfl (.inl rfl)) fgs_nil))))
    (fss_cons (fs_asgT (fe_fn (ok__law_message G) tk hr (by omega) rfl (fa_cons (fe_var 0) (fa_cons (fe_var 3) (fa_cons (fe_var 13) (fa_cons (fe_lst (fa_cons fe_str (fa_cons fe_str (fa_cons fe_str fa_nil))) (small_cons (small_cons (small_cons small_nil)))) (fa_cons (fe_lst (fa_cons fe_str (fa_cons fe_str (fa_cons fe_str fa_nil))) (small_cons (small_cons (small_cons small_nil)))) fa_nil)))))) (fg_tupA rfl (fgs_consA (fg_name (i := 14) hN rfl (.inl rfl)) (fgs_consA (fg_name (i := 15) hN rfl (.inl rfl)) fgs_nil))))
    (fss_cons (fs_if (ft_cmp o_gt (fe_fn (ok__law_draw G) tk hr (by omega) rfl (fa_cons (fe_var 0) (fa_cons fe_int fa_nil))) fe_int rfl)
    (fss_one (fs_expr (fe_meth PySem.F.slot_list_extend PySem.F.type_list_extend o_ext (fe_ix (fe_var 6) (fe_var 9)) (fa_cons (fe_var 14) fa_nil))))
    fss_nil)
    (fss_one (fs_if (ft_cmp o_gt (fe_fn (ok__law_draw G) tk hr (by omega) rfl (fa_cons (fe_var 0) (fa_cons fe_int fa_nil))) fe_int rfl)
    (fss_one (fs_expr (fe_meth PySem.F.slot_list_extend PySem.F.type_list_extend o_ext (fe_ix (fe_var 6) (fe_var 10)) (fa_cons (fe_var 15) fa_nil))))
    fss_nil))))))
    (fss_cons (fs_set (i := 11) hN rfl (.inl rfl) (fe_fn (ok__law_draw G) tk hr (by omega) rfl (fa_cons (fe_var 0) (fa_cons (fe_var 4) fa_nil))))
    (fss_one (fs_expr (fe_meth PySem.F.slot_list_append PySem.F.type_list_append o_app (fe_ix (fe_var 6) (fe_var 11)) (fa_cons (fe_fn (ok__law_local G 10) tk hr (by omega) rfl (fa_cons (fe_var 0) (fa_cons (fe_var 3) (fa_cons (fe_lst (fa_cons fe_str (fa_cons fe_str (fa_cons fe_str fa_nil))) (small_cons (small_cons (small_cons small_nil)))) (fa_cons (fe_ix (fe_var 12) (fe_var 11)) (fa_cons fe_int fa_nil)))))) fa_nil))))))))
    (fss_cons (fs_if (ft_cmp (o_eq hu) (fe_fn (ok__law_draw G) tk hr (by omega) rfl (fa_cons (fe_var 0) (fa_cons fe_int fa_nil))) fe_int rfl)
    (fss_cons (fs_set (i := 11) hN rfl (.inl rfl) (fe_fn (ok__law_draw G) tk hr (by omega) rfl (fa_cons (fe_var 0) (fa_cons (fe_var 4) fa_nil))))
    (fss_one (fs_subL (fe_fn (ok__law_mixed G) tk hr (by omega) rfl (fa_cons (fe_var 0) (fa_cons (fe_ix (fe_var 6) (fe_var 11)) fa_nil))) (fe_var 6) (fe_var 11))))
    fss_nil)
    (fss_cons (fs_set (i := 16) hN rfl (.inl rfl) (fe_lst fa_nil small_nil))
    (fss_cons (fs_for hp rfl (fi_range1 rfl G.f_range (fa_cons (fe_var 4) fa_nil)) (fg_name (i := 11) hN rfl (.inl rfl))
    (fss_cons (fs_set (i := 17) hN rfl (.inl rfl) (fe_callTy o_tuple rfl G.f_tuple PyProof.Rows.Boot.«tuple» (fa_cons (fe_lc rfl hN (fi_range1 rfl G.f_range (fa_cons (fe_ix (fe_var 12) (fe_var 11)) fa_nil)) (own := [("at", 18)]) (blkOk_by (by kernel_rfl)) (by decide) (fun s H C cl fp => (fw_name (i := 18) hN rfl (.inl rfl))) (fun s H C cl fp => fts_nil) (fun s H C cl fp => (fe_tup (fa_cons (fe_op o_add fe_str (fe_ix fe_str (fe_var 18))) (fa_cons (fe_tup (fa_cons (fe_fn (ok__law_local G 10) takes_none5 hr (by omega) rfl (fa_cons (fe_var 0) (fa_cons (fe_var 3) (fa_cons (fe_lst (fa_cons fe_str (fa_cons fe_str fa_nil)) (small_cons (small_cons small_nil))) (fa_cons fe_int (fa_cons fe_int fa_nil)))))) (fa_cons (fe_fn (ok__law_local G 10) takes_none5 hr (by omega) rfl (fa_cons (fe_var 0) (fa_cons (fe_var 3) (fa_cons (fe_lst (fa_cons fe_str (fa_cons fe_str fa_nil)) (small_cons (small_cons small_nil))) (fa_cons fe_int (fa_cons fe_int fa_nil)))))) fa_nil)) (small_cons (small_cons small_nil))) fa_nil)) (small_cons (small_cons small_nil))))) fa_nil)))
    (fss_one (fs_expr (fe_meth PySem.F.slot_list_append PySem.F.type_list_append o_app (fe_var 16) (fa_cons (fe_tup (fa_cons (fe_op o_add fe_str (fe_ix fe_str (fe_var 11))) (fa_cons (fe_callTy (o_tupleS rfl) rfl G.f_tuple PyProof.Rows.Boot.«tuple» (fa_cons (fe_slice fe_str fo_none (fo_some (fe_ix (fe_var 7) (fe_var 11)))) fa_nil)) (fa_cons (fe_var 17) (fa_cons (fe_callTy o_tuple rfl G.f_tuple PyProof.Rows.Boot.«tuple» (fa_cons (fe_ix (fe_var 6) (fe_var 11)) fa_nil)) fa_nil)))) (small_cons (small_cons (small_cons (small_cons small_nil))))) fa_nil))))))
    (fss_one (fs_ret (fe_tup (fa_cons (fe_var 3) (fa_cons (fe_callTy o_tuple rfl G.f_tuple PyProof.Rows.Boot.«tuple» (fa_cons (fe_var 5) fa_nil)) (fa_cons (fe_callTy o_tuple rfl G.f_tuple PyProof.Rows.Boot.«tuple» (fa_cons (fe_var 16) fa_nil)) fa_nil))) (small_cons (small_cons (small_cons small_nil)))))))))))))))
theorem ok__law_house {P : Program} {w : World} {K : PySem.W.Frag} {mg : Str → Option Value} {base : Heap} (G : Fx P w K mg base) : Fok P w K mg base "_law_house" (23) 3 F__law_house := by
  obtain ⟨fd, F⟩ := G.d__law_house
  exact fok_of F G.g__law_house sc__law_house rfl (FunD.bindsN (ps := ["hand", "most", "inputs"]) F fun _ _ _ _ _ _ us hl => match us, hl with | [_, _, _], _ => rfl) (w__law_house G)
abbrev st__law_inputs : Stmt := top 95
theorem sc__law_inputs : FnScope N__law_inputs ["hand", "house"] (defScope st__law_inputs) := C8.fnScope_by (by decide +kernel)
theorem w__law_inputs {P : Program} {w : World} {K : PySem.W.Frag} {mg : Str → Option Value} {base : Heap} (G : Fx P w K mg base) {f : Addr} : BodyOk P w K mg base N__law_inputs "_law_inputs" (defScope st__law_inputs) f (defBody st__law_inputs) (1) (b__law_inputs) := by
  intro cdv A outer s H E hr
  have hN : N__law_inputs.Nodup := sc__law_inputs.nd
  have tk := takes_of (X := cxOf (L2.CX P w) P w K mg base N__law_inputs "_law_inputs" (defScope st__law_inputs) f cdv A outer s H E) (E := E) rfl rfl rfl rfl
  have hp := passes_of (X := cxOf (L2.CX P w) P w K mg base N__law_inputs "_law_inputs" (defScope st__law_inputs) f cdv A outer s H E) rfl
  have hu := hr.units
  have hu1 : _ + 1 < _ := Nat.lt_of_le_of_lt (Nat.add_le_add_left (by decide : 1 ≤ 64) _) hu
  exact (fss_one (fs_ret (fe_callTy o_tuple rfl G.f_tuple PyProof.Rows.Boot.«tuple» (fa_cons (fe_lc rfl hN (fi_seq (fe_ix (fe_var 1) fe_int)) (own := [("person", 3)]) (blkOk_by (by kernel_rfl)) (by decide) (fun s H C cl fp => (fw_name (i := 3) hN rfl (.inl rfl))) (fun s H C cl fp => fts_nil) (fun s H C cl fp => (fe_callTy o_tuple rfl G.f_tuple PyProof.Rows.Boot.«tuple» (fa_cons (fe_lc rfl hN (fi_seq (fe_ix (fe_var 3) fe_int)) (own := [("name", 2)]) (blkOk_by (by kernel_rfl)) (by decide) (fun s H C cl fp => (fw_name (i := 2) hN rfl (.inl rfl))) (fun s H C cl fp => fts_nil) (fun s H C cl fp => (fe_fn (ok__law_draw G) takes_none5 hr (by omega) rfl (fa_cons (fe_var 0) (fa_cons (fe_ix (fe_var 1) fe_int) fa_nil))))) fa_nil)))) fa_nil))))
theorem ok__law_inputs {P : Program} {w : World} {K : PySem.W.Frag} {mg : Str → Option Value} {base : Heap} (G : Fx P w K mg base) : Fok P w K mg base "_law_inputs" (2) 2 F__law_inputs := by
  obtain ⟨fd, F⟩ := G.d__law_inputs
  exact fok_of F G.g__law_inputs sc__law_inputs rfl (FunD.bindsN (ps := ["hand", "house"]) F fun _ _ _ _ _ _ us hl => match us, hl with | [_, _], _ => rfl) (w__law_inputs G)
abbrev st__law_roomed : Stmt := top 96
theorem sc__law_roomed : FnScope N__law_roomed ["house", "rooms"] (defScope st__law_roomed) := C8.fnScope_by (by decide +kernel)
theorem w__law_roomed {P : Program} {w : World} {K : PySem.W.Frag} {mg : Str → Option Value} {base : Heap} (G : Fx P w K mg base) {f : Addr} : BodyOk P w K mg base N__law_roomed "_law_roomed" (defScope st__law_roomed) f (defBody st__law_roomed) (0) (b__law_roomed) := by
  intro cdv A outer s H E hr
  have hN : N__law_roomed.Nodup := sc__law_roomed.nd
  have tk := takes_of (X := cxOf (L2.CX P w) P w K mg base N__law_roomed "_law_roomed" (defScope st__law_roomed) f cdv A outer s H E) (E := E) rfl rfl rfl rfl
  have hp := passes_of (X := cxOf (L2.CX P w) P w K mg base N__law_roomed "_law_roomed" (defScope st__law_roomed) f cdv A outer s H E) rfl
  have hu := hr.units
  have hu1 : _ + 1 < _ := Nat.lt_of_le_of_lt (Nat.add_le_add_left (by decide : 1 ≤ 64) _) hu
  exact (fss_one (fs_ret (fe_tup (fa_cons (fe_ix (fe_var 0) fe_int) (fa_cons (fe_callTy o_tuple rfl G.f_tuple PyProof.Rows.Boot.«tuple» (fa_cons (fe_lc rfl hN (fi_range1 rfl G.f_range (fa_cons (fe_callB o_len rfl G.f_len PyProof.Rows.Boot.«len» (fa_cons (fe_var 1) fa_nil)) fa_nil)) (own := [("at", 2)]) (blkOk_by (by kernel_rfl)) (by decide) (fun s H C cl fp => (fw_name (i := 2) hN rfl (.inl rfl))) (fun s H C cl fp => fts_nil) (fun s H C cl fp => (fe_op o_add (fe_slice (fe_ix (fe_ix (fe_var 0) fe_int) (fe_var 2)) fo_none (fo_some fe_int)) (fe_tup (fa_cons (fe_ix (fe_var 1) (fe_var 2)) fa_nil) (small_cons small_nil))))) fa_nil)) (fa_cons (fe_ix (fe_var 0) fe_int) fa_nil))) (small_cons (small_cons (small_cons small_nil))))))
theorem ok__law_roomed {P : Program} {w : World} {K : PySem.W.Frag} {mg : Str → Option Value} {base : Heap} (G : Fx P w K mg base) : Fok P w K mg base "_law_roomed" (1) 2 F__law_roomed := by
  obtain ⟨fd, F⟩ := G.d__law_roomed
  exact fok_of F G.g__law_roomed sc__law_roomed rfl (FunD.bindsN (ps := ["house", "rooms"]) F fun _ _ _ _ _ _ us hl => match us, hl with | [_, _], _ => rfl) (w__law_roomed G)
abbrev st__law_no_house : Stmt := top 97
theorem sc__law_no_house : FnScope N__law_no_house ["hand", "house"] (defScope st__law_no_house) := C8.fnScope_by (by decide +kernel)
theorem w__law_no_house {P : Program} {w : World} {K : PySem.W.Frag} {mg : Str → Option Value} {base : Heap} (G : Fx P w K mg base) {f : Addr} : BodyOk P w K mg base N__law_no_house "_law_no_house" (defScope st__law_no_house) f (defBody st__law_no_house) (2) (b__law_no_house) := by
  intro cdv A outer s H E hr
  have hN : N__law_no_house.Nodup := sc__law_no_house.nd
  have tk := takes_of (X := cxOf (L2.CX P w) P w K mg base N__law_no_house "_law_no_house" (defScope st__law_no_house) f cdv A outer s H E) (E := E) rfl rfl rfl rfl
  have hp := passes_of (X := cxOf (L2.CX P w) P w K mg base N__law_no_house "_law_no_house" (defScope st__law_no_house) f cdv A outer s H E) rfl
  have hu := hr.units
  have hu1 : _ + 1 < _ := Nat.lt_of_le_of_lt (Nat.add_le_add_left (by decide : 1 ≤ 64) _) hu
  exact (fss_cons (fs_asgT (fe_var 1) (fg_tupA rfl (fgs_consA (fg_name (i := 2) hN rfl (.inl rfl)) (fgs_consA (fg_name (i := 3) hN rfl (.inl rfl)) (fgs_consA (fg_name (i := 4) hN rfl (.inl rfl)) fgs_nil)))))
    (fss_cons (fs_set (i := 5) hN rfl (.inl rfl) (fe_lst (fa_cons fe_non (fa_cons (fe_tup (fa_cons (fe_var 2) (fa_cons (fe_var 3) fa_nil)) (small_cons (small_cons small_nil))) (fa_cons (fe_lst (fa_cons (fe_var 2) (fa_cons (fe_var 3) (fa_cons (fe_var 4) fa_nil))) (small_cons (small_cons (small_cons small_nil)))) (fa_cons (fe_tup (fa_cons (fe_var 2) (fa_cons (fe_var 3) (fa_cons (fe_var 4) (fa_cons fe_int fa_nil)))) (small_cons (small_cons (small_cons (small_cons small_nil))))) (fa_cons (fe_tup (fa_cons fe_int (fa_cons (fe_var 3) (fa_cons (fe_var 4) fa_nil))) (small_cons (small_cons (small_cons small_nil)))) (fa_cons (fe_tup (fa_cons fe_int (fa_cons (fe_var 3) (fa_cons (fe_var 4) fa_nil))) (small_cons (small_cons (small_cons small_nil)))) (fa_cons (fe_tup (fa_cons fe_bl (fa_cons (fe_var 3) (fa_cons (fe_var 4) fa_nil))) (small_cons (small_cons (small_cons small_nil)))) fa_nil))))))) (small_cons (small_cons (small_cons (small_cons (small_cons (small_cons (small_cons small_nil)))))))))
    (fss_cons (fs_set (i := 5) hN rfl (.inl rfl) (fe_op o_add (fe_var 5) (fe_lst (fa_cons (fe_tup (fa_cons (fe_var 2) (fa_cons (fe_callTy o_list rfl G.f_list PyProof.Rows.Boot.«list» (fa_cons (fe_var 3) fa_nil)) (fa_cons (fe_var 4) fa_nil))) (small_cons (small_cons (small_cons small_nil)))) (fa_cons (fe_tup (fa_cons (fe_var 2) (fa_cons (fe_var 3) (fa_cons (fe_callTy o_list rfl G.f_list PyProof.Rows.Boot.«list» (fa_cons (fe_var 4) fa_nil)) fa_nil))) (small_cons (small_cons (small_cons small_nil)))) (fa_cons (fe_tup (fa_cons (fe_var 2) (fa_cons (fe_var 3) (fa_cons (fe_tup fa_nil small_nil) fa_nil))) (small_cons (small_cons (small_cons small_nil)))) (fa_cons (fe_tup (fa_cons (fe_var 2) (fa_cons (fe_var 3) (fa_cons (fe_op o_add (fe_var 4) (fe_slice (fe_var 4) fo_none (fo_some fe_int))) fa_nil))) (small_cons (small_cons (small_cons small_nil)))) (fa_cons fe_str (fa_cons fe_int (fa_cons fe_dnew fa_nil))))))) (small_cons (small_cons (small_cons (small_cons (small_cons (small_cons (small_cons small_nil))))))))))
    (fss_cons (fs_set (i := 6) hN rfl (.inl rfl) (fe_ix (fe_var 4) fe_int))
    (fss_cons (fs_set (i := 5) hN rfl (.inl rfl) (fe_op o_add (fe_var 5) (fe_lst (fa_cons (fe_tup (fa_cons (fe_var 2) (fa_cons (fe_var 3) (fa_cons (fe_op o_add (fe_tup (fa_cons (fe_slice (fe_var 6) fo_none (fo_some fe_int)) fa_nil) (small_cons small_nil)) (fe_slice (fe_var 4) (fo_some fe_int) fo_none)) fa_nil))) (small_cons (small_cons (small_cons small_nil)))) (fa_cons (fe_tup (fa_cons (fe_var 2) (fa_cons (fe_var 3) (fa_cons (fe_op o_add (fe_tup (fa_cons (fe_op o_add (fe_slice (fe_var 6) fo_none (fo_some fe_int)) (fe_tup (fa_cons (fe_op o_add (fe_ix (fe_var 6) fe_int) (fe_tup (fa_cons (fe_tup (fa_cons fe_str (fa_cons (fe_tup (fa_cons fe_str (fa_cons (fe_var 2) fa_nil)) (small_cons (small_cons small_nil))) fa_nil)) (small_cons (small_cons small_nil))) fa_nil) (small_cons small_nil))) fa_nil) (small_cons small_nil))) fa_nil) (small_cons small_nil)) (fe_slice (fe_var 4) (fo_some fe_int) fo_none)) fa_nil))) (small_cons (small_cons (small_cons small_nil)))) fa_nil)) (small_cons (small_cons small_nil)))))
    (fss_cons (fs_set (i := 5) hN rfl (.inl rfl) (fe_op o_add (fe_var 5) (fe_lst (fa_cons (fe_tup (fa_cons (fe_var 2) (fa_cons (fe_var 3) (fa_cons (fe_op o_add (fe_tup (fa_cons (fe_op o_add (fe_slice (fe_var 6) fo_none (fo_some fe_int)) (fe_tup (fa_cons (fe_op o_add (fe_ix (fe_var 6) fe_int) (fe_tup (fa_cons (fe_tup (fa_cons fe_str (fa_cons (fe_callB o_len rfl G.f_len PyProof.Rows.Boot.«len» (fa_cons (fe_var 3) fa_nil)) (fa_cons (fe_tup (fa_cons fe_str (fa_cons fe_int fa_nil)) (small_cons (small_cons small_nil))) fa_nil))) (small_cons (small_cons (small_cons small_nil)))) fa_nil) (small_cons small_nil))) fa_nil) (small_cons small_nil))) fa_nil) (small_cons small_nil)) (fe_slice (fe_var 4) (fo_some fe_int) fo_none)) fa_nil))) (small_cons (small_cons (small_cons small_nil)))) (fa_cons (fe_tup (fa_cons (fe_var 2) (fa_cons (fe_var 3) (fa_cons (fe_op o_add (fe_tup (fa_cons (fe_op o_add (fe_tup (fa_cons fe_str fa_nil) (small_cons small_nil)) (fe_slice (fe_var 6) (fo_some fe_int) fo_none)) fa_nil) (small_cons small_nil)) (fe_slice (fe_var 4) (fo_some fe_int) fo_none)) fa_nil))) (small_cons (small_cons (small_cons small_nil)))) fa_nil)) (small_cons (small_cons small_nil)))))
    (fss_cons (fs_set (i := 5) hN rfl (.inl rfl) (fe_op o_add (fe_var 5) (fe_lst (fa_cons (fe_tup (fa_cons (fe_var 2) (fa_cons (fe_op o_add (fe_var 3) (fe_tup (fa_cons (fe_tup (fa_cons fe_str (fa_cons fe_int (fa_cons fe_int (fa_cons fe_int fa_nil)))) (small_cons (small_cons (small_cons (small_cons small_nil))))) fa_nil) (small_cons small_nil))) (fa_cons (fe_var 4) fa_nil))) (small_cons (small_cons (small_cons small_nil)))) (fa_cons (fe_tup (fa_cons (fe_var 2) (fa_cons (fe_op o_add (fe_var 3) (fe_tup (fa_cons (fe_tup (fa_cons fe_str (fa_cons fe_int (fa_cons (fe_callB o_len rfl G.f_len PyProof.Rows.Boot.«len» (fa_cons (fe_var 4) fa_nil)) (fa_cons fe_int fa_nil)))) (small_cons (small_cons (small_cons (small_cons small_nil))))) fa_nil) (small_cons small_nil))) (fa_cons (fe_var 4) fa_nil))) (small_cons (small_cons (small_cons small_nil)))) (fa_cons (fe_tup (fa_cons (fe_var 2) (fa_cons (fe_op o_add (fe_var 3) (fe_tup (fa_cons (fe_tup (fa_cons fe_str (fa_cons fe_int (fa_cons fe_int (fa_cons fe_int fa_nil)))) (small_cons (small_cons (small_cons (small_cons small_nil))))) fa_nil) (small_cons small_nil))) (fa_cons (fe_var 4) fa_nil))) (small_cons (small_cons (small_cons small_nil)))) fa_nil))) (small_cons (small_cons (small_cons small_nil))))))
    (fss_one (fs_ret (fe_fn (ok__law_some G) tk hr (by omega) rfl (fa_cons (fe_var 0) (fa_cons (fe_var 5) fa_nil))))))))))))
theorem ok__law_no_house {P : Program} {w : World} {K : PySem.W.Frag} {mg : Str → Option Value} {base : Heap} (G : Fx P w K mg base) : Fok P w K mg base "_law_no_house" (3) 2 F__law_no_house := by
  obtain ⟨fd, F⟩ := G.d__law_no_house
  exact fok_of F G.g__law_no_house sc__law_no_house rfl (FunD.bindsN (ps := ["hand", "house"]) F fun _ _ _ _ _ _ us hl => match us, hl with | [_, _], _ => rfl) (w__law_no_house G)
abbrev st__law_no_inputs : Stmt := top 98
theorem sc__law_no_inputs : FnScope N__law_no_inputs ["hand", "house", "inputs"] (defScope st__law_no_inputs) := C8.fnScope_by (by decide +kernel)
theorem w__law_no_inputs {P : Program} {w : World} {K : PySem.W.Frag} {mg : Str → Option Value} {base : Heap} (G : Fx P w K mg base) {f : Addr} : BodyOk P w K mg base N__law_no_inputs "_law_no_inputs" (defScope st__law_no_inputs) f (defBody st__law_no_inputs) (2) (b__law_no_inputs) := by
  intro cdv A outer s H E hr
  have hN : N__law_no_inputs.Nodup := sc__law_no_inputs.nd
  have tk := takes_of (X := cxOf (L2.CX P w) P w K mg base N__law_no_inputs "_law_no_inputs" (defScope st__law_no_inputs) f cdv A outer s H E) (E := E) rfl rfl rfl rfl
  have hp := passes_of (X := cxOf (L2.CX P w) P w K mg base N__law_no_inputs "_law_no_inputs" (defScope st__law_no_inputs) f cdv A outer s H E) rfl
  have hu := hr.units
  have hu1 : _ + 1 < _ := Nat.lt_of_le_of_lt (Nat.add_le_add_left (by decide : 1 ≤ 64) _) hu
  exact (fss_cons (fs_set (i := 3) hN rfl (.inl rfl) (fe_lst (fa_cons fe_non (fa_cons (fe_callTy o_list rfl G.f_list PyProof.Rows.Boot.«list» (fa_cons (fe_var 2) fa_nil)) (fa_cons (fe_op o_add (fe_var 2) (fe_tup (fa_cons (fe_tup fa_nil small_nil) fa_nil) (small_cons small_nil))) (fa_cons (fe_slice (fe_var 2) (fo_some fe_int) fo_none) (fa_cons (fe_op o_add (fe_tup (fa_cons (fe_op o_add (fe_ix (fe_var 2) fe_int) (fe_tup (fa_cons fe_int fa_nil) (small_cons small_nil))) fa_nil) (small_cons small_nil)) (fe_slice (fe_var 2) (fo_some fe_int) fo_none)) (fa_cons (fe_op o_add (fe_tup (fa_cons (fe_callTy o_list rfl G.f_list PyProof.Rows.Boot.«list» (fa_cons (fe_ix (fe_var 2) fe_int) fa_nil)) fa_nil) (small_cons small_nil)) (fe_slice (fe_var 2) (fo_some fe_int) fo_none)) (fa_cons fe_str (fa_cons fe_int fa_nil)))))))) (small_cons (small_cons (small_cons (small_cons (small_cons (small_cons (small_cons (small_cons small_nil))))))))))
    (fss_cons (fs_if (ft_cmp o_gt (fe_callB o_len rfl G.f_len PyProof.Rows.Boot.«len» (fa_cons (fe_ix (fe_var 2) fe_int) fa_nil)) fe_int rfl)
    (fss_one (fs_set (i := 3) hN rfl (.inl rfl) (fe_op o_add (fe_var 3) (fe_lst (fa_cons (fe_op o_add (fe_tup (fa_cons (fe_op o_add (fe_tup (fa_cons (fe_ix (fe_var 1) fe_int) fa_nil) (small_cons small_nil)) (fe_slice (fe_ix (fe_var 2) fe_int) (fo_some fe_int) fo_none)) fa_nil) (small_cons small_nil)) (fe_slice (fe_var 2) (fo_some fe_int) fo_none)) (fa_cons (fe_op o_add (fe_tup (fa_cons (fe_op o_add (fe_tup (fa_cons fe_neg fa_nil) (small_cons small_nil)) (fe_slice (fe_ix (fe_var 2) fe_int) (fo_some fe_int) fo_none)) fa_nil) (small_cons small_nil)) (fe_slice (fe_var 2) (fo_some fe_int) fo_none)) (fa_cons (fe_op o_add (fe_tup (fa_cons (fe_op o_add (fe_tup (fa_cons fe_non fa_nil) (small_cons small_nil)) (fe_slice (fe_ix (fe_var 2) fe_int) (fo_some fe_int) fo_none)) fa_nil) (small_cons small_nil)) (fe_slice (fe_var 2) (fo_some fe_int) fo_none)) (fa_cons (fe_op o_add (fe_tup (fa_cons (fe_slice (fe_ix (fe_var 2) fe_int) (fo_some fe_int) fo_none) fa_nil) (small_cons small_nil)) (fe_slice (fe_var 2) (fo_some fe_int) fo_none)) fa_nil)))) (small_cons (small_cons (small_cons (small_cons small_nil))))))))
    fss_nil)
    (fss_one (fs_ret (fe_fn (ok__law_some G) tk hr (by omega) rfl (fa_cons (fe_var 0) (fa_cons (fe_var 3) fa_nil)))))))
theorem ok__law_no_inputs {P : Program} {w : World} {K : PySem.W.Frag} {mg : Str → Option Value} {base : Heap} (G : Fx P w K mg base) : Fok P w K mg base "_law_no_inputs" (3) 3 F__law_no_inputs := by
  obtain ⟨fd, F⟩ := G.d__law_no_inputs
  exact fok_of F G.g__law_no_inputs sc__law_no_inputs rfl (FunD.bindsN (ps := ["hand", "house", "inputs"]) F fun _ _ _ _ _ _ us hl => match us, hl with | [_, _, _], _ => rfl) (w__law_no_inputs G)
abbrev st__law_outcome : Stmt := top 99
theorem sc__law_outcome : FnScope N__law_outcome ["house", "log"] (defScope st__law_outcome) := C8.fnScope_by (by decide +kernel)
theorem w__law_outcome {P : Program} {w : World} {K : PySem.W.Frag} {mg : Str → Option Value} {base : Heap} (G : Fx P w K mg base) {f : Addr} : BodyOk P w K mg base N__law_outcome "_law_outcome" (defScope st__law_outcome) f (defBody st__law_outcome) (29) (b__law_outcome) := by
  intro cdv A outer s H E hr
  have hN : N__law_outcome.Nodup := sc__law_outcome.nd
  have tk := takes_of (X := cxOf (L2.CX P w) P w K mg base N__law_outcome "_law_outcome" (defScope st__law_outcome) f cdv A outer s H E) (E := E) rfl rfl rfl rfl
  have hp := passes_of (X := cxOf (L2.CX P w) P w K mg base N__law_outcome "_law_outcome" (defScope st__law_outcome) f cdv A outer s H E) rfl
  have hu := hr.units
  have hu1 : _ + 1 < _ := Nat.lt_of_le_of_lt (Nat.add_le_add_left (by decide : 1 ≤ 64) _) hu
  exact (fss_one (fs_try G.sub rfl rfl hN tk (fun W' pn xe tk1 hp1 => (fss_one (fs_ret (fe_lst (fa_cons fe_str (fa_cons (fe_mt0 (ok_Live_now G) tk1 hr (by omega) (fe_fn (ok_from_log G) tk1 hr (by omega) rfl (fa_cons (fe_var 0) (fa_cons (fe_var 1) fa_nil)))) fa_nil)) (small_cons (small_cons small_nil))))))
    (HdsF.as_ (i := 2) rfl (by decide) G.g_NoHouse rfl rfl (fun a oe cls d pn hz hf => su_plain (fss_one (fs_ret (fe_lst (fa_cons fe_str fa_nil) (small_cons small_nil))))) (HdsF.as_ (i := 2) rfl (by decide) G.g_BadLog rfl rfl (fun a oe cls d pn hz hf => su_at G.xf_BadLog G.xn_BadLog_at rfl (.inl rfl) (by decide) (by decide) hz hf) (HdsF.cons rfl (by decide) G.g_HouseError (fun a oe cls d pn hz hf => su_plain (fss_one (fs_ret (fe_lst (fa_cons fe_str fa_nil) (small_cons small_nil))))) HdsF.nil)))))
theorem ok__law_outcome {P : Program} {w : World} {K : PySem.W.Frag} {mg : Str → Option Value} {base : Heap} (G : Fx P w K mg base) : Fok P w K mg base "_law_outcome" (30) 2 F__law_outcome := by
  obtain ⟨fd, F⟩ := G.d__law_outcome
  exact fok_of F G.g__law_outcome sc__law_outcome rfl (FunD.bindsN (ps := ["house", "log"]) F fun _ _ _ _ _ _ us hl => match us, hl with | [_, _], _ => rfl) (w__law_outcome G)
abbrev st_law : Stmt := top 100
theorem sc_law : FnScope N_law ["script"] (defScope st_law) := C8.fnScope_by (by decide +kernel)
theorem w_law {P : Program} {w : World} {K : PySem.W.Frag} {mg : Str → Option Value} {base : Heap} (G : Fx P w K mg base) {f : Addr} : BodyOk P w K mg base N_law "law" (defScope st_law) f (defBody st_law) (60) (b_law) := by
  intro cdv A outer s H E hr
  have hN : N_law.Nodup := sc_law.nd
  have tk := takes_of (X := cxOf (L2.CX P w) P w K mg base N_law "law" (defScope st_law) f cdv A outer s H E) (E := E) rfl rfl rfl rfl
  have hp := passes_of (X := cxOf (L2.CX P w) P w K mg base N_law "law" (defScope st_law) f cdv A outer s H E) rfl
  have hu := hr.units
  have hu1 : _ + 1 < _ := Nat.lt_of_le_of_lt (Nat.add_le_add_left (by decide : 1 ≤ 64) _) hu
  exact (fss_cons (fs_set (i := 1) hN rfl (.inl rfl) (fe_fn (ok__law_hand G) tk hr (by omega) rfl (fa_cons (fe_var 0) fa_nil)))
    (fss_cons (fs_for hp rfl (fi_range1 rfl G.f_range (fa_cons fe_int fa_nil)) (fg_name (i := 2) hN rfl (.inl rfl))
    (fss_cons (fs_set (i := 3) hN rfl (.inl rfl) (fe_fn (ok__law_house G) tk hr (by omega) rfl (fa_cons (fe_var 1) (fa_cons fe_int (fa_cons fe_int fa_nil)))))
    (fss_cons (fs_asgT (fe_tup (fa_cons (fe_var 3) (fa_cons (fe_lst fa_nil small_nil) fa_nil)) (small_cons (small_cons small_nil))) (fg_tupA rfl (fgs_consA (fg_name (i := 4) hN rfl (.inr rfl)) (fgs_consA (fg_name (i := 5) hN rfl (.inl rfl)) fgs_nil))))
    (fss_cons (fs_for hp rfl (fi_range1 rfl G.f_range (fa_cons (fe_fn (ok__law_draw G) tk hr (by omega) rfl (fa_cons (fe_var 1) (fa_cons fe_int fa_nil))) fa_nil)) (fg_name (i := 6) hN rfl (.inl rfl))
    (fss_cons (fs_set (i := 10) hN rfl (.inl rfl) (fe_fn (ok__law_draw G) tk hr (by omega) rfl (fa_cons (fe_var 1) (fa_cons (fe_callB o_len rfl G.f_len PyProof.Rows.Boot.«len» (fa_cons (fe_ix (fe_var 4) fe_int) fa_nil)) fa_nil))))
    (fss_cons (fs_par (i := 11) (j := 12) rfl hN rfl rfl (by decide) rfl rfl (fa_cons (fe_ix (fe_ix (fe_var 4) fe_int) (fe_var 10)) (fa_cons (fe_fn (ok__law_draw G) tk hr (by omega) rfl (fa_cons (fe_var 1) (fa_cons fe_int fa_nil))) fa_nil)))
    (fss_cons (fs_set (i := 13) hN rfl (.inl rfl) (fe_callB (o_sum rfl) rfl G.f_sum PyProof.Rows.Boot.«sum» (fa_cons (fe_lc rfl hN (fi_seq (fe_ix (fe_var 11) fe_int)) (own := [("pair", 21)]) (blkOk_by (by kernel_rfl)) (by decide) (fun s H C cl fp => (fw_name (i := 21) hN rfl (.inl rfl))) (fun s H C cl fp => fts_nil) (fun s H C cl fp => (fe_callB o_len rfl G.f_len PyProof.Rows.Boot.«len» (fa_cons (fe_ix (fe_var 21) fe_int) fa_nil)))) fa_nil)))
    (fss_cons (fs_set (i := 14) hN rfl (.inl rfl) (fe_and (fe_callB (o_all rfl) rfl G.f_all PyProof.Rows.Boot.«all» (fa_cons (fe_lc rfl hN (fi_seq (fe_ix (fe_var 11) fe_int)) (own := [("here", 22)]) (blkOk_by (by kernel_rfl)) (by decide) (fun s H C cl fp => (fw_name (i := 22) hN rfl (.inl rfl))) (fun s H C cl fp => fts_nil) (fun s H C cl fp => (fe_cmp (o_nin) (fe_ix (fe_var 22) fe_int) (fe_lst (fa_cons fe_str (fa_cons fe_str fa_nil)) (small_cons (small_cons small_nil))) rfl))) fa_nil)) (fe_one (fe_cmp (o_eq hu) (fe_callB o_len rfl G.f_len PyProof.Rows.Boot.«len» (fa_cons (fe_ix (fe_var 11) fe_int) fa_nil)) fe_int rfl))))
    (fss_one (fs_if (fw_test (fw_and (ft_cmp (o_eq hu) (fe_var 12) fe_int rfl) (fw_and1 (ft_cmp o_gt (fe_callB o_len rfl G.f_len PyProof.Rows.Boot.«len» (fa_cons (fe_ix (fe_var 4) fe_int) fa_nil)) fe_int rfl))))
    (fss_cons (fs_asgT (fe_tup (fa_cons (fe_fn (ok__law_draw G) tk hr (by omega) rfl (fa_cons (fe_var 1) (fa_cons (fe_callB o_len rfl G.f_len PyProof.Rows.Boot.«len» (fa_cons (fe_ix (fe_var 4) fe_int) fa_nil)) fa_nil))) (fa_cons (fe_fn (ok__law_draw G) tk hr (by omega) rfl (fa_cons (fe_var 1) (fa_cons fe_int fa_nil))) fa_nil)) (small_cons (small_cons small_nil))) (fg_tupA rfl (fgs_consA (fg_name (i := 16) hN rfl (.inr rfl)) (fgs_consA (fg_name (i := 17) hN rfl (.inr rfl)) fgs_nil))))
    (fss_cons (fs_expr (fe_meth PySem.F.slot_list_append PySem.F.type_list_append o_app (fe_var 5) (fa_cons (fe_tup (fa_cons fe_str (fa_cons (fe_var 16) (fa_cons (fe_var 17) fa_nil))) (small_cons (small_cons (small_cons small_nil)))) fa_nil)))
    (fss_one (fs_set (i := 4) hN rfl (.inr rfl) (fe_fn (ok__law_roomed G) tk hr (by omega) rfl (fa_cons (fe_var 4) (fa_cons (fe_lc rfl hN (fi_range1 rfl G.f_range (fa_cons (fe_callB o_len rfl G.f_len PyProof.Rows.Boot.«len» (fa_cons (fe_ix (fe_var 4) fe_int) fa_nil)) fa_nil)) (own := [("at", 7)]) (blkOk_by (by kernel_rfl)) (by decide) (fun s H C cl fp => (fw_name (i := 7) hN rfl (.inl rfl))) (fun s H C cl fp => fts_nil) (fun s H C cl fp => (fe_if (ft_cmp (o_eq hu) (fe_var 7) (fe_var 16) rfl) (fe_var 17) (fe_ix (fe_ix (fe_ix (fe_var 4) fe_int) (fe_var 7)) fe_int)))) fa_nil)))))))
    (fss_one (fs_if (fw_test (fw_and (ft_val (fe_var 14)) (fw_and1 (ft_cmp o_lt (fe_callB o_len rfl G.f_len PyProof.Rows.Boot.«len» (fa_cons (fe_ix (fe_var 11) fe_int) fa_nil)) fe_int rfl))))
    (fss_cons (fs_par (i := 18) (j := 19) rfl hN rfl rfl (by decide) rfl rfl (fa_cons (fe_fn (ok__law_draw G) tk hr (by omega) rfl (fa_cons (fe_var 1) (fa_cons (fe_op o_add (fe_callB o_len rfl G.f_len PyProof.Rows.Boot.«len» (fa_cons (fe_ix (fe_var 11) fe_int) fa_nil)) fe_int) fa_nil))) (fa_cons (fe_tup (fa_cons fe_str (fa_cons (fe_tup (fa_cons fe_str (fa_cons (fe_fn (ok__law_draw G) tk hr (by omega) rfl (fa_cons (fe_var 1) (fa_cons (fe_ix (fe_var 4) fe_int) fa_nil))) fa_nil)) (small_cons (small_cons small_nil))) fa_nil)) (small_cons (small_cons small_nil))) fa_nil)))
    (fss_cons (fs_expr (fe_meth PySem.F.slot_list_append PySem.F.type_list_append o_app (fe_var 5) (fa_cons (fe_tup (fa_cons fe_str (fa_cons (fe_var 10) (fa_cons (fe_var 18) (fa_cons (fe_var 19) fa_nil)))) (small_cons (small_cons (small_cons (small_cons small_nil))))) fa_nil)))
    (fss_cons (fs_set (i := 20) hN rfl (.inl rfl) (fe_op o_add (fe_op o_add (fe_slice (fe_ix (fe_var 11) fe_int) fo_none (fo_some (fe_var 18))) (fe_tup (fa_cons (fe_var 19) fa_nil) (small_cons small_nil))) (fe_slice (fe_ix (fe_var 11) fe_int) (fo_some (fe_var 18)) fo_none)))
    (fss_one (fs_set (i := 4) hN rfl (.inr rfl) (fe_tup (fa_cons (fe_ix (fe_var 4) fe_int) (fa_cons (fe_ix (fe_var 4) fe_int) (fa_cons (fe_op o_add (fe_op o_add (fe_slice (fe_ix (fe_var 4) fe_int) fo_none (fo_some (fe_var 10))) (fe_tup (fa_cons (fe_op o_add (fe_slice (fe_var 11) fo_none (fo_some fe_int)) (fe_tup (fa_cons (fe_var 20) fa_nil) (small_cons small_nil))) fa_nil) (small_cons small_nil))) (fe_slice (fe_ix (fe_var 4) fe_int) (fo_some (fe_op o_add (fe_var 10) fe_int)) fo_none)) fa_nil))) (small_cons (small_cons (small_cons small_nil)))))))))
    fss_nil)))))))))
    (fss_cons (fs_if (fw_test (fw_or (ft_not (ft_val (fe_fn (ok__law_kept G 60) tk hr (by omega) rfl (fa_cons (fe_fn (ok__law_outcome G) tk hr (by omega) rfl (fa_cons (fe_var 3) (fa_cons (fe_callTy o_list rfl G.f_list PyProof.Rows.Boot.«list» (fa_cons (fe_var 5) fa_nil)) fa_nil))) (fa_cons (fe_lst (fa_cons fe_str (fa_cons (fe_var 4) fa_nil)) (small_cons (small_cons small_nil))) fa_nil))))) (fw_or1 (ft_not (ft_val (fe_fn (ok__law_kept G 60) tk hr (by omega) rfl (fa_cons (fe_fn (ok__law_outcome G) tk hr (by omega) rfl (fa_cons (fe_var 3) (fa_cons (fe_lst fa_nil small_nil) fa_nil))) (fa_cons (fe_lst (fa_cons fe_str (fa_cons (fe_var 3) fa_nil)) (small_cons (small_cons small_nil))) fa_nil))))))))
    (fss_one (fs_ret fe_bl))
    fss_nil)
    (fss_cons (fs_set (i := 7) hN rfl (.inl rfl) (fe_fn (ok__law_draw G) tk hr (by omega) rfl (fa_cons (fe_var 1) (fa_cons (fe_op o_add (fe_callB o_len rfl G.f_len PyProof.Rows.Boot.«len» (fa_cons (fe_var 5) fa_nil)) fe_int) fa_nil))))
    (fss_cons (fs_set (i := 8) hN rfl (.inl rfl) (fe_lst (fa_cons (fe_tup (fa_cons fe_str (fa_cons fe_int (fa_cons fe_int fa_nil))) (small_cons (small_cons (small_cons small_nil)))) (fa_cons (fe_tup (fa_cons fe_str (fa_cons fe_int (fa_cons fe_int (fa_cons (fe_tup (fa_cons fe_str (fa_cons (fe_tup (fa_cons fe_str (fa_cons fe_int fa_nil)) (small_cons (small_cons small_nil))) fa_nil)) (small_cons (small_cons small_nil))) fa_nil)))) (small_cons (small_cons (small_cons (small_cons small_nil))))) (fa_cons (fe_tup (fa_cons fe_str (fa_cons fe_int (fa_cons fe_int (fa_cons (fe_tup (fa_cons fe_str fa_nil) (small_cons small_nil)) fa_nil)))) (small_cons (small_cons (small_cons (small_cons small_nil))))) (fa_cons (fe_tup (fa_cons fe_str (fa_cons fe_int fa_nil)) (small_cons (small_cons small_nil))) (fa_cons (fe_tup (fa_cons fe_str (fa_cons fe_int (fa_cons fe_int fa_nil))) (small_cons (small_cons (small_cons small_nil)))) (fa_cons (fe_tup (fa_cons fe_str (fa_cons fe_int (fa_cons fe_int fa_nil))) (small_cons (small_cons (small_cons small_nil)))) (fa_cons (fe_tup (fa_cons fe_str (fa_cons fe_int fa_nil)) (small_cons (small_cons small_nil))) (fa_cons (fe_tup fa_nil small_nil) fa_nil)))))))) (small_cons (small_cons (small_cons (small_cons (small_cons (small_cons (small_cons (small_cons small_nil))))))))))
    (fss_cons (fs_set (i := 8) hN rfl (.inl rfl) (fe_op o_add (fe_var 8) (fe_lst (fa_cons fe_non (fa_cons fe_str (fa_cons (fe_lst (fa_cons fe_str (fa_cons fe_int (fa_cons fe_int fa_nil))) (small_cons (small_cons (small_cons small_nil)))) (fa_cons (fe_tup (fa_cons fe_str (fa_cons fe_int (fa_cons fe_int (fa_cons fe_int fa_nil)))) (small_cons (small_cons (small_cons (small_cons small_nil))))) (fa_cons (fe_tup (fa_cons fe_int (fa_cons fe_int (fa_cons fe_int fa_nil))) (small_cons (small_cons (small_cons small_nil)))) (fa_cons (fe_tup (fa_cons fe_str (fa_cons fe_int (fa_cons fe_int fa_nil))) (small_cons (small_cons (small_cons small_nil)))) (fa_cons (fe_tup (fa_cons fe_str (fa_cons fe_int (fa_cons fe_int (fa_cons fe_non fa_nil)))) (small_cons (small_cons (small_cons (small_cons small_nil))))) (fa_cons (fe_tup (fa_cons fe_str fa_nil) (small_cons small_nil)) (fa_cons (fe_tup (fa_cons fe_str (fa_cons fe_int (fa_cons fe_int (fa_cons fe_non fa_nil)))) (small_cons (small_cons (small_cons (small_cons small_nil))))) (fa_cons fe_int (fa_cons fe_dnew (fa_cons (fe_tup (fa_cons fe_non fa_nil) (small_cons small_nil)) fa_nil)))))))))))) (small_cons (small_cons (small_cons (small_cons (small_cons (small_cons (small_cons (small_cons (small_cons (small_cons (small_cons (small_cons small_nil)))))))))))))))
    (fss_cons (fs_if (ft_not (ft_val (fe_fn (ok__law_kept G 60) tk hr (by omega) rfl (fa_cons (fe_fn (ok__law_outcome G) tk hr (by omega) rfl (fa_cons (fe_var 3) (fa_cons (fe_op o_add (fe_op o_add (fe_slice (fe_var 5) fo_none (fo_some (fe_var 7))) (fe_lst (fa_cons (fe_fn (ok__law_some G) tk hr (by omega) rfl (fa_cons (fe_var 1) (fa_cons (fe_var 8) fa_nil))) fa_nil) (small_cons small_nil))) (fe_slice (fe_var 5) (fo_some (fe_var 7)) fo_none)) fa_nil))) (fa_cons (fe_lst (fa_cons fe_str (fa_cons (fe_var 7) fa_nil)) (small_cons (small_cons small_nil))) fa_nil)))))
    (fss_one (fs_ret fe_bl))
    fss_nil)
    (fss_cons (fs_if (fw_test (fw_or (ft_cmp (o_ne hu) (fe_fn (ok__law_outcome G) tk hr (by omega) rfl (fa_cons (fe_var 3) (fa_cons (fe_fn (ok__law_some G) tk hr (by omega) rfl (fa_cons (fe_var 1) (fa_cons (fe_lst (fa_cons fe_non (fa_cons (fe_callTy o_tuple rfl G.f_tuple PyProof.Rows.Boot.«tuple» (fa_cons (fe_var 5) fa_nil)) (fa_cons fe_str (fa_cons fe_int (fa_cons fe_dnew fa_nil))))) (small_cons (small_cons (small_cons (small_cons (small_cons small_nil)))))) fa_nil))) fa_nil))) (fe_lst (fa_cons fe_str (fa_cons fe_neg fa_nil)) (small_cons (small_cons small_nil))) rfl) (fw_or1 (ft_cmp (o_ne hu) (fe_fn (ok__law_outcome G) tk hr (by omega) rfl (fa_cons (fe_fn (ok__law_no_house G) tk hr (by omega) rfl (fa_cons (fe_var 1) (fa_cons (fe_var 3) fa_nil))) (fa_cons (fe_lst fa_nil small_nil) fa_nil))) (fe_lst (fa_cons fe_str fa_nil) (small_cons small_nil)) rfl))))
    (fss_one (fs_ret fe_bl))
    fss_nil)
    (fss_cons (fs_set (i := 9) hN rfl (.inl rfl) (fe_mk (ok_Live___init__ G) tk hr (by decide) rfl (fa_cons (fe_var 3) fa_nil)))
    (fss_cons (fs_try G.sub rfl rfl hN tk (fun W' pn xe tk1 hp1 => (fss_cons (fs_expr (fe_mt (ok_Live_end G) tk1 hr (by omega) (fe_var 9) (fa_cons (fe_fn (ok__law_no_inputs G) tk1 hr (by omega) rfl (fa_cons (fe_var 1) (fa_cons (fe_var 3) (fa_cons (fe_fn (ok__law_inputs G) tk1 hr (by omega) rfl (fa_cons (fe_var 1) (fa_cons (fe_var 3) fa_nil))) fa_nil)))) fa_nil)))
    (fss_one (fs_ret fe_bl))))
    (HdsF.as_ (i := 15) rfl (by decide) G.g_NoInputs rfl rfl (fun a oe cls d pn hz hf => su_plain (fss_one (fs_set (i := 8) hN rfl (.inl rfl) (fe_lst fa_nil small_nil)))) (HdsF.cons rfl (by decide) G.g_HouseError (fun a oe cls d pn hz hf => su_plain (fss_one (fs_ret fe_bl))) HdsF.nil)))
    (fss_one (fs_try G.sub rfl rfl hN tk (fun W' pn xe tk2 hp2 => (fss_cons (fs_expr (fe_mt (ok_Live_behaviour G) tk2 hr (by omega) (fe_var 9) (fa_cons (fe_fn (ok__law_some G) tk2 hr (by omega) rfl (fa_cons (fe_var 1) (fa_cons (fe_lst (fa_cons fe_neg (fa_cons (fe_callB o_len rfl G.f_len PyProof.Rows.Boot.«len» (fa_cons (fe_ix (fe_var 3) fe_int) fa_nil)) (fa_cons fe_non (fa_cons fe_bl (fa_cons fe_str fa_nil))))) (small_cons (small_cons (small_cons (small_cons (small_cons small_nil)))))) fa_nil))) fa_nil)))
    (fss_one (fs_ret fe_bl))))
    (HdsF.as_ (i := 15) rfl (by decide) G.g_NoPerson rfl rfl (fun a oe cls d pn hz hf => su_plain (fss_one (fs_set (i := 8) hN rfl (.inl rfl) (fe_lst fa_nil small_nil)))) (HdsF.cons rfl (by decide) G.g_HouseError (fun a oe cls d pn hz hf => su_plain (fss_one (fs_ret fe_bl))) HdsF.nil))))))))))))))))
    (fss_one (fs_ret fe_bl))))
theorem ok_law {P : Program} {w : World} {K : PySem.W.Frag} {mg : Str → Option Value} {base : Heap} (G : Fx P w K mg base) : Fok P w K mg base "law" (61) 1 F_law := by
  obtain ⟨fd, F⟩ := G.d_law
  exact fok_of F G.g_law sc_law rfl (FunD.bindsN (ps := ["script"]) F fun _ _ _ _ _ _ us hl => match us, hl with | [_], _ => rfl) (w_law G)
end Z

set_option Elab.async false
set_option linter.all false
set_option maxRecDepth 100000
set_option maxHeartbeats 0
namespace Z
open PySem PySem.Spec PyProof.Rows L2 Y
def dd_is_integer : He.DefD := ⟨("is_integer", none), "is_integer", "is_integer", defArgs (top 17), defBody (top 17), defScope (top 17), [], []⟩
def dd_is_between : He.DefD := ⟨("is_between", none), "is_between", "is_between", defArgs (top 18), defBody (top 18), defScope (top 18), [], []⟩
def dd_is_name : He.DefD := ⟨("is_name", none), "is_name", "is_name", defArgs (top 19), defBody (top 19), defScope (top 19), [], []⟩
def dd_inner_of : He.DefD := ⟨("inner_of", none), "inner_of", "inner_of", defArgs (top 20), defBody (top 20), defScope (top 20), [], []⟩
def dd_is_leaf_right : He.DefD := ⟨("is_leaf_right", none), "is_leaf_right", "is_leaf_right", defArgs (top 21), defBody (top 21), defScope (top 21), [], []⟩
def dd_is_expression_of : He.DefD := ⟨("is_expression_of", none), "is_expression_of", "is_expression_of", defArgs (top 22), defBody (top 22), defScope (top 22), [], []⟩
def dd_names_in : He.DefD := ⟨("names_in", none), "names_in", "names_in", defArgs (top 23), defBody (top 23), defScope (top 23), [], []⟩
def dd_are_unlike : He.DefD := ⟨("are_unlike", none), "are_unlike", "are_unlike", defArgs (top 35), defBody (top 35), defScope (top 35), [], []⟩
def dd_is_wire : He.DefD := ⟨("is_wire", none), "is_wire", "is_wire", defArgs (top 36), defBody (top 36), defScope (top 36), [], []⟩
def dd_blocks_in : He.DefD := ⟨("blocks_in", none), "blocks_in", "blocks_in", defArgs (top 37), defBody (top 37), defScope (top 37), [], []⟩
def dd_is_statement : He.DefD := ⟨("is_statement", none), "is_statement", "is_statement", defArgs (top 38), defBody (top 38), defScope (top 38), [], []⟩
def dd_is_block : He.DefD := ⟨("is_block", none), "is_block", "is_block", defArgs (top 39), defBody (top 39), defScope (top 39), [], []⟩
def dd_is_help : He.DefD := ⟨("is_help", none), "is_help", "is_help", defArgs (top 40), defBody (top 40), defScope (top 40), [], []⟩
def dd_is_person : He.DefD := ⟨("is_person", none), "is_person", "is_person", defArgs (top 41), defBody (top 41), defScope (top 41), [], []⟩
def dd_has_form : He.DefD := ⟨("has_form", none), "has_form", "has_form", defArgs (top 42), defBody (top 42), defScope (top 42), [], []⟩
def dd_statements_in : He.DefD := ⟨("statements_in", none), "statements_in", "statements_in", defArgs (top 43), defBody (top 43), defScope (top 43), [], []⟩
def dd_whole_blocks : He.DefD := ⟨("whole_blocks", none), "whole_blocks", "whole_blocks", defArgs (top 44), defBody (top 44), defScope (top 44), [], []⟩
def dd_calls_of : He.DefD := ⟨("calls_of", none), "calls_of", "calls_of", defArgs (top 45), defBody (top 45), defScope (top 45), [], []⟩
def dd_help_order : He.DefD := ⟨("help_order", none), "help_order", "help_order", defArgs (top 46), defBody (top 46), defScope (top 46), [], []⟩
def dd_block_weight : He.DefD := ⟨("block_weight", none), "block_weight", "block_weight", defArgs (top 47), defBody (top 47), defScope (top 47), [], []⟩
def dd_person_weight : He.DefD := ⟨("person_weight", none), "person_weight", "person_weight", defArgs (top 48), defBody (top 48), defScope (top 48), [], []⟩
def dd_wire_fault : He.DefD := ⟨("wire_fault", none), "wire_fault", "wire_fault", defArgs (top 49), defBody (top 49), defScope (top 49), [], []⟩
def dd_expressions_in : He.DefD := ⟨("expressions_in", none), "expressions_in", "expressions_in", defArgs (top 56), defBody (top 56), defScope (top 56), [], []⟩
def dd_person_names : He.DefD := ⟨("person_names", none), "person_names", "person_names", defArgs (top 57), defBody (top 57), defScope (top 57), [], []⟩
def dd_person_fault : He.DefD := ⟨("person_fault", none), "person_fault", "person_fault", defArgs (top 50), defBody (top 50), defScope (top 50), [], []⟩
def dd_fault_of : He.DefD := ⟨("fault_of", none), "fault_of", "fault_of", defArgs (top 51), defBody (top 51), defScope (top 51), [], []⟩
def dd_is_house : He.DefD := ⟨("is_house", none), "is_house", "is_house", defArgs (top 52), defBody (top 52), defScope (top 52), [], []⟩
def dd_need_house : He.DefD := ⟨("need_house", none), "need_house", "need_house", defArgs (top 53), defBody (top 53), defScope (top 53), [], []⟩
def dd_need_person : He.DefD := ⟨("need_person", none), "need_person", "need_person", defArgs (top 54), defBody (top 54), defScope (top 54), [], []⟩
def dd_need_wire : He.DefD := ⟨("need_wire", none), "need_wire", "need_wire", defArgs (top 55), defBody (top 55), defScope (top 55), [], []⟩
def dd_are_inputs_of : He.DefD := ⟨("are_inputs_of", none), "are_inputs_of", "are_inputs_of", defArgs (top 61), defBody (top 61), defScope (top 61), [], []⟩
def dd_need_inputs : He.DefD := ⟨("need_inputs", none), "need_inputs", "need_inputs", defArgs (top 62), defBody (top 62), defScope (top 62), [], []⟩
def dd_spots : He.DefD := ⟨("spots", none), "spots", "spots", defArgs (top 79), defBody (top 79), defScope (top 79), [], []⟩
def dd_Edit___init__ : He.DefD := ⟨("Edit", some "__init__"), "__init__", "Edit.__init__", defArgs (meth 80 0), defBody (meth 80 0), defScope (meth 80 0), [], []⟩
def dd_Edit_block : He.DefD := ⟨("Edit", some "block"), "block", "Edit.block", defArgs (meth 80 1), defBody (meth 80 1), defScope (meth 80 1), [], []⟩
def dd_Edit_person : He.DefD := ⟨("Edit", some "person"), "person", "Edit.person", defArgs (meth 80 2), defBody (meth 80 2), defScope (meth 80 2), [], []⟩
def dd_edited : He.DefD := ⟨("edited", none), "edited", "edited", defArgs (top 81), defBody (top 81), defScope (top 81), [], []⟩
def dd_Live___init__ : He.DefD := ⟨("Live", some "__init__"), "__init__", "Live.__init__", defArgs (meth 82 0), defBody (meth 82 0), defScope (meth 82 0), [], []⟩
def dd_Live_done : He.DefD := ⟨("Live", some "done"), "done", "Live.done", defArgs (meth 82 2), defBody (meth 82 2), defScope (meth 82 2), [], []⟩
def dd_Live_now : He.DefD := ⟨("Live", some "now"), "now", "Live.now", defArgs (meth 82 3), defBody (meth 82 3), defScope (meth 82 3), [], []⟩
def dd_Live_end : He.DefD := ⟨("Live", some "end"), "end", "Live.end", defArgs (meth 82 10), defBody (meth 82 10), defScope (meth 82 10), [], []⟩
def dd_Live_behaviour : He.DefD := ⟨("Live", some "behaviour"), "behaviour", "Live.behaviour", defArgs (meth 82 11), defBody (meth 82 11), defScope (meth 82 11), [], []⟩
def dd_goes_on : He.DefD := ⟨("goes_on", none), "goes_on", "goes_on", defArgs (top 83), defBody (top 83), defScope (top 83), [], []⟩
def dd_from_log : He.DefD := ⟨("from_log", none), "from_log", "from_log", defArgs (top 84), defBody (top 84), defScope (top 84), [], []⟩
def dd__law_hand : He.DefD := ⟨("_law_hand", none), "_law_hand", "_law_hand", defArgs (top 86), defBody (top 86), defScope (top 86), [], []⟩
def dd__law_draw : He.DefD := ⟨("_law_draw", none), "_law_draw", "_law_draw", defArgs (top 87), defBody (top 87), defScope (top 87), [], []⟩
def dd__law_some : He.DefD := ⟨("_law_some", none), "_law_some", "_law_some", defArgs (top 88), defBody (top 88), defScope (top 88), [], []⟩
def dd__law_kept : He.DefD := ⟨("_law_kept", none), "_law_kept", "_law_kept", defArgs (top 89), defBody (top 89), defScope (top 89), [], []⟩
def dd__law_mixed : He.DefD := ⟨("_law_mixed", none), "_law_mixed", "_law_mixed", defArgs (top 90), defBody (top 90), defScope (top 90), [], []⟩
def dd__law_expression : He.DefD := ⟨("_law_expression", none), "_law_expression", "_law_expression", defArgs (top 91), defBody (top 91), defScope (top 91), [], []⟩
def dd__law_local : He.DefD := ⟨("_law_local", none), "_law_local", "_law_local", defArgs (top 92), defBody (top 92), defScope (top 92), [], []⟩
def dd__law_message : He.DefD := ⟨("_law_message", none), "_law_message", "_law_message", defArgs (top 93), defBody (top 93), defScope (top 93), [], []⟩
def dd__law_house : He.DefD := ⟨("_law_house", none), "_law_house", "_law_house", defArgs (top 94), defBody (top 94), defScope (top 94), [], []⟩
def dd__law_inputs : He.DefD := ⟨("_law_inputs", none), "_law_inputs", "_law_inputs", defArgs (top 95), defBody (top 95), defScope (top 95), [], []⟩
def dd__law_roomed : He.DefD := ⟨("_law_roomed", none), "_law_roomed", "_law_roomed", defArgs (top 96), defBody (top 96), defScope (top 96), [], []⟩
def dd__law_no_house : He.DefD := ⟨("_law_no_house", none), "_law_no_house", "_law_no_house", defArgs (top 97), defBody (top 97), defScope (top 97), [], []⟩
def dd__law_no_inputs : He.DefD := ⟨("_law_no_inputs", none), "_law_no_inputs", "_law_no_inputs", defArgs (top 98), defBody (top 98), defScope (top 98), [], []⟩
def dd__law_outcome : He.DefD := ⟨("_law_outcome", none), "_law_outcome", "_law_outcome", defArgs (top 99), defBody (top 99), defScope (top 99), [], []⟩
def dd_law : He.DefD := ⟨("law", none), "law", "law", defArgs (top 100), defBody (top 100), defScope (top 100), [], []⟩
def dd_BadLog___init__ : He.DefD := ⟨("BadLog", some "__init__"), "__init__", "BadLog.__init__", defArgs (meth 9 0), defBody (meth 9 0), defScope (meth 9 0), [], []⟩
def fn0 : List He.DefD := [dd_is_integer, dd_is_between, dd_is_name, dd_inner_of, dd_is_leaf_right, dd_is_expression_of, dd_names_in, dd_are_unlike, dd_is_wire, dd_blocks_in, dd_is_statement, dd_is_block, dd_is_help, dd_is_person, dd_has_form, dd_statements_in, dd_whole_blocks, dd_calls_of, dd_help_order, dd_block_weight]
def fn1 : List He.DefD := [dd_person_weight, dd_wire_fault, dd_expressions_in, dd_person_names, dd_person_fault, dd_fault_of, dd_is_house, dd_need_house, dd_need_person, dd_need_wire, dd_are_inputs_of, dd_need_inputs, dd_spots, dd_Edit___init__, dd_Edit_block, dd_Edit_person, dd_edited, dd_Live___init__, dd_Live_done, dd_Live_now]
def fn2 : List He.DefD := [dd_Live_end, dd_Live_behaviour, dd_goes_on, dd_from_log, dd__law_hand, dd__law_draw, dd__law_some, dd__law_kept, dd__law_mixed, dd__law_expression, dd__law_local, dd__law_message, dd__law_house, dd__law_inputs, dd__law_roomed, dd__law_no_house, dd__law_no_inputs, dd__law_outcome, dd_law, dd_BadLog___init__]
abbrev fn : List He.DefD := fn0 ++ fn1 ++ fn2
def fa0 : List He.Fa := [.cls "Edit", .cls "Live", .glo "MANY", .glo "STATEMENTS", .exc "NoHouse", .glo "NoHouse", .exc "NoInputs", .glo "NoInputs", .exc "NoPerson", .glo "NoPerson", .exc "NoSpot", .glo "NoSpot", .exc "NoWire", .glo "NoWire", .glo "BadLog", .glo "HouseError", .free "abs", .free "all", .free "bool", .free "enumerate"]
def fa1 : List He.Fa := [.free "int", .free "isinstance", .free "len", .free "list", .free "max", .free "min", .free "range", .free "sorted", .free "str", .free "sum", .free "tuple", .free "zip", .glo "Edit", .glo "Live", .glo "_law_draw", .glo "_law_expression", .glo "_law_hand", .glo "_law_house", .glo "_law_inputs", .glo "_law_kept"]
def fa2 : List He.Fa := [.glo "_law_local", .glo "_law_message", .glo "_law_mixed", .glo "_law_no_house", .glo "_law_no_inputs", .glo "_law_outcome", .glo "_law_roomed", .glo "_law_some", .glo "are_inputs_of", .glo "are_unlike", .glo "block_weight", .glo "blocks_in", .glo "calls_of", .glo "edited", .glo "expressions_in", .glo "fault_of", .glo "from_log", .glo "goes_on", .glo "has_form", .glo "help_order"]
def fa3 : List He.Fa := [.glo "inner_of", .glo "is_between", .glo "is_block", .glo "is_expression_of", .glo "is_help", .glo "is_house", .glo "is_integer", .glo "is_leaf_right", .glo "is_name", .glo "is_person", .glo "is_statement", .glo "is_wire", .glo "law", .glo "names_in", .glo "need_house", .glo "need_inputs", .glo "need_person", .glo "need_wire", .glo "person_fault", .glo "person_names"]
def fa4 : List He.Fa := [.glo "person_weight", .glo "spots", .glo "statements_in", .glo "whole_blocks", .glo "wire_fault", .int "MOST_DEPTH" 8, .int "MOST_INPUTS" 4, .int "MOST_LONG" 60, .int "MOST_MODULUS" 16, .int "MOST_NESTED" 6, .int "MOST_PERSONS" 6, .int "MOST_ROOM" 9, .int "MOST_WEIGHT" 5000, .int "MOST_WIRES" 12, .meth "Edit" "block", .meth "Edit" "person", .meth "Live" "behaviour", .meth "Live" "done", .meth "Live" "end", .meth "Live" "now"]
def fa5 : List He.Fa := [.mkr "Edit", .mkr "Live", .noat "Edit" "at", .noat "Edit" "deed", .noat "Edit" "met", .noat "Edit" "statement", .noat "Live" "books", .noat "Live" "deeds", .noat "Live" "houses", .noat "Live" "undone", .str "LETTERS" "abcdefghijklmnopqrstuvwxyz", .glo "SIGNS", .glo "WORDS", .noat "BadLog" "at", .meth "BadLog" "__init__"]
abbrev fa : List He.Fa := fa0 ++ fa1 ++ fa2 ++ fa3 ++ fa4 ++ fa5
def ts : List He.Tab := [((fun K => He.ga K "STATEMENTS"), tab_STATEMENTS.map (·.1)), ((fun K => He.ga K "MANY"), tab_MANY.map (·.1))]
def ex (K : PySem.W.Frag) : Bool := (He.tupB K "SIGNS" (tup_SIGNS.map He.Dv.str) && (He.tupB K "WORDS" (tup_WORDS.map He.Dv.str) && (He.valsB K (He.ga K "STATEMENTS") (tab_STATEMENTS.map fun q => (q.1, iv q.2)) && (He.valsB K (He.ga K "MANY") (tab_MANY.map fun q => (q.1, iv q.2)) && (oexB K (He.ga K "BadLog") && (xfB K (He.ga K "BadLog") && (subT.all fun q => decide (PySem.W.exmOne K (.ref (He.ga K q.1.1)) (.ref (He.ga K q.1.2)) = some q.2))))))))
abbrev Rw : PySem.W.OpenRow := PySem.W.OpenLaw.row PySem.Challenge.rw_sentandheard_k78_logs_of_live_houses
abbrev qv : Program := PySem.W.view Rw.prog [100]
def nm0 : List Str := ["_wall", "HouseError", "NoHouse", "NoPerson", "NoWire", "NoInputs", "NoSpot", "TooMany", "BadLog", "MOST_MODULUS", "MOST_DEPTH", "SIGNS", "LETTERS", "HEADS", "WORDS", "is_integer", "is_between", "is_name", "inner_of", "is_leaf_right"]
def nm1 : List Str := ["is_expression_of", "names_in", "work", "worth_of", "MOST_WIRES", "MOST_PERSONS", "MOST_INPUTS", "MOST_ROOM", "MOST_NESTED", "MOST_LONG", "MOST_WEIGHT", "STATEMENTS", "are_unlike", "is_wire", "blocks_in", "is_statement", "is_block", "is_help", "is_person", "has_form"]
def nm2 : List Str := ["statements_in", "whole_blocks", "calls_of", "help_order", "block_weight", "person_weight", "wire_fault", "person_fault", "fault_of", "is_house", "need_house", "need_person", "need_wire", "expressions_in", "person_names", "ENDED", "Part", "are_inputs_of", "need_inputs", "Yard"]
def nm3 : List Str := ["yard_of", "yard_with", "end_of", "MOST_NODES", "rows_of", "own_inputs", "Book", "Deeds", "content_of", "book_of", "behaviour_of", "MANY", "spots", "Edit", "edited", "Live", "goes_on", "from_log", "_law_hand", "_law_draw"]
def nm4 : List Str := ["_law_some", "_law_kept", "_law_mixed", "_law_expression", "_law_local", "_law_message", "_law_house", "_law_inputs", "_law_roomed", "_law_no_house", "_law_no_inputs", "_law_outcome"]
abbrev nms : List Str := nm0 ++ nm1 ++ nm2 ++ nm3 ++ nm4
abbrev hk : PySem.W.Hook := hookS fa fn ts ex
def ob (s : PySem.W.SharedT) : AlS := obsS fa fn ts ex (HandSHeadRun.getT s)
theorem ob_eq (s : PySem.W.SharedT) : ob s = hk.obs s.abs := obsS_eq (HandSHeadRun.getT_eq s)
end Z

set_option Elab.async false
set_option linter.all false
set_option maxRecDepth 100000
set_option maxHeartbeats 0
namespace Z
open PySem PySem.Spec PyProof.Rows L2 Y
theorem runF (w : World) : HandSHeadRun.RunEq Rw qv hk ob 20000 nms (w.withFollow "special-get-raises" false) := by
  intro os
  kernel_rfl
theorem runT (w : World) : HandSHeadRun.RunEq Rw qv hk ob 20000 nms (w.withFollow "special-get-raises" true) := by
  intro os
  kernel_rfl
end Z

set_option Elab.async false
set_option linter.all false
set_option maxRecDepth 100000
set_option maxHeartbeats 0
namespace Z
open PySem PySem.Spec PyProof.Rows L2 Y
theorem tabW {fa : List He.Fa} {fn : List He.DefD} {ts : List He.Tab} {w : World} {K : PySem.W.Frag} (c : He.SaysT fa fn ts w K) (i : Nat) {t : He.Tab} (h : ts[i]? = some t) : He.dicW K (t.1 K) = some (He.keysIn w.params t.2) := by
  have e : ts.map (fun t => He.dicW K (t.1 K)) = ts.map fun t => some (He.keysIn w.params t.2) := congrArg (fun z : He.AlT => z.2) c
  have e2 : (ts.map fun t => He.dicW K (t.1 K))[i]? = (ts.map fun t => some (He.keysIn w.params t.2))[i]? := by rw [e]
  rw [List.getElem?_map, List.getElem?_map, h] at e2
  exact Option.some.inj e2
theorem sub_of {K : PySem.W.Frag} (h : ∀ q ∈ subT, decide (PySem.W.exmOne K (.ref (He.ga K q.1.1)) (.ref (He.ga K q.1.2)) = some q.2) = true) : ∀ c C b, subX c C = some b → PySem.W.exmOne K (.ref (He.ga K c)) (.ref (He.ga K C)) = some b := fun c C b hb => by
  unfold subX at hb
  have hm : ((c, C), b) ∈ subT := by
    generalize subT = l at hb
    clear h
    induction l with
    | nil => cases hb
    | cons q r ih =>
      rw [List.lookup_cons] at hb
      split at hb
      · rename_i hq
        cases hb
        rw [beq_iff_eq.mp hq]
        exact List.mem_cons_self ..
      · exact List.mem_cons_of_mem _ (ih hb)
  exact of_decide_eq_true (h _ hm)
theorem badlog {P : Program} {w : World} {K : PySem.W.Frag} {mg : Str → Option Value} {base : Heap} (cd : He.SaysD fa fn K) (ox : OexC K (He.ga K "BadLog")) (hno : NoAttr K (He.ga K "BadLog") "at") (hm : Meth K (He.ga K "BadLog") "__init__" (He.ma K (He.ga K "BadLog") "__init__")) (hg : mg "BadLog" = some (.ref (He.ga K "BadLog"))) :
    XO P w K mg base "BadLog" "at" 1 := by
  obtain ⟨fd, F⟩ := cd.def_ 59 (d := dd_BadLog___init__) rfl
  refine ⟨_, fd, ["self", "at"], ox, hm.at_, beq_iff_eq.mp hm.fn, hno, ?_, hg, FunD.bindsN (ps := ["self", "at"]) F fun _ _ _ _ _ _ us hl => match us, hl with | [_, _], _ => rfl⟩
  refine F.ok (N := ["self", "at"]) (C8.fnScope_by (by decide +kernel)) (fun vs H Q E h => ?_) fun cdv A outer s H vs Q E hr h => ⟨tOst K "at" (tVar 0) (tVar 1), ?_, body1 h⟩
  · obtain ⟨a, C, v, rfl, _⟩ := h
    rfl
  · exact ps1 rfl rfl (.inl rfl) (.inl rfl) (by decide) (by decide) (by decide) (by decide) rfl
theorem facts {P : Program} {w : World} {K : PySem.W.Frag} {h : Heap} {mg : Str → Option Value} {base : Heap} (X : K.In h) (G : h.Ns mainGlobals mg) (c : SaysS fa fn ts ex w K) : Fx P w K mg base := by
  have cd := c.t.d
  have e := c.more
  unfold ex at e
  simp only [Bool.and_eq_true] at e
  obtain ⟨e0, e1, e2, e3, e4, e5, e6⟩ := e
  exact {
    c_Edit := He.cls_ok (cd.fact 0 (f := .cls "Edit") rfl)
    c_Live := He.cls_ok (cd.fact 1 (f := .cls "Live") rfl)
    d_MANY := kt_of (He.glo_ok X G (cd.fact 2 (f := .glo "MANY") rfl)) (tabW c.t 1 rfl) e3
    d_STATEMENTS := kt_of (He.glo_ok X G (cd.fact 3 (f := .glo "STATEMENTS") rfl)) (tabW c.t 0 rfl) e2
    x_NoHouse := (fun z => ⟨z.1, He.glo_ok X G (cd.fact 5 (f := .glo "NoHouse") rfl), z.2.1, fun Y hY => by subst hY; exact raises_own z.2.2.1 z.2.2.2⟩) (He.exc_ok (cd.fact 4 (f := .exc "NoHouse") rfl))
    x_NoInputs := (fun z => ⟨z.1, He.glo_ok X G (cd.fact 7 (f := .glo "NoInputs") rfl), z.2.1, fun Y hY => by subst hY; exact raises_own z.2.2.1 z.2.2.2⟩) (He.exc_ok (cd.fact 6 (f := .exc "NoInputs") rfl))
    x_NoPerson := (fun z => ⟨z.1, He.glo_ok X G (cd.fact 9 (f := .glo "NoPerson") rfl), z.2.1, fun Y hY => by subst hY; exact raises_own z.2.2.1 z.2.2.2⟩) (He.exc_ok (cd.fact 8 (f := .exc "NoPerson") rfl))
    x_NoSpot := (fun z => ⟨z.1, He.glo_ok X G (cd.fact 11 (f := .glo "NoSpot") rfl), z.2.1, fun Y hY => by subst hY; exact raises_own z.2.2.1 z.2.2.2⟩) (He.exc_ok (cd.fact 10 (f := .exc "NoSpot") rfl))
    x_NoWire := (fun z => ⟨z.1, He.glo_ok X G (cd.fact 13 (f := .glo "NoWire") rfl), z.2.1, fun Y hY => by subst hY; exact raises_own z.2.2.1 z.2.2.2⟩) (He.exc_ok (cd.fact 12 (f := .exc "NoWire") rfl))
    g_BadLog := He.glo_ok X G (cd.fact 14 (f := .glo "BadLog") rfl)
    g_HouseError := He.glo_ok X G (cd.fact 15 (f := .glo "HouseError") rfl)
    g_NoHouse := He.glo_ok X G (cd.fact 5 (f := .glo "NoHouse") rfl)
    g_NoInputs := He.glo_ok X G (cd.fact 7 (f := .glo "NoInputs") rfl)
    g_NoPerson := He.glo_ok X G (cd.fact 9 (f := .glo "NoPerson") rfl)
    f_abs := He.free_ok X G (cd.fact 16 (f := .free "abs") rfl)
    f_all := He.free_ok X G (cd.fact 17 (f := .free "all") rfl)
    f_bool := He.free_ok X G (cd.fact 18 (f := .free "bool") rfl)
    f_enumerate := He.free_ok X G (cd.fact 19 (f := .free "enumerate") rfl)
    f_int := He.free_ok X G (cd.fact 20 (f := .free "int") rfl)
    f_isinstance := He.free_ok X G (cd.fact 21 (f := .free "isinstance") rfl)
    f_len := He.free_ok X G (cd.fact 22 (f := .free "len") rfl)
    f_list := He.free_ok X G (cd.fact 23 (f := .free "list") rfl)
    f_max := He.free_ok X G (cd.fact 24 (f := .free "max") rfl)
    f_min := He.free_ok X G (cd.fact 25 (f := .free "min") rfl)
    f_range := He.free_ok X G (cd.fact 26 (f := .free "range") rfl)
    f_sorted := He.free_ok X G (cd.fact 27 (f := .free "sorted") rfl)
    f_str := He.free_ok X G (cd.fact 28 (f := .free "str") rfl)
    f_sum := He.free_ok X G (cd.fact 29 (f := .free "sum") rfl)
    f_tuple := He.free_ok X G (cd.fact 30 (f := .free "tuple") rfl)
    f_zip := He.free_ok X G (cd.fact 31 (f := .free "zip") rfl)
    g_Edit := He.glo_ok X G (cd.fact 32 (f := .glo "Edit") rfl)
    g_Live := He.glo_ok X G (cd.fact 33 (f := .glo "Live") rfl)
    g__law_draw := He.glo_ok X G (cd.fact 34 (f := .glo "_law_draw") rfl)
    g__law_expression := He.glo_ok X G (cd.fact 35 (f := .glo "_law_expression") rfl)
    g__law_hand := He.glo_ok X G (cd.fact 36 (f := .glo "_law_hand") rfl)
    g__law_house := He.glo_ok X G (cd.fact 37 (f := .glo "_law_house") rfl)
    g__law_inputs := He.glo_ok X G (cd.fact 38 (f := .glo "_law_inputs") rfl)
    g__law_kept := He.glo_ok X G (cd.fact 39 (f := .glo "_law_kept") rfl)
    g__law_local := He.glo_ok X G (cd.fact 40 (f := .glo "_law_local") rfl)
    g__law_message := He.glo_ok X G (cd.fact 41 (f := .glo "_law_message") rfl)
    g__law_mixed := He.glo_ok X G (cd.fact 42 (f := .glo "_law_mixed") rfl)
    g__law_no_house := He.glo_ok X G (cd.fact 43 (f := .glo "_law_no_house") rfl)
    g__law_no_inputs := He.glo_ok X G (cd.fact 44 (f := .glo "_law_no_inputs") rfl)
    g__law_outcome := He.glo_ok X G (cd.fact 45 (f := .glo "_law_outcome") rfl)
    g__law_roomed := He.glo_ok X G (cd.fact 46 (f := .glo "_law_roomed") rfl)
    g__law_some := He.glo_ok X G (cd.fact 47 (f := .glo "_law_some") rfl)
    g_are_inputs_of := He.glo_ok X G (cd.fact 48 (f := .glo "are_inputs_of") rfl)
    g_are_unlike := He.glo_ok X G (cd.fact 49 (f := .glo "are_unlike") rfl)
    g_block_weight := He.glo_ok X G (cd.fact 50 (f := .glo "block_weight") rfl)
    g_blocks_in := He.glo_ok X G (cd.fact 51 (f := .glo "blocks_in") rfl)
    g_calls_of := He.glo_ok X G (cd.fact 52 (f := .glo "calls_of") rfl)
    g_edited := He.glo_ok X G (cd.fact 53 (f := .glo "edited") rfl)
    g_expressions_in := He.glo_ok X G (cd.fact 54 (f := .glo "expressions_in") rfl)
    g_fault_of := He.glo_ok X G (cd.fact 55 (f := .glo "fault_of") rfl)
    g_from_log := He.glo_ok X G (cd.fact 56 (f := .glo "from_log") rfl)
    g_goes_on := He.glo_ok X G (cd.fact 57 (f := .glo "goes_on") rfl)
    g_has_form := He.glo_ok X G (cd.fact 58 (f := .glo "has_form") rfl)
    g_help_order := He.glo_ok X G (cd.fact 59 (f := .glo "help_order") rfl)
    g_inner_of := He.glo_ok X G (cd.fact 60 (f := .glo "inner_of") rfl)
    g_is_between := He.glo_ok X G (cd.fact 61 (f := .glo "is_between") rfl)
    g_is_block := He.glo_ok X G (cd.fact 62 (f := .glo "is_block") rfl)
    g_is_expression_of := He.glo_ok X G (cd.fact 63 (f := .glo "is_expression_of") rfl)
    g_is_help := He.glo_ok X G (cd.fact 64 (f := .glo "is_help") rfl)
    g_is_house := He.glo_ok X G (cd.fact 65 (f := .glo "is_house") rfl)
    g_is_integer := He.glo_ok X G (cd.fact 66 (f := .glo "is_integer") rfl)
    g_is_leaf_right := He.glo_ok X G (cd.fact 67 (f := .glo "is_leaf_right") rfl)
    g_is_name := He.glo_ok X G (cd.fact 68 (f := .glo "is_name") rfl)
    g_is_person := He.glo_ok X G (cd.fact 69 (f := .glo "is_person") rfl)
    g_is_statement := He.glo_ok X G (cd.fact 70 (f := .glo "is_statement") rfl)
    g_is_wire := He.glo_ok X G (cd.fact 71 (f := .glo "is_wire") rfl)
    g_law := He.glo_ok X G (cd.fact 72 (f := .glo "law") rfl)
    g_names_in := He.glo_ok X G (cd.fact 73 (f := .glo "names_in") rfl)
    g_need_house := He.glo_ok X G (cd.fact 74 (f := .glo "need_house") rfl)
    g_need_inputs := He.glo_ok X G (cd.fact 75 (f := .glo "need_inputs") rfl)
    g_need_person := He.glo_ok X G (cd.fact 76 (f := .glo "need_person") rfl)
    g_need_wire := He.glo_ok X G (cd.fact 77 (f := .glo "need_wire") rfl)
    g_person_fault := He.glo_ok X G (cd.fact 78 (f := .glo "person_fault") rfl)
    g_person_names := He.glo_ok X G (cd.fact 79 (f := .glo "person_names") rfl)
    g_person_weight := He.glo_ok X G (cd.fact 80 (f := .glo "person_weight") rfl)
    g_spots := He.glo_ok X G (cd.fact 81 (f := .glo "spots") rfl)
    g_statements_in := He.glo_ok X G (cd.fact 82 (f := .glo "statements_in") rfl)
    g_whole_blocks := He.glo_ok X G (cd.fact 83 (f := .glo "whole_blocks") rfl)
    g_wire_fault := He.glo_ok X G (cd.fact 84 (f := .glo "wire_fault") rfl)
    i_MOST_DEPTH := He.int_ok X G (cd.fact 85 (f := .int "MOST_DEPTH" 8) rfl)
    i_MOST_INPUTS := He.int_ok X G (cd.fact 86 (f := .int "MOST_INPUTS" 4) rfl)
    i_MOST_LONG := He.int_ok X G (cd.fact 87 (f := .int "MOST_LONG" 60) rfl)
    i_MOST_MODULUS := He.int_ok X G (cd.fact 88 (f := .int "MOST_MODULUS" 16) rfl)
    i_MOST_NESTED := He.int_ok X G (cd.fact 89 (f := .int "MOST_NESTED" 6) rfl)
    i_MOST_PERSONS := He.int_ok X G (cd.fact 90 (f := .int "MOST_PERSONS" 6) rfl)
    i_MOST_ROOM := He.int_ok X G (cd.fact 91 (f := .int "MOST_ROOM" 9) rfl)
    i_MOST_WEIGHT := He.int_ok X G (cd.fact 92 (f := .int "MOST_WEIGHT" 5000) rfl)
    i_MOST_WIRES := He.int_ok X G (cd.fact 93 (f := .int "MOST_WIRES" 12) rfl)
    m_Edit_block := He.meth_ok (cd.fact 94 (f := .meth "Edit" "block") rfl)
    m_Edit_person := He.meth_ok (cd.fact 95 (f := .meth "Edit" "person") rfl)
    m_Live_behaviour := He.meth_ok (cd.fact 96 (f := .meth "Live" "behaviour") rfl)
    m_Live_done := He.meth_ok (cd.fact 97 (f := .meth "Live" "done") rfl)
    m_Live_end := He.meth_ok (cd.fact 98 (f := .meth "Live" "end") rfl)
    m_Live_now := He.meth_ok (cd.fact 99 (f := .meth "Live" "now") rfl)
    k_Edit := He.mkr_ok (cd.fact 100 (f := .mkr "Edit") rfl)
    k_Live := He.mkr_ok (cd.fact 101 (f := .mkr "Live") rfl)
    n_Edit_at := He.noat_ok (cd.fact 102 (f := .noat "Edit" "at") rfl)
    n_Edit_deed := He.noat_ok (cd.fact 103 (f := .noat "Edit" "deed") rfl)
    n_Edit_met := He.noat_ok (cd.fact 104 (f := .noat "Edit" "met") rfl)
    n_Edit_statement := He.noat_ok (cd.fact 105 (f := .noat "Edit" "statement") rfl)
    n_Live_books := He.noat_ok (cd.fact 106 (f := .noat "Live" "books") rfl)
    n_Live_deeds := He.noat_ok (cd.fact 107 (f := .noat "Live" "deeds") rfl)
    n_Live_houses := He.noat_ok (cd.fact 108 (f := .noat "Live" "houses") rfl)
    n_Live_undone := He.noat_ok (cd.fact 109 (f := .noat "Live" "undone") rfl)
    s_LETTERS := He.str_ok X G (cd.fact 110 (f := .str "LETTERS" "abcdefghijklmnopqrstuvwxyz") rfl)
    t_SIGNS := ⟨_, He.glo_ok X G (cd.fact 111 (f := .glo "SIGNS") rfl), fun H => by have := He.tupB_ok e0 H; rwa [List.map_map] at this⟩
    t_WORDS := ⟨_, He.glo_ok X G (cd.fact 112 (f := .glo "WORDS") rfl), fun H => by have := He.tupB_ok e1 H; rwa [List.map_map] at this⟩
    xf_BadLog := xfB_ok e5
    xn_BadLog_at := He.noat_ok (cd.fact 113 (f := .noat "BadLog" "at") rfl)
    xi_BadLog := badlog cd (oexB_ok e4) (He.noat_ok (cd.fact 113 (f := .noat "BadLog" "at") rfl)) (He.meth_ok (cd.fact 114 (f := .meth "BadLog" "__init__") rfl)) (He.glo_ok X G (cd.fact 14 (f := .glo "BadLog") rfl))
    sub := sub_of (by rw [List.all_eq_true] at e6; exact e6)
    d_is_integer := cd.def_ 0 (d := dd_is_integer) rfl
    d_is_between := cd.def_ 1 (d := dd_is_between) rfl
    d_is_name := cd.def_ 2 (d := dd_is_name) rfl
    d_inner_of := cd.def_ 3 (d := dd_inner_of) rfl
    d_is_leaf_right := cd.def_ 4 (d := dd_is_leaf_right) rfl
    d_is_expression_of := cd.def_ 5 (d := dd_is_expression_of) rfl
    d_names_in := cd.def_ 6 (d := dd_names_in) rfl
    d_are_unlike := cd.def_ 7 (d := dd_are_unlike) rfl
    d_is_wire := cd.def_ 8 (d := dd_is_wire) rfl
    d_blocks_in := cd.def_ 9 (d := dd_blocks_in) rfl
    d_is_statement := cd.def_ 10 (d := dd_is_statement) rfl
    d_is_block := cd.def_ 11 (d := dd_is_block) rfl
    d_is_help := cd.def_ 12 (d := dd_is_help) rfl
    d_is_person := cd.def_ 13 (d := dd_is_person) rfl
    d_has_form := cd.def_ 14 (d := dd_has_form) rfl
    d_statements_in := cd.def_ 15 (d := dd_statements_in) rfl
    d_whole_blocks := cd.def_ 16 (d := dd_whole_blocks) rfl
    d_calls_of := cd.def_ 17 (d := dd_calls_of) rfl
    d_help_order := cd.def_ 18 (d := dd_help_order) rfl
    d_block_weight := cd.def_ 19 (d := dd_block_weight) rfl
    d_person_weight := cd.def_ 20 (d := dd_person_weight) rfl
    d_wire_fault := cd.def_ 21 (d := dd_wire_fault) rfl
    d_expressions_in := cd.def_ 22 (d := dd_expressions_in) rfl
    d_person_names := cd.def_ 23 (d := dd_person_names) rfl
    d_person_fault := cd.def_ 24 (d := dd_person_fault) rfl
    d_fault_of := cd.def_ 25 (d := dd_fault_of) rfl
    d_is_house := cd.def_ 26 (d := dd_is_house) rfl
    d_need_house := cd.def_ 27 (d := dd_need_house) rfl
    d_need_person := cd.def_ 28 (d := dd_need_person) rfl
    d_need_wire := cd.def_ 29 (d := dd_need_wire) rfl
    d_are_inputs_of := cd.def_ 30 (d := dd_are_inputs_of) rfl
    d_need_inputs := cd.def_ 31 (d := dd_need_inputs) rfl
    d_spots := cd.def_ 32 (d := dd_spots) rfl
    d_Edit___init__ := cd.def_ 33 (d := dd_Edit___init__) rfl
    d_Edit_block := cd.def_ 34 (d := dd_Edit_block) rfl
    d_Edit_person := cd.def_ 35 (d := dd_Edit_person) rfl
    d_edited := cd.def_ 36 (d := dd_edited) rfl
    d_Live___init__ := cd.def_ 37 (d := dd_Live___init__) rfl
    d_Live_done := cd.def_ 38 (d := dd_Live_done) rfl
    d_Live_now := cd.def_ 39 (d := dd_Live_now) rfl
    d_Live_end := cd.def_ 40 (d := dd_Live_end) rfl
    d_Live_behaviour := cd.def_ 41 (d := dd_Live_behaviour) rfl
    d_goes_on := cd.def_ 42 (d := dd_goes_on) rfl
    d_from_log := cd.def_ 43 (d := dd_from_log) rfl
    d__law_hand := cd.def_ 44 (d := dd__law_hand) rfl
    d__law_draw := cd.def_ 45 (d := dd__law_draw) rfl
    d__law_some := cd.def_ 46 (d := dd__law_some) rfl
    d__law_kept := cd.def_ 47 (d := dd__law_kept) rfl
    d__law_mixed := cd.def_ 48 (d := dd__law_mixed) rfl
    d__law_expression := cd.def_ 49 (d := dd__law_expression) rfl
    d__law_local := cd.def_ 50 (d := dd__law_local) rfl
    d__law_message := cd.def_ 51 (d := dd__law_message) rfl
    d__law_house := cd.def_ 52 (d := dd__law_house) rfl
    d__law_inputs := cd.def_ 53 (d := dd__law_inputs) rfl
    d__law_roomed := cd.def_ 54 (d := dd__law_roomed) rfl
    d__law_no_house := cd.def_ 55 (d := dd__law_no_house) rfl
    d__law_no_inputs := cd.def_ 56 (d := dd__law_no_inputs) rfl
    d__law_outcome := cd.def_ 57 (d := dd__law_outcome) rfl
    d_law := cd.def_ 58 (d := dd_law) rfl
  }
end Z

set_option Elab.async false
set_option linter.all false
set_option maxRecDepth 100000
namespace P
open PySem PySem.Spec PyProof.Rows L2 Y
/-! ### what a denotation leads to -/
def wp {α : Type} (r : Rs α) (Q : α → AH → Prop) (E : Xn → AH → Prop) : Prop := match r with
  | .ok a S => Q a S
  | .ex x S => E x S
  | .bad => False
def NE : Xn → AH → Prop := fun _ _ => False
section
variable {α β : Type} {Q : α → AH → Prop} {E : Xn → AH → Prop} {S S' : AH} {env : En}
theorem wp_congr {r r' : Rs α} (h : r = r') : wp r Q E = wp r' Q E := by rw [h]
theorem wp_mono {r : Rs α} {Q' : α → AH → Prop} {E' : Xn → AH → Prop} (h : wp r Q E) (hq : ∀ a S, Q a S → Q' a S) (he : ∀ x S, E x S → E' x S) : wp r Q' E' := by
  cases r with
  | ok a S => exact hq _ _ h
  | ex x S => exact he _ _ h
  | bad => exact h
theorem wp_ok {a : α} : wp (.ok a S) Q E = Q a S := rfl
theorem wp_ex {x : Xn} : wp (.ex x S) Q E = E x S := rfl
theorem wp_bind {r : Rs β} {k : β → AH → Rs α} : wp (r.bind k) Q E = wp r (fun b S1 => wp (k b S1) Q E) E := by cases r <;> rfl
def optP (o : Option (α × AH)) (Q : α → AH → Prop) : Prop := match o with
  | some (a, S) => Q a S
  | none => False
theorem optP_congr {o o' : Option (α × AH)} (h : o = o') : optP o Q = optP o' Q := by rw [h]
theorem optP_some {a : α} : optP (some (a, S)) Q = Q a S := rfl
theorem wp_lf {o : Option (α × AH)} : wp (lf o) Q E = optP o Q := by
  cases o with
  | none => rfl
  | some p => rfl
def optS (o : Option AH) (Q : AH → Prop) : Prop := match o with
  | some S => Q S
  | none => False
theorem optS_congr {o o' : Option AH} {Q : AH → Prop} (h : o = o') : optS o Q = optS o' Q := by rw [h]
theorem optS_some {Q : AH → Prop} : optS (some S) Q = Q S := rfl
theorem wp_lfS {o : Option AH} {Q : Unit → AH → Prop} : wp (lfS o) Q E = optS o (Q ()) := by cases o <;> rfl
def optI (o : Option AIt) (Q : AIt → Prop) : Prop := match o with
  | some A => Q A
  | none => False
theorem optI_congr {o o' : Option AIt} {Q : AIt → Prop} (h : o = o') : optI o Q = optI o' Q := by rw [h]
theorem optI_some {A : AIt} {Q : AIt → Prop} : optI (some A) Q = Q A := rfl
theorem wp_lfI {o : Option AIt} {Q : AIt → AH → Prop} : wp (lfI o S) Q E = optI o fun A => Q A S := by cases o <;> rfl
/-- a slot -/
def optE (o : Option (Option D)) (k : D → Prop) : Prop := match o with
  | some (some d) => k d
  | _ => False
theorem optE_congr {o o' : Option (Option D)} {k : D → Prop} (h : o = o') : optE o k = optE o' k := by rw [h]
theorem optE_some {d : D} {k : D → Prop} : optE (some (some d)) k = k d := rfl
/-- a truth value -/
def isB (d : D) (k : Bool → Prop) : Prop := match d with
  | .bl b => k b
  | _ => False
theorem isB_congr {d d' : D} {k : Bool → Prop} (h : d = d') : isB d k = isB d' k := by rw [h]
theorem isB_bl {b : Bool} {k : Bool → Prop} : isB (.bl b) k = k b := rfl
/-- a choice: neither branch is looked at before the condition stands -/
def ch (b : Bool) (p q : Prop) : Prop := if b = true then p else q
theorem ch_congr {b b' : Bool} {p q : Prop} (h : b = b') : ch b p q = ch b' p q := by rw [h]
theorem ch_t {p q : Prop} : ch true p q = p := if_pos rfl
theorem ch_f {p q : Prop} : ch false p q = q := if_neg (by simp)
theorem ch_i {b : Bool} {p q : Prop} (h1 : b = true → p) (h2 : b = false → q) : ch b p q := by cases b <;> simp only [ch_t, ch_f] <;> first | exact h1 rfl | exact h2 rfl
end
section
variable {Q : D → AH → Prop} {QB : Bool → AH → Prop} {QA : List D → AH → Prop} {QF : Fl → AH → Prop} {E : Xn → AH → Prop} {S : AH} {env : En} {f g h : Ev} {ft gt : Et} {fa : Ea} {fs gs : Es}
theorem wp_eVar {i : Nat} : wp (eVar i env S) Q E = optE env[i]? fun d => Q d S := by
  unfold eVar
  split
  · rename_i h; rw [h]; rfl
  · rename_i h
    cases q : env[i]? with
    | none => rfl
    | some o => cases o with
      | none => rfl
      | some d => exact (h d q).elim
theorem wp_eC {d : D} : wp (eC d env S) Q E = Q d S := rfl
theorem wp_e2 {o : Op2} : wp (e2 o f g env S) Q E = wp (f env S) (fun d S1 => wp (g env S1) (fun e S2 => optP (o d e S2) Q) E) E := by
  simp only [e2, wp_bind, wp_lf]
theorem wp_e1 {o : Op1} : wp (e1 o f env S) Q E = wp (f env S) (fun d S1 => optP (o d S1) Q) E := by
  simp only [e1, wp_bind, wp_lf]
theorem wp_asB : wp (asB f env S) QB E = wp (f env S) (fun d S1 => isB d fun b => QB b S1) E := by
  unfold asB
  rw [wp_bind]
  congr 1
  funext d S1
  cases d <;> rfl
theorem wp_tAnd : wp (tAnd' ft gt env S) QB E = wp (ft env S) (fun k S1 => ch k (wp (gt env S1) QB E) (QB false S1)) E := by
  unfold tAnd'
  rw [wp_bind]
  congr 1
  funext d S1
  cases d <;> rfl
theorem wp_tOr : wp (tOr' ft gt env S) QB E = wp (ft env S) (fun k S1 => ch k (QB true S1) (wp (gt env S1) QB E)) E := by
  unfold tOr'
  rw [wp_bind]
  congr 1
  funext d S1
  cases d <;> rfl
theorem wp_tNot : wp (tNot' ft env S) QB E = wp (ft env S) (fun k S1 => QB (!k) S1) E := by
  unfold tNot'
  rw [wp_bind]
  rfl
theorem wp_eAnd : wp (eAnd f g env S) Q E = wp (f env S) (fun d S1 => isB d fun k => ch k (wp (g env S1) Q E) (Q (.bl false) S1)) E := by
  unfold eAnd
  rw [wp_bind]
  congr 1
  funext d S1
  cases d <;> first | rfl | (rename_i b; cases b <;> rfl)
theorem wp_eOr : wp (eOr f g env S) Q E = wp (f env S) (fun d S1 => isB d fun k => ch k (Q (.bl true) S1) (wp (g env S1) Q E)) E := by
  unfold eOr
  rw [wp_bind]
  congr 1
  funext d S1
  cases d <;> first | rfl | (rename_i b; cases b <;> rfl)
theorem wp_eNot : wp (eNot f env S) Q E = wp (f env S) (fun d S1 => isB d fun k => Q (.bl (!k)) S1) E := by
  unfold eNot
  rw [wp_bind]
  congr 1
  funext d S1
  cases d <;> rfl
theorem wp_eIf : wp (eIf ft f g env S) Q E = wp (ft env S) (fun k S1 => ch k (wp (f env S1) Q E) (wp (g env S1) Q E)) E := by
  unfold eIf
  rw [wp_bind]
  congr 1
  funext d S1
  cases d <;> rfl
theorem wp_eChain {o o' : Op2} {k : Ev} : wp (eChain o o' f g k env S) Q E = wp (f env S) (fun d S1 => wp (g env S1) (fun e S2 => optP (o d e S2) fun z S3 => isB z fun b => ch b (wp (k env S3) (fun u S4 => optP (o' e u S4) Q) E) (Q (.bl false) S3)) E) E := by
  unfold eChain
  simp only [wp_bind, wp_lf]
  congr 1
  funext d S1
  congr 1
  funext e S2
  congr 1
  funext z S3
  cases z <;> first | rfl | skip
  rename_i b
  cases b
  · rfl
  · simp only [wp_bind, wp_lf]
    rfl
theorem wp_aNil : wp (aNil env S) QA E = QA [] S := rfl
theorem wp_aCons : wp (aCons f fa env S) QA E = wp (f env S) (fun d S1 => wp (fa env S1) (fun ds S2 => QA (d :: ds) S2) E) E := by
  unfold aCons
  simp only [wp_bind]
  rfl
theorem wp_eTup {n : Nat} : wp (eTup n fa env S) Q E = wp (fa env S) (fun ds S1 => Q (.tup ds) S1) E := by
  unfold eTup
  rw [wp_bind]; rfl
theorem wp_eLst : wp (eLst fa env S) Q E = wp (fa env S) (fun ds S1 => Q (.obj S1.length) (S1 ++ [.lst ds])) E := by
  unfold eLst
  rw [wp_bind]; rfl
theorem wp_eCall {o : OpN} : wp (eCall o fa env S) Q E = wp (fa env S) (fun ds S1 => optP (o ds S1) Q) E := by
  unfold eCall
  simp only [wp_bind, wp_lf]
theorem wp_eMeth {o : OpM} : wp (eMeth o f fa env S) Q E = wp (f env S) (fun d S1 => isLst S1 d = true ∧ wp (fa env S1) (fun ds S2 => optP (o d ds S2) Q) E) E := by
  unfold eMeth
  rw [wp_bind]
  congr 1
  funext d S1
  by_cases h : isLst S1 d = true
  · rw [if_pos h, wp_bind]; simp only [h, true_and, wp_lf]
  · rw [if_neg h]; simp [wp, h]
theorem wp_eFn {n : Nat} {F : Fd} : wp (eFn n F fa env S) Q E = wp (fa env S) (fun ds S1 => ds.length = n ∧ wp (F ds S1) Q E) E := by
  unfold eFn
  rw [wp_bind]
  congr 1
  funext ds S1
  by_cases h : ds.length = n
  · rw [if_pos h]; simp only [h, true_and]
  · rw [if_neg h]; simp only [h, false_and]; rfl
theorem wp_eMt {C m : Str} {n : Nat} {F : Fd} : wp (eMt C m n F f fa env S) Q E = wp (f env S) (fun d S1 => hasM C m d S1 = true ∧ wp (fa env S1) (fun ds S2 => (d :: ds).length = n ∧ wp (F (d :: ds) S2) Q E) E) E := by
  unfold eMt
  rw [wp_bind]
  congr 1
  funext d S1
  by_cases h : hasM C m d S1 = true
  · rw [if_pos h, wp_bind]
    simp only [h, true_and]
    congr 1
    funext ds S2
    by_cases h : (d :: ds).length = n
    · rw [if_pos h]; simp only [h, true_and]
    · rw [if_neg h]; simp only [h, false_and]; rfl
  · rw [if_neg h]; simp [wp, h]
def isNon (d : D) (p : Prop) : Prop := match d with
  | .non => p
  | _ => False
theorem isNon_non {p : Prop} : isNon .non p = p := rfl
theorem wp_eMk {C : Str} {n : Nat} {F : Fd} : wp (eMk C n F fa env S) Q E = wp (fa env S) (fun ds S1 => ds.length + 1 = n ∧ wp (F (.obj S1.length :: ds) (S1 ++ [.ins C []])) (fun d S2 => isNon d (Q (.obj S1.length) S2)) E) E := by
  unfold eMk
  rw [wp_bind]
  congr 1
  funext ds S1
  by_cases h : ds.length + 1 = n
  · rw [if_pos h, wp_bind]
    simp only [h, true_and]
    congr 1
    funext d S2
    cases d <;> rfl
  · rw [if_neg h]; simp only [h, false_and]; rfl
theorem wp_pNone {QO : Option Int → AH → Prop} : wp (pNone env S) QO E = QO none S := rfl
def isI (d : D) (k : Int → Prop) : Prop := match d with
  | .int i => k i
  | _ => False
theorem isI_int {i : Int} {k : Int → Prop} : isI (.int i) k = k i := rfl
theorem wp_pSome {QO : Option Int → AH → Prop} : wp (pSome f env S) QO E = wp (f env S) (fun d S1 => isI d fun i => QO (some i) S1) E := by
  unfold pSome
  rw [wp_bind]
  congr 1
  funext d S1
  cases d <;> rfl
theorem wp_eSl {p q : Ep} : wp (eSl f p q env S) Q E = wp (f env S) (fun d S1 => wp (p env S1) (fun lo S2 => wp (q env S2) (fun hi S3 => optP (slO d lo hi S3) Q) E) E) E := by
  unfold eSl
  simp only [wp_bind, wp_lf]
theorem wp_eDnew : wp (eDnew env S) Q E = Q (.obj S.length) (S ++ [.dic []]) := rfl
/-! ### statements -/
theorem wp_xnB {α : Type} {r : Rs α} {k : α → AH → Rs Fl} : wp (xnB env r k) QF E = wp r (fun a S1 => wp (k a S1) QF E) (fun x S1 => QF (.xn x env) S1) := by cases r <;> rfl
theorem wp_sNil : wp (sNil env S) QF E = QF (.nx env) S := rfl
/-- behind a statement -/
def seqQ (gs : Es) (QF : Fl → AH → Prop) (E : Xn → AH → Prop) : Fl → AH → Prop := fun fl S => match fl with
  | .nx e => wp (gs e S) QF E
  | fl => QF fl S
theorem seqQ_nx {e : En} : seqQ gs QF E (.nx e) S = wp (gs e S) QF E := rfl
theorem seqQ_rt {d : D} : seqQ gs QF E (.rt d) S = QF (.rt d) S := rfl
theorem seqQ_xn {x : Xn} {e : En} : seqQ gs QF E (.xn x e) S = QF (.xn x e) S := rfl
theorem seqQ_bk {e : En} : seqQ gs QF E (.bk e) S = QF (.bk e) S := rfl
theorem seqQ_ct {e : En} : seqQ gs QF E (.ct e) S = QF (.ct e) S := rfl
theorem wp_sSeq : wp (sSeq fs gs env S) QF E = wp (fs env S) (seqQ gs QF E) E := by
  unfold sSeq
  rw [wp_bind]
  congr 1
  funext fl S1
  cases fl <;> rfl
theorem wp_sRet : wp (sRet f env S) QF E = wp (f env S) (fun d S1 => QF (.rt d) S1) (fun x S1 => QF (.xn x env) S1) := by
  unfold sRet
  rw [wp_xnB]; rfl
theorem wp_sRetN : wp (sRetN env S) QF E = QF (.rt .non) S := rfl
theorem wp_sExp : wp (sExp f env S) QF E = wp (f env S) (fun d S1 => QF (.nx env) S1) (fun x S1 => QF (.xn x env) S1) := by
  unfold sExp
  rw [wp_xnB]; rfl
theorem wp_sIf : wp (sIf ft fs gs env S) QF E = wp (ft env S) (fun k S1 => ch k (wp (fs env S1) QF E) (wp (gs env S1) QF E)) (fun x S1 => QF (.xn x env) S1) := by
  unfold sIf
  rw [wp_xnB]
  congr 1
  funext k S1
  cases k <;> rfl
theorem wp_sSet {i : Nat} : wp (sSet i f env S) QF E = wp (f env S) (fun d S1 => QF (.nx (env.set i (some d))) S1) (fun x S1 => QF (.xn x env) S1) := by
  unfold sSet
  rw [wp_xnB]; rfl
theorem wp_sSub : wp (sSub f g h env S) QF E = wp (f env S) (fun v S1 => wp (g env S1) (fun d S2 => wp (h env S2) (fun i S3 => optS (stO d i v S3) fun S4 => QF (.nx env) S4) (fun x S1 => QF (.xn x env) S1)) (fun x S1 => QF (.xn x env) S1)) (fun x S1 => QF (.xn x env) S1) := by
  unfold sSub
  simp only [wp_xnB, wp_lfS]; rfl
theorem wp_sDput : wp (sDput f g h env S) QF E = wp (f env S) (fun v S1 => wp (g env S1) (fun d S2 => wp (h env S2) (fun i S3 => optS (dputO d i v S3) fun S4 => QF (.nx env) S4) (fun x S1 => QF (.xn x env) S1)) (fun x S1 => QF (.xn x env) S1)) (fun x S1 => QF (.xn x env) S1) := by
  unfold sDput
  simp only [wp_xnB, wp_lfS]; rfl
theorem wp_sFld {C fn : Str} : wp (sFld' C fn f g env S) QF E = wp (f env S) (fun v S1 => wp (g env S1) (fun d S2 => optS (fstO C fn d v S2) fun S3 => QF (.nx env) S3) (fun x S1 => QF (.xn x env) S1)) (fun x S1 => QF (.xn x env) S1) := by
  unfold sFld'
  simp only [wp_xnB, wp_lfS]; rfl
theorem wp_sFldAug {C fn : Str} : wp (sFldAug' C fn g f env S) QF E = wp (g env S) (fun d S1 => optP (fldO C fn d S1) fun x S2 => wp (f env S2) (fun y S3 => optP (intO (fun i j => some (.int (i + j))) x y S3) fun z S4 => optS (fstO C fn d z S4) fun S5 => QF (.nx env) S5) (fun x S1 => QF (.xn x env) S1)) (fun x S1 => QF (.xn x env) S1) := by
  unfold sFldAug'
  simp only [wp_xnB, wp_lfS, wp_lf]; rfl
theorem wp_sAsg {t : Eg} : wp (sAsg f t env S) QF E = wp (f env S) (fun d S1 => optP (t d env S1) fun e S2 => QF (.nx e) S2) (fun x S1 => QF (.xn x env) S1) := by
  unfold sAsg
  simp only [wp_xnB, wp_lf]; rfl
theorem wp_sAug {i : Nat} : wp (sAug i f env S) QF E = optE env[i]? fun d => wp (f env S) (fun e S1 => optP (intO (fun i j => some (.int (i + j))) d e S1) fun z S2 => QF (.nx (env.set i (some z))) S2) (fun x S1 => QF (.xn x env) S1) := by
  unfold sAug
  split
  · rename_i h; rw [h]
    simp only [wp_xnB, wp_lf]; rfl
  · rename_i h
    cases q : env[i]? with
    | none => rfl
    | some o => cases o with
      | none => rfl
      | some d => exact (h d q).elim
def is2 (ds : List D) (k : D → D → Prop) : Prop := match ds with
  | [x, y] => k x y
  | _ => False
theorem is2_i {x y : D} {k : D → D → Prop} : is2 [x, y] k = k x y := rfl
def is3 (ds : List D) (k : D → D → D → Prop) : Prop := match ds with
  | [x, y, z] => k x y z
  | _ => False
theorem is3_i {x y z : D} {k : D → D → D → Prop} : is3 [x, y, z] k = k x y z := rfl
theorem wp_sPar {i j : Nat} : wp (sPar i j fa env S) QF E = wp (fa env S) (fun ds S1 => is2 ds fun x y => QF (.nx ((env.set i (some x)).set j (some y))) S1) (fun x S1 => QF (.xn x env) S1) := by
  unfold sPar
  rw [wp_xnB]
  congr 1
  funext ds S1
  match ds with
  | [] => rfl
  | [x] => rfl
  | [x, y] => rfl
  | x :: y :: z :: r => rfl
theorem wp_sPar3 {i j l : Nat} : wp (sPar3 i j l fa env S) QF E = wp (fa env S) (fun ds S1 => is3 ds fun x y z => QF (.nx (((env.set i (some x)).set j (some y)).set l (some z))) S1) (fun x S1 => QF (.xn x env) S1) := by
  unfold sPar3
  rw [wp_xnB]
  congr 1
  funext ds S1
  match ds with
  | [] => rfl
  | [x] => rfl
  | [x, y] => rfl
  | [x, y, z] => rfl
  | x :: y :: z :: u :: r => rfl
theorem wp_sRaise {C : Str} : wp (sRaise C env S) QF E = QF (.xn ⟨C, none⟩ env) S := rfl
theorem wp_sRaise1 {C fn : Str} : wp (sRaise1 C fn f env S) QF E = wp (f env S) (fun d S1 => QF (.xn ⟨C, some [(fn, d)]⟩ env) S1) (fun x S1 => QF (.xn x env) S1) := by
  unfold sRaise1
  rw [wp_xnB]; rfl
def tryQ (sub : Str → Str → Option Bool) (cl : List Cl) (QF : Fl → AH → Prop) (E : Xn → AH → Prop) : Fl → AH → Prop := fun fl S => match fl with
  | .xn x e => wp (clE sub cl x e S) QF E
  | fl => QF fl S
theorem tryQ_xn {sub cl x e} : tryQ sub cl QF E (.xn x e) S = wp (clE sub cl x e S) QF E := rfl
theorem tryQ_nx {sub cl e} : tryQ sub cl QF E (.nx e) S = QF (.nx e) S := rfl
theorem tryQ_rt {sub cl d} : tryQ sub cl QF E (.rt d) S = QF (.rt d) S := rfl
theorem wp_sTry {sub : Str → Str → Option Bool} {cl : List Cl} : wp (sTry sub fs cl env S) QF E = wp (fs env S) (tryQ sub cl QF E) E := by
  unfold sTry
  rw [wp_bind]
  congr 1
  funext fl S1
  cases fl <;> rfl
/-- the end of a def -/
def finQ (Q : D → AH → Prop) (E : Xn → AH → Prop) : Fl → AH → Prop := fun fl S => match fl with
  | .nx _ => Q .non S
  | .rt d => Q d S
  | .xn x _ => E x S
  | _ => False
theorem finQ_nx {e : En} : finQ Q E (.nx e) S = Q .non S := rfl
theorem finQ_rt {d : D} : finQ Q E (.rt d) S = Q d S := rfl
theorem finQ_xn {x : Xn} {e : En} : finQ Q E (.xn x e) S = E x S := rfl
theorem wp_funOf {n : Nat} {ds : List D} : wp (funOf n fs ds S) Q E = wp (fs (startE n ds) S) (finQ Q E) NE := by
  unfold funOf
  cases fs (startE n ds) S with
  | ok fl S1 => cases fl <;> rfl
  | ex x S1 => rfl
  | bad => rfl
end
end P

set_option Elab.async false
set_option linter.all false
set_option maxRecDepth 100000
namespace P
open PySem PySem.Spec PyProof.Rows L2 Y
/-! ### loops -/
section
variable {QF : Fl → AH → Prop} {E : Xn → AH → Prop} {S : AH} {env : En} {ft : Et} {fs : Es}
def loopQ (N : En → AH → Prop) (QF : Fl → AH → Prop) : Fl → AH → Prop := fun fl S => match fl with
  | .nx e => N e S
  | .ct e => N e S
  | .bk e => QF (.nx e) S
  | fl => QF fl S
theorem loopQ_nx {N e} : loopQ N QF (.nx e) S = N e S := rfl
theorem loopQ_ct {N e} : loopQ N QF (.ct e) S = N e S := rfl
theorem loopQ_bk {N e} : loopQ N QF (.bk e) S = QF (.nx e) S := rfl
theorem loopQ_rt {N d} : loopQ N QF (.rt d) S = QF (.rt d) S := rfl
theorem loopQ_xn {N x e} : loopQ N QF (.xn x e) S = QF (.xn x e) S := rfl
theorem wp_sFor {i : Ei} {t : Eg} : wp (sFor i t fs env S) QF E = wp (i env S) (fun A S1 => wp (forL A.guard t fs A.items env S1) QF E) (fun x S1 => QF (.xn x env) S1) := by
  unfold sFor
  rw [wp_xnB]
theorem wp_iSeq {f : Ev} {QI : AIt → AH → Prop} : wp (iSeq f env S) QI E = wp (f env S) (fun d S1 => optI (seqIt S1 d) fun A => QI A S1) E := by
  unfold iSeq
  simp only [wp_bind, wp_lfI]
theorem wp_iOf {h : List D → AH → Option AIt} {g : Ea} {QI : AIt → AH → Prop} : wp (iOf h g env S) QI E = wp (g env S) (fun ds S1 => optI (h ds S1) fun A => QI A S1) E := by
  unfold iOf
  simp only [wp_bind, wp_lfI]
theorem forL_go {gd : AH → Bool} {t : Eg} (I : Nat → En → AH → Prop) (items : List D)
    (step : ∀ k d env S, items[k]? = some d → I k env S → gd S = true ∧ optP (t d env S) fun e1 S1 => wp (fs e1 S1) (loopQ (I (k + 1)) QF) E)
    (fin : ∀ env S, I items.length env S → gd S = true ∧ QF (.nx env) S) :
    ∀ (r : List D) (k : Nat), k + r.length = items.length → items.drop k = r → ∀ env S, I k env S → wp (forL gd t fs r env S) QF E
  | [], k, hk, hd, env, S, h => by
    have : k = items.length := by simpa using hk
    subst this
    obtain ⟨h1, h2⟩ := fin env S h
    unfold forL
    rw [if_pos h1]
    exact h2
  | d :: r, k, hk, hd, env, S, h => by
    have hlt : k < items.length := by simp at hk; omega
    have h0 := List.drop_eq_getElem_cons hlt
    rw [hd] at h0
    injection h0 with e1 e2
    obtain ⟨h1, h2⟩ := step k d env S (by rw [List.getElem?_eq_getElem hlt, e1]) h
    unfold forL
    rw [if_pos h1, wp_bind, wp_lf]
    cases q : t d env S with
    | none => rw [q] at h2; exact h2
    | some p =>
      obtain ⟨e1', S1⟩ := p
      rw [q] at h2
      show wp _ _ _
      rw [wp_bind]
      refine wp_mono h2 (fun fl S2 hq => ?_) fun _ _ z => z
      have ih := fun env S => forL_go I items step fin r (k + 1) (by simp at hk; omega) e2.symm env S
      cases fl with
      | nx e => exact ih e S2 hq
      | ct e => exact ih e S2 hq
      | bk e => exact hq
      | rt d => exact hq
      | xn x e => exact hq
theorem wp_for {gd : AH → Bool} {t : Eg} {items : List D} (I : Nat → En → AH → Prop) (h0 : I 0 env S)
    (step : ∀ k d env S, items[k]? = some d → I k env S → gd S = true ∧ optP (t d env S) fun e1 S1 => wp (fs e1 S1) (loopQ (I (k + 1)) QF) E)
    (fin : ∀ env S, I items.length env S → gd S = true ∧ QF (.nx env) S) : wp (forL gd t fs items env S) QF E := forL_go I items step fin items 0 (by simp) rfl env S h0
theorem while_go (I : Nat → En → AH → Prop)
    (step : ∀ n env S, I n env S → wp (ft env S) (fun k S1 => ch k (wp (fs env S1) (loopQ (fun e S => ∃ m, m < n ∧ I m e S) QF) E) (QF (.nx env) S1)) (fun x S1 => QF (.xn x env) S1)) :
    ∀ (fu n : Nat) env S, n < fu → I n env S → wp (whileF ft fs fu env S) QF E
  | 0, n, env, S, hn, h => absurd hn (Nat.not_lt_zero _)
  | fu + 1, n, env, S, hn, h => by
    unfold whileF
    rw [wp_xnB]
    refine wp_mono (step n env S h) (fun k S1 hq => ?_) fun _ _ z => z
    cases k with
    | false => rw [ch_f] at hq; exact hq
    | true =>
      rw [ch_t] at hq
      rw [if_pos rfl, wp_bind]
      refine wp_mono hq (fun fl S2 hq => ?_) fun _ _ z => z
      have ih := while_go I step fu
      cases fl with
      | nx e => obtain ⟨m, hm, hi⟩ := hq; exact ih m e S2 (by omega) hi
      | ct e => obtain ⟨m, hm, hi⟩ := hq; exact ih m e S2 (by omega) hi
      | bk e => exact hq
      | rt d => exact hq
      | xn x e => exact hq
theorem wp_while (I : Nat → En → AH → Prop) (n : Nat) (h0 : I n env S) (hn : n < 1000000)
    (step : ∀ n env S, I n env S → wp (ft env S) (fun k S1 => ch k (wp (fs env S1) (loopQ (fun e S => ∃ m, m < n ∧ I m e S) QF) E) (QF (.nx env) S1)) (fun x S1 => QF (.xn x env) S1)) : wp (sWhile ft fs env S) QF E :=
  while_go I step fuel n env S hn h0
end
/-! ### comprehensions -/
inductive F2 {α β : Type} (P : α → β → Prop) : List α → List β → Prop
  | nil : F2 P [] []
  | cons {a b l m} : P a b → F2 P l m → F2 P (a :: l) (b :: m)
theorem F2.length_eq {α β : Type} {P : α → β → Prop} {l : List α} {m : List β} (h : F2 P l m) : l.length = m.length := by
  induction h with
  | nil => rfl
  | cons _ _ ih => simp [ih]
theorem F2.append {α β : Type} {P : α → β → Prop} {l l' : List α} {m m' : List β} (h : F2 P l m) (h' : F2 P l' m') : F2 P (l ++ l') (m ++ m') := by
  induction h with
  | nil => exact h'
  | cons p _ ih => exact .cons p ih
theorem F2.map {α β : Type} {P : α → β → Prop} {f : α → β} {l : List α} {m : List β} (h : F2 P l m) (hf : ∀ a b, a ∈ l → P a b → b = f a) : m = l.map f := by
  induction h with
  | nil => rfl
  | cons p _ ih => rw [List.map_cons, hf _ _ (List.mem_cons_self ..) p, ih fun a b hm => hf a b (List.mem_cons_of_mem _ hm)]
theorem wp_noX {α : Type} {r : Rs α} {Q : α → AH → Prop} {E : Xn → AH → Prop} : wp (noX r) Q E = wp r Q NE := by cases r <;> rfl
/-- what stays: the objects but those of A -/
structure Ext (A : Nat → Prop) (S S' : AH) : Prop where
  len : S.length ≤ S'.length
  get : ∀ i o, ¬ A i → S[i]? = some o → S'[i]? = some o
abbrev E0 : Nat → Prop := fun _ => False
theorem Ext.refl {A S} : Ext A S S := ⟨Nat.le_refl _, fun _ _ _ h => h⟩
theorem Ext.trans {A S S1 S2} (a : Ext A S S1) (b : Ext A S1 S2) : Ext A S S2 := ⟨Nat.le_trans a.len b.len, fun i o n h => b.get i o n (a.get i o n h)⟩
theorem Ext.wide {A B : Nat → Prop} {S S1} (a : Ext A S S1) (h : ∀ i, i < S.length → A i → B i) : Ext B S S1 := ⟨a.len, fun i o n e => a.get i o (fun z => n (h i (List.getElem?_eq_some_iff.mp e).1 z)) e⟩
theorem Ext.e0 {A : Nat → Prop} {S S1} (a : Ext E0 S S1) : Ext A S S1 := a.wide fun _ _ z => z.elim
theorem Ext.app {A S T} : Ext A S (S ++ T) := ⟨by simp, fun i o _ h => by rw [List.getElem?_append_left (List.getElem?_eq_some_iff.mp h).1]; exact h⟩
theorem Ext.set {A S j o} (h : A j ∨ S.length ≤ j) : Ext A S (S.set j o) := ⟨by simp, fun i o' n e => by
  have hne : j ≠ i := fun q => by
    subst q
    rcases h with h | h
    · exact n h
    · have := (List.getElem?_eq_some_iff.mp e).1; omega
  rw [List.getElem?_set_ne hne]; exact e⟩
theorem Ext.setT {A S S1 j o} (a : Ext A S S1) (h : A j ∨ S.length ≤ j) : Ext A S (S1.set j o) := ⟨by simpa using a.len, fun i o' n e => by
  have hne : j ≠ i := fun q => by
    subst q
    rcases h with h | h
    · exact n h
    · have := (List.getElem?_eq_some_iff.mp e).1; omega
  rw [List.getElem?_set_ne hne]; exact a.get i o' n e⟩
theorem Ext.appT {A S S1 T} (a : Ext A S S1) : Ext A S (S1 ++ T) := a.trans .app
theorem get_app {S : AH} {o : Ob} {T : AH} : (S ++ o :: T)[S.length]? = some o := by simp
theorem get_set {S : AH} {j : Nat} {o o' : Ob} (h : S[j]? = some o) : (S.set j o')[j]? = some o' := List.getElem?_set_self (List.getElem?_eq_some_iff.mp h).1
theorem get_setne {S : AH} {i j : Nat} {o : Ob} (h : j ≠ i) : (S.set j o)[i]? = S[i]? := List.getElem?_set_ne h
theorem get_lt {S : AH} {i : Nat} {o : Ob} (h : S[i]? = some o) : i < S.length := (List.getElem?_eq_some_iff.mp h).1
section
variable {E : Xn → AH → Prop} {S : AH} {env : En} {tt : Et} {te : Ev} {j : Nat} {gd : AH → Bool} {t : Eg} {Q : Unit → AH → Prop}
theorem lc_go (I : Nat → List D → AH → Prop) (items : List D)
    (step : ∀ k d acc S, items[k]? = some d → S[j]? = some (.lst acc) → I k acc S → gd S = true ∧ optP (t d env S) fun e1 S1 => wp (tt e1 S1) (fun b S2 => ch b
      (wp (te e1 S2) (fun y S3 => S3[j]? = some (.lst acc) ∧ acc.length < sizeLine ∧ I (k + 1) (acc ++ [y]) (S3.set j (.lst (acc ++ [y])))) NE)
      (S2[j]? = some (.lst acc) ∧ I (k + 1) acc S2)) NE)
    (fin : ∀ acc S, S[j]? = some (.lst acc) → I items.length acc S → gd S = true ∧ Q () S) :
    ∀ (r : List D) (k : Nat), k + r.length = items.length → items.drop k = r → ∀ acc S, S[j]? = some (.lst acc) → I k acc S → wp (lcL j gd t tt te env r S) Q E
  | [], k, hk, hd, acc, S, hj, h => by
    have : k = items.length := by simpa using hk
    subst this
    obtain ⟨h1, h2⟩ := fin acc S hj h
    unfold lcL
    rw [if_pos h1]
    exact h2
  | d :: r, k, hk, hd, acc, S, hj, h => by
    have hlt : k < items.length := by simp at hk; omega
    have h0 := List.drop_eq_getElem_cons hlt
    rw [hd] at h0
    injection h0 with e1 e2
    obtain ⟨h1, h2⟩ := step k d acc S (by rw [List.getElem?_eq_getElem hlt, e1]) hj h
    unfold lcL
    rw [if_pos h1, wp_bind, wp_lf]
    have ih := fun acc S => lc_go I items step fin r (k + 1) (by simp at hk; omega) e2.symm acc S
    cases q : t d env S with
    | none => rw [q] at h2; exact h2
    | some p =>
      obtain ⟨e1', S1⟩ := p
      rw [q] at h2
      show wp _ _ _
      rw [wp_bind, wp_noX]
      refine wp_mono h2 (fun b S2 hq => ?_) fun _ _ z => z.elim
      cases b with
      | false =>
        rw [ch_f] at hq
        rw [if_neg (by simp)]
        exact ih acc S2 hq.1 hq.2
      | true =>
        rw [ch_t] at hq
        rw [if_pos rfl, wp_bind, wp_noX]
        refine wp_mono hq (fun y S3 hq => ?_) fun _ _ z => z.elim
        obtain ⟨hj3, hz, hI⟩ := hq
        rw [wp_bind, wp_lf]
        unfold apd
        rw [hj3]
        simp only [if_pos hz, optP]
        exact ih (acc ++ [y]) _ (get_set hj3) hI
theorem wp_lc {items : List D} (I : Nat → List D → AH → Prop) {acc} (hj : S[j]? = some (.lst acc)) (h0 : I 0 acc S)
    (step : ∀ k d acc S, items[k]? = some d → S[j]? = some (.lst acc) → I k acc S → gd S = true ∧ optP (t d env S) fun e1 S1 => wp (tt e1 S1) (fun b S2 => ch b
      (wp (te e1 S2) (fun y S3 => S3[j]? = some (.lst acc) ∧ acc.length < sizeLine ∧ I (k + 1) (acc ++ [y]) (S3.set j (.lst (acc ++ [y])))) NE)
      (S2[j]? = some (.lst acc) ∧ I (k + 1) acc S2)) NE)
    (fin : ∀ acc S, S[j]? = some (.lst acc) → I items.length acc S → gd S = true ∧ Q () S) : wp (lcL j gd t tt te env items S) Q E := lc_go I items step fin items 0 (by simp) rfl acc S hj h0
theorem wp_eLc {i : Ei} {vs : List Nat} {QD : D → AH → Prop} : wp (eLc i t tt te vs env S) QD E = wp (i env S) (fun A S1 => wp (lcL S1.length A.guard t tt te (wipeE env vs) A.items (S1 ++ [.lst []])) (fun _ S2 => QD (.obj S1.length) S2) E) E := by
  unfold eLc
  simp only [wp_bind]
  rfl
/-- the everyday form: each element gives a value of P and leaves what stands (but A) -/
theorem wp_lcP {A : Nat → Prop} {items : List D} (P : D → D → Prop) {J : AH → Prop} {QD : D → AH → Prop} {S1 : AH} (hz : items.length ≤ sizeLine) (hg : ∀ S2, Ext A S1 S2 → J S2 → gd S2 = true) (hJ : J (S1 ++ [.lst []])) (hA : ¬ A S1.length)
    (step : ∀ d S2, d ∈ items → Ext A S1 S2 → J S2 → S1.length < S2.length → optP (t d env S2) fun e1 S3 => wp (tt e1 S3) (fun b S4 => b = true ∧ wp (te e1 S4) (fun y S5 => P d y ∧ Ext A S2 S5 ∧ ∀ acc, J (S5.set S1.length (.lst acc))) NE) NE)
    (fin : ∀ ys S2, F2 P items ys → Ext A S1 S2 → S2[S1.length]? = some (.lst ys) → J S2 → QD (.obj S1.length) S2) :
    wp (lcL S1.length gd t tt te env items (S1 ++ [.lst []])) (fun _ S2 => QD (.obj S1.length) S2) E := by
  refine wp_lc (fun k acc S2 => F2 P (items.take k) acc ∧ Ext A S1 S2 ∧ J S2) (acc := []) (by simp) ⟨by simpa using F2.nil, .app, hJ⟩ (fun k d acc S2 hd hj ⟨hf, hx, hj2⟩ => ⟨hg _ hx hj2, ?_⟩) fun acc S2 hj ⟨hf, hx, hj2⟩ => ⟨hg _ hx hj2, fin acc S2 (by simpa using hf) hx hj hj2⟩
  have h1 := step d S2 (List.mem_of_getElem? hd) hx hj2 (get_lt hj)
  cases q : t d env S2 with
  | none => rw [q] at h1; exact h1
  | some p =>
    rw [q] at h1
    obtain ⟨e1, S3⟩ := p
    refine wp_mono h1 (fun b S4 h4 => ?_) fun _ _ z => z
    obtain ⟨rfl, h5⟩ := h4
    rw [ch_t]
    refine wp_mono h5 (fun y S5 h6 => ?_) fun _ _ z => z
    obtain ⟨hp, hx5, hJ5⟩ := h6
    have hk := (List.getElem?_eq_some_iff.mp hd).1
    have hl : acc.length = k := by
      have := hf.length_eq
      rw [List.length_take] at this
      omega
    refine ⟨hx5.get _ _ hA hj, by omega, ?_, (hx.trans hx5).setT (.inr (Nat.le_refl _)), hJ5 _⟩
    rw [List.take_add_one, hd]
    exact hf.append (.cons hp .nil)
end
end P

set_option Elab.async false
set_option linter.all false
set_option maxRecDepth 100000
namespace P
open PySem PySem.Spec PyProof.Rows L2 Y Z
/-- evaluation of a denotation, from the outside -/
local macro_rules | `(tactic| simp_all_arith) => `(tactic| simp (config := { implicitDefEqProofs := false }) only [↓wp_funOf, ↓wp_ok, ↓wp_ex, ↓wp_eVar, ↓wp_eC, ↓wp_e2, ↓wp_e1, ↓wp_asB, ↓wp_tAnd, ↓wp_tOr, ↓wp_tNot, ↓wp_eAnd, ↓wp_eOr, ↓wp_eNot, ↓wp_eIf, ↓wp_eChain, ↓wp_aNil, ↓wp_aCons, ↓wp_eTup, ↓wp_eLst, ↓wp_eCall, ↓wp_eMeth, ↓wp_eFn, ↓wp_eMt, ↓wp_eMk, ↓wp_pNone, ↓wp_pSome, ↓wp_eSl, ↓wp_eDnew,
  ↓wp_sNil, ↓wp_sSeq, ↓wp_sRet, ↓wp_sRetN, ↓wp_sExp, ↓wp_sIf, ↓wp_sSet, ↓wp_sSub, ↓wp_sDput, ↓wp_sFld, ↓wp_sFldAug, ↓wp_sAsg, ↓wp_sAug, ↓wp_sPar, ↓wp_sPar3, ↓wp_sRaise, ↓wp_sRaise1, ↓wp_sTry, ↓wp_sFor, ↓wp_iSeq, ↓wp_iOf, ↓wp_eLc, sPass, sBrk, sCnt,
  ↓optP_some, ↓optS_some, ↓optI_some, ↓optE_some, ↓isB_bl, ↓ch_t, ↓ch_f, ↓isNon_non, ↓isI_int, ↓is2_i, ↓is3_i, ↓seqQ_nx, ↓seqQ_rt, ↓seqQ_xn, ↓seqQ_bk, ↓seqQ_ct, ↓finQ_nx, ↓finQ_rt, ↓finQ_xn, ↓tryQ_xn, ↓tryQ_nx, ↓tryQ_rt, ↓loopQ_nx, ↓loopQ_ct, ↓loopQ_bk, ↓loopQ_rt, ↓loopQ_xn,
  startE, List.map_cons, List.map_nil, List.length_cons, List.length_nil, List.cons_append, List.nil_append, List.append_assoc, List.getElem?_cons_zero, List.getElem?_cons_succ, List.set_cons_zero, List.set_cons_succ, Nat.reduceAdd, Nat.reduceSub, List.replicate_zero, List.replicate_succ, Nat.zero_add, Nat.sub_self, wipeE, gNm, gTp, gConss, gNils, Option.bind_some, Option.map_some, if_true, if_false, Bool.not_true, Bool.not_false])
/-! ### isinstance -/
theorem k_ii : kitB "int" "int" = some true := by decide +kernel
theorem k_ib : kitB "int" "bool" = some false := by decide +kernel
theorem k_is : kitB "int" "str" = some false := by decide +kernel
theorem k_it : kitB "int" "tuple" = some false := by decide +kernel
theorem k_il : kitB "int" "list" = some false := by decide +kernel
theorem k_si : kitB "str" "int" = some false := by decide +kernel
theorem k_sb : kitB "str" "bool" = some false := by decide +kernel
theorem k_ss : kitB "str" "str" = some true := by decide +kernel
theorem k_st : kitB "str" "tuple" = some false := by decide +kernel
theorem k_sl : kitB "str" "list" = some false := by decide +kernel
theorem k_tt : kitB "tuple" "tuple" = some true := by decide +kernel
theorem k_ti : kitB "tuple" "int" = some false := by decide +kernel
theorem k_ts : kitB "tuple" "str" = some false := by decide +kernel
theorem k_tl : kitB "tuple" "list" = some false := by decide +kernel
theorem k_lt : kitB "list" "tuple" = some false := by decide +kernel
theorem k_ll : kitB "list" "list" = some true := by decide +kernel
theorem k_ls : kitB "list" "str" = some false := by decide +kernel
theorem k_bi : kitB "bool" "int" = some true := by decide +kernel
theorem k_bb : kitB "bool" "bool" = some true := by decide +kernel
theorem k_ni : kitB "NoneType" "int" = some false := by decide +kernel
theorem k_nt : kitB "NoneType" "tuple" = some false := by decide +kernel
theorem k_ns : kitB "NoneType" "str" = some false := by decide +kernel
theorem k_dt : kitB "dict" "tuple" = some false := by decide +kernel
theorem ty_int {S i} : tyOf S (.int i) = some "int" := rfl
theorem ty_str {S i} : tyOf S (.str i) = some "str" := rfl
theorem ty_tup {S i} : tyOf S (.tup i) = some "tuple" := rfl
theorem ty_non {S} : tyOf S .non = some "NoneType" := rfl
theorem ty_bl {S b} : tyOf S (.bl b) = some "bool" := rfl
theorem of_wp {α : Type} {r : Rs α} {a : α} {S : AH} (h : wp r (fun x S' => x = a ∧ S' = S) NE) : r = .ok a S := by
  cases r with
  | ok x S' => obtain ⟨rfl, rfl⟩ := h; rfl
  | ex x S' => exact h.elim
  | bad => exact h.elim
theorem is_integer_int {i : Int} {S : AH} : F_is_integer [.int i] S = .ok (.bl true) S := of_wp (by
  unfold F_is_integer b_is_integer
  simp_all_arith
  simp only [isiO, ty_int, k_ii, k_ib, Option.bind_some, Option.map_some]
  simp_all_arith
  exact ⟨trivial, trivial⟩)
theorem is_between_int {i lo hi : Int} {S : AH} : F_is_between [.int i, .int lo, .int hi] S = .ok (.bl (decide (lo ≤ i ∧ i ≤ hi))) S := of_wp (by
  unfold F_is_between b_is_between
  simp_all_arith
  simp only [is_integer_int, leO, intO]
  simp_all_arith
  refine ⟨trivial, ch_i (fun h1 => ⟨?_, trivial⟩) fun h1 => ⟨?_, trivial⟩⟩
  · congr 1; have := of_decide_eq_true h1; simp [this]
  · congr 1; have := of_decide_eq_false h1; simp [this])

set_option Elab.async false
set_option linter.all false
set_option maxRecDepth 100000
open PySem PySem.Spec PyProof.Rows L2 Y Z
/-! ### operators on what stands -/
theorem of_wp' {α : Type} {r : Rs α} {P : α → AH → Prop} (h : wp r P NE) : ∃ a S, r = .ok a S ∧ P a S := by
  cases r with
  | ok x S' => exact ⟨x, S', rfl, h⟩
  | ex x S' => exact h.elim
  | bad => exact h.elim
theorem all_str (l : List Str) : (l.map D.str).all flatD = true := by induction l <;> simp_all [flatD]
theorem in_strs {z : Str} {l : List Str} {S : AH} : inO (.str z) (.tup (l.map D.str)) S = some (.bl (decide (z ∈ l)), S) := by
  unfold inO inD
  simp only [seqOf, all_str, flatD, and_self, if_true, Option.map_some]
  congr 3
  rw [Bool.eq_iff_iff]
  simp only [List.any_map, List.any_eq_true, Function.comp, eqF, decide_eq_true_eq, beq_iff_eq]
  exact ⟨fun ⟨x, h, e⟩ => e ▸ h, fun h => ⟨z, h, rfl⟩⟩
theorem nin_strs {z : Str} {l : List Str} {S : AH} : ninO (.str z) (.tup (l.map D.str)) S = some (.bl (!decide (z ∈ l)), S) := by
  have h := in_strs (z := z) (l := l) (S := S)
  unfold inO at h
  unfold ninO
  cases q : inD (.str z) (.tup (l.map D.str)) S with
  | none => rw [q] at h; cases h
  | some b => rw [q] at h; cases h; rfl
theorem in_strs1 {z a : Str} {S : AH} : inO (.str z) (.tup [.str a]) S = some (.bl (decide (z ∈ [a])), S) := in_strs (l := [a])
theorem in_strs2 {z a b : Str} {S : AH} : inO (.str z) (.tup [.str a, .str b]) S = some (.bl (decide (z ∈ [a, b])), S) := in_strs (l := [a, b])
theorem in_strs3 {z a b c : Str} {S : AH} : inO (.str z) (.tup [.str a, .str b, .str c]) S = some (.bl (decide (z ∈ [a, b, c])), S) := in_strs (l := [a, b, c])
theorem eq_strs {a b : Str} {S : AH} : eqO (.str a) (.str b) S = some (.bl (decide (a = b)), S) := rfl
theorem ne_strs {a b : Str} {S : AH} : neO (.str a) (.str b) S = some (.bl (!decide (a = b)), S) := rfl
theorem eq_ints {a b : Int} {S : AH} : eqO (.int a) (.int b) S = some (.bl (decide (a = b)), S) := by
  show some (D.bl (a == b), S) = _
  rw [show (a == b) = decide (a = b) from by rw [Bool.eq_iff_iff]; simp]
theorem ne_ints {a b : Int} {S : AH} : neO (.int a) (.int b) S = some (.bl (!decide (a = b)), S) := by
  show some (D.bl (!(a == b)), S) = _
  rw [show (a == b) = decide (a = b) from by rw [Bool.eq_iff_iff]; simp]
theorem len_str {z : Str} {S : AH} (h : z.length ≤ sizeLine) : lenO [.str z] S = some (.int z.length, S) := by
  simp [lenO, lenD, h]
theorem len_tup {l : List D} {S : AH} : lenO [.tup l] S = some (.int l.length, S) := rfl
theorem len_obj {i : Nat} {l : List D} {S : AH} (h : S[i]? = some (.lst l)) : lenO [.obj i] S = some (.int l.length, S) := by
  simp [lenO, lenD, h]
theorem all_bls {i : Nat} {bs : List Bool} {S : AH} (h : S[i]? = some (.lst (bs.map D.bl))) : allO [.obj i] S = some (.bl (bs.all id), S) := by
  have hb : blsOf (bs.map D.bl) = some bs := by
    clear h
    induction bs with
    | nil => rfl
    | cons b r ih => simp [blsOf, ih]
  simp [allO, lstOf, h, hb]
/-! ### is_name -/
def goodName (z : Str) : Bool := decide (1 ≤ z.length ∧ z.length ≤ 8) && !decide (z ∈ tup_WORDS) && z.cps.toList.all fun c => decide (c ∈ ("abcdefghijklmnopqrstuvwxyz" : Str).cps.toList)
/-- [f(x) for x in items], each value known -/
theorem wp_lcF {A : Nat → Prop} {E : Xn → AH → Prop} {env : En} {te : Ev} {gd : AH → Bool} {items : List D} {i : Nat} {QD : D → AH → Prop} {S1 : AH} (f : D → D) (hz : items.length ≤ sizeLine) (hA : ¬ A S1.length) (hg : ∀ S2, Ext A S1 S2 → gd S2 = true)
    (step : ∀ d S2, d ∈ items → Ext A S1 S2 → wp (te (env.set i (some d)) S2) (fun y S3 => y = f d ∧ Ext A S2 S3) NE)
    (fin : ∀ S2, Ext A S1 S2 → S2[S1.length]? = some (.lst (items.map f)) → QD (.obj S1.length) S2) :
    wp (lcL S1.length gd (gNm i) tYes' te env items (S1 ++ [.lst []])) (fun _ S2 => QD (.obj S1.length) S2) E := by
  refine wp_lcP (A := A) (fun d y => y = f d) (J := fun _ => True) hz (fun S2 hx _ => hg S2 hx) trivial hA (fun d S2 hd hx _ _ => ?_) fun ys S2 hf hx hj _ => ?_
  · refine ⟨rfl, wp_mono (step d S2 hd hx) (fun y S3 h => ⟨h.1, h.2, fun _ => trivial⟩) fun _ _ z => z⟩
  · rw [hf.map fun a b _ e => e] at hj
    exact fin S2 hx hj
theorem in_chr {c : Nat} {z : Str} {S : AH} : inO (.str ⟨#[c]⟩) (.str z) S = some (.bl (decide (c ∈ z.cps.toList)), S) := rfl
theorem chr_mem {z : Str} {d : D} (h : d ∈ chrs z) : ∃ c ∈ z.cps.toList, d = .str ⟨#[c]⟩ := by
  unfold chrs at h
  obtain ⟨c, hc, e⟩ := List.mem_map.mp h
  exact ⟨c, hc, e.symm⟩
def chrIn (l : List Nat) : D → D
  | .str ⟨⟨[c]⟩⟩ => .bl (decide (c ∈ l))
  | d => d
theorem chrIn_map {l : List Nat} {z : Str} : (chrs z).map (chrIn l) = (z.cps.toList.map fun c => decide (c ∈ l)).map D.bl := by
  unfold chrs
  rw [List.map_map, List.map_map]
  rfl
theorem is_name_str {z : Str} {S : AH} {Q : D → AH → Prop} {E} (hz : z.length ≤ sizeLine) (h : ∀ S', Ext E0 S S' → Q (.bl (goodName z)) S') : wp (F_is_name [.str z] S) Q E := by
  have hn : ∀ b, goodName z = b → Q (.bl b) S := fun b e => by rw [← e]; exact h S .refl
  unfold F_is_name b_is_name
  simp_all_arith
  simp only [isiO, ty_str, k_ss, Option.bind_some, Option.map_some, len_str hz, leO, intO, in_strs]
  simp_all_arith
  refine ch_i (fun h1 => ?_) (fun h1 => hn _ ?_)
  · refine ch_i (fun h2 => hn _ ?_) (fun h2 => ch_i (fun h3 => hn _ ?_) fun h3 => ?_)
    · simp only [Bool.not_eq_true', decide_eq_false_iff_not, decide_eq_true_eq] at h1 h2
      have : ¬ z.length ≤ 8 := by omega
      simp [goodName, this]
    · simp only [decide_eq_true_eq] at h3
      simp [goodName, h3]
    · simp only [Bool.not_eq_false', decide_eq_false_iff_not, decide_eq_true_eq] at h1 h2 h3
      show wp (lcL S.length (fun _ => true) (gNm 1) tYes' _ _ (chrs z) _) _ _
      refine wp_lcF (A := E0) (QD := fun d S2 => optP (allO [d] S2) Q) (chrIn ("abcdefghijklmnopqrstuvwxyz" : Str).cps.toList) (by simpa [chrs, Str.length] using hz) (fun z => z) (fun _ _ => rfl) (fun d S2 hd hx => ?_) fun S2 hx hj => ?_
      · obtain ⟨c, hc, rfl⟩ := chr_mem hd
        simp_all_arith
        simp only [in_chr]
        simp_all_arith
        exact ⟨rfl, .refl⟩
      · rw [chrIn_map] at hj
        rw [all_bls hj]
        have e : goodName z = (z.cps.toList.map fun c => decide (c ∈ ("abcdefghijklmnopqrstuvwxyz" : Str).cps.toList)).all id := by
          unfold goodName
          rw [show decide (1 ≤ z.length ∧ z.length ≤ 8) = true from decide_eq_true ⟨by omega, by omega⟩, show decide (z ∈ tup_WORDS) = false from decide_eq_false h3, List.all_map]
          simp [Function.comp_def]
        rw [← e]
        exact h S2 hx
  · simp only [decide_eq_false_iff_not] at h1
    have : ¬ 1 ≤ z.length := by omega
    simp [goodName, this]

set_option Elab.async false
set_option linter.all false
set_option maxRecDepth 100000
open PySem PySem.Spec PyProof.Rows L2 Y Z
/-! ### indices -/
theorem at_nat {α : Type} {l : List α} {k : Nat} : atI l (k : Int) = l[k]? := by
  unfold atI ixN
  rw [if_pos (by omega)]
  by_cases h : k < l.length
  · rw [if_pos (by omega)]
    simp
  · rw [if_neg (by omega)]
    simp [List.getElem?_eq_none (Nat.le_of_not_lt h)]
theorem ix_tup {l : List D} {k : Nat} {S : AH} : ixO (.tup l) (.int (k : Int)) S = (l[k]?).map fun d => (d, S) := by
  show (atI l (k : Int)).map _ = _
  rw [at_nat]
theorem ix0 {a : D} {l : List D} {S : AH} : ixO (.tup (a :: l)) (.int 0) S = some (a, S) := ix_tup (k := 0)
theorem ix1 {a b : D} {l : List D} {S : AH} : ixO (.tup (a :: b :: l)) (.int 1) S = some (b, S) := ix_tup (k := 1)
theorem ix2 {a b c : D} {l : List D} {S : AH} : ixO (.tup (a :: b :: c :: l)) (.int 2) S = some (c, S) := ix_tup (k := 2)
theorem ix3 {a b c d : D} {l : List D} {S : AH} : ixO (.tup (a :: b :: c :: d :: l)) (.int 3) S = some (d, S) := ix_tup (k := 3)
theorem ix_obj {i k : Nat} {l : List D} {S : AH} (h : S[i]? = some (.lst l)) : ixO (.obj i) (.int (k : Int)) S = (l[k]?).map fun d => (d, S) := by
  unfold ixO
  simp only [seqOf, h]
  rw [at_nat]
theorem len1 {a : D} {S : AH} : lenO [.tup [a]] S = some (.int 1, S) := rfl
theorem len2 {a b : D} {S : AH} : lenO [.tup [a, b]] S = some (.int 2, S) := rfl
theorem len3 {a b c : D} {S : AH} : lenO [.tup [a, b, c]] S = some (.int 3, S) := rfl
theorem len4 {a b c d : D} {S : AH} : lenO [.tup [a, b, c, d]] S = some (.int 4, S) := rfl
theorem len0 {S : AH} : lenO [.tup []] S = some (.int 0, S) := rfl
theorem is_non {S : AH} : isNO .non .non S = some (.bl true, S) := rfl
theorem is_non_obj {i : Nat} {S : AH} : isNO (.obj i) .non S = some (.bl false, S) := rfl
theorem is_non_tup {l : List D} {S : AH} : isNO (.tup l) .non S = some (.bl false, S) := rfl
theorem ch_c {c : Prop} [Decidable c] {p q : Prop} (h : c) : ch (decide c) p q = p := by rw [decide_eq_true h, ch_t]
theorem ch_n {c : Prop} [Decidable c] {p q : Prop} (h : ¬ c) : ch (decide c) p q = q := by rw [decide_eq_false h, ch_f]
/-- the same with the operators; more lemmas may be given -/
local macro_rules | `(tactic| simp_arith [$ls,*]) => `(tactic| simp (config := { decide := true, implicitDefEqProofs := false }) only [↓wp_funOf, ↓wp_ok, ↓wp_ex, ↓wp_eVar, ↓wp_eC, ↓wp_e2, ↓wp_e1, ↓wp_asB, ↓wp_tAnd, ↓wp_tOr, ↓wp_tNot, ↓wp_eAnd, ↓wp_eOr, ↓wp_eNot, ↓wp_eIf, ↓wp_eChain, ↓wp_aNil, ↓wp_aCons, ↓wp_eTup, ↓wp_eLst, ↓wp_eCall, ↓wp_eMeth, ↓wp_eFn, ↓wp_eMt, ↓wp_eMk, ↓wp_pNone, ↓wp_pSome, ↓wp_eSl, ↓wp_eDnew,
  ↓wp_sNil, ↓wp_sSeq, ↓wp_sRet, ↓wp_sRetN, ↓wp_sExp, ↓wp_sIf, ↓wp_sSet, ↓wp_sSub, ↓wp_sDput, ↓wp_sFld, ↓wp_sFldAug, ↓wp_sAsg, ↓wp_sAug, ↓wp_sPar, ↓wp_sPar3, ↓wp_sRaise, ↓wp_sRaise1, ↓wp_sTry, ↓wp_sFor, ↓wp_iSeq, ↓wp_iOf, ↓wp_eLc, sPass, sBrk, sCnt,
  ↓optP_some, ↓optS_some, ↓optI_some, ↓optE_some, ↓isB_bl, ↓ch_t, ↓ch_f, ↓isNon_non, ↓isI_int, ↓is2_i, ↓is3_i, ↓seqQ_nx, ↓seqQ_rt, ↓seqQ_xn, ↓seqQ_bk, ↓seqQ_ct, ↓finQ_nx, ↓finQ_rt, ↓finQ_xn, ↓tryQ_xn, ↓tryQ_nx, ↓tryQ_rt, ↓loopQ_nx, ↓loopQ_ct, ↓loopQ_bk, ↓loopQ_rt, ↓loopQ_xn,
  startE, List.map_cons, List.map_nil, List.length_cons, List.length_nil, List.cons_append, List.nil_append, List.append_assoc, List.getElem?_cons_zero, List.getElem?_cons_succ, List.set_cons_zero, List.set_cons_succ, Nat.reduceAdd, Nat.reduceSub, List.replicate_zero, List.replicate_succ, Nat.zero_add, Nat.sub_self, wipeE, gNm, gTp, gConss, gNils, Option.bind_some, Option.map_some, if_true, if_false, Bool.not_true, Bool.not_false,
  isiO, ty_int, ty_str, ty_tup, ty_non, ty_bl, k_ii, k_ib, k_is, k_it, k_il, k_si, k_sb, k_ss, k_st, k_sl, k_tt, k_ti, k_ts, k_tl, k_lt, k_ll, k_ls, k_bi, k_bb, k_ni, k_nt, k_ns, k_dt, len0, len1, len2, len3, len4, ix0, ix1, ix2, ix3, in_strs1, in_strs2, in_strs3, in_strs, nin_strs, eq_strs, ne_strs, eq_ints, ne_ints, is_non, is_non_obj, is_non_tup,
  true_and, and_true, subO, ltO, leO, gtO, geO, intO, is_integer_int, is_between_int, Int.reduceLT, Int.reduceLE, Int.reduceAdd, Int.reduceSub, Int.reduceNeg, decide_true, decide_false, not_false_eq_true, not_true_eq_false, $ls,*])
/-! ### expressions -/
inductive Ex where
  | num (i : Int) | nam (z : Str) | neg (e : Ex) | bin (s : Str) (a b : Ex)
def Ex.d : Ex → D
  | .num i => .tup [.str "number", .int i]
  | .nam z => .tup [.str "name", .str z]
  | .neg e => .tup [.str "not", e.d]
  | .bin s a b => .tup [.str s, a.d, b.d]
def Ex.subs : Ex → List Ex
  | .num _ => [] | .nam _ => [] | .neg e => [e] | .bin _ a b => [a, b]
def Ex.ht : Ex → Nat
  | .num _ => 1 | .nam _ => 1 | .neg e => e.ht + 1 | .bin _ a b => max a.ht b.ht + 1
def Ex.ok (m : Int) : Ex → Prop
  | .num i => 0 ≤ i ∧ i ≤ m - 1
  | .nam z => goodName z = true ∧ z.length ≤ sizeLine
  | .neg e => e.ok m
  | .bin s a b => s ∈ tup_SIGNS ∧ a.ok m ∧ b.ok m
/-- the sign of the root is one that inner_of knows -/
def Ex.sgn : Ex → Prop
  | .bin s _ _ => s ∈ tup_SIGNS
  | _ => True
theorem Ex.ok.sgn {m e} (h : Ex.ok m e) : e.sgn := by cases e <;> first | trivial | exact h.1
theorem sign_not {s : Str} (h : s ∈ tup_SIGNS) : s ≠ "number" ∧ s ≠ "name" ∧ s ≠ "not" := by
  have : ∀ s ∈ tup_SIGNS, decide (s ≠ "number" ∧ s ≠ "name" ∧ s ≠ "not") = true := by decide +kernel
  exact of_decide_eq_true (this s h)
theorem inner_of_ex {e : Ex} {S : AH} {Q : D → AH → Prop} {E} (hs : e.sgn) (h : ∀ i S', Ext E0 S S' → S.length ≤ i → S'[i]? = some (.lst (e.subs.map Ex.d)) → Q (.obj i) S') : wp (F_inner_of [e.d] S) Q E := by
  have fin : ∀ l, l = e.subs.map Ex.d → Q (.obj S.length) (S ++ [.lst l]) := fun l hl => h _ _ .app (Nat.le_refl _) (by rw [← hl]; simp)
  unfold F_inner_of b_inner_of
  cases e with
  | num i =>
    simp only [Ex.d]
    simp_arith []
    exact fin _ rfl
  | nam z =>
    simp only [Ex.d]
    simp_arith []
    exact fin _ rfl
  | neg e =>
    simp only [Ex.d]
    simp_arith []
    exact fin _ rfl
  | bin s a b =>
    obtain ⟨h1, h2, h3⟩ := sign_not hs
    have hs : s ∈ tup_SIGNS := hs
    simp only [Ex.d]
    simp_arith [List.mem_cons, List.not_mem_nil, h1, h2, h3, hs, or_self]
    exact fin _ rfl

set_option Elab.async false
set_option linter.all false
set_option maxRecDepth 100000
open PySem PySem.Spec PyProof.Rows L2 Y Z
theorem ext_lst {i j : Nat} {l m : List D} {S : AH} (hi : S[i]? = some (.lst l)) (hj : S[j]? = some (.lst m)) (hz : l.length + m.length ≤ sizeLine) : extO (.obj i) [.obj j] S = some (.non, S.set i (.lst (l ++ m))) := by
  simp [extO, hi, hj, hz]
theorem ext_tup {i : Nat} {l m : List D} {S : AH} (hi : S[i]? = some (.lst l)) (hz : l.length + m.length ≤ sizeLine) : extO (.obj i) [.tup m] S = some (.non, S.set i (.lst (l ++ m))) := by
  simp [extO, hi, hz]
theorem app_lst {i : Nat} {l : List D} {x : D} {S : AH} (hi : S[i]? = some (.lst l)) (hz : l.length < sizeLine) : appO (.obj i) [x] S = some (.non, S.set i (.lst (l ++ [x]))) := by
  simp [appO, hi, hz]
theorem isLst_obj {i : Nat} {l : List D} {S : AH} (hi : S[i]? = some (.lst l)) : isLst S (.obj i) = true := by simp [isLst, hi]
/-- the guard of a walk over a list object -/
def lstG (i : Nat) (l : List D) : AH → Bool := fun S' => match S'[i]? with
  | some (.lst l') => eqDs l' l
  | _ => false
theorem seqIt_obj {i : Nat} {l : List D} {S : AH} (hi : S[i]? = some (.lst l)) : seqIt S (.obj i) = some ⟨l, lstG i l⟩ := by
  simp [seqIt, hi]; rfl
theorem seqIt_tup {l : List D} {S : AH} : seqIt S (.tup l) = some ⟨l, fun _ => true⟩ := rfl
theorem lstG_ok {i : Nat} {l : List D} {S : AH} (hi : S[i]? = some (.lst l)) : lstG i l S = true := by simp [lstG, hi]
theorem rng8 : rngIt1 [.int 8] = some ⟨rngL 0 8, fun _ => true⟩ := by unfold rngIt1; rfl
theorem rng6 : rngIt1 [.int 6] = some ⟨rngL 0 6, fun _ => true⟩ := by unfold rngIt1; rfl
theorem rng_len {n : Nat} : (rngL 0 n).length = n := by simp [rngL]
def leafB (m : Int) : Ex → Bool
  | .num i => decide (0 ≤ i ∧ i ≤ m - 1)
  | .nam z => goodName z
  | _ => true
theorem leaf_right {m : Int} {e : Ex} {S : AH} {Q : D → AH → Prop} {E} (hs : e.sgn) (hz : ∀ z, e = .nam z → z.length ≤ sizeLine) (h : ∀ S', Ext E0 S S' → Q (.bl (leafB m e)) S') : wp (F_is_leaf_right [e.d, .int m] S) Q E := by
  unfold F_is_leaf_right b_is_leaf_right
  cases e with
  | num i =>
    simp only [Ex.d]
    simp_arith []
    exact h S .refl
  | nam z =>
    simp only [Ex.d]
    simp_arith [true_and]
    exact is_name_str (hz z rfl) h
  | neg e =>
    simp only [Ex.d]
    simp_arith []
    exact h S .refl
  | bin s a b =>
    obtain ⟨h1, h2, h3⟩ := sign_not hs
    simp only [Ex.d]
    simp_arith [h1, h2]
    exact h S .refl
def Ex.sz : Ex → Nat
  | .num _ => 1 | .nam _ => 1 | .neg e => e.sz + 1 | .bin _ a b => a.sz + b.sz + 1
def szs (l : List Ex) : Nat := (l.map Ex.sz).sum
theorem Ex.ht1 : ∀ e : Ex, 1 ≤ e.ht
  | .num _ => Nat.le_refl _ | .nam _ => Nat.le_refl _ | .neg e => by simp [Ex.ht] | .bin _ a b => by simp [Ex.ht]
theorem Ex.sz1 : ∀ e : Ex, 1 ≤ e.sz
  | .num _ => Nat.le_refl _ | .nam _ => Nat.le_refl _ | .neg e => by simp [Ex.sz] | .bin _ a b => by simp [Ex.sz]
theorem szs_len : ∀ l : List Ex, l.length ≤ szs l
  | [] => Nat.le_refl _
  | e :: r => by have := szs_len r; have := e.sz1; simp only [szs, List.map_cons, List.sum_cons, List.length_cons] at *; omega
theorem szs_app (l m : List Ex) : szs (l ++ m) = szs l + szs m := by simp [szs]
theorem szs_subs (e : Ex) : szs e.subs + 1 = e.sz := by cases e <;> simp [szs, Ex.subs, Ex.sz]
theorem szs_flat : ∀ l : List Ex, szs (l.flatMap Ex.subs) ≤ szs l
  | [] => Nat.le_refl _
  | e :: r => by
    have := szs_flat r; have := szs_subs e
    rw [List.flatMap_cons, szs_app]
    simp only [szs, List.map_cons, List.sum_cons] at *; omega
theorem Ex.ok.sub {m e} (h : Ex.ok m e) : ∀ x ∈ e.subs, x.ok m ∧ x.ht + 1 ≤ e.ht := by
  cases e with
  | num i => intro x hx; cases hx
  | nam z => intro x hx; cases hx
  | neg e => intro x hx; simp [Ex.subs] at hx; subst hx; exact ⟨h, Nat.le_refl _⟩
  | bin s a b =>
    intro x hx
    simp [Ex.subs] at hx
    rcases hx with rfl | rfl
    · exact ⟨h.2.1, by simp [Ex.ht]; omega⟩
    · exact ⟨h.2.2, by simp [Ex.ht]; omega⟩
theorem Ex.ok.leaf {m e} (h : Ex.ok m e) : leafB m e = true := by
  cases e with
  | num i => exact decide_eq_true h
  | nam z => exact h.1
  | _ => rfl
theorem sizeLine_big : 1000000 ≤ sizeLine := by decide
/-- a valid expression is one -/
theorem is_expr {m : Int} {e : Ex} {S : AH} {Q : D → AH → Prop} {E} (ho : e.ok m) (hh : e.ht ≤ 8) (hz : e.sz ≤ 1000) (h : ∀ S', Ext E0 S S' → Q (.bl true) S') : wp (F_is_expression_of [.int m, e.d] S) Q E := by
  unfold F_is_expression_of b_is_expression_of
  simp_arith [rng8]
  have hbig := sizeLine_big
  refine wp_for (fun k env S' => ∃ (rows : List Ex) (r : Nat) (a b c d : Option D), env = [some (.int m), some e.d, some (.obj r), a, b, c, d] ∧ Ext E0 S S' ∧ S.length ≤ r ∧ S'[r]? = some (.lst (rows.map Ex.d)) ∧ (∀ x ∈ rows, x.ok m ∧ x.ht + k ≤ 8) ∧ szs rows ≤ 1000)
    ⟨[e], S.length, _, _, _, _, rfl, .app, Nat.le_refl _, by simp, by simpa using ⟨ho, hh⟩, by simpa [szs] using hz⟩ ?_ ?_
  · rintro k dk env S1 hk ⟨rows, r, a, b, c, d, rfl, hx, hr, hl, hrows, hsz⟩
    refine ⟨rfl, ?_⟩
    simp_arith []
    have hl1 : (S1 ++ [Ob.lst []])[r]? = some (.lst (rows.map Ex.d)) := by rw [List.getElem?_append_left (get_lt hl)]; exact hl
    rw [seqIt_obj hl1]
    simp_arith []
    have hrf : r ≠ S1.length := Nat.ne_of_lt (get_lt hl)
    refine wp_for (fun j env S2 => ∃ (c d : Option D), env = [some (.int m), some e.d, some (.obj r), some dk, some (.obj S1.length), c, d] ∧ Ext E0 S S2 ∧ S2[r]? = some (.lst (rows.map Ex.d)) ∧ S2[S1.length]? = some (.lst (((rows.take j).flatMap Ex.subs).map Ex.d)))
      ⟨_, _, rfl, hx.appT, hl1, by simp⟩ ?_ ?_
    · rintro j dj env S2 hj ⟨c, d, rfl, hx2, hr2, hf2⟩
      refine ⟨lstG_ok hr2, ?_⟩
      simp only [List.getElem?_map, Option.map_eq_some_iff] at hj
      obtain ⟨x, hj, rfl⟩ := hj
      obtain ⟨hxo, hxh⟩ := hrows x (List.mem_of_getElem? hj)
      simp_arith [true_and]
      refine inner_of_ex hxo.sgn fun i S3 hx3 hi3 hl3 => ?_
      simp_arith [true_and]
      refine leaf_right hxo.sgn (fun z hz => by subst hz; exact hxo.2) fun S4 hx4 => ?_
      have hf4 := hx4.get _ _ (fun z => z) (hx3.get _ _ (fun z => z) hf2)
      have hr4 := hx4.get _ _ (fun z => z) (hx3.get _ _ (fun z => z) hr2)
      have hl4 := hx4.get _ _ (fun z => z) hl3
      rw [hxo.leaf]
      have hsum : ((rows.take j).flatMap Ex.subs).length + x.subs.length ≤ 1000 := by
        have h1 := szs_flat (rows.take (j + 1))
        have h2 : szs (rows.take (j + 1)) ≤ szs rows := by
          have : szs rows = szs (rows.take (j + 1)) + szs (rows.drop (j + 1)) := by rw [← szs_app, List.take_append_drop]
          omega
        have h3 := szs_len ((rows.take (j + 1)).flatMap Ex.subs)
        rw [List.take_add_one, hj] at h1 h3
        simp only [Option.toList_some, List.flatMap_append, List.flatMap_cons, List.flatMap_nil, List.append_nil, List.length_append] at h1 h3
        rw [List.take_add_one, hj] at h2
        simp only [Option.toList_some] at h2
        omega
      have hE := ext_lst (S := S4) hf4 hl4 (by simp only [List.length_map]; omega)
      simp_arith [isLst_obj hf4, hE, true_and]
      refine ⟨_, _, rfl, (hx2.trans (hx3.trans hx4)).setT (.inr (by have := hx.len; omega)), ?_, ?_⟩
      · rw [get_setne (Ne.symm hrf)]; exact hr4
      · rw [get_set hf4, List.take_add_one, hj]
        simp
    · rintro env S2 ⟨c, d, rfl, hx2, hr2, hf2⟩
      refine ⟨lstG_ok hr2, ?_⟩
      simp_arith []
      refine ⟨rows.flatMap Ex.subs, S1.length, _, _, _, _, rfl, hx2, hx.len, by simpa using hf2, fun y hy => ?_, Nat.le_trans (szs_flat _) hsz⟩
      obtain ⟨x, hx, hy⟩ := List.mem_flatMap.mp hy
      obtain ⟨hxo, hxh⟩ := hrows x hx
      obtain ⟨h1, h2⟩ := hxo.sub y hy
      exact ⟨h1, by omega⟩
  · rintro env S1 ⟨rows, r, a, b, c, d, rfl, hx, hr, hl, hrows, hsz⟩
    refine ⟨rfl, ?_⟩
    have hn : rows = [] := by
      cases rows with
      | nil => rfl
      | cons x r =>
        have := (hrows x (List.mem_cons_self ..)).2
        rw [rng_len] at this
        have := x.ht1
        omega
    subst hn
    simp_arith [len_obj hl]
    exact h S1 hx

set_option Elab.async false
set_option linter.all false
set_option maxRecDepth 100000
open PySem PySem.Spec PyProof.Rows L2 Y Z
/-! ### statements -/
inductive Stm where
  | say (e : Ex) | set (x : Str) (e : Ex) | do_ (i : Int) | send (w : Int) (e : Ex) | take (w : Int) (x : Str) | ite (e : Ex) (a b : List Stm) | rnd (e : Ex) (a : List Stm)
mutual
def Stm.d : Stm → D
  | .say e => .tup [.str "say", e.d]
  | .set x e => .tup [.str "set", .str x, e.d]
  | .do_ i => .tup [.str "do", .int i]
  | .send w e => .tup [.str "send", .int w, e.d]
  | .take w x => .tup [.str "take", .int w, .str x]
  | .ite e a b => .tup [.str "if", e.d, .tup (blkD a), .tup (blkD b)]
  | .rnd e a => .tup [.str "rounds", e.d, .tup (blkD a)]
def blkD : List Stm → List D
  | [] => []
  | s :: r => s.d :: blkD r
end
theorem blkD_map : ∀ l : List Stm, blkD l = l.map Stm.d
  | [] => by simp [blkD]
  | s :: r => by simp [blkD, blkD_map r]
/-- a block -/
def bD (l : List Stm) : D := .tup (l.map Stm.d)
def Stm.subs : Stm → List (List Stm)
  | .ite _ a b => [a, b] | .rnd _ a => [a] | _ => []
def Ex.good (m : Int) (e : Ex) : Prop := e.ok m ∧ e.ht ≤ 8 ∧ e.sz ≤ 1000
def nameOk (x : Str) : Prop := goodName x = true ∧ x.length ≤ sizeLine
/-- the statement itself, not what stands within -/
def Stm.ok1 (m w h : Int) : Stm → Prop
  | .say e => e.good m
  | .set x e => nameOk x ∧ e.good m
  | .do_ i => 0 ≤ i ∧ i ≤ h - 1
  | .send k e => (0 ≤ k ∧ k ≤ w - 1) ∧ e.good m
  | .take k x => (0 ≤ k ∧ k ≤ w - 1) ∧ nameOk x
  | .ite e _ _ => e.good m
  | .rnd e _ => e.good m
theorem lk_say : tab_STATEMENTS.lookup ("say" : Str) = some 2 := by decide +kernel
theorem lk_set : tab_STATEMENTS.lookup ("set" : Str) = some 3 := by decide +kernel
theorem lk_do : tab_STATEMENTS.lookup ("do" : Str) = some 2 := by decide +kernel
theorem lk_send : tab_STATEMENTS.lookup ("send" : Str) = some 3 := by decide +kernel
theorem lk_take : tab_STATEMENTS.lookup ("take" : Str) = some 3 := by decide +kernel
theorem lk_if : tab_STATEMENTS.lookup ("if" : Str) = some 4 := by decide +kernel
theorem lk_rnd : tab_STATEMENTS.lookup ("rounds" : Str) = some 3 := by decide +kernel
theorem blocks_in_stm {s : Stm} {S : AH} {Q : D → AH → Prop} {E} (h : ∀ i S', Ext E0 S S' → S.length ≤ i → S'[i]? = some (.lst (s.subs.map bD)) → Q (.obj i) S') : wp (F_blocks_in [s.d] S) Q E := by
  have fin : ∀ l, l = s.subs.map bD → Q (.obj S.length) (S ++ [.lst l]) := fun l hl => h _ _ .app (Nat.le_refl _) (by rw [← hl]; simp)
  unfold F_blocks_in b_blocks_in
  cases s <;> simp only [Stm.d] <;> simp_arith [] <;> exact fin _ (by simp [Stm.subs, bD, blkD_map])
theorem is_stm {m w hp : Int} {s : Stm} {S : AH} {Q : D → AH → Prop} {E} (ho : s.ok1 m w hp) (h : ∀ S', Ext E0 S S' → Q (.bl true) S') : wp (F_is_statement [s.d, .int m, .int w, .int hp] S) Q E := by
  unfold F_is_statement b_is_statement
  cases s with
  | say e =>
    simp only [Stm.d]
    simp_arith [kninO, kgetO, lk_say, Option.isSome_some]
    exact is_expr ho.1 ho.2.1 ho.2.2 h
  | set x e =>
    obtain ⟨⟨h1, h2⟩, h3⟩ := ho
    simp only [Stm.d]
    simp_arith [kninO, kgetO, lk_set, Option.isSome_some]
    refine is_name_str h2 fun S1 hx => ?_
    rw [h1]
    simp_arith []
    exact is_expr h3.1 h3.2.1 h3.2.2 fun S2 hx2 => h S2 (hx.trans hx2)
  | do_ i =>
    simp only [Stm.d]
    simp_arith [kninO, kgetO, lk_do, Option.isSome_some]
    rw [decide_eq_true (show 0 ≤ i ∧ i ≤ hp - 1 from ho)]
    exact h S .refl
  | send k e =>
    obtain ⟨h1, h3⟩ := ho
    simp only [Stm.d]
    simp_arith [kninO, kgetO, lk_send, Option.isSome_some, h1.1, h1.2]
    exact is_expr h3.1 h3.2.1 h3.2.2 h
  | take k x =>
    obtain ⟨h1, h2, h3⟩ := ho
    simp only [Stm.d]
    simp_arith [kninO, kgetO, lk_take, Option.isSome_some, h1.1, h1.2]
    exact is_name_str h3 fun S1 hx => by rw [h2]; exact h S1 hx
  | ite e a b =>
    simp only [Stm.d]
    simp_arith [kninO, kgetO, lk_if, Option.isSome_some]
    exact is_expr ho.1 ho.2.1 ho.2.2 h
  | rnd e a =>
    simp only [Stm.d]
    simp_arith [kninO, kgetO, lk_rnd, Option.isSome_some]
    exact is_expr ho.1 ho.2.1 ho.2.2 h

set_option Elab.async false
set_option linter.all false
set_option maxRecDepth 100000
open PySem PySem.Spec PyProof.Rows L2 Y Z
/-! ### two clauses -/
section
variable {E : Xn → AH → Prop} {S : AH} {env : En} {tt tt1 : Et} {te : Ev} {j : Nat} {gd : AH → Bool} {t t1 : Eg} {i1 : Ei} {vs1 : List Nat} {Q : Unit → AH → Prop}
theorem lc2_go (I : Nat → List D → AH → Prop) (items : List D)
    (step : ∀ k d acc S, items[k]? = some d → S[j]? = some (.lst acc) → I k acc S → gd S = true ∧ optP (t d env S) fun e1 S1 => wp (tt e1 S1) (fun b S2 => ch b
      (wp (i1 e1 S2) (fun A S3 => wp (lcL j A.guard t1 tt1 te (wipeE e1 vs1) A.items S3) (fun _ S4 => ∃ acc', S4[j]? = some (.lst acc') ∧ I (k + 1) acc' S4) NE) NE)
      (S2[j]? = some (.lst acc) ∧ I (k + 1) acc S2)) NE)
    (fin : ∀ acc S, S[j]? = some (.lst acc) → I items.length acc S → gd S = true ∧ Q () S) :
    ∀ (r : List D) (k : Nat), k + r.length = items.length → items.drop k = r → ∀ acc S, S[j]? = some (.lst acc) → I k acc S → wp (lc2L j gd t tt i1 t1 tt1 te vs1 env r S) Q E
  | [], k, hk, hd, acc, S, hj, h => by
    have : k = items.length := by simpa using hk
    subst this
    obtain ⟨h1, h2⟩ := fin acc S hj h
    unfold lc2L
    rw [if_pos h1]
    exact h2
  | d :: r, k, hk, hd, acc, S, hj, h => by
    have hlt : k < items.length := by simp at hk; omega
    have h0 := List.drop_eq_getElem_cons hlt
    rw [hd] at h0
    injection h0 with e1 e2
    obtain ⟨h1, h2⟩ := step k d acc S (by rw [List.getElem?_eq_getElem hlt, e1]) hj h
    unfold lc2L
    rw [if_pos h1, wp_bind, wp_lf]
    have ih := fun acc S => lc2_go I items step fin r (k + 1) (by simp at hk; omega) e2.symm acc S
    cases q : t d env S with
    | none => rw [q] at h2; exact h2
    | some p =>
      obtain ⟨e1', S1⟩ := p
      rw [q] at h2
      show wp _ _ _
      rw [wp_bind, wp_noX]
      refine wp_mono h2 (fun b S2 hq => ?_) fun _ _ z => z.elim
      cases b with
      | false =>
        rw [ch_f] at hq
        rw [if_neg (by simp)]
        exact ih acc S2 hq.1 hq.2
      | true =>
        rw [ch_t] at hq
        rw [if_pos rfl, wp_bind, wp_noX]
        refine wp_mono hq (fun A S3 hq => ?_) fun _ _ z => z.elim
        rw [wp_bind, wp_noX]
        refine wp_mono hq (fun _ S4 hq => ?_) fun _ _ z => z.elim
        obtain ⟨acc', hj4, hI⟩ := hq
        exact ih acc' S4 hj4 hI
theorem wp_eLc2 {i : Ei} {vs : List Nat} {QD : D → AH → Prop} : wp (eLc2 i t tt i1 t1 tt1 te vs vs1 env S) QD E = wp (i env S) (fun A S1 => wp (lc2L S1.length A.guard t tt i1 t1 tt1 te vs1 (wipeE env vs) A.items (S1 ++ [.lst []])) (fun _ S2 => QD (.obj S1.length) S2) NE) E := by
  unfold eLc2
  simp only [wp_bind, wp_noX]
  rfl
/-- the inner clause hands its items on -/
theorem lcL_var {b : Nat} : ∀ (l acc : List D) (S : AH), S[j]? = some (.lst acc) → b < env.length → gd S = true → (∀ acc', gd (S.set j (.lst acc')) = true) → acc.length + l.length ≤ sizeLine → lcL j gd (gNm b) tYes' (eVar b) env l S = .ok () (S.set j (.lst (acc ++ l)))
  | [], acc, S, hj, hb, hg, hg2, hz => by
    unfold lcL
    rw [if_pos hg]
    simp only [List.append_nil]
    have e : S[j]'(get_lt hj) = .lst acc := by
      have := List.getElem?_eq_getElem (get_lt hj)
      rw [hj] at this
      exact (Option.some.inj this).symm
    rw [← e, List.set_getElem_self]
  | d :: r, acc, S, hj, hb, hg, hg2, hz => by
    unfold lcL
    rw [if_pos hg]
    have hl : acc.length < sizeLine := by simp at hz; omega
    have hset : (S.set j (.lst (acc ++ [d])))[j]? = some (.lst (acc ++ [d])) := get_set hj
    have ih := lcL_var r (acc ++ [d]) (S.set j (.lst (acc ++ [d]))) hset hb (hg2 _) (fun acc' => by rw [List.set_set]; exact hg2 _) (by simp at hz ⊢; omega)
    simp only [gNm, lf, Rs.bind, tYes', noX, if_true, eVar, List.getElem?_set_self hb, apd, hj, hl]
    rw [ih, List.set_set]
    simp
theorem lc2F {A : Nat → Prop} {X : Type} {xs : List X} {φ : X → D} {f1 : Ev} {a b : Nat} (g : X → List D) {QD : D → AH → Prop} {S1 : AH} (hb : b < env.length) (hA : ¬ A S1.length) (hz : (xs.flatMap g).length ≤ sizeLine) (hg : ∀ S2, Ext A S1 S2 → gd S2 = true)
    (step : ∀ x S2, x ∈ xs → Ext A S1 S2 → S1.length < S2.length → wp (f1 (env.set a (some (φ x))) S2) (fun y S3 => ∃ i, y = .obj i ∧ i ≠ S1.length ∧ S3[i]? = some (.lst (g x)) ∧ Ext A S2 S3) NE)
    (fin : ∀ S2, Ext A S1 S2 → S2[S1.length]? = some (.lst (xs.flatMap g)) → QD (.obj S1.length) S2) :
    wp (lc2L S1.length gd (gNm a) tYes' (iSeq f1) (gNm b) tYes' (eVar b) [b] env (xs.map φ) (S1 ++ [.lst []])) (fun _ S2 => QD (.obj S1.length) S2) E := by
  refine lc2_go (fun k acc S2 => acc = (xs.take k).flatMap g ∧ Ext A S1 S2) (xs.map φ) (fun k d acc S2 hd hj ⟨hf, hx⟩ => ⟨hg S2 hx, ?_⟩) (fun acc S2 hj ⟨hf, hx⟩ => ⟨hg S2 hx, fin S2 hx (by rw [hj, hf, List.length_map, List.take_length])⟩) (xs.map φ) 0 (by simp) rfl [] _ (by simp) ⟨by simp, .app⟩
  simp only [List.getElem?_map, Option.map_eq_some_iff] at hd
  obtain ⟨x, hd, rfl⟩ := hd
  show wp _ _ _
  rw [wp_iSeq]
  refine wp_mono (step x S2 (List.mem_of_getElem? hd) hx (get_lt hj)) (fun y S3 hq => ?_) fun _ _ z => z
  obtain ⟨i, rfl, hne, hi, hx3⟩ := hq
  rw [seqIt_obj hi, optI_some]
  have hj3 := hx3.get _ _ hA hj
  have hsum : acc.length + (g x).length ≤ sizeLine := by
    have h1 : (xs.take (k + 1)).flatMap g = acc ++ g x := by rw [List.take_add_one, hd, List.flatMap_append, ← hf]; simp
    have h2 : (xs.flatMap g).length = ((xs.take (k + 1)).flatMap g).length + ((xs.drop (k + 1)).flatMap g).length := by rw [← List.length_append, ← List.flatMap_append, List.take_append_drop]
    rw [h1, List.length_append] at h2
    omega
  rw [lcL_var (g x) acc S3 hj3 (by simpa [wipeE] using hb) (lstG_ok hi) (fun acc' => lstG_ok (by rw [get_setne (Ne.symm hne)]; exact hi)) hsum, wp_ok]
  refine ⟨acc ++ g x, get_set hj3, ?_, (hx.trans hx3).setT (.inr (Nat.le_refl _))⟩
  rw [List.take_add_one, hd, List.flatMap_append, hf]
  simp
/-- [f(x) for x in xs] -/
theorem lcX {A : Nat → Prop} {X : Type} {xs : List X} {φ : X → D} {i : Nat} {QD : D → AH → Prop} {S1 : AH} (f : X → D) (hz : xs.length ≤ sizeLine) (hA : ¬ A S1.length) (hg : ∀ S2, Ext A S1 S2 → gd S2 = true)
    (step : ∀ x S2, x ∈ xs → Ext A S1 S2 → S1.length < S2.length → wp (te (env.set i (some (φ x))) S2) (fun y S3 => y = f x ∧ Ext A S2 S3) NE)
    (fin : ∀ S2, Ext A S1 S2 → S2[S1.length]? = some (.lst (xs.map f)) → QD (.obj S1.length) S2) :
    wp (lcL S1.length gd (gNm i) tYes' te env (xs.map φ) (S1 ++ [.lst []])) (fun _ S2 => QD (.obj S1.length) S2) E := by
  refine wp_lc (fun k acc S2 => acc = (xs.take k).map f ∧ Ext A S1 S2) (acc := []) (by simp) ⟨by simp, .app⟩ (fun k d acc S2 hd hj ⟨hf, hx⟩ => ⟨hg S2 hx, ?_⟩) fun acc S2 hj ⟨hf, hx⟩ => ⟨hg S2 hx, fin S2 hx (by rw [hj, hf, List.length_map, List.take_length])⟩
  simp only [List.getElem?_map, Option.map_eq_some_iff] at hd
  obtain ⟨x, hd, rfl⟩ := hd
  refine wp_mono (step x S2 (List.mem_of_getElem? hd) hx (get_lt hj)) (fun y S3 h => ?_) fun _ _ z => z
  obtain ⟨rfl, hx3⟩ := h
  have hl : acc.length < xs.length := by
    have := (List.getElem?_eq_some_iff.mp hd).1
    rw [hf, List.length_map, List.length_take]; omega
  refine ⟨hx3.get _ _ hA hj, by omega, ?_, (hx.trans hx3).setT (.inr (Nat.le_refl _))⟩
  rw [List.take_add_one, hd, hf]
  simp
end

set_option Elab.async false
set_option linter.all false
set_option maxRecDepth 100000
open PySem PySem.Spec PyProof.Rows L2 Y Z
/-! ### blocks -/
mutual
def Stm.bh : Stm → Nat
  | .ite _ a b => max (bhs a) (bhs b)
  | .rnd _ a => bhs a
  | _ => 0
def bhs : List Stm → Nat
  | [] => 1
  | s :: r => max (s.bh + 1) (bhs r)
end
mutual
def Stm.nb : Stm → Nat
  | .ite _ a b => nbs a + nbs b
  | .rnd _ a => nbs a
  | _ => 0
def nbs : List Stm → Nat
  | [] => 1
  | s :: r => s.nb + nbs r
end
theorem bhs1 : ∀ l, 1 ≤ bhs l
  | [] => by simp [bhs]
  | s :: r => by have := bhs1 r; simp [bhs]; omega
theorem nbs1 : ∀ l, 1 ≤ nbs l
  | [] => by simp [nbs]
  | s :: r => by have := nbs1 r; simp [nbs]; omega
theorem bh_sub {s : Stm} {b : List Stm} (h : b ∈ s.subs) : bhs b ≤ s.bh := by
  cases s <;> simp [Stm.subs] at h
  · rcases h with rfl | rfl <;> simp [Stm.bh] <;> omega
  · subst h; simp [Stm.bh]
theorem bhs_mem : ∀ {l : List Stm} {s : Stm}, s ∈ l → s.bh + 1 ≤ bhs l
  | t :: r, s, h => by
    rcases List.mem_cons.mp h with rfl | h
    · simp [bhs]; omega
    · have := bhs_mem h; simp [bhs]; omega
def nbL (l : List (List Stm)) : Nat := (l.map nbs).sum
theorem nbL_app (l m) : nbL (l ++ m) = nbL l + nbL m := by simp [nbL]
theorem nbL_len : ∀ l : List (List Stm), l.length ≤ nbL l
  | [] => Nat.le_refl _
  | b :: r => by have := nbL_len r; have := nbs1 b; simp only [nbL, List.map_cons, List.sum_cons, List.length_cons] at *; omega
theorem nb_subs (s : Stm) : nbL s.subs = s.nb := by cases s <;> simp [nbL, Stm.subs, Stm.nb]
theorem nbL_flat : ∀ l : List Stm, nbL (l.flatMap Stm.subs) + 1 = nbs l
  | [] => by simp [nbL, nbs]
  | s :: r => by have := nbL_flat r; rw [List.flatMap_cons, nbL_app, nb_subs, nbs]; omega
theorem nbL_flat2 : ∀ L : List (List Stm), nbL (L.flatMap fun l => l.flatMap Stm.subs) + L.length = nbL L
  | [] => by simp [nbL]
  | b :: r => by
    have h1 := nbL_flat2 r; have h2 := nbL_flat b
    rw [List.flatMap_cons, nbL_app]
    simp only [nbL, List.map_cons, List.sum_cons, List.length_cons] at *; omega
inductive BOk (m w h : Int) : List Stm → Prop
  | mk {l} : l.length ≤ 60 → (∀ s ∈ l, s.ok1 m w h) → (∀ s ∈ l, ∀ b ∈ s.subs, BOk m w h b) → BOk m w h l
theorem BOk.len {m w h l} (o : BOk m w h l) : l.length ≤ 60 := by cases o; assumption
theorem BOk.ok1 {m w h l} (o : BOk m w h l) : ∀ s ∈ l, s.ok1 m w h := by cases o; assumption
theorem BOk.sub {m w h l} (o : BOk m w h l) : ∀ s ∈ l, ∀ b ∈ s.subs, BOk m w h b := by cases o; assumption
theorem all_true {X : Type} {i : Nat} {items : List X} {S : AH} (h : S[i]? = some (.lst (items.map fun _ => D.bl true))) : allO [.obj i] S = some (.bl true, S) := by
  rw [all_bls (bs := items.map fun _ => true) (by rw [List.map_map]; exact h)]
  congr 2
  simp
theorem is_block {m w hp : Int} {l : List Stm} {S : AH} {Q : D → AH → Prop} {E} (ho : BOk m w hp l) (hh : bhs l ≤ 6) (hz : nbs l ≤ 1000) (h : ∀ S', Ext E0 S S' → Q (.bl true) S') : wp (F_is_block [bD l, .int m, .int w, .int hp] S) Q E := by
  unfold F_is_block b_is_block
  simp_arith [rng6]
  have hbig := sizeLine_big
  refine wp_for (fun k env S' => ∃ (rows : List (List Stm)) (r : Nat) (a b c d e : Option D), env = [some (bD l), some (.int m), some (.int w), some (.int hp), some (.obj r), a, b, c, d, e] ∧ Ext E0 S S' ∧ S.length ≤ r ∧ S'[r]? = some (.lst (rows.map bD)) ∧ (∀ x ∈ rows, BOk m w hp x ∧ bhs x + k ≤ 6) ∧ nbL rows ≤ 1000)
    ⟨[l], S.length, _, _, _, _, _, rfl, .app, Nat.le_refl _, by simp, by simpa using ⟨ho, hh⟩, by simpa [nbL] using hz⟩ ?_ ?_
  · rintro k dk env S1 hk ⟨rows, r, a, b, c, d, e, rfl, hx, hr, hl, hrows, hsz⟩
    refine ⟨rfl, ?_⟩
    simp_arith []
    have hl1 : (S1 ++ [Ob.lst []])[r]? = some (.lst (rows.map bD)) := by rw [List.getElem?_append_left (get_lt hl)]; exact hl
    rw [seqIt_obj hl1]
    simp_arith []
    have hrf : r ≠ S1.length := Nat.ne_of_lt (get_lt hl)
    refine wp_for (fun j env S2 => ∃ (c d e : Option D), env = [some (bD l), some (.int m), some (.int w), some (.int hp), some (.obj r), some dk, some (.obj S1.length), c, d, e] ∧ Ext E0 S S2 ∧ S2[r]? = some (.lst (rows.map bD)) ∧ S2[S1.length]? = some (.lst (((rows.take j).flatMap fun l => l.flatMap Stm.subs).map bD)))
      ⟨_, _, _, rfl, hx.appT, hl1, by simp⟩ ?_ ?_
    · rintro j dj env S2 hj ⟨c, d, e, rfl, hx2, hr2, hf2⟩
      refine ⟨lstG_ok hr2, ?_⟩
      simp only [List.getElem?_map, Option.map_eq_some_iff] at hj
      obtain ⟨x, hj, rfl⟩ := hj
      obtain ⟨hxo, hxh⟩ := hrows x (List.mem_of_getElem? hj)
      have hlen := hxo.len
      simp_arith [bD, len_tup, seqIt_tup]
      refine ch_i (fun hc => absurd (of_decide_eq_true hc) (by simp; omega)) fun _ => ?_
      refine wp_lcF (A := E0) (QD := fun d S2 => optP (allO [d] S2) _) (fun _ => .bl true) (by simp; omega) (fun z => z) (fun _ _ => rfl) (fun d S3 hd hx3 => ?_) fun S3 hx3 hj3 => ?_
      · obtain ⟨s, hs, rfl⟩ := List.mem_map.mp hd
        simp_arith []
        exact is_stm (hxo.ok1 s hs) fun S4 hx4 => ⟨rfl, hx4⟩
      · rw [all_true hj3]
        have hf3 := hx3.get _ _ (fun z => z) hf2
        have hr3 := hx3.get _ _ (fun z => z) hr2
        simp_arith [isLst_obj hf3, wp_eLc2, seqIt_tup]
        have hsum : ((rows.take j).flatMap fun l => l.flatMap Stm.subs).length + (x.flatMap Stm.subs).length ≤ 1000 := by
          have h1 := nbL_flat2 (rows.take (j + 1))
          have h2 : nbL (rows.take (j + 1)) ≤ nbL rows := by
            have : nbL rows = nbL (rows.take (j + 1)) + nbL (rows.drop (j + 1)) := by rw [← nbL_app, List.take_append_drop]
            omega
          have h3 := nbL_len ((rows.take (j + 1)).flatMap fun l => l.flatMap Stm.subs)
          rw [List.take_add_one, hj] at h1 h3 h2
          simp only [Option.toList_some, List.flatMap_append, List.flatMap_cons, List.flatMap_nil, List.append_nil, List.length_append] at h1 h3
          simp only [Option.toList_some] at h2
          omega
        have hflz : (x.flatMap fun s : Stm => s.subs.map bD).length ≤ sizeLine := by rw [← List.map_flatMap, List.length_map]; omega
        refine lc2F (A := E0) (QD := fun d S2 => optP (extO (D.obj S1.length) [d] S2) _) (fun s : Stm => s.subs.map bD) (Nat.le_refl _) (fun z => z) hflz (fun _ _ => rfl) (fun s S4 hs hx4 hlt => ?_) fun S4 hx4 hj4 => ?_
        · simp_arith []
          exact blocks_in_stm fun i S5 hx5 hi hl5 => ⟨i, rfl, by omega, hl5, hx5⟩
        · have hf4 := hx4.get _ _ (fun z => z) hf3
          have hr4 := hx4.get _ _ (fun z => z) hr3
          rw [← List.map_flatMap] at hj4
          rw [ext_lst hf4 hj4 (by simp only [List.length_map]; omega), optP_some]
          refine ⟨_, _, _, rfl, (hx2.trans (hx3.trans hx4)).setT (.inr (by have := hx.len; omega)), ?_, ?_⟩
          · rw [get_setne (Ne.symm hrf)]; exact hr4
          · rw [get_set hf4, List.take_add_one, hj]
            simp
    · rintro env S2 ⟨c, d, e, rfl, hx2, hr2, hf2⟩
      refine ⟨lstG_ok hr2, ?_⟩
      simp_arith []
      refine ⟨rows.flatMap fun l => l.flatMap Stm.subs, S1.length, _, _, _, _, _, rfl, hx2, hx.len, by simpa using hf2, fun y hy => ?_, by have := nbL_flat2 rows; omega⟩
      obtain ⟨x, hx, hy⟩ := List.mem_flatMap.mp hy
      obtain ⟨s, hs, hy⟩ := List.mem_flatMap.mp hy
      obtain ⟨hxo, hxh⟩ := hrows x hx
      have h1 := bh_sub hy
      have h2 := bhs_mem hs
      exact ⟨hxo.sub s hs y hy, by omega⟩
  · rintro env S1 ⟨rows, r, a, b, c, d, e, rfl, hx, hr, hl, hrows, hsz⟩
    refine ⟨rfl, ?_⟩
    have hn : rows = [] := by
      cases rows with
      | nil => rfl
      | cons x r =>
        have := (hrows x (List.mem_cons_self ..)).2
        rw [rng_len] at this
        have := bhs1 x
        omega
    subst hn
    simp_arith [len_obj hl]
    exact h S1 hx

set_option Elab.async false
set_option linter.all false
set_option maxRecDepth 100000
open PySem PySem.Spec PyProof.Rows L2 Y Z
/-! ### houses -/
structure Per where
  name : Str
  ins : List Str
  helps : List (Str × List Stm)
  body : List Stm
def helpD (h : Str × List Stm) : D := .tup [.str h.1, bD h.2]
def Per.d (p : Per) : D := .tup [.str p.name, .tup (p.ins.map D.str), .tup (p.helps.map helpD), bD p.body]
structure Wir where
  name : Str
  s : Int
  t : Int
  room : Int
def Wir.d (w : Wir) : D := .tup [.str w.name, .int w.s, .int w.t, .int w.room]
structure Hou where
  m : Int
  wires : List Wir
  pers : List Per
def Hou.d (h : Hou) : D := .tup [.int h.m, .tup (h.wires.map Wir.d), .tup (h.pers.map Per.d)]
structure BGood (m w h : Int) (l : List Stm) : Prop where
  ok : BOk m w h l
  bh : bhs l ≤ 6
  nb : nbs l ≤ 1000
structure Per.form (m w : Int) (p : Per) : Prop where
  name : nameOk p.name
  insl : p.ins.length ≤ 4
  ins : ∀ x ∈ p.ins, nameOk x
  helpl : p.helps.length ≤ 6
  helps : ∀ h ∈ p.helps, nameOk h.1 ∧ BGood m w p.helps.length h.2
  body : BGood m w p.helps.length p.body
def Wir.form (n : Int) (w : Wir) : Prop := nameOk w.name ∧ (0 ≤ w.s ∧ w.s ≤ n - 1) ∧ (0 ≤ w.t ∧ w.t ≤ n - 1) ∧ w.s ≠ w.t ∧ (0 ≤ w.room ∧ w.room ≤ 9)
structure Hou.form (h : Hou) : Prop where
  m : 2 ≤ h.m ∧ h.m ≤ 16
  pl : 1 ≤ h.pers.length ∧ h.pers.length ≤ 6
  wl : h.wires.length ≤ 12
  wires : ∀ w ∈ h.wires, w.form h.pers.length
  pers : ∀ p ∈ h.pers, p.form h.m h.wires.length
section
variable {S : AH} {Q : D → AH → Prop} {E : Xn → AH → Prop} {m w hp n : Int}
theorem is_help {h : Str × List Stm} (hn : nameOk h.1) (hb : BGood m w hp h.2) (k : ∀ S', Ext E0 S S' → Q (.bl true) S') : wp (F_is_help [helpD h, .int m, .int w, .int hp] S) Q E := by
  unfold F_is_help b_is_help helpD
  simp_arith []
  refine is_name_str hn.2 fun S1 hx => ?_
  rw [hn.1]
  simp_arith []
  exact is_block hb.ok hb.bh hb.nb fun S2 hx2 => k S2 (hx.trans hx2)
theorem is_wire {x : Wir} (hw : x.form n) (k : ∀ S', Ext E0 S S' → Q (.bl true) S') : wp (F_is_wire [x.d, .int n] S) Q E := by
  obtain ⟨h1, h2, h3, h4, h5⟩ := hw
  unfold F_is_wire b_is_wire Wir.d
  simp_arith []
  refine is_name_str h1.2 fun S1 hx => ?_
  rw [h1.1]
  simp_arith [h2.1, h2.2, h3.1, h3.2, h4, h5.1, h5.2]
  exact k S1 hx
theorem is_person {p : Per} (hf : p.form m w) (k : ∀ S', Ext E0 S S' → Q (.bl true) S') : wp (F_is_person [p.d, .int m, .int w] S) Q E := by
  have hbig := sizeLine_big
  have il := hf.insl
  have hl := hf.helpl
  unfold F_is_person b_is_person Per.d
  simp_arith []
  refine is_name_str hf.name.2 fun S1 hx => ?_
  rw [hf.name.1]
  simp_arith [len_tup, seqIt_tup]
  refine ch_i (fun hc => absurd (of_decide_eq_true hc) (by simp; omega)) fun _ => ?_
  refine lcX (A := E0) (QD := fun d S2 => optP (allO [d] S2) _) (fun _ => .bl true) (by omega) (fun z => z) (fun _ _ => rfl) (fun x S2 hs hx2 _ => ?_) fun S2 hx2 hj2 => ?_
  · simp_arith []
    exact is_name_str (hf.ins x hs).2 fun S3 hx3 => ⟨by rw [(hf.ins x hs).1], hx3⟩
  · rw [all_true hj2]
    simp_arith [len_tup, seqIt_tup]
    refine ch_i (fun hc => absurd (of_decide_eq_true hc) (by simp; omega)) fun _ => ?_
    refine lcX (A := E0) (QD := fun d S2 => optP (allO [d] S2) _) (fun _ => .bl true) (by omega) (fun z => z) (fun _ _ => rfl) (fun x S3 hs hx3 _ => ?_) fun S3 hx3 hj3 => ?_
    · simp_arith [len_tup]
      rw [List.length_map]
      exact is_help (hf.helps x hs).1 (hf.helps x hs).2 fun S4 hx4 => ⟨rfl, hx4⟩
    · rw [all_true hj3]
      simp_arith [len_tup]
      rw [List.length_map]
      exact is_block hf.body.ok hf.body.bh hf.body.nb fun S4 hx4 => k S4 (((hx.trans hx2).trans hx3).trans hx4)
theorem has_form {h : Hou} (hf : h.form) (k : ∀ S', Ext E0 S S' → Q (.bl true) S') : wp (F_has_form [h.d] S) Q E := by
  have hbig := sizeLine_big
  have wl := hf.wl
  have pl := hf.pl
  unfold F_has_form b_has_form Hou.d
  simp_arith [hf.m.1, hf.m.2, len_tup, seqIt_tup]
  refine ch_i (fun hc1 => ?_) fun hc => absurd (of_decide_eq_false hc) (by simp; omega)
  refine ch_i (fun hc => absurd hc (by simp; omega)) fun _ => ?_
  refine ch_i (fun hc => absurd (of_decide_eq_true hc) (by simp; omega)) fun _ => ?_
  refine lcX (A := E0) (QD := fun d S2 => optP (allO [d] S2) _) (fun _ => .bl true) (by omega) (fun z => z) (fun _ _ => rfl) (fun x S2 hs hx2 _ => ?_) fun S2 hx2 hj2 => ?_
  · simp_arith [len_tup]
    rw [List.length_map]
    exact is_wire (hf.wires x hs) fun S3 hx3 => ⟨rfl, hx3⟩
  · rw [all_true hj2]
    simp_arith [len_tup, seqIt_tup]
    refine lcX (A := E0) (QD := fun d S2 => optP (allO [d] S2) _) (fun _ => .bl true) (by omega) (fun z => z) (fun _ _ => rfl) (fun x S3 hs hx3 _ => ?_) fun S3 hx3 hj3 => ?_
    · simp_arith [len_tup]
      rw [List.length_map]
      exact is_person (hf.pers x hs) fun S4 hx4 => ⟨rfl, hx4⟩
    · rw [all_true hj3]
      exact k S3 (hx2.trans hx3)
end

set_option Elab.async false
set_option linter.all false
set_option maxRecDepth 100000
open PySem PySem.Spec PyProof.Rows L2 Y Z
/-! ### all statements -/
mutual
def Stm.all : Stm → List Stm
  | .ite e a b => .ite e a b :: (alls a ++ alls b)
  | .rnd e a => .rnd e a :: alls a
  | .say e => [.say e]
  | .set x e => [.set x e]
  | .do_ i => [.do_ i]
  | .send w e => [.send w e]
  | .take w x => [.take w x]
def alls : List Stm → List Stm
  | [] => []
  | s :: r => s.all ++ alls r
end
theorem alls_app : ∀ l m : List Stm, alls (l ++ m) = alls l ++ alls m
  | [], m => rfl
  | s :: r, m => by simp [alls, alls_app r m]
theorem all_subs (s : Stm) : s.all = s :: alls s.subs.flatten := by
  cases s <;> simp [Stm.all, Stm.subs, alls, alls_app]
theorem all_len (s : Stm) : 1 ≤ s.all.length := by rw [all_subs]; simp
theorem rev_tup {l : List D} {S : AH} : revO (.tup l) S = some (.tup l.reverse, S) := rfl
theorem rev_obj {i : Nat} {l : List D} {S : AH} (h : S[i]? = some (.lst l)) : revO (.obj i) S = some (.obj S.length, S ++ [.lst l.reverse]) := by
  simp [revO, lstOf, h]
theorem lst_tup {l : List D} {S : AH} : lstO [.tup l] S = some (.obj S.length, S ++ [.lst l]) := rfl
theorem lst_obj {i : Nat} {l : List D} {S : AH} (h : S[i]? = some (.lst l)) : lstO [.obj i] S = some (.obj S.length, S ++ [.lst l]) := by
  simp [lstO, seqOf, h]
theorem pop_lst {i : Nat} {l : List D} {x : D} {S : AH} (h : S[i]? = some (.lst (l ++ [x]))) : popO (.obj i) [] S = some (x, S.set i (.lst l)) := by
  simp [popO, h]
theorem alls_len : ∀ l : List Stm, l.length ≤ (alls l).length
  | [] => Nat.le_refl _
  | s :: r => by have := alls_len r; have := all_len s; simp only [alls, List.length_append, List.length_cons]; omega
theorem revs : ∀ L : List (List Stm), (L.reverse.flatMap List.reverse).reverse = L.flatten
  | [] => rfl
  | a :: r => by
    rw [List.reverse_cons, List.flatMap_append, List.reverse_append, revs r]
    simp
theorem statements_in {l : List Stm} {S : AH} {Q : D → AH → Prop} {E} (hz : (alls l).length ≤ 10000) (h : ∀ i S', Ext E0 S S' → S.length ≤ i → S'[i]? = some (.lst ((alls l).map Stm.d)) → Q (.obj i) S') : wp (F_statements_in [bD l] S) Q E := by
  have hbig := sizeLine_big
  unfold F_statements_in b_statements_in bD
  simp_arith [rev_tup, lst_tup]
  have wlen : (S ++ [Ob.lst []]).length = S.length + 1 := by simp
  rw [wlen]
  refine wp_while (fun n env S1 => ∃ (a b : Option D) (W acc : List Stm), env = [some (.tup (l.map Stm.d)), some (.obj S.length), some (.obj (S.length + 1)), a, b] ∧ Ext E0 S S1 ∧ S1[S.length]? = some (.lst (acc.map Stm.d)) ∧ S1[S.length + 1]? = some (.lst (W.map Stm.d)) ∧ acc ++ alls W.reverse = alls l ∧ n = (alls W.reverse).length)
    (alls l).length ⟨_, _, l.reverse, [], rfl, .app, by simp, by rw [List.append_cons, List.getElem?_append_right (by simp)]; simp, by simp, by simp⟩ (by omega) ?_
  rintro n env S1 ⟨a, b, W, acc, rfl, hx, hf, hw, hinv, rfl⟩
  simp_arith [len_obj hw]
  rcases List.eq_nil_or_concat W with rfl | ⟨W', x, rfl⟩
  · simp_arith [List.map_nil, List.length_nil, Int.natCast_zero]
    refine h S.length S1 hx (Nat.le_refl _) ?_
    rw [hf]
    simp [alls] at hinv
    rw [hinv]
  · rw [List.concat_eq_append] at *
    rw [decide_eq_true (by simp), ch_t]
    rw [List.map_append, List.map_cons, List.map_nil] at hw
    have hne : S.length ≠ S.length + 1 := by omega
    have hf2 : (S1.set (S.length + 1) (.lst (W'.map Stm.d)))[S.length]? = some (.lst (acc.map Stm.d)) := by rw [get_setne (by omega)]; exact hf
    have hal : alls (W' ++ [x]).reverse = x :: (alls (x.subs.flatten ++ W'.reverse)) := by
      rw [List.reverse_append, List.reverse_singleton, List.singleton_append, alls, all_subs, alls_app]
      simp
    have hacc : acc.length ≤ 10000 := by
      have := congrArg List.length hinv
      simp at this; omega
    simp_arith [isLst_obj hw, pop_lst hw, isLst_obj hf2, app_lst hf2 (by simp; omega)]
    refine blocks_in_stm fun i S2 hx2 hi hb => ?_
    simp_arith [rev_obj hb, seqIt_obj (show (S2 ++ [Ob.lst (x.subs.map bD).reverse])[S2.length]? = some (.lst (x.subs.map bD).reverse) by simp)]
    have hw3 : ((S1.set (S.length + 1) (.lst (W'.map Stm.d))).set S.length (.lst (acc.map Stm.d ++ [x.d])))[S.length + 1]? = some (.lst (W'.map Stm.d)) := by rw [get_setne (by omega)]; exact get_set hw
    have hx3 : Ext E0 S ((S1.set (S.length + 1) (.lst (W'.map Stm.d))).set S.length (.lst (acc.map Stm.d ++ [x.d]))) := (hx.setT (.inr (by omega))).setT (.inr (Nat.le_refl _))
    have hlen3 := hx2.len
    simp only [List.length_set] at hlen3
    have hlt1 := get_lt hw
    refine wp_for (fun j env S3 => ∃ b : Option D, env = [some (.tup (l.map Stm.d)), some (.obj S.length), some (.obj (S.length + 1)), some x.d, b] ∧ Ext E0 S S3 ∧ S3[S2.length]? = some (.lst (x.subs.map bD).reverse) ∧ S3[S.length]? = some (.lst ((acc ++ [x]).map Stm.d)) ∧ S3[S.length + 1]? = some (.lst ((W' ++ (x.subs.reverse.take j).flatMap List.reverse).map Stm.d)))
      ⟨_, rfl, (hx3.trans hx2).appT, by simp, by rw [List.getElem?_append_left (by omega)]; simpa using hx2.get _ _ (fun z => z) (get_set hf2), by rw [List.getElem?_append_left (by omega)]; simpa using hx2.get _ _ (fun z => z) hw3⟩ ?_ ?_
    · rintro j dj env S3 hj ⟨b, rfl, hx4, hg4, hf4, hw4⟩
      refine ⟨lstG_ok hg4, ?_⟩
      rw [← List.map_reverse, List.getElem?_map, Option.map_eq_some_iff] at hj
      obtain ⟨y, hj, rfl⟩ := hj
      have hsz : (W' ++ (x.subs.reverse.take j).flatMap List.reverse).length + y.length ≤ 100000 := by
        have h1 : x.subs.reverse.flatMap List.reverse = (x.subs.reverse.take (j + 1)).flatMap List.reverse ++ (x.subs.reverse.drop (j + 1)).flatMap List.reverse := by rw [← List.flatMap_append, List.take_append_drop]
        rw [List.take_add_one, hj] at h1
        have h2 := congrArg List.length h1
        have h3 := alls_len (x.subs.flatten ++ W'.reverse)
        have h4 := congrArg List.length hal
        have h5 := congrArg List.length hinv
        have h6 : (x.subs.reverse.flatMap List.reverse).length = x.subs.flatten.length := by rw [← revs, List.length_reverse]
        simp only [Option.toList_some, List.flatMap_append, List.flatMap_cons, List.flatMap_nil, List.append_nil, List.length_append, List.length_reverse, List.length_cons] at h2 h3 h4 h5 h6 ⊢
        rw [h6] at h2
        omega
      simp_arith [bD, isLst_obj hw4, rev_tup, ext_tup hw4 (show _ + (y.map Stm.d).reverse.length ≤ sizeLine by simp only [List.length_map, List.length_reverse]; omega)]
      refine ⟨_, rfl, hx4.setT (.inr (by omega)), ?_, ?_, ?_⟩
      · rw [get_setne (by omega)]; exact hg4
      · rw [get_setne (by omega)]; exact hf4
      · rw [get_set hw4, List.take_add_one, hj]
        simp
    · rintro env S3 ⟨b, rfl, hx4, hg4, hf4, hw4⟩
      refine ⟨lstG_ok hg4, ?_⟩
      simp_arith []
      rw [List.length_reverse, List.length_map, ← List.length_reverse (as := x.subs), List.take_length] at hw4
      have hrev : (W' ++ x.subs.reverse.flatMap List.reverse).reverse = x.subs.flatten ++ W'.reverse := by rw [List.reverse_append, revs]
      refine ⟨(alls (x.subs.flatten ++ W'.reverse)).length, by rw [hal]; simp, _, _, _, _, rfl, hx4, hf4, hw4, ?_, by rw [hrev]⟩
      rw [hrev, ← hinv, hal]
      simp

set_option Elab.async false
set_option linter.all false
set_option maxRecDepth 100000
open PySem PySem.Spec PyProof.Rows L2 Y Z
theorem add_lst {i j : Nat} {l m : List D} {S : AH} (hi : S[i]? = some (.lst l)) (hj : S[j]? = some (.lst m)) (hz : l.length + m.length ≤ sizeLine) : addO (.obj i) (.obj j) S = some (.obj S.length, S ++ [.lst (l ++ m)]) := by
  simp [addO, lstOf, hi, hj, hz]
section
variable {S : AH} {Q : D → AH → Prop} {E : Xn → AH → Prop}
def Per.blocks (p : Per) : List (List Stm) := p.helps.map (·.2) ++ [p.body]
theorem whole_blocks {p : Per} (hl : p.helps.length ≤ 6) (h : ∀ i S', Ext E0 S S' → S.length ≤ i → S'[i]? = some (.lst (p.blocks.map bD)) → Q (.obj i) S') : wp (F_whole_blocks [p.d] S) Q E := by
  have hbig := sizeLine_big
  unfold F_whole_blocks b_whole_blocks Per.d
  simp_arith [seqIt_tup]
  refine lcX (A := E0) (QD := fun d S2 => optP (addO d (D.obj S2.length) (S2 ++ [Ob.lst [bD p.body]])) _) (fun h => bD h.2) (by omega) (fun z => z) (fun _ _ => rfl) (fun x S2 hs hx2 _ => ?_) fun S2 hx2 hj2 => ?_
  · simp_arith [helpD]
    exact Ext.refl
  · rw [add_lst (l := p.helps.map fun h => bD h.2) (m := [bD p.body]) (by rw [List.getElem?_append_left (get_lt hj2)]; exact hj2) (by simp) (by simp; omega), optP_some]
    refine h _ _ ((hx2.appT).appT) (by have := hx2.len; simp; omega) ?_
    simp [Per.blocks, Function.comp_def]
end
/-! ### dict comprehensions -/
section
variable {E : Xn → AH → Prop} {S : AH} {env : En} {tt : Et} {tk tv : Ev} {j : Nat} {gd : AH → Bool} {t : Eg} {Q : Unit → AH → Prop}
theorem dc_go (I : Nat → List (Key × D) → AH → Prop) (items : List D)
    (step : ∀ k d acc S, items[k]? = some d → S[j]? = some (.dic acc) → I k acc S → gd S = true ∧ optP (t d env S) fun e1 S1 => wp (tt e1 S1) (fun b S2 => ch b
      (wp (tk e1 S2) (fun x S3 => wp (tv e1 S3) (fun y S4 => S4[j]? = some (.dic acc) ∧ ∃ key, kD x = some key ∧ acc.length < sizeLine ∧ I (k + 1) (putD acc key y) (S4.set j (.dic (putD acc key y)))) NE) NE)
      (S2[j]? = some (.dic acc) ∧ I (k + 1) acc S2)) NE)
    (fin : ∀ acc S, S[j]? = some (.dic acc) → I items.length acc S → gd S = true ∧ Q () S) :
    ∀ (r : List D) (k : Nat), k + r.length = items.length → items.drop k = r → ∀ acc S, S[j]? = some (.dic acc) → I k acc S → wp (dcL j gd t tt tk tv env r S) Q E
  | [], k, hk, hd, acc, S, hj, h => by
    have : k = items.length := by simpa using hk
    subst this
    obtain ⟨h1, h2⟩ := fin acc S hj h
    unfold dcL
    rw [if_pos h1]
    exact h2
  | d :: r, k, hk, hd, acc, S, hj, h => by
    have hlt : k < items.length := by simp at hk; omega
    have h0 := List.drop_eq_getElem_cons hlt
    rw [hd] at h0
    injection h0 with e1 e2
    obtain ⟨h1, h2⟩ := step k d acc S (by rw [List.getElem?_eq_getElem hlt, e1]) hj h
    unfold dcL
    rw [if_pos h1, wp_bind, wp_lf]
    have ih := fun acc S => dc_go I items step fin r (k + 1) (by simp at hk; omega) e2.symm acc S
    cases q : t d env S with
    | none => rw [q] at h2; exact h2
    | some p =>
      obtain ⟨e1', S1⟩ := p
      rw [q] at h2
      show wp _ _ _
      rw [wp_bind, wp_noX]
      refine wp_mono h2 (fun b S2 hq => ?_) fun _ _ z => z.elim
      cases b with
      | false =>
        rw [ch_f] at hq
        rw [if_neg (by simp)]
        exact ih acc S2 hq.1 hq.2
      | true =>
        rw [ch_t] at hq
        rw [if_pos rfl, wp_bind, wp_noX]
        refine wp_mono hq (fun x S3 hq => ?_) fun _ _ z => z.elim
        rw [wp_bind, wp_noX]
        refine wp_mono hq (fun y S4 hq => ?_) fun _ _ z => z.elim
        obtain ⟨hj4, key, hkey, hz, hI⟩ := hq
        rw [wp_bind, wp_lf]
        unfold dpd
        rw [hj4, hkey]
        simp only [if_pos hz, optP]
        exact ih _ _ (get_set hj4) hI
theorem wp_eDc {i : Ei} {vs : List Nat} {QD : D → AH → Prop} : wp (eDc i t tt tk tv vs env S) QD E = wp (i env S) (fun A S1 => wp (dcL S1.length A.guard t tt tk tv (wipeE env vs) A.items (S1 ++ [.dic []])) (fun _ S2 => QD (.obj S1.length) S2) NE) E := by
  unfold eDc
  simp only [wp_bind, wp_noX]
  rfl
end
/-- every test fails -/
theorem getK_no {kvs : List (Key × D)} {k : Key} (h : k ∉ kvs.map (·.1)) : (kvs.any fun kv => decide (kv.1 = k)) = false := by
  rw [Bool.eq_false_iff]
  intro z
  obtain ⟨x, hx, e⟩ := List.any_eq_true.mp z
  exact h (List.mem_map.mpr ⟨x, hx, of_decide_eq_true e⟩)
theorem len_dic {i : Nat} {l : List (Key × D)} {S : AH} (h : S[i]? = some (.dic l)) (hz : l.length ≤ sizeLine) : lenO [.obj i] S = some (.int l.length, S) := by
  simp [lenO, lenD, h]
section
variable {S : AH} {Q : D → AH → Prop} {E : Xn → AH → Prop}
/-- names that are all different -/
theorem are_unlike {xs : List Str} {d : D} (hd : d = .tup (xs.map D.str) ∨ ∃ i, d = .obj i ∧ S[i]? = some (.lst (xs.map D.str))) (hn : xs.Nodup) (hz : xs.length ≤ 1000) (h : ∀ S', Ext E0 S S' → Q (.bl true) S') : wp (F_are_unlike [d] S) Q E := by
  have hbig := sizeLine_big
  unfold F_are_unlike b_are_unlike
  have hg : ∃ gd : AH → Bool, seqIt S d = some ⟨xs.map D.str, gd⟩ ∧ ∀ S2, Ext E0 S S2 → gd S2 = true := by
    rcases hd with rfl | ⟨i, rfl, hi⟩
    · exact ⟨_, rfl, fun _ _ => rfl⟩
    · exact ⟨_, seqIt_obj hi, fun S2 hx => lstG_ok (hx.get _ _ (fun z => z) hi)⟩
  obtain ⟨gd, hs, hg⟩ := hg
  simp_arith [wp_eDc, hs]
  refine dc_go (fun k acc S2 => acc.map (·.1) = (xs.take k).map Sum.inr ∧ Ext E0 S S2) (xs.map D.str) (fun k d acc S2 hd hj ⟨hf, hx⟩ => ⟨hg S2 hx, ?_⟩) (fun acc S2 hj ⟨hf, hx⟩ => ⟨hg S2 hx, ?_⟩) _ 0 (by simp) rfl [] _ (by simp) ⟨by simp, .app⟩
  · simp only [List.getElem?_map, Option.map_eq_some_iff] at hd
    obtain ⟨x, hd, rfl⟩ := hd
    have hk := (List.getElem?_eq_some_iff.mp hd).1
    have hl : acc.length = k := by
      have := congrArg List.length hf
      simp at this; omega
    have hno : (Sum.inr x : Key) ∉ acc.map (·.1) := by
      rw [hf]
      intro z
      obtain ⟨y, hy, e⟩ := List.mem_map.mp z
      cases e
      obtain ⟨a, ha, e⟩ := List.mem_iff_getElem.mp hy
      rw [List.length_take] at ha
      rw [List.getElem_take] at e
      obtain ⟨_, e2⟩ := List.getElem?_eq_some_iff.mp hd
      have := (List.getElem_inj hn).mp (e.trans e2.symm)
      omega
    simp_arith []
    refine ⟨hj, _, rfl, by omega, ?_, hx.setT (.inr (Nat.le_refl _))⟩
    unfold putD
    rw [getK_no hno, List.take_add_one, hd]
    simp [hf]
  · have hl : acc.length = xs.length := by
      have := congrArg List.length hf
      simpa using this
    have hlen : lenO [d] S2 = some (.int xs.length, S2) := by
      rcases hd with rfl | ⟨i, rfl, hi⟩
      · rw [len_tup, List.length_map]
      · rw [len_obj (hx.get _ _ (fun z => z) hi), List.length_map]
    simp_arith [len_dic hj (by omega), hlen, hl]
    exact h S2 hx
/-- no statement calls a help -/
def noDo (l : List Stm) : Prop := ∀ s ∈ alls l, ∀ i, s ≠ .do_ i
theorem not_do {s : Stm} (h : ∀ i, s ≠ .do_ i) : ∃ z r, s.d = .tup (.str z :: r) ∧ z ≠ "do" := by
  cases s with
  | do_ i => exact absurd rfl (h i)
  | _ => simp only [Stm.d]; exact ⟨_, _, rfl, by decide⟩
theorem calls_of {l : List Stm} (hz : (alls l).length ≤ 10000) (hn : noDo l) (h : ∀ i S', Ext E0 S S' → S.length ≤ i → S'[i]? = some (.lst []) → Q (.obj i) S') : wp (F_calls_of [bD l] S) Q E := by
  have hbig := sizeLine_big
  unfold F_calls_of b_calls_of
  simp_arith [wp_eDc]
  refine statements_in hz fun i S1 hx hi hl => ?_
  simp_arith [seqIt_obj hl]
  refine dc_go (fun k acc S2 => acc = [] ∧ Ext E0 S1 S2) _ (fun k d acc S2 hd hj ⟨hf, hx2⟩ => ⟨lstG_ok (hx2.get _ _ (fun z => z) hl), ?_⟩) (fun acc S2 hj ⟨hf, hx2⟩ => ⟨lstG_ok (hx2.get _ _ (fun z => z) hl), ?_⟩) _ 0 (by simp) rfl [] _ (by simp) ⟨rfl, .app⟩
  · simp only [List.getElem?_map, Option.map_eq_some_iff] at hd
    obtain ⟨x, hd, rfl⟩ := hd
    obtain ⟨z, r, e, hne⟩ := not_do (hn x (List.mem_of_getElem? hd))
    rw [e]
    simp_arith [hne]
    exact ⟨hj, hf, hx2⟩
  · subst hf
    have hs : sortedO [.obj S1.length] S2 = some (.obj S2.length, S2 ++ [.lst []]) := by
      simp [sortedO, lstOf, hj, ksI, srtI]
    rw [hs, optP_some]
    exact h _ _ ((hx.trans hx2).appT) (by have := (hx.trans hx2).len; omega) (by simp)
end

set_option Elab.async false
set_option linter.all false
set_option maxRecDepth 100000
open PySem PySem.Spec PyProof.Rows L2 Y Z
def nats (l : List Nat) : List D := l.map fun k => D.int (k : Nat)
theorem nin_nats {k : Nat} {i : Nat} {l : List Nat} {S : AH} (h : S[i]? = some (.lst (nats l))) : ninO (.int (k : Nat)) (.obj i) S = some (.bl (!decide (k ∈ l)), S) := by
  unfold ninO inD
  have hf : (nats l).all flatD = true := by simp [nats, flatD]
  simp only [seqOf, h, flatD, hf, and_self, if_true, Option.map_some]
  congr 3
  rw [Bool.eq_iff_iff]
  simp only [Bool.not_eq_true', decide_eq_false_iff_not, nats, List.any_map, Function.comp_def, eqF]
  rw [Bool.eq_false_iff]
  simp only [ne_eq, List.any_eq_true, beq_iff_eq, not_exists, not_and]
  exact ⟨fun h hm => h k hm rfl, fun h x hx e => h (by have : x = k := by omega
                                                       rwa [this] at hx)⟩
section
variable {S : AH} {Q : D → AH → Prop} {E : Xn → AH → Prop}
theorem rngL_get {n k : Nat} {d : D} (h : (rngL 0 n)[k]? = some d) : k < n ∧ d = .int (k : Nat) := by
  simp only [rngL, List.getElem?_map, Option.map_eq_some_iff] at h
  obtain ⟨a, ha, rfl⟩ := h
  obtain ⟨hl, e⟩ := List.getElem?_eq_some_iff.mp ha
  simp at hl e
  subst e
  exact ⟨hl, by simp⟩
theorem rng1_nat {n : Nat} (h : n < 1000000) : rngIt1 [.int (n : Nat)] = some ⟨rngL 0 n, fun _ => true⟩ := by
  simp only [rngIt1]
  rw [if_pos ⟨by omega, by omega⟩]
  simp
theorem all_nil {i : Nat} {S : AH} (h : S[i]? = some (.lst [])) : allO [.obj i] S = some (.bl true, S) := all_bls (bs := []) h
def upTo (k : Nat) (l : List Nat) : List Nat := l.filter fun a => decide (k ≤ a)
theorem help_order {p : Per} (hl : p.helps.length ≤ 6) (hh : ∀ h ∈ p.helps, (alls h.2).length ≤ 10000 ∧ noDo h.2) (h : ∀ i S', Ext E0 S S' → S.length ≤ i → S'[i]? = some (.lst (nats (List.range p.helps.length))) → Q (.obj i) S') : wp (F_help_order [p.d] S) Q E := by
  have hbig := sizeLine_big
  unfold F_help_order b_help_order Per.d
  simp_arith [seqIt_tup]
  refine wp_lc (fun k acc S2 => Ext E0 S S2 ∧ ∃ os : List Nat, acc = os.map D.obj ∧ os.length = k ∧ ∀ o ∈ os, S2[o]? = some (.lst []) ∧ o ≠ S.length) (acc := []) (by simp) ⟨.app, [], rfl, rfl, by simp⟩ (fun k d acc S2 hd hj ⟨hx, os, hf, hk, ho⟩ => ⟨rfl, ?_⟩) (fun acc S2 hj ⟨hx, os, hf, hk, ho⟩ => ⟨rfl, ?_⟩)
  · simp only [List.getElem?_map, Option.map_eq_some_iff] at hd
    obtain ⟨x, hd, rfl⟩ := hd
    have hlt := (List.getElem?_eq_some_iff.mp hd).1
    simp_arith [helpD]
    obtain ⟨h1, h2⟩ := hh x (List.mem_of_getElem? hd)
    refine calls_of h1 h2 fun i S3 hx3 hi hl3 => ?_
    have hjl := get_lt hj
    refine ⟨hx3.get _ _ (fun z => z) hj, by rw [hf, List.length_map]; omega, (hx.trans hx3).setT (.inr (Nat.le_refl _)), os ++ [i], by rw [hf]; simp, by simp [hk], fun o hm => ?_⟩
    rcases List.mem_append.mp hm with hm | hm
    · obtain ⟨a1, a2⟩ := ho o hm
      exact ⟨by rw [get_setne (Ne.symm a2)]; exact hx3.get _ _ (fun z => z) a1, a2⟩
    · have : o = i := by simpa using hm
      subst this
      exact ⟨by rw [get_setne (by omega)]; exact hl3, by omega⟩
  · subst hf
    rw [List.length_map] at hk
    have hj1 : (S2 ++ [Ob.lst []])[S.length]? = some (.lst (os.map D.obj)) := by rw [List.getElem?_append_left (get_lt hj)]; exact hj
    simp_arith [seqIt_obj hj1]
    have hSl := get_lt hj
    refine wp_for (fun k env S3 => ∃ a b : Option D, env = [some (.tup [.str p.name, .tup (p.ins.map D.str), .tup (p.helps.map helpD), bD p.body]), some (.obj S.length), some (.obj S2.length), a, b, none, none, none] ∧ Ext E0 S2 S3 ∧ S3[S2.length]? = some (.lst (nats (List.range k))))
      ⟨_, _, rfl, .app, by simp [nats]⟩ ?_ ?_
    · rintro k dk env S3 hkk ⟨a, b, rfl, hx3, hor⟩
      have hca := hx3.get _ _ (fun z => z) hj
      refine ⟨lstG_ok hca, ?_⟩
      have hkn : k < p.helps.length := by
        have := (List.getElem?_eq_some_iff.mp hkk).1
        simp at this; omega
      have hlen3 : lenO [.obj S.length] S3 = some (.int (p.helps.length : Nat), S3) := by rw [len_obj hca, List.length_map, hk]
      have hr1 : rngIt1 [.int (p.helps.length : Nat)] = some ⟨rngL 0 p.helps.length, fun _ => true⟩ := rng1_nat (by omega)
      simp_all_arith
      rw [hlen3, optP_some, hr1, optI_some]
      refine wp_lc (fun i acc S4 => Ext E0 S3 S4 ∧ acc = nats (upTo k (List.range i))) (acc := []) (by simp) ⟨.app, by simp [nats, upTo]⟩ (fun i d acc S4 hd hj4 ⟨hx4, hf4⟩ => ⟨rfl, ?_⟩) (fun acc S4 hj4 ⟨hx4, hf4⟩ => ⟨rfl, ?_⟩)
      · obtain ⟨hi, rfl⟩ := rngL_get hd
        have hor4 := hx4.get _ _ (fun z => z) hor
        have hca4 := hx4.get _ _ (fun z => z) hca
        have hup : upTo k (List.range (i + 1)) = upTo k (List.range i) ++ if k ≤ i then [i] else [] := by
          unfold upTo
          rw [List.range_succ, List.filter_append]
          by_cases hki : k ≤ i <;> simp [hki]
        have hal : acc.length ≤ 1000 := by
          rw [hf4]
          simp only [nats, upTo, List.length_map]
          have := List.length_filter_le (fun a => decide (k ≤ a)) (List.range i)
          simp at this; omega
        simp_arith [nin_nats hor4]
        by_cases hki : k ≤ i
        · rw [show decide (i ∈ List.range k) = false from decide_eq_false (by simp; omega)]
          have hoi : os[i]? = some os[i] := List.getElem?_eq_getElem (by omega)
          simp_arith []
          rw [ix_obj hca4, List.getElem?_map, hoi]
          simp_arith []
          have ho4 := hx4.get _ _ (fun z => z) (hx3.get _ _ (fun z => z) (ho os[i] (List.getElem_mem _)).1)
          simp_arith [seqIt_obj ho4]
          refine lcX (A := E0) (X := D) (xs := []) (φ := id) (QD := fun d S2 => optP (allO [d] S2) _) (fun d => d) (by simp) (fun z => z) (fun S5 hx5 => lstG_ok (hx5.get _ _ (fun z => z) ho4)) (fun x _ hs => by cases hs) fun S5 hx5 hj5 => ?_
          rw [all_nil hj5]
          simp_arith []
          refine ⟨hx5.get _ _ (fun z => z) hj4, by omega, (hx4.trans hx5).setT (.inr (Nat.le_refl _)), ?_⟩
          rw [hup, if_pos hki, hf4]
          simp [nats]
        · rw [show decide (i ∈ List.range k) = true from decide_eq_true (by simp; omega)]
          simp_arith []
          refine ⟨hj4, hx4, ?_⟩
          rw [hup, if_neg hki, hf4]
          simp
      · rw [rng_len] at hf4
        have hfree : upTo k (List.range p.helps.length) = k :: upTo (k + 1) (List.range p.helps.length) := by
          have : ∀ n, k < n → upTo k (List.range n) = k :: upTo (k + 1) (List.range n) := by
            intro n
            induction n with
            | zero => intro h; omega
            | succ n ih =>
              intro h
              by_cases hn : k < n
              · have h1 := ih hn
                simp only [upTo, List.range_succ, List.filter_append] at h1 ⊢
                rw [h1]
                have : k ≤ n := by omega
                have : k + 1 ≤ n := by omega
                simp [*]
              · have : k = n := by omega
                subst this
                have h0 : (List.range k).filter (fun a => decide (k ≤ a)) = [] := by rw [List.filter_eq_nil_iff]; intro a ha; simp at ha ⊢; omega
                have h1 : (List.range k).filter (fun a => decide (k + 1 ≤ a)) = [] := by rw [List.filter_eq_nil_iff]; intro a ha; simp at ha ⊢; omega
                simp [upTo, List.range_succ, List.filter_append, h0, h1]
          exact this _ hkn
        rw [hfree] at hf4
        subst hf4
        have hor4 := hx4.get _ _ (fun z => z) hor
        simp_arith [len_obj hj4]
        rw [decide_eq_false (by simp [nats]; omega)]
        have ix : ixO (.obj S3.length) (.int 0) S4 = some (.int (k : Nat), S4) := by
          rw [show (D.int 0) = D.int ((0 : Nat) : Int) from rfl, ix_obj hj4]
          rfl
        simp_arith [isLst_obj hor4, ix, app_lst hor4 (show (nats (List.range k)).length < sizeLine by simp [nats]; omega)]
        refine ⟨_, _, rfl, (hx3.trans hx4).setT (.inr (Nat.le_refl _)), ?_⟩
        rw [get_set hor4, List.range_succ]
        simp [nats]
    · rintro env S3 ⟨a, b, rfl, hx3, hor⟩
      refine ⟨lstG_ok (hx3.get _ _ (fun z => z) hj), ?_⟩
      simp_arith []
      rw [List.length_map, hk] at hor
      exact h _ S3 (hx.trans hx3) hx.len hor
end

set_option Elab.async false
set_option linter.all false
set_option maxRecDepth 100000
open PySem PySem.Spec PyProof.Rows L2 Y Z
section
variable {S : AH} {Q : D → AH → Prop} {E : Xn → AH → Prop}
/-- the person at sends on and takes from its own wires only -/
def ownW (ws : List Wir) (at_ : Int) (s : Stm) : Prop := match s with
  | .send k _ => ∃ (n : Nat) (w : Wir), k = (n : Int) ∧ ws[n]? = some w ∧ w.s = at_
  | .take k _ => ∃ (n : Nat) (w : Wir), k = (n : Int) ∧ ws[n]? = some w ∧ w.t = at_
  | _ => True
theorem ix_wire {ws : List Wir} {n : Nat} {w : Wir} {S : AH} (h : ws[n]? = some w) : ixO (.tup (ws.map Wir.d)) (.int (n : Nat)) S = some (w.d, S) := by
  rw [ix_tup, List.getElem?_map, h]; rfl
theorem wire_fault {p : Per} {ws : List Wir} {at_ : Int} (hl : p.helps.length ≤ 6) (hz : ∀ b ∈ p.blocks, (alls b).length ≤ 10000) (ho : ∀ b ∈ p.blocks, ∀ s ∈ alls b, ownW ws at_ s) (h : ∀ S', Ext E0 S S' → Q .non S') : wp (F_wire_fault [.tup (ws.map Wir.d), .int at_, p.d] S) Q E := by
  unfold F_wire_fault b_wire_fault
  simp_arith []
  refine whole_blocks hl fun i S1 hx hi hl1 => ?_
  simp_arith [seqIt_obj hl1]
  refine wp_for (fun k env S2 => ∃ a b : Option D, env = [some (.tup (ws.map Wir.d)), some (.int at_), some p.d, a, b] ∧ Ext E0 S1 S2) ⟨_, _, rfl, .refl⟩ ?_ ?_
  · rintro k d env S2 hk ⟨a, b, rfl, hx2⟩
    refine ⟨lstG_ok (hx2.get _ _ (fun z => z) hl1), ?_⟩
    simp only [List.getElem?_map, Option.map_eq_some_iff] at hk
    obtain ⟨x, hk, rfl⟩ := hk
    have hxm := List.mem_of_getElem? hk
    simp_arith []
    refine statements_in (hz x hxm) fun j S3 hx3 hj hl3 => ?_
    simp_arith [seqIt_obj hl3]
    refine wp_for (fun k env S4 => ∃ b : Option D, env = [some (.tup (ws.map Wir.d)), some (.int at_), some p.d, some (bD x), b] ∧ Ext E0 S3 S4) ⟨_, rfl, .refl⟩ ?_ ?_
    · rintro k' d env S4 hk' ⟨b, rfl, hx4⟩
      refine ⟨lstG_ok (hx4.get _ _ (fun z => z) hl3), ?_⟩
      simp only [List.getElem?_map, Option.map_eq_some_iff] at hk'
      obtain ⟨s, hk', rfl⟩ := hk'
      have hs := ho x hxm s (List.mem_of_getElem? hk')
      cases s with
      | send k e =>
        obtain ⟨n, w, rfl, hw, he⟩ := hs
        simp only [Stm.d]
        simp_arith [ix_wire hw, Wir.d, he]
        exact ⟨_, rfl, hx4⟩
      | take k e =>
        obtain ⟨n, w, rfl, hw, he⟩ := hs
        simp only [Stm.d]
        simp_arith [ix_wire hw, Wir.d, he]
        exact ⟨_, rfl, hx4⟩
      | _ =>
        simp only [Stm.d]
        simp_arith []
        exact ⟨_, rfl, hx4⟩
    · rintro env S4 ⟨b, rfl, hx4⟩
      refine ⟨lstG_ok (hx4.get _ _ (fun z => z) hl3), ?_⟩
      simp_arith []
      exact ⟨_, _, rfl, hx2.trans (hx3.trans hx4)⟩
  · rintro env S2 ⟨a, b, rfl, hx2⟩
    refine ⟨lstG_ok (hx2.get _ _ (fun z => z) hl1), ?_⟩
    simp_arith []
    exact h S2 (hx.trans hx2)
end

set_option Elab.async false
set_option linter.all false
set_option maxRecDepth 100000
open PySem PySem.Spec PyProof.Rows L2 Y Z
section
variable {S : AH} {Q : D → AH → Prop} {E : Xn → AH → Prop}
theorem cut2 {x a : D} {S : AH} : slO (.tup [x, a]) (some 1) none S = some (.tup [a], S) := rfl
theorem cut3 {x a b : D} {S : AH} : slO (.tup [x, a, b]) (some 1) none S = some (.tup [a, b], S) := rfl
def Ex.nms : Ex → List Str
  | .num _ => [] | .nam z => [z] | .neg e => e.nms | .bin _ a b => a.nms ++ b.nms
def Ex.len : Ex → Nat
  | .bin _ a b => a.len + b.len + 1 | .neg e => e.len + 1 | _ => 1
theorem nin_strs_obj {z : Str} {i : Nat} {l : List Str} {S : AH} (h : S[i]? = some (.lst (l.map D.str))) : ninO (.str z) (.obj i) S = some (.bl (!decide (z ∈ l)), S) := by
  have := nin_strs (z := z) (l := l) (S := S)
  unfold ninO inD at this ⊢
  simp only [seqOf, h] at this ⊢
  exact this
theorem szs_append1 (l : List Ex) (x : Ex) : szs (l ++ [x]) = szs l + x.sz := by simp [szs]
/-- the names in an expression: some of them, once each -/
theorem names_in {m : Int} {e : Ex} (ho : e.ok m) (hz : e.sz ≤ 1000) (h : ∀ i S' (ns : List Str), Ext E0 S S' → S.length ≤ i → S'[i]? = some (.lst (ns.map D.str)) → (∀ z ∈ ns, z ∈ e.nms) → ns.length ≤ 1000 → Q (.obj i) S') : wp (F_names_in [e.d] S) Q E := by
  have hbig := sizeLine_big
  unfold F_names_in b_names_in
  simp_arith []
  have wlen : (S ++ [Ob.lst []]).length = S.length + 1 := by simp
  rw [wlen]
  refine wp_while (fun n env S1 => ∃ (b : Option D) (W : List Ex) (ns : List Str), env = [some e.d, some (.obj S.length), some (.obj (S.length + 1)), b] ∧ Ext E0 S S1 ∧ S1[S.length]? = some (.lst (ns.map D.str)) ∧ S1[S.length + 1]? = some (.lst (W.map Ex.d)) ∧ (∀ x ∈ W, x.ok m ∧ ∀ z ∈ x.nms, z ∈ e.nms) ∧ (∀ z ∈ ns, z ∈ e.nms) ∧ ns.length + szs W ≤ 1000 ∧ n = szs W)
    e.sz ⟨_, [e], [], rfl, .app, by simp, by rw [List.append_cons, List.getElem?_append_right (by simp)]; simp, by simpa using ho, by simp, by simpa [szs] using hz, by simp [szs]⟩ (by omega) ?_
  rintro n env S1 ⟨b, W, ns, rfl, hx, hf, hw, hW, hns, hsz, rfl⟩
  simp_arith [len_obj hw]
  rcases List.eq_nil_or_concat W with rfl | ⟨W', x, rfl⟩
  · simp_arith [List.map_nil, List.length_nil, Int.natCast_zero]
    exact h S.length S1 ns hx (Nat.le_refl _) hf hns (by omega)
  · rw [List.concat_eq_append] at *
    rw [decide_eq_true (by simp), ch_t]
    rw [List.map_append, List.map_cons, List.map_nil] at hw
    rw [szs_append1] at *
    have hf2 : (S1.set (S.length + 1) (.lst (W'.map Ex.d)))[S.length]? = some (.lst (ns.map D.str)) := by rw [get_setne (by omega)]; exact hf
    have hw2 : (S1.set (S.length + 1) (.lst (W'.map Ex.d)))[S.length + 1]? = some (.lst (W'.map Ex.d)) := get_set hw
    have hx2 : Ext E0 S (S1.set (S.length + 1) (.lst (W'.map Ex.d))) := hx.setT (.inr (by omega))
    have hW' : ∀ y ∈ W', y.ok m ∧ ∀ z ∈ y.nms, z ∈ e.nms := fun y hy => hW y (by simp [hy])
    obtain ⟨hxo, hxn⟩ := hW x (by simp)
    have hx1 := x.sz1
    have hl : W'.length ≤ szs W' := szs_len W'
    simp_arith [isLst_obj hw, pop_lst hw]
    cases x with
    | num i =>
      simp only [Ex.d]
      simp_arith []
      exact ⟨szs W', by omega, _, W', ns, rfl, hx2, hf2, hw2, hW', hns, by omega, rfl⟩
    | nam z =>
      simp only [Ex.d]
      simp_arith [nin_strs_obj hf2]
      refine ch_i (fun hc => ?_) fun hc => ?_
      · simp_arith [isLst_obj hf2, app_lst hf2 (by simp; omega)]
        refine ⟨szs W', by omega, _, W', ns ++ [z], rfl, hx2.setT (.inr (Nat.le_refl _)), by rw [get_set hf2]; simp, by rw [get_setne (by omega)]; exact hw2, hW', fun y hy => ?_, by simp [Ex.sz] at hsz ⊢; omega, rfl⟩
        rcases List.mem_append.mp hy with hy | hy
        · exact hns y hy
        · simp at hy; subst hy; exact hxn _ (by simp [Ex.nms])
      · exact ⟨szs W', by omega, _, W', ns, rfl, hx2, hf2, hw2, hW', hns, by omega, rfl⟩
    | neg a =>
      simp only [Ex.d]
      simp_arith [cut2, rev_tup, isLst_obj hw2, ext_tup hw2 (m := [a.d].reverse) (by simp; omega)]
      refine ⟨szs (W' ++ [a]), by rw [szs_append1]; simp [Ex.sz], _, W' ++ [a], ns, rfl, hx2.setT (.inr (by omega)), by rw [get_setne (by omega)]; exact hf2, by rw [get_set hw2]; simp, fun y hy => ?_, hns, by rw [szs_append1]; simp [Ex.sz] at hsz; omega, rfl⟩
      rcases List.mem_append.mp hy with hy | hy
      · exact hW' y hy
      · simp at hy; subst hy; exact ⟨hxo, hxn⟩
    | bin s a b =>
      obtain ⟨h1, h2, h3⟩ := sign_not hxo.1
      simp only [Ex.d]
      simp_arith [h1, h2, cut3, rev_tup, isLst_obj hw2, ext_tup hw2 (m := [a.d, b.d].reverse) (by simp; omega)]
      refine ⟨szs (W' ++ [b, a]), by rw [szs_app]; simp [Ex.sz, szs]; omega, _, W' ++ [b, a], ns, rfl, hx2.setT (.inr (by omega)), by rw [get_setne (by omega)]; exact hf2, by rw [get_set hw2]; simp, fun y hy => ?_, hns, by rw [szs_app]; simp [Ex.sz, szs] at hsz ⊢; omega, rfl⟩
      rcases List.mem_append.mp hy with hy | hy
      · exact hW' y hy
      · simp at hy
        rcases hy with rfl | rfl
        · exact ⟨hxo.2.2, fun z hz => hxn z (by simp [Ex.nms, hz])⟩
        · exact ⟨hxo.2.1, fun z hz => hxn z (by simp [Ex.nms, hz])⟩
end

set_option Elab.async false
set_option linter.all false
set_option maxRecDepth 100000
open PySem PySem.Spec PyProof.Rows L2 Y Z
section
variable {S : AH} {Q : D → AH → Prop} {E : Xn → AH → Prop}
def Stm.exs : Stm → List Ex
  | .say e => [e] | .set _ e => [e] | .send _ e => [e] | .ite e _ _ => [e] | .rnd e _ => [e] | _ => []
theorem expressions_in {l : List Stm} (hz : (alls l).length ≤ 10000) (h : ∀ i S', Ext E0 S S' → S.length ≤ i → S'[i]? = some (.lst (((alls l).flatMap Stm.exs).map Ex.d)) → Q (.obj i) S') : wp (F_expressions_in [bD l] S) Q E := by
  have hbig := sizeLine_big
  unfold F_expressions_in b_expressions_in
  simp_arith []
  refine statements_in hz fun i S1 hx hi hl1 => ?_
  have hfn := hx.get _ _ (fun z => z) (show (S ++ [Ob.lst []])[S.length]? = some (.lst []) by simp)
  have hx0 : Ext E0 S S1 := Ext.app.trans hx
  have hne : i ≠ S.length := by simp at hi; omega
  simp_arith [seqIt_obj hl1]
  refine wp_for (fun k env S2 => ∃ a : Option D, env = [some (bD l), some (.obj S.length), a] ∧ Ext E0 S S2 ∧ S2[i]? = some (.lst ((alls l).map Stm.d)) ∧ S2[S.length]? = some (.lst ((((alls l).take k).flatMap Stm.exs).map Ex.d)) ∧ (((alls l).take k).flatMap Stm.exs).length ≤ k ∧ k ≤ (alls l).length) ⟨_, rfl, hx0, hl1, by simpa using hfn, by simp, Nat.zero_le _⟩ ?_ ?_
  · rintro k d env S2 hk ⟨a, rfl, hx2, hl2, hf2, hk2, hk3⟩
    refine ⟨lstG_ok hl2, ?_⟩
    simp only [List.getElem?_map, Option.map_eq_some_iff] at hk
    obtain ⟨s, hk, rfl⟩ := hk
    have hkl := (List.getElem?_eq_some_iff.mp hk).1
    have ht : (alls l).take (k + 1) = (alls l).take k ++ [s] := by rw [List.take_add_one, hk]; rfl
    have hap : ∀ x : Ex, appO (.obj S.length) [x.d] S2 = some (.non, S2.set S.length (.lst ((((alls l).take k).flatMap Stm.exs).map Ex.d ++ [x.d]))) := fun x => app_lst hf2 (by rw [List.length_map]; omega)
    have fin : ∀ x : Ex, s.exs = [x] → ∃ a : Option D, [some (bD l), some (D.obj S.length), some s.d] = [some (bD l), some (.obj S.length), a] ∧ Ext E0 S (S2.set S.length (.lst ((((alls l).take k).flatMap Stm.exs).map Ex.d ++ [x.d]))) ∧ (S2.set S.length (.lst ((((alls l).take k).flatMap Stm.exs).map Ex.d ++ [x.d])))[i]? = some (.lst ((alls l).map Stm.d)) ∧ (S2.set S.length (.lst ((((alls l).take k).flatMap Stm.exs).map Ex.d ++ [x.d])))[S.length]? = some (.lst ((((alls l).take (k + 1)).flatMap Stm.exs).map Ex.d)) ∧ (((alls l).take (k + 1)).flatMap Stm.exs).length ≤ k + 1 ∧ k + 1 ≤ (alls l).length := fun x hx' => by
      refine ⟨_, rfl, hx2.setT (.inr (Nat.le_refl _)), by rw [get_setne (Ne.symm hne)]; exact hl2, ?_, ?_, hkl⟩
      · rw [get_set hf2, ht]; simp [hx']
      · rw [ht]; simp [hx'] at hk2 ⊢; omega
    have fin0 : s.exs = [] → ∃ a : Option D, [some (bD l), some (D.obj S.length), some s.d] = [some (bD l), some (.obj S.length), a] ∧ Ext E0 S S2 ∧ S2[i]? = some (.lst ((alls l).map Stm.d)) ∧ S2[S.length]? = some (.lst ((((alls l).take (k + 1)).flatMap Stm.exs).map Ex.d)) ∧ (((alls l).take (k + 1)).flatMap Stm.exs).length ≤ k + 1 ∧ k + 1 ≤ (alls l).length := fun hx' => by
      refine ⟨_, rfl, hx2, hl2, ?_, ?_, hkl⟩
      · rw [hf2, ht]; simp [hx']
      · rw [ht]; simp [hx'] at hk2 ⊢; omega
    cases s with
    | say e => simp only [Stm.d] at fin ⊢; simp_arith [isLst_obj hf2, hap]; exact fin e rfl
    | set x e => simp only [Stm.d] at fin ⊢; simp_arith [isLst_obj hf2, hap]; exact fin e rfl
    | send x e => simp only [Stm.d] at fin ⊢; simp_arith [isLst_obj hf2, hap]; exact fin e rfl
    | ite e a b => simp only [Stm.d] at fin ⊢; simp_arith [isLst_obj hf2, hap]; exact fin e rfl
    | rnd e a => simp only [Stm.d] at fin ⊢; simp_arith [isLst_obj hf2, hap]; exact fin e rfl
    | do_ i => simp only [Stm.d] at fin0 ⊢; simp_arith []; exact fin0 rfl
    | take w x => simp only [Stm.d] at fin0 ⊢; simp_arith []; exact fin0 rfl
  · rintro env S2 ⟨a, rfl, hx2, hl2, hf2, hk2, hk3⟩
    refine ⟨lstG_ok hl2, ?_⟩
    simp_arith []
    rw [List.length_map, List.take_length] at hf2
    exact h S.length S2 hx2 (Nat.le_refl _) hf2
end

set_option Elab.async false
set_option linter.all false
set_option maxRecDepth 100000
open PySem PySem.Spec PyProof.Rows L2 Y Z
section
variable {S : AH} {Q : D → AH → Prop} {E : Xn → AH → Prop}
mutual
def Stm.wt (m : Int) (hw : Int → Int) : Stm → Int
  | .ite _ a b => 1 + max (wts m hw a) (wts m hw b)
  | .rnd _ a => 1 + (m - 1) * wts m hw a
  | .do_ i => 1 + hw i
  | _ => 1
def wts (m : Int) (hw : Int → Int) : List Stm → Int
  | [] => 0
  | s :: r => s.wt m hw + wts m hw r
end
theorem wts_app {m hw} : ∀ l r : List Stm, wts m hw (l ++ r) = wts m hw l + wts m hw r
  | [], r => by simp [wts]
  | s :: l, r => by simp only [List.cons_append, wts, wts_app l r]; omega
theorem max2 {i : Nat} {a b : Int} {S : AH} (h : S[i]? = some (.lst [.int a, .int b])) : maxO [.obj i] S = some (.int (max a b), S) := by
  simp [maxO, lstOf, h, intsOf, maxL]
theorem aug_int {a b : Int} {S : AH} : intO (fun i j => some (.int (i + j))) (.int a) (.int b) S = some (.int (a + b), S) := rfl
theorem mul_int {a b : Int} {S : AH} (h : 0 ≤ a ∧ a < 100) : mulO (.int a) (.int b) S = some (.int (a * b), S) := by
  show (if _ then _ else _) = _
  rw [if_pos (.inl ⟨by omega, by omega⟩)]
theorem sub_int {a b : Int} {S : AH} : subO (.int a) (.int b) S = some (.int (a - b), S) := rfl
theorem dget_int {i : Nat} {kvs : List (Key × D)} {k : Int} {d : D} {S : AH} (h : S[i]? = some (.dic kvs)) (hk : getK kvs (.inl k) = some d) : dgetO (.obj i) (.int k) S = some (d, S) := by
  simp [dgetO, h, kD, hk]
theorem mem_alls_sub {s : Stm} {b : List Stm} (hb : b ∈ s.subs) : ∀ x ∈ alls b, x ∈ s.all := by
  intro x hx
  rw [all_subs]
  refine List.mem_cons_of_mem _ ?_
  cases s <;> simp [Stm.subs] at hb
  · rcases hb with rfl | rfl <;> simp [Stm.subs, alls_app, hx]
  · subst hb; simp [Stm.subs, hx]
theorem mem_all_alls : ∀ {l : List Stm} {s : Stm}, s ∈ l → ∀ x ∈ s.all, x ∈ alls l
  | t :: r, s, h, x, hx => by
    rcases List.mem_cons.mp h with rfl | h
    · simp [alls, hx]
    · simp [alls, mem_all_alls h x hx]
theorem block_weight {m : Int} {hw : Int → Int} {dd : Nat} {kvs : List (Key × D)} (hm : 1 ≤ m ∧ m ≤ 16) : ∀ (n : Nat) (l : List Stm) (S : AH) (Q : D → AH → Prop) (E : Xn → AH → Prop), bhs l ≤ n → (∀ s ∈ alls l, ∀ i, s = .do_ i → getK kvs (.inl i) = some (.int (hw i))) → S[dd]? = some (.dic kvs) →
    (∀ S', Ext E0 S S' → Q (.int (wts m hw l)) S') → wp (F_block_weight n [bD l, .int m, .obj dd] S) Q E
  | 0, l, S, Q, E, hn, _, _, _ => by have := bhs1 l; omega
  | n + 1, l, S, Q, E, hn, hd, hdd, h => by
    have hbig := sizeLine_big
    rw [F_block_weight]
    unfold b_block_weight bD
    simp_arith [seqIt_tup]
    refine wp_for (fun k env S2 => ∃ a b : Option D, env = [some (.tup (l.map Stm.d)), some (.int m), some (.obj dd), some (.int (wts m hw (l.take k))), a, b] ∧ Ext E0 S S2) ⟨none, none, by simp [wts], .refl⟩ ?_ ?_
    · rintro k d env S2 hk ⟨a, b, rfl, hx2⟩
      refine ⟨rfl, ?_⟩
      simp only [List.getElem?_map, Option.map_eq_some_iff] at hk
      obtain ⟨s, hk, rfl⟩ := hk
      have hsm := List.mem_of_getElem? hk
      have ht : wts m hw (l.take (k + 1)) = wts m hw (l.take k) + s.wt m hw := by rw [List.take_add_one, hk, wts_app]; simp [wts]
      have hdd2 := hx2.get _ _ (fun z => z) hdd
      have hbh := bhs_mem hsm
      have sub : ∀ b ∈ s.subs, bhs b ≤ n ∧ ∀ x ∈ alls b, ∀ i, x = .do_ i → getK kvs (.inl i) = some (.int (hw i)) := fun b hb => ⟨by have := bh_sub hb; omega, fun x hx => hd x (mem_all_alls hsm x (mem_alls_sub hb x hx))⟩
      cases s with
      | do_ i =>
        have hg := hd (.do_ i) (mem_all_alls hsm _ (by simp [Stm.all])) i rfl
        simp only [Stm.d]
        simp_arith [aug_int, dget_int hdd2 hg]
        exact ⟨_, _, by rw [ht, Stm.wt]; congr 6; omega, hx2⟩
      | rnd e a =>
        obtain ⟨h1, h2⟩ := sub a (by simp [Stm.subs])
        simp only [Stm.d]
        simp_arith [aug_int, blkD_map]
        refine block_weight hm n a S2 _ _ h1 h2 hdd2 fun S3 hx3 => ?_
        rw [mul_int ⟨by omega, by omega⟩, optP_some]
        simp_arith []
        exact ⟨_, _, by rw [ht, Stm.wt, Int.add_assoc], hx2.trans hx3⟩
      | ite e a b =>
        rw [show (Stm.ite e a b).d = .tup [.str "if", e.d, .tup (blkD a), .tup (blkD b)] from by simp [Stm.d]]
        simp_arith [aug_int]
        rw [show D.tup [.str "if", e.d, .tup (blkD a), .tup (blkD b)] = (Stm.ite e a b).d from by simp [Stm.d]]
        refine blocks_in_stm fun i S3 hx3 hi hl3 => ?_
        simp_arith [seqIt_obj hl3]
        refine lcX (A := E0) (QD := fun d S2 => optP (maxO [d] S2) _) (fun b => .int (wts m hw b)) (by show 2 ≤ sizeLine; omega) (fun z => z) (fun S4 hx4 => lstG_ok (hx4.get _ _ (fun z => z) hl3)) (fun x S4 hs hx4 _ => ?_) fun S4 hx4 hj4 => ?_
        · obtain ⟨h1, h2⟩ := sub x hs
          simp_arith []
          exact block_weight hm n x S4 _ _ h1 h2 (hx4.get _ _ (fun z => z) (hx3.get _ _ (fun z => z) hdd2)) fun S5 hx5 => ⟨rfl, hx5⟩
        · have hm2 := max2 (S := S4) hj4
          rw [hm2, optP_some]
          simp_arith [aug_int]
          exact ⟨_, _, by rw [ht, Stm.wt, Int.add_assoc], hx2.trans (hx3.trans hx4)⟩
      | _ =>
        simp only [Stm.d]
        simp_arith [aug_int]
        rw [ht]
        simp only [Stm.wt]
        exact ⟨_, _, rfl, hx2⟩
    · rintro env S2 ⟨a, b, rfl, hx2⟩
      refine ⟨rfl, ?_⟩
      simp_arith []
      rw [List.length_map, List.take_length]
      exact h S2 hx2
end

set_option Elab.async false
set_option linter.all false
set_option maxRecDepth 100000
open PySem PySem.Spec PyProof.Rows L2 Y Z
section
variable {S : AH} {Q : D → AH → Prop} {E : Xn → AH → Prop}
/-- the weights of the helps, as the dict keeps them -/
def kvW (w : Nat → Int) (n : Nat) : List (Key × D) := (List.range n).map fun k => (Sum.inl ((k : Nat) : Int), D.int (w k))
theorem kvW_get {w : Nat → Int} {n k : Nat} (h : k < n) : getK (kvW w n) (.inl ((k : Nat) : Int)) = some (.int (w k)) := by
  unfold getK kvW
  have : ∀ l : List Nat, k ∈ l → ((l.map fun k => ((Sum.inl ((k : Nat) : Int) : Key), D.int (w k))).find? fun kv => decide (kv.1 = Sum.inl ((k : Nat) : Int))) = some (Sum.inl ((k : Nat) : Int), D.int (w k)) := by
    intro l
    induction l with
    | nil => intro h; cases h
    | cons a r ih =>
      intro hm
      rw [List.map_cons, List.find?_cons]
      by_cases ha : a = k
      · subst ha; simp
      · have : (Sum.inl ((a : Nat) : Int) : Key) ≠ Sum.inl ((k : Nat) : Int) := fun e => ha (by injection e with e; omega)
        simp only [this, decide_false]
        exact ih ((List.mem_cons.mp hm).resolve_left fun e => ha e.symm)
  rw [this _ (List.mem_range.mpr h)]
  rfl
theorem kvW_put {w : Nat → Int} {n : Nat} : putD (kvW w n) (.inl ((n : Nat) : Int)) (.int (w n)) = kvW w (n + 1) := by
  unfold putD
  rw [getK_no]
  · simp [kvW, List.range_succ]
  · intro h
    obtain ⟨x, hx, e⟩ := List.mem_map.mp h
    obtain ⟨a, ha, rfl⟩ := List.mem_map.mp hx
    have := List.mem_range.mp ha
    injection e with e
    omega
def hwt (m : Int) (p : Per) (k : Nat) : Int := match p.helps[k]? with
  | some h => wts m (fun _ => 0) h.2
  | none => 0
/-- the weight of a person -/
def Per.wt (m : Int) (p : Per) : Int := wts m (fun i => hwt m p i.toNat) p.body
theorem dput_int {i : Nat} {kvs : List (Key × D)} {k : Int} {v : D} {S : AH} (h : S[i]? = some (.dic kvs)) (hz : kvs.length < sizeLine) : dputO (.obj i) (.int k) v S = some (S.set i (.dic (putD kvs (.inl k) v))) := by
  simp [dputO, h, kD, hz]
theorem person_weight {m : Int} {p : Per} (hm : 1 ≤ m ∧ m ≤ 16) (hl : p.helps.length ≤ 6) (hh : ∀ h ∈ p.helps, (alls h.2).length ≤ 10000 ∧ noDo h.2 ∧ bhs h.2 ≤ 20) (hb : bhs p.body ≤ 20)
    (hd : ∀ s ∈ alls p.body, ∀ i, s = .do_ i → ∃ k : Nat, i = (k : Int) ∧ k < p.helps.length) (h : ∀ S', Ext E0 S S' → Q (.int (p.wt m)) S') : wp (F_person_weight [p.d, .int m] S) Q E := by
  have hbig := sizeLine_big
  unfold F_person_weight b_person_weight
  simp_arith []
  refine help_order hl (fun h hm => ⟨(hh h hm).1, (hh h hm).2.1⟩) fun i S1 hx hi hl1 => ?_
  have hdd := hx.get _ _ (fun z => z) (show (S ++ [Ob.dic []])[S.length]? = some (.dic []) by simp)
  have hx0 : Ext E0 S S1 := Ext.app.trans hx
  have hne : i ≠ S.length := by simp at hi; omega
  simp_arith [seqIt_obj hl1]
  refine wp_for (fun k env S2 => ∃ a : Option D, env = [some p.d, some (.int m), some (.obj S.length), a] ∧ Ext E0 S S2 ∧ S2[i]? = some (.lst (nats (List.range p.helps.length))) ∧ S2[S.length]? = some (.dic (kvW (hwt m p) k)) ∧ k ≤ p.helps.length) ⟨_, rfl, hx0, hl1, hdd, Nat.zero_le _⟩ ?_ ?_
  · rintro k d env S2 hk ⟨a, rfl, hx2, hl2, hd2, hkl⟩
    refine ⟨lstG_ok hl2, ?_⟩
    simp only [nats, List.getElem?_map, Option.map_eq_some_iff] at hk
    obtain ⟨k', hk, rfl⟩ := hk
    obtain ⟨hlt, e⟩ := List.getElem?_eq_some_iff.mp hk
    simp at hlt e
    subst e
    have hget : p.helps[k]? = some p.helps[k] := List.getElem?_eq_getElem hlt
    have hix : ixO (.tup (p.helps.map helpD)) (.int (k : Nat)) S2 = some (helpD p.helps[k], S2) := by rw [ix_tup, List.getElem?_map, hget]; rfl
    obtain ⟨h1, h2, h3⟩ := hh p.helps[k] (List.getElem_mem _)
    simp_arith [Per.d, hix, helpD]
    refine block_weight hm 20 p.helps[k].2 S2 (hw := fun _ => 0) _ _ h3 (fun s hs i e => absurd e (h2 s hs i)) hd2 fun S3 hx3 => ?_
    have hd3 := hx3.get _ _ (fun z => z) hd2
    have hw : hwt m p k = wts m (fun _ => 0) p.helps[k].2 := by unfold hwt; rw [hget]
    simp_arith [dput_int hd3 (show (kvW (hwt m p) k).length < sizeLine by simp [kvW]; omega)]
    refine ⟨_, rfl, (hx2.trans hx3).setT (.inr (Nat.le_refl _)), by rw [get_setne (Ne.symm hne)]; exact hx3.get _ _ (fun z => z) hl2, ?_, hlt⟩
    rw [get_set hd3, ← hw, kvW_put]
  · rintro env S2 ⟨a, rfl, hx2, hl2, hd2, hkl⟩
    refine ⟨lstG_ok hl2, ?_⟩
    simp_arith [Per.d]
    rw [show (nats (List.range p.helps.length)).length = p.helps.length by simp [nats]] at hd2
    refine block_weight hm 20 p.body S2 (hw := fun i => hwt m p i.toNat) _ _ hb (fun s hs i e => ?_) hd2 fun S3 hx3 => h S3 (hx2.trans hx3)
    obtain ⟨k, rfl, hk⟩ := hd s hs i e
    rw [kvW_get hk]
    simp
end

set_option Elab.async false
set_option linter.all false
set_option maxRecDepth 100000
open PySem PySem.Spec PyProof.Rows L2 Y Z
section
variable {S : AH} {Q : D → AH → Prop} {E : Xn → AH → Prop}
/-- the dict at i has names of L for keys, once each -/
def NamD (L : List Str) (i : Nat) (S : AH) : Prop := ∃ (kvs : List (Key × D)) (ks : List Str), S[i]? = some (.dic kvs) ∧ kvs.map (·.1) = ks.map (Sum.inr : Str → Key) ∧ ks.Nodup ∧ ∀ z ∈ ks, z ∈ L
theorem NamD.len {L : List Str} {i : Nat} {kvs : List (Key × D)} {ks : List Str} (h : kvs.map (fun kv : Key × D => kv.1) = ks.map (Sum.inr : Str → Key)) (n : ks.Nodup) (s : ∀ z ∈ ks, z ∈ L) : kvs.length ≤ L.length := by
  have h1 := congrArg List.length h
  have h2 := n.length_le_of_subset s
  simp at h1; omega
theorem putD_keys' {kvs : List (Key × D)} {ks : List Str} {z : Str} {v : D} (h : kvs.map (·.1) = ks.map (Sum.inr : Str → Key)) (n : ks.Nodup) : ∃ ks' : List Str, (putD kvs (.inr z) v).map (·.1) = ks'.map (Sum.inr : Str → Key) ∧ ks'.Nodup ∧ ∀ y ∈ ks', y = z ∨ y ∈ ks := by
  by_cases hz : z ∈ ks
  · refine ⟨ks, ?_, n, fun y hy => .inr hy⟩
    unfold putD
    have : (kvs.any fun kv => decide (kv.1 = Sum.inr z)) = true := by
      have hm : (Sum.inr z : Key) ∈ kvs.map (·.1) := by rw [h]; exact List.mem_map.mpr ⟨z, hz, rfl⟩
      obtain ⟨x, hx, e⟩ := List.mem_map.mp hm
      exact List.any_eq_true.mpr ⟨x, hx, decide_eq_true e⟩
    rw [if_pos this, List.map_map, ← h]
    refine List.map_congr_left fun x _ => ?_
    simp only [Function.comp]
    split <;> rfl
  · refine ⟨ks ++ [z], ?_, ?_, fun y hy => ?_⟩
    · unfold putD
      rw [getK_no (by rw [h]; intro hm; obtain ⟨y, hy, e⟩ := List.mem_map.mp hm; cases e; exact hz hy), if_neg (by simp)]
      simp [h]
    · rw [List.nodup_append]
      exact ⟨n, by simp, fun a ha b hb e => by simp at hb; subst hb; subst e; exact hz ha⟩
    · rcases List.mem_append.mp hy with hy | hy
      · exact .inr hy
      · simp at hy; exact .inl hy
theorem NamD.put {L : List Str} {i : Nat} {z : Str} {v : D} (h : NamD L i S) (hz : z ∈ L) (hl : L.length ≤ 60) : ∃ S', dputO (.obj i) (.str z) v S = some S' ∧ NamD L i S' ∧ ∀ A S0, Ext A S0 S → (A i ∨ S0.length ≤ i) → Ext A S0 S' := by
  have hbig := sizeLine_big
  obtain ⟨kvs, ks, h1, h2, h3, h4⟩ := h
  obtain ⟨ks', e1, e2, e3⟩ := putD_keys' (z := z) (v := v) h2 h3
  have hlen := NamD.len (i := i) h2 h3 h4
  have hlt : kvs.length < sizeLine := by omega
  refine ⟨S.set i (.dic (putD kvs (.inr z) v)), by simp [dputO, h1, kD, hlt], ⟨_, ks', get_set h1, e1, e2, fun y hy => ?_⟩, fun A S0 hx ha => hx.setT ha⟩
  rcases e3 y hy with rfl | hy
  · exact hz
  · exact h4 y hy
theorem NamD.ext {L i S'} (h : NamD L i S) (hx : Ext E0 S S') : NamD L i S' := by
  obtain ⟨kvs, ks, h1, h⟩ := h
  exact ⟨kvs, ks, hx.get _ _ (fun z => z) h1, h⟩
end

set_option Elab.async false
set_option linter.all false
set_option maxRecDepth 100000
open PySem PySem.Spec PyProof.Rows L2 Y Z
section
variable {S : AH} {Q : D → AH → Prop} {E : Xn → AH → Prop} {env : En}
theorem strs_self : ∀ ys : List Str, strsOf (ys.map D.str) = some ys
  | [] => rfl
  | y :: r => by simp [strsOf, strs_self r]
theorem wp_eLcK {i k : Nat} {kvs : List (Key × D)} {t : Eg} {tt : Et} {te : Ev} {vs : List Nat} (he : env[i]? = some (some (.obj k))) (hk : S[k]? = some (.dic kvs)) : wp (eLcK i t tt te vs env S) Q E = wp (lcL S.length (fun _ => true) t tt te (wipeE env vs) (kvs.map fun kv => keyD kv.1) (S.set k .lck ++ [.lst []])) (fun _ S2 => Q (.obj S.length) (S2.set k (.dic kvs))) NE := by
  unfold eLcK
  simp only [he, hk, wp_bind, wp_noX]
  rfl
def nmOk (L : List Str) (s : Stm) : Prop := (∀ x ∈ s.exs, ∀ z ∈ x.nms, z ∈ L) ∧ match s with
  | .set x _ => x ∈ L
  | .take _ x => x ∈ L
  | _ => True
theorem person_names {m : Int} {p : Per} {L : List Str} (hL : L.length ≤ 50) (hl : p.helps.length ≤ 6) (hil : p.ins.length ≤ 4) (hz : ∀ b ∈ p.blocks, (alls b).length ≤ 10000) (ho : ∀ b ∈ p.blocks, ∀ s ∈ alls b, nmOk L s ∧ ∀ x ∈ s.exs, x.ok m ∧ x.sz ≤ 1000)
    (h : ∀ i S' l, Ext E0 S S' → S.length ≤ i → S'[i]? = some (.lst l) → l.length ≤ 60 → Q (.obj i) S') : wp (F_person_names [p.d] S) Q E := by
  have hbig := sizeLine_big
  unfold F_person_names b_person_names
  simp_arith []
  refine whole_blocks hl fun i S1 hx hi hl1 => ?_
  have hnd : NamD L S.length S1 := NamD.ext ⟨[], [], by simp, rfl, by simp, by simp⟩ hx
  have hx0 : Ext E0 S S1 := Ext.app.trans hx
  have hi' : S.length < i := by simp at hi; omega
  have hne : S.length ≠ i := by omega
  simp_arith [seqIt_obj hl1]
  refine wp_for (fun k env S2 => ∃ a b c d : Option D, env = [some p.d, some (.obj S.length), a, b, c, d] ∧ Ext E0 S S2 ∧ S2[i]? = some (.lst (p.blocks.map bD)) ∧ NamD L S.length S2) ⟨_, _, _, _, rfl, hx0, hl1, hnd⟩ ?_ ?_
  · rintro k d env S2 hk ⟨a, b, c, d', rfl, hx2, hl2, hd2⟩
    refine ⟨lstG_ok hl2, ?_⟩
    simp only [List.getElem?_map, Option.map_eq_some_iff] at hk
    obtain ⟨x, hk, rfl⟩ := hk
    have hxm := List.mem_of_getElem? hk
    simp_arith []
    refine statements_in (hz x hxm) fun j S3 hx3 hj hl3 => ?_
    have hlt2 := get_lt hl2
    simp_arith [seqIt_obj hl3]
    refine wp_for (fun k env S4 => ∃ b c d : Option D, env = [some p.d, some (.obj S.length), some (bD x), b, c, d] ∧ Ext E0 S S4 ∧ S4[i]? = some (.lst (p.blocks.map bD)) ∧ NamD L S.length S4 ∧ S4[j]? = some (.lst ((alls x).map Stm.d))) ⟨_, _, _, rfl, hx2.trans hx3, hx3.get _ _ (fun z => z) hl2, hd2.ext hx3, hl3⟩ ?_ ?_
    · rintro k' d env S4 hk' ⟨b, c, d', rfl, hx4, hl4, hd4, hj4⟩
      refine ⟨lstG_ok hj4, ?_⟩
      simp only [List.getElem?_map, Option.map_eq_some_iff] at hk'
      obtain ⟨s, hk', rfl⟩ := hk'
      have hs := (ho x hxm s (List.mem_of_getElem? hk')).1
      have hij : S.length ≠ j := by have := hx2.len; omega
      have fin : ∀ S5, NamD L S.length S5 → (∀ A S0, Ext A S0 S4 → (A S.length ∨ S0.length ≤ S.length) → Ext A S0 S5) → Ext E0 S S5 ∧ S5[i]? = some (.lst (p.blocks.map bD)) ∧ NamD L S.length S5 ∧ S5[j]? = some (.lst ((alls x).map Stm.d)) := fun S5 h5 hx5 => by
        have hg := hx5 (fun a => a = S.length) S4 .refl (.inl rfl)
        exact ⟨hx5 E0 S hx4 (.inr (Nat.le_refl _)), hg.get _ _ (Ne.symm hne) hl4, h5, hg.get _ _ (Ne.symm hij) hj4⟩
      cases s with
      | set z e =>
        obtain ⟨S5, e5, h5, hx5⟩ := NamD.put (v := .bl true) hd4 (show z ∈ L from hs.2) (by omega)
        simp only [Stm.d]
        simp_arith [e5]
        exact ⟨_, _, _, rfl, fin S5 h5 hx5⟩
      | take w z =>
        obtain ⟨S5, e5, h5, hx5⟩ := NamD.put (v := .bl true) hd4 (show z ∈ L from hs.2) (by omega)
        simp only [Stm.d]
        simp_arith [e5]
        exact ⟨_, _, _, rfl, fin S5 h5 hx5⟩
      | _ =>
        simp only [Stm.d]
        simp_arith []
        exact ⟨_, _, _, rfl, hx4, hl4, hd4, hj4⟩
    · rintro env S4 ⟨b, c, d, rfl, hx4, hl4, hd4, hj4⟩
      refine ⟨lstG_ok hj4, ?_⟩
      simp_arith []
      refine expressions_in (hz x hxm) fun e S5 hx5 he hl5 => ?_
      simp_arith [seqIt_obj hl5]
      have hie : S.length ≠ e := by have := get_lt hl4; omega
      refine wp_for (fun k env S6 => ∃ c d : Option D, env = [some p.d, some (.obj S.length), some (bD x), b, c, d] ∧ Ext E0 S S6 ∧ S6[i]? = some (.lst (p.blocks.map bD)) ∧ NamD L S.length S6 ∧ S6[e]? = some (.lst (((alls x).flatMap Stm.exs).map Ex.d))) ⟨_, _, rfl, hx4.trans hx5, hx5.get _ _ (fun z => z) hl4, hd4.ext hx5, hl5⟩ ?_ ?_
      · rintro k6 d6 env S6 hk6 ⟨c, d, rfl, hx6, hl6, hd6, he6⟩
        refine ⟨lstG_ok he6, ?_⟩
        simp only [List.getElem?_map, Option.map_eq_some_iff] at hk6
        obtain ⟨y, hk6, rfl⟩ := hk6
        obtain ⟨s, hs, hy⟩ := List.mem_flatMap.mp (List.mem_of_getElem? hk6)
        obtain ⟨⟨hn1, _⟩, hn2⟩ := ho x hxm s hs
        simp_arith []
        refine names_in (hn2 y hy).1 (hn2 y hy).2 fun q S7 ns hx7 hq hl7 hns _ => ?_
        have hlt6 := hx6.len
        have hiq : S.length ≠ q := by have := get_lt he6; have := get_lt hl6; omega
        simp_arith [seqIt_obj hl7]
        refine wp_for (fun k env S8 => ∃ d : Option D, env = [some p.d, some (.obj S.length), some (bD x), b, some y.d, d] ∧ Ext E0 S S8 ∧ S8[i]? = some (.lst (p.blocks.map bD)) ∧ NamD L S.length S8 ∧ S8[e]? = some (.lst (((alls x).flatMap Stm.exs).map Ex.d)) ∧ S8[q]? = some (.lst (ns.map D.str))) ⟨_, rfl, hx6.trans hx7, hx7.get _ _ (fun z => z) hl6, hd6.ext hx7, hx7.get _ _ (fun z => z) he6, hl7⟩ ?_ ?_
        · rintro k8 d8 env S8 hk8 ⟨d, rfl, hx8, hl8, hd8, he8, hq8⟩
          refine ⟨lstG_ok hq8, ?_⟩
          simp only [List.getElem?_map, Option.map_eq_some_iff] at hk8
          obtain ⟨z, hk8, rfl⟩ := hk8
          obtain ⟨S9, e9, h9, hx9⟩ := NamD.put (v := .bl true) hd8 (hn1 y hy z (hns z (List.mem_of_getElem? hk8))) (by omega)
          simp_arith [e9]
          have hg := hx9 (fun a => a = S.length) S8 .refl (.inl rfl)
          exact ⟨_, rfl, hx9 E0 S hx8 (.inr (Nat.le_refl _)), hg.get _ _ (Ne.symm hne) hl8, h9, hg.get _ _ (Ne.symm hie) he8, hg.get _ _ (Ne.symm hiq) hq8⟩
        · rintro env S8 ⟨d, rfl, hx8, hl8, hd8, he8, hq8⟩
          refine ⟨lstG_ok hq8, ?_⟩
          simp_arith []
          exact ⟨_, _, rfl, hx8, hl8, hd8, he8⟩
      · rintro env S6 ⟨c, d, rfl, hx6, hl6, hd6, he6⟩
        refine ⟨lstG_ok he6, ?_⟩
        simp_arith []
        exact ⟨_, _, _, _, rfl, hx6, hl6, hd6⟩
  · rintro env S2 ⟨a, b, c, d, rfl, hx2, hl2, hd2⟩
    refine ⟨lstG_ok hl2, ?_⟩
    obtain ⟨kvs, ks, hk1, hk2, hk3, hk4⟩ := hd2
    have hkl := NamD.len (i := 0) hk2 hk3 hk4
    have hks : ks.length = kvs.length := by have := congrArg List.length hk2; simpa using this.symm
    have hk1' : (S2 ++ [Ob.lst (p.ins.map D.str)])[S.length]? = some (.dic kvs) := by rw [List.getElem?_append_left (get_lt hk1)]; exact hk1
    have hkeys : (kvs.map fun kv => keyD kv.1) = ks.map D.str := by
      have : (kvs.map fun kv => keyD kv.1) = (kvs.map (·.1)).map keyD := by rw [List.map_map]; rfl
      rw [this, hk2, List.map_map]; rfl
    simp_arith [Per.d, lst_tup]
    rw [wp_eLcK rfl hk1', hkeys]
    have hlS := get_lt hk1
    refine wp_lc (fun k acc S4 => Ext E0 ((S2 ++ [Ob.lst (p.ins.map D.str)]).set S.length .lck) S4 ∧ ∃ ys : List Str, acc = ys.map D.str ∧ ys.length ≤ k) (acc := []) (by simp) ⟨.app, [], rfl, Nat.le_refl _⟩ (fun k d acc S4 hd hj ⟨hx4, ys, hys, hk⟩ => ⟨rfl, ?_⟩) (fun acc S4 hj ⟨hx4, ys, hys, hk⟩ => ⟨rfl, ?_⟩)
    · simp only [List.getElem?_map, Option.map_eq_some_iff] at hd
      obtain ⟨z, hd, rfl⟩ := hd
      have hkk := (List.getElem?_eq_some_iff.mp hd).1
      simp_arith [Per.d]
      refine ch_i (fun _ => ⟨hj, by rw [hys, List.length_map]; omega, hx4.setT (.inr (by simp)), ys ++ [z], by rw [hys]; simp, by simp; omega⟩) fun _ => ⟨hj, hx4, ys, hys, by omega⟩
    · subst hys
      rw [List.length_map] at hk
      have hl0 := hx4.len
      simp at hl0
      have hj5 : (S4.set S.length (.dic kvs))[(S2 ++ [Ob.lst (p.ins.map D.str)]).length]? = some (.lst (ys.map D.str)) := by rw [get_setne (by simp; omega)]; simpa using hj
      have hso : strsOf (ys.map D.str) = some ys := strs_self ys
      have hsort : sortedO [.obj (S2 ++ [Ob.lst (p.ins.map D.str)]).length] (S4.set S.length (.dic kvs)) = some (.obj (S4.set S.length (.dic kvs)).length, (S4.set S.length (.dic kvs)) ++ [.lst ((srtS ys).map D.str)]) := by
        simp only [sortedO, lstOf, hj5, hso]
        rw [if_pos (by omega)]
      have hins : S4[S2.length]? = some (.lst (p.ins.map D.str)) := hx4.get _ _ (fun z => z) (by rw [get_setne (by omega)]; simp)
      have hperm : (srtS ys).length = ys.length := (List.mergeSort_perm ys leS).length_eq
      have hlS4 := get_lt hins
      rw [hsort, optP_some, add_lst (l := p.ins.map D.str) (m := (srtS ys).map D.str) (by rw [List.getElem?_append_left (by simpa using hlS4), get_setne (by omega)]; exact hins) (by simp) (by simp [hperm]; omega), optP_some]
      refine h _ _ (p.ins.map D.str ++ (srtS ys).map D.str) ⟨by simp; have := hx2.len; omega, fun a o _ ha => ?_⟩ (by simp; have := hx2.len; omega) (by simp) (by simp [hperm]; omega)
      have hal := get_lt ha
      have h2 := hx2.get a o (fun z => z) ha
      have h4 := hx4.get a o (fun z => z) (by rw [get_setne (by omega), List.getElem?_append_left (get_lt h2)]; exact h2)
      rw [List.append_assoc, List.getElem?_append_left (by simpa using get_lt h4), get_setne (by omega)]
      exact h4
end

set_option Elab.async false
set_option linter.all false
set_option maxRecDepth 100000
open PySem PySem.Spec PyProof.Rows L2 Y Z
section
variable {S : AH} {Q : D → AH → Prop} {E : Xn → AH → Prop}
/-- a person without a fault -/
structure Per.good (m : Int) (ws : List Wir) (at_ : Nat) (p : Per) : Prop where
  mm : 1 ≤ m ∧ m ≤ 16
  helpl : p.helps.length ≤ 6
  insl : p.ins.length ≤ 4
  insn : p.ins.Nodup
  helpn : (p.helps.map (·.1)).Nodup
  helps : ∀ h ∈ p.helps, (alls h.2).length ≤ 10000 ∧ noDo h.2 ∧ bhs h.2 ≤ 20
  bh : bhs p.body ≤ 20
  do_ : ∀ s ∈ alls p.body, ∀ i, s = .do_ i → ∃ k : Nat, i = (k : Int) ∧ k < p.helps.length
  all : ∀ b ∈ p.blocks, (alls b).length ≤ 10000
  own : ∀ b ∈ p.blocks, ∀ s ∈ alls b, ownW ws (at_ : Int) s
  nms : ∃ L : List Str, L.length ≤ 50 ∧ ∀ b ∈ p.blocks, ∀ s ∈ alls b, nmOk L s ∧ ∀ x ∈ s.exs, x.ok m ∧ x.sz ≤ 1000
  wt : p.wt m ≤ 5000
theorem person_fault {h : Hou} {k : Nat} {p : Per} (hp : h.pers[k]? = some p) (g : p.good h.m h.wires k) (q : ∀ S', Ext E0 S S' → Q .non S') : wp (F_person_fault [h.d, .int (k : Nat)] S) Q E := by
  have hbig := sizeLine_big
  have hix : ∀ S, ixO (.tup (h.pers.map Per.d)) (.int (k : Nat)) S = some (p.d, S) := fun S => by rw [ix_tup, List.getElem?_map, hp]; rfl
  have hil := g.insl
  have hhl := g.helpl
  unfold F_person_fault b_person_fault
  rw [show h.d = .tup [.int h.m, .tup (h.wires.map Wir.d), .tup (h.pers.map Per.d)] from rfl]
  simp_arith [hix]
  rw [show p.d = .tup [.str p.name, .tup (p.ins.map D.str), .tup (p.helps.map helpD), bD p.body] from rfl]
  simp_arith []
  refine are_unlike (.inl rfl) g.insn (by omega) fun S1 hx1 => ?_
  simp_arith [seqIt_tup]
  refine lcX (A := E0) (QD := fun d S2 => wp (F_are_unlike [d] S2) _ _) (fun h => .str h.1) (by omega) (fun z => z) (fun _ _ => rfl) (fun x S2 hs hx2 _ => ?_) fun S2 hx2 hj2 => ?_
  · simp_arith [helpD]
    exact Ext.refl
  refine are_unlike (xs := p.helps.map (·.1)) (.inr ⟨_, rfl, by rw [hj2, List.map_map]; rfl⟩) g.helpn (by simp; omega) fun S3 hx3 => ?_
  simp_arith []
  refine help_order (p := p) hhl (fun a ha => ⟨(g.helps a ha).1, (g.helps a ha).2.1⟩) fun i4 S4 hx4 _ _ => ?_
  simp_arith []
  refine wire_fault (p := p) hhl g.all g.own fun S5 hx5 => ?_
  rw [show ∀ S, notNO .non .non S = some (D.bl false, S) from fun _ => rfl, optP_some]
  simp_arith []
  obtain ⟨L, hL, hn⟩ := g.nms
  refine person_names (p := p) (m := h.m) hL hhl hil g.all hn fun i6 S6 l hx6 _ hl6 hl => ?_
  simp_arith [len_obj hl6]
  rw [decide_eq_false (by omega), ch_f]
  refine person_weight (p := p) g.mm hhl g.helps g.bh g.do_ fun S7 hx7 => ?_
  have hw := g.wt
  simp_arith []
  rw [decide_eq_false (by omega), ch_f]
  exact q S7 (((((hx1.trans hx2).trans hx3).trans hx4).trans hx5).trans (hx6.trans hx7))
end

set_option Elab.async false
set_option linter.all false
set_option maxRecDepth 100000
open PySem PySem.Spec PyProof.Rows L2 Y Z
section
variable {S : AH} {Q : D → AH → Prop} {E : Xn → AH → Prop}
/-- a house without a fault -/
structure Hou.good (h : Hou) : Prop where
  form : h.form
  wn : (h.wires.map (·.name)).Nodup
  pn : (h.pers.map (·.name)).Nodup
  pers : ∀ (k : Nat) (p : Per), h.pers[k]? = some p → p.good h.m h.wires k
theorem fault_of {h : Hou} (g : h.good) (q : ∀ S', Ext E0 S S' → Q .non S') : wp (F_fault_of [h.d] S) Q E := by
  have hbig := sizeLine_big
  have hwl := g.form.wl
  have hpl := g.form.pl
  unfold F_fault_of b_fault_of
  rw [show h.d = .tup [.int h.m, .tup (h.wires.map Wir.d), .tup (h.pers.map Per.d)] from rfl]
  simp_arith [seqIt_tup]
  refine lcX (A := E0) (QD := fun d S2 => wp (F_are_unlike [d] S2) _ _) (fun w => .str w.name) (by omega) (fun z => z) (fun _ _ => rfl) (fun x S1 hs hx1 _ => ?_) fun S1 hx1 hj1 => ?_
  · simp_arith [Wir.d]
    exact Ext.refl
  refine are_unlike (xs := h.wires.map (·.name)) (.inr ⟨_, rfl, by rw [hj1, List.map_map]; rfl⟩) g.wn (by simp; omega) fun S2 hx2 => ?_
  simp_arith [seqIt_tup]
  refine lcX (A := E0) (QD := fun d S2 => wp (F_are_unlike [d] S2) _ _) (fun p => .str p.name) (by omega) (fun z => z) (fun _ _ => rfl) (fun x S3 hs hx3 _ => ?_) fun S3 hx3 hj3 => ?_
  · simp_arith [Per.d]
    exact Ext.refl
  refine are_unlike (xs := h.pers.map (·.name)) (.inr ⟨_, rfl, by rw [hj3, List.map_map]; rfl⟩) g.pn (by simp; omega) fun S4 hx4 => ?_
  have hr1 : rngIt1 [.int ((h.pers.map Per.d).length : Nat)] = some ⟨rngL 0 h.pers.length, fun _ => true⟩ := by rw [List.length_map]; exact rng1_nat (by omega)
  simp_arith [len_tup, hr1]
  refine wp_for (fun k env S5 => ∃ a b : Option D, env = [some h.d, some (.int h.m), some (.tup (h.wires.map Wir.d)), some (.tup (h.pers.map Per.d)), a, b, none, none] ∧ Ext E0 S4 S5) ⟨_, _, rfl, .refl⟩ ?_ ?_
  · rintro k d env S5 hk ⟨a, b, rfl, hx5⟩
    obtain ⟨hlt, rfl⟩ := rngL_get hk
    refine ⟨rfl, ?_⟩
    simp_arith []
    refine person_fault (List.getElem?_eq_getElem hlt) (g.pers k _ (List.getElem?_eq_getElem hlt)) fun S6 hx6 => ?_
    rw [show ∀ S, notNO .non .non S = some (D.bl false, S) from fun _ => rfl, optP_some]
    simp_arith []
    exact ⟨_, _, rfl, hx5.trans hx6⟩
  · rintro env S5 ⟨a, b, rfl, hx5⟩
    refine ⟨rfl, ?_⟩
    simp_arith []
    exact q S5 ((((hx1.trans hx2).trans hx3).trans hx4).trans hx5)
theorem is_house {h : Hou} (g : h.good) (q : ∀ S', Ext E0 S S' → Q (.bl true) S') : wp (F_is_house [h.d] S) Q E := by
  unfold F_is_house b_is_house
  simp_arith []
  refine has_form g.form fun S1 hx1 => ?_
  simp_arith []
  refine fault_of g fun S2 hx2 => ?_
  simp_arith []
  exact q S2 (hx1.trans hx2)
end

set_option Elab.async false
set_option linter.all false
set_option maxRecDepth 100000
open PySem PySem.Spec PyProof.Rows L2 Y Z
/-! ### the hand -/
theorem wp_cut {QF : Fl → AH → Prop} {E : Xn → AH → Prop} {fs gs : Es} {env : En} {S : AH} (R : En → AH → Prop) (h1 : wp (fs env S) (fun fl S1 => ∃ e, fl = .nx e ∧ R e S1) E) (h2 : ∀ e S1, R e S1 → wp (gs e S1) QF E) : wp (sSeq fs gs env S) QF E := by
  rw [wp_sSeq]
  refine wp_mono h1 (fun fl S1 hq => ?_) fun _ _ z => z
  obtain ⟨e, rfl, hr⟩ := hq
  exact h2 e S1 hr
section
variable {S : AH} {Q : D → AH → Prop} {E : Xn → AH → Prop} {hd c : Nat} {a0 a1 a2 a3 a4 : D}
theorem hx0 (h : S[hd]? = some (.lst [a0, a1, a2, a3, a4])) : ixO (.obj hd) (.int 0) S = some (a0, S) := ix_obj (k := 0) h
theorem hx1 (h : S[hd]? = some (.lst [a0, a1, a2, a3, a4])) : ixO (.obj hd) (.int 1) S = some (a1, S) := ix_obj (k := 1) h
theorem hx2 (h : S[hd]? = some (.lst [a0, a1, a2, a3, a4])) : ixO (.obj hd) (.int 2) S = some (a2, S) := ix_obj (k := 2) h
theorem hx3 (h : S[hd]? = some (.lst [a0, a1, a2, a3, a4])) : ixO (.obj hd) (.int 3) S = some (a3, S) := ix_obj (k := 3) h
theorem hx4 (h : S[hd]? = some (.lst [a0, a1, a2, a3, a4])) : ixO (.obj hd) (.int 4) S = some (a4, S) := ix_obj (k := 4) h
theorem hs1 {v : D} (h : S[hd]? = some (.lst [a0, a1, a2, a3, a4])) : stO (.obj hd) (.int 1) v S = some (S.set hd (.lst [a0, v, a2, a3, a4])) := by
  unfold stO; simp only [h]; rfl
theorem hs2 {v : D} (h : S[hd]? = some (.lst [a0, a1, a2, a3, a4])) : stO (.obj hd) (.int 2) v S = some (S.set hd (.lst [a0, a1, v, a3, a4])) := by
  unfold stO; simp only [h]; rfl
theorem hs3 {v : D} (h : S[hd]? = some (.lst [a0, a1, a2, a3, a4])) : stO (.obj hd) (.int 3) v S = some (S.set hd (.lst [a0, a1, a2, v, a4])) := by
  unfold stO; simp only [h]; rfl
theorem hs4 {v : D} (h : S[hd]? = some (.lst [a0, a1, a2, a3, a4])) : stO (.obj hd) (.int 4) v S = some (S.set hd (.lst [a0, a1, a2, a3, v])) := by
  unfold stO; simp only [h]; rfl
theorem st_nat {i k : Nat} {l : List D} {v : D} (h : S[i]? = some (.lst l)) (hk : k < l.length) : stO (.obj i) (.int (k : Nat)) v S = some (S.set i (.lst (l.set k v))) := by
  unfold stO
  simp only [h]
  unfold ixN
  rw [if_pos (by omega), if_pos (by omega)]
  simp
structure Hand (hd c : Nat) (S : AH) : Prop where
  ex : ∃ (i : Nat) (cells : List Int) (r m n : Int), S[hd]? = some (.lst [.obj c, .int (i : Nat), .int r, .int m, .int n]) ∧ S[c]? = some (.lst (cells.map D.int)) ∧ (∀ z ∈ cells, 0 ≤ z) ∧ 0 ≤ r ∧ c ≠ hd
theorem Hand.ext {A : Nat → Prop} {S' : AH} (h : Hand hd c S) (hx : Ext A S S') (hA : ∀ i, i < S.length → ¬ A i) : Hand hd c S' := by
  obtain ⟨i, cells, r, m, n, h1, h2, h3⟩ := h
  exact ⟨i, cells, r, m, n, hx.get _ _ (hA _ (get_lt h1)) h1, hx.get _ _ (hA _ (get_lt h2)) h2, h3⟩
theorem Hand.e0 {S' : AH} (h : Hand hd c S) (hx : Ext E0 S S') : Hand hd c S' := h.ext hx fun _ _ z => z
theorem Hand.app {T : AH} (h : Hand hd c S) : Hand hd c (S ++ T) := h.e0 .app
theorem Hand.set {j : Nat} {o : Ob} (h : Hand hd c S) (h1 : j ≠ hd) (h2 : j ≠ c) : Hand hd c (S.set j o) := by
  obtain ⟨i, cells, r, m, n, e1, e2, e3⟩ := h
  exact ⟨i, cells, r, m, n, by rw [get_setne h1]; exact e1, by rw [get_setne h2]; exact e2, e3⟩
theorem Hand.ltc (h : Hand hd c S) : c < S.length := by
  obtain ⟨i, cells, r, m, n, h1, h2, _⟩ := h
  exact get_lt h2
theorem Hand.lt (h : Hand hd c S) : hd < S.length := by
  obtain ⟨i, cells, r, m, n, h1, _⟩ := h
  exact get_lt h1
theorem mul_r {a b : Int} (h : -(2 ^ 64) < b ∧ b < 2 ^ 64) : mulO (.int a) (.int b) S = some (.int (a * b), S) := by
  show (if _ then _ else _) = _
  rw [if_pos (.inr h)]
theorem mul_l {a b : Int} (h : -(2 ^ 64) < a ∧ a < 2 ^ 64) : mulO (.int a) (.int b) S = some (.int (a * b), S) := by
  show (if _ then _ else _) = _
  rw [if_pos (.inl h)]
theorem mod_i {a b : Int} (h : b ≠ 0) : modO (.int a) (.int b) S = some (.int (a.fmod b), S) := by
  unfold modO intO
  simp [h]
theorem fdiv_i {a b : Int} (h : b ≠ 0) (h2 : b.natAbs < 1073741824) : fdivO (.int a) (.int b) S = some (.int (a.fdiv b), S) := by
  unfold fdivO intO
  simp [h, h2]
theorem pow18 : powO (.int 10) (.int 18) S = some (.int 1000000000000000000, S) := by
  unfold powO intO
  simp only []
  rw [if_pos (by decide)]
  rfl
theorem mc1 {a : Int} : mulO (.int a) (.int 48271) S = some (.int (a * 48271), S) := mul_r (by omega)
theorem mc2 {a : Int} : mulO (.int 6007) (.int a) S = some (.int (6007 * a), S) := mul_l (by omega)
theorem mc3 {a : Int} : mulO (.int a) (.int 69621) S = some (.int (a * 69621), S) := mul_r (by omega)
theorem dc1 {a : Int} : modO (.int a) (.int 2147483647) S = some (.int (a.fmod 2147483647), S) := mod_i (by omega)
theorem dc2 {a : Int} : modO (.int a) (.int 2147483629) S = some (.int (a.fmod 2147483629), S) := mod_i (by omega)
theorem dc3 {a : Int} : modO (.int a) (.int 2147483587) S = some (.int (a.fmod 2147483587), S) := mod_i (by omega)
theorem fc1 {a : Int} : fdivO (.int a) (.int 1013) S = some (.int (a.fdiv 1013), S) := fdiv_i (by omega) (by omega)
theorem fc2 {a : Int} : fdivO (.int a) (.int 2011) S = some (.int (a.fdiv 2011), S) := fdiv_i (by omega) (by omega)
theorem fc3 {a : Int} : fdivO (.int a) (.int 32) S = some (.int (a.fdiv 32), S) := fdiv_i (by omega) (by omega)
theorem add_i {a b : Int} : addO (.int a) (.int b) S = some (.int (a + b), S) := rfl
theorem int_c {a : Int} : intC [.int a] S = some (.int a, S) := rfl
theorem abs_c {a : Int} : absO [.int a] S = some (.int (if a < 0 then -a else a), S) := rfl
/-- a drawn number -/
theorem draw {many : Int} (hm : 1 ≤ many ∧ many < 1000000) (h : Hand hd c S) (q : ∀ (k : Nat) S', (k : Int) < many → Hand hd c S' → Ext (fun i => i = hd) S S' → Q (.int (k : Nat)) S') : wp (F__law_draw [.obj hd, .int many] S) Q E := by
  unfold F__law_draw b__law_draw
  rw [wp_funOf]
  refine wp_cut (fun e S1 => ∃ o, e = [some (.obj hd), some (.int many), o, none, none] ∧ Hand hd c S1 ∧ Ext (fun i => i = hd) S S1) ?_ ?_
  · have h0 := h
    obtain ⟨i, cells, r, m, n, h1, h2, h3, h4, h5⟩ := h
    simp_arith [hx2 h1]
    refine ch_i (fun hr => ?_) fun hr => ?_
    · simp_arith [hx1 h1, hx0 h1, len_obj h2]
      refine ch_i (fun hi => ?_) fun hi => ⟨_, rfl, _, rfl, h0, .refl⟩
      have hr0 : r = 0 := of_decide_eq_true hr
      subst hr0
      have hlt : i < cells.length := by have := of_decide_eq_true hi; simp at this; omega
      have hcell : cells[i]? = some cells[i] := List.getElem?_eq_getElem hlt
      have hge := h3 _ (List.getElem_mem hlt)
      have g1 := get_set (o' := .lst [.obj c, .int ((i : Int) + 1), .int 0, .int m, .int n]) h1
      have g2 := get_set (o' := .lst [.obj c, .int ((i : Int) + 1), .int 0, .int ((m * 48271 + cells[i] + 11).fmod 2147483647), .int n]) g1
      have e0 : ixO (.obj c) (.int (i : Nat)) S = some (.int cells[i], S) := by rw [ix_obj h2, List.getElem?_map, hcell]; rfl
      have c1 : ∀ o, (S.set hd o)[c]? = some (.lst (cells.map D.int)) := fun o => by rw [get_setne (Ne.symm h5)]; exact h2
      simp_arith [hx0 h1, hx1 h1, e0, add_i, hs1 h1, hx3 g1, mc1, int_c, dc1, hs3 g1, pow18]
      have fin : ∀ r', 0 ≤ r' → Hand hd c (S.set hd (.lst [.obj c, .int ((i : Int) + 1), .int r', .int ((m * 48271 + cells[i] + 11).fmod 2147483647), .int n])) := fun r' hr' => ⟨i + 1, cells, r', (m * 48271 + cells[i] + 11).fmod 2147483647, n, by rw [get_set h1]; simp, c1 _, h3, hr', h5⟩
      refine ch_i (fun hc => ?_) fun hc => ?_
      · simp_arith [hs2 g2]
        refine ⟨_, rfl, _, rfl, ?_, (((Ext.set (A := fun i => i = hd) (j := hd) (.inl rfl)).setT (.inl rfl)).setT (.inl rfl))⟩
        rw [List.set_set, List.set_set]
        exact fin _ hge
      · refine ⟨_, rfl, _, rfl, ?_, ((Ext.set (A := fun i => i = hd) (j := hd) (.inl rfl)).setT (.inl rfl))⟩
        rw [List.set_set]
        exact fin _ (Int.le_refl _)
    · exact ⟨_, rfl, _, rfl, h0, .refl⟩
  · rintro e S1 ⟨cc, rfl, h, hx⟩
    have h0 := h
    obtain ⟨i, cells, r, m, n, h1, h2, h3, h4, h5⟩ := h
    have hm0 : many ≠ 0 := by omega
    have hmb : many.natAbs < 1073741824 := by omega
    have c1 : ∀ o, (S1.set hd o)[c]? = some (.lst (cells.map D.int)) := fun o => by rw [get_setne (Ne.symm h5)]; exact h2
    simp_arith [hx2 h1]
    refine ch_i (fun hr => ?_) fun hr => ?_
    · simp_arith [hx2 h1, int_c, mod_i hm0, fdiv_i hm0 hmb, hs2 h1]
      have f1 : 0 ≤ r.fmod many := Int.fmod_nonneg_of_pos _ (by omega)
      have f2 : r.fmod many < many := Int.fmod_lt_of_pos _ (by omega)
      have f3 : 0 ≤ r.fdiv many := Int.fdiv_nonneg h4 (by omega)
      obtain ⟨k, hk⟩ := Int.eq_ofNat_of_zero_le f1
      rw [hk]
      refine q k _ (by omega) ⟨i, cells, _, m, n, get_set h1, c1 _, h3, f3, h5⟩ (hx.setT (.inl rfl))
    · have g1 := get_set (o' := .lst [.obj c, .int (i : Nat), .int r, .int m, .int (n + 1)]) h1
      simp_arith [hx4 h1, add_i, hs4 h1, hx4 g1, hx3 g1, mc2, mc3, int_c, dc2]
      have b1 : ∀ z : Int, 0 ≤ z.fmod 2147483629 ∧ z.fmod 2147483629 < 2147483629 := fun z => ⟨Int.fmod_nonneg_of_pos _ (by omega), Int.fmod_lt_of_pos _ (by omega)⟩
      have b2 : ∀ z : Int, 0 ≤ z.fmod 2147483647 ∧ z.fmod 2147483647 < 2147483647 := fun z => ⟨Int.fmod_nonneg_of_pos _ (by omega), Int.fmod_lt_of_pos _ (by omega)⟩
      have b3 : ∀ z : Int, 0 ≤ z.fmod 2147483587 ∧ z.fmod 2147483587 < 2147483587 := fun z => ⟨Int.fmod_nonneg_of_pos _ (by omega), Int.fmod_lt_of_pos _ (by omega)⟩
      generalize hz1 : ((m + 6007 * (n + 1)) * 69621).fmod 2147483629 = z1
      have hb1 : 0 ≤ z1 ∧ z1 < 2147483629 := hz1 ▸ b1 _
      simp_arith [fc1, add_i, mul_l (show -(2 ^ 64) < z1 ∧ z1 < 2 ^ 64 by omega), int_c, dc1]
      generalize hz2 : (z1 * (z1.fdiv 1013 + 48271)).fmod 2147483647 = z2
      have hb2 : 0 ≤ z2 ∧ z2 < 2147483647 := hz2 ▸ b2 _
      simp_arith [fc2, add_i, mul_l (show -(2 ^ 64) < z2 ∧ z2 < 2 ^ 64 by omega), int_c, dc3]
      generalize hz3 : (z2 * (z2.fdiv 2011 + 16807)).fmod 2147483587 = z3
      simp_arith [fc3, int_c, mod_i hm0]
      have f1 : 0 ≤ (z3.fdiv 32).fmod many := Int.fmod_nonneg_of_pos _ (by omega)
      have f2 : (z3.fdiv 32).fmod many < many := Int.fmod_lt_of_pos _ (by omega)
      obtain ⟨k, hk⟩ := Int.eq_ofNat_of_zero_le f1
      rw [hk]
      exact q k _ (by omega) ⟨i, cells, r, m, n + 1, get_set h1, c1 _, h3, h4, h5⟩ (hx.setT (.inl rfl))
/-- one of some things -/
theorem some_ {i : Nat} {l : List D} (hi : S[i]? = some (.lst l)) (hl : 1 ≤ l.length ∧ l.length < 1000000) (hne : i ≠ hd) (h : Hand hd c S) (q : ∀ (k : Nat) d S', l[k]? = some d → Hand hd c S' → Ext (fun i => i = hd) S S' → Q d S') : wp (F__law_some [.obj hd, .obj i] S) Q E := by
  unfold F__law_some b__law_some
  simp_arith [len_obj hi]
  refine draw (by omega) h fun k S1 hk h1 hx => ?_
  have hi1 := hx.get _ _ hne hi
  have hk' : l[k]? = some (l[k]'(by omega)) := List.getElem?_eq_getElem (by omega)
  rw [ix_obj hi1, hk']
  simp_arith []
  exact q k _ S1 hk' h1 hx
end

set_option Elab.async false
set_option linter.all false
set_option maxRecDepth 100000
open PySem PySem.Spec PyProof.Rows L2 Y Z
/-! ### what is drawn -/
def L4 : List Str := ["a", "b", "c", "d"]
def EG (m : Int) (e : Ex) : Prop := e.good m ∧ ∀ z ∈ e.nms, z ∈ L4
def AG (m : Int) (we : List (Int × Int)) (at_ hl : Nat) : Stm → Prop
  | .say e => EG m e
  | .set x e => x ∈ L4 ∧ EG m e
  | .do_ i => ∃ k : Nat, i = (k : Int) ∧ k < hl
  | .send k e => (∃ (n : Nat) (t : Int), k = (n : Int) ∧ we[n]? = some ((at_ : Int), t)) ∧ EG m e
  | .take k x => (∃ (n : Nat) (s : Int), k = (n : Int) ∧ we[n]? = some (s, (at_ : Int))) ∧ x ∈ L4
  | .ite e a b => EG m e ∧ a.length ≤ 60 ∧ b.length ≤ 60
  | .rnd e a => EG m e ∧ a.length ≤ 60
structure SG (m : Int) (we : List (Int × Int)) (at_ hl H N L : Nat) (W : Int) (s : Stm) : Prop where
  all : ∀ x ∈ s.all, AG m we at_ hl x
  bh : s.bh ≤ H
  nb : s.nb ≤ N
  len : s.all.length ≤ L
  wt : ∀ hw : Int → Int, (∀ i, hw i ≤ 18) → s.wt m hw ≤ W
theorem SG.mono {m we at_ hl hl' H N L W H' N' L' W' s} (h : SG m we at_ hl H N L W s) (h0 : hl ≤ hl') (h1 : H ≤ H') (h2 : N ≤ N') (h3 : L ≤ L') (h4 : W ≤ W') : SG m we at_ hl' H' N' L' W' s where
  all x hx := by
    have := h.all x hx
    cases x <;> simp only [AG] at this ⊢ <;> try exact this
    obtain ⟨k, h5, h6⟩ := this
    exact ⟨k, h5, by omega⟩
  bh := Nat.le_trans h.bh h1
  nb := Nat.le_trans h.nb h2
  len := Nat.le_trans h.len h3
  wt hw hh := Int.le_trans (h.wt hw hh) h4
section
variable {m : Int} {we : List (Int × Int)} {at_ hl H N L : Nat} {W : Int}
theorem sg_bhs : ∀ {l : List Stm}, (∀ s ∈ l, SG m we at_ hl H N L W s) → bhs l ≤ H + 1
  | [], _ => by simp [bhs]
  | s :: r, h => by
    have h1 := (h s (List.mem_cons_self ..)).bh
    have h2 := sg_bhs (l := r) fun x hx => h x (List.mem_cons_of_mem _ hx)
    simp [bhs]; omega
theorem sg_nbs : ∀ {l : List Stm}, (∀ s ∈ l, SG m we at_ hl H N L W s) → nbs l ≤ 1 + N * l.length
  | [], _ => by simp [nbs]
  | s :: r, h => by
    have h1 := (h s (List.mem_cons_self ..)).nb
    have h2 := sg_nbs (l := r) fun x hx => h x (List.mem_cons_of_mem _ hx)
    simp only [nbs, List.length_cons, Nat.mul_add, Nat.mul_one]; omega
theorem sg_len : ∀ {l : List Stm}, (∀ s ∈ l, SG m we at_ hl H N L W s) → (alls l).length ≤ L * l.length
  | [], _ => by simp [alls]
  | s :: r, h => by
    have h1 := (h s (List.mem_cons_self ..)).len
    have h2 := sg_len (l := r) fun x hx => h x (List.mem_cons_of_mem _ hx)
    simp only [alls, List.length_append, List.length_cons, Nat.mul_add, Nat.mul_one]; omega
theorem sg_wts {hw : Int → Int} (hh : ∀ i, hw i ≤ 18) : ∀ {l : List Stm}, (∀ s ∈ l, SG m we at_ hl H N L W s) → wts m hw l ≤ W * l.length
  | [], _ => by simp [wts]
  | s :: r, h => by
    have h1 := (h s (List.mem_cons_self ..)).wt hw hh
    have h2 := sg_wts hh (l := r) fun x hx => h x (List.mem_cons_of_mem _ hx)
    simp only [wts, List.length_cons, Int.natCast_add, Int.mul_add, Int.natCast_one, Int.mul_one]; omega
theorem sg_all : ∀ {l : List Stm}, (∀ s ∈ l, SG m we at_ hl H N L W s) → ∀ x ∈ alls l, AG m we at_ hl x
  | s :: r, h, x, hx => by
    simp only [alls, List.mem_append] at hx
    rcases hx with hx | hx
    · exact (h s (List.mem_cons_self ..)).all x hx
    · exact sg_all (l := r) (fun x hx => h x (List.mem_cons_of_mem _ hx)) x hx
theorem self_all (s : Stm) : s ∈ s.all := by rw [all_subs]; exact List.mem_cons_self ..
theorem L4_ok : ∀ x ∈ L4, nameOk x := by
  have hbig := sizeLine_big
  have : ∀ x ∈ L4, (goodName x && decide (x.length ≤ 8)) = true := by decide +kernel
  intro x hx
  have := this x hx
  rw [Bool.and_eq_true, decide_eq_true_eq] at this
  exact ⟨this.1, by omega⟩
theorem ag_ok1 {s : Stm} (h : AG m we at_ hl s) : s.ok1 m we.length hl := by
  cases s with
  | say e => exact h.1
  | set x e => exact ⟨L4_ok x h.1, h.2.1⟩
  | do_ i => obtain ⟨k, rfl, hk⟩ := h; show 0 ≤ (k : Int) ∧ (k : Int) ≤ (hl : Int) - 1; omega
  | send k e => obtain ⟨⟨n, t, rfl, hn⟩, he⟩ := h; have := (List.getElem?_eq_some_iff.mp hn).1; exact ⟨by omega, he.1⟩
  | take k x => obtain ⟨⟨n, t, rfl, hn⟩, he⟩ := h; have := (List.getElem?_eq_some_iff.mp hn).1; exact ⟨by omega, L4_ok x he⟩
  | ite e a b => exact h.1.1
  | rnd e a => exact h.1.1
theorem ag_sub {s : Stm} (h : AG m we at_ hl s) : ∀ b ∈ s.subs, b.length ≤ 60 := by
  cases s with
  | ite e a b => intro x hx; simp [Stm.subs] at hx; rcases hx with rfl | rfl; exact h.2.1; exact h.2.2
  | rnd e a => intro x hx; simp [Stm.subs] at hx; subst hx; exact h.2
  | _ => intro x hx; simp [Stm.subs] at hx
theorem bok_of : ∀ (n : Nat) {l : List Stm}, bhs l ≤ n → l.length ≤ 60 → (∀ x ∈ alls l, AG m we at_ hl x) → BOk m we.length hl l
  | 0, l, hn, _, _ => by have := bhs1 l; omega
  | n + 1, l, hn, hl60, h => .mk hl60 (fun s hs => ag_ok1 (h s (mem_all_alls hs s (self_all s)))) fun s hs b hb => by
    have h1 := bh_sub hb
    have h2 := bhs_mem hs
    exact bok_of n (by omega) (ag_sub (h s (mem_all_alls hs s (self_all s))) b hb) fun x hx => h x (mem_all_alls hs x (mem_alls_sub hb x hx))
end
def pnm : Nat → Str
  | 0 => "ps" | 1 => "pt" | _ => "pu"
def wnm : Nat → Str
  | 0 => "wa" | 1 => "wb" | 2 => "wc" | _ => "wd"
structure PG (m : Int) (we : List (Int × Int)) (at_ : Nat) (p : Per) : Prop where
  name : p.name = pnm at_
  ins : ∃ j, j ≤ 4 ∧ p.ins = L4.take j
  helps : p.helps = [] ∨ ∃ s1 s2, p.helps = [(("hx" : Str), [s1, s2])] ∧ SG m we at_ 0 1 2 4 9 s1 ∧ SG m we at_ 0 1 2 4 9 s2
  body : ∀ s ∈ p.body, SG m we at_ p.helps.length 2 8 13 153 s
def Wir.e (w : Wir) : Int × Int := (w.s, w.t)
structure HG (n : Nat) (h : Hou) : Prop where
  m : 2 ≤ h.m ∧ h.m ≤ 5
  pl : 1 ≤ h.pers.length ∧ h.pers.length ≤ 3
  wl : h.wires.length ≤ 4
  wires : ∀ (k : Nat) w, h.wires[k]? = some w → w.name = wnm k ∧ (0 ≤ w.s ∧ w.s ≤ (h.pers.length : Int) - 1) ∧ (0 ≤ w.t ∧ w.t ≤ (h.pers.length : Int) - 1) ∧ w.s ≠ w.t ∧ (0 ≤ w.room ∧ w.room ≤ 9)
  pers : ∀ (k : Nat) p, h.pers[k]? = some p → PG h.m (h.wires.map Wir.e) k p ∧ p.body.length ≤ n
theorem HG.mono {n n' h} (g : HG n h) (hn : n ≤ n') : HG n' h := ⟨g.m, g.pl, g.wl, g.wires, fun k p hp => ⟨(g.pers k p hp).1, Nat.le_trans (g.pers k p hp).2 hn⟩⟩
theorem name_ok {z : Str} (h : (goodName z && decide (z.length ≤ 8)) = true) : nameOk z := by
  have hbig := sizeLine_big
  rw [Bool.and_eq_true, decide_eq_true_eq] at h
  exact ⟨h.1, by omega⟩
theorem pnm_ok : ∀ k, nameOk (pnm k)
  | 0 => name_ok (by decide +kernel)
  | 1 => name_ok (by decide +kernel)
  | _ + 2 => show nameOk "pu" from name_ok (by decide +kernel)
theorem wnm_ok : ∀ k, nameOk (wnm k)
  | 0 => name_ok (by decide +kernel)
  | 1 => name_ok (by decide +kernel)
  | 2 => name_ok (by decide +kernel)
  | _ + 3 => show nameOk "wd" from name_ok (by decide +kernel)
theorem PG.hw {m we at_ p} (g : PG m we at_ p) : ∀ i : Int, hwt m p i.toNat ≤ 18 := by
  intro i
  unfold hwt
  rcases g.helps with h | ⟨s1, s2, h, h1, h2⟩
  · rw [h]; simp
  · rw [h]
    cases i.toNat with
    | zero =>
      have := h1.wt (fun _ => 0) (by simp)
      have := h2.wt (fun _ => 0) (by simp)
      simp [wts]; omega
    | succ n => simp
theorem PG.hlen {m we at_ p} (g : PG m we at_ p) : p.helps.length ≤ 1 := by
  rcases g.helps with h | ⟨s1, s2, h, h1, h2⟩ <;> rw [h] <;> simp
theorem PG.hg {m we at_ p} (g : PG m we at_ p) : ∀ h ∈ p.helps, h.1 = "hx" ∧ h.2.length = 2 ∧ ∀ s ∈ h.2, SG m we at_ 0 1 2 4 9 s := by
  intro h hh
  rcases g.helps with e | ⟨s1, s2, e, h1, h2⟩
  · rw [e] at hh; cases hh
  · rw [e] at hh
    simp at hh
    subst hh
    refine ⟨rfl, rfl, fun s hs => ?_⟩
    simp at hs
    rcases hs with rfl | rfl <;> assumption
theorem nodup_of {f : Nat → Str} {L : List Str} (hL : ∀ k, k < L.length → L[k]? = some (f k)) (hn : L.Nodup) {l : List Str} (hl : l.length ≤ L.length) (h : ∀ k z, l[k]? = some z → z = f k) : l.Nodup := by
  have : l = L.take l.length := by
    refine List.ext_getElem? fun k => ?_
    rw [List.getElem?_take]
    by_cases hk : k < l.length
    · rw [if_pos hk, hL k (by omega), List.getElem?_eq_getElem hk, h k _ (List.getElem?_eq_getElem hk)]
    · rw [if_neg hk, List.getElem?_eq_none (by omega)]
  rw [this]
  exact hn.sublist (List.take_sublist _ _)
theorem PG.good {m : Int} {ws : List Wir} {at_ : Nat} {p : Per} (hm : 2 ≤ m ∧ m ≤ 5) (g : PG m (ws.map Wir.e) at_ p) (hl : p.body.length ≤ 30) : p.form m ws.length ∧ p.good m ws at_ := by
  obtain ⟨j, hj, hins⟩ := g.ins
  have hhl := g.hlen
  have hinl : p.ins.length ≤ 4 := by rw [hins, List.length_take]; omega
  have hhg := g.hg
  have hb1 := sg_bhs g.body
  have hb2 := sg_nbs g.body
  have hb3 := sg_len g.body
  have hb4 := sg_wts (hw := fun i => hwt m p i.toNat) g.hw g.body
  have hba := sg_all g.body
  have hbok := bok_of 3 hb1 (by omega) hba
  rw [List.length_map] at hbok
  have hhb : ∀ h ∈ p.helps, bhs h.2 ≤ 2 ∧ nbs h.2 ≤ 5 ∧ (alls h.2).length ≤ 8 ∧ (∀ x ∈ alls h.2, AG m (ws.map Wir.e) at_ 0 x) := fun h hh => by
    obtain ⟨_, h2, h3⟩ := hhg h hh
    have a1 := sg_bhs h3
    have a2 := sg_nbs h3
    have a3 := sg_len h3
    rw [h2] at a2 a3
    exact ⟨a1, a2, a3, sg_all h3⟩
  have hag : ∀ b ∈ p.blocks, ∀ s ∈ alls b, ∃ hl, AG m (ws.map Wir.e) at_ hl s := fun b hb s hs => by
    unfold Per.blocks at hb
    rcases List.mem_append.mp hb with hb | hb
    · obtain ⟨h, hh, rfl⟩ := List.mem_map.mp hb
      exact ⟨_, (hhb h hh).2.2.2 s hs⟩
    · simp at hb; subst hb; exact ⟨_, hba s hs⟩
  refine ⟨⟨by rw [g.name]; exact pnm_ok _, hinl, fun x hx => ?_, by omega, fun h hh => ?_, ⟨hbok, by omega, by omega⟩⟩, ⟨by omega, by omega, hinl, ?_, ?_, fun h hh => ?_, by omega, fun s hs i e => ?_, fun b hb => ?_, fun b hb s hs => ?_, ⟨L4, by decide, fun b hb s hs => ?_⟩, ?_⟩⟩
  · rw [hins] at hx
    exact L4_ok x (List.mem_of_mem_take hx)
  · obtain ⟨h1, h2, h3⟩ := hhg h hh
    obtain ⟨a1, a2, a3, a4⟩ := hhb h hh
    have a5 := bok_of (hl := p.helps.length) 2 a1 (by omega) fun x hx => by
      have := a4 x hx
      cases x <;> simp only [AG] at this ⊢ <;> try exact this
      obtain ⟨k, h5, h6⟩ := this
      omega
    rw [List.length_map] at a5
    exact ⟨by rw [h1]; exact name_ok (by decide +kernel), ⟨a5, by omega, by omega⟩⟩
  · rw [hins]
    exact (show L4.Nodup by decide +kernel).sublist (List.take_sublist _ _)
  · rcases g.helps with e | ⟨s1, s2, e, _⟩ <;> rw [e] <;> simp
  · obtain ⟨a1, a2, a3, a4⟩ := hhb h hh
    refine ⟨by omega, fun s hs i e => ?_, by omega⟩
    have := a4 s hs
    subst e
    obtain ⟨k, _, hk⟩ := this
    omega
  · have := hba s hs
    subst e
    exact this
  · unfold Per.blocks at hb
    rcases List.mem_append.mp hb with hb | hb
    · obtain ⟨h, hh, rfl⟩ := List.mem_map.mp hb
      have := (hhb h hh).2.2.1
      omega
    · simp at hb; subst hb; omega
  · obtain ⟨hl', ha⟩ := hag b hb s hs
    cases s with
    | send k e =>
      obtain ⟨⟨n, t, rfl, hn⟩, _⟩ := ha
      rw [List.getElem?_map, Option.map_eq_some_iff] at hn
      obtain ⟨w, hw, e⟩ := hn
      exact ⟨n, w, rfl, hw, congrArg Prod.fst e⟩
    | take k e =>
      obtain ⟨⟨n, t, rfl, hn⟩, _⟩ := ha
      rw [List.getElem?_map, Option.map_eq_some_iff] at hn
      obtain ⟨w, hw, e⟩ := hn
      exact ⟨n, w, rfl, hw, congrArg Prod.snd e⟩
    | _ => exact trivial
  · obtain ⟨hl', ha⟩ := hag b hb s hs
    have eg : ∀ e, EG m e → ∀ x ∈ [e], (∀ z ∈ x.nms, z ∈ L4) ∧ x.ok m ∧ x.sz ≤ 1000 := fun e h x hx => by
      simp at hx; subst hx; exact ⟨h.2, h.1.1, h.1.2.2⟩
    cases s with
    | say e => exact ⟨⟨fun x hx => (eg e ha x hx).1, trivial⟩, fun x hx => (eg e ha x hx).2⟩
    | set z e => exact ⟨⟨fun x hx => (eg e ha.2 x hx).1, ha.1⟩, fun x hx => (eg e ha.2 x hx).2⟩
    | do_ i => exact ⟨⟨fun x hx => (by cases hx), trivial⟩, fun x hx => by cases hx⟩
    | send k e => exact ⟨⟨fun x hx => (eg e ha.2 x hx).1, trivial⟩, fun x hx => (eg e ha.2 x hx).2⟩
    | take k z => exact ⟨⟨fun x hx => (by cases hx), ha.2⟩, fun x hx => by cases hx⟩
    | ite e a b => exact ⟨⟨fun x hx => (eg e ha.1 x hx).1, trivial⟩, fun x hx => (eg e ha.1 x hx).2⟩
    | rnd e a => exact ⟨⟨fun x hx => (eg e ha.1 x hx).1, trivial⟩, fun x hx => (eg e ha.1 x hx).2⟩
  · unfold Per.wt
    omega
theorem HG.good {n : Nat} {h : Hou} (g : HG n h) (hn : n ≤ 30) : h.good := by
  have hp := fun k p (hk : h.pers[k]? = some p) => PG.good g.m (g.pers k p hk).1 (Nat.le_trans (g.pers k p hk).2 hn)
  have hpl := g.pl
  have hwl := g.wl
  refine ⟨⟨⟨g.m.1, by have := g.m.2; omega⟩, ⟨g.pl.1, by omega⟩, by omega, fun w hw => ?_, fun p hp' => ?_⟩, ?_, ?_, fun k p hk => (hp k p hk).2⟩
  · obtain ⟨k, hk⟩ := List.mem_iff_getElem?.mp hw
    obtain ⟨h1, h2⟩ := g.wires k w hk
    exact ⟨by rw [h1]; exact wnm_ok _, h2⟩
  · obtain ⟨k, hk⟩ := List.mem_iff_getElem?.mp hp'
    exact (hp k p hk).1
  · refine nodup_of (f := wnm) (L := ["wa", "wb", "wc", "wd"]) (fun k hk => ?_) (by decide +kernel) (by simpa using hwl) fun k z hz => ?_
    · match k, hk with
      | 0, _ => rfl
      | 1, _ => rfl
      | 2, _ => rfl
      | 3, _ => rfl
    · rw [List.getElem?_map, Option.map_eq_some_iff] at hz
      obtain ⟨w, hw, rfl⟩ := hz
      exact (g.wires k w hw).1
  · refine nodup_of (f := pnm) (L := ["ps", "pt", "pu"]) (fun k hk => ?_) (by decide +kernel) (by simpa using hpl.2) fun k z hz => ?_
    · match k, hk with
      | 0, _ => rfl
      | 1, _ => rfl
      | 2, _ => rfl
    · rw [List.getElem?_map, Option.map_eq_some_iff] at hz
      obtain ⟨w, hw, rfl⟩ := hz
      exact (g.pers k w hw).1.name

set_option Elab.async false
set_option linter.all false
set_option maxRecDepth 100000
open PySem PySem.Spec PyProof.Rows L2 Y Z
theorem ch_or {a b : Bool} {X Y : Prop} : ch a X (ch b X Y) = ch (a || b) X Y := by cases a <;> simp [ch]
abbrev isH (hd : Nat) : Nat → Prop := fun i => i = hd
def DE (m : Int) (dep : Nat) (e : Ex) : Prop := e.ok m ∧ e.ht ≤ dep + 1 ∧ e.sz + 1 ≤ 2 ^ (dep + 1) ∧ ∀ z ∈ e.nms, z ∈ L4
theorem DE.eg {m e} (h : DE m 2 e) : EG m e := ⟨⟨h.1, by have := h.2.1; omega, by have := h.2.2.1; omega⟩, h.2.2.2⟩
section
variable {hd c : Nat} {E : Xn → AH → Prop}
theorem tup_obj {i : Nat} {l : List D} {S : AH} (h : S[i]? = some (.lst l)) : tupO [.obj i] S = some (.tup l, S) := by
  simp [tupO, seqOf, h]
/-- a list of what a range gives -/
theorem collect {X : Type} {φ : X → D} {P : Nat → X → Prop} {env : En} {te : Ev} {i n : Nat} {QD : D → AH → Prop} {S1 : AH} (hz : n ≤ 1000) (h : Hand hd c S1)
    (step : ∀ k S2, k < n → Hand hd c S2 → Ext (isH hd) S1 S2 → S1.length < S2.length → wp (te (env.set i (some (.int (k : Nat)))) S2) (fun y S3 => (∃ x, y = φ x ∧ P k x) ∧ Hand hd c S3 ∧ Ext (isH hd) S2 S3) NE)
    (fin : ∀ (xs : List X) S2, xs.length = n → (∀ k x, xs[k]? = some x → P k x) → Hand hd c S2 → Ext (isH hd) S1 S2 → S2[S1.length]? = some (.lst (xs.map φ)) → QD (.obj S1.length) S2) :
    wp (lcL S1.length (fun _ => true) (gNm i) tYes' te env (rngL 0 n) (S1 ++ [.lst []])) (fun _ S2 => QD (.obj S1.length) S2) E := by
  have hbig := sizeLine_big
  have hl1 := h.lt
  have hl2 := h.ltc
  refine wp_lc (fun k acc S2 => ∃ xs : List X, acc = xs.map φ ∧ xs.length = k ∧ (∀ j x, xs[j]? = some x → P j x) ∧ Hand hd c S2 ∧ Ext (isH hd) S1 S2) (acc := []) (by simp) ⟨[], rfl, rfl, by simp, h.app, .app⟩ (fun k d acc S2 hd' hj ⟨xs, hf, hk, hP, hh, hx⟩ => ⟨rfl, ?_⟩) (fun acc S2 hj ⟨xs, hf, hk, hP, hh, hx⟩ => ⟨rfl, ?_⟩)
  · obtain ⟨hkn, rfl⟩ := rngL_get hd'
    refine wp_mono (step k S2 hkn hh hx (get_lt hj)) (fun y S3 hq => ?_) fun _ _ z => z
    obtain ⟨⟨x, rfl, hp⟩, hh3, hx3⟩ := hq
    refine ⟨hx3.get _ _ (by show ¬ (S1.length = hd); omega) hj, by rw [hf, List.length_map]; omega, xs ++ [x], by rw [hf]; simp, by simp [hk], fun j y hy => ?_, hh3.set (by omega) (by omega), (hx.trans hx3).setT (.inr (Nat.le_refl _))⟩
    by_cases hjk : j < xs.length
    · rw [List.getElem?_append_left hjk] at hy; exact hP j y hy
    · rw [List.getElem?_append_right (by omega)] at hy
      have : j - xs.length = 0 := by
        have := (List.getElem?_eq_some_iff.mp hy).1
        simp at this; omega
      rw [this] at hy
      simp at hy
      subst hy
      have : j = k := by omega
      subst this; exact hp
  · subst hf
    rw [rng_len] at hk
    exact fin xs S2 hk hP hh hx hj
theorem str_mem {l : List Str} {k : Nat} {d : D} (h : (l.map D.str)[k]? = some d) : ∃ z ∈ l, d = .str z := by
  rw [List.getElem?_map, Option.map_eq_some_iff] at h
  obtain ⟨z, hz, e⟩ := h
  exact ⟨z, List.mem_of_getElem? hz, e.symm⟩
/-- a drawn expression -/
theorem d_expr {m : Int} {nmI : Nat} {ns : List Str} (hm : 2 ≤ m ∧ m ≤ 5) (hns : ∀ z ∈ ns, z ∈ L4) (hnl : 1 ≤ ns.length ∧ ns.length ≤ 10) (hne : nmI ≠ hd) : ∀ (n dep : Nat) (S : AH) (Q : D → AH → Prop) (E : Xn → AH → Prop), dep < n → S[nmI]? = some (.lst (ns.map D.str)) → Hand hd c S →
    (∀ e S', DE m dep e → Hand hd c S' → Ext (isH hd) S S' → Q e.d S') → wp (F__law_expression n [.obj hd, .int m, .obj nmI, .int (dep : Nat)] S) Q E
  | 0, dep, S, Q, E, hn, _, _, _ => by omega
  | n + 1, dep, S, Q, E, hn, hnm, h, q => by
    rw [F__law_expression]
    unfold b__law_expression
    try simp_arith []
    refine draw (by omega) h fun k S1 hk h1 hx1 => ?_
    have hnm1 := hx1.get _ _ hne hnm
    try simp_arith []
    rw [ch_or]
    refine ch_i (fun hc => ?_) fun hc => ?_
    · simp_arith [len_obj hnm1]
      rw [decide_eq_true (by simp; omega), ch_t]
      try simp_arith []
      refine draw (by omega) h1 fun k2 S2 hk2 h2 hx2 => ?_
      have hnm2 := hx2.get _ _ hne hnm1
      try simp_arith []
      refine ch_i (fun hc2 => ?_) fun hc2 => ?_
      · try simp_arith []
        refine some_ hnm2 (by simp; omega) hne h2 fun j d S3 hj h3 hx3 => ?_
        obtain ⟨z, hz, rfl⟩ := str_mem hj
        try simp_arith []
        exact q (.nam z) S3 ⟨L4_ok z (hns z hz), by simp [Ex.ht], by simp [Ex.sz]; have := Nat.one_le_two_pow (n := dep); omega, fun y hy => by simp [Ex.nms] at hy; subst hy; exact hns _ hz⟩ h3 ((hx1.trans hx2).trans hx3)
      · try simp_arith []
        refine draw (by omega) h2 fun k3 S3 hk3 h3 hx3 => ?_
        try simp_arith []
        exact q (.num k3) S3 ⟨⟨by omega, by omega⟩, by simp [Ex.ht], by simp [Ex.sz]; have := Nat.one_le_two_pow (n := dep); omega, fun y hy => by simp [Ex.nms] at hy⟩ h3 ((hx1.trans hx2).trans hx3)
    · simp only [Bool.or_eq_false_iff, decide_eq_false_iff_not] at hc
      obtain ⟨dep, rfl⟩ : ∃ d', dep = d' + 1 := ⟨dep - 1, by omega⟩
      have hsub : (((dep + 1 : Nat) : Int) - 1) = (dep : Nat) := by omega
      have hpow : 2 ^ (dep + 1 + 1) = 2 * 2 ^ (dep + 1) := by rw [Nat.pow_succ]; omega
      try simp_arith []
      refine ch_i (fun hc2 => ?_) fun hc2 => ?_
      · try simp_arith []
        rw [hsub]
        refine d_expr hm hns hnl hne n dep S1 _ _ (by omega) hnm1 h1 fun e S2 he h2 hx2 => ?_
        try simp_arith []
        exact q (.neg e) S2 ⟨he.1, by simp [Ex.ht]; have := he.2.1; omega, by simp [Ex.sz]; have := he.2.2.1; omega, he.2.2.2⟩ h2 (hx1.trans hx2)
      · try simp_arith []
        have hlen := h1.lt
        have hlen2 := h1.ltc
        have hx0 : Ext (isH hd) S (S1 ++ [Ob.lst ((["+", "-", "*", "/", "/", "==", "!=", "<", "<=", "and", "or", "+", "+"] : List Str).map D.str)]) := hx1.appT
        refine some_ (l := (["+", "-", "*", "/", "/", "==", "!=", "<", "<=", "and", "or", "+", "+"] : List Str).map D.str) (by simp) (by simp) (by omega) h1.app fun j d S2 hj h2 hx2 => ?_
        obtain ⟨z, hz, rfl⟩ := str_mem hj
        have hsg : z ∈ tup_SIGNS := by
          have : ∀ z ∈ (["+", "-", "*", "/", "/", "==", "!=", "<", "<=", "and", "or", "+", "+"] : List Str), decide (z ∈ tup_SIGNS) = true := by decide +kernel
          exact of_decide_eq_true (this z hz)
        have hxs : Ext (isH hd) S S2 := hx1.trans (Ext.app.trans hx2)
        have hnm2 := hxs.get _ _ hne hnm
        try simp_arith []
        rw [hsub]
        refine d_expr hm hns hnl hne n dep S2 _ _ (by omega) hnm2 h2 fun e1 S3 he1 h3 hx3 => ?_
        try simp_arith []
        refine d_expr hm hns hnl hne n dep S3 _ _ (by omega) (hx3.get _ _ hne hnm2) h3 fun e2 S4 he2 h4 hx4 => ?_
        try simp_arith []
        refine q (.bin z e1 e2) S4 ⟨⟨hsg, he1.1, he2.1⟩, by simp [Ex.ht]; have := he1.2.1; have := he2.2.1; omega, by simp [Ex.sz]; have := he1.2.2.1; have := he2.2.2.1; omega, fun y hy => ?_⟩ h4 ((hxs.trans hx3).trans hx4)
        simp only [Ex.nms, List.mem_append] at hy
        rcases hy with hy | hy
        · exact he1.2.2.2 y hy
        · exact he2.2.2.2 y hy
end
/-! ### statements with their bounds -/
section
variable {m : Int} {we : List (Int × Int)} {at_ hl H N L : Nat} {W : Int}
theorem sg_say {e : Ex} (h : EG m e) (hL : 1 ≤ L) (hW : 1 ≤ W) : SG m we at_ hl H N L W (.say e) := ⟨fun x hx => by simp [Stm.all] at hx; subst hx; exact h, by simp [Stm.bh], by simp [Stm.nb], by simpa [Stm.all] using hL, fun _ _ => by simpa [Stm.wt] using hW⟩
theorem sg_set {x : Str} {e : Ex} (hx : x ∈ L4) (h : EG m e) (hL : 1 ≤ L) (hW : 1 ≤ W) : SG m we at_ hl H N L W (.set x e) := ⟨fun y hy => by simp [Stm.all] at hy; subst hy; exact ⟨hx, h⟩, by simp [Stm.bh], by simp [Stm.nb], by simpa [Stm.all] using hL, fun _ _ => by simpa [Stm.wt] using hW⟩
theorem sg_do {k : Nat} (hk : k < hl) (hL : 1 ≤ L) (hW : 19 ≤ W) : SG m we at_ hl H N L W (.do_ (k : Nat)) := ⟨fun y hy => by simp [Stm.all] at hy; subst hy; exact ⟨k, rfl, hk⟩, by simp [Stm.bh], by simp [Stm.nb], by simpa [Stm.all] using hL, fun hw hh => by have := hh (k : Nat); simp [Stm.wt]; omega⟩
theorem sg_send {k : Nat} {t : Int} {e : Ex} (hk : we[k]? = some ((at_ : Int), t)) (h : EG m e) (hL : 1 ≤ L) (hW : 1 ≤ W) : SG m we at_ hl H N L W (.send (k : Nat) e) := ⟨fun y hy => by simp [Stm.all] at hy; subst hy; exact ⟨⟨k, t, rfl, hk⟩, h⟩, by simp [Stm.bh], by simp [Stm.nb], by simpa [Stm.all] using hL, fun _ _ => by simpa [Stm.wt] using hW⟩
theorem sg_take {k : Nat} {s : Int} {x : Str} (hk : we[k]? = some (s, (at_ : Int))) (h : x ∈ L4) (hL : 1 ≤ L) (hW : 1 ≤ W) : SG m we at_ hl H N L W (.take (k : Nat) x) := ⟨fun y hy => by simp [Stm.all] at hy; subst hy; exact ⟨⟨k, s, rfl, hk⟩, h⟩, by simp [Stm.bh], by simp [Stm.nb], by simpa [Stm.all] using hL, fun _ _ => by simpa [Stm.wt] using hW⟩
theorem sg_if {e : Ex} {a b : List Stm} (he : EG m e) (hW : 0 ≤ W) (ha : ∀ s ∈ a, SG m we at_ hl H N L W s) (hb : ∀ s ∈ b, SG m we at_ hl H N L W s) (h1 : a.length ≤ 2) (h2 : b.length ≤ 2) (h3 : a.length + b.length ≤ 3) : SG m we at_ hl (H + 1) (2 + N * 3) (1 + L * 3) (1 + W * 2) (.ite e a b) := by
  have a1 := sg_bhs ha; have a2 := sg_bhs hb
  have b1 := sg_nbs ha; have b2 := sg_nbs hb
  have c1 := sg_len ha; have c2 := sg_len hb
  have n1 : N * a.length + N * b.length ≤ N * 3 := by rw [← Nat.mul_add]; exact Nat.mul_le_mul_left _ h3
  have n2 : L * a.length + L * b.length ≤ L * 3 := by rw [← Nat.mul_add]; exact Nat.mul_le_mul_left _ h3
  refine ⟨fun x hx => ?_, by simp [Stm.bh]; omega, by simp [Stm.nb]; omega, by simp [Stm.all]; omega, fun hw hh => ?_⟩
  · simp only [Stm.all, List.mem_cons, List.mem_append] at hx
    rcases hx with rfl | hx | hx
    · exact ⟨he, by omega, by omega⟩
    · exact sg_all ha x hx
    · exact sg_all hb x hx
  · have d1 := sg_wts hh ha; have d2 := sg_wts hh hb
    have m1 : W * (a.length : Int) ≤ W * 2 := Int.mul_le_mul_of_nonneg_left (by omega) hW
    have m2 : W * (b.length : Int) ≤ W * 2 := Int.mul_le_mul_of_nonneg_left (by omega) hW
    simp only [Stm.wt]; omega
theorem sg_rnd {e : Ex} {a : List Stm} (hm : 2 ≤ m ∧ m ≤ 5) (he : EG m e) (hW : 0 ≤ W) (ha : ∀ s ∈ a, SG m we at_ hl H N L W s) (h1 : a.length ≤ 2) : SG m we at_ hl (H + 1) (2 + N * 3) (1 + L * 3) (1 + W * 8) (.rnd e a) := by
  have a1 := sg_bhs ha
  have b1 := sg_nbs ha
  have c1 := sg_len ha
  have n1 : N * a.length ≤ N * 3 := Nat.mul_le_mul_left _ (by omega)
  have n2 : L * a.length ≤ L * 3 := Nat.mul_le_mul_left _ (by omega)
  refine ⟨fun x hx => ?_, by simp [Stm.bh]; omega, by simp [Stm.nb]; omega, by simp [Stm.all]; omega, fun hw hh => ?_⟩
  · simp only [Stm.all, List.mem_cons] at hx
    rcases hx with rfl | hx
    · exact ⟨he, by omega⟩
    · exact sg_all ha x hx
  · have d1 := sg_wts hh ha
    have m1 : W * (a.length : Int) ≤ W * 2 := Int.mul_le_mul_of_nonneg_left (by omega) hW
    have m2 : (m - 1) * wts m hw a ≤ (m - 1) * (W * 2) := Int.mul_le_mul_of_nonneg_left (by omega) (by omega)
    have m3 : (m - 1) * (W * 2) ≤ 4 * (W * 2) := Int.mul_le_mul_of_nonneg_right (by omega) (by omega)
    simp only [Stm.wt]; omega
end
def Nf : Nat → Nat
  | 0 => 0 | d + 1 => 2 + Nf d * 3
def Lf : Nat → Nat
  | 0 => 1 | d + 1 => 1 + Lf d * 3
def Wf (hl : Nat) : Nat → Int
  | 0 => 1 | d + 1 => max (if hl = 0 then 0 else 19) (1 + Wf hl d * 8)
theorem Lf1 : ∀ d, 1 ≤ Lf d
  | 0 => Nat.le_refl _ | d + 1 => by simp only [Lf]; omega
theorem Wf1 {hl} : ∀ d, 1 ≤ Wf hl d
  | 0 => Int.le_refl _ | d + 1 => by have := Wf1 (hl := hl) d; simp only [Wf]; omega

set_option Elab.async false
set_option linter.all false
set_option maxRecDepth 100000
open PySem PySem.Spec PyProof.Rows L2 Y Z
section
variable {hd c : Nat} {m : Int} {we : List (Int × Int)} {at_ hl : Nat}
theorem d_expr2 {nmI : Nat} {ns : List Str} {S : AH} {Q : D → AH → Prop} {E : Xn → AH → Prop} (hm : 2 ≤ m ∧ m ≤ 5) (hns : ∀ z ∈ ns, z ∈ L4) (hnl : 1 ≤ ns.length ∧ ns.length ≤ 10) (hne : nmI ≠ hd) (hnm : S[nmI]? = some (.lst (ns.map D.str))) (h : Hand hd c S)
    (q : ∀ e S', EG m e → Hand hd c S' → Ext (isH hd) S S' → Q e.d S') : wp (F__law_expression 10 [.obj hd, .int m, .obj nmI, .int 2] S) Q E :=
  d_expr hm hns hnl hne 10 2 S Q E (by omega) hnm h fun e S' he => q e S' he.eg
theorem eg_num {k : Int} (h : 0 ≤ k ∧ k ≤ m - 1) : EG m (.num k) := ⟨⟨h, by simp [Ex.ht], by simp [Ex.sz]⟩, fun z hz => by simp [Ex.nms] at hz⟩
theorem eg_nam {z : Str} (h : z ∈ L4) : EG m (.nam z) := ⟨⟨L4_ok z h, by simp [Ex.ht], by simp [Ex.sz]⟩, fun y hy => by simp [Ex.nms] at hy; subst hy; exact h⟩
/-- a drawn statement without letters -/
theorem d_local {nmI : Nat} {ns : List Str} (hm : 2 ≤ m ∧ m ≤ 5) (hns : ∀ z ∈ ns, z ∈ L4) (hnl : 1 ≤ ns.length ∧ ns.length ≤ 10) (hne : nmI ≠ hd) (hhl : hl ≤ 1) : ∀ (n dep : Nat) (S : AH) (Q : D → AH → Prop) (E : Xn → AH → Prop), dep < n → S[nmI]? = some (.lst (ns.map D.str)) → Hand hd c S →
    (∀ s S', SG m we at_ hl dep (Nf dep) (Lf dep) (Wf hl dep) s → Hand hd c S' → Ext (isH hd) S S' → Q s.d S') → wp (F__law_local n [.obj hd, .int m, .obj nmI, .int (hl : Nat), .int (dep : Nat)] S) Q E
  | 0, dep, S, Q, E, hn, _, _, _ => by omega
  | n + 1, dep, S, Q, E, hn, hnm, h, q => by
    have hL := Lf1 dep
    have hW := Wf1 (hl := hl) dep
    rw [F__law_local]
    unfold b__law_local
    simp_arith []
    refine draw (by omega) h fun k S1 hk h1 hx1 => ?_
    have hnm1 := hx1.get _ _ hne hnm
    try simp_arith []
    refine d_expr2 hm hns hnl hne hnm1 h1 fun e S2 he h2 hx2 => ?_
    have hnm2 := hx2.get _ _ hne hnm1
    have hx02 := hx1.trans hx2
    try simp_arith []
    refine ch_i (fun hc => ?_) fun hc => ?_
    · try simp_arith []
      exact q (.say e) S2 (sg_say he hL hW) h2 hx02
    rw [ch_or]
    refine ch_i (fun hc2 => ?_) fun hc2 => ?_
    · try simp_arith []
      refine some_ hnm2 (by simp; omega) hne h2 fun j d S3 hj h3 hx3 => ?_
      obtain ⟨z, hz, rfl⟩ := str_mem hj
      try simp_arith []
      exact q (.set z e) S3 (sg_set (hns z hz) he hL hW) h3 (hx02.trans hx3)
    simp only [Bool.or_eq_false_iff, decide_eq_false_iff_not] at hc2
    obtain ⟨dep, rfl⟩ : ∃ d', dep = d' + 1 := ⟨dep - 1, by omega⟩
    have hL' := Lf1 dep
    have hW' := Wf1 (hl := hl) dep
    have hsub : (((dep + 1 : Nat) : Int) - 1) = (dep : Nat) := by omega
    have hWd : Wf hl (dep + 1) = max (if hl = 0 then 0 else 19) (1 + Wf hl dep * 8) := rfl
    refine ch_i (fun hc3 => ?_) fun hc3 => ?_
    · try simp_arith []
      refine ch_i (fun hc4 => ?_) fun hc4 => ?_
      · have hl1 : hl = 1 := by simp at hc4; omega
        try simp_arith []
        refine draw (by omega) h2 fun j S3 hj h3 hx3 => ?_
        try simp_arith []
        exact q (.do_ j) S3 (sg_do (by omega) (Lf1 _) (by rw [hWd, if_neg (by omega)]; omega)) h3 (hx02.trans hx3)
      · try simp_arith []
        exact q (.say e) S2 (sg_say he hL hW) h2 hx02
    · try simp_arith []
      refine draw (by omega) h2 fun j S3 hj h3 hx3 => ?_
      simp_arith [rng1_nat (show j < 1000000 by omega)]
      have hx03 := hx02.trans hx3
      refine collect (φ := Stm.d) (P := fun _ s => SG m we at_ hl dep (Nf dep) (Lf dep) (Wf hl dep) s) (QD := fun d S2 => optP (tupO [d] S2) _) (by omega) h3 (fun i S4 hi h4 hx4 hlt => ?_) fun xs S4 hxl hP h4 hx4 hj4 => ?_
      · try simp_arith []
        rw [hsub]
        exact d_local hm hns hnl hne hhl n dep S4 _ _ (by omega) ((hx03.trans hx4).get _ _ hne hnm) h4 fun s S5 hs h5 hx5 => ⟨⟨s, rfl, hs⟩, h5, hx5⟩
      have hPm : ∀ s ∈ xs, SG m we at_ hl dep (Nf dep) (Lf dep) (Wf hl dep) s := fun s hs => by
        obtain ⟨i, hi⟩ := List.mem_iff_getElem?.mp hs
        exact hP i s hi
      have hx04 := hx03.trans hx4
      simp_arith [tup_obj hj4]
      refine ch_i (fun hc5 => ?_) fun hc5 => ?_
      · try simp_arith []
        refine draw (by omega) h4 fun j2 S5 hj2 h5 hx5 => ?_
        simp_arith [rng1_nat (show j2 < 1000000 by omega)]
        have hx05 := hx04.trans hx5
        refine collect (φ := Stm.d) (P := fun _ s => SG m we at_ hl dep (Nf dep) (Lf dep) (Wf hl dep) s) (QD := fun d S2 => optP (tupO [d] S2) _) (by omega) h5 (fun i S6 hi h6 hx6 hlt => ?_) fun ys S6 hyl hP2 h6 hx6 hj6 => ?_
        · try simp_arith []
          rw [hsub]
          exact d_local hm hns hnl hne hhl n dep S6 _ _ (by omega) ((hx05.trans hx6).get _ _ hne hnm) h6 fun s S7 hs h7 hx7 => ⟨⟨s, rfl, hs⟩, h7, hx7⟩
        have hPm2 : ∀ s ∈ ys, SG m we at_ hl dep (Nf dep) (Lf dep) (Wf hl dep) s := fun s hs => by
          obtain ⟨i, hi⟩ := List.mem_iff_getElem?.mp hs
          exact hP2 i s hi
        simp_arith [tup_obj hj6]
        have hg := sg_if he (by omega) hPm hPm2 (by omega) (by omega) (by omega)
        have := q (.ite e xs ys) S6 (hg.mono (Nat.le_refl _) (Nat.le_refl _) (Nat.le_refl _) (Nat.le_refl _) (by rw [hWd]; omega)) h6 (hx05.trans hx6)
        simp only [Stm.d, blkD_map] at this
        exact this
      · have fin : ∀ e' S5, EG m e' → Hand hd c S5 → Ext (isH hd) S4 S5 → Q (.tup [.str "rounds", e'.d, .tup (xs.map Stm.d)]) S5 := fun e' S5 he' h5 hx5 => by
          have hg := sg_rnd hm he' (by omega) hPm (by omega)
          have := q (.rnd e' xs) S5 (hg.mono (Nat.le_refl _) (Nat.le_refl _) (Nat.le_refl _) (Nat.le_refl _) (by rw [hWd]; omega)) h5 (hx04.trans hx5)
          simp only [Stm.d, blkD_map] at this
          exact this
        try simp_arith []
        refine ch_i (fun hc6 => ?_) fun hc6 => ?_
        · try simp_arith []
          exact fin e S4 he h4 .refl
        · try simp_arith []
          refine draw (by omega) h4 fun j3 S5 hj3 h5 hx5 => ?_
          try simp_arith []
          have hm5 : 5 ≤ m := by simpa using hc6
          exact fin (.num j3) S5 (eg_num ⟨by omega, by omega⟩) h5 hx5
end

set_option Elab.async false
set_option linter.all false
set_option maxRecDepth 100000
open PySem PySem.Spec PyProof.Rows L2 Y Z
abbrev L3 : List Str := ["a", "b", "c"]
theorem L3_sub : ∀ z ∈ L3, z ∈ L4 := by decide +kernel
/-- a drawn pair of statements by which letters pass -/
theorem d_message {hd c : Nat} {m : Int} {we : List (Int × Int)} {as_ at_ k : Nat} {S : AH} {Q : D → AH → Prop} {E : Xn → AH → Prop} {i1 i2 : Nat} (hm : 2 ≤ m ∧ m ≤ 5) (hk : we[k]? = some ((as_ : Int), (at_ : Int))) (n1 : i1 ≠ hd) (n2 : i2 ≠ hd) (h1 : S[i1]? = some (.lst (L3.map D.str))) (h2 : S[i2]? = some (.lst (L3.map D.str))) (h : Hand hd c S)
    (q : ∀ (a b : List Stm) i j S', S.length ≤ i → S.length ≤ j → (∀ hl, ∀ s ∈ a, SG m we as_ hl 2 8 13 153 s) → (∀ hl, ∀ s ∈ b, SG m we at_ hl 2 8 13 153 s) → a.length ≤ 2 → b.length ≤ 2 → S'[i]? = some (.lst (a.map Stm.d)) → S'[j]? = some (.lst (b.map Stm.d)) → Hand hd c S' → Ext (isH hd) S S' → Q (.tup [.obj i, .obj j]) S') :
    wp (F__law_message [.obj hd, .int m, .int (k : Nat), .obj i1, .obj i2] S) Q E := by
  have fin : ∀ (a b : List Stm) S1, (∀ hl, ∀ s ∈ a, SG m we as_ hl 2 8 13 153 s) → (∀ hl, ∀ s ∈ b, SG m we at_ hl 2 8 13 153 s) → a.length ≤ 2 → b.length ≤ 2 → Hand hd c S1 → Ext (isH hd) S S1 → Q (.tup [.obj S1.length, .obj (S1 ++ [Ob.lst (a.map Stm.d)]).length]) (S1 ++ [Ob.lst (a.map Stm.d), Ob.lst (b.map Stm.d)]) := fun a b S1 ha hb la lb hh hx => by
    refine q a b _ _ _ hx.len (by simp; have := hx.len; omega) ha hb la lb (by simp) ?_ hh.app hx.appT
    rw [List.getElem?_append_right (by simp)]
    simp
  have lf : ∀ {as_ hl : Nat} {a b : List Stm} {e : Ex}, EG m e → (∀ s ∈ a, SG m we as_ hl 0 0 1 1 s) → (∀ s ∈ b, SG m we as_ hl 0 0 1 1 s) → a.length ≤ 2 → b.length ≤ 2 → a.length + b.length ≤ 3 → SG m we as_ hl 2 8 13 153 (.ite e a b) := fun he ha hb h1 h2 h3 => (sg_if he (by omega) ha hb h1 h2 h3).mono (Nat.le_refl _) (by omega) (by omega) (by omega) (by omega)
  have lr : ∀ {as_ hl : Nat} {a : List Stm} {e : Ex}, EG m e → (∀ s ∈ a, SG m we as_ hl 0 0 1 1 s) → a.length ≤ 2 → SG m we as_ hl 2 8 13 153 (.rnd e a) := fun he ha h1 => (sg_rnd hm he (by omega) ha h1).mono (Nat.le_refl _) (by omega) (by omega) (by omega) (by omega)
  have hone : EG m (.num 1) := eg_num (by omega)
  have hzero : EG m (.num 0) := eg_num (by omega)
  unfold F__law_message b__law_message
  simp_arith []
  refine some_ h2 (by simp) n2 h fun j d S1 hj hh1 hx1 => ?_
  obtain ⟨z, hz, rfl⟩ := str_mem hj
  have hz4 := L3_sub z hz
  try simp_arith []
  refine d_expr2 hm L3_sub (by simp) n1 (hx1.get _ _ n1 h1) hh1 fun e S2 he hh2 hx2 => ?_
  try simp_arith []
  refine draw (by omega) hh2 fun j3 S3 hj3 hh3 hx3 => ?_
  have hx03 := (hx1.trans hx2).trans hx3
  have h13 := hx03.get _ _ n1 h1
  try simp_arith []
  refine ch_i (fun hc => ?_) fun hc => ?_
  · try simp_arith []
    have := fin [.send (k : Nat) e] [.take (k : Nat) z] S3 (fun hl s hs => by simp at hs; subst hs; exact sg_send hk he (by omega) (by omega)) (fun hl s hs => by simp at hs; subst hs; exact sg_take hk hz4 (by omega) (by omega)) (by simp) (by simp) hh3 hx03
    simpa only [Stm.d, Ex.d, blkD, List.map_cons, List.map_nil] using this
  refine ch_i (fun hc => ?_) fun hc => ?_
  · try simp_arith []
    refine d_expr2 hm L3_sub (by simp) n1 h13 hh3 fun e2 S4 he2 hh4 hx4 => ?_
    try simp_arith []
    have := fin [.ite e [.send (k : Nat) e2] [.send (k : Nat) e]] [.take (k : Nat) z, .say (.nam z)] S4 (fun hl s hs => by
      simp at hs; subst hs
      exact lf he (fun s hs => by simp at hs; subst hs; exact sg_send hk he2 (by omega) (by omega)) (fun s hs => by simp at hs; subst hs; exact sg_send hk he (by omega) (by omega)) (by simp) (by simp) (by simp)) (fun hl s hs => by
      simp at hs
      rcases hs with rfl | rfl
      · exact sg_take hk hz4 (by omega) (by omega)
      · exact sg_say (eg_nam hz4) (by omega) (by omega)) (by simp) (by simp) hh4 (hx03.trans hx4)
    simpa only [Stm.d, Ex.d, blkD, List.map_cons, List.map_nil] using this
  refine ch_i (fun hc => ?_) fun hc => ?_
  · try simp_arith []
    refine draw (by omega) hh3 fun j4 S4 hj4 hh4 hx4 => ?_
    have hx04 := hx03.trans hx4
    have h14 := hx04.get _ _ n1 h1
    have e0 : ∀ T, ixO (.obj i1) (.int 0) (S4 ++ T) = some (.str "a", S4 ++ T) := fun T => ix_obj (k := 0) (l := L3.map D.str) (by rw [List.getElem?_append_left (get_lt h14)]; exact h14)
    have e00 : ixO (.obj i1) (.int 0) S4 = some (.str "a", S4) := by simpa using e0 []
    have emin : ∀ a b : Int, minO [.int a, .int b] S4 = some (.int (if b < a then b else a), S4) := fun a b => rfl
    simp_arith [emin, add_i, e0, e00]
    generalize hN : (if 1 + (j4 : Int) < m - 1 then 1 + (j4 : Int) else m - 1) = N
    have hNb : 0 ≤ N ∧ N ≤ m - 1 := by rw [← hN]; split <;> omega
    have ha4 : ("a" : Str) ∈ L4 := by decide +kernel
    have := fin [.rnd (.num N) [.send (k : Nat) e, .set "a" (.bin "+" (.nam "a") (.num 1))]] [.rnd (.num N) [.take (k : Nat) z, .say (.nam z)]] S4 (fun hl s hs => by
      simp at hs; subst hs
      refine lr (eg_num hNb) (fun s hs => ?_) (by simp)
      simp at hs
      rcases hs with rfl | rfl
      · exact sg_send hk he (by omega) (by omega)
      · refine sg_set ha4 ⟨⟨⟨by decide +kernel, L4_ok _ ha4, ⟨by omega, by omega⟩⟩, by simp [Ex.ht], by simp [Ex.sz]⟩, fun y hy => ?_⟩ (by omega) (by omega)
        simp [Ex.nms] at hy; subst hy; exact ha4) (fun hl s hs => by
      simp at hs; subst hs
      refine lr (eg_num hNb) (fun s hs => ?_) (by simp)
      simp at hs
      rcases hs with rfl | rfl
      · exact sg_take hk hz4 (by omega) (by omega)
      · exact sg_say (eg_nam hz4) (by omega) (by omega)) (by simp) (by simp) hh4 hx04
    simpa only [Stm.d, Ex.d, blkD, List.map_cons, List.map_nil] using this
  refine ch_i (fun hc => ?_) fun hc => ?_
  · try simp_arith []
    have := fin [.send (k : Nat) e, .ite e [.send (k : Nat) (.num 1)] []] [.take (k : Nat) z, .ite (.nam z) [.take (k : Nat) z] []] S3 (fun hl s hs => by
      simp at hs
      rcases hs with rfl | rfl
      · exact sg_send hk he (by omega) (by omega)
      · exact lf he (fun s hs => by simp at hs; subst hs; exact sg_send hk hone (by omega) (by omega)) (fun s hs => by cases hs) (by simp) (by simp) (by simp)) (fun hl s hs => by
      simp at hs
      rcases hs with rfl | rfl
      · exact sg_take hk hz4 (by omega) (by omega)
      · exact lf (eg_nam hz4) (fun s hs => by simp at hs; subst hs; exact sg_take hk hz4 (by omega) (by omega)) (fun s hs => by cases hs) (by simp) (by simp) (by simp)) (by simp) (by simp) hh3 hx03
    simpa only [Stm.d, Ex.d, blkD, List.map_cons, List.map_nil] using this
  · try simp_arith []
    have := fin [.send (k : Nat) e] [.take (k : Nat) z, .ite (.nam z) [.say (.num 1)] [.say (.nam z), .set z (.num 0)]] S3 (fun hl s hs => by simp at hs; subst hs; exact sg_send hk he (by omega) (by omega)) (fun hl s hs => by
      simp at hs
      rcases hs with rfl | rfl
      · exact sg_take hk hz4 (by omega) (by omega)
      · refine lf (eg_nam hz4) (fun s hs => by simp at hs; subst hs; exact sg_say hone (by omega) (by omega)) (fun s hs => ?_) (by simp) (by simp) (by simp)
        simp at hs
        rcases hs with rfl | rfl
        · exact sg_say (eg_nam hz4) (by omega) (by omega)
        · exact sg_set hz4 hzero (by omega) (by omega)) (by simp) (by simp) hh3 hx03
    simpa only [Stm.d, Ex.d, blkD, List.map_cons, List.map_nil] using this

set_option Elab.async false
set_option linter.all false
set_option maxRecDepth 100000
open PySem PySem.Spec PyProof.Rows L2 Y Z
theorem erase_map {α β : Type} {f : α → β} : ∀ (l : List α) (k : Nat), (l.map f).eraseIdx k = (l.eraseIdx k).map f
  | [], k => by simp
  | a :: l, 0 => by simp
  | a :: l, k + 1 => by simp [erase_map l k]
theorem wp_if_cut {QF : Fl → AH → Prop} {E : Xn → AH → Prop} {ft : Et} {fs gs : Es} {env : En} {S : AH} (R : Bool → AH → Prop) (ht : wp (ft env S) (fun b S1 => R b S1) NE) (hA : ∀ S1, R true S1 → wp (fs env S1) QF E) (hB : ∀ S1, R false S1 → wp (gs env S1) QF E) : wp (sIf ft fs gs env S) QF E := by
  rw [wp_sIf]
  refine wp_mono ht (fun b S1 hr => ?_) fun _ _ z => z.elim
  cases b with
  | true => rw [ch_t]; exact hA S1 hr
  | false => rw [ch_f]; exact hB S1 hr
section
variable {hd c : Nat} {E : Xn → AH → Prop} {S : AH} {Q : D → AH → Prop}
theorem pop_at {i k : Nat} {l : List D} {x : D} (h : S[i]? = some (.lst l)) (hk : l[k]? = some x) (hz : k < 1000000) : popO (.obj i) [.int (k : Nat)] S = some (x, S.set i (.lst (l.eraseIdx k))) := by
  unfold popO
  simp only [h]
  rw [if_pos ⟨by omega, by have : (2 : Int) ^ 63 = 9223372036854775808 := by decide
                           omega⟩]
  simp only [Int.toNat_natCast, hk]
/-- the things in a drawn order -/
theorem d_mixed {i : Nat} {ss : List Stm} (hi : S[i]? = some (.lst (ss.map Stm.d))) (hne : i ≠ hd) (hz : ss.length ≤ 1000) (h : Hand hd c S)
    (q : ∀ j (fs : List Stm) S', S.length ≤ j → S'[j]? = some (.lst (fs.map Stm.d)) → (∀ s ∈ fs, s ∈ ss) → fs.length = ss.length → Hand hd c S' → Ext (isH hd) S S' → Q (.obj j) S') : wp (F__law_mixed [.obj hd, .obj i] S) Q E := by
  have hbig := sizeLine_big
  have l1 := h.lt
  have l2 := h.ltc
  unfold F__law_mixed b__law_mixed
  simp_arith [lst_obj hi]
  have wlen : (S ++ [Ob.lst (ss.map Stm.d)]).length = S.length + 1 := by simp
  rw [wlen]
  refine wp_while (fun n env S1 => ∃ (ls fs : List Stm), env = [some (.obj hd), some (.obj i), some (.obj S.length), some (.obj (S.length + 1))] ∧ Ext (isH hd) S S1 ∧ Hand hd c S1 ∧ S1[S.length]? = some (.lst (ls.map Stm.d)) ∧ S1[S.length + 1]? = some (.lst (fs.map Stm.d)) ∧ (∀ s ∈ ls, s ∈ ss) ∧ (∀ s ∈ fs, s ∈ ss) ∧ ls.length + fs.length = ss.length ∧ n = ls.length)
    ss.length ⟨ss, [], rfl, .app, h.app, by simp, by rw [List.getElem?_append_right (by omega)]; simp, fun s hs => hs, by simp, by simp, rfl⟩ (by omega) ?_
  rintro n env S1 ⟨ls, fs, rfl, hx, hh, hl, hf, hls, hfs, hsum, rfl⟩
  simp_arith [len_obj hl]
  refine ch_i (fun hc => ?_) fun hc => ?_
  · have hpos : 0 < ls.length := by simpa using hc
    simp_arith [isLst_obj hf, len_obj hl, isLst_obj hl]
    refine draw (by simp; omega) hh fun k S2 hk hh2 hx2 => ?_
    have hk' : k < ls.length := by simpa using hk
    have hne2 : ¬ S.length = hd := by omega
    have hne3 : ¬ S.length + 1 = hd := by omega
    have hl2 := hx2.get _ _ hne2 hl
    have hf2 := hx2.get _ _ hne3 hf
    have hx' := get_setne (o := .lst ((ls.map Stm.d).eraseIdx k)) (S := S2) (show S.length ≠ S.length + 1 by omega)
    have hlen : ((ls.map Stm.d).eraseIdx k) = (ls.eraseIdx k).map Stm.d := erase_map _ _
    have hx3 : Ext (isH hd) S S2 := hx.trans hx2
    have hf3 : (S2.set S.length (.lst ((ls.map Stm.d).eraseIdx k)))[S.length + 1]? = some (.lst (fs.map Stm.d)) := by rw [hx']; exact hf2
    have hxk : (ls.map Stm.d)[k]? = some (ls[k].d) := by rw [List.getElem?_map, List.getElem?_eq_getElem hk']; rfl
    simp_arith [pop_at hl2 hxk (by omega), app_lst hf3 (show (fs.map Stm.d).length < sizeLine by simp; omega)]
    refine ⟨(ls.eraseIdx k).length, by rw [List.length_eraseIdx_of_lt hk']; omega, ls.eraseIdx k, fs ++ [ls[k]], (hx3.setT (.inr (Nat.le_refl _))).setT (.inr (by omega)), (hh2.set (by omega) (by omega)).set (by omega) (by omega), ?_, ?_, fun s hs => hls s (List.mem_of_mem_eraseIdx hs), fun s hs => ?_, ?_, rfl⟩
    · rw [get_setne (by omega), get_set hl2, hlen]
    · rw [get_set hf3]; simp
    · rcases List.mem_append.mp hs with hs | hs
      · exact hfs s hs
      · simp at hs; subst hs; exact hls _ (List.getElem_mem _)
    · rw [List.length_eraseIdx_of_lt hk']; simp; omega
  · have hz0 : ls.length = 0 := by simpa using hc
    try simp_arith []
    exact q (S.length + 1) fs S1 (by omega) hf hfs (by omega) hh hx
/-- [[] for person in range(n)] -/
theorem rows_comp {n i : Nat} {env : En} {QU : Unit → AH → Prop} {S1 : AH} (h : Hand hd c S1) (hz : n ≤ 1000)
    (fin : ∀ (os : List Nat) S2, os.length = n → os.Nodup → (∀ o ∈ os, S1.length < o ∧ S2[o]? = some (.lst [])) → Hand hd c S2 → Ext (isH hd) S1 S2 → S2[S1.length]? = some (.lst (os.map D.obj)) → QU () S2) :
    wp (lcL S1.length (fun _ => true) (gNm i) tYes' (eLst aNil) env (rngL 0 n) (S1 ++ [.lst []])) QU E := by
  have hbig := sizeLine_big
  have l1 := h.lt
  have l2 := h.ltc
  refine wp_lc (fun k acc S2 => ∃ os : List Nat, acc = os.map D.obj ∧ os.length = k ∧ os.Nodup ∧ (∀ o ∈ os, S1.length < o ∧ S2[o]? = some (.lst [])) ∧ Hand hd c S2 ∧ Ext (isH hd) S1 S2) (acc := []) (by simp) ⟨[], rfl, rfl, by simp, by simp, h.app, .app⟩ (fun k d acc S2 hd' hj ⟨os, hf, hk, hn, ho, hh, hx⟩ => ⟨rfl, ?_⟩) (fun acc S2 hj ⟨os, hf, hk, hn, ho, hh, hx⟩ => ⟨rfl, ?_⟩)
  · obtain ⟨hkn, rfl⟩ := rngL_get hd'
    have hjl := get_lt hj
    simp_arith [tYes']
    have hj2 : (S2 ++ [Ob.lst []])[S1.length]? = some (.lst acc) := by rw [List.getElem?_append_left hjl]; exact hj
    refine ⟨hj2, by rw [hf, List.length_map]; omega, os ++ [S2.length], by rw [hf]; simp, by simp [hk], ?_, fun o hm => ?_, hh.app.set (by omega) (by omega), (hx.appT).setT (.inr (Nat.le_refl _))⟩
    · rw [List.nodup_append]
      refine ⟨hn, by simp, fun a ha b hb e => ?_⟩
      simp at hb; subst hb; subst e
      have := get_lt (ho _ ha).2
      omega
    · rcases List.mem_append.mp hm with hm | hm
      · obtain ⟨a1, a2⟩ := ho o hm
        exact ⟨a1, by rw [get_setne (by omega), List.getElem?_append_left (get_lt a2)]; exact a2⟩
      · simp at hm; subst hm
        exact ⟨hjl, by rw [get_setne (by omega)]; simp⟩
  · subst hf
    rw [rng_len] at hk
    exact fin os S2 hk hn ho hh hx hj
theorem collectU {X : Type} {φ : X → D} {P : Nat → X → Prop} {env : En} {te : Ev} {i n : Nat} {QU : Unit → AH → Prop} {S1 : AH} (hz : n ≤ 1000) (h : Hand hd c S1)
    (step : ∀ k S2, k < n → Hand hd c S2 → Ext (isH hd) S1 S2 → S1.length < S2.length → wp (te (env.set i (some (.int (k : Nat)))) S2) (fun y S3 => (∃ x, y = φ x ∧ P k x) ∧ Hand hd c S3 ∧ Ext (isH hd) S2 S3) NE)
    (fin : ∀ (xs : List X) S2, xs.length = n → (∀ k x, xs[k]? = some x → P k x) → Hand hd c S2 → Ext (isH hd) S1 S2 → S2[S1.length]? = some (.lst (xs.map φ)) → QU () S2) :
    wp (lcL S1.length (fun _ => true) (gNm i) tYes' te env (rngL 0 n) (S1 ++ [.lst []])) QU E := collect (QD := fun _ S2 => QU () S2) hz h step fin
theorem rep_lst {i n : Nat} (h : S[i]? = some (.lst [.int 0])) (hz : n ≤ 1000) : mulO (.obj i) (.int (n : Nat)) S = some (.obj S.length, S ++ [.lst (List.replicate n (.int 0))]) := by
  have hbig := sizeLine_big
  unfold mulO
  simp only [h]
  rw [if_pos ⟨by have : (2 : Int) ^ 63 = 9223372036854775808 := by decide
                 omega, by have : (2 : Int) ^ 63 = 9223372036854775808 := by decide
                           omega, by simp; omega⟩]
  congr 3
  simp only [Int.toNat_natCast]
  clear h
  have : (List.replicate n [D.int 0]).flatten = List.replicate n (.int 0) := by
    induction n with
    | zero => rfl
    | succ n ih => rw [List.replicate_succ, List.flatten_cons, ih (by omega), List.replicate_succ]; rfl
  rw [this]
theorem wn_get {k : Nat} (hk : k < 4) : ∃ z, (∀ S, ixO (.str "abcdef") (.int (k : Nat)) S = some (.str z, S)) ∧ ∀ S, addO (.str "w") (.str z) S = some (.str (wnm k), S) := by
  have hbig := sizeLine_big
  have e : ∀ z : Str, z.length = 1 → ∀ S, addO (.str "w") (.str z) S = some (.str ("w" ++ z), S) := fun z hz S => by
    unfold addO
    simp only []
    rw [if_pos (by rw [hz]; have : ("w" : Str).length = 1 := rfl; omega)]
  have e2 : ∀ k : Nat, k < 6 → ∀ ch, ("abcdef" : Str).cps.toList[k]? = some ch → ∀ S, ixO (.str "abcdef") (.int (k : Nat)) S = some (.str ⟨#[ch]⟩, S) := fun k hk ch hz S => by
    show (if ("abcdef" : Str).length ≤ sizeLine then (atI ("abcdef" : Str).cps.toList (k : Int)).map _ else none) = _
    rw [if_pos (by have : ("abcdef" : Str).length = 6 := rfl
                   omega), at_nat, hz]
    rfl
  match k, hk with
  | 0, _ => exact ⟨_, e2 0 (by omega) _ rfl, e _ rfl⟩
  | 1, _ => exact ⟨_, e2 1 (by omega) _ rfl, e _ rfl⟩
  | 2, _ => exact ⟨_, e2 2 (by omega) _ rfl, e _ rfl⟩
  | 3, _ => exact ⟨_, e2 3 (by omega) _ rfl, e _ rfl⟩
end

set_option Elab.async false
set_option linter.all false
set_option maxRecDepth 100000
open PySem PySem.Spec PyProof.Rows L2 Y Z
/-- the house under way: the objects that the draws work at -/
structure MS (S0 : AH) (hd c n : Nat) (m : Int) (wi rr aa hh : Nat) (ws : List Wir) (as hs os : List Nat) (N : Nat → Nat) (S : AH) : Prop where
  ext : Ext (isH hd) S0 S
  hand : Hand hd c S
  gw : S0.length ≤ wi
  gr : S0.length ≤ rr
  ga : S0.length ≤ aa
  gh : S0.length ≤ hh
  d1 : wi ≠ rr
  d2 : wi ≠ aa
  d3 : wi ≠ hh
  d4 : rr ≠ aa
  d5 : rr ≠ hh
  d6 : aa ≠ hh
  w : S[wi]? = some (.lst (ws.map Wir.d))
  r : S[rr]? = some (.lst (os.map D.obj))
  a : S[aa]? = some (.lst (nats as))
  h : S[hh]? = some (.lst (nats hs))
  wl : ws.length ≤ 4
  wf : ∀ (k : Nat) x, ws[k]? = some x → x.name = wnm k ∧ (∃ a b : Nat, x.s = (a : Int) ∧ x.t = (b : Int) ∧ a < n ∧ b < n ∧ a ≠ b) ∧ (0 ≤ x.room ∧ x.room ≤ 9)
  al : as.length = n
  af : ∀ z ∈ as, z ≤ 4
  hl : hs.length = n
  hf : ∀ z ∈ hs, z ≤ 1
  ol : os.length = n
  on : os.Nodup
  og : ∀ o ∈ os, S0.length ≤ o ∧ o ≠ wi ∧ o ≠ rr ∧ o ≠ aa ∧ o ≠ hh
  rows : ∀ (k o : Nat), os[k]? = some o → ∃ b : List Stm, S[o]? = some (.lst (b.map Stm.d)) ∧ b.length ≤ N k ∧ ∀ s ∈ b, SG m (ws.map Wir.e) k (hs.getD k 0) 2 8 13 153 s
section
variable {S0 S S' : AH} {hd c n : Nat} {m : Int} {wi rr aa hh : Nat} {ws : List Wir} {as hs os : List Nat} {N : Nat → Nat}
theorem MS.go (M : MS S0 hd c n m wi rr aa hh ws as hs os N S) (hl : hd < S0.length) (hx : Ext (isH hd) S S') (hH : Hand hd c S') : MS S0 hd c n m wi rr aa hh ws as hs os N S' :=
  { M with
    ext := M.ext.trans hx
    hand := hH
    w := hx.get _ _ (by show ¬ wi = hd; have := M.gw; omega) M.w
    r := hx.get _ _ (by show ¬ rr = hd; have := M.gr; omega) M.r
    a := hx.get _ _ (by show ¬ aa = hd; have := M.ga; omega) M.a
    h := hx.get _ _ (by show ¬ hh = hd; have := M.gh; omega) M.h
    rows := fun k o ho => by
      obtain ⟨b, hb, h2⟩ := M.rows k o ho
      have := (M.og o (List.mem_of_getElem? ho)).1
      exact ⟨b, hx.get _ _ (by show ¬ o = hd; omega) hb, h2⟩ }
theorem MS.mono (M : MS S0 hd c n m wi rr aa hh ws as hs os N S) {N' : Nat → Nat} (h : ∀ j, N j ≤ N' j) : MS S0 hd c n m wi rr aa hh ws as hs os N' S :=
  { M with
    rows := fun k o ho => by
      obtain ⟨b, hb, h2, h3⟩ := M.rows k o ho
      exact ⟨b, hb, Nat.le_trans h2 (h k), h3⟩ }
theorem nodup_ne {os : List Nat} (hn : os.Nodup) {j k : Nat} {o p : Nat} (h1 : os[j]? = some o) (h2 : os[k]? = some p) (h : j ≠ k) : o ≠ p := by
  intro e
  subst e
  obtain ⟨l1, e1⟩ := List.getElem?_eq_some_iff.mp h1
  obtain ⟨l2, e2⟩ := List.getElem?_eq_some_iff.mp h2
  exact h ((List.getElem_inj hn).mp (e1.trans e2.symm))
/-- a row is longer -/
theorem MS.add (M : MS S0 hd c n m wi rr aa hh ws as hs os N S) (hl : hd < S0.length) (hc : c < S0.length) {k o : Nat} (ho : os[k]? = some o) {b x : List Stm} (hb : S[o]? = some (.lst (b.map Stm.d))) (hb3 : ∀ s ∈ b, SG m (ws.map Wir.e) k (hs.getD k 0) 2 8 13 153 s) (hx : ∀ s ∈ x, SG m (ws.map Wir.e) k (hs.getD k 0) 2 8 13 153 s) {N' : Nat → Nat} (hN : ∀ j, N j ≤ N' j) (hl2 : b.length + x.length ≤ N' k) :
    MS S0 hd c n m wi rr aa hh ws as hs os N' (S.set o (.lst ((b ++ x).map Stm.d))) := by
  obtain ⟨g0, g1, g2, g3, g4⟩ := M.og o (List.mem_of_getElem? ho)
  exact { M with
    ext := M.ext.setT (.inr g0)
    hand := M.hand.set (by omega) (by omega)
    w := by rw [get_setne (by omega)]; exact M.w
    r := by rw [get_setne (by omega)]; exact M.r
    a := by rw [get_setne (by omega)]; exact M.a
    h := by rw [get_setne (by omega)]; exact M.h
    rows := fun j p hp => by
      by_cases hj : j = k
      · subst hj
        rw [ho] at hp; cases hp
        exact ⟨b ++ x, get_set hb, by simp; omega, fun s hs => (List.mem_append.mp hs).elim (hb3 s) (hx s)⟩
      · obtain ⟨b', hb', h2, h3⟩ := M.rows j p hp
        exact ⟨b', by rw [get_setne (nodup_ne M.on ho hp (Ne.symm hj))]; exact hb', Nat.le_trans h2 (hN j), h3⟩ }
/-- another row -/
theorem MS.put (M : MS S0 hd c n m wi rr aa hh ws as hs os N S) (hl : hd < S0.length) (hc : c < S0.length) {k o o' : Nat} (ho : os[k]? = some o) {b : List Stm} (hg : S0.length ≤ o') (hn : o' ∉ os) (hne : o' ≠ wi ∧ o' ≠ rr ∧ o' ≠ aa ∧ o' ≠ hh) (hb : S[o']? = some (.lst (b.map Stm.d))) (hb3 : ∀ s ∈ b, SG m (ws.map Wir.e) k (hs.getD k 0) 2 8 13 153 s) (hl2 : b.length ≤ N k) :
    MS S0 hd c n m wi rr aa hh ws as hs (os.set k o') N (S.set rr (.lst ((os.set k o').map D.obj))) := by
  have hk := (List.getElem?_eq_some_iff.mp ho).1
  have g1 := M.d1; have g2 := M.d4; have g3 := M.d5; have g4 := M.gr
  exact { M with
    ext := M.ext.setT (.inr g4)
    hand := M.hand.set (by omega) (by omega)
    w := by rw [get_setne (by omega)]; exact M.w
    r := get_set M.r
    a := by rw [get_setne (by omega)]; exact M.a
    h := by rw [get_setne (by omega)]; exact M.h
    ol := by rw [List.length_set]; exact M.ol
    on := by
      rw [List.nodup_iff_pairwise_ne, List.pairwise_iff_getElem]
      intro i j hi hj hij e
      rw [List.length_set] at hi hj
      rw [List.getElem_set, List.getElem_set] at e
      have hh := M.on
      split at e
      · split at e
        · omega
        · exact hn (e ▸ List.getElem_mem _)
      · split at e
        · exact hn (e ▸ List.getElem_mem _)
        · have := (List.getElem_inj hh).mp e
          omega
    og := fun p hp => by
      rcases List.mem_or_eq_of_mem_set hp with hp | rfl
      · exact M.og p hp
      · exact ⟨hg, hne⟩
    rows := fun j p hp => by
      have hrr : ∀ q, q ∈ os → q ≠ rr := fun q hq => (M.og q hq).2.2.1
      by_cases hj : j = k
      · subst hj
        rw [List.getElem?_set_self hk] at hp
        cases hp
        exact ⟨b, by rw [get_setne (by omega)]; exact hb, hl2, hb3⟩
      · rw [List.getElem?_set_ne (Ne.symm hj)] at hp
        obtain ⟨b', hb', h2, h3⟩ := M.rows j p hp
        exact ⟨b', by rw [get_setne (Ne.symm (hrr p (List.mem_of_getElem? hp)))]; exact hb', h2, h3⟩ }
/-- maybe a row is longer -/
theorem ext_if {env : En} {v w i k : Nat} {x : List Stm} {Q : Fl → AH → Prop} (he0 : env[0]? = some (some (.obj hd))) (he6 : env[6]? = some (some (.obj rr))) (hev : env[v]? = some (some (.int (k : Nat)))) (hew : env[w]? = some (some (.obj i)))
    (M : MS S0 hd c n m wi rr aa hh ws as hs os N S) (hl : hd < S0.length) (hc : c < S0.length) (hk : k < n) (hN : ∀ j, N j ≤ 100) (hi : S[i]? = some (.lst (x.map Stm.d))) (hih : i ≠ hd) (hx : ∀ hl, ∀ s ∈ x, SG m (ws.map Wir.e) k hl 2 8 13 153 s) (hx2 : x.length ≤ 2)
    (q : ∀ S', MS S0 hd c n m wi rr aa hh ws as hs os (fun j => if j = k then N j + 2 else N j) S' → (∀ j o, j ∉ os → j ≠ hd → S[j]? = some o → S'[j]? = some o) → Q (.nx env) S') :
    wp (sIf (asB (e2 gtO (eFn 2 F__law_draw (aCons (eVar 0) (aCons (eC (.int 12)) aNil))) (eC (.int 0)))) (sExp (eMeth extO (e2 ixO (eVar 6) (eVar v)) (aCons (eVar w) aNil))) sNil env S) Q NE := by
  have hbig := sizeLine_big
  simp_arith [he0]
  refine draw (by omega) M.hand fun k1 S1 hk1 h1 hx1 => ?_
  have M1 := M.go hl hx1 h1
  try simp_arith []
  have hmono : ∀ j, N j ≤ if j = k then N j + 2 else N j := fun j => by split <;> omega
  refine ch_i (fun hc1 => ?_) fun hc1 => ?_
  · have ho : os[k]? = some (os[k]'(by rw [M.ol]; exact hk)) := List.getElem?_eq_getElem _
    obtain ⟨b, hb, hb2, hb3⟩ := M1.rows k _ ho
    have e0 : ixO (.obj rr) (.int (k : Nat)) S1 = some (.obj (os[k]'(by rw [M.ol]; exact hk)), S1) := by rw [ix_obj M1.r, List.getElem?_map, ho]; rfl
    have hi1 := hx1.get _ _ hih hi
    have := hN k
    simp_arith [he6, hev, hew, e0, isLst_obj hb, ext_lst hb hi1 (show (b.map Stm.d).length + (x.map Stm.d).length ≤ sizeLine by simp; omega)]
    rw [← List.map_append]
    refine q _ (M1.add hl hc ho hb hb3 (hx _) hmono (by simp; omega)) fun j o hj hjh e => ?_
    rw [get_setne (fun e' => hj (by rw [← e']; exact List.getElem_mem _))]
    exact hx1.get _ _ hjh e
  · exact q _ (M1.mono hmono) fun j o hj hjh e => hx1.get _ _ hjh e
end
theorem d_local2 {we : List (Int × Int)} {at_ hl nmI hd c : Nat} {m : Int} {ns : List Str} {S : AH} {Q : D → AH → Prop} {E : Xn → AH → Prop} (hm : 2 ≤ m ∧ m ≤ 5) (hns : ∀ z ∈ ns, z ∈ L4) (hnl : 1 ≤ ns.length ∧ ns.length ≤ 10) (hne : nmI ≠ hd) (hhl : hl ≤ 1) (hnm : S[nmI]? = some (.lst (ns.map D.str))) (h : Hand hd c S)
    (q : ∀ s S', SG m we at_ hl 2 8 13 153 s → Hand hd c S' → Ext (isH hd) S S' → Q s.d S') : wp (F__law_local 10 [.obj hd, .int m, .obj nmI, .int (hl : Nat), .int 2] S) Q E :=
  d_local hm hns hnl hne hhl 10 2 S Q E (by omega) hnm h fun s S' hs => q s S' (hs.mono (Nat.le_refl _) (Nat.le_refl _) (by decide) (by decide) (by
    simp only [Wf]; split <;> omega))
theorem d_local1 {we : List (Int × Int)} {at_ nmI hd c : Nat} {m : Int} {ns : List Str} {S : AH} {Q : D → AH → Prop} {E : Xn → AH → Prop} (hm : 2 ≤ m ∧ m ≤ 5) (hns : ∀ z ∈ ns, z ∈ L4) (hnl : 1 ≤ ns.length ∧ ns.length ≤ 10) (hne : nmI ≠ hd) (hnm : S[nmI]? = some (.lst (ns.map D.str))) (h : Hand hd c S)
    (q : ∀ s S', SG m we at_ 0 1 2 4 9 s → Hand hd c S' → Ext (isH hd) S S' → Q s.d S') : wp (F__law_local 10 [.obj hd, .int m, .obj nmI, .int 0, .int 1] S) Q E :=
  d_local (hl := 0) hm hns hnl hne (by omega) 10 1 S Q E (by omega) hnm h fun s S' hs => q s S' (hs.mono (Nat.le_refl _) (Nat.le_refl _) (by decide) (by decide) (by
    simp only [Wf]; decide))
theorem fd2 {k : Nat} {S : AH} : fdivO (.int (k : Nat)) (.int 2) S = some (.int ((k / 2 : Nat) : Int), S) := by
  rw [fdiv_i (by omega) (by omega)]
  congr 3
  rw [Int.fdiv_eq_ediv_of_nonneg _ (by omega)]
  omega
theorem ab_cut {a : Nat} (ha : a ≤ 4) {S : AH} : ∃ z : Str, slO (.str "abcd") none (some (a : Int)) S = some (.str z, S) ∧ tupSO [.str z] S = some (.tup ((L4.take a).map D.str), S) := by
  have hbig := sizeLine_big
  have e : ∀ z : Str, cutS ("abcd" : Str) none (some (a : Int)) = z → z.cps.size ≤ 4 → chrs z = (L4.take a).map D.str → ∃ z : Str, slO (.str "abcd") none (some (a : Int)) S = some (.str z, S) ∧ tupSO [.str z] S = some (.tup ((L4.take a).map D.str), S) := fun z h1 h2 h3 => by
    refine ⟨z, ?_, ?_⟩
    · unfold slO
      simp only []
      rw [if_pos (by have : ("abcd" : Str).length = 4 := rfl
                     omega), h1]
    · unfold tupSO
      simp only []
      rw [if_pos (by omega), h3]
  match a, ha with
  | 0, _ => exact e _ rfl (by decide +kernel) rfl
  | 1, _ => exact e _ rfl (by decide +kernel) rfl
  | 2, _ => exact e _ rfl (by decide +kernel) rfl
  | 3, _ => exact e _ rfl (by decide +kernel) rfl
  | 4, _ => exact e _ rfl (by decide +kernel) rfl
theorem pn_get {k : Nat} (hk : k < 3) : ∃ z, (∀ S, ixO (.str "stuvwx") (.int (k : Nat)) S = some (.str z, S)) ∧ ∀ S, addO (.str "p") (.str z) S = some (.str (pnm k), S) := by
  have hbig := sizeLine_big
  have e : ∀ z : Str, z.length = 1 → ∀ S, addO (.str "p") (.str z) S = some (.str ("p" ++ z), S) := fun z hz S => by
    unfold addO
    simp only []
    rw [if_pos (by rw [hz]; have : ("p" : Str).length = 1 := rfl; omega)]
  have e2 : ∀ k : Nat, k < 6 → ∀ ch, ("stuvwx" : Str).cps.toList[k]? = some ch → ∀ S, ixO (.str "stuvwx") (.int (k : Nat)) S = some (.str ⟨#[ch]⟩, S) := fun k hk ch hz S => by
    show (if ("stuvwx" : Str).length ≤ sizeLine then (atI ("stuvwx" : Str).cps.toList (k : Int)).map _ else none) = _
    rw [if_pos (by have : ("stuvwx" : Str).length = 6 := rfl
                   omega), at_nat, hz]
    rfl
  match k, hk with
  | 0, _ => exact ⟨_, e2 0 (by omega) _ rfl, e _ rfl⟩
  | 1, _ => exact ⟨_, e2 1 (by omega) _ rfl, e _ rfl⟩
  | 2, _ => exact ⟨_, e2 2 (by omega) _ rfl, e _ rfl⟩
theorem ix_str {z : Str} {k ch : Nat} {S : AH} (h : z.length ≤ 8) (hz : z.cps.toList[k]? = some ch) : ixO (.str z) (.int (k : Nat)) S = some (.str ⟨#[ch]⟩, S) := by
  have hbig := sizeLine_big
  show (if z.length ≤ sizeLine then (atI z.cps.toList (k : Int)).map _ else none) = _
  rw [if_pos (by omega), at_nat, hz]
  rfl
theorem hn_get : ∃ z, (∀ S, ixO (.str "xy") (.int ((0 : Nat) : Int)) S = some (.str z, S)) ∧ ∀ S, addO (.str "h") (.str z) S = some (.str "hx", S) := by
  have hbig := sizeLine_big
  refine ⟨⟨#[120]⟩, fun S => ix_str (by decide +kernel) (by decide +kernel), fun S => ?_⟩
  unfold addO
  simp only []
  rw [if_pos (by have h1 : ("h" : Str).length = 1 := rfl
                 have h2 : (⟨#[120]⟩ : Str).length = 1 := rfl
                 rw [h1, h2]; omega)]
  rfl
theorem ints_mem {l : List Int} {k : Nat} {d : D} (h : (l.map D.int)[k]? = some d) : ∃ z ∈ l, d = .int z := by
  rw [List.getElem?_map, Option.map_eq_some_iff] at h
  obtain ⟨z, hz, e⟩ := h
  exact ⟨z, List.mem_of_getElem? hz, e.symm⟩
theorem wp_for0 {gd : AH → Bool} {t : Eg} {fs : Es} {env : En} {S : AH} {QF : Fl → AH → Prop} {E : Xn → AH → Prop} (hg : gd S = true) (h : QF (.nx env) S) : wp (forL gd t fs [] env S) QF E := by
  unfold forL
  rw [if_pos hg]
  exact h

set_option Elab.async false
set_option linter.all false
set_option maxRecDepth 100000
open PySem PySem.Spec PyProof.Rows L2 Y Z
structure M0 (S0 : AH) (hd c n : Nat) (wi rr aa : Nat) (ws : List Wir) (as os : List Nat) (S : AH) : Prop where
  ext : Ext (isH hd) S0 S
  hand : Hand hd c S
  gw : S0.length ≤ wi
  gr : S0.length ≤ rr
  ga : S0.length ≤ aa
  d1 : wi ≠ rr
  d2 : wi ≠ aa
  d4 : rr ≠ aa
  w : S[wi]? = some (.lst (ws.map Wir.d))
  r : S[rr]? = some (.lst (os.map D.obj))
  a : S[aa]? = some (.lst (nats as))
  wf : ∀ (k : Nat) x, ws[k]? = some x → x.name = wnm k ∧ (∃ a b : Nat, x.s = (a : Int) ∧ x.t = (b : Int) ∧ a < n ∧ b < n ∧ a ≠ b) ∧ (0 ≤ x.room ∧ x.room ≤ 9)
  al : as.length = n
  af : ∀ z ∈ as, z ≤ 4
  ol : os.length = n
  on : os.Nodup
  og : ∀ o ∈ os, S0.length ≤ o ∧ o ≠ wi ∧ o ≠ rr ∧ o ≠ aa
  rows : ∀ o ∈ os, S[o]? = some (.lst [])
section
variable {S0 S S' : AH} {hd c n : Nat} {m : Int} {wi rr aa hh : Nat} {ws : List Wir} {as hs os : List Nat} {N : Nat}
theorem M0.go (M : M0 S0 hd c n wi rr aa ws as os S) (hl : hd < S0.length) (hx : Ext (isH hd) S S') (hH : Hand hd c S') : M0 S0 hd c n wi rr aa ws as os S' :=
  { M with
    ext := M.ext.trans hx
    hand := hH
    w := hx.get _ _ (by show ¬ wi = hd; have := M.gw; omega) M.w
    r := hx.get _ _ (by show ¬ rr = hd; have := M.gr; omega) M.r
    a := hx.get _ _ (by show ¬ aa = hd; have := M.ga; omega) M.a
    rows := fun o ho => hx.get _ _ (by show ¬ o = hd; have := (M.og o ho).1; omega) (M.rows o ho) }
end
section
variable {hd c : Nat} {S : AH} {Q : D → AH → Prop} {E : Xn → AH → Prop}
theorem d_house (h : Hand hd c S) (q : ∀ H S', HG 18 H → Hand hd c S' → Ext (isH hd) S S' → Q H.d S') : wp (F__law_house [.obj hd, .int 3, .int 2] S) Q E := by
  have hbig := sizeLine_big
  have hl := h.lt
  have hc := h.ltc
  unfold F__law_house b__law_house
  rw [wp_funOf]
  refine wp_cut (fun e S1 => ∃ (m : Int) (n : Nat), e = [some (.obj hd), some (.int 3), some (.int 2), some (.int m), some (.int (n : Nat)), none, none, none, none, none, none, none, none, none, none, none, none, none, none] ∧ (2 ≤ m ∧ m ≤ 5) ∧ (1 ≤ n ∧ n ≤ 3) ∧ Hand hd c S1 ∧ Ext (isH hd) S S1) ?_ ?_
  · simp_arith []
    refine some_ (l := ([2, 3, 4, 5, 2, 3] : List Int).map D.int) (by simp) (by simp) (by omega) h.app fun j d S1 hj h1 hx1 => ?_
    obtain ⟨m, hm, rfl⟩ := ints_mem hj
    have hm2 : 2 ≤ m ∧ m ≤ 5 := (by decide : ∀ z ∈ ([2, 3, 4, 5, 2, 3] : List Int), 2 ≤ z ∧ z ≤ 5) m hm
    try simp_arith []
    refine draw (by omega) h1 fun k S2 hk h2 hx2 => ?_
    simp_arith [add_i]
    exact ⟨_, rfl, m, k + 1, by rw [show (1 + (k : Int)) = ((k + 1 : Nat) : Int) by omega], hm2, by omega, h2, (Ext.app.trans hx1).trans hx2⟩
  rintro e S1 ⟨m, n, rfl, hm, hn, h1, hx1⟩
  refine wp_cut (fun e S2 => ∃ (wi rr aa : Nat) (os : List Nat), e = [some (.obj hd), some (.int 3), some (.int 2), some (.int m), some (.int (n : Nat)), some (.obj wi), some (.obj rr), some (.obj aa), none, none, none, none, none, none, none, none, none, none, none] ∧ M0 S hd c n wi rr aa [] (List.replicate n 0) os S2) ?_ ?_
  · have hl1 := h1.lt
    have hc1 := h1.ltc
    have hx1l := hx1.len
    simp_arith [rng1_nat (show n < 1000000 by omega)]
    rw [show S1 ++ [Ob.lst [], Ob.lst []] = (S1 ++ [Ob.lst []]) ++ [Ob.lst []] by simp]
    refine rows_comp (n := n) (S1 := S1 ++ [Ob.lst []]) h1.app (by omega) fun os S2 ol on ho hh hx hj => ?_
    have hxl := hx.len
    have hjl := get_lt hj
    simp_arith [rep_lst (S := S2 ++ [Ob.lst [D.int 0]]) (i := S2.length) (n := n) (by simp) (by omega)]
    simp only [List.length_append, List.length_cons, List.length_nil, Nat.zero_add] at hxl hjl hj ho
    refine ⟨_, rfl, _, _, _, os, rfl, ?_⟩
    have hw : S2[S1.length]? = some (.lst []) := hx.get _ _ (by show ¬ S1.length = hd; omega) (by simp)
    constructor
    · exact ((hx1.appT).trans hx).appT
    · exact hh.app
    · omega
    · simp; omega
    · simp; omega
    · simp
    · simp; omega
    · simp; omega
    · rw [List.getElem?_append_left (get_lt hw), hw]; rfl
    · rw [List.getElem?_append_left (by simpa using hjl)]; simpa using hj
    · simp [nats]
    · simp
    · simp
    · intro z hz; have := List.eq_of_mem_replicate hz; omega
    · exact ol
    · exact on
    · intro o hm
      have := (ho o hm).1
      have := get_lt (ho o hm).2
      simp; omega
    · intro o hm
      rw [List.getElem?_append_left (get_lt (ho o hm).2)]
      exact (ho o hm).2
  rintro e S2 ⟨wi, rr, aa, os, rfl, M⟩
  refine wp_cut (fun e S3 => ∃ (x8 x9 x10 x11 x12 x13 x14 x15 x16 x17 x18 : Option D) (ws : List Wir), e = [some (.obj hd), some (.int 3), some (.int 2), some (.int m), some (.int (n : Nat)), some (.obj wi), some (.obj rr), some (.obj aa), x8, x9, x10, x11, x12, x13, x14, x15, x16, x17, x18] ∧ ws.length ≤ 4 ∧ M0 S hd c n wi rr aa ws (List.replicate n 0) os S3) ?_ ?_
  · simp_arith []
    refine ch_i (fun hn2 => ?_) fun hn2 => ?_
    · have hn2 : 2 ≤ n := by have := of_decide_eq_true hn2; omega
      try simp_arith []
      refine draw (by omega) M.hand fun k3 S3 hk3 h3 hx3 => ?_
      have M := M.go hl hx3 h3
      simp_arith [rng1_nat (show k3 < 1000000 by omega)]
      refine wp_for (fun k env S4 => ∃ (x8 x9 x10 x11 x12 x13 x14 x15 x16 x17 x18 : Option D) (ws : List Wir), env = [some (.obj hd), some (.int 3), some (.int 2), some (.int m), some (.int (n : Nat)), some (.obj wi), some (.obj rr), some (.obj aa), x8, x9, x10, x11, x12, x13, x14, x15, x16, x17, x18] ∧ ws.length = k ∧ k ≤ 4 ∧ M0 S hd c n wi rr aa ws (List.replicate n 0) os S4) ⟨_, _, _, _, _, _, _, _, _, _, _, [], rfl, rfl, by omega, M⟩ ?_ ?_
      · rintro k d env S4 hk ⟨x8, x9, x10, x11, x12, x13, x14, x15, x16, x17, x18, ws, rfl, wl, hk4, M⟩
        obtain ⟨hkk, rfl⟩ := rngL_get hk
        refine ⟨rfl, ?_⟩
        simp_arith []
        refine draw (by omega) M.hand fun s S5 hs h5 hx5 => ?_
        have M := M.go hl hx5 h5
        have hl5 := h5.lt
        have hc5 := h5.ltc
        have hs5 := M.ext.len
        simp_arith [rng1_nat (show n < 1000000 by omega)]
        refine wp_lc (fun j acc S6 => acc = nats ((List.range j).filter fun a => decide (a ≠ s)) ∧ Ext (isH hd) S5 S6 ∧ Hand hd c S6) (acc := []) (by simp) ⟨by simp [nats], .app, h5.app⟩ (fun j d acc S6 hd' hj ⟨hf, hx6, h6⟩ => ⟨rfl, ?_⟩) (fun acc S6 hj ⟨hf, hx6, h6⟩ => ⟨rfl, ?_⟩)
        · obtain ⟨hjn, rfl⟩ := rngL_get hd'
          have hal : acc.length ≤ 1000 := by
            rw [hf]
            simp only [nats, List.length_map]
            have := List.length_filter_le (fun a => decide (a ≠ s)) (List.range j)
            simp only [List.length_range] at this; omega
          simp_arith []
          refine ch_i (fun hc' => ?_) fun hc' => ?_
          · have hne : j ≠ s := by simp at hc'; omega
            try simp_arith []
            refine ⟨hj, by omega, ?_, hx6.setT (.inr (Nat.le_refl _)), h6.set (by omega) (by omega)⟩
            rw [hf, List.range_succ, List.filter_append]
            simp [nats, hne]
          · have hne : j = s := by simp at hc'; omega
            refine ⟨hj, ?_, hx6, h6⟩
            rw [hf, List.range_succ, List.filter_append]
            simp [nats, hne]
        · rw [rng_len] at hf
          have M := M.go hl hx6 h6
          have hmem : (if s = 0 then 1 else 0) ∈ (List.range n).filter fun a => decide (a ≠ s) := by
            rw [List.mem_filter, List.mem_range]
            split <;> (constructor <;> first | omega | (simp; omega))
          have hpos := List.length_pos_of_mem hmem
          have hlef := List.length_filter_le (fun a => decide (a ≠ s)) (List.range n)
          simp only [List.length_range] at hlef
          refine some_ (l := nats ((List.range n).filter fun a => decide (a ≠ s))) (by rw [hj, hf]) (by simp only [nats, List.length_map]; omega) (by omega) h6 fun j2 d S7 hj2 h7 hx7 => ?_
          have M := M.go hl hx7 h7
          simp only [nats, List.getElem?_map, Option.map_eq_some_iff] at hj2
          obtain ⟨t, ht, rfl⟩ := hj2
          have ht := List.mem_of_getElem? ht
          rw [List.mem_filter, List.mem_range] at ht
          have hts : t ≠ s := of_decide_eq_true ht.2
          obtain ⟨z, hz1, hz2⟩ := wn_get (show k < 4 by omega)
          simp_arith [isLst_obj M.w, hz1, hz2]
          have hl7 := h7.lt
          refine some_ (l := ([0, 0, 1, 1, 2, 9] : List Int).map D.int) (by simp) (by simp) (by omega) h7.app fun j8 d S8 hj8 h8 hx8 => ?_
          have M := M.go hl ((Ext.app (A := isH hd)).trans hx8) h8
          obtain ⟨room, hroom, rfl⟩ := ints_mem hj8
          have hroom2 : 0 ≤ room ∧ room ≤ 9 := (by decide : ∀ z ∈ ([0, 0, 1, 1, 2, 9] : List Int), 0 ≤ z ∧ z ≤ 9) room hroom
          simp_arith [app_lst M.w (show (ws.map Wir.d).length < sizeLine by simp; omega)]
          refine ⟨_, _, _, _, _, _, _, _, _, _, _, ws ++ [⟨wnm k, s, t, room⟩], rfl, by simp [wl], by omega, ?_⟩
          have d1 := M.d1; have d2 := M.d2; have gw := M.gw
          exact { M with
            ext := M.ext.setT (.inr gw)
            hand := M.hand.set (by omega) (by omega)
            w := by rw [get_set M.w]; simp [Wir.d]
            r := by rw [get_setne (by omega)]; exact M.r
            a := by rw [get_setne (by omega)]; exact M.a
            wf := fun i x hx => by
              by_cases hi : i < ws.length
              · rw [List.getElem?_append_left hi] at hx; exact M.wf i x hx
              · rw [List.getElem?_append_right (by omega)] at hx
                have hlt := (List.getElem?_eq_some_iff.mp hx).1
                simp at hlt
                have : i = k := by omega
                subst this
                rw [show i - ws.length = 0 by omega] at hx
                simp at hx
                subst hx
                exact ⟨rfl, ⟨s, t, rfl, rfl, by omega, ht.1, by omega⟩, hroom2⟩
            rows := fun o ho => by rw [get_setne (by have := (M.og o ho).2.1; omega)]; exact M.rows o ho }
      · rintro env S4 ⟨x8, x9, x10, x11, x12, x13, x14, x15, x16, x17, x18, ws, rfl, wl, hk4, M⟩
        exact ⟨rfl, _, rfl, _, _, _, _, _, _, _, _, _, _, _, ws, rfl, by omega, M⟩
    · simp_arith [show rngIt1 [.int 0] = some ⟨rngL 0 0, fun _ => true⟩ from rng1_nat (n := 0) (by omega)]
      refine wp_for0 rfl ?_
      exact ⟨_, rfl, _, _, _, _, _, _, _, _, _, _, _, [], rfl, by simp, M⟩
  rintro e S3 ⟨x8, x9, x10, x11, x12, x13, x14, x15, x16, x17, x18, ws, rfl, wl, M⟩
  refine wp_cut (fun e S4 => ∃ (x8 x9 x10 x11 x12 x13 x14 x15 x16 x17 x18 : Option D) (as : List Nat), e = [some (.obj hd), some (.int 3), some (.int 2), some (.int m), some (.int (n : Nat)), some (.obj wi), some (.obj rr), some (.obj aa), x8, x9, x10, x11, x12, x13, x14, x15, x16, x17, x18] ∧ M0 S hd c n wi rr aa ws as os S4) ?_ ?_
  · simp_arith [add_i]
    refine draw (by omega) M.hand fun k4 S4 hk4 h4 hx4 => ?_
    have M := M.go hl hx4 h4
    simp_arith [rng1_nat (show k4 < 1000000 by omega)]
    refine wp_for (fun k env S5 => ∃ (x8 x9 x10 x11 x12 x13 x14 x15 x16 x17 x18 : Option D) (as : List Nat), env = [some (.obj hd), some (.int 3), some (.int 2), some (.int m), some (.int (n : Nat)), some (.obj wi), some (.obj rr), some (.obj aa), x8, x9, x10, x11, x12, x13, x14, x15, x16, x17, x18] ∧ M0 S hd c n wi rr aa ws as os S5) ⟨_, _, _, _, _, _, _, _, _, _, _, _, rfl, M⟩ ?_ ?_
    · rintro k d env S5 hk ⟨x8, x9, x10, x11, x12, x13, x14, x15, x16, x17, x18, as, rfl, M⟩
      refine ⟨rfl, ?_⟩
      simp_arith []
      refine draw (by omega) M.hand fun p S6 hp h6 hx6 => ?_
      have M := M.go hl hx6 h6
      have hpn : p < as.length := by rw [M.al]; omega
      have e0 : ixO (.obj aa) (.int (p : Nat)) S6 = some (.int ((as[p] : Nat) : Int), S6) := by
        rw [ix_obj M.a, nats, List.getElem?_map, List.getElem?_eq_getElem hpn]; rfl
      have emin : minO [.int 4, .int ((as[p] : Nat) + 1)] S6 = some (.int ((min 4 (as[p] + 1) : Nat) : Int), S6) := by
        show some (D.int _, S6) = _
        congr 3
        split <;> omega
      simp_arith [e0, add_i, emin, st_nat M.a (k := p) (by simpa [nats] using hpn)]
      have d2 := M.d2; have d4 := M.d4; have ga := M.ga
      refine ⟨_, _, _, _, _, _, _, _, _, _, _, as.set p (min 4 (as[p] + 1)), rfl, ?_⟩
      exact { M with
        ext := M.ext.setT (.inr ga)
        hand := M.hand.set (by omega) (by omega)
        w := by rw [get_setne (by omega)]; exact M.w
        r := by rw [get_setne (by omega)]; exact M.r
        a := by rw [get_set M.a]; simp [nats, List.map_set]
        al := by rw [List.length_set]; exact M.al
        af := fun z hz => by
          rcases List.mem_or_eq_of_mem_set hz with hz | rfl
          · exact M.af z hz
          · omega
        rows := fun o ho => by rw [get_setne (by have := (M.og o ho).2.2.2; omega)]; exact M.rows o ho }
    · rintro env S5 ⟨x8, x9, x10, x11, x12, x13, x14, x15, x16, x17, x18, as, rfl, M⟩
      exact ⟨rfl, _, rfl, _, _, _, _, _, _, _, _, _, _, _, as, rfl, M⟩
  rintro e S4 ⟨x8, x9, x10, x11, x12, x13, x14, x15, x16, x17, x18, as, rfl, M⟩
  refine wp_cut (fun e S5 => ∃ (x8 x9 x10 x11 x13 x14 x15 x16 x17 x18 : Option D) (hh : Nat) (hs : List Nat), e = [some (.obj hd), some (.int 3), some (.int 2), some (.int m), some (.int (n : Nat)), some (.obj wi), some (.obj rr), some (.obj aa), x8, x9, x10, x11, some (.obj hh), x13, x14, x15, x16, x17, x18] ∧ MS S hd c n m wi rr aa hh ws as hs os (fun _ => 0) S5) ?_ ?_
  · have hl4 := M.hand.lt
    have gw := get_lt M.w; have gr := get_lt M.r; have ga := get_lt M.a
    have hlen := M.ext.len
    have M0rows := M.rows
    simp_arith [rng1_nat (show n < 1000000 by omega)]
    refine collectU (n := n) (X := Nat) (φ := fun x => .int (x : Nat)) (P := fun _ x => x ≤ 1) (by omega) M.hand (fun k S5 hk h5 hx5 _ => ?_) fun hs S5 hhl hP h5 hx5 hj5 => ?_
    · try simp_arith []
      refine draw (by omega) h5 fun p S6 hp h6 hx6 => ?_
      rw [fd2, optP_some]
      exact ⟨⟨p / 2, rfl, by omega⟩, h6, hx6⟩
    have M := M.go hl hx5 h5
    refine ⟨_, rfl, _, _, _, _, _, _, _, _, _, _, S4.length, hs, rfl, ?_⟩
    exact {
      ext := M.ext, hand := M.hand, gw := M.gw, gr := M.gr, ga := M.ga, gh := hlen, d1 := M.d1, d2 := M.d2, d3 := by omega, d4 := M.d4, d5 := by omega, d6 := by omega
      w := M.w, r := M.r, a := M.a, h := hj5, wl := wl, wf := M.wf, al := M.al, af := M.af, hl := hhl
      hf := fun z hz => by
        obtain ⟨i, hi⟩ := List.mem_iff_getElem?.mp hz
        exact hP i z hi
      ol := M.ol, on := M.on
      og := fun o ho => by
        obtain ⟨g1, g2, g3, g4⟩ := M.og o ho
        have h1 := M0rows o ho
        have := get_lt h1
        exact ⟨g1, g2, g3, g4, by omega⟩
      rows := fun k o ho => ⟨[], M.rows o (List.mem_of_getElem? ho), Nat.le_refl _, fun s hs => by cases hs⟩ }
  rintro e S5 ⟨x8, x9, x10, x11, x13, x14, x15, x16, x17, x18, hh, hs, rfl, M⟩
  refine wp_cut (fun e S6 => ∃ (x8 x9 x10 x11 x13 x14 x15 x16 x17 x18 : Option D), e = [some (.obj hd), some (.int 3), some (.int 2), some (.int m), some (.int (n : Nat)), some (.obj wi), some (.obj rr), some (.obj aa), x8, x9, x10, x11, some (.obj hh), x13, x14, x15, x16, x17, x18] ∧ MS S hd c n m wi rr aa hh ws as hs os (fun _ => 18) S6) ?_ ?_
  · simp_arith [add_i]
    refine draw (by omega) M.hand fun k6 S6 hk6 h6 hx6 => ?_
    have M := M.go hl hx6 h6
    have hrng : rngIt1 [.int (1 + (k6 : Int))] = some ⟨rngL 0 (k6 + 1), fun _ => true⟩ := by
      rw [show (1 + (k6 : Int)) = ((k6 + 1 : Nat) : Int) by omega]; exact rng1_nat (by omega)
    simp_arith [add_i, hrng]
    refine wp_for (fun k env S7 => ∃ (x8 x9 x10 x11 x13 x14 x15 x16 x17 x18 : Option D), env = [some (.obj hd), some (.int 3), some (.int 2), some (.int m), some (.int (n : Nat)), some (.obj wi), some (.obj rr), some (.obj aa), x8, x9, x10, x11, some (.obj hh), x13, x14, x15, x16, x17, x18] ∧ k ≤ 9 ∧ MS S hd c n m wi rr aa hh ws as hs os (fun _ => 2 * k) S7) ⟨_, _, _, _, _, _, _, _, _, _, rfl, by omega, M⟩ ?_ ?_
    · rintro k d env S7 hk ⟨x8, x9, x10, x11, x13, x14, x15, x16, x17, x18, rfl, hk9, M⟩
      obtain ⟨hkk, rfl⟩ := rngL_get hk
      refine ⟨rfl, ?_⟩
      simp only [gNm, optP_some, List.set_cons_succ, List.set_cons_zero]
      refine wp_if_cut (fun b S8 => (b = true → 1 ≤ ws.length) ∧ MS S hd c n m wi rr aa hh ws as hs os (fun _ => 2 * k) S8) ?_ ?_ ?_
      · simp_arith [len_obj M.w]
        refine ch_i (fun hc1 => ?_) fun hc1 => ⟨fun z => (by cases z), M⟩
        try simp_arith []
        refine draw (by omega) M.hand fun k8 S8 hk8 h8 hx8 => ?_
        try simp_arith []
        exact ⟨fun _ => by simp at hc1; omega, M.go hl hx8 h8⟩
      · rintro S8 ⟨hwl, M⟩
        have hwl := hwl rfl
        refine wp_cut (fun e S9 => ∃ kw : Nat, e = [some (.obj hd), some (.int 3), some (.int 2), some (.int m), some (.int (n : Nat)), some (.obj wi), some (.obj rr), some (.obj aa), some (.int (k : Nat)), x9, x10, x11, some (.obj hh), some (.int (kw : Nat)), x14, x15, x16, x17, x18] ∧ kw < ws.length ∧ MS S hd c n m wi rr aa hh ws as hs os (fun _ => 2 * k) S9) ?_ ?_
        · simp_arith [len_obj M.w]
          refine draw (by simp; omega) M.hand fun kw S9 hkw h9 hx9 => ?_
          try simp_arith []
          exact ⟨_, rfl, kw, rfl, by simpa using hkw, M.go hl hx9 h9⟩
        rintro e S9 ⟨kw, rfl, hkw', M⟩
        have hget : ws[kw]? = some ws[kw] := List.getElem?_eq_getElem hkw'
        obtain ⟨hnm, ⟨sa, sb, hsa, hsb, hsn, htn, hst⟩, hroom⟩ := M.wf kw _ hget
        have hwe : (ws.map Wir.e)[kw]? = some ((sa : Int), (sb : Int)) := by rw [List.getElem?_map, hget]; simp [Wir.e, hsa, hsb]
        have e0 : ixO (.obj wi) (.int (kw : Nat)) S9 = some (.tup [.str ws[kw].name, .int (sa : Nat), .int (sb : Nat), .int ws[kw].room], S9) := by
          rw [ix_obj M.w, List.getElem?_map, hget]; simp [Wir.d, hsa, hsb]
        have hl9 := M.hand.lt
        have hlen9 := M.ext.len
        refine wp_cut (fun e S10 => e = [some (.obj hd), some (.int 3), some (.int 2), some (.int m), some (.int (n : Nat)), some (.obj wi), some (.obj rr), some (.obj aa), some (.int (k : Nat)), some (.int (sa : Nat)), some (.int (sb : Nat)), x11, some (.obj hh), some (.int (kw : Nat)), x14, x15, x16, x17, x18] ∧ S10 = S9) ?_ ?_
        · simp_arith [e0]
          exact ⟨_, rfl, rfl⟩
        rintro e S10 ⟨rfl, rfl⟩
        refine wp_cut (fun e S11 => ∃ (a b : List Stm) (i j : Nat), e = [some (.obj hd), some (.int 3), some (.int 2), some (.int m), some (.int (n : Nat)), some (.obj wi), some (.obj rr), some (.obj aa), some (.int (k : Nat)), some (.int (sa : Nat)), some (.int (sb : Nat)), x11, some (.obj hh), some (.int (kw : Nat)), some (.obj i), some (.obj j), x16, x17, x18] ∧ S10.length ≤ i ∧ S10.length ≤ j ∧ (∀ hl, ∀ s ∈ a, SG m (ws.map Wir.e) sa hl 2 8 13 153 s) ∧ (∀ hl, ∀ s ∈ b, SG m (ws.map Wir.e) sb hl 2 8 13 153 s) ∧ a.length ≤ 2 ∧ b.length ≤ 2 ∧ S11[i]? = some (.lst (a.map Stm.d)) ∧ S11[j]? = some (.lst (b.map Stm.d)) ∧ MS S hd c n m wi rr aa hh ws as hs os (fun _ => 2 * k) S11) ?_ ?_
        · simp_arith []
          refine d_message (S := S10 ++ [Ob.lst (L3.map D.str), Ob.lst (L3.map D.str)]) (k := kw) hm hwe (by omega) (by simp; omega) (by simp) (by rw [List.getElem?_append_right (by simp)]; simp) M.hand.app fun a b i j S11 hi hj ha hb hal hbl hai hbj h11 hx11 => ?_
          have M := M.go hl (Ext.app.trans hx11) h11
          simp only [List.length_append, List.length_cons, List.length_nil] at hi hj
          try simp_arith []
          exact ⟨_, rfl, a, b, i, j, rfl, by omega, by omega, ha, hb, hal, hbl, hai, hbj, M⟩
        have M9 := M.rows
        rintro e S11 ⟨a, b, i, j, rfl, hi, hj, ha, hb, hal, hbl, hai, hbj, M⟩
        have hos : ∀ o ∈ os, o < S10.length := fun o ho => by
          obtain ⟨k, hk⟩ := List.mem_iff_getElem?.mp ho
          obtain ⟨b, hb, _⟩ := M9 k o hk
          exact get_lt hb
        refine wp_cut (fun e S12 => e = [some (.obj hd), some (.int 3), some (.int 2), some (.int m), some (.int (n : Nat)), some (.obj wi), some (.obj rr), some (.obj aa), some (.int (k : Nat)), some (.int (sa : Nat)), some (.int (sb : Nat)), x11, some (.obj hh), some (.int (kw : Nat)), some (.obj i), some (.obj j), x16, x17, x18] ∧ MS S hd c n m wi rr aa hh ws as hs os (fun j => if j = sa then 2 * k + 2 else 2 * k) S12 ∧ S12[j]? = some (.lst (b.map Stm.d))) ?_ ?_
        · refine wp_mono (ext_if (v := 9) (w := 14) (k := sa) (x := a) rfl rfl rfl rfl M hl hc hsn (fun _ => by omega) hai (by omega) ha hal fun S' M' hst' => ?_) (fun _ _ z => z) fun _ _ z => z.elim
          exact ⟨_, rfl, rfl, M', hst' j _ (fun z => by have := hos j z; omega) (by omega) hbj⟩
        · rintro e S12 ⟨rfl, M, hbj⟩
          refine wp_mono (ext_if (v := 10) (w := 15) (k := sb) (x := b) rfl rfl rfl rfl M hl hc htn (fun j => by split <;> omega) hbj (by omega) hb hbl fun S' M' _ => ?_) (fun _ _ z => z) fun _ _ z => z.elim
          refine ⟨_, _, _, _, _, _, _, _, _, _, rfl, by omega, M'.mono fun j => ?_⟩
          by_cases h1 : j = sb
          · rw [if_pos h1, if_neg (by omega)]; omega
          · rw [if_neg h1]; split <;> omega
      · rintro S8 ⟨_, M⟩
        simp_arith []
        refine draw (by omega) M.hand fun p S9 hp h9 hx9 => ?_
        have M := M.go hl hx9 h9
        have ho : os[p]? = some (os[p]'(by rw [M.ol]; omega)) := List.getElem?_eq_getElem _
        obtain ⟨b, hb, hb2, hb3⟩ := M.rows p _ ho
        have e0 : ixO (.obj rr) (.int (p : Nat)) S9 = some (.obj (os[p]'(by rw [M.ol]; omega)), S9) := by rw [ix_obj M.r, List.getElem?_map, ho]; rfl
        have hpl : p < hs.length := by rw [M.hl]; omega
        have hsg : hs[p]? = some hs[p] := List.getElem?_eq_getElem hpl
        have hsd : hs.getD p 0 = hs[p] := by rw [List.getD_eq_getElem?_getD, hsg]; rfl
        have e1 : ∀ T, ixO (.obj hh) (.int (p : Nat)) (S9 ++ T) = some (.int (hs[p] : Nat), S9 ++ T) := fun T => by
          rw [ix_obj (l := nats hs) (by rw [List.getElem?_append_left (get_lt M.h)]; exact M.h), nats, List.getElem?_map, hsg]; rfl
        have hl9 := M.hand.lt
        have hlen9 := M.ext.len
        simp_arith [e0, isLst_obj hb, e1]
        refine d_local2 (we := ws.map Wir.e) (at_ := p) (hl := hs[p]) (ns := L3) hm L3_sub (by simp) (by omega) (M.hf _ (List.getElem_mem _)) (by simp) M.hand.app fun s S10 hs10 h10 hx10 => ?_
        have hx910 : Ext (isH hd) S9 S10 := Ext.app.trans hx10
        have M := M.go hl hx910 h10
        have hb10 := hx910.get _ _ (by show ¬ _ = hd; have := (M.og _ (List.mem_of_getElem? ho)).1; omega) hb
        simp_arith [app_lst hb10 (show (b.map Stm.d).length < sizeLine by simp; omega)]
        refine ⟨_, _, _, _, _, _, _, _, _, _, rfl, by omega, ?_⟩
        have := M.add (x := [s]) (N' := fun _ => 2 * (k + 1)) hl hc ho hb10 hb3 (fun t ht => by simp at ht; subst ht; rw [hsd]; exact hs10) (fun _ => by omega) (by simp; omega)
        simpa using this
    · rintro env S7 ⟨x8, x9, x10, x11, x13, x14, x15, x16, x17, x18, rfl, hk9, M⟩
      exact ⟨rfl, _, rfl, _, _, _, _, _, _, _, _, _, _, rfl, M.mono fun _ => by rw [rng_len] at hk9 ⊢; omega⟩
  rintro e S6 ⟨x8, x9, x10, x11, x13, x14, x15, x16, x17, x18, rfl, M⟩
  refine wp_cut (fun e S7 => ∃ (x8 x9 x10 x11 x13 x14 x15 x16 x17 x18 : Option D) (os : List Nat), e = [some (.obj hd), some (.int 3), some (.int 2), some (.int m), some (.int (n : Nat)), some (.obj wi), some (.obj rr), some (.obj aa), x8, x9, x10, x11, some (.obj hh), x13, x14, x15, x16, x17, x18] ∧ MS S hd c n m wi rr aa hh ws as hs os (fun _ => 18) S7) ?_ ?_
  · simp_arith []
    refine draw (by omega) M.hand fun k7 S7 hk7 h7 hx7 => ?_
    have M := M.go hl hx7 h7
    try simp_arith []
    refine ch_i (fun hc1 => ?_) fun hc1 => ?_
    · try simp_arith []
      refine draw (by omega) M.hand fun p S8 hp h8 hx8 => ?_
      have M := M.go hl hx8 h8
      have ho : os[p]? = some (os[p]'(by rw [M.ol]; omega)) := List.getElem?_eq_getElem _
      obtain ⟨b, hb, hb2, hb3⟩ := M.rows p _ ho
      have hog := M.og _ (List.mem_of_getElem? ho)
      have e0 : ixO (.obj rr) (.int (p : Nat)) S8 = some (.obj (os[p]'(by rw [M.ol]; omega)), S8) := by rw [ix_obj M.r, List.getElem?_map, ho]; rfl
      have M8 := M.rows
      have g1 := get_lt M.w; have g2 := get_lt M.r; have g3 := get_lt M.a; have g4 := get_lt M.h; have g5 := M.ext.len
      simp_arith [e0]
      refine d_mixed hb (by omega) (by omega) M.hand fun j fs S9 hj hfj hfs hfl h9 hx9 => ?_
      have M := M.go hl hx9 h9
      have hlt : p < (os.map D.obj).length := by rw [List.length_map, M.ol]; omega
      simp_arith [st_nat M.r hlt]
      rw [← List.map_set]
      refine ⟨_, rfl, _, _, _, _, _, _, _, _, _, _, os.set p j, rfl, ?_⟩
      refine M.put hl hc ho (by omega) (fun z => ?_) (by omega) hfj (fun s hs => hb3 s (hfs s hs)) (by omega)
      obtain ⟨i, hi⟩ := List.mem_iff_getElem?.mp z
      obtain ⟨b', hb', _⟩ := M8 i _ hi
      have := get_lt hb'
      omega
    · exact ⟨_, rfl, _, _, _, _, _, _, _, _, _, _, os, rfl, M⟩
  rintro e S7 ⟨x8, x9, x10, x11, x13, x14, x15, x16, x17, x18, os, rfl, M⟩
  refine wp_cut (fun e S8 => ∃ (x8 x9 x10 x11 x13 x14 x15 x17 x18 : Option D) (pp : Nat), e = [some (.obj hd), some (.int 3), some (.int 2), some (.int m), some (.int (n : Nat)), some (.obj wi), some (.obj rr), some (.obj aa), x8, x9, x10, x11, some (.obj hh), x13, x14, x15, some (.obj pp), x17, x18] ∧ S7.length ≤ pp ∧ S8[pp]? = some (.lst []) ∧ MS S hd c n m wi rr aa hh ws as hs os (fun _ => 18) S8) ?_ ?_
  · simp_arith []
    have := M.go hl (Ext.app (T := [Ob.lst []])) M.hand.app
    exact ⟨_, rfl, _, _, _, _, _, _, _, _, _, S7.length, rfl, Nat.le_refl _, by simp, this⟩
  have hdis : ∀ o, (o = wi ∨ o = rr ∨ o = aa ∨ o = hh ∨ o ∈ os) → o < S7.length := fun o ho => by
    rcases ho with rfl | rfl | rfl | rfl | ho
    · exact get_lt M.w
    · exact get_lt M.r
    · exact get_lt M.a
    · exact get_lt M.h
    · obtain ⟨i, hi⟩ := List.mem_iff_getElem?.mp ho
      obtain ⟨b', hb', _⟩ := M.rows i _ hi
      exact get_lt hb'
  have hS7 := M.ext.len
  rintro e S8 ⟨x8, x9, x10, x11, x13, x14, x15, x17, x18, pp, rfl, hpp, hpl, M⟩
  refine wp_cut (fun e S9 => ∃ (x8 x9 x10 x11 x13 x14 x15 x17 x18 : Option D) (ps : List Per), e = [some (.obj hd), some (.int 3), some (.int 2), some (.int m), some (.int (n : Nat)), some (.obj wi), some (.obj rr), some (.obj aa), x8, x9, x10, x11, some (.obj hh), x13, x14, x15, some (.obj pp), x17, x18] ∧ S9[pp]? = some (.lst (ps.map Per.d)) ∧ ps.length = n ∧ (∀ (k : Nat) p, ps[k]? = some p → PG m (ws.map Wir.e) k p ∧ p.body.length ≤ 18) ∧ MS S hd c n m wi rr aa hh ws as hs os (fun _ => 18) S9) ?_ ?_
  · simp_arith [rng1_nat (show n < 1000000 by omega)]
    refine wp_for (fun k env S9 => ∃ (x8 x9 x10 x11 x13 x14 x15 x17 x18 : Option D) (ps : List Per), env = [some (.obj hd), some (.int 3), some (.int 2), some (.int m), some (.int (n : Nat)), some (.obj wi), some (.obj rr), some (.obj aa), x8, x9, x10, x11, some (.obj hh), x13, x14, x15, some (.obj pp), x17, x18] ∧ S9[pp]? = some (.lst (ps.map Per.d)) ∧ ps.length = k ∧ (∀ (k : Nat) p, ps[k]? = some p → PG m (ws.map Wir.e) k p ∧ p.body.length ≤ 18) ∧ MS S hd c n m wi rr aa hh ws as hs os (fun _ => 18) S9) ⟨_, _, _, _, _, _, _, _, _, [], rfl, hpl, rfl, (fun k p hk => by simp at hk), M⟩ ?_ ?_
    · rintro k d env S9 hk ⟨x8, x9, x10, x11, x13, x14, x15, x17, x18, ps, rfl, hps, hpk, hpg, M⟩
      obtain ⟨hkk, rfl⟩ := rngL_get hk
      refine ⟨rfl, ?_⟩
      have hsg : hs[k]? = some (hs[k]'(by rw [M.hl]; exact hkk)) := List.getElem?_eq_getElem _
      have hsl := M.hf _ (List.mem_of_getElem? hsg)
      have hsd : hs.getD k 0 = hs[k]'(by rw [M.hl]; exact hkk) := by rw [List.getD_eq_getElem?_getD, hsg]; rfl
      have asg : as[k]? = some (as[k]'(by rw [M.al]; exact hkk)) := List.getElem?_eq_getElem _
      have asl := M.af _ (List.mem_of_getElem? asg)
      have ho : os[k]? = some (os[k]'(by rw [M.ol]; exact hkk)) := List.getElem?_eq_getElem _
      obtain ⟨b, hb, hb2, hb3⟩ := M.rows k _ ho
      have e1 : ixO (.obj hh) (.int (k : Nat)) S9 = some (.int ((hs[k]'(by rw [M.hl]; exact hkk) : Nat) : Int), S9) := by
        rw [ix_obj M.h, nats, List.getElem?_map, hsg]; rfl
      generalize hs[k]'(by rw [M.hl]; exact hkk) = hv at *
      simp_arith [e1, rng1_nat (show hv < 1000000 by omega)]
      have hl9 := M.hand.lt
      refine collectU (n := hv) (X := Stm × Stm) (φ := fun z => .tup [.str "hx", .tup [z.1.d, z.2.d]]) (P := fun _ z => SG m (ws.map Wir.e) k 0 1 2 4 9 z.1 ∧ SG m (ws.map Wir.e) k 0 1 2 4 9 z.2) (by omega) M.hand (fun i S10 hi h10 hx10 hlt10 => ?_) fun zs S10 hzl hP h10 hx10 hj10 => ?_
      · obtain rfl : i = 0 := by omega
        obtain ⟨z, hz1, hz2⟩ := hn_get
        simp_arith [hz1, hz2]
        refine d_local1 (we := ws.map Wir.e) (at_ := k) (ns := ["a", "b"]) hm (by decide +kernel) (by simp) (by have := h10.lt; omega) (by simp) h10.app fun s1 S11 hs1 h11 hx11 => ?_
        try simp_arith []
        refine d_local1 (we := ws.map Wir.e) (at_ := k) (ns := ["a", "b"]) hm (by decide +kernel) (by simp) (by have := h11.lt; omega) (by simp) h11.app fun s2 S12 hs2 h12 hx12 => ?_
        try simp_arith []
        exact ⟨⟨(s1, s2), rfl, hs1, hs2⟩, h12, (Ext.app.trans hx11).trans (Ext.app.trans hx12)⟩
      have M := M.go hl hx10 h10
      have hne : ¬ pp = hd := by omega
      have hps := hx10.get _ _ hne hps
      have hb := hx10.get _ _ (by show ¬ _ = hd; have := (M.og _ (List.mem_of_getElem? ho)).1; omega) hb
      obtain ⟨zn, hz1, hz2⟩ := pn_get (show k < 3 by omega)
      obtain ⟨za, ha1, ha2⟩ := ab_cut (S := S10) asl
      have e2 : ixO (.obj aa) (.int (k : Nat)) S10 = some (.int ((as[k]'(by rw [M.al]; exact hkk) : Nat) : Int), S10) := by
        rw [ix_obj M.a, nats, List.getElem?_map, asg]; rfl
      have e3 : ixO (.obj rr) (.int (k : Nat)) S10 = some (.obj (os[k]'(by rw [M.ol]; exact hkk)), S10) := by rw [ix_obj M.r, List.getElem?_map, ho]; rfl
      simp_arith [tup_obj hj10, isLst_obj hps, hz1, hz2, e2, ha1, ha2, e3, tup_obj hb, app_lst hps (show (ps.map Per.d).length < sizeLine by simp; omega)]
      have hhelp : ∃ hp : List (Str × List Stm), hp.map helpD = zs.map (fun z => .tup [.str "hx", .tup [z.1.d, z.2.d]]) ∧ hp.length = hv ∧ (hp = [] ∨ ∃ s1 s2, hp = [(("hx" : Str), [s1, s2])] ∧ SG m (ws.map Wir.e) k 0 1 2 4 9 s1 ∧ SG m (ws.map Wir.e) k 0 1 2 4 9 s2) := by
        match zs, hzl, hP with
        | [], hzl, _ => exact ⟨[], rfl, hzl, .inl rfl⟩
        | [z], hzl, hP => exact ⟨[("hx", [z.1, z.2])], rfl, hzl, .inr ⟨z.1, z.2, rfl, hP 0 z rfl⟩⟩
        | _ :: _ :: _, hzl, _ => simp at hzl; omega
      obtain ⟨hp, hp1, hp2, hp3⟩ := hhelp
      refine ⟨_, _, _, _, _, _, _, _, _, ps ++ [⟨pnm k, L4.take (as[k]'(by rw [M.al]; exact hkk)), hp, b⟩], rfl, ?_, by simp [hpk], ?_, ?_⟩
      · rw [get_set hps, ← hp1]; simp [Per.d, bD]
      · intro i p hip
        by_cases hi : i < ps.length
        · rw [List.getElem?_append_left hi] at hip; exact hpg i p hip
        · rw [List.getElem?_append_right (by omega)] at hip
          have hlt := (List.getElem?_eq_some_iff.mp hip).1
          simp at hlt
          obtain rfl : i = k := by omega
          rw [show i - ps.length = 0 by omega] at hip
          simp at hip
          subst hip
          refine ⟨⟨rfl, ⟨_, asl, rfl⟩, hp3, fun s hs => ?_⟩, hb2⟩
          have := hb3 s hs
          rw [hsd] at this
          rw [hp2]; exact this
      · have gw := hdis wi (.inl rfl); have gr := hdis rr (.inr (.inl rfl)); have ga := hdis aa (.inr (.inr (.inl rfl))); have gh := hdis hh (.inr (.inr (.inr (.inl rfl))))
        exact { M with
          ext := M.ext.setT (.inr (by omega))
          hand := M.hand.set (by omega) (by omega)
          w := by rw [get_setne (by omega)]; exact M.w
          r := by rw [get_setne (by omega)]; exact M.r
          a := by rw [get_setne (by omega)]; exact M.a
          h := by rw [get_setne (by omega)]; exact M.h
          rows := fun i o hio => by
            obtain ⟨b', h1, h2⟩ := M.rows i o hio
            have := hdis o (.inr (.inr (.inr (.inr (List.mem_of_getElem? hio)))))
            exact ⟨b', by rw [get_setne (by omega)]; exact h1, h2⟩ }
    · rintro env S9 ⟨x8, x9, x10, x11, x13, x14, x15, x17, x18, ps, rfl, hps, hpk, hpg, M⟩
      rw [rng_len] at hpk
      exact ⟨rfl, _, rfl, _, _, _, _, _, _, _, _, _, ps, rfl, hps, hpk, hpg, M⟩
  rintro e S9 ⟨x8, x9, x10, x11, x13, x14, x15, x17, x18, ps, rfl, hps, hpk, hpg, M⟩
  simp_arith [tup_obj M.w, tup_obj hps]
  refine q ⟨m, ws, ps⟩ S9 ⟨hm, by rw [hpk]; exact hn, M.wl, fun k w hw => ?_, hpg⟩ M.hand M.ext
  obtain ⟨h1, ⟨a, b, h2, h3, h4, h5, h6⟩, h7⟩ := M.wf k w hw
  simp only [hpk]
  exact ⟨h1, by omega, by omega, by omega, h7⟩
end

set_option Elab.async false
set_option linter.all false
set_option maxRecDepth 100000
open PySem PySem.Spec PyProof.Rows L2 Y Z
/-- the def answers b, whatever stands, and changes nothing -/
def Res (F : Fd) (args : List D) (b : Bool) : Prop := ∀ (S : AH) (Q : D → AH → Prop) (E : Xn → AH → Prop), (∀ S', Ext E0 S S' → Q (.bl b) S') → wp (F args S) Q E
section
variable {S : AH} {Q : D → AH → Prop} {E : Xn → AH → Prop} {m w hp n : Int}
/-! ### statements that are none -/
theorem st_non : Res F_is_statement [.non, .int m, .int w, .int hp] false := fun S Q E h => by
  unfold F_is_statement b_is_statement
  simp_arith []
  exact h S .refl
theorem st_say1 : Res F_is_statement [.tup [.str "say"], .int m, .int w, .int hp] false := fun S Q E h => by
  unfold F_is_statement b_is_statement
  simp_arith [kninO, kgetO, lk_say, Option.isSome_some]
  exact h S .refl
theorem st_send : Res F_is_statement [.tup [.str "send", .int w, .tup [.str "number", .int 0]], .int m, .int w, .int hp] false := fun S Q E h => by
  unfold F_is_statement b_is_statement
  simp_arith [kninO, kgetO, lk_send, Option.isSome_some]
  rw [decide_eq_false (show ¬ (0 ≤ w ∧ w ≤ w - 1) by omega)]
  simp_arith []
  exact h S .refl
theorem ex_num : Res F_is_expression_of [.int m, .tup [.str "number", .int m]] false := fun S Q E h => by
  unfold F_is_expression_of b_is_expression_of
  simp_arith [rng8]
  refine wp_for (fun k env S' => k = 0 ∧ ∃ (a b c d : Option D), env = [some (.int m), some (Ex.num m).d, some (.obj S.length), a, b, c, d] ∧ Ext E0 S S' ∧ S'[S.length]? = some (.lst [(Ex.num m).d])) ⟨rfl, _, _, _, _, rfl, .app, by simp [Ex.d]⟩ ?_ ?_
  · rintro k dk env S1 hk ⟨rfl, a, b, c, d, rfl, hx, hl⟩
    refine ⟨rfl, ?_⟩
    simp_arith []
    have hl1 : (S1 ++ [Ob.lst []])[S.length]? = some (.lst [(Ex.num m).d]) := by rw [List.getElem?_append_left (get_lt hl)]; exact hl
    rw [seqIt_obj hl1]
    simp_arith []
    refine wp_for (fun j env S2 => j = 0 ∧ ∃ (c d : Option D), env = [some (.int m), some (Ex.num m).d, some (.obj S.length), some dk, some (.obj S1.length), c, d] ∧ Ext E0 S S2 ∧ S2[S.length]? = some (.lst [(Ex.num m).d])) ⟨rfl, _, _, rfl, hx.appT, hl1⟩ ?_ ?_
    · rintro j dj env S2 hj ⟨rfl, c, d, rfl, hx2, hr2⟩
      refine ⟨lstG_ok hr2, ?_⟩
      simp only [List.getElem?_cons_zero, Option.some.injEq] at hj
      subst hj
      simp_arith []
      refine inner_of_ex (e := .num m) trivial fun i S3 hx3 hi3 hl3 => ?_
      simp_arith [true_and]
      refine leaf_right (e := .num m) trivial (fun z hz => by cases hz) fun S4 hx4 => ?_
      rw [show leafB m (.num m) = false from decide_eq_false (by omega)]
      simp_arith []
      exact h S4 (hx2.trans (hx3.trans hx4))
    · rintro env S2 ⟨hlen, _⟩
      simp at hlen
  · rintro env S1 ⟨hlen, _⟩
    rw [rng_len] at hlen
    cases hlen
theorem st_num : Res F_is_statement [.tup [.str "say", .tup [.str "number", .int m]], .int m, .int w, .int hp] false := fun S Q E h => by
  unfold F_is_statement b_is_statement
  simp_arith [kninO, kgetO, lk_say, Option.isSome_some]
  exact ex_num S _ _ h
/-- a block with a statement that is none -/
theorem block_no {xs : List (D × Bool)} (hx : ∀ x ∈ xs, Res F_is_statement [x.1, .int m, .int w, .int hp] x.2) (hz : xs.length ≤ 1000) (hno : xs.all (·.2) = false) : Res F_is_block [.tup (xs.map (·.1)), .int m, .int w, .int hp] false := fun S Q E h => by
  have hbig := sizeLine_big
  unfold F_is_block b_is_block
  simp_arith [rng6]
  refine wp_for (fun k env S' => k = 0 ∧ ∃ (a b c d e : Option D), env = [some (.tup (xs.map (·.1))), some (.int m), some (.int w), some (.int hp), some (.obj S.length), a, b, c, d, e] ∧ Ext E0 S S' ∧ S'[S.length]? = some (.lst [.tup (xs.map (·.1))])) ⟨rfl, _, _, _, _, _, rfl, .app, by simp⟩ ?_ ?_
  · rintro k dk env S1 hk ⟨rfl, a, b, c, d, e, rfl, hx1, hl⟩
    refine ⟨rfl, ?_⟩
    simp_arith []
    have hl1 : (S1 ++ [Ob.lst []])[S.length]? = some (.lst [.tup (xs.map (·.1))]) := by rw [List.getElem?_append_left (get_lt hl)]; exact hl
    rw [seqIt_obj hl1]
    simp_arith []
    refine wp_for (fun j env S2 => j = 0 ∧ ∃ (c d e : Option D), env = [some (.tup (xs.map (·.1))), some (.int m), some (.int w), some (.int hp), some (.obj S.length), some dk, some (.obj S1.length), c, d, e] ∧ Ext E0 S S2 ∧ S2[S.length]? = some (.lst [.tup (xs.map (·.1))])) ⟨rfl, _, _, _, rfl, hx1.appT, hl1⟩ ?_ ?_
    · rintro j dj env S2 hj ⟨rfl, c, d, e, rfl, hx2, hr2⟩
      refine ⟨lstG_ok hr2, ?_⟩
      simp only [List.getElem?_cons_zero, Option.some.injEq] at hj
      subst hj
      simp_arith [len_tup, seqIt_tup]
      refine ch_i (fun hc => ?_) fun hc => ?_
      · try simp_arith []
        exact h S2 hx2
      refine lcX (A := E0) (QD := fun d S2 => optP (allO [d] S2) _) (fun x => .bl x.2) (by omega) (fun z => z) (fun _ _ => rfl) (fun x S3 hs hx3 _ => ?_) fun S3 hx3 hj3 => ?_
      · simp_arith []
        exact hx x hs S3 _ _ fun S4 hx4 => ⟨rfl, hx4⟩
      · rw [all_bls (bs := xs.map (·.2)) (by rw [hj3, List.map_map]; rfl), optP_some, show (xs.map (·.2)).all id = false by rw [List.all_map]; exact hno]
        simp_arith []
        exact h S3 (hx2.trans hx3)
    · rintro env S2 ⟨hlen, _⟩
      simp at hlen
  · rintro env S1 ⟨hlen, _⟩
    rw [rng_len] at hlen
    cases hlen
theorem help_res {z : Str} {B : D} {b : Bool} (hz : nameOk z) (hb : Res F_is_block [B, .int m, .int w, .int hp] b) : Res F_is_help [.tup [.str z, B], .int m, .int w, .int hp] b := fun S Q E h => by
  unfold F_is_help b_is_help
  simp_arith []
  refine is_name_str hz.2 fun S1 hx => ?_
  rw [hz.1]
  simp_arith []
  exact hb S1 _ _ fun S2 hx2 => h S2 (hx.trans hx2)
theorem all_pairs {xs : List (D × Bool)} {i : Nat} (h : S[i]? = some (.lst (xs.map fun x => D.bl x.2))) : allO [.obj i] S = some (.bl (xs.all (·.2)), S) := by
  rw [all_bls (bs := xs.map (·.2)) (by rw [h, List.map_map]; rfl), List.all_map]
  rfl
theorem person_res {z : Str} {ins : List Str} {hs : List (D × Bool)} {B : D} {b : Bool} (hz : nameOk z) (hil : ins.length ≤ 4) (hi : ∀ x ∈ ins, nameOk x) (hl : hs.length ≤ 6) (hh : ∀ x ∈ hs, Res F_is_help [x.1, .int m, .int w, .int hs.length] x.2) (hb : Res F_is_block [B, .int m, .int w, .int hs.length] b) :
    Res F_is_person [.tup [.str z, .tup (ins.map D.str), .tup (hs.map (·.1)), B], .int m, .int w] (hs.all (·.2) && b) := fun S Q E h => by
  have hbig := sizeLine_big
  unfold F_is_person b_is_person
  simp_arith []
  refine is_name_str hz.2 fun S1 hx => ?_
  rw [hz.1]
  simp_arith [len_tup, seqIt_tup]
  refine ch_i (fun hc => absurd (of_decide_eq_true hc) (by simp; omega)) fun _ => ?_
  refine lcX (A := E0) (QD := fun d S2 => optP (allO [d] S2) _) (fun _ => .bl true) (by omega) (fun z => z) (fun _ _ => rfl) (fun x S2 hs hx2 _ => ?_) fun S2 hx2 hj2 => ?_
  · simp_arith []
    exact is_name_str (hi x hs).2 fun S3 hx3 => ⟨by rw [(hi x hs).1], hx3⟩
  · rw [all_true hj2]
    simp_arith [len_tup, seqIt_tup]
    refine ch_i (fun hc => absurd (of_decide_eq_true hc) (by simp; omega)) fun _ => ?_
    refine lcX (A := E0) (QD := fun d S2 => optP (allO [d] S2) _) (fun x => .bl x.2) (by omega) (fun z => z) (fun _ _ => rfl) (fun x S3 hs hx3 _ => ?_) fun S3 hx3 hj3 => ?_
    · simp_arith [len_tup]
      rw [List.length_map]
      exact hh x hs S3 _ _ fun S4 hx4 => ⟨rfl, hx4⟩
    · rw [all_pairs hj3]
      have hx03 := (hx.trans hx2).trans hx3
      cases hb' : hs.all (·.2) with
      | false =>
        rw [hb', Bool.false_and] at h
        simp_arith []
        exact h S3 hx03
      | true =>
        rw [hb', Bool.true_and] at h
        simp_arith [len_tup]
        rw [List.length_map]
        exact hb S3 _ _ fun S4 hx4 => h S4 (hx03.trans hx4)
theorem form_res {wl pl : List (D × Bool)} (hm : 2 ≤ m ∧ m ≤ 16) (hpl : 1 ≤ pl.length ∧ pl.length ≤ 6) (hwl : wl.length ≤ 12) (hw : ∀ x ∈ wl, Res F_is_wire [x.1, .int pl.length] x.2) (hp : ∀ x ∈ pl, Res F_is_person [x.1, .int m, .int wl.length] x.2) :
    Res F_has_form [.tup [.int m, .tup (wl.map (·.1)), .tup (pl.map (·.1))]] (wl.all (·.2) && pl.all (·.2)) := fun S Q E k => by
  have hbig := sizeLine_big
  unfold F_has_form b_has_form
  simp_arith [hm.1, hm.2, len_tup, seqIt_tup]
  refine ch_i (fun hc1 => ?_) fun hc => absurd (of_decide_eq_false hc) (by simp; omega)
  refine ch_i (fun hc => absurd hc (by simp; omega)) fun _ => ?_
  refine ch_i (fun hc => absurd (of_decide_eq_true hc) (by simp; omega)) fun _ => ?_
  refine lcX (A := E0) (QD := fun d S2 => optP (allO [d] S2) _) (fun x => .bl x.2) (by omega) (fun z => z) (fun _ _ => rfl) (fun x S2 hs hx2 _ => ?_) fun S2 hx2 hj2 => ?_
  · simp_arith [len_tup]
    rw [List.length_map]
    exact hw x hs S2 _ _ fun S3 hx3 => ⟨rfl, hx3⟩
  · rw [all_pairs hj2]
    cases hb' : wl.all (·.2) with
    | false =>
      rw [hb', Bool.false_and] at k
      simp_arith []
      exact k S2 hx2
    | true =>
      rw [hb', Bool.true_and] at k
      simp_arith [len_tup, seqIt_tup]
      refine lcX (A := E0) (QD := fun d S2 => optP (allO [d] S2) _) (fun x => .bl x.2) (by omega) (fun z => z) (fun _ _ => rfl) (fun x S3 hs hx3 _ => ?_) fun S3 hx3 hj3 => ?_
      · simp_arith [len_tup]
        rw [List.length_map]
        exact hp x hs S3 _ _ fun S4 hx4 => ⟨rfl, hx4⟩
      · rw [all_pairs hj3]
        exact k S3 (hx2.trans hx3)
/-! ### is_house -/
theorem house_no {d : D} (h : Res F_has_form [d] false) : Res F_is_house [d] false := fun S Q E k => by
  unfold F_is_house b_is_house
  simp_arith []
  refine h S _ _ fun S1 hx => ?_
  simp_arith []
  exact k S1 hx
theorem need_yes {h : Hou} (g : h.good) (q : ∀ S', Ext E0 S S' → Q .non S') : wp (F_need_house [h.d] S) Q E := by
  unfold F_need_house b_need_house
  simp_arith []
  refine is_house g fun S1 hx => ?_
  simp_arith []
  exact q S1 hx
theorem need_no {d : D} (h : Res F_is_house [d] false) (q : ∀ S', Ext E0 S S' → E ⟨"NoHouse", none⟩ S') : wp (F_need_house [d] S) Q E := by
  unfold F_need_house b_need_house
  simp_arith []
  refine h S _ _ fun S1 hx => ?_
  simp_arith []
  exact q S1 hx
end

set_option Elab.async false
set_option linter.all false
set_option maxRecDepth 100000
open PySem PySem.Spec PyProof.Rows L2 Y Z
/-! ### edits -/
def edS (b : Bool) : Str := if b then "put" else "change"
def edOb (at_ : Nat) (b : Bool) (st : D) (met : Nat) : Ob := .ins "Edit" [("at", .int (at_ : Nat)), ("deed", .str (edS b)), ("statement", st), ("met", .int (met : Nat))]
def hit (b : Bool) (st : D) (s : Stm) : List D := if b then [st, s.d] else [st]
def outL (at_ : Nat) (b : Bool) (st : D) : Nat → List Stm → List D
  | _, [] => []
  | p, s :: r => (if p = at_ then hit b st s else [s.d]) ++ outL at_ b st (p + s.all.length) r
section
variable {at_ : Nat} {b : Bool} {st : D}
theorem outL_app : ∀ (a r : List Stm) (p : Nat), outL at_ b st p (a ++ r) = outL at_ b st p a ++ outL at_ b st (p + (alls a).length) r
  | [], r, p => by simp [outL, alls]
  | s :: a, r, p => by
    simp only [List.cons_append, outL, outL_app a r, alls, List.length_append, List.append_assoc, Nat.add_assoc]
theorem outL_no : ∀ (l : List Stm) (p : Nat), at_ < p ∨ p + (alls l).length ≤ at_ → outL at_ b st p l = l.map Stm.d
  | [], _, _ => rfl
  | s :: r, p, h => by
    have h1 := all_len s
    simp only [alls, List.length_append] at h
    simp only [outL]
    rw [if_neg (by omega), outL_no r _ (by omega)]
    rfl
theorem outL_hit (s : Stm) (r : List Stm) : outL at_ b st at_ (s :: r) = hit b st s ++ r.map Stm.d := by
  have h1 := all_len s
  simp only [outL]
  rw [if_pos trivial, outL_no r _ (by omega)]
theorem outL_len : ∀ (l : List Stm) (p : Nat), (outL at_ b st p l).length ≤ 2 * l.length
  | [], _ => by simp [outL]
  | s :: r, p => by
    have := outL_len r (p + s.all.length)
    simp only [outL, List.length_append, List.length_cons]
    split <;> (try cases b) <;> simp [hit] <;> omega
def flatS : Stm → Bool
  | .ite .. => false | .rnd .. => false | _ => true
theorem flat_all {s : Stm} (h : flatS s = true) : s.all = [s] := by cases s <;> simp [flatS] at h <;> rfl
theorem flat_alls : ∀ {l : List Stm}, l.all flatS = true → alls l = l
  | [], _ => rfl
  | s :: r, h => by
    simp only [List.all_cons, Bool.and_eq_true] at h
    simp only [alls, flat_all h.1, flat_alls h.2]; rfl
theorem outL_flat : ∀ (l : List Stm) (p k : Nat), l.all flatS = true → at_ = p + k → outL at_ true st p l = (l.take k).map Stm.d ++ (if k < l.length then [st] else []) ++ (l.drop k).map Stm.d
  | [], p, k, _, _ => by simp [outL]
  | s :: r, p, 0, h, e => by
    obtain rfl : p = at_ := e.symm
    have h1 := outL_hit (at_ := p) (b := true) (st := st) s r
    simpa [hit] using h1
  | s :: r, p, k + 1, h, e => by
    simp only [List.all_cons, Bool.and_eq_true] at h
    simp only [outL, flat_all h.1, List.length_cons, List.length_nil]
    rw [if_neg (by omega), outL_flat r (p + (0 + 1)) k h.2 (by omega)]
    simp
end
section
variable {S : AH} {Q : D → AH → Prop} {E : Xn → AH → Prop} {o at_ met : Nat} {b : Bool} {st : D}
theorem ed_at (h : S[o]? = some (edOb at_ b st met)) : fldO "Edit" "at" (.obj o) S = some (.int (at_ : Nat), S) := by
  unfold fldO; simp only [h, edOb]; rfl
theorem ed_deed (h : S[o]? = some (edOb at_ b st met)) : fldO "Edit" "deed" (.obj o) S = some (.str (edS b), S) := by
  unfold fldO; simp only [h, edOb]; rfl
theorem ed_st (h : S[o]? = some (edOb at_ b st met)) : fldO "Edit" "statement" (.obj o) S = some (st, S) := by
  unfold fldO; simp only [h, edOb]; rfl
theorem ed_met (h : S[o]? = some (edOb at_ b st met)) : fldO "Edit" "met" (.obj o) S = some (.int (met : Nat), S) := by
  unfold fldO; simp only [h, edOb]; rfl
theorem ed_put (h : S[o]? = some (edOb at_ b st met)) : fstO "Edit" "met" (.obj o) (.int ((met : Int) + 1)) S = some (S.set o (edOb at_ b st (met + 1))) := by
  unfold fstO; simp only [h, edOb]; rfl
theorem ed_has (h : S[o]? = some (edOb at_ b st met)) : hasM "Edit" "block" (.obj o) S = true := by
  unfold hasM; simp only [h, edOb]; rfl
theorem whole_s (s : Stm) : ∃ pre : List D, ∃ k : Int, (∀ S, lenO [s.d] S = some (.int k, S)) ∧ (∀ S, slO s.d none (some (k - (s.subs.length : Nat))) S = some (.tup pre, S)) ∧ ∀ S, addO (.tup pre) (.tup (s.subs.map bD)) S = some (s.d, S) := by
  have hbig := sizeLine_big
  have ad : ∀ (a r : List D) S, a.length + r.length ≤ 1000 → addO (.tup a) (.tup r) S = some (.tup (a ++ r), S) := fun a r S h => by
    unfold addO; simp only []; rw [if_pos (by omega)]
  cases s with
  | ite e a b => exact ⟨[.str "if", e.d], 4, fun _ => rfl, fun _ => rfl, fun S => by rw [ad _ _ _ (by simp [Stm.subs])]; simp [Stm.subs, Stm.d, bD, blkD_map]⟩
  | rnd e a => exact ⟨[.str "rounds", e.d], 3, fun _ => rfl, fun _ => rfl, fun S => by rw [ad _ _ _ (by simp [Stm.subs])]; simp [Stm.subs, Stm.d, bD, blkD_map]⟩
  | say e => exact ⟨[.str "say", e.d], 2, fun _ => rfl, fun _ => rfl, fun S => by rw [ad _ _ _ (by simp [Stm.subs])]; simp [Stm.subs, Stm.d]⟩
  | set x e => exact ⟨[.str "set", .str x, e.d], 3, fun _ => rfl, fun _ => rfl, fun S => by rw [ad _ _ _ (by simp [Stm.subs])]; simp [Stm.subs, Stm.d]⟩
  | do_ i => exact ⟨[.str "do", .int i], 2, fun _ => rfl, fun _ => rfl, fun S => by rw [ad _ _ _ (by simp [Stm.subs])]; simp [Stm.subs, Stm.d]⟩
  | send w e => exact ⟨[.str "send", .int w, e.d], 3, fun _ => rfl, fun _ => rfl, fun S => by rw [ad _ _ _ (by simp [Stm.subs])]; simp [Stm.subs, Stm.d]⟩
  | take w x => exact ⟨[.str "take", .int w, .str x], 3, fun _ => rfl, fun _ => rfl, fun S => by rw [ad _ _ _ (by simp [Stm.subs])]; simp [Stm.subs, Stm.d]⟩
theorem alls_take_le : ∀ (l : List Stm) (k : Nat), (alls (l.take k)).length ≤ (alls l).length := fun l k => by
  have := congrArg (fun x => (alls x).length) (List.take_append_drop k l)
  simp only [alls_app, List.length_append] at this
  omega
theorem edit_block : ∀ (n : Nat) (l : List Stm) (met : Nat) (S : AH) (Q : D → AH → Prop) (E : Xn → AH → Prop), bhs l ≤ n → l.length ≤ 1000 → S[o]? = some (edOb at_ b st met) →
    (∀ i s, l[i]? = some s → at_ ≤ met + (alls (l.take i)).length ∨ met + (alls (l.take i)).length + s.all.length ≤ at_) → (∀ s ∈ alls l, ∀ b ∈ s.subs, b.length ≤ 1000) →
    (∀ S', S'[o]? = some (edOb at_ b st (met + (alls l).length)) → Ext (isH o) S S' → Q (.tup (outL at_ b st met l)) S') → wp (F_Edit_block n [.obj o, bD l] S) Q E
  | 0, l, met, S, Q, E, hn, _, _, _, _, _ => by have := bhs1 l; omega
  | n + 1, l, met, S, Q, E, hn, hz, ho, hnh, hsub, h => by
    have hbig := sizeLine_big
    have hol := get_lt ho
    rw [F_Edit_block]
    unfold b_Edit_block bD
    simp_arith [seqIt_tup]
    refine wp_for (fun k env S2 => ∃ x3 x4 x5 x6 x7 : Option D, env = [some (.obj o), some (.tup (l.map Stm.d)), some (.obj S.length), x3, x4, x5, x6, x7] ∧ Ext (isH o) S S2 ∧ S2[S.length]? = some (.lst (outL at_ b st met (l.take k))) ∧ S2[o]? = some (edOb at_ b st (met + (alls (l.take k)).length)) ∧ k ≤ l.length)
      ⟨_, _, _, _, _, rfl, .app, by simp [outL], by rw [List.getElem?_append_left hol]; simpa [alls] using ho, Nat.zero_le _⟩ ?_ ?_
    · rintro k d env S2 hk ⟨x3, x4, x5, x6, x7, rfl, hx2, hf2, ho2, hkl⟩
      refine ⟨rfl, ?_⟩
      simp only [List.getElem?_map, Option.map_eq_some_iff] at hk
      obtain ⟨s, hk, rfl⟩ := hk
      have hsm := List.mem_of_getElem? hk
      have hklt := (List.getElem?_eq_some_iff.mp hk).1
      have hnhs := hnh k s hk
      have ht : l.take (k + 1) = l.take k ++ [s] := by rw [List.take_add_one, hk]; rfl
      have hal : alls [s] = s.all := by simp [alls]
      have hs1 : s.all = s :: alls s.subs.flatten := all_subs s
      have hout : outL at_ b st met (l.take (k + 1)) = outL at_ b st met (l.take k) ++ (if met + (alls (l.take k)).length = at_ then hit b st s else [s.d]) := by
        rw [ht, outL_app]; simp [outL]
      have hlen : met + (alls (l.take (k + 1))).length = met + (alls (l.take k)).length + s.all.length := by rw [ht, alls_app, hal, List.length_append]; omega
      generalize hp : met + (alls (l.take k)).length = p at *
      have ho3 : (S2.set o (edOb at_ b st (p + 1)))[o]? = some (edOb at_ b st (p + 1)) := get_set ho2
      have hSo : S.length ≠ o := by omega
      have hf3 : (S2.set o (edOb at_ b st (p + 1)))[S.length]? = some (.lst (outL at_ b st met (l.take k))) := by rw [get_setne (by omega)]; exact hf2
      have hx3 : Ext (isH o) S (S2.set o (edOb at_ b st (p + 1))) := hx2.setT (.inl rfl)
      simp_arith [ed_met ho2, ed_at ho2, add_i, ed_put ho2]
      refine blocks_in_stm fun i S3 hx4 hi hl3 => ?_
      have hx03 := hx3.trans hx4.e0
      have hlt2 := get_lt hf3
      have hne : i ≠ o := by have := get_lt ho3; omega
      have hoS3 := hx4.get _ _ (fun z => z) ho3
      have hfS3 := hx4.get _ _ (fun z => z) hf3
      have hlo := get_lt hoS3
      have hlf := get_lt hfS3
      simp_arith [seqIt_obj hl3]
      refine wp_lc (fun j acc S4 => acc = (s.subs.take j).map bD ∧ Ext (isH o) S3 S4 ∧ S4[o]? = some (edOb at_ b st (p + 1 + (alls (s.subs.take j).flatten).length))) (acc := []) (by simp) ⟨by simp, .app, by rw [List.getElem?_append_left hlo]; simpa [alls] using hoS3⟩ (fun j d acc S4 hd hj ⟨hf, hx5, ho4⟩ => ⟨lstG_ok (hx5.get _ _ hne hl3), ?_⟩) (fun acc S4 hj ⟨hf, hx5, ho4⟩ => ⟨lstG_ok (hx5.get _ _ hne hl3), ?_⟩)
      · simp only [List.getElem?_map, Option.map_eq_some_iff] at hd
        obtain ⟨y, hd, rfl⟩ := hd
        have hym := List.mem_of_getElem? hd
        have hjl := (List.getElem?_eq_some_iff.mp hd).1
        have htj : (s.subs.take (j + 1)).flatten = (s.subs.take j).flatten ++ y := by rw [List.take_add_one, hd]; simp
        have hal2 : acc.length ≤ 10 := by
          rw [hf, List.length_map, List.length_take]
          have : s.subs.length ≤ 2 := by cases s <;> simp [Stm.subs]
          omega
        have hys : (alls (s.subs.take j).flatten).length + (alls y).length ≤ (alls s.subs.flatten).length := by
          have h1 : s.subs.flatten = (s.subs.take (j + 1)).flatten ++ (s.subs.drop (j + 1)).flatten := by rw [← List.flatten_append, List.take_append_drop]
          rw [h1, alls_app, htj, alls_app]
          simp
        have hsl : s.all.length = (alls s.subs.flatten).length + 1 := by rw [hs1]; simp
        simp_arith [tYes', ed_has ho4]
        have hnoy : at_ < p + 1 + (alls (s.subs.take j).flatten).length ∨ p + 1 + (alls (s.subs.take j).flatten).length + (alls y).length ≤ at_ := by omega
        refine edit_block n y (p + 1 + (alls (s.subs.take j).flatten).length) S4 _ _ (by have := bh_sub hym; have := bhs_mem hsm; omega) (hsub s (mem_all_alls hsm s (by rw [hs1]; exact List.mem_cons_self ..)) y hym) ho4 (fun i2 s2 hi2 => ?_) (fun x hx => hsub x (mem_all_alls hsm x (mem_alls_sub hym x hx))) fun S5 ho5 hx6 => ?_
        · have h1 : (alls (y.take i2)).length + s2.all.length ≤ (alls y).length := by
            have h2 := alls_take_le y (i2 + 1)
            rw [List.take_add_one, hi2, alls_app] at h2
            simp [alls] at h2
            omega
          omega
        · rw [outL_no _ _ hnoy]
          have hjS := get_lt hj
          refine ⟨hx6.get _ _ (by show ¬ S3.length = o; omega) hj, by omega, ?_, (hx5.trans hx6).setT (.inr (Nat.le_refl _)), ?_⟩
          · rw [hf, List.take_add_one, hd]; simp [bD]
          · rw [get_setne (by omega), ho5, htj, alls_app, List.length_append]
            congr 2
            omega
      · rw [List.length_map, List.take_length] at hf ho4
        have hoo : p + 1 + (alls s.subs.flatten).length = p + s.all.length := by rw [hs1]; simp; omega
        rw [hoo] at ho4
        have hxf := hx5.get _ _ (by show ¬ S.length = o; omega) hfS3
        obtain ⟨pre, kk, w1, w2, w3⟩ := whole_s s
        have hx04 := hx03.trans hx5
        have hl4 : lenO [.obj S3.length] S4 = some (.int (s.subs.length : Nat), S4) := by rw [len_obj hj, hf, List.length_map]
        have htup : tupO [.obj S3.length] S4 = some (.tup (s.subs.map bD), S4) := tup_obj (by rw [hj, hf])
        have hol := outL_len (at_ := at_) (b := b) (st := st) (l.take k) met
        have hkl2 : (l.take k).length ≤ 1000 := by rw [List.length_take]; omega
        have hos : outL at_ b st met (l.take k) = outL at_ b st met (l.take k) := rfl
        simp_arith [w1, hl4, w2, htup, w3, sub_int]
        have fin : ∀ (x : List D), x = (if p = at_ then hit b st s else [s.d]) → ∀ T, (∃ x3 x4 x5 x6 x7 : Option D, [some (D.obj o), some (.tup (l.map Stm.d)), some (.obj S.length), some s.d, some (.bl (decide ((p : Int) = (at_ : Int)))), some (.obj S3.length), some s.d, T] = [some (.obj o), some (.tup (l.map Stm.d)), some (.obj S.length), x3, x4, x5, x6, x7] ∧ Ext (isH o) S (S4.set S.length (.lst (outL at_ b st met (l.take k) ++ x))) ∧ (S4.set S.length (.lst (outL at_ b st met (l.take k) ++ x)))[S.length]? = some (.lst (outL at_ b st met (l.take (k + 1)))) ∧ (S4.set S.length (.lst (outL at_ b st met (l.take k) ++ x)))[o]? = some (edOb at_ b st (met + (alls (l.take (k + 1))).length)) ∧ k + 1 ≤ l.length) := fun x hx T => by
          refine ⟨_, _, _, _, _, rfl, hx04.setT (.inr (Nat.le_refl _)), ?_, ?_, hklt⟩
          · rw [get_set hxf, hout, hx]
          · rw [get_setne hSo, hlen, ho4]
        by_cases hpa : p = at_
        · have hfin := fin (hit b st s) (by rw [if_pos hpa])
          rw [decide_eq_true (show (p : Int) = (at_ : Int) by omega)] at hfin ⊢
          simp_arith [ed_deed ho4]
          cases b with
          | true =>
            simp only [edS, if_true]
            simp_arith [isLst_obj hxf, ed_st ho4]
            have e1 : (S4 ++ [Ob.lst [st, s.d]])[S.length]? = some (.lst (outL at_ true st met (l.take k))) := by rw [List.getElem?_append_left (get_lt hxf)]; exact hxf
            have e2 : (S4 ++ [Ob.lst [st, s.d]])[S4.length]? = some (.lst [st, s.d]) := by simp
            simp_arith [ext_lst e1 e2 (show _ + [st, s.d].length ≤ sizeLine by simp; omega)]
            obtain ⟨a3, a4, a5, a6, a7, b1, b2, b3, b4, b5⟩ := hfin x7
            have hlt := get_lt hxf
            have hlt2 := get_lt ho4
            refine ⟨_, _, _, _, _, rfl, (hx04.appT).setT (.inr (Nat.le_refl _)), ?_, ?_, b5⟩
            · rw [get_set e1, hout, if_pos hpa]; simp [hit]
            · rw [get_setne hSo, List.getElem?_append_left hlt2, ho4, hlen]
          | false =>
            simp only [edS, Bool.false_eq_true, if_false]
            simp_arith [isLst_obj hxf, ed_st ho4, ed_deed ho4, edS, app_lst hxf (show (outL at_ false st met (l.take k)).length < sizeLine by omega)]
            simpa [hit] using hfin x7
        · have hfin := fin [s.d] (by rw [if_neg hpa])
          rw [decide_eq_false (show ¬ (p : Int) = (at_ : Int) by omega)] at hfin ⊢
          simp_arith [isLst_obj hxf, app_lst hxf (show (outL at_ b st met (l.take k)).length < sizeLine by omega)]
          exact hfin x7
    · rintro env S2 ⟨x3, x4, x5, x6, x7, rfl, hx2, hf2, ho2, hkl⟩
      refine ⟨rfl, ?_⟩
      rw [List.length_map, List.take_length] at hf2 ho2
      simp_arith [tup_obj hf2]
      exact h S2 ho2 hx2
end

set_option Elab.async false
set_option linter.all false
set_option maxRecDepth 100000
open PySem PySem.Spec PyProof.Rows L2 Y Z
section
variable {S : AH} {Q : D → AH → Prop} {E : Xn → AH → Prop} {o at_ met : Nat} {b : Bool} {st : D}
theorem fst_put {C fn : Str} {fs : List (Str × D)} {v : D} (h : S[o]? = some (.ins C fs)) (hz : fs.length < 1000) : fstO C fn (.obj o) v S = some (S.set o (.ins C (putF' fn v fs))) := by
  unfold fstO; simp only [h]; rw [if_pos ⟨trivial, hz⟩]
theorem pf_len {f : Str} {v : D} : ∀ fs : List (Str × D), (putF' f v fs).length ≤ fs.length + 1
  | [] => by simp [putF']
  | (g, x) :: r => by
    have := pf_len (f := f) (v := v) r
    simp only [putF']
    split <;> simp; omega
theorem edit_init (h : ∀ S', S'[S.length]? = some (edOb at_ b st 0) → Ext E0 S S' → Q .non S') : wp (F_Edit___init__ [.obj S.length, .int (at_ : Nat), .str (edS b), st] (S ++ [.ins "Edit" []])) Q E := by
  unfold F_Edit___init__ b_Edit___init__
  have h0 : (S ++ [Ob.ins "Edit" []])[S.length]? = some (.ins "Edit" []) := by simp
  have h1 := get_set (o' := .ins "Edit" (putF' "at" (.int (at_ : Nat)) [])) h0
  have h2 := get_set (o' := .ins "Edit" (putF' "deed" (.str (edS b)) (putF' "at" (.int (at_ : Nat)) []))) h1
  have h3 := get_set (o' := .ins "Edit" (putF' "statement" st (putF' "deed" (.str (edS b)) (putF' "at" (.int (at_ : Nat)) [])))) h2
  have h4 := get_set (o' := .ins "Edit" (putF' "met" (.int 0) (putF' "statement" st (putF' "deed" (.str (edS b)) (putF' "at" (.int (at_ : Nat)) []))))) h3
  have p1 := pf_len (f := "at") (v := .int (at_ : Nat)) []
  have p2 := pf_len (f := "deed") (v := .str (edS b)) (putF' "at" (.int (at_ : Nat)) [])
  have p3 := pf_len (f := "statement") (v := st) (putF' "deed" (.str (edS b)) (putF' "at" (.int (at_ : Nat)) []))
  simp only [List.length_nil] at p1
  simp_arith [fst_put h0 (by decide), fst_put h1 (by omega), fst_put h2 (by omega), fst_put h3 (by omega)]
  refine h _ h4 ((((Ext.app.setT (.inr (Nat.le_refl _))).setT (.inr (Nat.le_refl _))).setT (.inr (Nat.le_refl _))).setT (.inr (Nat.le_refl _)))
/-! ### a person -/
def hLen : List (Str × List Stm) → Nat
  | [] => 0
  | h :: r => (alls h.2).length + hLen r
def hOut (at_ : Nat) (b : Bool) (st : D) : Nat → List (Str × List Stm) → List D
  | _, [] => []
  | p, h :: r => .tup [.str h.1, .tup (outL at_ b st p h.2)] :: hOut at_ b st (p + (alls h.2).length) r
theorem hLen_app : ∀ a r, hLen (a ++ r) = hLen a + hLen r
  | [], r => by simp [hLen]
  | h :: a, r => by simp [hLen, hLen_app a r]; omega
theorem hOut_app : ∀ (a r : List (Str × List Stm)) (p : Nat), hOut at_ b st p (a ++ r) = hOut at_ b st p a ++ hOut at_ b st (p + hLen a) r
  | [], r, p => by simp [hOut, hLen]
  | h :: a, r, p => by simp [hOut, hLen, hOut_app a r, Nat.add_assoc]
def nh (at_ p : Nat) (l : List Stm) : Prop := ∀ i s, l[i]? = some s → at_ ≤ p + (alls (l.take i)).length ∨ p + (alls (l.take i)).length + s.all.length ≤ at_
structure BlkOk (l : List Stm) : Prop where
  bh : bhs l ≤ 20
  len : l.length ≤ 1000
  sub : ∀ s ∈ alls l, ∀ b ∈ s.subs, b.length ≤ 1000
  all : (alls l).length ≤ 10000
theorem ed_hasp (h : S[o]? = some (edOb at_ b st met)) : hasM "Edit" "person" (.obj o) S = true := by
  unfold hasM; simp only [h, edOb]; rfl
theorem edit_person {p : Per} (hl : p.helps.length ≤ 6) (hh : ∀ h ∈ p.helps, BlkOk h.2) (hb : BlkOk p.body) (n1 : ∀ k h, p.helps[k]? = some h → nh at_ (hLen (p.helps.take k)) h.2) (n2 : nh at_ (hLen p.helps) p.body) (ho : S[o]? = some (edOb at_ b st 0))
    (q : ∀ S', Ext (isH o) S S' → Q (.tup [.str p.name, .tup (p.ins.map D.str), .tup (hOut at_ b st 0 p.helps), .tup (outL at_ b st (hLen p.helps) p.body ++ (if hLen p.helps + (alls p.body).length = at_ ∧ b = true then [st] else []))]) S') : wp (F_Edit_person [.obj o, p.d] S) Q E := by
  have hbig := sizeLine_big
  have hol := get_lt ho
  have hbl := hb.len
  unfold F_Edit_person b_Edit_person Per.d
  simp_arith [seqIt_tup]
  refine wp_lc (fun k acc S2 => acc = hOut at_ b st 0 (p.helps.take k) ∧ acc.length ≤ k ∧ Ext (isH o) S S2 ∧ S2[o]? = some (edOb at_ b st (hLen (p.helps.take k)))) (acc := []) (by simp) ⟨by simp [hOut], by simp, .app, by rw [List.getElem?_append_left hol]; simpa [hLen] using ho⟩ (fun k d acc S2 hd hj ⟨hf, hal, hx, ho2⟩ => ⟨rfl, ?_⟩) (fun acc S2 hj ⟨hf, hal, hx, ho2⟩ => ⟨rfl, ?_⟩)
  · simp only [List.getElem?_map, Option.map_eq_some_iff] at hd
    obtain ⟨x, hd, rfl⟩ := hd
    have hkl := (List.getElem?_eq_some_iff.mp hd).1
    have hxb := hh x (List.mem_of_getElem? hd)
    have ht : p.helps.take (k + 1) = p.helps.take k ++ [x] := by rw [List.take_add_one, hd]; rfl
    have hjl := get_lt hj
    simp_arith [tYes', helpD, ed_has ho2]
    refine edit_block 20 x.2 _ S2 _ _ hxb.bh hxb.len ho2 (n1 k x hd) hxb.sub fun S3 ho3 hx3 => ?_
    refine ⟨hx3.get _ _ (by show ¬ S.length = o; omega) hj, by omega, ?_, by simp; omega, (hx.trans hx3).setT (.inr (Nat.le_refl _)), ?_⟩
    · rw [ht, hOut_app, hf]; simp [hOut]
    · rw [get_setne (by omega), ho3, ht, hLen_app]; simp [hLen]
  · rw [List.length_map, List.take_length] at hf ho2
    simp_arith [tup_obj hj, ed_has ho2]
    refine edit_block 20 p.body _ S2 _ _ hb.bh hb.len ho2 n2 hb.sub fun S3 ho3 hx3 => ?_
    have hx03 := hx.trans hx3
    have hlo := outL_len (at_ := at_) (b := b) (st := st) p.body (hLen p.helps)
    simp_arith [ed_met ho3, ed_at ho3, ed_deed ho3, ed_st ho3]
    subst hf
    by_cases h1 : hLen p.helps + (alls p.body).length = at_
    · rw [decide_eq_true (show ((hLen p.helps + (alls p.body).length : Nat) : Int) = (at_ : Int) by omega), ch_t]
      cases b with
      | true =>
        have := q S3 hx03
        rw [if_pos ⟨h1, rfl⟩] at this
        have e1 : addO (.tup (outL at_ true st (hLen p.helps) p.body)) (.tup [st]) S3 = some (.tup (outL at_ true st (hLen p.helps) p.body ++ [st]), S3) := by
          unfold addO; simp only []; rw [if_pos (by simp; omega)]
        simp_arith [edS, e1]
        exact this
      | false =>
        have := q S3 hx03
        rw [if_neg (by simp)] at this
        try simp_arith [edS]
        simpa using this
    · rw [decide_eq_false (show ¬ ((hLen p.helps + (alls p.body).length : Nat) : Int) = (at_ : Int) by omega), ch_f]
      have := q S3 hx03
      rw [if_neg (fun z => h1 z.1)] at this
      try simp_arith []
      simpa using this
/-- how many statements -/
theorem spots_ {p : Per} (hl : p.helps.length ≤ 6) (hz : ∀ b ∈ p.blocks, (alls b).length ≤ 10000) (h : ∀ i S', Ext E0 S S' → S'[i]? = some (.lst ((p.blocks.flatMap alls).map Stm.d)) → Q (.obj i) S') : wp (F_spots [p.d] S) Q E := by
  have hbig := sizeLine_big
  have hsz : (p.blocks.flatMap fun l => (alls l).map Stm.d).length ≤ 10000 * p.blocks.length := by
    clear h
    have : ∀ L : List (List Stm), (∀ b ∈ L, (alls b).length ≤ 10000) → (L.flatMap fun l => (alls l).map Stm.d).length ≤ 10000 * L.length := by
      intro L
      induction L with
      | nil => intro _; simp
      | cons a r ih =>
        intro h
        have h1 := h a (List.mem_cons_self ..)
        have h2 := ih fun b hb => h b (List.mem_cons_of_mem _ hb)
        rw [List.flatMap_cons, List.length_append, List.length_map, List.length_cons]
        omega
    exact this _ hz
  have hpb : p.blocks.length ≤ 7 := by simp [Per.blocks]; omega
  unfold F_spots b_spots
  simp_arith [wp_eLc2]
  refine whole_blocks hl fun i S1 hx hi hl1 => ?_
  simp_arith [seqIt_obj hl1]
  refine lc2F (A := E0) (QD := fun d S2 => Q d S2) (fun l : List Stm => (alls l).map Stm.d) (by simp) (fun z => z) (by omega) (fun S2 hx2 => lstG_ok (hx2.get _ _ (fun z => z) hl1)) (fun s S4 hs hx4 hlt => ?_) fun S4 hx4 hj4 => ?_
  · simp_arith []
    exact statements_in (hz s hs) fun i S5 hx5 hi hl5 => ⟨i, rfl, by omega, hl5, hx5⟩
  · refine h _ S4 (hx.trans hx4) ?_
    rw [hj4, List.map_flatMap]
end

set_option Elab.async false
set_option linter.all false
set_option maxRecDepth 100000
open PySem PySem.Spec PyProof.Rows L2 Y Z
section
variable {S : AH} {Q : D → AH → Prop} {E : Xn → AH → Prop} {o at_ met : Nat} {b : Bool} {st : D}
theorem PG.blk {m : Int} {we : List (Int × Int)} {k : Nat} {p : Per} (g : PG m we k p) (hl : p.body.length ≤ 30) : BlkOk p.body ∧ (∀ h ∈ p.helps, BlkOk h.2) ∧ p.helps.length ≤ 6 ∧ ∀ b ∈ p.blocks, (alls b).length ≤ 10000 := by
  have b1 := sg_bhs g.body
  have b3 := sg_len g.body
  have ba := sg_all g.body
  have hh : ∀ h ∈ p.helps, BlkOk h.2 := fun h hh => by
    obtain ⟨_, h2, h3⟩ := g.hg h hh
    have a1 := sg_bhs h3
    have a3 := sg_len h3
    rw [h2] at a3
    exact ⟨by omega, by omega, fun s hs b hb => by have := ag_sub (sg_all h3 s hs) b hb; omega, by omega⟩
  have hb : BlkOk p.body := ⟨by omega, by omega, fun s hs b hb => by have := ag_sub (ba s hs) b hb; omega, by omega⟩
  refine ⟨hb, hh, by have := g.hlen; omega, fun b hb' => ?_⟩
  unfold Per.blocks at hb'
  rcases List.mem_append.mp hb' with hb' | hb'
  · obtain ⟨h, hm, rfl⟩ := List.mem_map.mp hb'
    exact (hh h hm).all
  · simp at hb'; subst hb'; exact hb.all
theorem blocks_len (p : Per) : (p.blocks.flatMap alls).length = hLen p.helps + (alls p.body).length := by
  have : ∀ hs : List (Str × List Stm), ((hs.map (·.2)).flatMap alls).length = hLen hs := by
    intro hs
    induction hs with
    | nil => rfl
    | cons a r ih => rw [List.map_cons, List.flatMap_cons, List.length_append, ih]; rfl
  unfold Per.blocks
  rw [List.flatMap_append, List.length_append, this]
  simp
def newP (at_ : Nat) (b : Bool) (st : D) (p : Per) : D := .tup [.str p.name, .tup (p.ins.map D.str), .tup (hOut at_ b st 0 p.helps), .tup (outL at_ b st (hLen p.helps) p.body ++ (if hLen p.helps + (alls p.body).length = at_ ∧ b = true then [st] else []))]
theorem edit_person2 {p : Per} (hl : p.helps.length ≤ 6) (hh : ∀ h ∈ p.helps, BlkOk h.2) (hb : BlkOk p.body) (n1 : ∀ k h, p.helps[k]? = some h → nh at_ (hLen (p.helps.take k)) h.2) (n2 : nh at_ (hLen p.helps) p.body) (ho : S[o]? = some (edOb at_ b st 0))
    (q : ∀ S', Ext (isH o) S S' → Q (newP at_ b st p) S') : wp (F_Edit_person [.obj o, p.d] S) Q E := edit_person hl hh hb n1 n2 ho q
theorem hou_d (h : Hou) : h.d = .tup [.int h.m, .tup (h.wires.map Wir.d), .tup (h.pers.map Per.d)] := rfl
theorem need_p {h : Hou} {k : Nat} (hk : k < h.pers.length) (q : Q .non S) : wp (F_need_person [h.d, .int (k : Nat)] S) Q E := by
  unfold F_need_person b_need_person
  rw [hou_d]
  simp_arith [len_tup]
  rw [decide_eq_true (by simp; omega)]
  simp_arith []
  exact q
theorem need_p_no {h : Hou} {k : Int} (hk : ¬ (0 ≤ k ∧ k ≤ (h.pers.length : Int) - 1)) (q : E ⟨"NoPerson", none⟩ S) : wp (F_need_person [h.d, .int k] S) Q E := by
  unfold F_need_person b_need_person
  rw [hou_d]
  simp_arith [len_tup]
  rw [decide_eq_false (by simpa using hk)]
  simp_arith []
  exact q
theorem need_w {h : Hou} {k : Nat} (hk : k < h.wires.length) (q : Q .non S) : wp (F_need_wire [h.d, .int (k : Nat)] S) Q E := by
  unfold F_need_wire b_need_wire
  rw [hou_d]
  simp_arith [len_tup]
  rw [decide_eq_true (by simp; omega)]
  simp_arith []
  exact q
theorem need_w_no {h : Hou} {k : Int} (hk : ¬ (0 ≤ k ∧ k ≤ (h.wires.length : Int) - 1)) (q : E ⟨"NoWire", none⟩ S) : wp (F_need_wire [h.d, .int k] S) Q E := by
  unfold F_need_wire b_need_wire
  rw [hou_d]
  simp_arith [len_tup]
  rw [decide_eq_false (by simpa using hk)]
  simp_arith []
  exact q
/-- put, change at a spot that is there -/
theorem ed_core {h : Hou} {k : Nat} {p : Per} {m : Int} {we : List (Int × Int)} (g : PG m we k p) (hpl : h.pers.length ≤ 10) (hl : p.body.length ≤ 30) (hp : h.pers[k]? = some p) (n1 : ∀ k h, p.helps[k]? = some h → nh at_ (hLen (p.helps.take k)) h.2) (n2 : nh at_ (hLen p.helps) p.body)
    (hin : (at_ : Int) ≤ ((hLen p.helps + (alls p.body).length : Nat) : Int) - (if b = true then 0 else 1)) {R : Bool} (hR : Res F_is_house [.tup [.int h.m, .tup (h.wires.map Wir.d), .tup ((h.pers.map Per.d).set k (newP at_ b st p))]] R)
    (q1 : R = true → ∀ S', Ext E0 S S' → Q (.tup [.int h.m, .tup (h.wires.map Wir.d), .tup ((h.pers.map Per.d).set k (newP at_ b st p))]) S') (q2 : R = false → ∀ S', Ext E0 S S' → E ⟨"NoHouse", none⟩ S') :
    wp (F_edited [h.d, .tup [.str (edS b), .int (k : Nat), .int (at_ : Nat), st]] S) Q E := by
  obtain ⟨hb, hh, hhl, hz⟩ := g.blk hl
  have hk := (List.getElem?_eq_some_iff.mp hp).1
  have hix : ∀ S, ixO (.tup (h.pers.map Per.d)) (.int (k : Nat)) S = some (p.d, S) := fun S => by rw [ix_tup, List.getElem?_map, hp]; rfl
  unfold F_edited b_edited
  have hbl := blocks_len p
  cases b
  all_goals
    simp only [edS, if_true, Bool.false_eq_true, if_false] at hin ⊢
    rw [hou_d]
    simp_arith []
    rw [← hou_d]
    refine need_p hk ?_
    simp_arith [hix]
    refine spots_ hhl hz fun i S1 hx1 hl1 => ?_
    simp_arith [len_obj hl1]
    rw [decide_eq_true (by rw [List.length_map, hbl]; omega)]
    simp_arith []
  · refine edit_init (b := false) fun S2 ho hx2 => ?_
    have hlt := get_lt ho
    simp_arith [lst_tup]
    have ho2 : (S2 ++ [Ob.lst (h.pers.map Per.d)])[S1.length]? = some (edOb at_ false st 0) := by rw [List.getElem?_append_left hlt]; exact ho
    have e1 : ixO (.obj S2.length) (.int (k : Nat)) (S2 ++ [Ob.lst (h.pers.map Per.d)]) = some (p.d, S2 ++ [Ob.lst (h.pers.map Per.d)]) := by
      rw [ix_obj (l := h.pers.map Per.d) (by simp), List.getElem?_map, hp]; rfl
    simp_arith [ed_hasp ho2, e1]
    refine edit_person2 (b := false) hhl hh hb n1 n2 ho2 fun S3 hx3 => ?_
    have hls : S3[S2.length]? = some (.lst (h.pers.map Per.d)) := hx3.get _ _ (by show ¬ S2.length = S1.length; omega) (by simp)
    have hxa : Ext (isH S1.length) S S3 := (hx1.e0.trans hx2.e0).trans (Ext.app.trans hx3)
    have hl1' := hx1.len
    have hl2' := hx2.len
    have hx03 : Ext E0 S S3 := hxa.wide fun i hi h => by have : i = S1.length := h; omega
    simp_arith [st_nat hls (k := k) (by simpa using hk), tup_obj (get_set hls)]
    have hx04 : Ext E0 S (S3.set S2.length (.lst ((h.pers.map Per.d).set k (newP at_ false st p)))) := hx03.setT (.inr (by omega))
    refine hR _ _ _ fun S5 hx5 => ?_
    cases R with
    | true => simp_arith []; exact q1 rfl S5 (hx04.trans hx5)
    | false => simp_arith []; exact q2 rfl S5 (hx04.trans hx5)
  · refine edit_init (b := true) fun S2 ho hx2 => ?_
    have hlt := get_lt ho
    simp_arith [lst_tup]
    have ho2 : (S2 ++ [Ob.lst (h.pers.map Per.d)])[S1.length]? = some (edOb at_ true st 0) := by rw [List.getElem?_append_left hlt]; exact ho
    have e1 : ixO (.obj S2.length) (.int (k : Nat)) (S2 ++ [Ob.lst (h.pers.map Per.d)]) = some (p.d, S2 ++ [Ob.lst (h.pers.map Per.d)]) := by
      rw [ix_obj (l := h.pers.map Per.d) (by simp), List.getElem?_map, hp]; rfl
    simp_arith [ed_hasp ho2, e1]
    refine edit_person2 (b := true) hhl hh hb n1 n2 ho2 fun S3 hx3 => ?_
    have hls : S3[S2.length]? = some (.lst (h.pers.map Per.d)) := hx3.get _ _ (by show ¬ S2.length = S1.length; omega) (by simp)
    have hxa : Ext (isH S1.length) S S3 := (hx1.e0.trans hx2.e0).trans (Ext.app.trans hx3)
    have hl1' := hx1.len
    have hl2' := hx2.len
    have hx03 : Ext E0 S S3 := hxa.wide fun i hi h => by have : i = S1.length := h; omega
    simp_arith [st_nat hls (k := k) (by simpa using hk), tup_obj (get_set hls)]
    have hx04 : Ext E0 S (S3.set S2.length (.lst ((h.pers.map Per.d).set k (newP at_ true st p)))) := hx03.setT (.inr (by omega))
    refine hR _ _ _ fun S5 hx5 => ?_
    cases R with
    | true => simp_arith []; exact q1 rfl S5 (hx04.trans hx5)
    | false => simp_arith []; exact q2 rfl S5 (hx04.trans hx5)
end

set_option Elab.async false
set_option linter.all false
set_option maxRecDepth 100000
open PySem PySem.Spec PyProof.Rows L2 Y Z
/-! ### items of logs -/
inductive Ent where
  | put (k spot : Nat) (v : Int) | room (w : Nat) (r : Int)
def sayD (v : Int) : D := .tup [.str "say", .tup [.str "number", .int v]]
def Ent.d : Ent → D
  | .put k spot v => .tup [.str "put", .int (k : Nat), .int (spot : Nat), sayD v]
  | .room w r => .tup [.str "room", .int (w : Nat), .int r]
def Ent.ok (h : Hou) : Ent → Prop
  | .put k spot v => ∃ p, h.pers[k]? = some p ∧ p.helps = [] ∧ p.body.all flatS = true ∧ spot ≤ p.body.length ∧ (0 ≤ v ∧ v ≤ h.m - 1)
  | .room w r => w < h.wires.length ∧ (0 ≤ r ∧ r ≤ 9)
def putB (l : List Stm) (spot : Nat) (v : Int) : List Stm := l.take spot ++ [.say (.num v)] ++ l.drop spot
def Ent.ap (h : Hou) : Ent → Hou
  | .put k spot v => match h.pers[k]? with
    | some p => { h with pers := h.pers.set k { p with body := putB p.body spot v } }
    | none => h
  | .room w r => match h.wires[w]? with
    | some x => { h with wires := h.wires.set w { x with room := r } }
    | none => h
theorem map_e_set {ws : List Wir} {w : Nat} {x : Wir} {r : Int} (h : ws[w]? = some x) : (ws.set w { x with room := r }).map Wir.e = ws.map Wir.e := by
  refine List.ext_getElem? fun i => ?_
  rw [List.getElem?_map, List.getElem?_map]
  by_cases hi : w = i
  · subst hi
    rw [List.getElem?_set_self (List.getElem?_eq_some_iff.mp h).1, h]; rfl
  · rw [List.getElem?_set_ne hi]
theorem HG.ap {n : Nat} {h : Hou} {e : Ent} (g : HG n h) (ho : e.ok h) : HG (n + 1) (e.ap h) := by
  cases e with
  | put k spot v =>
    obtain ⟨p, hp, hh, hf, hs, hv⟩ := ho
    simp only [Ent.ap, hp]
    obtain ⟨pg, pl⟩ := g.pers k p hp
    refine ⟨g.m, by simpa using g.pl, g.wl, by simpa using g.wires, fun i q hq => ?_⟩
    by_cases hi : k = i
    · subst hi
      simp only [List.getElem?_set_self (List.getElem?_eq_some_iff.mp hp).1, Option.some.injEq] at hq
      subst hq
      refine ⟨⟨pg.name, pg.ins, pg.helps, fun s hs' => ?_⟩, ?_⟩
      · simp only [putB, List.mem_append, List.mem_singleton] at hs'
        rcases hs' with (hs' | rfl) | hs'
        · exact pg.body s (List.mem_of_mem_take hs')
        · exact sg_say (eg_num hv) (by omega) (by omega)
        · exact pg.body s (List.mem_of_mem_drop hs')
      · simp [putB]; omega
    · simp only [List.getElem?_set_ne hi] at hq
      obtain ⟨a, b⟩ := g.pers i q hq
      exact ⟨a, by omega⟩
  | room w r =>
    obtain ⟨hw, hr⟩ := ho
    have hget : h.wires[w]? = some h.wires[w] := List.getElem?_eq_getElem hw
    simp only [Ent.ap, hget]
    refine ⟨g.m, g.pl, by simpa using g.wl, fun i x hx => ?_, fun i q hq => ?_⟩
    · by_cases hi : w = i
      · subst hi
        simp only [List.getElem?_set_self hw, Option.some.injEq] at hx
        subst hx
        obtain ⟨a1, a2, a3, a4, a5⟩ := g.wires w _ hget
        exact ⟨a1, a2, a3, a4, hr⟩
      · simp only [List.getElem?_set_ne hi] at hx
        exact g.wires i x hx
    · obtain ⟨a, b⟩ := g.pers i q hq
      simp only [map_e_set hget]
      exact ⟨a, by omega⟩
section
variable {S : AH} {Q : D → AH → Prop} {E : Xn → AH → Prop}
theorem house_yes {h : Hou} (g : h.good) : Res F_is_house [h.d] true := fun S Q E q => is_house g q
theorem nh_flat {at_ : Nat} : ∀ {l : List Stm} {p : Nat}, l.all flatS = true → nh at_ p l := fun {l p} h i s hs => by
  have : s.all.length = 1 := by
    rw [flat_all (List.all_eq_true.mp h s (List.mem_of_getElem? hs))]; rfl
  omega
theorem nh0 {l : List Stm} {p : Nat} : nh 0 p l := fun i s hs => .inl (Nat.zero_le _)
/-- a room -/
theorem ed_room {h : Hou} {w : Nat} {x : Wir} {r : Int} (hw : h.wires[w]? = some x) {R : Bool} (hR : Res F_is_house [.tup [.int h.m, .tup ((h.wires.map Wir.d).set w (Wir.d { x with room := r })), .tup (h.pers.map Per.d)]] R)
    (q1 : R = true → ∀ S', Ext E0 S S' → Q (.tup [.int h.m, .tup ((h.wires.map Wir.d).set w (Wir.d { x with room := r })), .tup (h.pers.map Per.d)]) S') (q2 : R = false → ∀ S', Ext E0 S S' → E ⟨"NoHouse", none⟩ S') :
    wp (F_edited [h.d, .tup [.str "room", .int (w : Nat), .int r]] S) Q E := by
  have hbig := sizeLine_big
  have hlt := (List.getElem?_eq_some_iff.mp hw).1
  unfold F_edited b_edited
  simp_arith []
  refine need_w hlt ?_
  rw [hou_d]
  have e1 : ixO (.obj S.length) (.int (w : Nat)) (S ++ [Ob.lst (h.wires.map Wir.d)]) = some (x.d, S ++ [Ob.lst (h.wires.map Wir.d)]) := by
    rw [ix_obj (l := h.wires.map Wir.d) (by simp), List.getElem?_map, hw]; rfl
  have e2 : ∀ S, slO x.d none (some 3) S = some (.tup [.str x.name, .int x.s, .int x.t], S) := fun S => rfl
  have e3 : ∀ S, addO (.tup [.str x.name, .int x.s, .int x.t]) (.tup [.int r]) S = some (Wir.d { x with room := r }, S) := fun S => by
    unfold addO; simp only []; rw [if_pos (by simp; omega)]; rfl
  have g1 : (S ++ [Ob.lst (h.wires.map Wir.d)])[S.length]? = some (.lst (h.wires.map Wir.d)) := by simp
  have e4 := st_nat (v := Wir.d { x with room := r }) g1 (k := w) (by simpa using hlt)
  have e5 := tup_obj (get_set (o' := .lst ((h.wires.map Wir.d).set w (Wir.d { x with room := r }))) g1)
  simp_arith [lst_tup, e1, e2, e3, e4, e5]
  refine hR _ _ _ fun S5 hx5 => ?_
  have hx0 : Ext E0 S ((S ++ [Ob.lst (h.wires.map Wir.d)]).set S.length (.lst ((h.wires.map Wir.d).set w (Wir.d { x with room := r })))) := Ext.app.setT (.inr (Nat.le_refl _))
  cases R with
  | true => simp_arith []; exact q1 rfl S5 (hx0.trans hx5)
  | false => simp_arith []; exact q2 rfl S5 (hx0.trans hx5)
theorem outL_put {l : List Stm} {spot : Nat} {v : Int} (hf : l.all flatS = true) (hs : spot ≤ l.length) : outL spot true (sayD v) 0 l ++ (if 0 + (alls l).length = spot ∧ true = true then [sayD v] else []) = (putB l spot v).map Stm.d := by
  rw [outL_flat l 0 spot hf (by omega), flat_alls hf]
  unfold putB
  by_cases h : spot < l.length
  · rw [if_pos h, if_neg (by omega)]
    simp [Stm.d, Ex.d, sayD]
  · have : spot = l.length := by omega
    subst this
    rw [if_neg (by omega), if_pos ⟨by omega, rfl⟩]
    simp [Stm.d, Ex.d, sayD]
/-- a right item -/
theorem edited_ok {n : Nat} {h : Hou} {e : Ent} (g : HG n h) (hn : n ≤ 29) (ho : e.ok h) (q : ∀ S', Ext E0 S S' → Q (e.ap h).d S') : wp (F_edited [h.d, e.d] S) Q E := by
  have g' := house_yes ((g.ap ho).good (by omega))
  cases e with
  | put k spot v =>
    obtain ⟨p, hp, hh, hf, hs, hv⟩ := ho
    obtain ⟨pg, pl⟩ := g.pers k p hp
    have hmade : (Ent.ap h (.put k spot v)).d = .tup [.int h.m, .tup (h.wires.map Wir.d), .tup ((h.pers.map Per.d).set k (newP spot true (sayD v) p))] := by
      simp only [Ent.ap, hp]
      rw [hou_d]
      simp only [List.map_set]
      congr 3
      unfold newP
      rw [hh]
      have e := outL_put (v := v) hf hs
      simp only [and_true] at e
      simp only [hOut, hLen, and_true]
      rw [e]
      simp [Per.d, bD]
    rw [hmade] at q g'
    exact ed_core (b := true) (st := sayD v) pg (by have := g.pl; omega) (by omega) hp (fun i x hx => by rw [hh] at hx; simp at hx) (nh_flat hf) (by rw [hh, flat_alls hf]; simp [hLen]; omega) (R := true) g' (fun _ => q) (fun z => by cases z)
  | room w r =>
    obtain ⟨hw, hr⟩ := ho
    have hget : h.wires[w]? = some h.wires[w] := List.getElem?_eq_getElem hw
    have hmade : (Ent.ap h (.room w r)).d = .tup [.int h.m, .tup ((h.wires.map Wir.d).set w (Wir.d { h.wires[w] with room := r })), .tup (h.pers.map Per.d)] := by
      simp only [Ent.ap, hget]
      rw [hou_d]
      simp only [List.map_set]
    rw [hmade] at q g'
    exact ed_room hget (R := true) g' (fun _ => q) (fun z => by cases z)
/-! ### what is refused -/
theorem stm_yes {m w hp : Int} {s : Stm} (h : s.ok1 m w hp) : Res F_is_statement [s.d, .int m, .int w, .int hp] true := fun S Q E q => is_stm h q
theorem wire_yes {n : Int} {x : Wir} (h : x.form n) : Res F_is_wire [x.d, .int n] true := fun S Q E q => is_wire h q
theorem person_yes {m w : Int} {p : Per} (h : p.form m w) : Res F_is_person [p.d, .int m, .int w] true := fun S Q E q => is_person h q
theorem block_yes {m w hp : Int} {l : List Stm} (h : BGood m w hp l) : Res F_is_block [bD l, .int m, .int w, .int hp] true := fun S Q E q => is_block h.ok h.bh h.nb q
/-- a house with a person that is none -/
theorem house_per {n : Nat} {h : Hou} (g : HG n h) (hn : n ≤ 29) {d : D} (hd : Res F_is_person [d, .int h.m, .int h.wires.length] false) {k : Nat} (hk : k < h.pers.length) : Res F_is_house [.tup [.int h.m, .tup (h.wires.map Wir.d), .tup ((h.pers.map Per.d).set k d)]] false := by
  have gg := (g.good (by omega)).form
  have hpl := g.pl
  have hwl := g.wl
  refine house_no ?_
  have := form_res (m := h.m) (wl := h.wires.map fun w => (w.d, true)) (pl := (h.pers.map fun p => (p.d, true)).set k (d, false)) gg.m (by simp; omega) (by simp; omega) (fun x hx => ?_) fun x hx => ?_
  · have e1 : (h.wires.map fun w => (w.d, true)).map (·.1) = h.wires.map Wir.d := by rw [List.map_map]; rfl
    have e2 : ((h.pers.map fun p => (p.d, true)).set k (d, false)).map (·.1) = (h.pers.map Per.d).set k d := by rw [List.map_set, List.map_map]; rfl
    have e3 : (((h.pers.map fun p => (p.d, true)).set k (d, false)).all (·.2)) = false := by
      rw [List.all_eq_false]
      exact ⟨(d, false), List.mem_set (by simpa using hk) _, by simp⟩
    rw [e1, e2, e3, Bool.and_false] at this
    exact this
  · obtain ⟨w, hw, rfl⟩ := List.mem_map.mp hx
    have := wire_yes (gg.wires w hw)
    simpa using this
  · rcases List.mem_or_eq_of_mem_set hx with hx | rfl
    · obtain ⟨p, hp, rfl⟩ := List.mem_map.mp hx
      have := person_yes (gg.pers p hp)
      simpa using this
    · simpa using hd
/-- a person with a statement that is none, ahead of all or in the place of the first -/
theorem per_no {m : Int} {ws : List Wir} {k : Nat} {p : Per} {b : Bool} {st : D} (hm : 2 ≤ m ∧ m ≤ 5) (g : PG m (ws.map Wir.e) k p) (hl : p.body.length ≤ 30) (hst : ∀ m w hp, Res F_is_statement [st, .int m, .int w, .int hp] false) (hb : b = true ∨ 1 ≤ hLen p.helps + (alls p.body).length) :
    Res F_is_person [newP 0 b st p, .int m, .int ws.length] false := by
  obtain ⟨pf, _⟩ := g.good hm hl
  have hblk : ∀ (hp : Nat) (l : List Stm), l.length ≤ 100 → (∀ s ∈ l, s.ok1 m ws.length hp) → (l ≠ [] ∨ b = true) → Res F_is_block [.tup (outL 0 b st 0 l ++ (if (alls l).length = 0 ∧ b = true then [st] else [])), .int m, .int ws.length, .int (hp : Nat)] false := fun hp l hl hok hne => by
    cases l with
    | nil =>
      have hb' : b = true := hne.resolve_left (fun z => z rfl)
      subst hb'
      have := block_no (m := m) (w := ws.length) (hp := hp) (xs := [(st, false)]) (fun x hx => by simp at hx; subst hx; exact hst _ _ _) (by simp) rfl
      simpa [outL, alls] using this
    | cons s r =>
      have h1 := all_len s
      rw [outL_hit, if_neg (fun z => by have := z.1; simp only [alls, List.length_append] at this; omega), List.append_nil]
      have hr : ∀ x ∈ r.map (fun s => (s.d, true)), Res F_is_statement [x.1, .int m, .int ws.length, .int (hp : Nat)] x.2 := fun x hx => by
        obtain ⟨s', hs', rfl⟩ := List.mem_map.mp hx
        exact stm_yes (hok s' (List.mem_cons_of_mem _ hs'))
      cases b with
      | true =>
        have := block_no (m := m) (w := ws.length) (hp := hp) (xs := (st, false) :: (s.d, true) :: r.map (fun s => (s.d, true))) (fun x hx => by
          simp only [List.mem_cons] at hx
          rcases hx with rfl | rfl | hx
          · exact hst _ _ _
          · exact stm_yes (hok s (List.mem_cons_self ..))
          · exact hr x hx) (by simp at hl ⊢; omega) (by simp)
        simpa [hit, Function.comp_def] using this
      | false =>
        have := block_no (m := m) (w := ws.length) (hp := hp) (xs := (st, false) :: r.map (fun s => (s.d, true))) (fun x hx => by
          simp only [List.mem_cons] at hx
          rcases hx with rfl | hx
          · exact hst _ _ _
          · exact hr x hx) (by simp at hl ⊢; omega) (by simp)
        simpa [hit, Function.comp_def] using this
  unfold newP
  have insl := pf.insl
  rcases g.helps with e | ⟨s1, s2, e, _⟩
  · have hB := hblk p.helps.length p.body (by omega) (fun s hs => pf.body.ok.ok1 s hs) (by
      rcases hb with hb | hb
      · exact .inr hb
      · refine .inl fun z => ?_
        rw [e, z] at hb; simp [hLen, alls] at hb)
    rw [e] at hB ⊢
    have := person_res (m := m) (w := ws.length) (hs := []) pf.name insl pf.ins (by simp) (by simp) hB
    simpa [hOut, hLen] using this
  · have hhf := pf.helps ("hx", [s1, s2]) (by rw [e]; simp)
    have hB := hblk p.helps.length [s1, s2] (by simp) (fun s hs => hhf.2.ok.ok1 s hs) (.inl (by simp))
    have l1 := all_len s1
    have hpos : 0 < hLen p.helps := by rw [e]; simp [hLen, alls]; omega
    rw [if_neg (by simp [alls]; intro z; rw [z] at l1; simp at l1), List.append_nil] at hB
    have hH := help_res (z := "hx") hhf.1 hB
    have hbody := block_yes pf.body
    rw [e] at hH hbody
    rw [outL_no p.body _ (.inl hpos), if_neg (by omega), List.append_nil, e]
    have := person_res (m := m) (w := ws.length) (hs := [(.tup [.str "hx", .tup (outL 0 b st 0 [s1, s2])], false)]) pf.name insl pf.ins (by simp) (fun x hx => by simp at hx; subst hx; exact hH) hbody
    simpa [hOut, bD] using this
end

set_option Elab.async false
set_option linter.all false
set_option maxRecDepth 100000
open PySem PySem.Spec PyProof.Rows L2 Y Z
/-! ### clauses -/
def goneQ (i : Option Nat) (QF : Fl → AH → Prop) : Fl → AH → Prop := fun fl S => match fl with
  | .nx e => QF (.nx (wipeO i e)) S
  | .ct e => QF (.ct (wipeO i e)) S
  | .bk e => QF (.bk (wipeO i e)) S
  | .rt d => QF (.rt d) S
  | _ => False
section
variable {QF : Fl → AH → Prop} {E : Xn → AH → Prop} {S : AH} {env : En} {sub : Str → Str → Option Bool} {C : Str} {i : Option Nat} {fs : Xn → Es} {r : List Cl} {x : Xn}
theorem goneQ_nx {e} : goneQ i QF (.nx e) S = QF (.nx (wipeO i e)) S := rfl
theorem goneQ_rt {d} : goneQ i QF (.rt d) S = QF (.rt d) S := rfl
theorem wp_cl1 (h : sub x.cls C = some true) : wp (clE sub ((C, i, fs) :: r) x env S) QF E = wp (fs x (wipeO i env) S) (goneQ i QF) NE := by
  simp only [clE, h]
  cases fs x (wipeO i env) S with
  | ok fl S1 => cases fl <;> rfl
  | ex y S1 => rfl
  | bad => rfl
theorem wp_cl0 (h : sub x.cls C = some false) : wp (clE sub ((C, i, fs) :: r) x env S) QF E = wp (clE sub r x env S) QF E := by
  simp only [clE, h]
theorem suAt_ok {i : Nat} {C fn z : Str} {d : D} {QF : Fl → AH → Prop} (h : i < env.length) : wp (suAt i C fn z ⟨C, some [(fn, d)]⟩ env S) QF E = QF (.rt (.obj S.length)) (S ++ [.lst [.str z, d]]) := by
  unfold suAt
  rw [if_pos ⟨rfl, h⟩]
  simp [List.lookup]
  rfl
end
/-! ### live houses -/
def liveOb (a b u k : Nat) : Ob := .ins "Live" [("houses", .obj a), ("deeds", .obj b), ("undone", .obj u), ("books", .obj k)]
structure Lv (o a b : Nat) (hs ds : List D) (S : AH) : Prop where
  ob : ∃ u k, S[o]? = some (liveOb a b u k)
  hs : S[a]? = some (.lst hs)
  ds : S[b]? = some (.lst ds)
  oa : o ≠ a
  ob' : o ≠ b
  ab : a ≠ b
abbrev isL (o a b : Nat) : Nat → Prop := fun i => i = o ∨ i = a ∨ i = b
section
variable {S : AH} {Q : D → AH → Prop} {E : Xn → AH → Prop} {o a b : Nat} {hs ds : List D}
theorem Lv.go {S' : AH} (L : Lv o a b hs ds S) (hx : Ext E0 S S') : Lv o a b hs ds S' := by
  obtain ⟨u, k, h⟩ := L.ob
  exact ⟨⟨u, k, hx.get _ _ (fun z => z) h⟩, hx.get _ _ (fun z => z) L.hs, hx.get _ _ (fun z => z) L.ds, L.oa, L.ob', L.ab⟩
theorem lv_h (L : Lv o a b hs ds S) : fldO "Live" "houses" (.obj o) S = some (.obj a, S) := by
  obtain ⟨u, k, h⟩ := L.ob
  unfold fldO; simp only [h, liveOb]; rfl
theorem lv_d (L : Lv o a b hs ds S) : fldO "Live" "deeds" (.obj o) S = some (.obj b, S) := by
  obtain ⟨u, k, h⟩ := L.ob
  unfold fldO; simp only [h, liveOb]; rfl
theorem lv_done (L : Lv o a b hs ds S) : hasM "Live" "done" (.obj o) S = true := by
  obtain ⟨u, k, h⟩ := L.ob
  unfold hasM; simp only [h, liveOb]; rfl
theorem lv_now (L : Lv o a b hs ds S) : hasM "Live" "now" (.obj o) S = true := by
  obtain ⟨u, k, h⟩ := L.ob
  unfold hasM; simp only [h, liveOb]; rfl
theorem lv_end (L : Lv o a b hs ds S) : hasM "Live" "end" (.obj o) S = true := by
  obtain ⟨u, k, h⟩ := L.ob
  unfold hasM; simp only [h, liveOb]; rfl
theorem lv_beh (L : Lv o a b hs ds S) : hasM "Live" "behaviour" (.obj o) S = true := by
  obtain ⟨u, k, h⟩ := L.ob
  unfold hasM; simp only [h, liveOb]; rfl
theorem ix_last {i : Nat} {l : List D} {x : D} (h : S[i]? = some (.lst (l ++ [x]))) : ixO (.obj i) (.int (-1)) S = some (x, S) := by
  unfold ixO
  simp only [seqOf, h]
  have : atI (l ++ [x]) (-1) = some x := by
    unfold atI ixN
    rw [if_neg (by omega), if_pos (by simp; omega)]
    have e : ((-1 : Int) + ((l ++ [x]).length : Nat)).toNat = l.length := by simp; omega
    show (l ++ [x])[((-1 : Int) + ((l ++ [x]).length : Nat)).toNat]? = some x
    rw [e]; simp
  rw [this]; rfl
theorem live_init {h : Hou} (g : h.good) (q : ∀ S' a b, S.length < a → S.length < b → Lv S.length a b [h.d] [] S' → Ext E0 S S' → Q .non S') : wp (F_Live___init__ [.obj S.length, h.d] (S ++ [.ins "Live" []])) Q E := by
  unfold F_Live___init__ b_Live___init__
  rw [wp_funOf]
  refine wp_cut (fun e S1 => e = [some (.obj S.length), some h.d] ∧ S1[S.length]? = some (.ins "Live" []) ∧ Ext E0 S S1) ?_ ?_
  · simp_arith []
    refine need_yes g fun S1 hx => ?_
    exact ⟨_, rfl, rfl, hx.get _ _ (fun z => z) (by simp), Ext.app.trans hx⟩
  rintro e S1 ⟨rfl, h1, hx1⟩
  refine wp_cut (fun e S2 => e = [some (.obj S.length), some h.d] ∧ ∃ a, S.length < a ∧ S2[a]? = some (.lst [h.d]) ∧ S2[S.length]? = some (.ins "Live" [("houses", .obj a)]) ∧ Ext E0 S S2) ?_ ?_
  · have hl := get_lt h1
    have e1 : (S1 ++ [Ob.lst [h.d]])[S.length]? = some (.ins "Live" []) := by rw [List.getElem?_append_left hl]; exact h1
    simp_arith [fst_put e1 (by decide)]
    exact ⟨_, rfl, rfl, S1.length, hl, by rw [get_setne (by omega)]; simp, get_set e1, (hx1.appT).setT (.inr (Nat.le_refl _))⟩
  rintro e S2 ⟨rfl, a, ha, ha2, h2, hx2⟩
  refine wp_cut (fun e S3 => e = [some (.obj S.length), some h.d] ∧ ∃ b, S.length < b ∧ a ≠ b ∧ S3[a]? = some (.lst [h.d]) ∧ S3[b]? = some (.lst []) ∧ S3[S.length]? = some (.ins "Live" [("houses", .obj a), ("deeds", .obj b)]) ∧ Ext E0 S S3) ?_ ?_
  · have hl := get_lt h2
    have hla := get_lt ha2
    have e1 : (S2 ++ [Ob.lst []])[S.length]? = some (.ins "Live" [("houses", .obj a)]) := by rw [List.getElem?_append_left hl]; exact h2
    simp_arith [fst_put e1 (by simp)]
    exact ⟨_, rfl, rfl, S2.length, hl, by omega, by rw [get_setne (by omega), List.getElem?_append_left hla]; exact ha2, by rw [get_setne (by omega)]; simp, get_set e1, (hx2.appT).setT (.inr (Nat.le_refl _))⟩
  rintro e S3 ⟨rfl, b, hb, hab, ha3, hb3, h3, hx3⟩
  refine wp_cut (fun e S4 => e = [some (.obj S.length), some h.d] ∧ ∃ u : Nat, S4[a]? = some (.lst [h.d]) ∧ S4[b]? = some (.lst []) ∧ S4[S.length]? = some (.ins "Live" [("houses", .obj a), ("deeds", .obj b), ("undone", .obj u)]) ∧ Ext E0 S S4) ?_ ?_
  · have hl := get_lt h3
    have hla := get_lt ha3
    have hlb := get_lt hb3
    have e1 : (S3 ++ [Ob.lst []])[S.length]? = some (.ins "Live" [("houses", .obj a), ("deeds", .obj b)]) := by rw [List.getElem?_append_left hl]; exact h3
    simp_arith [fst_put e1 (by simp)]
    exact ⟨_, rfl, rfl, S3.length, by rw [get_setne (by omega), List.getElem?_append_left hla]; exact ha3, by rw [get_setne (by omega), List.getElem?_append_left hlb]; exact hb3, get_set e1, (hx3.appT).setT (.inr (Nat.le_refl _))⟩
  rintro e S4 ⟨rfl, u, ha4, hb4, h4, hx4⟩
  have hl := get_lt h4
  have hla := get_lt ha4
  have hlb := get_lt hb4
  have e1 : (S4 ++ [Ob.dic []])[S.length]? = some (.ins "Live" [("houses", .obj a), ("deeds", .obj b), ("undone", .obj u)]) := by rw [List.getElem?_append_left hl]; exact h4
  simp_arith [fst_put e1 (by simp)]
  exact q _ a b ha hb ⟨⟨u, S4.length, get_set e1⟩, by rw [get_setne (by omega), List.getElem?_append_left hla]; exact ha4, by rw [get_setne (by omega), List.getElem?_append_left hlb]; exact hb4, by omega, by omega, hab⟩ ((hx4.appT).setT (.inr (Nat.le_refl _)))
theorem live_init_no {d : D} (h : Res F_is_house [d] false) (q : ∀ S', Ext E0 S S' → E ⟨"NoHouse", none⟩ S') {o : Nat} : wp (F_Live___init__ [.obj o, d] S) Q E := by
  unfold F_Live___init__ b_Live___init__
  simp_arith []
  refine need_no h fun S1 hx => ?_
  try simp_arith []
  exact q S1 hx
/-- a deed that goes -/
theorem live_done {hd d' entry : D} (L : Lv o a b (hs ++ [hd]) ds S) (hz : hs.length ≤ 100) (hz2 : ds.length ≤ 100) (hE : ∀ (S : AH) (Q : D → AH → Prop) (E : Xn → AH → Prop), (∀ S', Ext E0 S S' → Q d' S') → wp (F_edited [hd, entry] S) Q E)
    (q : ∀ S', Lv o a b (hs ++ [hd] ++ [d']) (ds ++ [entry]) S' → Ext (isL o a b) S S' → Q .non S') : wp (F_Live_done [.obj o, entry] S) Q E := by
  have hbig := sizeLine_big
  unfold F_Live_done b_Live_done
  rw [wp_funOf]
  have hoa := L.oa; have hob := L.ob'; have hab := L.ab
  refine wp_cut (fun e S1 => e = [some (.obj o), some entry] ∧ Lv o a b (hs ++ [hd] ++ [d']) ds S1 ∧ Ext (isL o a b) S S1) ?_ ?_
  · simp_arith [lv_h L, isLst_obj L.hs, ix_last L.hs]
    refine hE S _ _ fun S1 hx => ?_
    have L1 := L.go hx
    simp_arith [app_lst L1.hs (show (hs ++ [hd]).length < sizeLine by simp; omega)]
    obtain ⟨u, k, h⟩ := L1.ob
    refine ⟨_, rfl, rfl, ⟨⟨u, k, by rw [get_setne (by omega)]; exact h⟩, by rw [get_set L1.hs], by rw [get_setne (by omega)]; exact L1.ds, hoa, hob, hab⟩, (hx.e0).setT (.inl (.inr (.inl rfl)))⟩
  rintro e S1 ⟨rfl, L1, hx1⟩
  refine wp_cut (fun e S2 => e = [some (.obj o), some entry] ∧ Lv o a b (hs ++ [hd] ++ [d']) (ds ++ [entry]) S2 ∧ Ext (isL o a b) S S2) ?_ ?_
  · simp_arith [lv_d L1, isLst_obj L1.ds, app_lst L1.ds (show ds.length < sizeLine by omega)]
    obtain ⟨u, k, h⟩ := L1.ob
    exact ⟨_, rfl, rfl, ⟨⟨u, k, by rw [get_setne (by omega)]; exact h⟩, by rw [get_setne (by omega)]; simpa using L1.hs, get_set L1.ds, hoa, hob, hab⟩, hx1.setT (.inl (.inr (.inr rfl)))⟩
  rintro e S2 ⟨rfl, L2, hx2⟩
  obtain ⟨u, k, h⟩ := L2.ob
  have hl := get_lt h; have hla := get_lt L2.hs; have hlb := get_lt L2.ds
  have e1 : (S2 ++ [Ob.lst []])[o]? = some (liveOb a b u k) := by rw [List.getElem?_append_left hl]; exact h
  have e2 := fst_put (C := "Live") (fn := "undone") (v := .obj S2.length) e1 (by simp)
  simp_arith [e2]
  refine q _ ⟨⟨S2.length, k, get_set e1⟩, by rw [get_setne (by omega), List.getElem?_append_left hla]; simpa using L2.hs, by rw [get_setne (by omega), List.getElem?_append_left hlb]; exact L2.ds, hoa, hob, hab⟩ ((hx2.appT).setT (.inl (.inl rfl)))
theorem live_done_no {hd entry : D} {x : Xn} (L : Lv o a b (hs ++ [hd]) ds S) (hE : ∀ (S : AH) (Q : D → AH → Prop) (E : Xn → AH → Prop), (∀ S', Ext E0 S S' → E x S') → wp (F_edited [hd, entry] S) Q E)
    (q : ∀ S', Ext E0 S S' → E x S') : wp (F_Live_done [.obj o, entry] S) Q E := by
  unfold F_Live_done b_Live_done
  simp_arith [lv_h L, isLst_obj L.hs, ix_last L.hs]
  exact hE S _ _ fun S1 hx => q S1 hx
end
theorem mk_put : tab_MANY.lookup ("put" : Str) = some 4 := by decide +kernel
theorem mk_change : tab_MANY.lookup ("change" : Str) = some 4 := by decide +kernel
theorem mk_drop : tab_MANY.lookup ("drop" : Str) = some 3 := by decide +kernel
theorem mk_room : tab_MANY.lookup ("room" : Str) = some 3 := by decide +kernel
theorem mk_Put : tab_MANY.lookup ("Put" : Str) = none := by decide +kernel
theorem mk_undo : tab_MANY.lookup ("undo" : Str) = none := by decide +kernel
section
variable {S : AH} {Q : D → AH → Prop} {E : Xn → AH → Prop} {o a b : Nat} {hs ds : List D}
/-- items of the right look -/
def form4 (r : D) : Prop := ∃ z l k, r = .tup (.str z :: l) ∧ tab_MANY.lookup z = some k ∧ ((l.length + 1 : Nat) : Int) = k
theorem goes_ok {hd d' entry : D} (hf : form4 entry) (L : Lv o a b (hs ++ [hd]) ds S) (hz : hs.length ≤ 100) (hz2 : ds.length ≤ 100) (hE : ∀ (S : AH) (Q : D → AH → Prop) (E : Xn → AH → Prop), (∀ S', Ext E0 S S' → Q d' S') → wp (F_edited [hd, entry] S) Q E)
    (q : ∀ S', Lv o a b (hs ++ [hd] ++ [d']) (ds ++ [entry]) S' → Ext (isL o a b) S S' → Q (.bl true) S') : wp (F_goes_on [.obj o, entry] S) Q E := by
  obtain ⟨z, l, k, rfl, hz1, hk⟩ := hf
  have hlen : lenO [.tup (.str z :: l)] S = some (.int k, S) := by rw [len_tup, ← hk]; rfl
  have hk0 : k ≠ 0 := by omega
  unfold F_goes_on b_goes_on
  simp_arith [hlen, hk0, kninO, kgetO, hz1, Option.isSome_some, lv_done L]
  refine live_done L hz hz2 hE fun S1 L1 hx => ?_
  try simp_arith []
  exact q S1 L1 hx
theorem goes_no {hd entry : D} {x : Xn} (hf : form4 entry) (L : Lv o a b (hs ++ [hd]) ds S) (hx : subX x.cls "HouseError" = some true) (hE : ∀ (S : AH) (Q : D → AH → Prop) (E : Xn → AH → Prop), (∀ S', Ext E0 S S' → E x S') → wp (F_edited [hd, entry] S) Q E)
    (q : ∀ S', Ext E0 S S' → Q (.bl false) S') : wp (F_goes_on [.obj o, entry] S) Q E := by
  obtain ⟨z, l, k, rfl, hz1, hk⟩ := hf
  have hlen : lenO [.tup (.str z :: l)] S = some (.int k, S) := by rw [len_tup, ← hk]; rfl
  have hk0 : k ≠ 0 := by omega
  unfold F_goes_on b_goes_on
  simp_arith [hlen, hk0, kninO, kgetO, hz1, Option.isSome_some, lv_done L]
  refine live_done_no L hE fun S1 hx1 => ?_
  simp_arith [wp_cl1 hx, goneQ_rt]
  exact q S1 hx1
/-- items that do not look right -/
theorem goes_len {z : Str} {l : List D} {k : Int} (hz1 : tab_MANY.lookup z = some k) (hk : ((l.length + 1 : Nat) : Int) ≠ k) (q : Q (.bl false) S) : wp (F_goes_on [.obj o, .tup (.str z :: l)] S) Q E := by
  have hlen : lenO [.tup (.str z :: l)] S = some (.int ((l.length + 1 : Nat) : Int), S) := rfl
  have h0 : ((l.length + 1 : Nat) : Int) ≠ 0 := by omega
  unfold F_goes_on b_goes_on
  simp_arith [hlen, h0, kninO, kgetO, hz1, Option.isSome_some, hk]
  exact q
theorem goes_word {z : Str} {l : List D} (hz1 : tab_MANY.lookup z = none) (q : Q (.bl false) S) : wp (F_goes_on [.obj o, .tup (.str z :: l)] S) Q E := by
  have hlen : lenO [.tup (.str z :: l)] S = some (.int ((l.length + 1 : Nat) : Int), S) := rfl
  have h0 : ((l.length + 1 : Nat) : Int) ≠ 0 := by omega
  unfold F_goes_on b_goes_on
  simp_arith [hlen, h0, kninO, kgetO, hz1, Option.isSome_none]
  exact q
theorem goes_tup0 (q : Q (.bl false) S) : wp (F_goes_on [.obj o, .tup []] S) Q E := by
  unfold F_goes_on b_goes_on
  simp_arith []
  exact q
theorem k_in : kitB "int" "tuple" = some false := k_it
theorem goes_ty {d : D} {t : String} (h : tyOf S d = some t) (ht : kitB t "tuple" = some false) (q : Q (.bl false) S) : wp (F_goes_on [.obj o, d] S) Q E := by
  unfold F_goes_on b_goes_on
  simp_arith [h, ht]
  exact q
theorem goes_first {d : D} {l : List D} {t : String} (h : ∀ S, tyOf S d = some t) (ht : kitB t "str" = some false) (q : Q (.bl false) S) : wp (F_goes_on [.obj o, .tup (d :: l)] S) Q E := by
  have hlen : lenO [.tup (d :: l)] S = some (.int ((l.length + 1 : Nat) : Int), S) := rfl
  have h0 : ((l.length + 1 : Nat) : Int) ≠ 0 := by omega
  unfold F_goes_on b_goes_on
  simp_arith [hlen, h0, h, ht]
  exact q
end

set_option Elab.async false
set_option linter.all false
set_option maxRecDepth 100000
open PySem PySem.Spec PyProof.Rows L2 Y Z
theorem ty_lst {i : Nat} {l : List D} {S : AH} (h : S[i]? = some (.lst l)) : tyOf S (.obj i) = some "list" := by simp [tyOf, h]
theorem ty_dic {i : Nat} {l : List (Key × D)} {S : AH} (h : S[i]? = some (.dic l)) : tyOf S (.obj i) = some "dict" := by simp [tyOf, h]
theorem sx1 : subX "NoHouse" "HouseError" = some true := by decide +kernel
theorem sx2 : subX "NoPerson" "HouseError" = some true := by decide +kernel
theorem sx3 : subX "NoWire" "HouseError" = some true := by decide +kernel
theorem sx4 : subX "NoSpot" "HouseError" = some true := by decide +kernel
theorem sx5 : subX "NoHouse" "NoHouse" = some true := by decide +kernel
theorem sx6 : subX "BadLog" "NoHouse" = some false := by decide +kernel
theorem sx7 : subX "BadLog" "BadLog" = some true := by decide +kernel
theorem sx8 : subX "NoInputs" "NoInputs" = some true := by decide +kernel
theorem sx9 : subX "NoPerson" "NoPerson" = some true := by decide +kernel
def itC (d : D) (S : AH) : Prop := match d with
  | .obj i => (∃ l, S[i]? = some (.lst l)) ∨ (∃ l, S[i]? = some (.dic l))
  | _ => True
theorem itC.ext {d : D} {A S S'} (h : itC d S) (hx : Ext A S S') (hA : ∀ i, i < S.length → ¬ A i) : itC d S' := by
  cases d <;> try trivial
  rcases h with ⟨l, h⟩ | ⟨l, h⟩
  · exact .inl ⟨l, hx.get _ _ (hA _ (get_lt h)) h⟩
  · exact .inr ⟨l, hx.get _ _ (hA _ (get_lt h)) h⟩
def BadIt (d : D) : Prop := ∀ (h : Hou) (n : Nat), HG n h → n ≤ 29 → ∀ (S : AH) (Q : D → AH → Prop) (E : Xn → AH → Prop) (o a b : Nat) (hs ds : List D), Lv o a b (hs ++ [h.d]) ds S → itC d S → (∀ S', Ext E0 S S' → Q (.bl false) S') → wp (F_goes_on [.obj o, d] S) Q E
section
variable {S : AH} {Q : D → AH → Prop} {E : Xn → AH → Prop}
theorem bad_len {z : Str} {l : List D} {k : Int} (hz1 : tab_MANY.lookup z = some k) (hk : ((l.length + 1 : Nat) : Int) ≠ k) : BadIt (.tup (.str z :: l)) := fun h n g hn S Q E o a b hs ds L hc q => goes_len hz1 hk (q S .refl)
theorem bad_word {z : Str} {l : List D} (hz1 : tab_MANY.lookup z = none) : BadIt (.tup (.str z :: l)) := fun h n g hn S Q E o a b hs ds L hc q => goes_word hz1 (q S .refl)
theorem bad_tup0 : BadIt (.tup []) := fun h n g hn S Q E o a b hs ds L hc q => goes_tup0 (q S .refl)
theorem bad_ty {d : D} {t : String} (h : ∀ S, itC d S → tyOf S d = some t) (ht : kitB t "tuple" = some false) : BadIt d := fun _ n g hn S Q E o a b hs ds L hc q => goes_ty (h S hc) ht (q S .refl)
theorem bad_obj {i : Nat} : BadIt (.obj i) := fun _ n g hn S Q E o a b hs ds L hc q => by
  rcases hc with ⟨l, h⟩ | ⟨l, h⟩
  · exact goes_ty (ty_lst h) k_lt (q S .refl)
  · exact goes_ty (ty_dic h) k_dt (q S .refl)
theorem bad_first {d : D} {l : List D} {t : String} (h : ∀ S, tyOf S d = some t) (ht : kitB t "str" = some false) : BadIt (.tup (d :: l)) := fun _ n g hn S Q E o a b hs ds L hc q => goes_first h ht (q S .refl)
theorem bad_per9 {l : List D} (hl : l.length = 2) : BadIt (.tup (.str "put" :: .int 9 :: l)) := fun h n g hn S Q E o a b hs ds L hc q => by
  refine goes_no (x := ⟨"NoPerson", none⟩) ⟨"put", _, 4, rfl, mk_put, by simp [hl]⟩ L sx2 (fun S Q E q => ?_) q
  have hpl := g.pl
  unfold F_edited b_edited
  simp_arith []
  refine need_p_no (by omega) ?_
  exact q S .refl
theorem bad_wire99 : BadIt (.tup [.str "room", .int 99, .int 1]) := fun h n g hn S Q E o a b hs ds L hc q => by
  refine goes_no (x := ⟨"NoWire", none⟩) ⟨"room", _, 3, rfl, mk_room, by simp⟩ L sx3 (fun S Q E q => ?_) q
  have hwl := g.wl
  unfold F_edited b_edited
  simp_arith []
  refine need_w_no (by omega) ?_
  exact q S .refl
theorem Hou.get0 {n : Nat} {h : Hou} (g : HG n h) : ∃ p, h.pers[0]? = some p := ⟨h.pers[0]'(by have := g.pl; omega), List.getElem?_eq_getElem _⟩
theorem bad_room : BadIt (.tup [.str "room", .int 0, .int 10]) := fun h n g hn S Q E o a b hs ds L hc q => by
  cases hw : h.wires[0]? with
  | none =>
    refine goes_no (x := ⟨"NoWire", none⟩) ⟨"room", _, 3, rfl, mk_room, by simp⟩ L sx3 (fun S Q E q => ?_) q
    have hwl : h.wires.length = 0 := by
      have := List.getElem?_eq_none_iff.mp hw
      omega
    unfold F_edited b_edited
    simp_arith []
    refine need_w_no (by rw [hwl]; omega) ?_
    exact q S .refl
  | some x =>
    refine goes_no (x := ⟨"NoHouse", none⟩) ⟨"room", _, 3, rfl, mk_room, by simp⟩ L sx1 (fun S Q E q => ?_) q
    have hlt := (List.getElem?_eq_some_iff.mp hw).1
    have gg := (g.good (by omega)).form
    have hpl := g.pl
    have hwl := g.wl
    have hno : Res F_is_wire [Wir.d { x with room := 10 }, .int h.pers.length] false := fun S Q E k => by
      obtain ⟨h1, h2, h3, h4, h5⟩ := gg.wires x (List.mem_of_getElem? hw)
      unfold F_is_wire b_is_wire Wir.d
      simp_arith []
      refine is_name_str h1.2 fun S1 hx => ?_
      rw [h1.1]
      simp_arith [h2.1, h2.2, h3.1, h3.2, h4]
      exact k S1 hx
    have hR : Res F_is_house [.tup [.int h.m, .tup ((h.wires.map Wir.d).set 0 (Wir.d { x with room := 10 })), .tup (h.pers.map Per.d)]] false := by
      refine house_no ?_
      have := form_res (m := h.m) (wl := (h.wires.map fun w => (w.d, true)).set 0 (Wir.d { x with room := 10 }, false)) (pl := h.pers.map fun p => (p.d, true)) gg.m (by simp; omega) (by simp; omega) (fun y hy => ?_) fun y hy => ?_
      · have e1 : (h.pers.map fun p => (p.d, true)).map (·.1) = h.pers.map Per.d := by rw [List.map_map]; rfl
        have e2 : ((h.wires.map fun w => (w.d, true)).set 0 (Wir.d { x with room := 10 }, false)).map (·.1) = (h.wires.map Wir.d).set 0 (Wir.d { x with room := 10 }) := by rw [List.map_set, List.map_map]; rfl
        have e3 : (((h.wires.map fun w => (w.d, true)).set 0 (Wir.d { x with room := 10 }, false)).all (·.2)) = false := by
          rw [List.all_eq_false]
          exact ⟨(Wir.d { x with room := 10 }, false), List.mem_set (by simpa using hlt) _, by simp⟩
        rw [e1, e2, e3, Bool.false_and] at this
        exact this
      · rcases List.mem_or_eq_of_mem_set hy with hy | rfl
        · obtain ⟨p, hp, rfl⟩ := List.mem_map.mp hy
          have := wire_yes (gg.wires p hp)
          simpa using this
        · simpa using hno
      · obtain ⟨p, hp, rfl⟩ := List.mem_map.mp hy
        have := person_yes (gg.pers p hp)
        simpa using this
    exact ed_room (w := 0) hw hR (fun z => by cases z) fun _ => q
theorem tot_le {n : Nat} {h : Hou} {k : Nat} {p : Per} (g : HG n h) (hn : n ≤ 29) (hp : h.pers[k]? = some p) : hLen p.helps + (alls p.body).length ≤ 500 := by
  obtain ⟨pg, pl⟩ := g.pers k p hp
  have b3 := sg_len pg.body
  rcases pg.helps with e | ⟨s1, s2, e, h1, h2⟩
  · rw [e]; simp [hLen]; omega
  · have := h1.len; have := h2.len
    rw [e]; simp [hLen, alls]; omega
theorem bad_drop : BadIt (.tup [.str "drop", .int 0, .int 9999]) := fun h n g hn S Q E o a b hs ds L hc q => by
  refine goes_no (x := ⟨"NoSpot", none⟩) ⟨"drop", _, 3, rfl, mk_drop, by simp⟩ L sx4 (fun S Q E q => ?_) q
  obtain ⟨p, hp⟩ := Hou.get0 g
  have hpl := g.pl
  have htot := tot_le g hn hp
  obtain ⟨hb, hh, hhl, hz⟩ := (g.pers 0 p hp).1.blk (Nat.le_trans (g.pers 0 p hp).2 (by omega))
  have hix : ∀ S, ixO (.tup (h.pers.map Per.d)) (.int 0) S = some (p.d, S) := fun S => by
    have : ixO (.tup (h.pers.map Per.d)) (.int ((0 : Nat) : Int)) S = some (p.d, S) := by rw [ix_tup, List.getElem?_map, hp]; rfl
    exact this
  have hbl := blocks_len p
  unfold F_edited b_edited
  simp_arith []
  refine need_p (k := 0) (by omega) ?_
  rw [hou_d]
  simp_arith [hix]
  refine spots_ hhl hz fun i S1 hx1 hl1 => ?_
  simp_arith [len_obj hl1]
  rw [decide_eq_false (by rw [List.length_map, hbl]; omega)]
  simp_arith []
  exact q S1 hx1
theorem bad_st {b : Bool} {st : D} (hst : ∀ m w hp, Res F_is_statement [st, .int m, .int w, .int hp] false) : BadIt (.tup [.str (edS b), .int 0, .int 0, st]) := fun h n g hn S Q E o a b' hs ds L hc q => by
  obtain ⟨p, hp⟩ := Hou.get0 g
  obtain ⟨pg, pl⟩ := g.pers 0 p hp
  have hpl := g.pl
  have hform : form4 (.tup [.str (edS b), .int 0, .int 0, st]) := ⟨edS b, _, 4, rfl, by cases b <;> simp only [edS, if_true, Bool.false_eq_true, if_false] <;> first | exact mk_put | exact mk_change, by simp⟩
  by_cases htot : b = true ∨ 1 ≤ hLen p.helps + (alls p.body).length
  · refine goes_no (x := ⟨"NoHouse", none⟩) hform L sx1 (fun S Q E q => ?_) q
    have hno := per_no g.m pg (by omega) hst htot
    have hR := house_per g hn hno (k := 0) (by omega)
    refine ed_core (k := 0) (at_ := 0) (b := b) (st := st) pg (by omega) (by omega) hp (fun _ _ _ => nh0) nh0 ?_ hR (fun z => by cases z) fun _ => q
    rcases htot with rfl | h1
    · simp; omega
    · split <;> omega
  · have hb : b = false := by cases b with
      | true => exact absurd (.inl rfl) htot
      | false => rfl
    subst hb
    refine goes_no (x := ⟨"NoSpot", none⟩) hform L sx4 (fun S Q E q => ?_) q
    obtain ⟨hb, hh, hhl, hz⟩ := pg.blk (Nat.le_trans pl (by omega))
    have hix : ∀ S, ixO (.tup (h.pers.map Per.d)) (.int 0) S = some (p.d, S) := fun S => by
      have : ixO (.tup (h.pers.map Per.d)) (.int ((0 : Nat) : Int)) S = some (p.d, S) := by rw [ix_tup, List.getElem?_map, hp]; rfl
      exact this
    have hbl := blocks_len p
    unfold F_edited b_edited
    simp only [edS, Bool.false_eq_true, if_false]
    simp_arith []
    refine need_p (k := 0) (by omega) ?_
    rw [hou_d]
    simp_arith [hix]
    refine spots_ hhl hz fun i S1 hx1 hl1 => ?_
    simp_arith [len_obj hl1]
    rw [decide_eq_false (by rw [List.length_map, hbl]; omega)]
    simp_arith []
    exact q S1 hx1
/-! ### from_log -/
def runE : Hou → List Ent → Hou
  | h, [] => h
  | h, e :: r => runE (e.ap h) r
def okE : Hou → List Ent → Prop
  | _, [] => True
  | h, e :: r => e.ok h ∧ okE (e.ap h) r
theorem runE_app : ∀ (a b : List Ent) (h : Hou), runE h (a ++ b) = runE (runE h a) b
  | [], b, h => rfl
  | e :: a, b, h => runE_app a b (e.ap h)
theorem okE_app : ∀ (a b : List Ent) (h : Hou), okE h (a ++ b) ↔ okE h a ∧ okE (runE h a) b
  | [], b, h => by simp [okE, runE]
  | e :: a, b, h => by simp only [List.cons_append, okE, runE, okE_app a b (e.ap h), and_assoc]
theorem HG.run : ∀ (es : List Ent) (h : Hou) (n : Nat), HG n h → okE h es → HG (n + es.length) (runE h es)
  | [], h, n, g, _ => g
  | e :: r, h, n, g, ho => by
    have := HG.run r (e.ap h) (n + 1) (g.ap ho.1) ho.2
    rw [List.length_cons, show n + (r.length + 1) = n + 1 + r.length by omega]
    exact this
theorem okE_get {h : Hou} {es : List Ent} (ho : okE h es) {k : Nat} {e : Ent} (hk : es[k]? = some e) : e.ok (runE h (es.take k)) ∧ runE h (es.take (k + 1)) = e.ap (runE h (es.take k)) ∧ okE h (es.take k) := by
  have h1 : es = es.take k ++ e :: es.drop (k + 1) := by
    obtain ⟨hlt, he⟩ := List.getElem?_eq_some_iff.mp hk
    rw [← he, List.getElem_cons_drop, List.take_append_drop]
  have h2 := ho
  rw [h1, okE_app] at h2
  refine ⟨h2.2.1, ?_, h2.1⟩
  rw [List.take_add_one, hk, runE_app]
  rfl
theorem enum_obj {i : Nat} {l : List D} {S : AH} (h : S[i]? = some (.lst l)) : enumIt [.obj i] S = some ⟨enumL 0 l, lstG i l⟩ := by
  simp [enumIt, lstIt, h]; rfl
theorem ent_form (e : Ent) : form4 e.d := by
  cases e with
  | put k s v => exact ⟨"put", _, 4, rfl, mk_put, by simp⟩
  | room w r => exact ⟨"room", _, 3, rfl, mk_room, by simp⟩
theorem from_log {h : Hou} {es : List Ent} {tail : List D} {L : Nat} (g : HG 18 h) (ho : okE h es) (hl : es.length ≤ 5) (hL : S[L]? = some (.lst (es.map Ent.d ++ tail))) (hb : tail = [] ∨ ∃ bad rest, tail = bad :: rest ∧ BadIt bad ∧ itC bad S)
    (q1 : tail = [] → ∀ S' o a b hs ds, Lv o a b (hs ++ [(runE h es).d]) ds S' → Ext E0 S S' → Q (.obj o) S') (q2 : tail ≠ [] → ∀ S', Ext E0 S S' → E ⟨"BadLog", some [("at", .int (es.length : Nat))]⟩ S') : wp (F_from_log [h.d, .obj L] S) Q E := by
  unfold F_from_log b_from_log
  have hLl := get_lt hL
  simp_arith []
  refine live_init (g.good (by omega)) fun S1 a b ha hb' L1 hx1 => ?_
  have hL1 := hx1.get _ _ (fun z => z) hL
  simp_arith [ty_lst hL1, enum_obj hL1]
  refine wp_for (fun k env S2 => ∃ x3 x4 : Option D, env = [some h.d, some (.obj L), some (.obj S.length), x3, x4] ∧ k ≤ es.length ∧ Ext E0 S S2 ∧ ∃ hs ds, Lv S.length a b (hs ++ [(runE h (es.take k)).d]) ds S2 ∧ hs.length = k ∧ ds.length = k) ⟨_, _, rfl, Nat.zero_le _, hx1, [], [], L1, rfl, rfl⟩ ?_ ?_
  · rintro k d env S2 hk ⟨x3, x4, rfl, hkl, hx2, hs, ds, L2, hh, hd⟩
    have hL2 := hx2.get _ _ (fun z => z) hL
    refine ⟨lstG_ok hL2, ?_⟩
    obtain ⟨it, hit, rfl⟩ := enumL_get hk
    rw [Nat.zero_add]
    by_cases hke : k < es.length
    · have hget : es[k]? = some es[k] := List.getElem?_eq_getElem hke
      rw [List.getElem?_append_left (by simpa using hke), List.getElem?_map, hget] at hit
      simp only [Option.map_some, Option.some.injEq] at hit
      subst hit
      obtain ⟨e1, e2, e3⟩ := okE_get ho hget
      have gk := HG.run (es.take k) h 18 g e3
      rw [List.length_take] at gk
      simp_arith []
      refine goes_ok (d' := (runE h (es.take (k + 1))).d) (ent_form _) L2 (by omega) (by omega) (fun S Q E q => ?_) fun S3 L3 hx3 => ?_
      · rw [e2] at q
        exact edited_ok gk (by omega) e1 q
      · try simp_arith []
        refine ⟨_, _, rfl, by omega, (hx2.e0 (A := isL S.length a b)).trans hx3 |>.wide (fun i hi hz => by rcases hz with h | h | h <;> omega), hs ++ [(runE h (es.take k)).d], ds ++ [es[k].d], L3, by simp [hh], by simp [hd]⟩
    · have hke : k = es.length := by omega
      subst hke
      rw [List.getElem?_append_right (by simp), List.length_map, Nat.sub_self] at hit
      rcases hb with rfl | ⟨bad, rest, rfl, hbad, hc⟩
      · simp at hit
      · simp at hit
        subst hit
        rw [List.take_length] at L2
        simp_arith []
        refine hbad (runE h es) _ (HG.run es h 18 g ho) (by omega) S2 _ _ _ _ _ _ _ L2 (hc.ext hx2 fun _ _ z => z) fun S3 hx3 => ?_
        simp_arith []
        exact q2 (by simp) S3 (hx2.trans hx3)
  · rintro env S2 ⟨x3, x4, rfl, hkl, hx2, hs, ds, L2, hh, hd⟩
    have hL2 := hx2.get _ _ (fun z => z) hL
    refine ⟨lstG_ok hL2, ?_⟩
    rw [enumL_length, List.length_append, List.length_map] at hkl L2
    have ht : tail = [] := by cases tail with
      | nil => rfl
      | cons x r => simp at hkl; omega
    subst ht
    rw [List.length_nil, Nat.add_zero, List.take_length] at L2
    simp_arith []
    exact q1 rfl S2 _ _ _ _ _ L2 hx2
/-- what is no list -/
theorem from_log_no {h : Hou} {d : D} {t : String} (g : HG 18 h) (hd : ∀ S', Ext E0 S S' → tyOf S' d = some t) (ht : kitB t "list" = some false) (q : ∀ S', Ext E0 S S' → E ⟨"BadLog", some [("at", .int (-1))]⟩ S') : wp (F_from_log [h.d, d] S) Q E := by
  unfold F_from_log b_from_log
  simp_arith []
  refine live_init (g.good (by omega)) fun S1 a b ha hb' L1 hx1 => ?_
  simp_arith [hd S1 hx1, ht]
  exact q S1 hx1
theorem from_log_nohouse {d x : D} (h : Res F_is_house [d] false) (q : ∀ S', Ext E0 S S' → E ⟨"NoHouse", none⟩ S') : wp (F_from_log [d, x] S) Q E := by
  unfold F_from_log b_from_log
  simp_arith []
  refine live_init_no h fun S1 hx1 => ?_
  exact q S1 (Ext.app.trans hx1)
/-! ### outcomes -/
theorem cl_a {QF : Fl → AH → Prop} {env : En} {i : Option Nat} {fs : Xn → Es} {r : List Cl} {l : Option (List (Str × D))} : wp (clE subX (("NoHouse", i, fs) :: r) ⟨"BadLog", l⟩ env S) QF E = wp (clE subX r ⟨"BadLog", l⟩ env S) QF E := wp_cl0 sx6
theorem cl_b {QF : Fl → AH → Prop} {env : En} {i : Option Nat} {fs : Xn → Es} {r : List Cl} {l : Option (List (Str × D))} : wp (clE subX (("BadLog", i, fs) :: r) ⟨"BadLog", l⟩ env S) QF E = wp (fs ⟨"BadLog", l⟩ (wipeO i env) S) (goneQ i QF) NE := wp_cl1 sx7
theorem cl_c {QF : Fl → AH → Prop} {env : En} {i : Option Nat} {fs : Xn → Es} {r : List Cl} {l : Option (List (Str × D))} : wp (clE subX (("NoHouse", i, fs) :: r) ⟨"NoHouse", l⟩ env S) QF E = wp (fs ⟨"NoHouse", l⟩ (wipeO i env) S) (goneQ i QF) NE := wp_cl1 sx5
theorem cl_d {QF : Fl → AH → Prop} {env : En} {i : Option Nat} {fs : Xn → Es} {r : List Cl} {l : Option (List (Str × D))} : wp (clE subX (("NoInputs", i, fs) :: r) ⟨"NoInputs", l⟩ env S) QF E = wp (fs ⟨"NoInputs", l⟩ (wipeO i env) S) (goneQ i QF) NE := wp_cl1 sx8
theorem cl_e {QF : Fl → AH → Prop} {env : En} {i : Option Nat} {fs : Xn → Es} {r : List Cl} {l : Option (List (Str × D))} : wp (clE subX (("NoPerson", i, fs) :: r) ⟨"NoPerson", l⟩ env S) QF E = wp (fs ⟨"NoPerson", l⟩ (wipeO i env) S) (goneQ i QF) NE := wp_cl1 sx9
theorem outcome_now {h : Hou} {es : List Ent} {L : Nat} (g : HG 18 h) (ho : okE h es) (hl : es.length ≤ 5) (hL : S[L]? = some (.lst (es.map Ent.d))) (q : ∀ i S', S.length ≤ i → S'[i]? = some (.lst [.str "now", (runE h es).d]) → Ext E0 S S' → Q (.obj i) S') : wp (F__law_outcome [h.d, .obj L] S) Q E := by
  unfold F__law_outcome b__law_outcome
  simp_arith []
  refine from_log (tail := []) g ho hl (by simpa using hL) (.inl rfl) (fun _ S1 o a b hs ds L1 hx1 => ?_) fun z => absurd rfl z
  simp_arith [lv_now L1]
  unfold F_Live_now b_Live_now
  simp_arith [lv_h L1, ix_last L1.hs]
  exact q S1.length _ hx1.len (by simp) hx1.appT
theorem outcome_at {h : Hou} {es : List Ent} {tail : List D} {L : Nat} (g : HG 18 h) (ho : okE h es) (hl : es.length ≤ 5) (hL : S[L]? = some (.lst (es.map Ent.d ++ tail))) (hb : ∃ bad rest, tail = bad :: rest ∧ BadIt bad ∧ itC bad S) (q : ∀ i S', S.length ≤ i → S'[i]? = some (.lst [.str "at", .int (es.length : Nat)]) → Ext E0 S S' → Q (.obj i) S') : wp (F__law_outcome [h.d, .obj L] S) Q E := by
  have hne : tail ≠ [] := by obtain ⟨_, _, rfl, _⟩ := hb; simp
  unfold F__law_outcome b__law_outcome
  simp_arith []
  refine from_log g ho hl hL (.inr hb) (fun z => absurd z hne) fun _ S1 hx1 => ?_
  simp_arith [cl_a, cl_b, wipeO]
  rw [suAt_ok (by simp)]
  exact q S1.length _ hx1.len (by simp) hx1.appT
theorem outcome_no {h : Hou} {d : D} {t : String} (g : HG 18 h) (hd : ∀ S', Ext E0 S S' → tyOf S' d = some t) (ht : kitB t "list" = some false) (q : ∀ i S', S.length ≤ i → S'[i]? = some (.lst [.str "at", .int (-1)]) → Ext E0 S S' → Q (.obj i) S') : wp (F__law_outcome [h.d, d] S) Q E := by
  unfold F__law_outcome b__law_outcome
  simp_arith []
  refine from_log_no g hd ht fun S1 hx1 => ?_
  simp_arith [cl_a, cl_b, wipeO]
  rw [suAt_ok (by simp)]
  exact q S1.length _ hx1.len (by simp) hx1.appT
theorem outcome_house {d x : D} (h : Res F_is_house [d] false) (q : ∀ i S', S.length ≤ i → S'[i]? = some (.lst [.str "house"]) → Ext E0 S S' → Q (.obj i) S') : wp (F__law_outcome [d, x] S) Q E := by
  unfold F__law_outcome b__law_outcome
  simp_arith []
  refine from_log_nohouse h fun S1 hx1 => ?_
  simp_arith [cl_c, wipeO, goneQ_rt]
  exact q S1.length _ hx1.len (by simp) hx1.appT
end

set_option Elab.async false
set_option linter.all false
set_option maxRecDepth 100000
open PySem PySem.Spec PyProof.Rows L2 Y Z
/-! ### kept -/
inductive PD : Nat → D → Prop
  | int {n i} : PD (n + 1) (.int i)
  | str {n s} : PD (n + 1) (.str s)
  | tup {n l} : (∀ d ∈ l, PD n d) → l.length ≤ 1000 → PD (n + 1) (.tup l)
theorem PD.mono : ∀ {n n' : Nat} {d : D}, PD n d → n ≤ n' → PD n' d
  | _, 0, _, .int, h => by omega
  | _, 0, _, .str, h => by omega
  | _, 0, _, .tup _ _, h => by omega
  | _, n' + 1, _, .int, h => .int
  | _, n' + 1, _, .str, h => .str
  | _, n' + 1, _, .tup a b, h => .tup (fun d hd => (a d hd).mono (by omega)) b
theorem ex_pd : ∀ e : Ex, PD (e.ht + 1) e.d
  | .num i => .tup (fun d hd => by simp at hd; rcases hd with rfl | rfl; exact .str; exact .int) (by simp)
  | .nam z => .tup (fun d hd => by simp at hd; rcases hd with rfl | rfl <;> exact .str) (by simp)
  | .neg e => .tup (fun d hd => by simp at hd; rcases hd with rfl | rfl; exact .str; exact ex_pd e) (by simp)
  | .bin s a b => .tup (fun d hd => by
      simp at hd
      rcases hd with rfl | rfl | rfl
      · exact .str
      · exact (ex_pd a).mono (by simp [Ex.ht]; omega)
      · exact (ex_pd b).mono (by simp [Ex.ht]; omega)) (by simp)
theorem stm_pd {m : Int} {we : List (Int × Int)} {at_ hl : Nat} : ∀ (n : Nat) (s : Stm), s.bh ≤ n → (∀ x ∈ s.all, AG m we at_ hl x) → PD (2 * n + 11) s.d := by
  have ee : ∀ e, EG m e → ∀ k, PD (2 * k + 10) e.d := fun e h k => (ex_pd e).mono (by have := h.1.2.1; omega)
  intro n
  induction n with
  | zero =>
    intro s hs h
    have h0 := h s (self_all s)
    cases s with
    | say e => exact .tup (fun d hd => by simp at hd; rcases hd with rfl | rfl; exact .str; exact ee e h0 0) (by simp)
    | set x e => exact .tup (fun d hd => by simp at hd; rcases hd with rfl | rfl | rfl; exact .str; exact .str; exact ee e h0.2 0) (by simp)
    | do_ i => exact .tup (fun d hd => by simp at hd; rcases hd with rfl | rfl; exact .str; exact .int) (by simp)
    | send w e => exact .tup (fun d hd => by simp at hd; rcases hd with rfl | rfl | rfl; exact .str; exact .int; exact ee e h0.2 0) (by simp)
    | take w x => exact .tup (fun d hd => by simp at hd; rcases hd with rfl | rfl | rfl; exact .str; exact .int; exact .str) (by simp)
    | ite e a b => have := bhs1 a; simp [Stm.bh] at hs; omega
    | rnd e a => have := bhs1 a; simp [Stm.bh] at hs; omega
  | succ n ih =>
    intro s hs h
    have h0 := h s (self_all s)
    have blk : ∀ l ∈ s.subs, PD (2 * (n + 1) + 10) (.tup (blkD l)) := fun l hl => by
      have hb := bh_sub hl
      have hlen := ag_sub h0 l hl
      rw [blkD_map]
      refine .tup (n := 2 * n + 11) (fun d hd => ?_) (by simp; omega)
      obtain ⟨t, ht, rfl⟩ := List.mem_map.mp hd
      have := bhs_mem ht
      refine ih t (by omega) fun x hx => h x ?_
      exact mem_alls_sub hl x (mem_all_alls ht x hx)
    cases s with
    | say e => exact .tup (fun d hd => by simp at hd; rcases hd with rfl | rfl; exact .str; exact ee e h0 _) (by simp)
    | set x e => exact .tup (fun d hd => by simp at hd; rcases hd with rfl | rfl | rfl; exact .str; exact .str; exact ee e h0.2 _) (by simp)
    | do_ i => exact .tup (fun d hd => by simp at hd; rcases hd with rfl | rfl; exact .str; exact .int) (by simp)
    | send w e => exact .tup (fun d hd => by simp at hd; rcases hd with rfl | rfl | rfl; exact .str; exact .int; exact ee e h0.2 _) (by simp)
    | take w x => exact .tup (fun d hd => by simp at hd; rcases hd with rfl | rfl | rfl; exact .str; exact .int; exact .str) (by simp)
    | ite e a b => exact .tup (fun d hd => by simp at hd; rcases hd with rfl | rfl | rfl | rfl; exact .str; exact ee e h0.1 _; exact blk a (by simp [Stm.subs]); exact blk b (by simp [Stm.subs])) (by simp)
    | rnd e a => exact .tup (fun d hd => by simp at hd; rcases hd with rfl | rfl | rfl; exact .str; exact ee e h0.1 _; exact blk a (by simp [Stm.subs])) (by simp)
theorem blk_pd {m : Int} {we : List (Int × Int)} {at_ hl H N L : Nat} {W : Int} {l : List Stm} (h : ∀ s ∈ l, SG m we at_ hl H N L W s) (hz : l.length ≤ 1000) (hH : H ≤ 2) : PD 16 (bD l) :=
  .tup (fun d hd => by
    obtain ⟨s, hs, rfl⟩ := List.mem_map.mp hd
    have := h s hs
    exact stm_pd 2 s (by have := this.bh; omega) this.all) (by simpa using hz)
theorem hou_pd {n : Nat} {h : Hou} (g : HG n h) (hn : n ≤ 30) : PD 22 h.d := by
  have hpl := g.pl
  have hwl := g.wl
  refine .tup (fun d hd => ?_) (by simp)
  simp at hd
  rcases hd with rfl | rfl | rfl
  · exact .int
  · refine .tup (fun d hd => ?_) (by simp; omega)
    obtain ⟨w, hw, rfl⟩ := List.mem_map.mp hd
    exact .tup (fun d hd => by simp at hd; rcases hd with rfl | rfl | rfl | rfl; exact .str; exact .int; exact .int; exact .int) (by simp)
  · refine .tup (fun d hd => ?_) (by simp; omega)
    obtain ⟨p, hp, rfl⟩ := List.mem_map.mp hd
    obtain ⟨k, hk⟩ := List.mem_iff_getElem?.mp hp
    obtain ⟨pg, pl⟩ := g.pers k p hk
    have hhl := pg.hlen
    refine .tup (fun d hd => ?_) (by simp)
    simp at hd
    rcases hd with rfl | rfl | rfl | rfl
    · exact .str
    · obtain ⟨j, hj, e⟩ := pg.ins
      refine .tup (fun d hd => ?_) (by rw [e, List.length_map, List.length_take]; omega)
      obtain ⟨z, hz, rfl⟩ := List.mem_map.mp hd
      exact .str
    · refine .tup (fun d hd => ?_) (by simp; omega)
      obtain ⟨x, hx, rfl⟩ := List.mem_map.mp hd
      obtain ⟨a1, a2, a3⟩ := pg.hg x hx
      refine .tup (fun d hd => ?_) (by simp)
      simp at hd
      rcases hd with rfl | rfl
      · exact .str
      · exact (blk_pd a3 (by omega) (by omega)).mono (by omega)
    · exact (blk_pd pg.body (by omega) (by omega)).mono (by omega)
theorem rep_sw : ∀ k : Nat, List.map D.bl (List.replicate k true) ++ [D.bl true] = D.bl true :: List.map D.bl (List.replicate k true)
  | 0 => rfl
  | k + 1 => by rw [List.replicate_succ, List.map_cons, List.cons_append, rep_sw k]
theorem ne_bls {a b : Bool} {S : AH} : neO (.bl a) (.bl b) S = some (.bl (!(a == b)), S) := rfl
theorem ty_int' {S i} : tyOf S (.int i) = some "int" := rfl
theorem kept : ∀ (n : Nat) (d : D) (S : AH) (Q : D → AH → Prop) (E : Xn → AH → Prop), PD n d → (∀ S', Ext E0 S S' → Q (.bl true) S') → wp (F__law_kept n [d, d] S) Q E
  | 0, d, S, Q, E, hd, h => by cases hd
  | n + 1, _, S, Q, E, .int, h => by
    rw [F__law_kept]
    unfold b__law_kept
    simp_arith [show ∀ S i, isNO (.int i) .non S = some (D.bl false, S) from fun _ _ => rfl]
    exact h S .refl
  | n + 1, _, S, Q, E, .str, h => by
    rw [F__law_kept]
    unfold b__law_kept
    simp_arith [show ∀ S i, isNO (.str i) .non S = some (D.bl false, S) from fun _ _ => rfl]
    exact h S .refl
  | n + 1, .tup l, S, Q, E, .tup hl hz, h => by
    have hbig := sizeLine_big
    rw [F__law_kept]
    unfold b__law_kept
    simp_arith [ne_bls, beq_self_eq_true, len_tup, rng1_nat (show l.length < 1000000 by omega)]
    refine wp_lc (fun k acc S2 => acc = (List.replicate k true).map D.bl ∧ Ext E0 S S2) (acc := []) (by simp) ⟨by simp, .app⟩ (fun k d acc S2 hd hj ⟨hf, hx⟩ => ⟨rfl, ?_⟩) (fun acc S2 hj ⟨hf, hx⟩ => ⟨rfl, ?_⟩)
    · obtain ⟨hkl, rfl⟩ := rngL_get hd
      have hget : l[k]? = some l[k] := List.getElem?_eq_getElem hkl
      have e0 : ixO (.tup l) (.int (k : Nat)) S2 = some (l[k], S2) := by rw [ix_tup, hget]; rfl
      simp_arith [tYes', e0]
      refine kept n l[k] S2 _ _ (hl _ (List.getElem_mem _)) fun S3 hx3 => ?_
      refine ⟨hx3.get _ _ (fun z => z) hj, by rw [hf]; simp; omega, ?_, (hx.trans hx3).setT (.inr (Nat.le_refl _))⟩
      rw [hf]; exact rep_sw k
    · rw [rng_len] at hf
      rw [all_bls (bs := List.replicate l.length true) (by rw [hj, hf]), optP_some]
      have : (List.replicate l.length true).all id = true := by simp
      rw [this]
      exact h S2 hx
/-- two lists that tell the same -/
theorem kept2 {n i j : Nat} {a b : D} {S : AH} {Q : D → AH → Prop} {E : Xn → AH → Prop} (hi : S[i]? = some (.lst [a, b])) (hj : S[j]? = some (.lst [a, b])) (ha : PD n a) (hb : PD n b) (h : ∀ S', Ext E0 S S' → Q (.bl true) S') : wp (F__law_kept (n + 1) [.obj i, .obj j] S) Q E := by
  have hbig := sizeLine_big
  rw [F__law_kept]
  unfold b__law_kept
  simp_arith [ty_lst hi, ty_lst hj, ne_bls, beq_self_eq_true, len_obj hi, len_obj hj, rng1_nat (show 2 < 1000000 by omega)]
  refine wp_lc (fun k acc S2 => acc = (List.replicate k true).map D.bl ∧ Ext E0 S S2) (acc := []) (by simp) ⟨by simp, .app⟩ (fun k d acc S2 hd hjj ⟨hf, hx⟩ => ⟨rfl, ?_⟩) (fun acc S2 hjj ⟨hf, hx⟩ => ⟨rfl, ?_⟩)
  · obtain ⟨hkl, rfl⟩ := rngL_get hd
    have hi2 := hx.get _ _ (fun z => z) hi
    have hj2 := hx.get _ _ (fun z => z) hj
    have hx' : ∃ x, [a, b][k]? = some x ∧ PD n x := by
      match k, hkl with
      | 0, _ => exact ⟨a, rfl, ha⟩
      | 1, _ => exact ⟨b, rfl, hb⟩
    obtain ⟨x, hx1, hx2⟩ := hx'
    have e0 : ixO (.obj i) (.int (k : Nat)) S2 = some (x, S2) := by rw [ix_obj hi2, hx1]; rfl
    have e1 : ixO (.obj j) (.int (k : Nat)) S2 = some (x, S2) := by rw [ix_obj hj2, hx1]; rfl
    simp_arith [tYes', e0, e1]
    refine kept n x S2 _ _ hx2 fun S3 hx3 => ?_
    refine ⟨hx3.get _ _ (fun z => z) hjj, by rw [hf]; simp; omega, ?_, (hx.trans hx3).setT (.inr (Nat.le_refl _))⟩
    rw [hf]; exact rep_sw k
  · rw [rng_len] at hf
    rw [all_bls (bs := List.replicate 2 true) (by rw [hjj, hf]), optP_some]
    exact h S2 hx

set_option Elab.async false
set_option linter.all false
set_option maxRecDepth 100000
open PySem PySem.Spec PyProof.Rows L2 Y Z
/-- the same, from a state on -/
def RsS (A : Nat → Prop) (S : AH) (F : Fd) (args : List D) (b : Bool) : Prop := ∀ (S1 : AH) (Q : D → AH → Prop) (E : Xn → AH → Prop), Ext A S S1 → (∀ S', Ext E0 S1 S' → Q (.bl b) S') → wp (F args S1) Q E
theorem Res.s {A : Nat → Prop} {S : AH} {F : Fd} {args : List D} {b : Bool} (h : Res F args b) : RsS A S F args b := fun S1 Q E _ q => h S1 Q E q
abbrev zW : Wir := ⟨"zz", 0, 0, 0⟩
section
variable {A : Nat → Prop} {S : AH} {Q : D → AH → Prop} {E : Xn → AH → Prop}
theorem RsS.ext {S' : AH} {F : Fd} {args : List D} {b : Bool} (h : RsS A S F args b) (hx : Ext A S S') : RsS A S' F args b := fun S1 Q E h1 q => h S1 Q E (hx.trans h1) q
theorem house_noS {d : D} (h : RsS A S F_has_form [d] false) : RsS A S F_is_house [d] false := fun S1 Q E hx k => by
  unfold F_is_house b_is_house
  simp_arith []
  refine h S1 _ _ hx fun S2 hx2 => ?_
  simp_arith []
  exact k S2 hx2
theorem outcome_houseS {d x : D} (h : RsS A S F_is_house [d] false) (q : ∀ i S', S.length ≤ i → S'[i]? = some (.lst [.str "house"]) → Ext E0 S S' → Q (.obj i) S') : wp (F__law_outcome [d, x] S) Q E := by
  unfold F__law_outcome b__law_outcome
  simp_arith []
  unfold F_from_log b_from_log
  simp_arith []
  unfold F_Live___init__ b_Live___init__
  simp_arith []
  unfold F_need_house b_need_house
  simp_arith []
  refine h _ _ _ .app fun S1 hx => ?_
  simp_arith [cl_c, wipeO, goneQ_rt]
  exact q S1.length _ (by have := hx.len; simp at this; omega) (by simp) ((Ext.app.trans hx).appT)
/-! ### what is no house -/
theorem form_ty {d : D} {t : String} (h : ∀ S1, Ext A S S1 → tyOf S1 d = some t) (ht : kitB t "tuple" = some false) : RsS A S F_has_form [d] false := fun S1 Q E hx k => by
  unfold F_has_form b_has_form
  simp_arith [h S1 hx, ht]
  exact k S1 .refl
theorem form_len {l : List D} (hl : l.length ≠ 3) : RsS A S F_has_form [.tup l] false := fun S1 Q E hx k => by
  have : ((l.length : Nat) : Int) ≠ 3 := by omega
  unfold F_has_form b_has_form
  simp_arith [len_tup, this]
  exact k S1 .refl
theorem form_mod {m : Int} {a b : D} (hm : ¬ (2 ≤ m ∧ m ≤ 16)) : RsS A S F_has_form [.tup [.int m, a, b]] false := fun S1 Q E hx k => by
  unfold F_has_form b_has_form
  simp_arith []
  rw [decide_eq_false hm]
  simp_arith []
  exact k S1 .refl
theorem is_between_ty {d : D} {lo hi : Int} {t : String} (h : tyOf S d = some t) (ht : kitB t "int" = some false ∨ (kitB t "int" = some true ∧ kitB t "bool" = some true)) (q : Q (.bl false) S) : wp (F_is_between [d, .int lo, .int hi] S) Q E := by
  unfold F_is_between b_is_between
  simp_arith []
  unfold F_is_integer b_is_integer
  rcases ht with ht | ⟨h1, h2⟩
  · simp_arith [h, ht]
    exact q
  · simp_arith [h, h1, h2]
    exact q
theorem form_true {a b : D} : RsS A S F_has_form [.tup [.bl true, a, b]] false := fun S1 Q E hx k => by
  unfold F_has_form b_has_form
  simp_arith []
  refine is_between_ty (t := "bool") rfl (.inr ⟨k_bi, k_bb⟩) ?_
  simp_arith []
  exact k S1 .refl
theorem form_pers {m : Int} {a d : D} {t : String} (hm : 2 ≤ m ∧ m ≤ 16) (h : ∀ S1, Ext A S S1 → tyOf S1 d = some t) (ht : kitB t "tuple" = some false) : RsS A S F_has_form [.tup [.int m, a, d]] false := fun S1 Q E hx k => by
  unfold F_has_form b_has_form
  simp_arith [hm.1, hm.2, h S1 hx, ht]
  exact k S1 .refl
theorem form_pers0 {m : Int} {a : D} (hm : 2 ≤ m ∧ m ≤ 16) : RsS A S F_has_form [.tup [.int m, a, .tup []]] false := fun S1 Q E hx k => by
  unfold F_has_form b_has_form
  simp_arith [hm.1, hm.2]
  exact k S1 .refl
theorem form_wires {m : Int} {d : D} {l : List D} {t : String} (hm : 2 ≤ m ∧ m ≤ 16) (hl : 1 ≤ l.length ∧ l.length ≤ 6) (h : ∀ S1, Ext A S S1 → tyOf S1 d = some t) (ht : kitB t "tuple" = some false) : RsS A S F_has_form [.tup [.int m, d, .tup l]] false := fun S1 Q E hx k => by
  unfold F_has_form b_has_form
  simp_arith [hm.1, hm.2, len_tup, h S1 hx, ht]
  refine ch_i (fun hc1 => ?_) fun hc => absurd (of_decide_eq_false hc) (by omega)
  refine ch_i (fun hc => absurd hc (by simp; omega)) fun _ => ?_
  try simp_arith []
  exact k S1 .refl
variable {n : Nat} {h : Hou}
/-- a house with other wires, other persons, one of them bad -/
theorem form_bad {m : Int} {wl pl : List (D × Bool)} (hm : 2 ≤ m ∧ m ≤ 16) (hpl : 1 ≤ pl.length ∧ pl.length ≤ 6) (hwl : wl.length ≤ 12) (hw : ∀ x ∈ wl, Res F_is_wire [x.1, .int pl.length] x.2) (hp : ∀ x ∈ pl, Res F_is_person [x.1, .int m, .int wl.length] x.2) (hno : wl.all (·.2) = false ∨ pl.all (·.2) = false) :
    RsS A S F_has_form [.tup [.int m, .tup (wl.map (·.1)), .tup (pl.map (·.1))]] false := by
  have := form_res hm hpl hwl hw hp
  have e : (wl.all (·.2) && pl.all (·.2)) = false := by rcases hno with h | h <;> rw [h] <;> simp
  rw [e] at this
  exact this.s
theorem pairs1 {X : Type} {φ : X → D} (l : List X) : (l.map fun x => (φ x, true)).map (·.1) = l.map φ := by rw [List.map_map]; rfl
/-- the first person is another thing -/
theorem form_first {p : Per} {ps : List Per} {d : D} (g : HG n h) (hn : n ≤ 29) (hp : h.pers = p :: ps) (hd : Res F_is_person [d, .int h.m, .int h.wires.length] false) : RsS A S F_has_form [.tup [.int h.m, .tup (h.wires.map Wir.d), .tup (d :: ps.map Per.d)]] false := by
  have gg := (g.good (by omega)).form
  have hpl := g.pl
  have hwl := g.wl
  have hps : ps.length + 1 = h.pers.length := by rw [hp]; simp
  have := form_bad (A := A) (S := S) (m := h.m) (wl := h.wires.map fun w => (w.d, true)) (pl := (d, false) :: ps.map fun p => (p.d, true)) gg.m (by simp; omega) (by simp; omega) (fun y hy => ?_) (fun y hy => ?_) (.inr (by simp))
  · rw [pairs1, List.map_cons, pairs1] at this; exact this
  · obtain ⟨w, hw, rfl⟩ := List.mem_map.mp hy
    have := wire_yes (gg.wires w hw)
    rw [← hps] at this
    simpa using this
  · simp only [List.mem_cons] at hy
    rcases hy with rfl | hy
    · simpa using hd
    · obtain ⟨p', hp', rfl⟩ := List.mem_map.mp hy
      have := person_yes (gg.pers p' (by rw [hp]; exact List.mem_cons_of_mem _ hp'))
      simpa using this
/-- a further wire -/
theorem form_wire {d : D} (g : HG n h) (hn : n ≤ 29) (hd : Res F_is_wire [d, .int h.pers.length] false) : RsS A S F_has_form [.tup [.int h.m, .tup (h.wires.map Wir.d ++ [d]), .tup (h.pers.map Per.d)]] false := by
  have gg := (g.good (by omega)).form
  have hpl := g.pl
  have hwl := g.wl
  have := form_bad (A := A) (S := S) (m := h.m) (wl := (h.wires.map fun w => (w.d, true)) ++ [(d, false)]) (pl := h.pers.map fun p => (p.d, true)) gg.m (by simp; omega) (by simp; omega) (fun y hy => ?_) (fun y hy => ?_) (.inl (by simp))
  · rw [pairs1, List.map_append, pairs1] at this; exact this
  · rcases List.mem_append.mp hy with hy | hy
    · obtain ⟨w, hw, rfl⟩ := List.mem_map.mp hy
      have := wire_yes (gg.wires w hw)
      simpa using this
    · simp at hy; subst hy; simpa using hd
  · obtain ⟨p', hp', rfl⟩ := List.mem_map.mp hy
    obtain ⟨k, hk⟩ := List.mem_iff_getElem?.mp hp'
    have hpf : p'.form h.m (h.wires.length + 1 : Nat) := by
      obtain ⟨pg, pl⟩ := g.pers k p' hk
      have pg' : PG h.m ((h.wires ++ [zW]).map Wir.e) k p' := by
        have mono : ∀ {hl H N L W s}, SG h.m (h.wires.map Wir.e) k hl H N L W s → SG h.m ((h.wires ++ [zW]).map Wir.e) k hl H N L W s := fun sg => { sg with
          all := fun x hx => by
            have := sg.all x hx
            have up : ∀ (i : Nat) z, (h.wires.map Wir.e)[i]? = some z → ((h.wires ++ [zW]).map Wir.e)[i]? = some z := fun i z hz => by
              rw [List.map_append, List.getElem?_append_left (List.getElem?_eq_some_iff.mp hz).1]; exact hz
            cases x <;> simp only [AG] at this ⊢ <;> try exact this
            · obtain ⟨⟨i, t, e1, e2⟩, e3⟩ := this
              exact ⟨⟨i, t, e1, up _ _ e2⟩, e3⟩
            · obtain ⟨⟨i, t, e1, e2⟩, e3⟩ := this
              exact ⟨⟨i, t, e1, up _ _ e2⟩, e3⟩ }
        refine ⟨pg.name, pg.ins, ?_, fun s hs => mono (pg.body s hs)⟩
        rcases pg.helps with e | ⟨s1, s2, e, a1, a2⟩
        · exact .inl e
        · exact .inr ⟨s1, s2, e, mono a1, mono a2⟩
      have := (pg'.good g.m (Nat.le_trans pl (by omega))).1
      simpa using this
    have := person_yes hpf
    simpa using this
/-- a person twice -/
theorem house_twice {p : Per} {ps : List Per} (g : HG n h) (hn : n ≤ 29) (hp : h.pers = p :: ps) : RsS A S F_is_house [.tup [.int h.m, .tup (h.wires.map Wir.d), .tup (h.pers.map Per.d ++ [p.d])]] false := fun S0 Q E hx0 q => by
  have hbig := sizeLine_big
  have gg := (g.good (by omega)).form
  have hpl := g.pl
  have hwl := g.wl
  have hf := form_res (m := h.m) (wl := h.wires.map fun w => (w.d, true)) (pl := (h.pers ++ [p]).map fun p => (p.d, true)) gg.m (by simp; omega) (by simp; omega) (fun y hy => ?_) (fun y hy => ?_)
  · have e1 : ((h.wires.map fun w => (w.d, true)).all (·.2) && ((h.pers ++ [p]).map fun p => (p.d, true)).all (·.2)) = true := by simp
    rw [pairs1, pairs1, e1, List.map_append] at hf
    unfold F_is_house b_is_house
    simp_arith []
    refine hf S0 _ _ fun S1 hx1 => ?_
    simp_arith []
    unfold F_fault_of b_fault_of
    simp_arith [seqIt_tup]
    refine lcX (A := E0) (QD := fun d S2 => wp (F_are_unlike [d] S2) _ _) (fun w => .str w.name) (by omega) (fun z => z) (fun _ _ => rfl) (fun x S2 hs hx2 _ => ?_) fun S2 hx2 hj2 => ?_
    · simp_arith [Wir.d]
      exact Ext.refl
    refine are_unlike (xs := h.wires.map (·.name)) (.inr ⟨_, rfl, by rw [hj2, List.map_map]; rfl⟩) (g.good (by omega)).wn (by simp; omega) fun S3 hx3 => ?_
    simp_arith [seqIt_tup]
    rw [show h.pers.map Per.d ++ [p.d] = (h.pers ++ [p]).map Per.d by simp]
    refine lcX (A := E0) (QD := fun d S2 => wp (F_are_unlike [d] S2) _ _) (fun p => .str p.name) (by simp; omega) (fun z => z) (fun _ _ => rfl) (fun x S4 hs hx4 _ => ?_) fun S4 hx4 hj4 => ?_
    · simp_arith [Per.d]
      exact Ext.refl
    have hlenp : (h.pers ++ [p]).length = h.pers.length + 1 := by simp
    unfold F_are_unlike b_are_unlike
    simp_arith [wp_eDc, seqIt_obj hj4]
    refine dc_go (fun k acc S5 => acc.length ≤ k ∧ (k = (h.pers ++ [p]).length → acc.length < k) ∧ (1 ≤ k → ∃ kv ∈ acc, kv.1 = Sum.inr p.name) ∧ Ext E0 S4 S5) _ (fun k d acc S5 hd hj ⟨hal, hfull, hin, hx5⟩ => ⟨lstG_ok (hx5.get _ _ (fun z => z) hj4), ?_⟩) (fun acc S5 hj ⟨hal, hfull, hin, hx5⟩ => ⟨lstG_ok (hx5.get _ _ (fun z => z) hj4), ?_⟩) _ 0 (by simp) rfl [] _ (by simp) ⟨by simp, by simp, by omega, .app⟩
    · simp only [List.getElem?_map, Option.map_eq_some_iff] at hd
      obtain ⟨x, hd, rfl⟩ := hd
      have hkl := (List.getElem?_eq_some_iff.mp hd).1
      simp_arith [tYes']
      refine ⟨hj, _, rfl, by omega, ?_, ?_, ?_, hx5.setT (.inr (Nat.le_refl _))⟩
      · unfold putD
        split <;> simp <;> omega
      · intro hk
        have hkk : k = h.pers.length := by simp at hk; omega
        subst hkk
        rw [List.getElem?_append_right (Nat.le_refl _), Nat.sub_self] at hd
        simp at hd
        subst hd
        obtain ⟨kv, hkv, hke⟩ := hin (by omega)
        unfold putD
        rw [if_pos (List.any_eq_true.mpr ⟨kv, hkv, decide_eq_true hke⟩)]
        simp; omega
      · intro _
        unfold putD
        by_cases h0 : k = 0
        · subst h0
          have : acc = [] := List.length_eq_zero_iff.mp (by omega)
          subst this
          rw [hp] at hd
          simp at hd
          subst hd
          simp
        · obtain ⟨kv, hkv, hke⟩ := hin (by omega)
          split
          · refine ⟨if kv.1 = Sum.inr x.name then (kv.1, .bl true) else kv, List.mem_map.mpr ⟨kv, hkv, ?_⟩, ?_⟩
            · split <;> simp_all
            · split <;> simp_all
          · exact ⟨kv, List.mem_append_left _ hkv, hke⟩
    · rw [List.length_map] at hfull hal
      have := hfull rfl
      have hlen4 : lenO [.obj S3.length] S5 = some (.int ((h.pers ++ [p]).length : Nat), S5) := by
        rw [len_obj (hx5.get _ _ (fun z => z) hj4), List.length_map]
      simp_arith [len_dic hj (by omega), hlen4]
      rw [decide_eq_false (by omega)]
      simp_arith []
      exact q S5 ((((hx1.trans hx2).trans hx3).trans hx4).trans hx5)
  · obtain ⟨w, hw, rfl⟩ := List.mem_map.mp hy
    obtain ⟨a1, a2, a3, a4⟩ := gg.wires w hw
    have : w.form (h.pers.length + 1 : Nat) := ⟨a1, by omega, by omega, a4⟩
    have := wire_yes this
    simpa using this
  · obtain ⟨p', hp', rfl⟩ := List.mem_map.mp hy
    have hm : p' ∈ h.pers := by
      rcases List.mem_append.mp hp' with hp' | hp'
      · exact hp'
      · simp at hp'; subst hp'; rw [hp]; exact List.mem_cons_self ..
    have := person_yes (gg.pers p' hm)
    simpa using this
end

set_option Elab.async false
set_option linter.all false
set_option maxRecDepth 100000
open PySem PySem.Spec PyProof.Rows L2 Y Z
theorem cut_from1 {x : D} {l : List D} {S : AH} : slO (.tup (x :: l)) (some 1) none S = some (.tup l, S) := by
  show some (D.tup (Y.cutD (x :: l) (some 1) none), S) = _
  have : Y.cutD (x :: l) (some 1) none = l := by
    unfold Y.cutD HT.sIx
    simp
  rw [this]
theorem cut_to1 {x : D} {l : List D} {S : AH} : slO (.tup (x :: l)) none (some 1) S = some (.tup [x], S) := by
  show some (D.tup (Y.cutD (x :: l) none (some 1)), S) = _
  have : Y.cutD (x :: l) none (some 1) = [x] := by
    unfold Y.cutD HT.sIx
    simp
  rw [this]
theorem add_tup {a b : List D} {S : AH} (h : a.length + b.length ≤ 1000) : addO (.tup a) (.tup b) S = some (.tup (a ++ b), S) := by
  have hbig := sizeLine_big
  unfold addO; simp only []; rw [if_pos (by omega)]
section
variable {S : AH} {Q : D → AH → Prop} {E : Xn → AH → Prop} {m w n : Int}
theorem per_len3 {a b c : D} : Res F_is_person [.tup [a, b, c], .int m, .int w] false := fun S Q E q => by
  unfold F_is_person b_is_person
  simp_arith []
  exact q S .refl
theorem per_name {z : Str} {l : List D} (hl : l.length = 3) (hz : goodName z = false) (hz2 : z.length ≤ 8) : Res F_is_person [.tup (.str z :: l), .int m, .int w] false := fun S Q E q => by
  have hbig := sizeLine_big
  have e : ∀ S, lenO [.tup (.str z :: l)] S = some (.int 4, S) := fun S => by rw [len_tup, List.length_cons, hl]; rfl
  unfold F_is_person b_is_person
  simp_arith [e]
  refine is_name_str (by omega) fun S1 hx => ?_
  rw [hz]
  simp_arith []
  exact q S1 hx
theorem per_body {p : Per} {st : D} (pf : p.form m w) (hst : Res F_is_statement [st, .int m, .int w, .int p.helps.length] false) (hz : p.body.length ≤ 100) : Res F_is_person [.tup [.str p.name, .tup (p.ins.map D.str), .tup (p.helps.map helpD), .tup (p.body.map Stm.d ++ [st])], .int m, .int w] false := by
  have insl := pf.insl
  have hl := pf.helpl
  have hB := block_no (m := m) (w := w) (hp := p.helps.length) (xs := (p.body.map fun s => (s.d, true)) ++ [(st, false)]) (fun x hx => by
    rcases List.mem_append.mp hx with hx | hx
    · obtain ⟨s, hs, rfl⟩ := List.mem_map.mp hx
      exact stm_yes (pf.body.ok.ok1 s hs)
    · simp at hx; subst hx; exact hst) (by simp; omega) (by simp)
  rw [List.map_append, pairs1] at hB
  have := person_res (m := m) (w := w) (hs := p.helps.map fun h => (helpD h, true)) pf.name insl pf.ins (by simpa using hl) (fun x hx => by
    obtain ⟨h, hh, rfl⟩ := List.mem_map.mp hx
    rw [List.length_map]
    exact help_res (pf.helps h hh).1 (block_yes (pf.helps h hh).2)) (by rw [List.length_map]; exact hB)
  rw [pairs1, Bool.and_false] at this
  exact this
theorem wire_no {t r : Int} (hn : 1 ≤ n) (h : ¬ (0 ≤ t ∧ t ≤ n - 1) ∨ 0 = t ∨ ¬ (0 ≤ r ∧ r ≤ 9)) : Res F_is_wire [.tup [.str "zz", .int 0, .int t, .int r], .int n] false := fun S Q E q => by
  have hz : nameOk "zz" := name_ok (by decide +kernel)
  unfold F_is_wire b_is_wire
  simp_arith []
  refine is_name_str hz.2 fun S1 hx => ?_
  rw [hz.1]
  simp_arith []
  rw [decide_eq_true (show 0 ≤ n - 1 by omega)]
  simp_arith []
  by_cases h1 : 0 ≤ t ∧ t ≤ n - 1
  · rw [decide_eq_true h1]
    simp_arith []
    by_cases h2 : 0 = t
    · rw [decide_eq_true h2]
      simp_arith []
      exact q S1 hx
    · rw [decide_eq_false h2]
      simp_arith []
      have h3 : ¬ (0 ≤ r ∧ r ≤ 9) := by
        rcases h with h | h | h
        · exact absurd h1 h
        · exact absurd h h2
        · exact h
      rw [decide_eq_false h3]
      exact q S1 hx
  · rw [decide_eq_false h1]
    simp_arith []
    exact q S1 hx
end
/-- something that is no house -/
theorem d_no_house {hd c : Nat} {S : AH} {Q : D → AH → Prop} {E : Xn → AH → Prop} {h : Hou} (g : HG 18 h) (hh : Hand hd c S) (q : ∀ d S', RsS (isH hd) S' F_is_house [d] false → Hand hd c S' → Ext (isH hd) S S' → Q d S') : wp (F__law_no_house [.obj hd, h.d] S) Q E := by
  have hbig := sizeLine_big
  have gg := (g.good (by omega)).form
  have hpl := g.pl
  have hwl := g.wl
  obtain ⟨p, ps, hp⟩ : ∃ p ps, h.pers = p :: ps := by
    cases hq : h.pers with
    | nil => rw [hq] at hpl; simp at hpl
    | cons p ps => exact ⟨p, ps, rfl⟩
  have hm := gg.m
  have pg := g.pers 0 p (by rw [hp]; rfl)
  have pf := gg.pers p (by rw [hp]; exact List.mem_cons_self ..)
  have hpsl : ps.length ≤ 2 := by rw [hp] at hpl; simp at hpl; omega
  have s1 : ∀ S, slO (.tup (h.pers.map Per.d)) none (some 1) S = some (.tup [p.d], S) := fun S => by rw [hp]; exact cut_to1
  have s2 : ∀ S, slO (.tup (h.pers.map Per.d)) (some 1) none S = some (.tup (ps.map Per.d), S) := fun S => by rw [hp]; exact cut_from1
  have s3 : ∀ S, ixO (.tup (h.pers.map Per.d)) (.int 0) S = some (p.d, S) := fun S => by rw [hp]; exact ix0
  have s4 : ∀ S, slO p.d none (some 3) S = some (.tup [.str p.name, .tup (p.ins.map D.str), .tup (p.helps.map helpD)], S) := fun S => rfl
  have s5 : ∀ S, slO p.d (some 1) none S = some (.tup [.tup (p.ins.map D.str), .tup (p.helps.map helpD), bD p.body], S) := fun S => cut_from1
  have s6 : ∀ S, ixO p.d (.int 3) S = some (.tup (p.body.map Stm.d), S) := fun S => ix3
  have s7 : ∀ (a : D) S, addO (.tup [a]) (.tup (ps.map Per.d)) S = some (.tup ([a] ++ ps.map Per.d), S) := fun a S => add_tup (by simp; omega)
  have s8 : ∀ (a : D) S, addO (.tup (p.body.map Stm.d)) (.tup [a]) S = some (.tup (p.body.map Stm.d ++ [a]), S) := fun a S => add_tup (by have := pg.2; simp; omega)
  have s9 : ∀ (a : D) S, addO (.tup [.str p.name, .tup (p.ins.map D.str), .tup (p.helps.map helpD)]) (.tup [a]) S = some (.tup [.str p.name, .tup (p.ins.map D.str), .tup (p.helps.map helpD), a], S) := fun a S => add_tup (by simp)
  have s10 : ∀ S, addO (.tup [.str "end"]) (.tup [.tup (p.ins.map D.str), .tup (p.helps.map helpD), bD p.body]) S = some (.tup [.str "end", .tup (p.ins.map D.str), .tup (p.helps.map helpD), bD p.body], S) := fun S => add_tup (by simp)
  have s11 : ∀ (a : D) S, addO (.tup (h.wires.map Wir.d)) (.tup [a]) S = some (.tup (h.wires.map Wir.d ++ [a]), S) := fun a S => add_tup (by simp; omega)
  have s12 : ∀ S, addO (.tup (h.pers.map Per.d)) (.tup [p.d]) S = some (.tup (h.pers.map Per.d ++ [p.d]), S) := fun S => add_tup (by simp; omega)
  unfold F__law_no_house b__law_no_house
  rw [wp_funOf]
  refine wp_cut (fun e S1 => e = [some (.obj hd), some h.d, some (.int h.m), some (.tup (h.wires.map Wir.d)), some (.tup (h.pers.map Per.d)), none, none] ∧ S1 = S) ?_ ?_
  · rw [hou_d]
    simp_arith []
    exact ⟨_, rfl, rfl⟩
  rintro e S1 ⟨rfl, rfl⟩
  refine wp_cut (fun e S2 => ∃ (i : Nat) (L : List D), e = [some (.obj hd), some h.d, some (.int h.m), some (.tup (h.wires.map Wir.d)), some (.tup (h.pers.map Per.d)), some (.obj i), none] ∧ S1.length ≤ i ∧ S2[i]? = some (.lst L) ∧ L.length = 7 ∧ (∀ d ∈ L, RsS (isH hd) S2 F_is_house [d] false) ∧ Ext E0 S1 S2) ?_ ?_
  · simp_arith []
    refine ⟨_, rfl, _, _, rfl, by simp, by rw [List.getElem?_append_right (by simp)]; simp; rfl, rfl, fun d hd => ?_, .app⟩
    simp only [List.mem_cons, List.not_mem_nil, or_false] at hd
    rcases hd with rfl | rfl | rfl | rfl | rfl | rfl | rfl
    · exact house_noS (form_ty (t := "NoneType") (fun _ _ => rfl) k_nt)
    · exact house_noS (form_len (by simp))
    · exact house_noS (form_ty (t := "list") (fun S3 hx => ty_lst (l := [.int h.m, .tup (h.wires.map Wir.d), .tup (h.pers.map Per.d)]) (hx.get _ _ (by show ¬ _ = hd; have := hh.lt; simp; omega) (by simp))) k_lt)
    · exact house_noS (form_len (by simp))
    · exact house_noS (form_mod (by omega))
    · exact house_noS (form_mod (by omega))
    · exact house_noS form_true
  rintro e S2 ⟨i, L, rfl, hi0, hi, hl, hL, hx2⟩
  refine wp_cut (fun e S3 => ∃ (i : Nat) (L : List D), e = [some (.obj hd), some h.d, some (.int h.m), some (.tup (h.wires.map Wir.d)), some (.tup (h.pers.map Per.d)), some (.obj i), none] ∧ S1.length ≤ i ∧ S3[i]? = some (.lst L) ∧ L.length = 14 ∧ (∀ d ∈ L, RsS (isH hd) S3 F_is_house [d] false) ∧ Ext E0 S1 S3) ?_ ?_
  · simp_arith [lst_tup, s1, s12]
    have hil := get_lt hi
    generalize hM : [D.tup [.int h.m, .obj S2.length, .tup (h.pers.map Per.d)], .tup [.int h.m, .tup (h.wires.map Wir.d), .obj (S2 ++ [Ob.lst (h.wires.map Wir.d)]).length], .tup [.int h.m, .tup (h.wires.map Wir.d), .tup []], .tup [.int h.m, .tup (h.wires.map Wir.d), .tup (h.pers.map Per.d ++ [p.d])], .str "house", .int 0, .obj (S2 ++ [Ob.lst (h.wires.map Wir.d), Ob.lst (h.pers.map Per.d)]).length] = M
    have g1 : (S2 ++ [Ob.lst (h.wires.map Wir.d), Ob.lst (h.pers.map Per.d), Ob.dic [], Ob.lst M])[i]? = some (.lst L) := by rw [List.getElem?_append_left hil]; exact hi
    have g2 : (S2 ++ [Ob.lst (h.wires.map Wir.d), Ob.lst (h.pers.map Per.d), Ob.dic [], Ob.lst M])[(S2 ++ [Ob.lst (h.wires.map Wir.d), Ob.lst (h.pers.map Per.d), Ob.dic []]).length]? = some (.lst M) := by
      rw [List.getElem?_append_right (by simp)]; simp
    have hMl : M.length = 7 := by rw [← hM]; rfl
    rw [add_lst g1 g2 (by omega), optP_some]
    refine ⟨_, rfl, _, L ++ M, rfl, by have := hx2.len; simp; omega, by simp, by simp; omega, fun d hd => ?_, (hx2.appT).appT⟩
    rcases List.mem_append.mp hd with hd | hd
    · exact (hL d hd).ext (Ext.app.trans .app)
    rw [← hM] at hd
    simp only [List.mem_cons, List.not_mem_nil, or_false] at hd
    rcases hd with rfl | rfl | rfl | rfl | rfl | rfl | rfl
    · exact house_noS (form_wires (t := "list") hm (by simp; omega) (fun S3 hx => ty_lst (l := h.wires.map Wir.d) (hx.get _ _ (fun z => by have := hh.lt; have := hx2.len; dsimp only [isH] at z; omega) (by simp))) k_lt)
    · exact house_noS (form_pers (t := "list") hm (fun S3 hx => ty_lst (l := h.pers.map Per.d) (hx.get _ _ (fun z => by have := hh.lt; have := hx2.len; dsimp only [isH] at z; simp at z; omega) (by rw [List.append_assoc, List.getElem?_append_right (by simp)]; simp))) k_lt)
    · exact house_noS (form_pers0 hm)
    · exact house_twice g (by omega) hp
    · exact house_noS (form_ty (t := "str") (fun _ _ => rfl) k_st)
    · exact house_noS (form_ty (t := "int") (fun _ _ => rfl) k_it)
    · exact house_noS (form_ty (t := "dict") (fun S3 hx => ty_dic (l := []) (hx.get _ _ (fun z => by have := hh.lt; have := hx2.len; dsimp only [isH] at z; simp at z; omega) (by rw [List.append_assoc, List.getElem?_append_right (by simp)]; simp))) k_dt)
  rintro e S3 ⟨i, L, rfl, hi0, hi, hl, hL, hx3⟩
  refine wp_cut (fun e S4 => e = [some (.obj hd), some h.d, some (.int h.m), some (.tup (h.wires.map Wir.d)), some (.tup (h.pers.map Per.d)), some (.obj i), some p.d] ∧ S4 = S3) ?_ ?_
  · simp_arith [s3]
    exact ⟨_, rfl, rfl⟩
  rintro e S4 ⟨rfl, rfl⟩
  refine wp_cut (fun e S5 => ∃ (i : Nat) (L : List D), e = [some (.obj hd), some h.d, some (.int h.m), some (.tup (h.wires.map Wir.d)), some (.tup (h.pers.map Per.d)), some (.obj i), some p.d] ∧ S1.length ≤ i ∧ S5[i]? = some (.lst L) ∧ L.length = 16 ∧ (∀ d ∈ L, RsS (isH hd) S5 F_is_house [d] false) ∧ Ext E0 S1 S5) ?_ ?_
  · simp_arith [s4, s2, s7, s6, s8, s9]
    have hil := get_lt hi
    generalize hM : [D.tup [.int h.m, .tup (h.wires.map Wir.d), .tup (.tup [.str p.name, .tup (p.ins.map D.str), .tup (p.helps.map helpD)] :: ps.map Per.d)], .tup [.int h.m, .tup (h.wires.map Wir.d), .tup (.tup [.str p.name, .tup (p.ins.map D.str), .tup (p.helps.map helpD), .tup (p.body.map Stm.d ++ [.tup [.str "say", .tup [.str "number", .int h.m]]])] :: ps.map Per.d)]] = M
    have g1 : (S4 ++ [Ob.lst M])[i]? = some (.lst L) := by rw [List.getElem?_append_left hil]; exact hi
    have g2 : (S4 ++ [Ob.lst M])[S4.length]? = some (.lst M) := by simp
    have hMl : M.length ≤ 3 := by rw [← hM]; simp
    rw [add_lst g1 g2 (by omega), optP_some]
    refine ⟨_, rfl, _, L ++ M, rfl, by have := hx3.len; simp; omega, by simp, by rw [List.length_append, ← hM]; simp; omega, fun d hd => ?_, (hx3.appT).appT⟩
    rcases List.mem_append.mp hd with hd | hd
    · exact (hL d hd).ext (Ext.app.trans .app)
    rw [← hM] at hd
    simp only [List.mem_cons, List.not_mem_nil, or_false] at hd
    rcases hd with rfl | rfl
    · exact house_noS (form_first g (by omega) hp per_len3)
    · exact house_noS (form_first g (by omega) hp (per_body pf st_num (by have := pg.2; omega)))
  rintro e S5 ⟨i, L, rfl, hi0, hi, hl, hL, hx5⟩
  refine wp_cut (fun e S6 => ∃ (i : Nat) (L : List D), e = [some (.obj hd), some h.d, some (.int h.m), some (.tup (h.wires.map Wir.d)), some (.tup (h.pers.map Per.d)), some (.obj i), some p.d] ∧ S1.length ≤ i ∧ S6[i]? = some (.lst L) ∧ L.length = 18 ∧ (∀ d ∈ L, RsS (isH hd) S6 F_is_house [d] false) ∧ Ext E0 S1 S6) ?_ ?_
  · simp_arith [s4, s2, s7, s6, s8, s9, s10, s5, len_tup, List.length_map]
    have hil := get_lt hi
    generalize hM : [D.tup [.int h.m, .tup (h.wires.map Wir.d), .tup (.tup [.str p.name, .tup (p.ins.map D.str), .tup (p.helps.map helpD), .tup (p.body.map Stm.d ++ [.tup [.str "send", .int (h.wires.length : Nat), .tup [.str "number", .int 0]]])] :: ps.map Per.d)], .tup [.int h.m, .tup (h.wires.map Wir.d), .tup (.tup [.str "end", .tup (p.ins.map D.str), .tup (p.helps.map helpD), bD p.body] :: ps.map Per.d)]] = M
    have g1 : (S5 ++ [Ob.lst M])[i]? = some (.lst L) := by rw [List.getElem?_append_left hil]; exact hi
    have g2 : (S5 ++ [Ob.lst M])[S5.length]? = some (.lst M) := by simp
    have hMl : M.length ≤ 3 := by rw [← hM]; simp
    rw [add_lst g1 g2 (by omega), optP_some]
    refine ⟨_, rfl, _, L ++ M, rfl, by have := hx5.len; simp; omega, by simp, by rw [List.length_append, ← hM]; simp; omega, fun d hd => ?_, (hx5.appT).appT⟩
    rcases List.mem_append.mp hd with hd | hd
    · exact (hL d hd).ext (Ext.app.trans .app)
    rw [← hM] at hd
    simp only [List.mem_cons, List.not_mem_nil, or_false] at hd
    rcases hd with rfl | rfl
    · exact house_noS (form_first g (by omega) hp (per_body pf st_send (by have := pg.2; omega)))
    · exact house_noS (form_first g (by omega) hp (per_name rfl (by decide +kernel) (by decide +kernel)))
  rintro e S6 ⟨i, L, rfl, hi0, hi, hl, hL, hx6⟩
  refine wp_cut (fun e S7 => ∃ (i : Nat) (L : List D), e = [some (.obj hd), some h.d, some (.int h.m), some (.tup (h.wires.map Wir.d)), some (.tup (h.pers.map Per.d)), some (.obj i), some p.d] ∧ S1.length ≤ i ∧ S7[i]? = some (.lst L) ∧ L.length = 21 ∧ (∀ d ∈ L, RsS (isH hd) S7 F_is_house [d] false) ∧ Ext E0 S1 S7) ?_ ?_
  · simp_arith [s11, len_tup, List.length_map]
    have hil := get_lt hi
    generalize hM : [D.tup [.int h.m, .tup (h.wires.map Wir.d ++ [.tup [.str "zz", .int 0, .int 0, .int 1]]), .tup (h.pers.map Per.d)], .tup [.int h.m, .tup (h.wires.map Wir.d ++ [.tup [.str "zz", .int 0, .int (h.pers.length : Nat), .int 1]]), .tup (h.pers.map Per.d)], .tup [.int h.m, .tup (h.wires.map Wir.d ++ [.tup [.str "zz", .int 0, .int 1, .int 10]]), .tup (h.pers.map Per.d)]] = M
    have g1 : (S6 ++ [Ob.lst M])[i]? = some (.lst L) := by rw [List.getElem?_append_left hil]; exact hi
    have g2 : (S6 ++ [Ob.lst M])[S6.length]? = some (.lst M) := by simp
    have hMl : M.length ≤ 3 := by rw [← hM]; simp
    rw [add_lst g1 g2 (by omega), optP_some]
    refine ⟨_, rfl, _, L ++ M, rfl, by have := hx6.len; simp; omega, by simp, by rw [List.length_append, ← hM]; simp; omega, fun d hd => ?_, (hx6.appT).appT⟩
    rcases List.mem_append.mp hd with hd | hd
    · exact (hL d hd).ext (Ext.app.trans .app)
    rw [← hM] at hd
    simp only [List.mem_cons, List.not_mem_nil, or_false] at hd
    rcases hd with rfl | rfl | rfl
    · exact house_noS (form_wire g (by omega) (wire_no (by omega) (.inr (.inl rfl))))
    · exact house_noS (form_wire g (by omega) (wire_no (by omega) (.inl (by omega))))
    · exact house_noS (form_wire g (by omega) (wire_no (by omega) (.inr (.inr (by omega)))))
  rintro e S7 ⟨i, L, rfl, hi0, hi, hl, hL, hx7⟩
  simp_arith []
  have hlt := hh.lt
  refine some_ hi (by omega) (by omega) (hh.e0 hx7) fun k d S8 hk h8 hx8 => ?_
  try simp_arith []
  exact q d S8 ((hL d (List.mem_of_getElem? hk)).ext hx8) h8 ((hx7.e0).trans hx8)

set_option Elab.async false
set_option linter.all false
set_option maxRecDepth 100000
open PySem PySem.Spec PyProof.Rows L2 Y Z
abbrev rowD (r : List Nat) : D := .tup (nats r)
section
variable {hd c : Nat} {S : AH} {Q : D → AH → Prop} {E : Xn → AH → Prop} {h : Hou} {n : Nat}
/-- drawn inputs -/
theorem d_inputs (g : HG n h) (hh : Hand hd c S) (q : ∀ (rows : List (List Nat)) S', rows.length = h.pers.length → (∀ (j : Nat) p r, h.pers[j]? = some p → rows[j]? = some r → r.length = p.ins.length ∧ ∀ z ∈ r, (z : Int) < h.m) → Hand hd c S' → Ext (isH hd) S S' → Q (.tup (rows.map rowD)) S') : wp (F__law_inputs [.obj hd, h.d] S) Q E := by
  have hbig := sizeLine_big
  have hpl := g.pl
  have hl1 := hh.lt
  have hl2 := hh.ltc
  unfold F__law_inputs b__law_inputs
  rw [hou_d]
  simp_arith [seqIt_tup]
  refine wp_lc (fun k acc S2 => ∃ rows : List (List Nat), acc = rows.map rowD ∧ rows.length = k ∧ (∀ (j : Nat) p r, h.pers[j]? = some p → rows[j]? = some r → r.length = p.ins.length ∧ ∀ z ∈ r, (z : Int) < h.m) ∧ Hand hd c S2 ∧ Ext (isH hd) S S2) (acc := []) (by simp) ⟨[], rfl, rfl, by simp, hh.app, .app⟩ (fun k d acc S2 hd' hj ⟨rows, hf, hk, hP, h2, hx⟩ => ⟨rfl, ?_⟩) (fun acc S2 hj ⟨rows, hf, hk, hP, h2, hx⟩ => ⟨rfl, ?_⟩)
  · simp only [List.getElem?_map, Option.map_eq_some_iff] at hd'
    obtain ⟨p, hp, rfl⟩ := hd'
    have hkl := (List.getElem?_eq_some_iff.mp hp).1
    have hjl := get_lt hj
    obtain ⟨pg, _⟩ := g.pers k p hp
    have hin : p.ins.length ≤ 4 := by
      obtain ⟨j, hj, e⟩ := pg.ins
      rw [e, List.length_take]; omega
    have e1 : ∀ S, ixO p.d (.int 1) S = some (.tup (p.ins.map D.str), S) := fun S => ix1
    have l1 := h2.lt
    have l2 := h2.ltc
    simp_arith [tYes', e1, seqIt_tup]
    refine wp_lc (fun i acc2 S3 => ∃ ns : List Nat, acc2 = nats ns ∧ ns.length = i ∧ (∀ z ∈ ns, (z : Int) < h.m) ∧ Hand hd c S3 ∧ Ext (isH hd) S2 S3) (acc := []) (by simp) ⟨[], rfl, rfl, by simp, h2.app, .app⟩ (fun i d acc2 S3 hd2 hj2 ⟨ns, hf2, hi2, hP2, h3, hx3⟩ => ⟨rfl, ?_⟩) (fun acc2 S3 hj2 ⟨ns, hf2, hi2, hP2, h3, hx3⟩ => ⟨rfl, ?_⟩)
    · have hil := (List.getElem?_eq_some_iff.mp hd2).1
      simp at hil
      simp_arith [tYes']
      refine draw (by have := g.m; omega) h3 fun z S4 hz h4 hx4 => ?_
      try simp_arith []
      refine ⟨hx4.get _ _ (by show ¬ S2.length = hd; omega) hj2, by rw [hf2]; simp [nats]; omega, ns ++ [z], by rw [hf2]; simp [nats], by simp [hi2], fun y hy => ?_, h4.set (by omega) (by omega), (hx3.trans hx4).setT (.inr (Nat.le_refl _))⟩
      rcases List.mem_append.mp hy with hy | hy
      · exact hP2 y hy
      · simp at hy; subst hy; exact hz
    · rw [List.length_map] at hi2
      simp_arith [tup_obj hj2]
      have hj3 := hx3.get _ _ (by show ¬ S.length = hd; omega) hj
      refine ⟨hj3, by rw [hf]; simp; omega, rows ++ [ns], by rw [hf, hf2]; simp, by simp [hk], fun j p' r hp' hr => ?_, h3.set (by omega) (by omega), (hx.trans hx3).setT (.inr (Nat.le_refl _))⟩
      by_cases hjk : j < rows.length
      · rw [List.getElem?_append_left hjk] at hr; exact hP j p' r hp' hr
      · rw [List.getElem?_append_right (by omega)] at hr
        have hlt := (List.getElem?_eq_some_iff.mp hr).1
        simp at hlt
        have : j = k := by omega
        subst this
        rw [show j - rows.length = 0 by omega] at hr
        simp at hr
        subst hr
        rw [hp] at hp'
        cases hp'
        exact ⟨hi2, hP2⟩
  · rw [List.length_map] at hk
    simp_arith [tup_obj hj]
    rw [hf]
    exact q rows S2 hk hP h2 hx
/-! ### what are no inputs -/
variable {A : Nat → Prop}
theorem ai_ty {d : D} {t : String} (hd : ∀ S1, Ext A S S1 → tyOf S1 d = some t) (ht : kitB t "tuple" = some false) : RsS A S F_are_inputs_of [h.d, d] false := fun S1 Q E hx q => by
  unfold F_are_inputs_of b_are_inputs_of
  simp_arith [hd S1 hx, ht]
  exact q S1 .refl
theorem ai_len {l : List D} (hl : l.length ≠ h.pers.length) : RsS A S F_are_inputs_of [h.d, .tup l] false := fun S1 Q E hx q => by
  have : (l.length : Int) ≠ (h.pers.length : Int) := by omega
  unfold F_are_inputs_of b_are_inputs_of
  rw [hou_d]
  simp_arith [len_tup, List.length_map, this]
  exact q S1 .refl
theorem zip_tup {a b : List D} : zipIt [.tup a, .tup b] S = some ⟨zipL a b, fun _ => true⟩ := rfl
theorem ai_first {r0 : D} {rest : List D} {p : Per} {ps : List Per} (hp : h.pers = p :: ps) (hl : rest.length = ps.length)
    (hr : (∃ t, (∀ S1, Ext A S S1 → tyOf S1 r0 = some t) ∧ kitB t "tuple" = some false) ∨ (∃ l, r0 = .tup l ∧ l.length ≠ p.ins.length) ∨ ∃ xs : List (D × Bool), r0 = .tup (xs.map (·.1)) ∧ xs.length = p.ins.length ∧ xs.length ≤ 100 ∧ (∀ x ∈ xs, Res F_is_between [x.1, .int 0, .int (h.m - 1)] x.2) ∧ xs.all (·.2) = false) :
    RsS A S F_are_inputs_of [h.d, .tup (r0 :: rest)] false := fun S1 Q E hx q => by
  have hbig := sizeLine_big
  unfold F_are_inputs_of b_are_inputs_of
  rw [hou_d]
  have hlen : ((rest.length + 1 : Nat) : Int) = ((h.pers.length : Nat) : Int) := by rw [hp, hl]; rfl
  have hlen1 : ∀ S, lenO [.tup (r0 :: rest)] S = some (.int (h.pers.length : Nat), S) := fun S => by rw [len_tup, List.length_cons, hlen]
  simp_arith [hlen1, len_tup, List.length_map, zip_tup]
  refine wp_for (fun k env S2 => k = 0 ∧ ∃ a b c : Option D, env = [some (.tup [.int h.m, .tup (h.wires.map Wir.d), .tup (h.pers.map Per.d)]), some (.tup (r0 :: rest)), a, b, c] ∧ Ext E0 S1 S2) ⟨rfl, _, _, _, rfl, .refl⟩ ?_ ?_
  · rintro k d env S2 hk ⟨rfl, a, b, c, rfl, hx2⟩
    refine ⟨rfl, ?_⟩
    rw [hp] at hk
    simp only [List.map_cons, zipL, List.getElem?_cons_zero, Option.some.injEq] at hk
    subst hk
    have e1 : ∀ S, ixO p.d (.int 1) S = some (.tup (p.ins.map D.str), S) := fun S => ix1
    have hx02 : Ext A S S2 := hx.trans hx2.e0
    rcases hr with ⟨t, h1, h2⟩ | ⟨l, rfl, h1⟩ | ⟨xs, rfl, h1, h2, h3, h4⟩
    · simp_arith [h1 S2 hx02, h2]
      exact q S2 hx2
    · have : (l.length : Int) ≠ (p.ins.length : Int) := by omega
      simp_arith [len_tup, e1, List.length_map, this]
      exact q S2 hx2
    · have hlx : ∀ S, lenO [.tup (xs.map (·.1))] S = some (.int (p.ins.length : Nat), S) := fun S => by rw [len_tup, List.length_map, h1]
      simp_arith [hlx, len_tup, e1, List.length_map, seqIt_tup]
      refine lcX (A := E0) (QD := fun d S2 => optP (allO [d] S2) _) (fun x => .bl x.2) (by omega) (fun z => z) (fun _ _ => rfl) (fun x S3 hs hx3 _ => ?_) fun S3 hx3 hj3 => ?_
      · simp_arith []
        exact h3 x hs S3 _ _ fun S4 hx4 => ⟨rfl, hx4⟩
      · rw [all_pairs hj3, h4]
        simp_arith []
        exact q S3 (hx2.trans hx3)
  · rintro env S2 ⟨hlen, _⟩
    rw [hp] at hlen
    simp [zipL] at hlen
theorem bet_int {i lo hi : Int} : Res F_is_between [.int i, .int lo, .int hi] (decide (lo ≤ i ∧ i ≤ hi)) := fun S Q E q => by
  rw [is_between_int]
  exact q S .refl
theorem bet_non {lo hi : Int} : Res F_is_between [.non, .int lo, .int hi] false := fun S Q E q => is_between_ty (t := "NoneType") rfl (.inl k_ni) (q S .refl)
/-- things that are no inputs -/
theorem d_no_inputs {rows : List (List Nat)} (g : HG n h) (hh : Hand hd c S) (hr : rows.length = h.pers.length) (hrow : ∀ (j : Nat) p r, h.pers[j]? = some p → rows[j]? = some r → r.length = p.ins.length ∧ ∀ z ∈ r, (z : Int) < h.m)
    (q : ∀ d S', RsS (isH hd) S' F_are_inputs_of [h.d, d] false → Hand hd c S' → Ext (isH hd) S S' → Q d S') : wp (F__law_no_inputs [.obj hd, h.d, .tup (rows.map rowD)] S) Q E := by
  have hbig := sizeLine_big
  have hpl := g.pl
  have hl1 := hh.lt
  obtain ⟨p, ps, hp⟩ : ∃ p ps, h.pers = p :: ps := by
    cases hq : h.pers with
    | nil => rw [hq] at hpl; simp at hpl
    | cons p ps => exact ⟨p, ps, rfl⟩
  obtain ⟨r, rs, hrr⟩ : ∃ r rs, rows = r :: rs := by
    cases rows with
    | nil => simp at hr; omega
    | cons p ps => exact ⟨p, ps, rfl⟩
  subst hrr
  have hpsl : rs.length = ps.length := by rw [hp] at hr; simp at hr; exact hr
  have hps2 : ps.length ≤ 2 := by rw [hp] at hpl; simp at hpl; omega
  obtain ⟨hrl, hrz⟩ := hrow 0 p r (by rw [hp]; rfl) rfl
  obtain ⟨pg, _⟩ := g.pers 0 p (by rw [hp]; rfl)
  have hin : p.ins.length ≤ 4 := by
    obtain ⟨j, hj, e⟩ := pg.ins
    rw [e, List.length_take]; omega
  have s1 : ∀ S, slO (.tup (rowD r :: rs.map rowD)) (some 1) none S = some (.tup (rs.map rowD), S) := fun S => cut_from1
  have s2 : ∀ S, ixO (.tup (rowD r :: rs.map rowD)) (.int 0) S = some (rowD r, S) := fun S => ix0
  have s3 : ∀ S, addO (rowD r) (.tup [.int 0]) S = some (.tup (nats r ++ [.int 0]), S) := fun S => add_tup (by simp [nats]; omega)
  have s4 : ∀ (a : D) S, addO (.tup [a]) (.tup (rs.map rowD)) S = some (.tup ([a] ++ rs.map rowD), S) := fun a S => add_tup (by simp; omega)
  have s5 : ∀ S, addO (.tup (rowD r :: rs.map rowD)) (.tup [.tup []]) S = some (.tup (rowD r :: rs.map rowD ++ [.tup []]), S) := fun S => add_tup (by simp; omega)
  have hrm : (r :: rs).map rowD = rowD r :: rs.map rowD := rfl
  have hm := g.m
  unfold F__law_no_inputs b__law_no_inputs
  rw [wp_funOf]
  refine wp_cut (fun e S2 => ∃ (i : Nat) (L : List D), e = [some (.obj hd), some h.d, some (.tup (rowD r :: rs.map rowD)), some (.obj i)] ∧ S.length ≤ i ∧ S2[i]? = some (.lst L) ∧ L.length = 8 ∧ (∀ d ∈ L, RsS (isH hd) S2 F_are_inputs_of [h.d, d] false) ∧ Ext E0 S S2) ?_ ?_
  · simp_arith [lst_tup, s1, s2, s3, s4, s5]
    refine ⟨_, rfl, _, _, rfl, by simp, by rw [List.getElem?_append_right (by simp)]; simp; rfl, rfl, fun d hd' => ?_, .app⟩
    simp only [List.mem_cons, List.not_mem_nil, or_false] at hd'
    rcases hd' with rfl | rfl | rfl | rfl | rfl | rfl | rfl | rfl
    · exact ai_ty (t := "NoneType") (fun _ _ => rfl) k_nt
    · exact ai_ty (t := "list") (fun S3 hx => ty_lst (l := rowD r :: rs.map rowD) (hx.get _ _ (fun z => by dsimp only [isH] at z; (try simp at z); omega) (by simp))) k_lt
    · exact ai_len (by rw [hp]; simp; omega)
    · exact ai_len (by rw [hp]; simp; omega)
    · exact ai_first hp (by simpa using hpsl) (.inr (.inl ⟨_, rfl, by simp [nats]; omega⟩))
    · exact ai_first hp (by simpa using hpsl) (.inl ⟨"list", fun S3 hx => ty_lst (l := nats r) (hx.get _ _ (fun z => by dsimp only [isH] at z; (try simp at z); omega) (by rw [List.getElem?_append_right (by simp)]; simp)), k_lt⟩)
    · exact ai_ty (t := "str") (fun _ _ => rfl) k_st
    · exact ai_ty (t := "int") (fun _ _ => rfl) k_it
  rintro e S2 ⟨i, L, rfl, hi0, hi, hl, hL, hx2⟩
  refine wp_cut (fun e S3 => ∃ (i : Nat) (L : List D), e = [some (.obj hd), some h.d, some (.tup (rowD r :: rs.map rowD)), some (.obj i)] ∧ S.length ≤ i ∧ S3[i]? = some (.lst L) ∧ 8 ≤ L.length ∧ L.length ≤ 12 ∧ (∀ d ∈ L, RsS (isH hd) S3 F_are_inputs_of [h.d, d] false) ∧ Ext E0 S S3) ?_ ?_
  · simp_arith [s2, len_tup]
    refine ch_i (fun hc => ?_) fun hc => ⟨_, rfl, i, L, rfl, hi0, hi, by omega, by omega, hL, hx2⟩
    obtain ⟨z0, zs, hz⟩ : ∃ z0 zs, r = z0 :: zs := by
      cases r with
      | nil => simp [nats] at hc
      | cons a b => exact ⟨a, b, rfl⟩
    have hzl : zs.length + 1 = p.ins.length := by rw [← hrl, hz]; rfl
    have t1 : ∀ S, slO (rowD r) (some 1) none S = some (.tup (nats zs), S) := fun S => by rw [hz]; exact cut_from1
    have t2 : ∀ (a : D) S, addO (.tup [a]) (.tup (nats zs)) S = some (.tup ([a] ++ nats zs), S) := fun a S => add_tup (by simp [nats]; omega)
    have t3 : ∀ S, ixO h.d (.int 0) S = some (.int h.m, S) := fun S => ix0
    simp_arith [s1, s2, s4, t1, t2, t3]
    have hil := get_lt hi
    generalize hM : [D.tup (.tup (.int h.m :: nats zs) :: rs.map rowD), .tup (.tup (.int (-1) :: nats zs) :: rs.map rowD), .tup (.tup (.non :: nats zs) :: rs.map rowD), .tup (.tup (nats zs) :: rs.map rowD)] = M
    have g1 : (S2 ++ [Ob.lst M])[i]? = some (.lst L) := by rw [List.getElem?_append_left hil]; exact hi
    have g2 : (S2 ++ [Ob.lst M])[S2.length]? = some (.lst M) := by simp
    have hMl : M.length = 4 := by rw [← hM]; rfl
    rw [add_lst g1 g2 (by omega), optP_some]
    refine ⟨_, rfl, _, L ++ M, rfl, by have := hx2.len; simp; omega, by simp, by simp; omega, by simp; omega, fun d hd' => ?_, (hx2.appT).appT⟩
    rcases List.mem_append.mp hd' with hd' | hd'
    · exact (hL d hd').ext (Ext.app.trans .app)
    rw [← hM] at hd'
    simp only [List.mem_cons, List.not_mem_nil, or_false] at hd'
    have hb : ∀ (x : D), Res F_is_between [x, .int 0, .int (h.m - 1)] false → RsS (isH hd) ((S2 ++ [Ob.lst M]) ++ [Ob.lst (L ++ M)]) F_are_inputs_of [h.d, .tup (.tup (x :: nats zs) :: rs.map rowD)] false := fun x hx => by
      refine ai_first hp (by simpa using hpsl) (.inr (.inr ⟨(x, false) :: zs.map fun z => (D.int (z : Nat), decide (0 ≤ (z : Int) ∧ (z : Int) ≤ h.m - 1)), ?_, ?_, ?_, fun y hy => ?_, by simp⟩))
      · simp [nats, Function.comp_def]
      · simp; omega
      · simp; omega
      · simp only [List.mem_cons] at hy
        rcases hy with rfl | hy
        · exact hx
        · obtain ⟨z, _, rfl⟩ := List.mem_map.mp hy
          exact bet_int
    rcases hd' with rfl | rfl | rfl | rfl
    · refine hb _ ?_
      have := bet_int (i := h.m) (lo := 0) (hi := h.m - 1)
      rwa [decide_eq_false (by omega)] at this
    · refine hb _ ?_
      have := bet_int (i := -1) (lo := 0) (hi := h.m - 1)
      rwa [decide_eq_false (by omega)] at this
    · exact hb _ bet_non
    · exact ai_first hp (by simpa using hpsl) (.inr (.inl ⟨_, rfl, by simp [nats]; omega⟩))
  rintro e S3 ⟨i, L, rfl, hi0, hi, hl8, hl12, hL, hx3⟩
  simp_arith []
  refine some_ hi (by omega) (by omega) (hh.e0 hx3) fun k d S8 hk h8 hx8 => ?_
  try simp_arith []
  exact q d S8 ((hL d (List.mem_of_getElem? hk)).ext hx8) h8 ((hx3.e0).trans hx8)
/-! ### the live house refuses -/
theorem live_end {o a b : Nat} {hs ds : List D} {d : D} (g : h.good) (L : Lv o a b (hs ++ [h.d]) ds S) (hd : RsS A S F_are_inputs_of [h.d, d] false) (q : ∀ S', Ext E0 S S' → E ⟨"NoInputs", none⟩ S') : wp (F_Live_end [.obj o, d] S) Q E := by
  unfold F_Live_end b_Live_end
  simp_arith [lv_h L, ix_last L.hs]
  unfold F_need_inputs b_need_inputs
  try simp_arith []
  refine need_yes g fun S1 hx1 => ?_
  try simp_arith []
  refine hd S1 _ _ hx1.e0 fun S2 hx2 => ?_
  try simp_arith []
  exact q S2 (hx1.trans hx2)
theorem live_beh {o a b : Nat} {hs ds : List D} {d : D} (L : Lv o a b (hs ++ [h.d]) ds S) (hd : Res F_is_between [d, .int 0, .int ((h.pers.length : Int) - 1)] false) (q : ∀ S', Ext E0 S S' → E ⟨"NoPerson", none⟩ S') : wp (F_Live_behaviour [.obj o, d] S) Q E := by
  unfold F_Live_behaviour b_Live_behaviour
  simp_arith [lv_h L, ix_last L.hs]
  unfold F_need_person b_need_person
  rw [hou_d]
  simp_arith [len_tup, List.length_map]
  refine hd S _ _ fun S1 hx1 => ?_
  try simp_arith []
  exact q S1 hx1
end

set_option Elab.async false
set_option linter.all false
set_option maxRecDepth 100000
open PySem PySem.Spec PyProof.Rows L2 Y Z
theorem cutD_to {l : List D} {k : Nat} (hk : k ≤ l.length) : Y.cutD l none (some (k : Int)) = l.take k := by
  unfold Y.cutD
  rw [HT.sIx_nat, HT.sIx_none, Nat.min_eq_left hk]
  simp
theorem cutD_from {l : List D} {k : Nat} (hk : k ≤ l.length) : Y.cutD l (some (k : Int)) none = l.drop k := by
  unfold Y.cutD
  rw [HT.sIx_nat, HT.sIx_none, Nat.min_eq_left hk]
  rw [List.take_of_length_le (by simp)]
theorem sl_to {l : List D} {k : Nat} {S : AH} (hk : k ≤ l.length) : slO (.tup l) none (some (k : Int)) S = some (.tup (l.take k), S) := by
  show some (D.tup (Y.cutD l none (some (k : Int))), S) = _
  rw [cutD_to hk]
theorem sl_from {l : List D} {k : Nat} {S : AH} (hk : k ≤ l.length) : slO (.tup l) (some (k : Int)) none S = some (.tup (l.drop k), S) := by
  show some (D.tup (Y.cutD l (some (k : Int)) none), S) = _
  rw [cutD_from hk]
theorem slo_to {i : Nat} {l : List D} {k : Nat} {S : AH} (h : S[i]? = some (.lst l)) (hk : k ≤ l.length) : slO (.obj i) none (some (k : Int)) S = some (.obj S.length, S ++ [.lst (l.take k)]) := by
  unfold slO
  simp only [lstOf, h, Option.map_some]
  rw [cutD_to hk]
theorem slo_from {i : Nat} {l : List D} {k : Nat} {S : AH} (h : S[i]? = some (.lst l)) (hk : k ≤ l.length) : slO (.obj i) (some (k : Int)) none S = some (.obj S.length, S ++ [.lst (l.drop k)]) := by
  unfold slO
  simp only [lstOf, h, Option.map_some]
  rw [cutD_from hk]
theorem lcXU {E : Xn → AH → Prop} {env : En} {te : Ev} {gd : AH → Bool} {A : Nat → Prop} {X : Type} {xs : List X} {φ : X → D} {i : Nat} {QU : Unit → AH → Prop} {S1 : AH} (f : X → D) (hz : xs.length ≤ sizeLine) (hA : ¬ A S1.length) (hg : ∀ S2, Ext A S1 S2 → gd S2 = true)
    (step : ∀ x S2, x ∈ xs → Ext A S1 S2 → S1.length < S2.length → wp (te (env.set i (some (φ x))) S2) (fun y S3 => y = f x ∧ Ext A S2 S3) NE)
    (fin : ∀ S2, Ext A S1 S2 → S2[S1.length]? = some (.lst (xs.map f)) → QU () S2) :
    wp (lcL S1.length gd (gNm i) tYes' te env (xs.map φ) (S1 ++ [.lst []])) QU E := lcX (QD := fun _ S2 => QU () S2) f hz hA hg step fin
section
variable {hd c : Nat} {S : AH} {Q : D → AH → Prop} {E : Xn → AH → Prop} {h : Hou} {n : Nat}
theorem law_hand {ns : List Int} (q : ∀ hd c S', Hand hd c S' → Q (.obj hd) S') : wp (F__law_hand [.rol (ns.map D.int)] S) Q E := by
  have hbig := sizeLine_big
  have e1 : ∃ l : List Int, slO (.rol (ns.map D.int)) none (some 63) S = some (.obj S.length, S ++ [.lst (l.map D.int)]) ∧ l.length ≤ 63 := by
    unfold slO
    simp only [lstOf, Option.map_some]
    refine ⟨ns.take (min 63 ns.length), ?_, by simp; omega⟩
    have : Y.cutD (ns.map D.int) none (some 63) = (ns.take (min 63 ns.length)).map D.int := by
      unfold Y.cutD
      rw [show (some (63 : Int)) = some ((63 : Nat) : Int) from rfl, HT.sIx_nat, HT.sIx_none, List.length_map]
      simp
    rw [this]
  obtain ⟨l, e1, hl⟩ := e1
  unfold F__law_hand b__law_hand
  simp_arith [e1]
  have g1 : (S ++ [Ob.lst (l.map D.int)])[S.length]? = some (.lst (l.map D.int)) := by simp
  simp_arith [seqIt_obj g1]
  rw [show S ++ [Ob.lst (l.map D.int), Ob.lst []] = (S ++ [Ob.lst (l.map D.int)]) ++ [Ob.lst []] by simp]
  refine lcXU (A := E0) (xs := l) (fun z => .int (if z < 0 then -z else z)) (by omega) (fun z => z) (fun S2 hx => lstG_ok (hx.get _ _ (fun z => z) g1)) (fun x S2 hs hx2 _ => ?_) fun S2 hx2 hj2 => ?_
  · simp_arith [int_c, abs_c]
    exact Ext.refl
  simp_arith [len_obj hj2, mul_l (show -(2 ^ 64) < (7 : Int) ∧ (7 : Int) < 2 ^ 64 by omega), add_i]
  have hjl := get_lt hj2
  refine q S2.length (S ++ [Ob.lst (l.map D.int)]).length _ ⟨0, l.map fun z => if z < 0 then -z else z, 0, _, 0, by simp; rfl, ?_, ?_, Int.le_refl _, by omega⟩
  · rw [List.getElem?_append_left hjl, hj2, List.map_map]; rfl
  · intro z hz
    obtain ⟨y, _, rfl⟩ := List.mem_map.mp hz
    split <;> omega
/-! ### another room -/
theorem d_roomed {i : Nat} {rooms : List Int} (hi : S[i]? = some (.lst (rooms.map D.int))) (hr : rooms.length = h.wires.length) (hwl : h.wires.length ≤ 100) (q : ∀ S', Ext E0 S S' → Q (.tup [.int h.m, .tup ((List.zipWith (fun (w : Wir) r => { w with room := r }) h.wires rooms).map Wir.d), .tup (h.pers.map Per.d)]) S') : wp (F__law_roomed [h.d, .obj i] S) Q E := by
  have hbig := sizeLine_big
  unfold F__law_roomed b__law_roomed
  rw [hou_d]
  have hzl : (List.zipWith (fun (w : Wir) r => { w with room := r }) h.wires rooms).length = h.wires.length := by rw [List.length_zipWith, hr, Nat.min_self]
  simp_arith [len_obj hi, List.length_map, hr, rng1_nat (show h.wires.length < 1000000 by omega)]
  refine wp_lc (fun k acc S2 => acc = ((List.zipWith (fun (w : Wir) r => { w with room := r }) h.wires rooms).take k).map Wir.d ∧ Ext E0 S S2) (acc := []) (by simp) ⟨by simp, .app⟩ (fun k d acc S2 hd hj ⟨hf, hx⟩ => ⟨rfl, ?_⟩) (fun acc S2 hj ⟨hf, hx⟩ => ⟨rfl, ?_⟩)
  · obtain ⟨hkl, rfl⟩ := rngL_get hd
    have hw : h.wires[k]? = some h.wires[k] := List.getElem?_eq_getElem hkl
    have hrk : rooms[k]? = some (rooms[k]'(by omega)) := List.getElem?_eq_getElem _
    have hzk : (List.zipWith (fun (w : Wir) r => { w with room := r }) h.wires rooms)[k]? = some { h.wires[k] with room := rooms[k]'(by omega) } := by
      rw [List.getElem?_zipWith, hw, hrk]
    have e1 : ixO (.tup (h.wires.map Wir.d)) (.int (k : Nat)) S2 = some (h.wires[k].d, S2) := by rw [ix_tup, List.getElem?_map, hw]; rfl
    have e2 : slO h.wires[k].d none (some 3) S2 = some (.tup [.str h.wires[k].name, .int h.wires[k].s, .int h.wires[k].t], S2) := rfl
    have e3 : ixO (.obj i) (.int (k : Nat)) S2 = some (.int (rooms[k]'(by omega)), S2) := by rw [ix_obj (hx.get _ _ (fun z => z) hi), List.getElem?_map, hrk]; rfl
    have e4 : ∀ r : Int, addO (.tup [.str h.wires[k].name, .int h.wires[k].s, .int h.wires[k].t]) (.tup [.int r]) S2 = some (Wir.d { h.wires[k] with room := r }, S2) := fun r => by rw [add_tup (by simp)]; rfl
    simp_arith [tYes', e1, e2, e3, e4]
    refine ⟨hj, by rw [hf, List.length_map, List.length_take]; omega, ?_, hx.setT (.inr (Nat.le_refl _))⟩
    rw [hf, List.take_add_one, hzk]; simp
  · rw [rng_len, ← hzl, List.take_length] at hf
    simp_arith [tup_obj hj]
    rw [hf]
    exact q S2 hx
theorem room_ap {w : Nat} {x : Wir} {r : Int} (hw : h.wires[w]? = some x) : (Ent.ap h (.room w r)).d = .tup [.int h.m, .tup ((List.zipWith (fun (w : Wir) r => { w with room := r }) h.wires ((h.wires.map (·.room)).set w r)).map Wir.d), .tup (h.pers.map Per.d)] := by
  have : List.zipWith (fun (w : Wir) r => { w with room := r }) h.wires ((h.wires.map (·.room)).set w r) = h.wires.set w { x with room := r } := by
    refine List.ext_getElem? fun k => ?_
    rw [List.getElem?_zipWith]
    by_cases hk : w = k
    · subst hk
      have hl := (List.getElem?_eq_some_iff.mp hw).1
      rw [hw, List.getElem?_set_self (by simpa using hl), List.getElem?_set_self hl]
    · rw [List.getElem?_set_ne hk, List.getElem?_set_ne hk, List.getElem?_map]
      cases h.wires[k]? with
      | none => rfl
      | some y => rfl
  rw [this]
  simp only [Ent.ap, hw]
  rfl
theorem put_ap {k spot : Nat} {p : Per} {v : Int} (hp : h.pers[k]? = some p) : (Ent.ap h (.put k spot v)).d = .tup [.int h.m, .tup (h.wires.map Wir.d), .tup ((h.pers.map Per.d).take k ++ [.tup [.str p.name, .tup (p.ins.map D.str), .tup (p.helps.map helpD), .tup ((p.body.map Stm.d).take spot ++ [sayD v] ++ (p.body.map Stm.d).drop spot)]] ++ (h.pers.map Per.d).drop (k + 1))] := by
  have hk := (List.getElem?_eq_some_iff.mp hp).1
  simp only [Ent.ap, hp]
  rw [hou_d]
  simp only [List.map_set]
  rw [List.set_eq_take_append_cons_drop, if_pos (by simpa using hk)]
  simp [Per.d, bD, putB, Stm.d, Ex.d, sayD]
/-! ### two lists that are equal -/
theorem ne_at {i j : Nat} (hi : S[i]? = some (.lst [.str "at", .int (-1)])) (hj : S[j]? = some (.lst [.str "at", .int (-1)])) : neO (.obj i) (.obj j) S = some (.bl false, S) := by
  unfold neO eqO
  have e : eqS (.obj i) (.obj j) = none := rfl
  have p : pyOfs S 59 [.str "at", .int (-1)] = some [.str "at", .int (-1)] := by simp [pyOfs, pyOf]
  have s1 : SeqAt.shaped (.list [.str "at", .int (-1)]) = true := by decide +kernel
  have q1 : PyData.eqv (.list [.str "at", .int (-1)]) (.list [.str "at", .int (-1)]) = true := by decide +kernel
  simp only [e, pyOf, hi, hj, p, Option.map_some, s1, q1, and_self, if_true, Bool.not_true]
theorem ne_house {i j : Nat} (hi : S[i]? = some (.lst [.str "house"])) (hj : S[j]? = some (.lst [.str "house"])) : neO (.obj i) (.obj j) S = some (.bl false, S) := by
  unfold neO eqO
  have e : eqS (.obj i) (.obj j) = none := rfl
  have p : pyOfs S 59 [.str "house"] = some [.str "house"] := by simp [pyOfs, pyOf]
  have s1 : SeqAt.shaped (.list [.str "house"]) = true := by decide +kernel
  have q1 : PyData.eqv (.list [.str "house"]) (.list [.str "house"]) = true := by decide +kernel
  simp only [e, pyOf, hi, hj, p, Option.map_some, s1, q1, and_self, if_true, Bool.not_true]
theorem stm_head (s : Stm) : ∃ z r, s.d = .tup (.str z :: r) ∧ (!decide (z ∈ (["if", "rounds"] : List Str))) = flatS s := by
  cases s <;> simp only [Stm.d, flatS] <;> exact ⟨_, _, rfl, by decide +kernel⟩
theorem sum_ints {i : Nat} {l : List Int} (hi : S[i]? = some (.lst (l.map D.int))) : sumO [.obj i] S = some (.int l.sum, S) := by
  have : intsOf (l.map D.int) = some l := by
    clear hi
    induction l with
    | nil => rfl
    | cons a r ih => simp [intsOf, ih]
  simp [sumO, lstOf, hi, this]
end

set_option Elab.async false
set_option linter.all false
set_option maxRecDepth 100000
set_option maxHeartbeats 0
open PySem PySem.Spec PyProof.Rows L2 Y Z
theorem k_nl : kitB "NoneType" "list" = some false := by decide +kernel
theorem k_dl : kitB "dict" "list" = some false := by decide +kernel
section
variable {hd c : Nat} {E : Xn → AH → Prop}
theorem Lv.goH {S S' : AH} {o a b : Nat} {hs ds : List D} (L : Lv o a b hs ds S) (hx : Ext (isH hd) S S') (h1 : o ≠ hd) (h2 : a ≠ hd) (h3 : b ≠ hd) : Lv o a b hs ds S' := by
  obtain ⟨u, k, h⟩ := L.ob
  exact ⟨⟨u, k, hx.get _ _ h1 h⟩, hx.get _ _ h2 L.hs, hx.get _ _ h3 L.ds, L.oa, L.ob', L.ab⟩
theorem law_plain (ns : List Int) (hl63 : ns.length ≤ 63) : wp (F_law [.rol (ns.map D.int)] []) (fun d _ => d = .bl true) NE := by
  have hbig := sizeLine_big
  unfold F_law b_law
  rw [wp_funOf]
  generalize hscr : D.rol (ns.map D.int) = scr
  refine wp_cut (fun e S1 => ∃ (hd c : Nat), e = [some scr, some (.obj hd), none, none, none, none, none, none, none, none, none, none, none, none, none, none, none, none, none, none, none, none, none] ∧ Hand hd c S1) ?_ ?_
  · try simp_arith []
    rw [← hscr]
    exact law_hand fun hd c S' h => ⟨_, rfl, hd, c, rfl, h⟩
  rintro e S1 ⟨hd, c, rfl, hh1⟩
  refine wp_cut (fun e S2 => True) ?_ fun e S2 _ => by try simp_arith []
  simp_arith [show rngIt1 [.int 5] = some ⟨rngL 0 5, fun _ => true⟩ from rng1_nat (n := 5) (by omega)]
  refine wp_for (fun k env S2 => ∃ x2 x3 x4 x5 x6 x7 x8 x9 x10 x11 x12 x13 x14 x15 x16 x17 x18 x19 x20 x21 x22 : Option D, env = [some scr, some (.obj hd), x2, x3, x4, x5, x6, x7, x8, x9, x10, x11, x12, x13, x14, x15, x16, x17, x18, x19, x20, x21, x22] ∧ Hand hd c S2) ⟨_, _, _, _, _, _, _, _, _, _, _, _, _, _, _, _, _, _, _, _, _, rfl, hh1⟩ ?_ fun env S2 _ => ⟨rfl, _, rfl⟩
  rintro k d env S2 hk ⟨x2, x3, x4, x5, x6, x7, x8, x9, x10, x11, x12, x13, x14, x15, x16, x17, x18, x19, x20, x21, x22, rfl, hh2⟩
  obtain ⟨hk5, rfl⟩ := rngL_get hk
  refine ⟨rfl, ?_⟩
  simp only [gNm, optP_some, List.set_cons_succ, List.set_cons_zero]
  refine wp_cut (fun e S3 => ∃ h : Hou, e = [some scr, some (.obj hd), some (.int (k : Nat)), some h.d, x4, x5, x6, x7, x8, x9, x10, x11, x12, x13, x14, x15, x16, x17, x18, x19, x20, x21, x22] ∧ HG 18 h ∧ Hand hd c S3) ?_ ?_
  · try simp_arith []
    refine d_house hh2 fun h S3 g h3 hx3 => ?_
    try simp_arith []
    exact ⟨_, rfl, h, rfl, g, h3⟩
  rintro e S3 ⟨h, rfl, g, hh3⟩
  refine wp_cut (fun e S4 => ∃ lg : Nat, e = [some scr, some (.obj hd), some (.int (k : Nat)), some h.d, some h.d, some (.obj lg), x6, x7, x8, x9, x10, x11, x12, x13, x14, x15, x16, x17, x18, x19, x20, x21, x22] ∧ S4[lg]? = some (.lst []) ∧ lg ≠ hd ∧ lg ≠ c ∧ Hand hd c S4) ?_ ?_
  · have l1 := hh3.lt
    have l2 := hh3.ltc
    try simp_arith []
    exact ⟨_, rfl, S3.length, rfl, by simp, by omega, by omega, hh3.app⟩
  rintro e S4 ⟨lg, rfl, hlg4, hlh, hlc, hh4⟩
  refine wp_cut (fun e S5 => ∃ (x6 x7 x8 x9 x10 x11 x12 x13 x14 x15 x16 x17 x18 x19 x20 x21 x22 : Option D) (es : List Ent), e = [some scr, some (.obj hd), some (.int (k : Nat)), some h.d, some (runE h es).d, some (.obj lg), x6, x7, x8, x9, x10, x11, x12, x13, x14, x15, x16, x17, x18, x19, x20, x21, x22] ∧ es.length ≤ 5 ∧ okE h es ∧ S5[lg]? = some (.lst (es.map Ent.d)) ∧ Hand hd c S5) ?_ ?_
  · try simp_arith []
    refine draw (by omega) hh4 fun k6 S5 hk6 hh5 hx5 => ?_
    simp_arith [rng1_nat (show k6 < 1000000 by omega)]
    refine wp_for (fun j env S6 => ∃ (x6 x7 x8 x9 x10 x11 x12 x13 x14 x15 x16 x17 x18 x19 x20 x21 x22 : Option D) (es : List Ent), env = [some scr, some (.obj hd), some (.int (k : Nat)), some h.d, some (runE h es).d, some (.obj lg), x6, x7, x8, x9, x10, x11, x12, x13, x14, x15, x16, x17, x18, x19, x20, x21, x22] ∧ es.length ≤ j ∧ j ≤ 5 ∧ okE h es ∧ S6[lg]? = some (.lst (es.map Ent.d)) ∧ Hand hd c S6) ⟨_, _, _, _, _, _, _, _, _, _, _, _, _, _, _, _, _, [], rfl, Nat.le_refl _, by omega, trivial, hx5.get _ _ hlh hlg4, hh5⟩ ?_ ?_
    · rintro j d env S6 hj ⟨x6, x7, x8, x9, x10, x11, x12, x13, x14, x15, x16, x17, x18, x19, x20, x21, x22, es, rfl, hesl, hj5, ho, hlg, hh6⟩
      obtain ⟨hjk, rfl⟩ := rngL_get hj
      refine ⟨rfl, ?_⟩
      simp only [gNm, optP_some, List.set_cons_succ, List.set_cons_zero]
      have g' : HG 23 (runE h es) := (HG.run es h 18 g ho).mono (by omega)
      have hend : ∀ (e : Ent), e.ok (runE h es) → okE h (es ++ [e]) ∧ runE h (es ++ [e]) = e.ap (runE h es) := fun e he => ⟨(okE_app _ _ _).mpr ⟨ho, he, trivial⟩, by rw [runE_app]; rfl⟩
      generalize hh' : runE h es = h' at *
      have hpl := g'.pl
      have hwl := g'.wl
      have hm := g'.m
      have i0 : ∀ S, ixO h'.d (.int 0) S = some (.int h'.m, S) := fun S => ix0
      have i1 : ∀ S, ixO h'.d (.int 1) S = some (.tup (h'.wires.map Wir.d), S) := fun S => ix1
      have i2 : ∀ S, ixO h'.d (.int 2) S = some (.tup (h'.pers.map Per.d), S) := fun S => ix2
      refine wp_cut (fun e S7 => ∃ pk : Nat, e = [some scr, some (.obj hd), some (.int (k : Nat)), some h.d, some h'.d, some (.obj lg), some (.int (j : Nat)), x7, x8, x9, some (.int (pk : Nat)), x11, x12, x13, x14, x15, x16, x17, x18, x19, x20, x21, x22] ∧ pk < h'.pers.length ∧ S7[lg]? = some (.lst (es.map Ent.d)) ∧ Hand hd c S7) ?_ ?_
      · simp_arith [i2, len_tup, List.length_map]
        refine draw (by omega) hh6 fun pk S7 hpk hh7 hx7 => ?_
        try simp_arith []
        exact ⟨_, rfl, pk, rfl, by omega, hx7.get _ _ hlh hlg, hh7⟩
      rintro e S7 ⟨pk, rfl, hpk, hlg, hh7⟩
      have hp : h'.pers[pk]? = some h'.pers[pk] := List.getElem?_eq_getElem hpk
      obtain ⟨pg, pbl⟩ := g'.pers pk _ hp
      generalize h'.pers[pk] = p at hp pg pbl
      have hhl := pg.hlen
      have i3 : ∀ S, ixO (.tup (h'.pers.map Per.d)) (.int (pk : Nat)) S = some (p.d, S) := fun S => by rw [ix_tup, List.getElem?_map, hp]; rfl
      have j2 : ∀ S, ixO p.d (.int 2) S = some (.tup (p.helps.map helpD), S) := fun S => ix2
      have j3 : ∀ S, ixO p.d (.int 3) S = some (.tup (p.body.map Stm.d), S) := fun S => ix3
      refine wp_cut (fun e S8 => ∃ kd : Nat, e = [some scr, some (.obj hd), some (.int (k : Nat)), some h.d, some h'.d, some (.obj lg), some (.int (j : Nat)), x7, x8, x9, some (.int (pk : Nat)), some p.d, some (.int (kd : Nat)), x13, x14, x15, x16, x17, x18, x19, x20, x21, x22] ∧ S8[lg]? = some (.lst (es.map Ent.d)) ∧ Hand hd c S8) ?_ ?_
      · simp_arith [i2, i3]
        refine draw (by omega) hh7 fun kd S8 hkd hh8 hx8 => ?_
        try simp_arith []
        exact ⟨_, rfl, kd, rfl, hx8.get _ _ hlh hlg, hh8⟩
      rintro e S8 ⟨kd, rfl, hlg, hh8⟩
      refine wp_cut (fun e S9 => ∃ x13 : Option D, e = [some scr, some (.obj hd), some (.int (k : Nat)), some h.d, some h'.d, some (.obj lg), some (.int (j : Nat)), x7, x8, x9, some (.int (pk : Nat)), some p.d, some (.int (kd : Nat)), x13, x14, x15, x16, x17, x18, x19, x20, x21, x22] ∧ S9[lg]? = some (.lst (es.map Ent.d)) ∧ Hand hd c S9) ?_ ?_
      · simp_arith [j2, seqIt_tup]
        refine lcXU (A := E0) (xs := p.helps) (fun x => .int (x.2.length : Nat)) (by omega) (fun z => z) (fun _ _ => rfl) (fun x S9 hs hx9 _ => ?_) fun S9 hx9 hj9 => ?_
        · have e1 : ∀ S, ixO (helpD x) (.int 1) S = some (.tup (x.2.map Stm.d), S) := fun S => ix1
          simp_arith [e1, len_tup, List.length_map]
          exact Ext.refl
        · rw [sum_ints (l := p.helps.map fun x => (x.2.length : Int)) (by rw [hj9, List.map_map]; rfl), optP_some]
          exact ⟨_, rfl, _, rfl, hx9.get _ _ (fun z => z) hlg, hh8.e0 hx9⟩
      rintro e S9 ⟨x13, rfl, hlg, hh9⟩
      refine wp_cut (fun e S10 => ∃ fl : Bool, e = [some scr, some (.obj hd), some (.int (k : Nat)), some h.d, some h'.d, some (.obj lg), some (.int (j : Nat)), x7, x8, x9, some (.int (pk : Nat)), some p.d, some (.int (kd : Nat)), x13, some (.bl fl), x15, x16, x17, x18, x19, x20, x21, x22] ∧ (fl = true → p.body.all flatS = true ∧ p.helps = []) ∧ S10[lg]? = some (.lst (es.map Ent.d)) ∧ Hand hd c S10) ?_ ?_
      · simp_arith [j3, seqIt_tup]
        refine lcXU (A := E0) (xs := p.body) (fun s => .bl (flatS s)) (by omega) (fun z => z) (fun _ _ => rfl) (fun s S10 hs hx10 _ => ?_) fun S10 hx10 hj10 => ?_
        · obtain ⟨z, r, e1, e2⟩ := stm_head s
          rw [e1]
          have e3 : ninO (.str z) (.obj S10.length) (S10 ++ [Ob.lst [.str "if", .str "rounds"]]) = some (.bl (flatS s), S10 ++ [Ob.lst [.str "if", .str "rounds"]]) := by
            rw [nin_strs_obj (l := ["if", "rounds"]) (by simp), e2]
          simp_arith [e3]
          exact Ext.app
        · have hlg' := hx10.get _ _ (fun z => z) hlg
          have hh' := hh9.e0 hx10
          have e4 : allO [.obj S9.length] S10 = some (.bl (p.body.all flatS), S10) := by
            rw [all_bls (bs := p.body.map flatS) (by rw [hj10, List.map_map]; rfl), List.all_map]; rfl
          simp_arith [e4]
          refine ch_i (fun hc1 => ?_) fun hc1 => ⟨_, rfl, false, rfl, fun z => (by cases z), hlg', hh'⟩
          simp_arith [j2, len_tup, List.length_map]
          refine ⟨_, rfl, _, rfl, fun hc2 => ⟨hc1, ?_⟩, hlg', hh'⟩
          have := of_decide_eq_true hc2
          exact List.length_eq_zero_iff.mp (by omega)
      rintro e S10 ⟨fl, rfl, hfl, hlg, hh10⟩
      refine wp_if_cut (fun b S11 => (b = true → 1 ≤ h'.wires.length) ∧ S11[lg]? = some (.lst (es.map Ent.d)) ∧ Hand hd c S11) ?_ ?_ ?_
      · try simp_arith []
        refine ch_i (fun hc1 => ?_) fun hc1 => ⟨fun z => (by cases z), hlg, hh10⟩
        simp_arith [i1, len_tup, List.length_map]
        exact ⟨fun hc => by have := of_decide_eq_true hc; omega, hlg, hh10⟩
      · rintro S11 ⟨hw1, hlg, hh11⟩
        have hw1 := hw1 rfl
        refine wp_cut (fun e S12 => ∃ (w r : Nat), e = [some scr, some (.obj hd), some (.int (k : Nat)), some h.d, some h'.d, some (.obj lg), some (.int (j : Nat)), x7, x8, x9, some (.int (pk : Nat)), some p.d, some (.int (kd : Nat)), x13, some (.bl fl), x15, some (.int (w : Nat)), some (.int (r : Nat)), x18, x19, x20, x21, x22] ∧ w < h'.wires.length ∧ r < 10 ∧ S12[lg]? = some (.lst (es.map Ent.d)) ∧ Hand hd c S12) ?_ ?_
        · simp_arith [i1, len_tup, List.length_map]
          refine draw (by omega) hh11 fun w S12 hw hh12 hx12 => ?_
          try simp_arith []
          refine draw (by omega) hh12 fun r S13 hr hh13 hx13 => ?_
          try simp_arith []
          exact ⟨_, rfl, w, r, rfl, by omega, by omega, (hx12.trans hx13).get _ _ hlh hlg, hh13⟩
        rintro e S12 ⟨w, r, rfl, hw, hr, hlg, hh12⟩
        have hwx : h'.wires[w]? = some h'.wires[w] := List.getElem?_eq_getElem hw
        obtain ⟨hok, hrun⟩ := hend (.room w r) ⟨hw, by omega, by omega⟩
        refine wp_cut (fun e S13 => e = [some scr, some (.obj hd), some (.int (k : Nat)), some h.d, some h'.d, some (.obj lg), some (.int (j : Nat)), x7, x8, x9, some (.int (pk : Nat)), some p.d, some (.int (kd : Nat)), x13, some (.bl fl), x15, some (.int (w : Nat)), some (.int (r : Nat)), x18, x19, x20, x21, x22] ∧ S13[lg]? = some (.lst ((es ++ [Ent.room w r]).map Ent.d)) ∧ Hand hd c S13) ?_ ?_
        · simp_arith [isLst_obj hlg, app_lst hlg (show (es.map Ent.d).length < sizeLine by simp; omega)]
          exact ⟨_, rfl, rfl, by rw [get_set hlg]; simp [Ent.d], hh12.set hlh hlc⟩
        rintro e S13 ⟨rfl, hlg, hh13⟩
        have hl13 := hh13.lt
        simp_arith [i1, len_tup, List.length_map, rng1_nat (show h'.wires.length < 1000000 by omega)]
        refine collectU (n := h'.wires.length) (X := Int) (φ := D.int) (P := fun i x => ((h'.wires.map (·.room)).set w (r : Int))[i]? = some x) (by omega) hh13 (fun i S14 hi hh14 hx14 _ => ?_) fun xs S14 hxl hP hh14 hx14 hj14 => ?_
        · have hwi : h'.wires[i]? = some h'.wires[i] := List.getElem?_eq_getElem hi
          have i4 : ∀ S, ixO (.tup (h'.wires.map Wir.d)) (.int (i : Nat)) S = some (h'.wires[i].d, S) := fun S => by rw [ix_tup, List.getElem?_map, hwi]; rfl
          have i5 : ∀ S, ixO h'.wires[i].d (.int 3) S = some (.int h'.wires[i].room, S) := fun S => ix3
          try simp_arith []
          refine ch_i (fun hc1 => ?_) fun hc1 => ?_
          · have hiw : i = w := by have := of_decide_eq_true hc1; omega
            subst hiw
            try simp_arith []
            exact ⟨⟨(r : Int), rfl, List.getElem?_set_self (by simpa using hi)⟩, hh14, .refl⟩
          · have hiw : w ≠ i := by have := of_decide_eq_false hc1; omega
            simp_arith [i1, i4, i5]
            exact ⟨⟨h'.wires[i].room, rfl, by rw [List.getElem?_set_ne hiw, List.getElem?_map, hwi]; rfl⟩, hh14, .refl⟩
        · have hxs : xs = (h'.wires.map (·.room)).set w (r : Int) := by
            refine List.ext_getElem? fun i => ?_
            by_cases hi : i < xs.length
            · rw [List.getElem?_eq_getElem hi, hP i _ (List.getElem?_eq_getElem hi)]
            · rw [List.getElem?_eq_none (by omega), List.getElem?_eq_none (by simp; omega)]
          refine d_roomed hj14 hxl (by omega) fun S15 hx15 => ?_
          rw [hxs, ← room_ap hwx, ← hrun]
          try simp_arith []
          have hlg' := hx15.get _ _ (fun z => z) (hx14.get _ _ hlh hlg)
          exact ⟨_, _, _, _, _, _, _, _, _, _, _, _, _, _, _, _, _, es ++ [.room w r], rfl, by simp; omega, by omega, hok, hlg', hh14.e0 hx15⟩
      · rintro S11 ⟨_, hlg, hh11⟩
        refine wp_if_cut (fun b S12 => (b = true → p.body.all flatS = true ∧ p.helps = []) ∧ S12[lg]? = some (.lst (es.map Ent.d)) ∧ Hand hd c S12) ?_ ?_ ?_
        · try simp_arith []
          cases fl with
          | false => try simp_arith []; exact ⟨fun z => (by cases z), hlg, hh11⟩
          | true =>
            simp_arith [j3, len_tup]
            exact ⟨fun _ => hfl rfl, hlg, hh11⟩
        · rintro S12 ⟨hflat, hlg, hh12⟩
          obtain ⟨hf1, hf2⟩ := hflat rfl
          refine wp_cut (fun e S13 => ∃ (sp v : Nat), e = [some scr, some (.obj hd), some (.int (k : Nat)), some h.d, some h'.d, some (.obj lg), some (.int (j : Nat)), x7, x8, x9, some (.int (pk : Nat)), some p.d, some (.int (kd : Nat)), x13, some (.bl fl), x15, x16, x17, some (.int (sp : Nat)), some (sayD v), x20, x21, x22] ∧ sp ≤ p.body.length ∧ (v : Int) < h'.m ∧ S13[lg]? = some (.lst (es.map Ent.d)) ∧ Hand hd c S13) ?_ ?_
          · simp_arith [j3, len_tup, List.length_map, add_i]
            refine draw (by omega) hh12 fun sp S13 hsp hh13 hx13 => ?_
            simp_arith [i0]
            refine draw (by omega) hh13 fun v S14 hv hh14 hx14 => ?_
            try simp_arith []
            exact ⟨_, rfl, sp, v, rfl, by omega, hv, (hx13.trans hx14).get _ _ hlh hlg, hh14⟩
          rintro e S13 ⟨sp, v, rfl, hsp, hv, hlg, hh13⟩
          obtain ⟨hok, hrun⟩ := hend (.put pk sp v) ⟨p, hp, hf2, hf1, hsp, by omega, by omega⟩
          refine wp_cut (fun e S14 => e = [some scr, some (.obj hd), some (.int (k : Nat)), some h.d, some h'.d, some (.obj lg), some (.int (j : Nat)), x7, x8, x9, some (.int (pk : Nat)), some p.d, some (.int (kd : Nat)), x13, some (.bl fl), x15, x16, x17, some (.int (sp : Nat)), some (sayD v), x20, x21, x22] ∧ S14[lg]? = some (.lst ((es ++ [Ent.put pk sp v]).map Ent.d)) ∧ Hand hd c S14) ?_ ?_
          · simp_arith [isLst_obj hlg, app_lst hlg (show (es.map Ent.d).length < sizeLine by simp; omega)]
            exact ⟨_, rfl, rfl, by rw [get_set hlg]; simp [Ent.d], hh13.set hlh hlc⟩
          rintro e S14 ⟨rfl, hlg, hh14⟩
          have sl1 : ∀ S, slO (.tup (p.body.map Stm.d)) none (some (sp : Int)) S = some (.tup ((p.body.map Stm.d).take sp), S) := fun S => sl_to (by simpa using hsp)
          have sl2 : ∀ S, slO (.tup (p.body.map Stm.d)) (some (sp : Int)) none S = some (.tup ((p.body.map Stm.d).drop sp), S) := fun S => sl_from (by simpa using hsp)
          have ad1 : ∀ S, addO (.tup ((p.body.map Stm.d).take sp)) (.tup [sayD v]) S = some (.tup ((p.body.map Stm.d).take sp ++ [sayD v]), S) := fun S => add_tup (by simp; omega)
          have ad2 : ∀ S, addO (.tup ((p.body.map Stm.d).take sp ++ [sayD v])) (.tup ((p.body.map Stm.d).drop sp)) S = some (.tup ((p.body.map Stm.d).take sp ++ [sayD v] ++ (p.body.map Stm.d).drop sp), S) := fun S => add_tup (by simp; omega)
          refine wp_cut (fun e S15 => e = [some scr, some (.obj hd), some (.int (k : Nat)), some h.d, some h'.d, some (.obj lg), some (.int (j : Nat)), x7, x8, x9, some (.int (pk : Nat)), some p.d, some (.int (kd : Nat)), x13, some (.bl fl), x15, x16, x17, some (.int (sp : Nat)), some (sayD v), some (.tup ((p.body.map Stm.d).take sp ++ [sayD v] ++ (p.body.map Stm.d).drop sp)), x21, x22] ∧ S15 = S14) ?_ ?_
          · simp_arith [j3, sl1, sl2]
            rw [ad1, optP_some, ad2, optP_some]
            exact ⟨_, rfl, by simp, rfl⟩
          rintro e S15 ⟨rfl, rfl⟩
          generalize hB : (p.body.map Stm.d).take sp ++ [sayD v] ++ (p.body.map Stm.d).drop sp = B
          have sl3 : ∀ S, slO (.tup (h'.pers.map Per.d)) none (some (pk : Int)) S = some (.tup ((h'.pers.map Per.d).take pk), S) := fun S => sl_to (by simp; omega)
          have sl4 : ∀ S, slO (.tup (h'.pers.map Per.d)) (some ((pk : Int) + 1)) none S = some (.tup ((h'.pers.map Per.d).drop (pk + 1)), S) := fun S => by
            rw [show ((pk : Int) + 1) = ((pk + 1 : Nat) : Int) by omega]; exact sl_from (by simp; omega)
          have sl5 : ∀ S, slO p.d none (some 3) S = some (.tup [.str p.name, .tup (p.ins.map D.str), .tup (p.helps.map helpD)], S) := fun S => rfl
          have ad3 : ∀ (a : D) S, addO (.tup [.str p.name, .tup (p.ins.map D.str), .tup (p.helps.map helpD)]) (.tup [a]) S = some (.tup [.str p.name, .tup (p.ins.map D.str), .tup (p.helps.map helpD), a], S) := fun a S => add_tup (by simp)
          have ad4 : ∀ (a : D) S, addO (.tup ((h'.pers.map Per.d).take pk)) (.tup [a]) S = some (.tup ((h'.pers.map Per.d).take pk ++ [a]), S) := fun a S => add_tup (by simp; omega)
          have ad5 : ∀ (a : D) S, addO (.tup ((h'.pers.map Per.d).take pk ++ [a])) (.tup ((h'.pers.map Per.d).drop (pk + 1))) S = some (.tup ((h'.pers.map Per.d).take pk ++ [a] ++ (h'.pers.map Per.d).drop (pk + 1)), S) := fun a S => add_tup (by simp; omega)
          have hput := put_ap (h := h') (spot := sp) (v := (v : Int)) hp
          rw [hB] at hput
          simp_arith [i0, i1, i2, sl3, sl4, sl5, ad3, ad4, add_i]
          rw [ad5, optP_some, ← hput, ← hrun]
          exact ⟨_, _, _, _, _, _, _, _, _, _, _, _, _, _, _, _, _, es ++ [.put pk sp v], rfl, by simp; omega, by omega, hok, hlg, hh14⟩
        · rintro S12 ⟨_, hlg, hh12⟩
          try simp_arith []
          exact ⟨_, _, _, _, _, _, _, _, _, _, _, _, _, _, _, _, _, es, by rw [hh'], by omega, by omega, ho, hlg, hh12⟩
    · rintro env S6 ⟨x6, x7, x8, x9, x10, x11, x12, x13, x14, x15, x16, x17, x18, x19, x20, x21, x22, es, rfl, hesl, hj5, ho, hlg, hh6⟩
      exact ⟨rfl, _, rfl, _, _, _, _, _, _, _, _, _, _, _, _, _, _, _, _, _, es, rfl, by omega, ho, hlg, hh6⟩
  rintro e S5 ⟨x6, x7, x8, x9, x10, x11, x12, x13, x14, x15, x16, x17, x18, x19, x20, x21, x22, es, rfl, hesl, ho, hlg, hh5⟩
  have hpd1 : PD 59 h.d := (hou_pd g (by omega)).mono (by omega)
  have hpd2 : PD 59 (runE h es).d := (hou_pd (HG.run es h 18 g ho) (by omega)).mono (by omega)
  refine wp_cut (fun e S6 => e = [some scr, some (.obj hd), some (.int (k : Nat)), some h.d, some (runE h es).d, some (.obj lg), x6, x7, x8, x9, x10, x11, x12, x13, x14, x15, x16, x17, x18, x19, x20, x21, x22] ∧ S6[lg]? = some (.lst (es.map Ent.d)) ∧ Hand hd c S6) ?_ ?_
  · simp_arith [lst_obj hlg]
    have hl5 := hh5.lt
    refine outcome_now g ho hesl (by simp) fun i S6 hi hi6 hx6 => ?_
    have hx56 : Ext E0 S5 S6 := Ext.app.trans hx6
    try simp_arith []
    refine kept2 (n := 59) (i := i) (j := S6.length) (by rw [List.getElem?_append_left (get_lt hi6)]; exact hi6) (by simp) .str hpd2 fun S7 hx7 => ?_
    have hx57 : Ext E0 S5 S7 := hx56.trans (Ext.app.trans hx7)
    try simp_arith []
    refine outcome_now (es := []) g trivial (by simp) (by simp) fun i S8 hi hi8 hx8 => ?_
    have hx58 : Ext E0 S5 S8 := hx57.trans (Ext.app.trans hx8)
    try simp_arith []
    refine kept2 (n := 59) (i := i) (j := S8.length) (by rw [List.getElem?_append_left (get_lt hi8)]; exact hi8) (by simp) .str hpd1 fun S9 hx9 => ?_
    have hx59 : Ext E0 S5 S9 := hx58.trans (Ext.app.trans hx9)
    try simp_arith []
    exact ⟨_, rfl, rfl, hx59.get _ _ (fun z => z) hlg, hh5.e0 hx59⟩
  rintro e S6 ⟨rfl, hlg, hh6⟩
  refine wp_cut (fun e S7 => ∃ at_ : Nat, e = [some scr, some (.obj hd), some (.int (k : Nat)), some h.d, some (runE h es).d, some (.obj lg), x6, some (.int (at_ : Nat)), x8, x9, x10, x11, x12, x13, x14, x15, x16, x17, x18, x19, x20, x21, x22] ∧ at_ ≤ es.length ∧ S7[lg]? = some (.lst (es.map Ent.d)) ∧ Hand hd c S7) ?_ ?_
  · simp_arith [len_obj hlg, List.length_map, add_i]
    refine draw (by omega) hh6 fun at_ S7 hat hh7 hx7 => ?_
    try simp_arith []
    exact ⟨_, rfl, at_, rfl, by omega, hx7.get _ _ hlh hlg, hh7⟩
  rintro e S7 ⟨at_, rfl, hat, hlg, hh7⟩
  refine wp_cut (fun e S8 => ∃ (od : Nat) (L : List D), e = [some scr, some (.obj hd), some (.int (k : Nat)), some h.d, some (runE h es).d, some (.obj lg), x6, some (.int (at_ : Nat)), some (.obj od), x9, x10, x11, x12, x13, x14, x15, x16, x17, x18, x19, x20, x21, x22] ∧ S7.length ≤ od ∧ S8[od]? = some (.lst L) ∧ L.length = 8 ∧ (∀ d ∈ L, BadIt d) ∧ (∀ d ∈ L, itC d S8) ∧ (∀ q, D.obj q ∈ L → S7.length ≤ q) ∧ Ext E0 S7 S8) ?_ ?_
  · try simp_arith []
    refine ⟨_, rfl, S7.length, _, rfl, Nat.le_refl _, by simp; rfl, rfl, fun d hd => ?_, fun d hd => ?_, (fun q hq => by simp at hq), .app⟩
    · simp only [List.mem_cons, List.not_mem_nil, or_false] at hd
      rcases hd with rfl | rfl | rfl | rfl | rfl | rfl | rfl | rfl
      · exact bad_len mk_put (by decide)
      · exact bad_per9 rfl
      · exact bad_st (b := true) fun m w hp => st_say1
      · exact bad_len mk_drop (by decide)
      · exact bad_drop
      · exact bad_wire99
      · exact bad_len mk_room (by decide)
      · exact bad_tup0
    · simp only [List.mem_cons, List.not_mem_nil, or_false] at hd
      rcases hd with rfl | rfl | rfl | rfl | rfl | rfl | rfl | rfl <;> trivial
  rintro e S8 ⟨od, L, rfl, hod, hol, hLl, hLb, hLc, hLq, hx8⟩
  refine wp_cut (fun e S9 => ∃ (od : Nat) (L : List D), e = [some scr, some (.obj hd), some (.int (k : Nat)), some h.d, some (runE h es).d, some (.obj lg), x6, some (.int (at_ : Nat)), some (.obj od), x9, x10, x11, x12, x13, x14, x15, x16, x17, x18, x19, x20, x21, x22] ∧ S7.length ≤ od ∧ S9[od]? = some (.lst L) ∧ L.length = 20 ∧ (∀ d ∈ L, BadIt d) ∧ (∀ d ∈ L, itC d S9) ∧ (∀ q, D.obj q ∈ L → S7.length ≤ q) ∧ Ext E0 S7 S9) ?_ ?_
  · have hlo := get_lt hol
    try simp_arith []
    generalize hM : [D.non, .str "put", .obj S8.length, .tup [.str "Put", .int 0, .int 0, .int 0], .tup [.int 0, .int 0, .int 0], .tup [.str "room", .int 0, .int 10], .tup [.str "change", .int 0, .int 0, .non], .tup [.str "undo"], .tup [.str "put", .int 0, .int 0, .non], .int 7, .obj (S8 ++ [Ob.lst [.str "drop", .int 0, .int 0]]).length, .tup [.non]] = M
    have g1 : (S8 ++ [Ob.lst [.str "drop", .int 0, .int 0], Ob.dic [], Ob.lst M])[od]? = some (.lst L) := by rw [List.getElem?_append_left hlo]; exact hol
    have g2 : (S8 ++ [Ob.lst [.str "drop", .int 0, .int 0], Ob.dic [], Ob.lst M])[(S8 ++ [Ob.lst [.str "drop", .int 0, .int 0], Ob.dic []]).length]? = some (.lst M) := by
      rw [List.getElem?_append_right (by simp)]; simp
    have hMl : M.length = 12 := by rw [← hM]; rfl
    rw [add_lst g1 g2 (by omega), optP_some]
    refine ⟨_, rfl, _, L ++ M, rfl, by have := hx8.len; simp; omega, by simp, by simp; omega, fun d hd => ?_, fun d hd => ?_, fun q hq => ?_, (hx8.appT).appT⟩
    · rcases List.mem_append.mp hd with hd | hd
      · exact hLb d hd
      rw [← hM] at hd
      simp only [List.mem_cons, List.not_mem_nil, or_false] at hd
      rcases hd with rfl | rfl | rfl | rfl | rfl | rfl | rfl | rfl | rfl | rfl | rfl | rfl
      · exact bad_ty (t := "NoneType") (fun _ _ => rfl) k_nt
      · exact bad_ty (t := "str") (fun _ _ => rfl) k_st
      · exact bad_obj
      · exact bad_word mk_Put
      · exact bad_first (t := "int") (fun _ => rfl) k_is
      · exact bad_room
      · exact bad_st (b := false) fun m w hp => st_non
      · exact bad_word mk_undo
      · exact bad_st (b := true) fun m w hp => st_non
      · exact bad_ty (t := "int") (fun _ _ => rfl) k_it
      · exact bad_obj
      · exact bad_first (t := "NoneType") (fun _ => rfl) k_ns
    · rcases List.mem_append.mp hd with hd | hd
      · exact (hLc d hd).ext ((Ext.app (A := E0)).trans .app) fun _ _ z => z
      rw [← hM] at hd
      simp only [List.mem_cons, List.not_mem_nil, or_false] at hd
      rcases hd with rfl | rfl | rfl | rfl | rfl | rfl | rfl | rfl | rfl | rfl | rfl | rfl
      all_goals first | trivial | skip
      · exact .inl ⟨[.str "drop", .int 0, .int 0], by simp⟩
      · exact .inr ⟨[], by rw [List.append_assoc, List.getElem?_append_right (by simp)]; simp⟩
    · rcases List.mem_append.mp hq with hq | hq
      · exact hLq q hq
      · rw [← hM] at hq
        have := hx8.len
        simp at hq
        omega
  rintro e S9 ⟨od, L, rfl, hod, hol, hLl, hLb, hLc, hLq, hx9⟩
  have hlg := hx9.get _ _ (fun z => z) hlg
  have hh9 := hh7.e0 hx9
  have hl7 := hh7.lt
  have hl9 := hh9.lt
  refine wp_cut (fun e S10 => e = [some scr, some (.obj hd), some (.int (k : Nat)), some h.d, some (runE h es).d, some (.obj lg), x6, some (.int (at_ : Nat)), some (.obj od), x9, x10, x11, x12, x13, x14, x15, x16, x17, x18, x19, x20, x21, x22] ∧ S10[lg]? = some (.lst (es.map Ent.d)) ∧ Hand hd c S10) ?_ ?_
  · have hlgl := get_lt hlg
    have hes : (es.map Ent.d).length = es.length := List.length_map _
    simp_arith [slo_to hlg (k := at_) (by omega)]
    have hod2 : (S9 ++ [Ob.lst ((es.map Ent.d).take at_)])[od]? = some (.lst L) := by rw [List.getElem?_append_left (get_lt hol)]; exact hol
    refine some_ hod2 (by omega) (by omega) hh9.app fun kk d S10 hkk hh10 hx10 => ?_
    have hdm := List.mem_of_getElem? hkk
    have hxa : Ext (isH hd) S9 S10 := Ext.app.trans hx10
    have t1 : S10[S9.length]? = some (.lst ((es.map Ent.d).take at_)) := hx10.get _ _ (by show ¬ S9.length = hd; omega) (by simp)
    have hl10 := get_lt t1
    have t1' : (S10 ++ [Ob.lst [d]])[S9.length]? = some (.lst ((es.map Ent.d).take at_)) := by rw [List.getElem?_append_left hl10]; exact t1
    have t2 : (S10 ++ [Ob.lst [d]])[S10.length]? = some (.lst [d]) := by simp
    try simp_arith []
    rw [add_lst t1' t2 (by simp; omega), optP_some]
    have hlg10 := hxa.get _ _ hlh hlg
    have hlg11 : (S10 ++ [Ob.lst [d]] ++ [Ob.lst ((es.map Ent.d).take at_ ++ [d])])[lg]? = some (.lst (es.map Ent.d)) := by
      rw [List.append_assoc, List.getElem?_append_left (get_lt hlg10)]; exact hlg10
    rw [slo_from hlg11 (k := at_) (by omega), optP_some]
    have t3 : (S10 ++ [Ob.lst [d]] ++ [Ob.lst ((es.map Ent.d).take at_ ++ [d])] ++ [Ob.lst ((es.map Ent.d).drop at_)])[(S10 ++ [Ob.lst [d]]).length]? = some (.lst ((es.map Ent.d).take at_ ++ [d])) := by
      rw [List.getElem?_append_left (by simp)]; simp
    have t4 : (S10 ++ [Ob.lst [d]] ++ [Ob.lst ((es.map Ent.d).take at_ ++ [d])] ++ [Ob.lst ((es.map Ent.d).drop at_)])[(S10 ++ [Ob.lst [d]] ++ [Ob.lst ((es.map Ent.d).take at_ ++ [d])]).length]? = some (.lst ((es.map Ent.d).drop at_)) := by
      rw [List.getElem?_append_right (Nat.le_refl _)]; simp
    rw [add_lst t3 t4 (by simp; omega), optP_some]
    generalize hT : S10 ++ [Ob.lst [d]] ++ [Ob.lst ((es.map Ent.d).take at_ ++ [d])] ++ [Ob.lst ((es.map Ent.d).drop at_)] = T
    have hxT : Ext (isH hd) S9 T := by rw [← hT]; exact ((hxa.appT).appT).appT
    have hhT : Hand hd c T := by rw [← hT]; exact ((hh10.app).app).app
    have hok2 : okE h (es.take at_) := by
      have := ho
      rw [← List.take_append_drop at_ es, okE_app] at this
      exact this.1
    have hlen2 : (es.take at_).length = at_ := by rw [List.length_take]; omega
    have hcd : itC d (T ++ [Ob.lst ((es.map Ent.d).take at_ ++ [d] ++ (es.map Ent.d).drop at_)]) := by
      have h1 : itC d S9 := hLc d hdm
      cases d <;> try trivial
      rename_i q
      have hq : q ≠ hd := by
        have := hLq q hdm
        omega
      rcases h1 with ⟨l, h1⟩ | ⟨l, h1⟩
      · exact .inl ⟨l, by rw [List.getElem?_append_left (get_lt (hxT.get _ _ hq h1))]; exact hxT.get _ _ hq h1⟩
      · exact .inr ⟨l, by rw [List.getElem?_append_left (get_lt (hxT.get _ _ hq h1))]; exact hxT.get _ _ hq h1⟩
    refine outcome_at (es := es.take at_) (tail := d :: (es.drop at_).map Ent.d) g hok2 (by omega) (by simp [List.map_take, List.map_drop]) ⟨d, _, rfl, hLb d hdm, hcd⟩ fun i S11 hi hi11 hx11 => ?_
    rw [hlen2] at hi11
    try simp_arith []
    refine kept2 (n := 59) (i := i) (j := S11.length) (by rw [List.getElem?_append_left (get_lt hi11)]; exact hi11) (by simp) .str .int fun S12 hx12 => ?_
    have hx92 : Ext (isH hd) S9 S12 := hxT.trans ((Ext.app.trans hx11.e0).trans (Ext.app.trans hx12.e0))
    try simp_arith []
    exact ⟨_, rfl, rfl, hx92.get _ _ hlh hlg, (hhT.app.e0 hx11).app.e0 hx12⟩
  rintro e S10 ⟨rfl, hlg, hh10⟩
  refine wp_cut (fun e S11 => e = [some scr, some (.obj hd), some (.int (k : Nat)), some h.d, some (runE h es).d, some (.obj lg), x6, some (.int (at_ : Nat)), some (.obj od), x9, x10, x11, x12, x13, x14, x15, x16, x17, x18, x19, x20, x21, x22] ∧ Hand hd c S11) ?_ ?_
  · have hl10 := hh10.lt
    try simp_arith [tup_obj hlg]
    have hg1 : (S10 ++ [Ob.dic [], Ob.lst [D.non, .tup (es.map Ent.d), .str "log", .int 0, .obj S10.length]])[(S10 ++ [Ob.dic []]).length]? = some (.lst [D.non, .tup (es.map Ent.d), .str "log", .int 0, .obj S10.length]) := by
      rw [List.getElem?_append_right (by simp)]; simp
    refine some_ hg1 (by simp) (by simp; omega) hh10.app fun kk d S11 hkk hh11 hx11 => ?_
    have hdm := List.mem_of_getElem? hkk
    have hty : ∃ t, (∀ S', Ext E0 S11 S' → tyOf S' d = some t) ∧ kitB t "list" = some false := by
      simp only [List.mem_cons, List.not_mem_nil, or_false] at hdm
      rcases hdm with rfl | rfl | rfl | rfl | rfl
      · exact ⟨"NoneType", fun _ _ => rfl, k_nl⟩
      · exact ⟨"tuple", fun _ _ => rfl, k_tl⟩
      · exact ⟨"str", fun _ _ => rfl, k_sl⟩
      · exact ⟨"int", fun _ _ => rfl, k_il⟩
      · exact ⟨"dict", fun S' hx => ty_dic (l := []) (hx.get _ _ (fun z => z) (hx11.get _ _ (by show ¬ S10.length = hd; omega) (by simp))), k_dl⟩
    obtain ⟨t, hty1, hty2⟩ := hty
    try simp_arith []
    refine outcome_no g hty1 hty2 fun i S12 hi hi12 hx12 => ?_
    have hA : (S12 ++ [Ob.lst [.str "at", .int (-1)]])[i]? = some (.lst [.str "at", .int (-1)]) := by rw [List.getElem?_append_left (get_lt hi12)]; exact hi12
    try simp_arith [ne_at hA (j := S12.length) (by simp)]
    have hh12 := (hh11.e0 hx12).app (T := [Ob.lst [.str "at", .int (-1)]])
    refine d_no_house g hh12 fun d2 S13 hR hh13 hx13 => ?_
    try simp_arith []
    refine outcome_houseS (A := isH hd) (hR.ext .app) fun i S14 hi hi14 hx14 => ?_
    have hB : (S14 ++ [Ob.lst [.str "house"]])[i]? = some (.lst [.str "house"]) := by rw [List.getElem?_append_left (get_lt hi14)]; exact hi14
    try simp_arith [ne_house hB (j := S14.length) (by simp)]
    exact ⟨_, rfl, rfl, (hh13.app.e0 hx14).app⟩
  rintro e S11 ⟨rfl, hh11⟩
  refine wp_cut (fun e S12 => ∃ o a b : Nat, e = [some scr, some (.obj hd), some (.int (k : Nat)), some h.d, some (runE h es).d, some (.obj lg), x6, some (.int (at_ : Nat)), some (.obj od), some (.obj o), x10, x11, x12, x13, x14, x15, x16, x17, x18, x19, x20, x21, x22] ∧ o ≠ hd ∧ a ≠ hd ∧ b ≠ hd ∧ Lv o a b [h.d] [] S12 ∧ Hand hd c S12) ?_ ?_
  · have hl11 := hh11.lt
    try simp_arith []
    refine live_init (g.good (by omega)) fun S12 a b ha hb L12 hx12 => ?_
    try simp_arith []
    exact ⟨_, rfl, S11.length, a, b, rfl, by omega, by omega, by omega, L12, hh11.e0 hx12⟩
  rintro e S12 ⟨o, a, b, rfl, ho1, ho2, ho3, Lw, hh12⟩
  refine wp_cut (fun e S13 => ∃ x8 x15 : Option D, e = [some scr, some (.obj hd), some (.int (k : Nat)), some h.d, some (runE h es).d, some (.obj lg), x6, some (.int (at_ : Nat)), x8, some (.obj o), x10, x11, x12, x13, x14, x15, x16, x17, x18, x19, x20, x21, x22] ∧ Lv o a b [h.d] [] S13 ∧ Hand hd c S13) ?_ ?_
  · try simp_arith [lv_end Lw]
    refine d_inputs g hh12 fun rows S13 hr1 hr2 hh13 hx13 => ?_
    try simp_arith []
    refine d_no_inputs g hh13 hr1 hr2 fun d S14 hR hh14 hx14 => ?_
    have L14 := Lw.goH (hx13.trans hx14) ho1 ho2 ho3
    try simp_arith []
    refine live_end (A := isH hd) (hs := []) (g.good (by omega)) L14 hR fun S15 hx15 => ?_
    try simp_arith [cl_d, goneQ_nx, wipeO]
    exact ⟨_, rfl, _, _, rfl, (L14.go hx15).go .app, (hh14.e0 hx15).app⟩
  rintro e S13 ⟨x8, x15, rfl, Lw, hh13⟩
  have hpl := g.pl
  have i2 : ∀ S, ixO h.d (.int 2) S = some (.tup (h.pers.map Per.d), S) := fun S => ix2
  have hl13 := hh13.lt
  try simp_arith [lv_beh Lw, i2, len_tup, List.length_map]
  refine some_ (l := [D.int (-1), .int (h.pers.length : Nat), .non, .bl true, .str "0"]) (by simp) (by simp) (by omega) hh13.app fun kk d S14 hkk hh14 hx14 => ?_
  have hdm := List.mem_of_getElem? hkk
  have hbt : Res F_is_between [d, .int 0, .int ((h.pers.length : Int) - 1)] false := by
    simp only [List.mem_cons, List.not_mem_nil, or_false] at hdm
    rcases hdm with rfl | rfl | rfl | rfl | rfl
    · have := bet_int (i := -1) (lo := 0) (hi := (h.pers.length : Int) - 1)
      rwa [decide_eq_false (by omega)] at this
    · have := bet_int (i := (h.pers.length : Nat)) (lo := 0) (hi := (h.pers.length : Int) - 1)
      rwa [decide_eq_false (by omega)] at this
    · exact bet_non
    · exact fun S Q E q => is_between_ty (t := "bool") rfl (.inr ⟨k_bi, k_bb⟩) (q S .refl)
    · exact fun S Q E q => is_between_ty (t := "str") rfl (.inl k_si) (q S .refl)
  have L14 := (Lw.go .app).goH hx14 ho1 ho2 ho3
  try simp_arith []
  refine live_beh (hs := []) L14 hbt fun S15 hx15 => ?_
  try simp_arith [cl_e, goneQ_nx, wipeO]
  exact ⟨_, _, _, _, _, _, _, _, _, _, _, _, _, _, _, _, _, _, _, _, _, rfl, (hh14.e0 hx15).app⟩
end
end P

set_option Elab.async false
set_option linter.all false
set_option maxRecDepth 100000
set_option maxHeartbeats 0
namespace Z
open PySem PySem.Spec PyProof.Rows L2 Y
theorem rol_of {K : PySem.W.Frag} {H : Hp} {a : Addr} {xs : List V} (h : SqL K H a xs) (o : Only H) : RoL K H a xs := by
  rcases h with (h | h) | h
  · rcases o a with e | ⟨q, ys, e⟩
    · rw [e] at h; cases h
    · rw [e] at h; cases h
  · exact .inl h
  · exact .inr h
theorem ints_rd {K : PySem.W.Frag} {ρ : List Addr} {H : Hp} : ∀ ns : List Int, RDs K ρ H (ns.map D.int) (ns.map V.int)
  | [] => .nil
  | n :: r => .cons .int (ints_rd r)
theorem sp_law {K : PySem.W.Frag} {F : Fd} (plain : ∀ ns : List Int, ns.length ≤ 63 → ∃ S', F [.rol (ns.map D.int)] [] = .ok (.bl true) S') (H : Hp) (a : Addr) (ns : List Int) (hl : ns.length ≤ 63) (o : Only H) (hS : SqL K H a (ns.map V.int)) : spOf K 1 F [.ref a] H (fun v _ => v = .bl true) fun _ _ _ => False := by
  obtain ⟨S', e⟩ := plain ns hl
  refine ⟨[], [.rol (ns.map D.int)], [], ⟨rfl, by simp, fun i a o h => by simp at h⟩, .cons (.rol (rol_of hS o) (ints_rd ns)) .nil, rfl, ?_⟩
  rw [e]
  intro ρ' H' _ _ v hv
  cases hv
  rfl
def CXw : CXT := fun outer H s E u s' => ∃ (P : Program) (w : World), L2.CX P w outer H s E u s'
theorem FnOk.wide {P : Program} {w : World} {K : PySem.W.Frag} {mg : Str → Option Value} {base : Heap} {k : Nat} {f : Addr} {fd : FuncData} {ps : List Str} {sp : Sp} (F : FnOk P w K mg base (L2.CX P w) k f fd ps sp) : FnOk P w K mg base CXw k f fd ps sp :=
  ⟨F.len, fun A outer s H args us vs Q E hr he hb hv hs => codeAny_mono (F.run A outer s H args us vs Q E hr he hb hv hs) fun r s' h => match r, h with
    | .ok (.ret u), h => h
    | .error e, h => ⟨P, w, h⟩⟩
theorem cxw_no (H : Hp) (s : Shared) (e : Value) (s' : Shared) : CXw [] H s (fun _ _ _ => False) e s' → False := by
  rintro ⟨P, w, a, B, H', cls, d, _, _, _, _, _, _, _, h⟩
  exact h
theorem law_end {P : Program} {w : World} {K : PySem.W.Frag} {h : Heap} {mg : Str → Option Value} {fa : Addr} (plain : ∀ ns : List Int, ns.length ≤ 63 → ∃ S', F_law [.rol (ns.map D.int)] [] = .ok (.bl true) S') (X : K.In h) (G : h.Ns mainGlobals mg) (hfa : mg ("law" : Str) = some (.ref fa)) (c : SaysS Z.fa fn ts ex w K) :
    ∃ (fd : FuncData) (sp : Sp), (∀ (s : Shared) (u : Value), BindsTo s fd ⟨[u], []⟩ [("script", u)]) ∧ (∀ (H : Hp) (a : Addr) (ns : List Int), ns.length ≤ 63 → Only H → SqL K H a (ns.map V.int) → sp [.ref a] H (fun v _ => v = .bl true) fun _ _ _ => False) ∧
      ∀ base : Heap, K.In base → base.Ns mainGlobals mg → FnOk P w K mg base CXw 61 fa fd ["script"] sp := by
  have Gx : ∀ base : Heap, Fx P w K mg base := fun base => facts X G c
  obtain ⟨fd, F⟩ := (Gx h).d_law
  have e := hfa.symm.trans (Gx h).g_law
  injection e with e
  injection e with e
  refine ⟨fd, spOf K 1 F_law, fun s u => FunD.bindsA (ps := ["script"]) F (fun _ _ _ _ _ _ us hl => match us, hl with | [_], _ => rfl) s [u] rfl, sp_law plain, fun base _ _ => ?_⟩
  rw [e]
  exact FnOk.wide (fnok_of F sc_law rfl (w_law (Gx base)))
end Z

set_option Elab.async false
set_option linter.all false
set_option maxRecDepth 100000
set_option maxHeartbeats 0
open PySem PySem.W PySem.Calls PyProof.Rows
theorem final (plain : ∀ ns : List Int, ns.length ≤ 63 → ∃ S', Z.F_law [.rol (ns.map Y.D.int)] [] = .ok (.bl true) S') : PySem.Challenge.rw_sentandheard_k78_logs_of_live_houses.Holds := by
  w_on; o_law
  refine HandSHeadRun.head_any (r := OpenLaw.row PySem.Challenge.rw_sentandheard_k78_logs_of_live_houses) (q := Z.qv) (H := Z.hk) (ob := Z.ob) (M := 20000) (loose := Z.nms) (d := HandSHeadRun.topDef (OpenLaw.row PySem.Challenge.rw_sentandheard_k78_logs_of_live_houses).prog 100) (kwd := []) Z.ob_eq
    (by kernel_rfl) (fun s => by kernel_rfl) (fun w => byRow2 "special-get-raises" Z.runF Z.runT w) (by kernel_rfl) (by kernel_rfl) (by kernel_rfl) (by rfl) (by first | assumption | decide +kernel) (by decide +kernel) ⟨rfl, rfl, rfl, rfl, rfl, by decide +kernel⟩ ?hw ?hc
  case hw => w_witness2
  case hc =>
    refine L2.walk_ofE (l := PySem.Challenge.rw_sentandheard_k78_logs_of_live_houses) (n := 63) (k := 61) (x := "script") (CX := Z.CXw) rfl (by decide) (by kernel_rfl) ⟨rfl, by decide, by decide⟩ ?F Z.cxw_no
    intro w mg fa h Y G hmg0
    obtain ⟨K, KX, c⟩ := Y
    have hmg : mg ("law" : PySem.Str) = some (.ref fa) := by
      have e : (HandSHeadRun.topDef (OpenLaw.row PySem.Challenge.rw_sentandheard_k78_logs_of_live_houses).prog 100).name = ("law" : PySem.Str) := by kernel_rfl
      rw [← e]
      exact hmg0
    obtain ⟨fd, sp, h1, h2, h3⟩ := Z.law_end (P := (PySem.Challenge.rw_sentandheard_k78_logs_of_live_houses).prog) (w := w) plain KX G hmg c
    exact ⟨K, fd, sp, KX, h1, h2, h3⟩

set_option Elab.async false
set_option linter.all false
set_option maxRecDepth 100000
theorem plain_k78 (ns : List Int) (hl : ns.length ≤ 63) : ∃ S', Z.F_law [.rol (ns.map Y.D.int)] [] = .ok (.bl true) S' := by
  obtain ⟨d, S', e, h⟩ := P.of_wp' (P.law_plain ns hl)
  exact ⟨S', by rw [e, h]⟩
theorem PySem.Challenge.cw_sentandheard_k78_logs_of_live_houses_holds : PySem.Challenge.rw_sentandheard_k78_logs_of_live_houses.Holds :=
  final plain_k78

