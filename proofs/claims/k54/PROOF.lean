import PyProof.Rows.All
import Wide.All
import OpenK.AllK
import Wide.FinOn
import HandS.ForMost
import HandS.Exc
import HandS.ExcOwn
import HandS.TryOnly
import HandS.WordsExc
import HandS.Wide
import HandS.Deep
import HandS.TupAny
import HandS.Rev
import HandS.Zip
import HandS.IsInst
import HandS.Defaults
import HandS.ExcIs
import HandS.ExcCtx
import HandS.HotCalls
import HandS.TupMul
import HandS.Iter
import HandS.More
import KE.GoesMore
import HandS.Ends
import HandS.HeadHook2
import HandS.HeadEnd
import KE.GoesEnum
import KE.GoesZip
import KE.KDictZip
import HandS.Dict
import HandS.Comp
import PyProof.Rows.TupIter
import HandS.TupSets
import HandS.Style
import KE.KStateDown
import HandS.Head0
import HandS.Head1
import HandS.Head2
import HandS.HeadHook1
import HandS.EndBits
import PySem.Challenge.RW_onecurve_k54_quotients_of_one_height
set_option Elab.async false
set_option linter.all false
set_option maxRecDepth 100000
namespace PP
open PySem PySem.Spec PyProof.Rows L2
inductive Ex where
  | curve | number | ncurve | npoints | many | npoint | stretch | deep | few | text | row
  deriving DecidableEq
def Ex.nm : Ex → String
  | .curve => "CurveError"
  | .number => "NoNumber"
  | .ncurve => "NoCurve"
  | .npoints => "NoPoints"
  | .many => "TooMany"
  | .npoint => "NoPoint"
  | .stretch => "NoStretch"
  | .deep => "TooDeep"
  | .few => "TooFew"
  | .text => "NoText"
  | .row => "NoRow"
def Ex.all : List Ex := [.curve, .number, .ncurve, .npoints, .many, .npoint, .stretch, .deep, .few, .text, .row]
theorem Ex.mem_all (n : Ex) : n ∈ Ex.all := by cases n <;> decide
def Ex.sub (n m : Ex) : Bool := decide (n = m) || decide (m = .curve)
inductive D where
  | non | bl (b : Bool) | int (i : Int) | str (s : Str) | tup (xs : List D) | ref (a : Addr) | scr (ns : List Int) | exc (n : Ex) | emp
abbrev G := Addr → Option (List D)
def G.up (g : G) (a : Addr) (xs : List D) : G := fun b => if b = a then some xs else g b
abbrev Env := List (Option D)
abbrev QD := D → G → Prop
abbrev XD := Ex → G → Prop
def Per : HO → Prop
  | .tup _ => True
  | .frz _ _ => True
  | _ => False
def TK (H H' : Hp) : Prop := ∀ a u, Per u → H a = some u → H' a = some u
theorem TK.refl (H : Hp) : TK H H := fun _ _ _ h => h
theorem TK.trans {H H1 H2 : Hp} (a : TK H H1) (b : TK H1 H2) : TK H H2 := fun c u p h => b c u p (a c u p h)
theorem TK.new {H : Hp} {p : Addr} {o : HO} (h : H p = none) : TK H (upd H p o) := fun c u _ e => by
  rw [upd_ne (ne_of_none e h)]; exact e
theorem TK.set {H : Hp} {p : Addr} {xs : List V} {o : HO} (h : H p = some (.lst xs)) : TK H (upd H p o) := fun c u q e => by
  rw [upd_ne]; exact e
  intro z; subst z; rw [h] at e; cases e; exact q
def TupP (K : PySem.W.Frag) (H : Hp) (a : Addr) (xs : List V) : Prop := H a = some (.tup xs) ∨
  ∃ (o : Obj) (its : Array Value) (n : Nat), K.lookup a = some o ∧ o.cls = .type "tuple" ∧ o.data = .seq its n ∧ its.size ≤ sizeLine ∧ Vals xs its.toList
theorem TupP.sq {K H a xs} (h : TupP K H a xs) : SqT K H a xs := by
  rcases h with h | h
  · exact .inl (.inl h)
  · exact .inr h
theorem TupP.keep {K H H' a xs} (k : TK H H') (h : TupP K H a xs) : TupP K H' a xs := by
  rcases h with h | h
  · exact .inl (k _ _ trivial h)
  · exact .inr h
def ScrP (K : PySem.W.Frag) (H : Hp) (a : Addr) (xs : List V) : Prop := (∃ o, H a = some (.frz o (.lst xs))) ∨
  ∃ (o : Obj) (its : Array Value) (n : Nat), K.lookup a = some o ∧ o.cls = .type "list" ∧ o.dict = none ∧ o.data = .seq its n ∧ its.size ≤ sizeLine ∧ Vals xs its.toList
theorem ScrP.sq {K H a xs} (h : ScrP K H a xs) : SqL K H a xs := by
  rcases h with ⟨o, h⟩ | h
  · exact .inl (.inr ⟨o, h⟩)
  · exact .inr h
theorem ScrP.keep {K H H' a xs} (k : TK H H') (h : ScrP K H a xs) : ScrP K H' a xs := by
  rcases h with ⟨o, h⟩ | h
  · exact .inl ⟨o, k _ _ trivial h⟩
  · exact .inr h
def ExNs (K : PySem.W.Frag) (n : Ex) (c : Addr) : Prop := PySem.W.nsIn K mainGlobals (Str.ofString n.nm) = some (some (.ref c))
structure ExK (K : PySem.W.Frag) (n : Ex) (c : Addr) : Prop where
  exc : ExcC K c
  kit : ∀ m c', ExNs K m c' → PySem.W.kitOne K (.ref c) (.ref c') = some (n.sub m)
  exm : ∀ m c', ExNs K m c' → PySem.W.exmOne K (.ref c) (.ref c') = some (n.sub m)
  val : PySem.W.kitOne K (.ref c) (.type "ValueError") = some true
abbrev excU : HO := .ext fun _ => True
def ExcP (K : PySem.W.Frag) (H : Hp) (n : Ex) (a : Addr) : Prop := ∃ (o : Obj) (u : HO) (c : Addr), H a = some (.frz o u) ∧ o.cls = .ref c ∧ o.dict = none ∧ (∃ vs, o.data = .fields vs ∧ vs[2]? = some .none) ∧ ExNs K n c ∧ ExK K n c
theorem ExcP.keep {K H H' n a} (k : TK H H') (h : ExcP K H n a) : ExcP K H' n a := by
  obtain ⟨o, u, c, e, r⟩ := h
  exact ⟨o, u, c, k _ _ trivial e, r⟩
mutual
def Rep (K : PySem.W.Frag) (H : Hp) : D → V → Prop
  | .non, v => v = .non
  | .bl b, v => v = .bl b
  | .int i, v => v = .int i
  | .str s, v => v = .str s
  | .ref a, v => v = .ref a
  | .scr ns, v => ∃ a, v = .ref a ∧ ScrP K H a (ns.map V.int)
  | .exc n, v => ∃ a, v = .ref a ∧ ExcP K H n a
  | .emp, v => ∃ a o, v = .ref a ∧ H a = some (.frz o (.dK []))
  | .tup ds, v => ∃ a vs, v = .ref a ∧ TupP K H a vs ∧ RepL K H ds vs
def RepL (K : PySem.W.Frag) (H : Hp) : List D → List V → Prop
  | [], vs => vs = []
  | d :: ds, vs => ∃ v r, vs = v :: r ∧ Rep K H d v ∧ RepL K H ds r
end
section
variable {K : PySem.W.Frag} {H H' : Hp}
mutual
theorem Rep.keep (k : TK H H') : ∀ {d : D} {v : V}, Rep K H d v → Rep K H' d v
  | .non, v, h => h
  | .bl b, v, h => h
  | .int i, v, h => h
  | .str s, v, h => h
  | .ref a, v, h => h
  | .scr ns, v, ⟨a, e, h⟩ => ⟨a, e, h.keep k⟩
  | .exc n, v, ⟨a, e, h⟩ => ⟨a, e, h.keep k⟩
  | .emp, v, ⟨a, o, e, h⟩ => ⟨a, o, e, k _ _ trivial h⟩
  | .tup ds, v, ⟨a, vs, e, t, h⟩ => ⟨a, vs, e, t.keep k, RepL.keep k h⟩
theorem RepL.keep (k : TK H H') : ∀ {ds : List D} {vs : List V}, RepL K H ds vs → RepL K H' ds vs
  | [], vs, h => h
  | d :: ds, vs, ⟨v, r, e, h, t⟩ => ⟨v, r, e, Rep.keep k h, RepL.keep k t⟩
end
theorem RepL.length : ∀ {ds : List D} {vs : List V}, RepL K H ds vs → vs.length = ds.length
  | [], vs, h => by subst h; rfl
  | d :: ds, vs, ⟨v, r, e, _, t⟩ => by subst e; simp [RepL.length t]
theorem RepL.get : ∀ {ds : List D} {vs : List V} {i : Nat} {d : D}, RepL K H ds vs → ds[i]? = some d → ∃ v, vs[i]? = some v ∧ Rep K H d v
  | [], vs, i, d, h, e => by simp at e
  | x :: ds, vs, 0, d, ⟨v, r, e, h, t⟩, q => by
    simp at q; subst q; subst e; exact ⟨v, by simp, h⟩
  | x :: ds, vs, i+1, d, ⟨v, r, e, h, t⟩, q => by
    subst e
    obtain ⟨w, e1, h1⟩ := RepL.get (i := i) (d := d) t (by simpa using q)
    exact ⟨w, by simpa using e1, h1⟩
theorem RepL.getv : ∀ {ds : List D} {vs : List V} {i : Nat} {v : V}, RepL K H ds vs → vs[i]? = some v → ∃ d, ds[i]? = some d ∧ Rep K H d v
  | [], vs, i, d, h, e => by subst h; simp at e
  | x :: ds, vs, 0, w, ⟨v, r, e, h, t⟩, q => by
    subst e; simp at q; subst q; exact ⟨x, by simp, h⟩
  | x :: ds, vs, i+1, w, ⟨v, r, e, h, t⟩, q => by
    subst e
    obtain ⟨w, e1, h1⟩ := RepL.getv (i := i) (v := w) t (by simpa using q)
    exact ⟨w, by simpa using e1, h1⟩
theorem RepL.app : ∀ {ds es : List D} {vs ws : List V}, RepL K H ds vs → RepL K H es ws → RepL K H (ds ++ es) (vs ++ ws)
  | [], es, vs, ws, h, q => by subst h; exact q
  | d :: ds, es, vs, ws, ⟨v, r, e, h, t⟩, q => by subst e; exact ⟨v, r ++ ws, rfl, h, t.app q⟩
theorem RepL.take : ∀ {ds : List D} {vs : List V} (n : Nat), RepL K H ds vs → RepL K H (ds.take n) (vs.take n)
  | ds, vs, 0, _ => by simp [RepL]
  | [], vs, n+1, h => by subst h; simp [RepL]
  | d :: ds, vs, n+1, ⟨v, r, e, h, t⟩ => by subst e; exact ⟨v, r.take n, rfl, h, t.take n⟩
theorem RepL.drop : ∀ {ds : List D} {vs : List V} (n : Nat), RepL K H ds vs → RepL K H (ds.drop n) (vs.drop n)
  | ds, vs, 0, h => h
  | [], vs, n+1, h => by subst h; simp [RepL]
  | d :: ds, vs, n+1, ⟨v, r, e, h, t⟩ => by subst e; exact t.drop n
theorem RepL.set {d : D} {v : V} (q : Rep K H d v) : ∀ {ds : List D} {vs : List V} (i : Nat), RepL K H ds vs → RepL K H (ds.set i d) (vs.set i v)
  | [], vs, i, h => by subst h; simp [RepL]
  | x :: ds, vs, 0, ⟨w, r, e, h, t⟩ => by subst e; exact ⟨v, r, rfl, q, t⟩
  | x :: ds, vs, i+1, ⟨w, r, e, h, t⟩ => by subst e; exact ⟨w, r.set i v, rfl, h, t.set q i⟩
theorem RepL.one {d : D} {v : V} (q : Rep K H d v) : RepL K H [d] [v] := ⟨v, [], rfl, q, rfl⟩
theorem RepL.rev : ∀ {ds : List D} {vs : List V}, RepL K H ds vs → RepL K H ds.reverse vs.reverse
  | [], vs, h => by subst h; simp [RepL]
  | d :: ds, vs, ⟨v, r, e, h, t⟩ => by
    subst e; simp only [List.reverse_cons]; exact t.rev.app (.one h)
def RepG (K : PySem.W.Frag) (H : Hp) (g : G) : Prop := ∀ a ds, g a = some ds → ∃ vs, H a = some (.lst vs) ∧ RepL K H ds vs
theorem RepG.none {g : G} (h : RepG K H g) {p : Addr} (n : H p = Option.none) : g p = Option.none := by
  cases e : g p with
  | none => rfl
  | some xs => obtain ⟨vs, q, _⟩ := h p xs e; rw [n] at q; cases q
theorem RepG.tup {g : G} (h : RepG K H g) {p : Addr} {o : HO} (n : H p = Option.none) : RepG K (upd H p o) g := fun a ds e => by
  obtain ⟨vs, q, r⟩ := h a ds e
  exact ⟨vs, by rw [upd_ne (ne_of_none q n)]; exact q, r.keep (.new n)⟩
theorem RepG.new {g : G} (h : RepG K H g) {p : Addr} {ds : List D} {vs : List V} (n : H p = Option.none) (r : RepL K H ds vs) : RepG K (upd H p (.lst vs)) (g.up p ds) := fun a es e => by
  unfold G.up at e
  split at e
  · rename_i z; subst z; cases e; exact ⟨vs, upd_same, r.keep (.new n)⟩
  · exact (h.tup n) a es e
theorem RepG.put {g : G} (h : RepG K H g) {p : Addr} {xs : List V} {ds : List D} {vs : List V} (n : H p = some (.lst xs)) (r : RepL K H ds vs) : RepG K (upd H p (.lst vs)) (g.up p ds) := fun a es e => by
  unfold G.up at e
  split at e
  · rename_i z; subst z; cases e; exact ⟨vs, upd_same, r.keep (.set n)⟩
  · rename_i z
    obtain ⟨ws, q, r⟩ := h a es e
    exact ⟨ws, by rw [upd_ne z]; exact q, r.keep (.set n)⟩
def RepE (K : PySem.W.Frag) (H : Hp) (env : Env) (σ : List (Option V)) : Prop := env.length = σ.length ∧ ∀ (i : Nat) (d : D), env[i]? = some (some d) → ∃ v : V, σ[i]? = some (some v) ∧ Rep K H d v
theorem RepE.keep {env : Env} {σ : List (Option V)} (k : TK H H') (h : RepE K H env σ) : RepE K H' env σ := ⟨h.1, fun i d e => by
  obtain ⟨v, a, b⟩ := h.2 i d e
  exact ⟨v, a, b.keep k⟩⟩
theorem RepE.set {env : Env} {σ : List (Option V)} {i : Nat} {d : D} {v : V} (h : RepE K H env σ) (r : Rep K H d v) : RepE K H (env.set i (some d)) (σ.set i (some v)) := by
  refine ⟨by simp [h.1], fun j e q => ?_⟩
  by_cases hij : i = j
  · subst hij
    by_cases hl : i < env.length
    · rw [List.getElem?_set_self hl] at q
      cases q
      exact ⟨v, by rw [List.getElem?_set_self (by rw [← h.1]; exact hl)], r⟩
    · rw [List.getElem?_eq_none (by simpa using hl)] at q; cases q
  · rw [List.getElem?_set_ne hij] at q
    obtain ⟨w, a, b⟩ := h.2 j e q
    exact ⟨w, by rw [List.getElem?_set_ne hij]; exact a, b⟩
theorem RepE.wipe {env : Env} {σ : List (Option V)} (h : RepE K H env σ) (vs : List Nat) : RepE K H (vs.foldr (fun v e => e.set v Option.none) env) (wipe σ vs) := by
  induction vs with
  | nil => exact h
  | cons v vs ih =>
    show RepE K H ((vs.foldr (fun v e => e.set v Option.none) env).set v Option.none) ((L2.wipe σ vs).set v Option.none)
    refine ⟨by simp [ih.1], fun j e q => ?_⟩
    by_cases hij : v = j
    · subst hij
      by_cases hl : v < (vs.foldr (fun v e => e.set v Option.none) env).length
      · rw [List.getElem?_set_self hl] at q; cases q
      · rw [List.getElem?_eq_none (by simpa using hl)] at q; cases q
    · rw [List.getElem?_set_ne hij] at q
      obtain ⟨w, a, b⟩ := ih.2 j e q
      exact ⟨w, by rw [List.getElem?_set_ne hij]; exact a, b⟩
end
end PP
namespace PP
open PySem PySem.Spec PyProof.Rows L2
abbrev DTE := XD → Env → G → QD → Prop
abbrev DTA := XD → Env → G → (List D → G → Prop) → Prop
abbrev DTT := XD → Env → G → (Bool → G → Prop) → Prop
section
variable (K : PySem.W.Frag) (C : Ex → Addr)
def clos (H : Hp) (Qd : QD) (Q : VK) : Prop := ∀ d g v H', Qd d g → TK H H' → RepG K H' g → Rep K H' d v → Q v H'
def closA (H : Hp) (Qd : List D → G → Prop) (Q : List V → Hp → Prop) : Prop := ∀ d g v H', Qd d g → TK H H' → RepG K H' g → RepL K H' d v → Q v H'
def closT (H : Hp) (Qd : Bool → G → Prop) (Q : Bool → Hp → Prop) : Prop := ∀ b g H', Qd b g → TK H H' → RepG K H' g → Q b H'
def closX (H : Hp) (Xd : XD) (E : XK) : Prop := ∀ n g H', Xd n g → TK H H' → RepG K H' g → E (.ref (C n)) none H'
def up (W : WX) (t : DTE) : TE := fun σ H Q => ∃ (env : Env) (g : G) (Xd : XD) (Qd : QD), RepE K H env σ ∧ RepG K H g ∧ t Xd env g Qd ∧ clos K H Qd Q ∧ closX K C H Xd (fun c d H' => W c d σ H')
def upA (W : WX) (t : DTA) : TA := fun σ H Q => ∃ (env : Env) (g : G) (Xd : XD) (Qd : List D → G → Prop), RepE K H env σ ∧ RepG K H g ∧ t Xd env g Qd ∧ closA K H Qd Q ∧ closX K C H Xd (fun c d H' => W c d σ H')
def upT (W : WX) (t : DTT) : TT := fun σ H Q => ∃ (env : Env) (g : G) (Xd : XD) (Qd : Bool → G → Prop), RepE K H env σ ∧ RepG K H g ∧ t Xd env g Qd ∧ closT K H Qd Q ∧ closX K C H Xd (fun c d H' => W c d σ H')
end
section
variable {K : PySem.W.Frag} {C : Ex → Addr} {H H1 : Hp}
theorem clos.at {Qd : QD} {Q : VK} (k : TK H H1) (c : clos K H Qd Q) : clos K H1 Qd Q := fun d g v H' q t r1 r2 => c d g v H' q (k.trans t) r1 r2
theorem closA.at {Qd : List D → G → Prop} {Q} (k : TK H H1) (c : closA K H Qd Q) : closA K H1 Qd Q := fun d g v H' q t r1 r2 => c d g v H' q (k.trans t) r1 r2
theorem closT.at {Qd : Bool → G → Prop} {Q} (k : TK H H1) (c : closT K H Qd Q) : closT K H1 Qd Q := fun d g H' q t r1 => c d g H' q (k.trans t) r1
theorem closX.at {Xd : XD} {E : XK} (k : TK H H1) (c : closX K C H Xd E) : closX K C H1 Xd E := fun n g H' q t r => c n g H' q (k.trans t) r
end
section
variable {X : Cx}
theorem pe_imp {e : Expr} {t t' : TE} (h : PE X e t) (f : ∀ σ H Q, t' σ H Q → t σ H Q) : PE X e t' := ⟨fun pins s σ H Q I q => h.run pins s σ H Q I (f σ H Q q)⟩
theorem pa_imp {e : List Expr} {t t' : TA} (h : PA X e t) (f : ∀ σ H Q, t' σ H Q → t σ H Q) : PA X e t' := ⟨fun pos pins s σ H Q I q => h.run pos pins s σ H Q I (f σ H Q q)⟩
theorem pt_imp {e : Expr} {t t' : TT} (h : PT X e t) (f : ∀ σ H Q, t' σ H Q → t σ H Q) : PT X e t' := ⟨fun pins s σ H Q I q => h.run pins s σ H Q I (f σ H Q q)⟩
theorem pw_imp {e : Expr} {t t' : TT} (h : PW X e t) (f : ∀ σ H Q, t' σ H Q → t σ H Q) : PW X e t' := ⟨fun wh pins s σ H Q I q => h.run wh pins s σ H Q I (f σ H Q q)⟩
theorem ps_imp {e : Stmt} {t t' : TS} (h : PS X e t) (f : ∀ D σ H, t' D σ H → t D σ H) : PS X e t' := ⟨fun pins s σ H D I q => h.run pins s σ H D I (f D σ H q)⟩
theorem pss_imp {e : List Stmt} {t t' : TS} (h : PSs X e t) (f : ∀ D σ H, t' D σ H → t D σ H) : PSs X e t' := ⟨fun pins s σ H D I q => h.run pins s σ H D I (f D σ H q)⟩
end
def dVar (i : Nat) : DTE := fun _ env g Q => match env[i]? with | some (some d) => Q d g | _ => False
def dC (d : D) : DTE := fun _ _ g Q => Q d g
def dBin (r : D → D → G → QD → Prop) (ta tb : DTE) : DTE := fun X env g Q => ta X env g fun x g1 => tb X env g1 fun y g2 => r x y g2 Q
def dUn (r : D → G → QD → Prop) (ta : DTE) : DTE := fun X env g Q => ta X env g fun x g1 => r x g1 Q
def dNil : DTA := fun _ _ g Q => Q [] g
def dCons (ta : DTE) (tb : DTA) : DTA := fun X env g Q => ta X env g fun x g1 => tb X env g1 fun xs g2 => Q (x :: xs) g2
def dTup (t : DTA) : DTE := fun X env g Q => t X env g fun xs g1 => xs.length ≤ sizeLine ∧ Q (.tup xs) g1
def dLst (t : DTA) : DTE := fun X env g Q => t X env g fun xs g1 => xs.length ≤ sizeLine ∧ ∀ p, g1 p = none → Q (.ref p) (g1.up p xs)
def rUp (K : PySem.W.Frag) (r : D → D → G → QD → Prop) : R2 := fun x y H Q => ∃ d1 d2 g Qd, Rep K H d1 x ∧ Rep K H d2 y ∧ RepG K H g ∧ r d1 d2 g Qd ∧ clos K H Qd Q
section
variable {X : Cx} {C : Ex → Addr} {W : WX} {a b e : Expr} {es : List Expr} {pos : Pos} {ta tb : DTE} {tA : DTA}
theorem d_var {i : Nat} {x : Str} (hN : X.N[i]? = some x) (hv : Vis X.env.scope x) (hd : (x == ("__debug__" : Str)) = false) (hcd : (x == ("__classdict__" : Str)) = false) : PE X (.Name x pos) (up X.K C W (dVar i)) := by
  refine pe_imp (pe_var hN hv hd hcd) fun σ H Q ⟨env, g, Xd, Qd, re, rg, t, cl, cx⟩ => ?_
  unfold dVar at t
  split at t
  · rename_i d e
    obtain ⟨v, e1, r⟩ := re.2 i d e
    exact ⟨v, e1, cl _ _ _ _ t (.refl _) rg r⟩
  · exact t.elim
theorem d_const {d : D} {v : V} (h : PE X e (tC v)) (r : ∀ H, Rep X.K H d v) : PE X e (up X.K C W (dC d)) :=
  pe_imp h fun σ H Q ⟨env, g, Xd, Qd, re, rg, t, cl, cx⟩ => cl _ _ _ _ t (.refl _) rg (r H)
theorem d_op {f : Value → Value → Sem Value} {r : D → D → G → QD → Prop} {op : Operator} (ho : OpR X (binaryOp op) (rUp X.K r)) (ha : PE X a (up X.K C W ta)) (hb : PE X b (up X.K C W tb)) : PE X (.BinOp a op b pos) (up X.K C W (dBin r ta tb)) := by
  refine pe_imp (pe_op ho ha hb) fun σ H Q ⟨env, g, Xd, Qd, re, rg, t, cl, cx⟩ => ?_
  refine ⟨env, g, Xd, _, re, rg, t, fun d1 g1 v H1 q k1 r1 rv => ?_, cx⟩
  refine ⟨env, g1, Xd, _, re.keep k1, r1, q, fun d2 g2 u H2 q2 k2 r2 ru => ?_, cx.at k1⟩
  exact ⟨d1, d2, g2, Qd, rv.keep k2, ru, r2, q2, cl.at (k1.trans k2)⟩
theorem d_cmp {r : D → D → G → QD → Prop} {op : CmpOp} (ho : OpR X (compareOp op) (rUp X.K r)) (ha : PE X a (up X.K C W ta)) (hb : PE X b (up X.K C W tb)) (hm : behindInMarks op b = false) : PE X (.Compare a [op] [b] pos) (up X.K C W (dBin r ta tb)) := by
  refine pe_imp (pe_cmpR ho ha hb hm) fun σ H Q ⟨env, g, Xd, Qd, re, rg, t, cl, cx⟩ => ?_
  refine ⟨env, g, Xd, _, re, rg, t, fun d1 g1 v H1 q k1 r1 rv => ?_, cx⟩
  refine ⟨env, g1, Xd, _, re.keep k1, r1, q, fun d2 g2 u H2 q2 k2 r2 ru => ?_, cx.at k1⟩
  exact ⟨d1, d2, g2, Qd, rv.keep k2, ru, r2, q2, cl.at (k1.trans k2)⟩
theorem d_nil : PA X [] (upA X.K C W dNil) := pa_imp pa_nil fun σ H Q ⟨env, g, Xd, Qd, re, rg, t, cl, cx⟩ => cl _ _ _ _ t (.refl _) rg rfl
theorem d_cons (ha : PE X e (up X.K C W ta)) (hb : PA X es (upA X.K C W tA)) (hs : starEach (e :: es) X.env = (false, eval e X.env) :: starEach es X.env) : PA X (e :: es) (upA X.K C W (dCons ta tA)) := by
  refine pa_imp (pa_cons ha hb hs) fun σ H Q ⟨env, g, Xd, Qd, re, rg, t, cl, cx⟩ => ?_
  refine ⟨env, g, Xd, _, re, rg, t, fun d1 g1 v H1 q k1 r1 rv => ?_, cx⟩
  refine ⟨env, g1, Xd, _, re.keep k1, r1, q, fun d2 g2 u H2 q2 k2 r2 ru => ?_, cx.at k1⟩
  exact cl _ _ _ _ q2 (k1.trans k2) r2 ⟨v, u, rfl, rv.keep k2, ru⟩
theorem d_tup {x1} (h : PA X es (upA X.K C W tA)) : PE X (.Tuple es x1 pos) (up X.K C W (dTup tA)) := by
  refine pe_imp (pe_tup h) fun σ H Q ⟨env, g, Xd, Qd, re, rg, t, cl, cx⟩ => ?_
  refine ⟨env, g, Xd, _, re, rg, t, fun ds g1 vs H1 ⟨z, q⟩ k1 r1 rv => ?_, cx⟩
  refine ⟨by rw [rv.length]; exact z, fun p hp => ?_⟩
  exact cl _ _ _ _ q (k1.trans (.new hp)) (r1.tup hp) ⟨p, vs, rfl, .inl upd_same, rv.keep (.new hp)⟩
theorem d_lst (h : PA X es (upA X.K C W tA)) : PE X (.List es pos) (up X.K C W (dLst tA)) := by
  refine pe_imp (pe_lst h) fun σ H Q ⟨env, g, Xd, Qd, re, rg, t, cl, cx⟩ => ?_
  refine ⟨env, g, Xd, _, re, rg, t, fun ds g1 vs H1 ⟨z, q⟩ k1 r1 rv => ?_, cx⟩
  refine ⟨by rw [rv.length]; exact z, fun p hp => ?_⟩
  exact cl _ _ _ _ (q p (r1.none hp)) (k1.trans (.new hp)) (r1.new hp rv) rfl
end
def MulOk (i j : Int) : Prop := i.natAbs.log2 + j.natAbs.log2 < 100000000
theorem MulOk.ok {i j : Int} (h : MulOk i j) : IntMulOk i j := by
  have b : ∀ x : Int, Builtin.Int.intBits x ≤ x.natAbs.log2 + 1 := fun x => by
    unfold Builtin.Int.intBits
    split <;> omega
  have h1 := b i
  have h2 := b j
  unfold MulOk at h
  have e : bitsLine = 134217728 := by decide
  unfold IntMulOk
  intro z
  rw [Bool.and_eq_true] at z
  have z2 := z.2
  unfold Builtin.Int.intTooBig at z2
  have z3 := of_decide_eq_true z2
  rw [e] at z3
  omega
def dAdd : D → D → G → QD → Prop
  | .int i, .int j => fun g Q => Q (.int (i + j)) g
  | .str s, .str t => fun g Q => s.length + t.length ≤ sizeLine ∧ Q (.str (s ++ t)) g
  | .tup xs, .tup ys => fun g Q => xs.length + ys.length ≤ sizeLine ∧ Q (.tup (xs ++ ys)) g
  | .ref a, .ref b => fun g Q => match g a, g b with
    | some xs, some ys => xs.length + ys.length ≤ sizeLine ∧ ∀ p, g p = none → Q (.ref p) (g.up p (xs ++ ys))
    | _, _ => False
  | _, _ => fun _ _ => False
def dSub : D → D → G → QD → Prop
  | .int i, .int j => fun g Q => Q (.int (i - j)) g
  | _, _ => fun _ _ => False
def repD (k : Int) (xs : List D) : List D := (List.replicate k.toNat xs).flatten
def dMul : D → D → G → QD → Prop
  | .int i, .int j => fun g Q => MulOk i j ∧ Q (.int (i * j)) g
  | .ref a, .int k => fun g Q => match g a with
    | some xs => -(2 ^ 63) ≤ k ∧ k < 2 ^ 63 ∧ xs.length * k.toNat ≤ sizeLine ∧ ∀ p, g p = none → Q (.ref p) (g.up p (repD k xs))
    | none => False
  | .tup xs, .int k => fun g Q => xs ≠ [] ∧ 0 ≤ k ∧ k ≤ 1000 ∧ xs.length ≤ 1000 ∧ Q (.tup (repD k xs)) g
  | _, _ => fun _ _ => False
theorem tuple_mul1 (l : Addr) (items : Array Value) (n : Nat) (dd : Option Addr) (sl : Array (Option Value)) (u : Tok) :
    Meets (Builtin.«tuple.__mul__» ⟨[.ref l, .int 1 u], []⟩) (fun _ R s => s.heap.get? l = some { cls := .type "tuple", dict := dd, data := .seq items n, slots := sl } ∧ R (.ok (.ret (Value.ref l))) s) :=
  .of_wp fun prog w A R s h => by
    obtain ⟨hp, g, d, tk, os⟩ := s
    obtain ⟨hl, h⟩ := h
    have f1 := AutoSeq1.idx_int
    have c0 : (decide ((1 : Int) < -(2 ^ 63)) || decide ((1 : Int) ≥ 2 ^ 63)) = false := by decide
    have c1 : (items.isEmpty || (1 : Int) == 1) = true := by simp
    wp_walk using wpAny_loadPart' hl
    exact ⟨_, rfl, h⟩
theorem op_rep1 {X : Cx} : OpR X (binaryOp .Mult) (fun x y H Q => ∃ l xs, x = .ref l ∧ y = .int 1 ∧ SqT X.K H l xs ∧ Q (.ref l) H) := by
  intro pins s σ H x y v u Q I rx ry h
  obtain ⟨l, xs, rfl, rfl, hT, q⟩ := h
  cases rx
  obtain ⟨t, rfl⟩ := ry
  obtain ⟨its, r, ⟨⟨cls, dd, data, sl⟩, ho, hc, n, hd⟩, hs⟩ := I.tuple hT
  simp only at hc hd
  subst hc hd
  refine wpAny_binaryOp_repeat_ref (T := "tuple") (U := "int") (by decide) ⟨_, ho, rfl⟩ (fun s' => typeIs_int s' 1 t) noFill_tuple_mul F.fills_int_mul F.slot_int_rmul repeat_tuple F.slot_int_index.lookup
    (call_meets F.slot_int_rmul (typeIs_int s 1 t) F.entry_int_rmul (F.args_int_rmul_2 _ _) (int_rmul_tuple 1 t l its.toArray n dd sl)
      ⟨ho, rfl, ⟨_, ho, rfl⟩, call_meets F.slot_tuple_mul ⟨_, ho, rfl⟩ F.entry_tuple_mul (F.args_tuple_mul_2 _ _) (tuple_mul1 l its.toArray n dd sl t) ⟨ho, ?_⟩⟩)
  exact ⟨.ref l, H, I, rfl, q⟩
theorem tuple_mul0 (l : Addr) (items : Array Value) (n : Nat) (dd : Option Addr) (sl : Array (Option Value)) (u : Tok) (c1 : (items.isEmpty || (0 : Int) == 1) = false) :
    Meets (Builtin.«tuple.__mul__» ⟨[.ref l, .int 0 u], []⟩) (fun _ R s => s.heap.get? l = some { cls := .type "tuple", dict := dd, data := .seq items n, slots := sl } ∧
      R (.ok (.ret (Value.ref s.heap.objs.size))) { s with heap := s.heap.push { cls := Value.type "tuple", data := Data.seq #[] }, toks := s.toks }) :=
  .of_wp fun prog w A R s h => by
    obtain ⟨hp, g, d, tk, os⟩ := s
    obtain ⟨hl, h⟩ := h
    have f1 := AutoSeq1.idx_int
    have c0 : (decide ((0 : Int) < -(2 ^ 63)) || decide ((0 : Int) ≥ 2 ^ 63)) = false := by decide
    have c2 : (decide ((0 : Int) ≤ 0) || items.isEmpty) = true := by simp
    wp_walk using wpAny_loadPart' hl
    repeat (first
      | (refine wpAny_ite_false (decide_eq_false (by rw [c1]; exact Bool.false_ne_true)) ?_; wp_walk using wpAny_loadPart' hl)
      | (refine wpAny_ite_true (decide_eq_true (by rw [c2])) ?_; wp_walk using wpAny_loadPart' hl))
    exact ⟨_, rfl, h⟩
theorem op_rep0 {X : Cx} : OpR X (binaryOp .Mult) (fun x y H Q => ∃ l xs, x = .ref l ∧ y = .int 0 ∧ SqT X.K H l xs ∧ xs ≠ [] ∧ ∀ p, H p = none → Q (.ref p) (upd H p (.tup []))) := by
  intro pins s σ H x y v u Q I rx ry h
  obtain ⟨l, xs, rfl, rfl, hT, hne, q⟩ := h
  cases rx
  obtain ⟨t, rfl⟩ := ry
  obtain ⟨its, r, ⟨⟨cls, dd, data, sl⟩, ho, hc, n, hd⟩, hs⟩ := I.tuple hT
  simp only at hc hd
  subst hc hd
  have hle : its.length = xs.length := r.length.symm
  have c1 : (its.toArray.isEmpty || (0 : Int) == 1) = false := by
    cases its with
    | nil => exact absurd (List.eq_nil_of_length_eq_zero hle.symm) hne
    | cons a b => rfl
  refine wpAny_binaryOp_repeat_ref (T := "tuple") (U := "int") (by decide) ⟨_, ho, rfl⟩ (fun s' => typeIs_int s' 0 t) noFill_tuple_mul F.fills_int_mul F.slot_int_rmul repeat_tuple F.slot_int_index.lookup
    (call_meets F.slot_int_rmul (typeIs_int s 0 t) F.entry_int_rmul (F.args_int_rmul_2 _ _) (int_rmul_tuple 0 t l its.toArray n dd sl)
      ⟨ho, rfl, ⟨_, ho, rfl⟩, call_meets F.slot_tuple_mul ⟨_, ho, rfl⟩ F.entry_tuple_mul (F.args_tuple_mul_2 _ _) (tuple_mul0 l its.toArray n dd sl t c1) ⟨ho, ?_⟩⟩)
  refine ⟨.ref s.heap.objs.size, _, I.laid (t' := s.toks) (o := .tup []) (fun b ob q => Heap.get?_push_of_some _ q) (Nat.le_refl _) ?_, rfl, q _ (I.hok.fresh (Nat.le_refl _))⟩
  exact ⟨Nat.zero_le _, [], .nil, IsTup.new _ _⟩
def dPow : D → D → G → QD → Prop
  | .int i, .int j => fun g Q => (0 ≤ j ∧ j ≤ 1000000 ∧ i.natAbs < 2 ^ 64) ∧ Q (.int (i ^ j.toNat)) g
  | _, _ => fun _ _ => False
def dMod : D → D → G → QD → Prop
  | .int i, .int j => fun g Q => j ≠ 0 ∧ Q (.int (i.fmod j)) g
  | _, _ => fun _ _ => False
def dLt : D → D → G → QD → Prop
  | .int i, .int j => fun g Q => Q (.bl (decide (i < j))) g
  | _, _ => fun _ _ => False
def dLe : D → D → G → QD → Prop
  | .int i, .int j => fun g Q => Q (.bl (decide (i ≤ j))) g
  | _, _ => fun _ _ => False
def dGt : D → D → G → QD → Prop
  | .int i, .int j => fun g Q => Q (.bl (decide (j < i))) g
  | _, _ => fun _ _ => False
def dGe : D → D → G → QD → Prop
  | .int i, .int j => fun g Q => Q (.bl (decide (j ≤ i))) g
  | _, _ => fun _ _ => False
section
variable {X : Cx}
theorem o_int {f : Value → Value → Sem Value} {P : Int → Int → Prop} {k : Int → Int → D} {kv : Int → Int → V} (h : OpR X f (rI P kv)) (hk : ∀ i j H, Rep X.K H (k i j) (kv i j)) : OpR X f (rUp X.K (fun x y => match x, y with | .int i, .int j => fun g Q => P i j ∧ Q (k i j) g | _, _ => fun _ _ => False)) := by
  intro pins s σ H x y v u Q I rx ry ⟨d1, d2, g, Qd, r1, r2, rg, r, cl⟩
  dsimp only at r
  split at r
  · rename_i i j
    have e1 : x = V.int i := r1
    have e2 : y = V.int j := r2
    exact h pins s σ H x y v u Q I rx ry ⟨i, j, e1, e2, r.1, cl _ _ _ _ r.2 (.refl _) rg (hk i j H)⟩
  · exact r.elim
theorem o_int0 {f : Value → Value → Sem Value} {k : Int → Int → D} {kv : Int → Int → V} (h : OpR X f (rI0 kv)) (hk : ∀ i j H, Rep X.K H (k i j) (kv i j)) : OpR X f (rUp X.K (fun x y => match x, y with | .int i, .int j => fun g Q => Q (k i j) g | _, _ => fun _ _ => False)) := by
  intro pins s σ H x y v u Q I rx ry ⟨d1, d2, g, Qd, r1, r2, rg, r, cl⟩
  dsimp only at r
  split at r
  · rename_i i j
    have e1 : x = V.int i := r1
    have e2 : y = V.int j := r2
    exact h pins s σ H x y v u Q I rx ry ⟨i, j, e1, e2, cl _ _ _ _ r (.refl _) rg (hk i j H)⟩
  · exact r.elim
theorem opr_imp {f : Value → Value → Sem Value} {r r' : R2} (h : OpR X f r) (k : ∀ x y H Q, r' x y H Q → r x y H Q) : OpR X f r' := fun pins s σ H x y v u Q I rx ry q => h pins s σ H x y v u Q I rx ry (k _ _ _ _ q)
theorem o_sub : OpR X (binaryOp .Sub) (rUp X.K dSub) := opr_imp (o_int0 (k := fun i j => .int (i - j)) op_sub fun _ _ _ => rfl) fun x y H Q ⟨d1, d2, g, Qd, r1, r2, rg, r, cl⟩ => ⟨d1, d2, g, Qd, r1, r2, rg, by unfold dSub at r; split at r <;> first | exact r | exact False.elim r, cl⟩
theorem o_lt : OpR X (compareOp .Lt) (rUp X.K dLt) := opr_imp (o_int0 (k := fun i j => .bl (decide (i < j))) op_lt fun _ _ _ => rfl) fun x y H Q ⟨d1, d2, g, Qd, r1, r2, rg, r, cl⟩ => ⟨d1, d2, g, Qd, r1, r2, rg, by unfold dLt at r; split at r <;> first | exact r | exact False.elim r, cl⟩
theorem o_le : OpR X (compareOp .LtE) (rUp X.K dLe) := opr_imp (o_int0 (k := fun i j => .bl (decide (i ≤ j))) op_le fun _ _ _ => rfl) fun x y H Q ⟨d1, d2, g, Qd, r1, r2, rg, r, cl⟩ => ⟨d1, d2, g, Qd, r1, r2, rg, by unfold dLe at r; split at r <;> first | exact r | exact False.elim r, cl⟩
theorem o_gt : OpR X (compareOp .Gt) (rUp X.K dGt) := opr_imp (o_int0 (k := fun i j => .bl (decide (j < i))) op_gt fun _ _ _ => rfl) fun x y H Q ⟨d1, d2, g, Qd, r1, r2, rg, r, cl⟩ => ⟨d1, d2, g, Qd, r1, r2, rg, by unfold dGt at r; split at r <;> first | exact r | exact False.elim r, cl⟩
theorem o_ge : OpR X (compareOp .GtE) (rUp X.K dGe) := opr_imp (o_int0 (k := fun i j => .bl (decide (j ≤ i))) op_ge fun _ _ _ => rfl) fun x y H Q ⟨d1, d2, g, Qd, r1, r2, rg, r, cl⟩ => ⟨d1, d2, g, Qd, r1, r2, rg, by unfold dGe at r; split at r <;> first | exact r | exact False.elim r, cl⟩
theorem o_mod : OpR X (binaryOp .Mod) (rUp X.K dMod) := opr_imp (o_int (P := fun _ j => j ≠ 0) (k := fun i j => .int (i.fmod j)) op_modN fun _ _ _ => rfl) fun x y H Q ⟨d1, d2, g, Qd, r1, r2, rg, r, cl⟩ => ⟨d1, d2, g, Qd, r1, r2, rg, by unfold dMod at r; split at r <;> first | exact r | exact False.elim r, cl⟩
theorem o_pow : OpR X (binaryOp .Pow) (rUp X.K dPow) := opr_imp (o_int (P := CPow) (k := fun i j => .int (i ^ j.toNat)) op_pow fun _ _ _ => rfl) fun x y H Q ⟨d1, d2, g, Qd, r1, r2, rg, r, cl⟩ => ⟨d1, d2, g, Qd, r1, r2, rg, by unfold dPow at r; split at r <;> first | exact r | exact False.elim r, cl⟩
theorem op_mulB : OpR X (binaryOp .Mult) (rI MulOk fun i j => .int (i * j)) := opI fun _ _ _ _ _ _ _ hc q => mul_int q hc.ok
theorem o_mul : OpR X (binaryOp .Mult) (rUp X.K dMul) := by
  intro pins s σ H x y v u Q I rx ry ⟨d1, d2, g, Qd, r1, r2, rg, r, cl⟩
  unfold dMul at r
  split at r
  · rename_i i j
    have e1 : x = V.int i := r1
    have e2 : y = V.int j := r2
    exact op_mulB pins s σ H x y v u Q I rx ry ⟨i, j, e1, e2, r.1, cl _ _ _ _ r.2 (.refl _) rg rfl⟩
  · rename_i a k
    have e1 : x = V.ref a := r1
    have e2 : y = V.int k := r2
    split at r
    · rename_i xs e
      obtain ⟨vs, hq, rl⟩ := rg a xs e
      obtain ⟨k1, k2, k3, q⟩ := r
      refine op_rep pins s σ H x y v u Q I rx ry ⟨a, k, vs, e1, e2, hq, k1, k2, by rw [rl.length]; exact k3, fun p hp => ?_⟩
      refine cl _ _ _ _ (q p (rg.none hp)) (.new hp) (rg.new hp ?_) rfl
      unfold repD
      induction k.toNat with
      | zero => simp [RepL]
      | succ n ih => simp only [List.replicate_succ, List.flatten_cons]; exact rl.app ih
    · exact r.elim
  · rename_i xs k
    have e2 : y = V.int k := r2
    obtain ⟨p, vs, e1, t, rl⟩ := r1
    obtain ⟨hne, k1, k2, k3, q⟩ := r
    by_cases hk : k = 1
    · subst hk
      refine op_rep1 pins s σ H x y v u Q I rx ry ⟨p, vs, e1, e2, t.sq, ?_⟩
      refine cl _ _ _ _ q (.refl _) rg ⟨p, vs, rfl, t, ?_⟩
      have e : repD 1 xs = xs := by simp [repD]
      rw [e]
      exact rl
    · have hvs : vs ≠ [] := fun z => by
        subst z
        cases xs with
        | nil => exact hne rfl
        | cons a b => obtain ⟨_, _, e, _⟩ := rl; cases e
      by_cases hk0 : k = 0
      · subst hk0
        refine op_rep0 pins s σ H x y v u Q I rx ry ⟨p, vs, e1, e2, t.sq, hvs, fun p' hp => ?_⟩
        exact cl _ _ _ _ q (.new hp) (rg.tup hp) ⟨p', [], rfl, .inl upd_same, rfl⟩
      refine op_repT pins s σ H x y v u Q I rx ry ⟨p, k, vs, e1, e2, t.sq, hvs, by omega, k2, by rw [rl.length]; exact k3, fun p' hp => ?_⟩
      refine cl _ _ _ _ q (.new hp) (rg.tup hp) ⟨p', _, rfl, .inl upd_same, ?_⟩
      have rl2 := rl.keep (.new (o := .tup (List.replicate k.toNat vs).flatten) hp)
      generalize upd H p' _ = H2 at rl2 ⊢
      unfold repD
      generalize k.toNat = m
      induction m with
      | zero => simp [RepL]
      | succ n ih => simp only [List.replicate_succ, List.flatten_cons]; exact rl2.app ih
  · exact r.elim
theorem o_add : OpR X (binaryOp .Add) (rUp X.K dAdd) := by
  intro pins s σ H x y v u Q I rx ry ⟨d1, d2, g, Qd, r1, r2, rg, r, cl⟩
  unfold dAdd at r
  split at r
  · rename_i i j
    have e1 : x = V.int i := r1
    have e2 : y = V.int j := r2
    exact op_add pins s σ H x y v u Q I rx ry ⟨i, j, e1, e2, cl _ _ _ _ r (.refl _) rg rfl⟩
  · rename_i i j
    have e1 : x = V.str i := r1
    have e2 : y = V.str j := r2
    exact op_add_str pins s σ H x y v u Q I rx ry ⟨i, j, e1, e2, r.1, cl _ _ _ _ r.2 (.refl _) rg rfl⟩
  · rename_i xs ys
    obtain ⟨p, vs, e1, t1, l1⟩ := r1
    obtain ⟨q, ws, e2, t2, l2⟩ := r2
    refine op_catA pins s σ H x y v u Q I rx ry ⟨p, q, vs, ws, e1, e2, t1.sq, t2.sq, by rw [l1.length, l2.length]; exact r.1, fun z => ?_, fun _ z => ?_, fun _ _ o ho => ?_⟩
    · subst z
      refine cl _ _ _ _ r.2 (.refl _) rg ?_
      exact ⟨q, ws, rfl, t2, l1.app l2⟩
    · subst z
      refine cl _ _ _ _ r.2 (.refl _) rg ⟨p, vs, rfl, t1, ?_⟩
      simpa using l1.app l2
    · exact cl _ _ _ _ r.2 (.new ho) (rg.tup ho) ⟨o, vs ++ ws, rfl, .inl upd_same, (l1.app l2).keep (.new ho)⟩
  · rename_i a b
    have e1 : x = V.ref a := r1
    have e2 : y = V.ref b := r2
    split at r
    · rename_i xs ys h1 h2
      obtain ⟨vs, q1, l1⟩ := rg a xs h1
      obtain ⟨ws, q2, l2⟩ := rg b ys h2
      refine op_cat pins s σ H x y v u Q I rx ry ⟨a, b, vs, ws, e1, e2, q1, q2, by rw [l1.length, l2.length]; exact r.1, fun p hp => ?_⟩
      exact cl _ _ _ _ (r.2 p (rg.none hp)) (.new hp) (rg.new hp (l1.app l2)) rfl
    · exact r.elim
  · exact r.elim
end
end PP
namespace PP
open PySem PySem.Spec PyProof.Rows L2
structure Stk (X : Cx) : Prop where
  seer : X.base.NoSeer
  tree : X.prog.given.tree = none
  room : Room 40 X.A
  stk : ∃ env l, X.stack = env :: l ∧ env.scope.isGenerator = false ∧ env.scope.isCoroutine = false ∧ env.builtins = builtinsNs ∧ env.globals = mainGlobals
def dFdiv : D → D → G → QD → Prop
  | .int i, .int j => fun g Q => j ≠ 0 ∧ Q (.int (i.fdiv j)) g
  | _, _ => fun _ _ => False
theorem o_fdiv {X : Cx} (S : Stk X) : OpR X (binaryOp .FloorDiv) (rUp X.K dFdiv) := by
  intro pins s σ H x y v u Q I rx ry ⟨d1, d2, g, Qd, r1, r2, rg, r, cl⟩
  unfold dFdiv at r
  split at r
  · rename_i i j
    have e1 : x = V.int i := r1
    have e2 : y = V.int j := r2
    subst e1 e2
    obtain ⟨t, rfl⟩ := rx
    obtain ⟨t', rfl⟩ := ry
    obtain ⟨env, l, hs, h1, h2, h3, h4⟩ := S.stk
    refine floordiv_int r.1 ⟨.int (i.fdiv j), H, I.tok _, ⟨_, rfl⟩, cl _ _ _ _ r.2 (.refl _) rg rfl⟩ (.inr (PylongRoom.of I.nolimit ?_ ?_))
    · have := S.room.dp
      show X.A.depth + 100 < recursionLimit
      omega
    · exact SeerAt.of (S.seer.keeps I.bk) S.tree (by rw [I.ok.frames, hs]) h1 h2 h3 h4
  · exact r.elim
mutual
def pyW (f : Addr → Option PyData) : D → Option PyData
  | .non => some .none
  | .bl b => some (.bool b)
  | .int i => some (.int i)
  | .str s => some (.str s)
  | .ref a => f a
  | .scr _ => none
  | .exc _ => none
  | .emp => none
  | .tup ds => match pyWL f ds with | some xs => some (.tuple xs) | none => none
def pyWL (f : Addr → Option PyData) : List D → Option (List PyData)
  | [] => some []
  | d :: ds => match pyW f d, pyWL f ds with | some x, some xs => some (x :: xs) | _, _ => none
end
def pyN : Nat → G → Addr → Option PyData
  | 0, _, _ => none
  | n + 1, g, a => match g a with
    | some ds => match pyWL (pyN n g) ds with | some xs => some (.list xs) | none => none
    | none => none
def py (g : G) (d : D) : Option PyData := pyW (pyN 4 g) d
section
variable {K : PySem.W.Frag} {H : Hp}
mutual
theorem pyW_dp {f : Addr → Option PyData} (hf : ∀ a p, f a = some p → Dp K H (.ref a) p) : ∀ {d : D} {v : V} {p : PyData}, pyW f d = some p → Rep K H d v → Dp K H v p
  | .non, v, p, e, h => by cases (show v = .non from h); cases e; exact .non
  | .bl b, v, p, e, h => by cases (show v = .bl b from h); cases e; exact .bl b
  | .int b, v, p, e, h => by cases (show v = .int b from h); cases e; exact .int b
  | .str b, v, p, e, h => by cases (show v = .str b from h); cases e; exact .str b
  | .ref b, v, p, e, h => by cases (show v = .ref b from h); exact hf _ _ e
  | .scr b, v, p, e, h => by cases e
  | .exc b, v, p, e, h => by cases e
  | .emp, v, p, e, h => by cases e
  | .tup ds, v, p, e, ⟨a, vs, e1, t, r⟩ => by
    unfold pyW at e
    split at e
    · rename_i xs q
      cases e; subst e1
      exact .tup t.sq (pyWL_dp hf q r)
    · cases e
theorem pyWL_dp {f : Addr → Option PyData} (hf : ∀ a p, f a = some p → Dp K H (.ref a) p) : ∀ {d : List D} {v : List V} {p : List PyData}, pyWL f d = some p → RepL K H d v → DpAll K H v p
  | [], v, p, e, h => by cases (show v = [] from h); cases e; exact .nil
  | d :: ds, v, p, e, ⟨w, r, e1, h, t⟩ => by
    unfold pyWL at e
    split at e
    · rename_i x xs q1 q2
      cases e; subst e1
      exact .cons (pyW_dp hf q1 h) (pyWL_dp hf q2 t)
    · cases e
end
theorem pyN_dp {g : G} (rg : RepG K H g) : ∀ (n : Nat) (a : Addr) (p : PyData), pyN n g a = some p → Dp K H (.ref a) p
  | 0, a, p, e => by cases e
  | n + 1, a, p, e => by
    unfold pyN at e
    split at e
    · rename_i ds q
      split at e
      · rename_i xs q2
        cases e
        obtain ⟨vs, h, r⟩ := rg a ds q
        exact .lst (.of h) (pyWL_dp (pyN_dp rg n) q2 r)
      · cases e
    · cases e
theorem py_dp {g : G} (rg : RepG K H g) {d : D} {v : V} {p : PyData} (e : py g d = some p) (r : Rep K H d v) : Dp K H v p := pyW_dp (pyN_dp rg 4) e r
end
def dEqB (n : Bool) : D → D → G → QD → Prop
  | .int i, .int j => fun g Q => Q (.bl (n != decide (i = j))) g
  | .str i, .str j => fun g Q => Q (.bl (n != decide (i = j))) g
  | .bl i, .bl j => fun g Q => Q (.bl (n != decide (i = j))) g
  | x, y => fun g Q => match py g x, py g y with
    | some p, some q => SeqAt.shaped p = true ∧ SeqAt.shaped q = true ∧ Q (.bl (n != PyData.eqv p q)) g
    | _, _ => False
section
variable {X : Cx}
theorem o_eq (hu : X.A.units + 64 < cLine) : OpR X (compareOp .Eq) (rUp X.K (dEqB false)) := by
  intro pins s σ H x y v u Q I rx ry ⟨d1, d2, g, Qd, r1, r2, rg, r, cl⟩
  unfold dEqB at r
  split at r
  · rename_i i j
    have e1 : x = V.int i := r1
    have e2 : y = V.int j := r2
    subst e1 e2
    refine op_eq pins s σ H _ _ v u Q I rx ry ⟨rfl, ?_⟩
    have e : decide (V.int i = V.int j) = (false != decide (i = j)) := by simp
    rw [e]
    exact cl _ _ _ _ r (.refl _) rg rfl
  · rename_i i j
    have e1 : x = V.str i := r1
    have e2 : y = V.str j := r2
    subst e1 e2
    refine op_eq pins s σ H _ _ v u Q I rx ry ⟨rfl, ?_⟩
    have e : decide (V.str i = V.str j) = (false != decide (i = j)) := by simp
    rw [e]
    exact cl _ _ _ _ r (.refl _) rg rfl
  · rename_i i j
    have e1 : x = V.bl i := r1
    have e2 : y = V.bl j := r2
    subst e1 e2
    refine op_eq pins s σ H _ _ v u Q I rx ry ⟨rfl, ?_⟩
    have e : decide (V.bl i = V.bl j) = (false != decide (i = j)) := by simp
    rw [e]
    exact cl _ _ _ _ r (.refl _) rg rfl
  · split at r
    · rename_i p q e1 e2
      refine op_eqD hu pins s σ H x y v u Q I rx ry ⟨p, q, py_dp rg e1 r1, py_dp rg e2 r2, r.1, r.2.1, ?_⟩
      have e : PyData.eqv p q = (false != PyData.eqv p q) := by simp
      rw [e]
      exact cl _ _ _ _ r.2.2 (.refl _) rg rfl
    · exact r.elim
theorem o_ne (hu : X.A.units + 64 < cLine) : OpR X (compareOp .NotEq) (rUp X.K (dEqB true)) := by
  intro pins s σ H x y v u Q I rx ry ⟨d1, d2, g, Qd, r1, r2, rg, r, cl⟩
  unfold dEqB at r
  split at r
  · rename_i i j
    have e1 : x = V.int i := r1
    have e2 : y = V.int j := r2
    subst e1 e2
    refine op_ne pins s σ H _ _ v u Q I rx ry ⟨rfl, ?_⟩
    have e : (!decide (V.int i = V.int j)) = (true != decide (i = j)) := by simp
    rw [e]
    exact cl _ _ _ _ r (.refl _) rg rfl
  · rename_i i j
    have e1 : x = V.str i := r1
    have e2 : y = V.str j := r2
    subst e1 e2
    refine op_ne pins s σ H _ _ v u Q I rx ry ⟨rfl, ?_⟩
    have e : (!decide (V.str i = V.str j)) = (true != decide (i = j)) := by simp
    rw [e]
    exact cl _ _ _ _ r (.refl _) rg rfl
  · rename_i i j
    have e1 : x = V.bl i := r1
    have e2 : y = V.bl j := r2
    subst e1 e2
    refine op_ne pins s σ H _ _ v u Q I rx ry ⟨rfl, ?_⟩
    have e : (!decide (V.bl i = V.bl j)) = (true != decide (i = j)) := by simp
    rw [e]
    exact cl _ _ _ _ r (.refl _) rg rfl
  · split at r
    · rename_i p q e1 e2
      refine op_neD hu pins s σ H x y v u Q I rx ry ⟨p, q, py_dp rg e1 r1, py_dp rg e2 r2, r.1, r.2.1, ?_⟩
      have e : (!PyData.eqv p q) = (true != PyData.eqv p q) := by simp
      rw [e]
      exact cl _ _ _ _ r.2.2 (.refl _) rg rfl
    · exact r.elim
end
def isNonD : D → Bool
  | .non => true
  | _ => false
def dIsN (n : Bool) : D → D → G → QD → Prop
  | x, .non => fun g Q => Q (.bl (n != isNonD x)) g
  | .bl a, .bl b => fun g Q => Q (.bl (n != decide (a = b))) g
  | _, _ => fun _ _ => False
theorem op_is_bl {X : Cx} : OpR X (compareOp .Is) (fun x y H Q => ∃ m n, x = .bl m ∧ y = .bl n ∧ Q (.bl (decide (m = n))) H) := by
  intro pins s σ H x y v u Q I rx ry h
  obtain ⟨m, n, rfl, rfl, q⟩ := h
  cases (show v = Value.bool m from rx)
  cases (show u = Value.bool n from ry)
  by_cases e : m = n
  · subst e
    exact wpAny_is_self rfl ⟨.bl true, H, I, rfl, by simpa using q⟩
  · exact wpAny_is_other rfl (fun z => e (Value.bool.inj z)) ⟨.bl false, H, I, rfl, by simpa [e] using q⟩
theorem op_isNot_bl {X : Cx} : OpR X (compareOp .IsNot) (fun x y H Q => ∃ m n, x = .bl m ∧ y = .bl n ∧ Q (.bl (!decide (m = n))) H) := by
  intro pins s σ H x y v u Q I rx ry h
  obtain ⟨m, n, rfl, rfl, q⟩ := h
  cases (show v = Value.bool m from rx)
  cases (show u = Value.bool n from ry)
  by_cases e : m = n
  · subst e
    exact wpAny_isNot_self rfl ⟨.bl false, H, I, rfl, by simpa using q⟩
  · exact wpAny_isNot_other rfl (fun z => e (Value.bool.inj z)) ⟨.bl true, H, I, rfl, by simpa [e] using q⟩
section
variable {X : Cx}
theorem isNonD_rep {K H x v} (r : Rep K H x v) : decide (v = V.non) = isNonD x := by
  cases x with
  | non => cases (show v = .non from r); rfl
  | bl b => cases (show v = .bl b from r); rfl
  | int b => cases (show v = .int b from r); rfl
  | str b => cases (show v = .str b from r); rfl
  | ref b => cases (show v = .ref b from r); rfl
  | scr b => obtain ⟨a, rfl, _⟩ := r; rfl
  | exc b => obtain ⟨a, rfl, _⟩ := r; rfl
  | emp => obtain ⟨a, _, rfl, _⟩ := r; rfl
  | tup b => obtain ⟨a, _, rfl, _⟩ := r; rfl
theorem o_isN : OpR X (compareOp .Is) (rUp X.K (dIsN false)) := by
  intro pins s σ H x y v u Q I rx ry ⟨d1, d2, g, Qd, r1, r2, rg, r, cl⟩
  unfold dIsN at r
  split at r
  · have e2 : y = V.non := r2
    subst e2
    refine op_isN pins s σ H _ _ v u Q I rx ry ⟨rfl, ?_⟩
    rw [isNonD_rep r1]
    have e : isNonD d1 = (false != isNonD d1) := by simp
    rw [e]
    exact cl _ _ _ _ r (.refl _) rg rfl
  · rename_i a b
    refine op_is_bl pins s σ H _ _ v u Q I rx ry ⟨a, b, r1, r2, cl _ _ _ _ r (.refl _) rg ?_⟩
    show _ = V.bl _
    simp
  · exact r.elim
theorem o_notN : OpR X (compareOp .IsNot) (rUp X.K (dIsN true)) := by
  intro pins s σ H x y v u Q I rx ry ⟨d1, d2, g, Qd, r1, r2, rg, r, cl⟩
  unfold dIsN at r
  split at r
  · have e2 : y = V.non := r2
    subst e2
    refine op_notN pins s σ H _ _ v u Q I rx ry ⟨rfl, ?_⟩
    rw [isNonD_rep r1]
    have e : (!isNonD d1) = (true != isNonD d1) := by simp
    rw [e]
    exact cl _ _ _ _ r (.refl _) rg rfl
  · rename_i a b
    refine op_isNot_bl pins s σ H _ _ v u Q I rx ry ⟨a, b, r1, r2, cl _ _ _ _ r (.refl _) rg ?_⟩
    show _ = V.bl _
    simp
  · exact r.elim
end
theorem fbn (b : Bool) : (false != b) = b := by cases b <;> rfl
theorem tbn (b : Bool) : (true != b) = !b := by cases b <;> rfl
def flatD : D → Bool
  | .non => true
  | .bl _ => true
  | .int _ => true
  | .str _ => true
  | _ => false
def feq : D → D → Bool
  | .non, .non => true
  | .bl a, .bl b => a == b
  | .bl a, .int b => (if a then 1 else 0) == b
  | .int a, .bl b => a == (if b then 1 else 0)
  | .int a, .int b => a == b
  | .str a, .str b => a == b
  | _, _ => false
def memPy (d : PyData) (ds : List PyData) : Bool := ds.any fun z => PyData.eqv z d
def dIn (n : Bool) : D → D → G → QD → Prop
  | .str s, .str z => fun g Q => match s.cps.toList with
    | [c] => Q (.bl (n != decide (c ∈ z.cps.toList))) g
    | _ => False
  | x, .tup ys => fun g Q => flatD x = true ∧ ys.all flatD = true ∧ Q (.bl (n != ys.any fun y => feq y x)) g
  | x, .ref a => fun g Q => match py g x, pyN 4 g a with
    | some p, some (.list qs) => SeqAt.shaped p = true ∧ SeqAt.shaped (.list qs) = true ∧ Q (.bl (n != memPy p qs)) g
    | _, _ => False
  | _, _ => fun _ _ => False
section
variable {K : PySem.W.Frag} {H : Hp}
theorem flat_rep {x : D} {v : V} (r : Rep K H x v) (f : flatD x = true) : flatV v = true := by
  cases x with
  | non => cases (show v = .non from r); rfl
  | bl b => cases (show v = .bl b from r); rfl
  | int b => cases (show v = .int b from r); rfl
  | str b => cases (show v = .str b from r); rfl
  | _ => cases f
theorem feq_rep {x y : D} {v w : V} (r : Rep K H x v) (q : Rep K H y w) (f : flatD x = true) (k : flatD y = true) : eqV w v = feq y x := by
  cases x with
  | non => cases (show v = .non from r); cases y with
    | non => cases (show w = .non from q); rfl
    | bl b => cases (show w = .bl b from q); rfl
    | int b => cases (show w = .int b from q); rfl
    | str b => cases (show w = .str b from q); rfl
    | _ => cases k
  | bl b => cases (show v = .bl b from r); cases y with
    | non => cases (show w = .non from q); rfl
    | bl b => cases (show w = .bl b from q); rfl
    | int b => cases (show w = .int b from q); rfl
    | str b => cases (show w = .str b from q); rfl
    | _ => cases k
  | int b => cases (show v = .int b from r); cases y with
    | non => cases (show w = .non from q); rfl
    | bl b => cases (show w = .bl b from q); rfl
    | int b => cases (show w = .int b from q); rfl
    | str b => cases (show w = .str b from q); rfl
    | _ => cases k
  | str b => cases (show v = .str b from r); cases y with
    | non => cases (show w = .non from q); rfl
    | bl b => cases (show w = .bl b from q); rfl
    | int b => cases (show w = .int b from q); rfl
    | str b => cases (show w = .str b from q); rfl
    | _ => cases k
  | _ => cases f
theorem any_rep {x : D} {v : V} (r : Rep K H x v) (f : flatD x = true) : ∀ {ys : List D} {vs : List V}, RepL K H ys vs → ys.all flatD = true → vs.all flatV = true ∧ inV v vs = ys.any fun y => feq y x
  | [], vs, h, _ => by cases (show vs = [] from h); exact ⟨rfl, rfl⟩
  | y :: ys, vs, ⟨w, t, e, h, l⟩, k => by
    subst e
    simp only [List.all_cons, Bool.and_eq_true] at k
    obtain ⟨a, b⟩ := any_rep r f l k.2
    refine ⟨by simp [flat_rep h k.1, a], ?_⟩
    show ((eqV w v) || inV v t) = _
    rw [b, feq_rep r h f k.1, List.any_cons]
end
section
variable {X : Cx}
theorem o_in (hu : X.A.units + 65 < cLine) : OpR X (compareOp .In) (rUp X.K (dIn false)) := by
  intro pins s σ H x y v u Q I rx ry ⟨d1, d2, g, Qd, r1, r2, rg, r, cl⟩
  unfold dIn at r
  split at r
  · rename_i a z
    have e1 : x = V.str a := r1
    have e2 : y = V.str z := r2
    subst e1 e2
    split at r
    · rename_i c e
      have e3 : a = ⟨#[c]⟩ := by
        obtain ⟨cps⟩ := a
        congr
        apply Array.ext'
        simpa using e
      subst e3
      refine op_in_sign pins s σ H _ _ v u Q I rx ry ⟨c, z, rfl, rfl, ?_⟩
      have e : decide (c ∈ z.cps.toList) = (false != decide (c ∈ z.cps.toList)) := by simp
      rw [e]
      exact cl _ _ _ _ r (.refl _) rg rfl
    · exact r.elim
  · obtain ⟨p, vs, e, t, l⟩ := r2
    obtain ⟨k1, k2, q⟩ := r
    obtain ⟨a, b⟩ := any_rep r1 k1 l k2
    refine op_in_seq pins s σ H x y v u Q I rx ry ⟨p, vs, e, .inr t.sq, flat_rep r1 k1, a, ?_⟩
    rw [if_neg Bool.false_ne_true, b]
    rw [fbn] at q
    exact cl _ _ _ _ q (.refl _) rg rfl
  · rename_i a
    split at r
    · rename_i p qs e1 e2
      have e3 : y = V.ref a := r2
      subst e3
      refine op_inD hu pins s σ H x _ v u Q I rx ry ⟨p, qs, py_dp rg e1 r1, pyN_dp rg 4 a _ e2, r.1, r.2.1, ?_⟩
      have e : (qs.any fun z => PyData.eqv z p) = (false != memPy p qs) := by simp [memPy]
      rw [e]
      exact cl _ _ _ _ r.2.2 (.refl _) rg rfl
    · exact r.elim
  · exact r.elim
theorem o_notIn (hu : X.A.units + 65 < cLine) : OpR X (compareOp .NotIn) (rUp X.K (dIn true)) := by
  intro pins s σ H x y v u Q I rx ry ⟨d1, d2, g, Qd, r1, r2, rg, r, cl⟩
  unfold dIn at r
  split at r
  · rename_i a z
    have e1 : x = V.str a := r1
    have e2 : y = V.str z := r2
    subst e1 e2
    split at r
    · rename_i c e
      have e3 : a = ⟨#[c]⟩ := by
        obtain ⟨cps⟩ := a
        congr
        apply Array.ext'
        simpa using e
      subst e3
      refine op_notIn_sign pins s σ H _ _ v u Q I rx ry ⟨c, z, rfl, rfl, ?_⟩
      have e : (!decide (c ∈ z.cps.toList)) = (true != decide (c ∈ z.cps.toList)) := by simp
      rw [e]
      exact cl _ _ _ _ r (.refl _) rg rfl
    · exact r.elim
  · obtain ⟨p, vs, e, t, l⟩ := r2
    obtain ⟨k1, k2, q⟩ := r
    obtain ⟨a, b⟩ := any_rep r1 k1 l k2
    refine op_notIn_seq pins s σ H x y v u Q I rx ry ⟨p, vs, e, .inr t.sq, flat_rep r1 k1, a, ?_⟩
    rw [if_pos rfl, b]
    rw [tbn] at q
    exact cl _ _ _ _ q (.refl _) rg rfl
  · rename_i a
    split at r
    · rename_i p qs e1 e2
      have e3 : y = V.ref a := r2
      subst e3
      refine op_notInD hu pins s σ H x _ v u Q I rx ry ⟨p, qs, py_dp rg e1 r1, pyN_dp rg 4 a _ e2, r.1, r.2.1, ?_⟩
      have e : (!qs.any fun z => PyData.eqv z p) = (true != memPy p qs) := by simp [memPy]
      rw [e]
      exact cl _ _ _ _ r.2.2 (.refl _) rg rfl
    · exact r.elim
  · exact r.elim
end
end PP
namespace PP
open PySem PySem.Spec PyProof.Rows L2
def cut {α : Type} (xs : List α) (lo hi : Option Int) : List α := (xs.drop (HT.sIx xs.length 0 lo)).take (HT.sIx xs.length xs.length hi - HT.sIx xs.length 0 lo)
def dIx : D → D → G → QD → Prop
  | .tup xs, .int i => fun g Q => match atI xs i with | some d => Q d g | none => False
  | .scr ns, .int i => fun g Q => match atI ns i with | some n => Q (.int n) g | none => False
  | .ref a, .int i => fun g Q => match g a with | some xs => (match atI xs i with | some d => Q d g | none => False) | none => False
  | .str z, .int i => fun g Q => z.length ≤ sizeLine ∧ match atI z.cps.toList i with | some c => Q (.str ⟨#[c]⟩) g | none => False
  | _, _ => fun _ _ => False
def dSl : D → Option Int → Option Int → G → QD → Prop
  | .tup xs, lo, hi => fun g Q => Q (.tup (cut xs lo hi)) g
  | .ref a, lo, hi => fun g Q => match g a with | some xs => ∀ p, g p = none → Q (.ref p) (g.up p (cut xs lo hi)) | none => False
  | .str z, lo, hi => fun g Q => z.length ≤ sizeLine ∧ Q (.str (cutS z lo hi)) g
  | _, _, _ => fun _ _ => False
section
variable {K : PySem.W.Frag} {H : Hp}
theorem RepL.atI {ds : List D} {vs : List V} {i : Int} {d : D} (r : RepL K H ds vs) (e : L2.atI ds i = some d) : ∃ v, L2.atI vs i = some v ∧ Rep K H d v := by
  unfold L2.atI at e ⊢
  rw [r.length]
  cases q : ixN ds.length i with
  | none => rw [q] at e; cases e
  | some j => rw [q] at e; exact r.get e
theorem RepL.cut {ds : List D} {vs : List V} (r : RepL K H ds vs) (lo hi : Option Int) : RepL K H (PP.cut ds lo hi) (cutV vs lo hi) := by
  unfold PP.cut cutV
  rw [r.length]
  exact (r.drop _).take _
end
section
variable {X : Cx} {C : Ex → Addr} {W : WX} {a b e : Expr} {es : List Expr} {pos : Pos} {ta tb : DTE} {tA : DTA}
theorem ix_imp {r r' : R2} (h : IxR X r) (k : ∀ x y H Q, r' x y H Q → r x y H Q) : IxR X r' := fun v1 v2 pins s σ H x y v u Q I rx ry q => h v1 v2 pins s σ H x y v u Q I rx ry (k _ _ _ _ q)
theorem o_ix : IxR X (rUp X.K dIx) := ix_imp ix_seq fun x y H Q ⟨d1, d2, g, Qd, r1, r2, rg, r, cl⟩ => by
  unfold dIx at r
  split at r
  · rename_i xs i
    obtain ⟨p, vs, e, t, l⟩ := r1
    split at r
    · rename_i d q
      obtain ⟨v, e1, rv⟩ := l.atI q
      exact .inr (.inl ⟨p, vs, i, v, e, r2, t.sq, e1, cl _ _ _ _ r (.refl _) rg rv⟩)
    · exact r.elim
  · rename_i ns i
    obtain ⟨p, e, t⟩ := r1
    split at r
    · rename_i n q
      refine .inl ⟨p, _, i, .int n, e, r2, t.sq, ?_, cl _ _ _ _ r (.refl _) rg rfl⟩
      unfold L2.atI at q ⊢
      rw [List.length_map]
      cases z : ixN ns.length i with
      | none => rw [z] at q; cases q
      | some j =>
        rw [z] at q
        have q' : ns[j]? = some n := q
        show (ns.map V.int)[j]? = _
        rw [List.getElem?_map, q'] <;> rfl
    · exact r.elim
  · rename_i p i
    have e : x = V.ref p := r1
    split at r
    · rename_i xs q
      split at r
      · rename_i d q2
        obtain ⟨vs, h, l⟩ := rg p xs q
        obtain ⟨v, e1, rv⟩ := l.atI q2
        exact .inl ⟨p, vs, i, v, e, r2, .of h, e1, cl _ _ _ _ r (.refl _) rg rv⟩
      · exact r.elim
    · exact r.elim
  · rename_i z i
    obtain ⟨hz, r⟩ := r
    split at r
    · rename_i c q
      exact .inr (.inr ⟨z, i, c, r1, r2, hz, q, cl _ _ _ _ r (.refl _) rg rfl⟩)
    · exact r.elim
  · exact r.elim
theorem d_ix (ha : PE X a (up X.K C W ta)) (hb : PE X b (up X.K C W tb)) (hs : PlainIx b) : PE X (.Subscript a b pos) (up X.K C W (dBin dIx ta tb)) := by
  refine pe_imp (pe_ix o_ix ha hb hs) fun σ H Q ⟨env, g, Xd, Qd, re, rg, t, cl, cx⟩ => ?_
  refine ⟨env, g, Xd, _, re, rg, t, fun d1 g1 v H1 q k1 r1 rv => ?_, cx⟩
  refine ⟨env, g1, Xd, _, re.keep k1, r1, q, fun d2 g2 u H2 q2 k2 r2 ru => ?_, cx.at k1⟩
  exact ⟨d1, d2, g2, Qd, rv.keep k2, ru, r2, q2, cl.at (k1.trans k2)⟩
abbrev DTO := XD → Env → G → (Option Int → G → Prop) → Prop
def closO (K : PySem.W.Frag) (H : Hp) (Qd : Option Int → G → Prop) (Q : Option Int → Hp → Prop) : Prop := ∀ b g H', Qd b g → TK H H' → RepG K H' g → Q b H'
def upO (K : PySem.W.Frag) (C : Ex → Addr) (W : WX) (t : DTO) : TO := fun σ H Q => ∃ (env : Env) (g : G) (Xd : XD) (Qd : Option Int → G → Prop), RepE K H env σ ∧ RepG K H g ∧ t Xd env g Qd ∧ closO K H Qd Q ∧ closX K C H Xd (fun c d H' => W c d σ H')
def dNoPart : DTO := fun _ _ g Q => Q none g
def dPart (t : DTE) : DTO := fun X env g Q => t X env g fun d g1 => match d with | .int i => Q (some i) g1 | _ => False
theorem po_imp {e : Option Expr} {t t' : TO} (h : PO X e t) (f : ∀ σ H Q, t' σ H Q → t σ H Q) : PO X e t' := ⟨fun pins s σ H Q I q => h.run pins s σ H Q I (f σ H Q q)⟩
theorem d_noPart : PO X none (upO X.K C W dNoPart) := po_imp po_none fun σ H Q ⟨env, g, Xd, Qd, re, rg, t, cl, cx⟩ => cl _ _ _ t (.refl _) rg
theorem d_part (h : PE X e (up X.K C W ta)) : PO X (some e) (upO X.K C W (dPart ta)) := by
  refine po_imp (po_some h) fun σ H Q ⟨env, g, Xd, Qd, re, rg, t, cl, cx⟩ => ?_
  refine ⟨env, g, Xd, _, re, rg, t, fun d1 g1 v H1 q k1 r1 rv => ?_, cx⟩
  dsimp only at q
  split at q
  · rename_i i
    exact ⟨i, rv, cl _ _ _ q k1 r1⟩
  · exact q.elim
def dSlc (te : DTE) (tl th : DTO) : DTE := fun X env g Q => te X env g fun d g1 => tl X env g1 fun lo g2 => th X env g2 fun hi g3 => dSl d lo hi g3 Q
theorem d_slc {lo hi : Option Expr} {tl th : DTO} {p2} (he : PE X e (up X.K C W ta)) (hl : PO X lo (upO X.K C W tl)) (hu : PO X hi (upO X.K C W th)) : PE X (.Subscript e (.Slice lo hi none p2) pos) (up X.K C W (dSlc ta tl th)) := by
  refine pe_imp (pe_slice (SlR.or sl_tupA (SlR.or sl_list sl_str)) he hl hu) fun σ H Q ⟨env, g, Xd, Qd, re, rg, t, cl, cx⟩ => ?_
  refine ⟨env, g, Xd, _, re, rg, t, fun d1 g1 v H1 q k1 r1 rv => ?_, cx⟩
  refine ⟨env, g1, Xd, _, re.keep k1, r1, q, fun l g2 H2 q2 k2 r2 => ?_, cx.at k1⟩
  refine ⟨env, g2, Xd, _, (re.keep k1).keep k2, r2, q2, fun h g3 H3 q3 k3 r3 => ?_, (cx.at k1).at k2⟩
  have kk := (k1.trans k2).trans k3
  have rv := (rv.keep k2).keep k3
  change dSl d1 l h g3 Qd at q3
  unfold dSl at q3
  split at q3
  · obtain ⟨p, vs, e, tt, ll⟩ := rv
    refine .inl ⟨p, vs, e, tt.sq, fun z => ?_, fun _ o ho => ?_⟩
    · refine cl _ _ _ _ q3 kk r3 ⟨p, vs, rfl, tt, ?_⟩
      have ec : cutV vs l h = vs := by
        unfold cutV
        rw [z.1, z.2]
        simp
      have := ll.cut l h
      rw [ec] at this
      exact this
    · exact cl _ _ _ _ q3 (kk.trans (.new ho)) (r3.tup ho) ⟨o, _, rfl, .inl upd_same, (ll.cut l h).keep (.new ho)⟩
  · split at q3
    · rename_i xs e
      obtain ⟨vs, hh, ll⟩ := r3 _ xs e
      refine .inr (.inl ⟨_, vs, rv, .of hh, fun p hp => ?_⟩)
      exact cl _ _ _ _ (q3 p (r3.none hp)) (kk.trans (.new hp)) (r3.new hp (ll.cut l h)) rfl
    · exact q3.elim
  · exact .inr (.inr ⟨_, rv, q3.1, cl _ _ _ _ q3.2 kk r3 rfl⟩)
  · exact q3.elim
def rUpC (K : PySem.W.Frag) (r : List D → G → QD → Prop) : List V → Hp → VK → Prop := fun vs H Q => ∃ ds g Qd, RepL K H ds vs ∧ RepG K H g ∧ r ds g Qd ∧ clos K H Qd Q
def dCB (r : List D → G → QD → Prop) (t : DTA) : DTE := fun X env g Q => t X env g fun ds g1 => r ds g1 Q
theorem cb_up {r : List D → G → QD → Prop} {σ H Q} (h : up X.K C W (dCB r tA) σ H Q) : tCB (rUpC X.K r) (upA X.K C W tA) σ H Q := by
  obtain ⟨env, g, Xd, Qd, re, rg, t, cl, cx⟩ := h
  exact ⟨env, g, Xd, _, re, rg, t, fun ds g1 vs H1 q k1 r1 rv => ⟨ds, g1, Qd, rv, r1, q, cl.at k1⟩, cx⟩
theorem cr_imp {f : Value} {r r' : List V → Hp → VK → Prop} (h : CallR X f r) (k : ∀ x H Q, r' x H Q → r x H Q) : CallR X f r' := fun pins s σ H x v Q I rx q => h pins s σ H x v Q I rx (k _ _ _ q)
def dLen : List D → G → QD → Prop
  | [.tup xs] => fun g Q => Q (.int xs.length) g
  | [.scr xs] => fun g Q => Q (.int xs.length) g
  | [.ref a] => fun g Q => match g a with | some xs => Q (.int xs.length) g | none => False
  | [.str z] => fun g Q => z.length ≤ sizeLine ∧ Q (.int z.length) g
  | _ => fun _ _ => False
theorem rl1 {K H} {d : D} {vs : List V} (r : RepL K H [d] vs) : ∃ v, vs = [v] ∧ Rep K H d v := by
  obtain ⟨v, t, e, h, q⟩ := r
  cases (show t = [] from q)
  exact ⟨v, e, h⟩
theorem rl2 {K H} {d d' : D} {vs : List V} (r : RepL K H [d, d'] vs) : ∃ v w, vs = [v, w] ∧ Rep K H d v ∧ Rep K H d' w := by
  obtain ⟨v, t, e, h, q⟩ := r
  obtain ⟨w, rfl, h2⟩ := rl1 q
  exact ⟨v, w, e, h, h2⟩
theorem c_len : CallR X (.builtin "len") (rUpC X.K dLen) := cr_imp call_len fun x H Q ⟨ds, g, Qd, rl, rg, r, cl⟩ => by
  unfold dLen at r
  split at r
  · obtain ⟨v, rfl, p, vs, rfl, t, l⟩ := rl1 rl
    exact ⟨_, _, rfl, .inr ⟨vs, t.sq, rfl⟩, by rw [l.length]; exact cl _ _ _ _ r (.refl _) rg rfl⟩
  · obtain ⟨v, rfl, p, rfl, t⟩ := rl1 rl
    exact ⟨_, _, rfl, .inl ⟨_, t.sq, rfl⟩, by rw [List.length_map]; exact cl _ _ _ _ r (.refl _) rg rfl⟩
  · obtain ⟨v, rfl, h⟩ := rl1 rl
    cases h
    split at r
    · rename_i a xs e
      obtain ⟨vs, hh, l⟩ := rg _ xs e
      exact ⟨_, _, rfl, .inl ⟨vs, .of hh, rfl⟩, by rw [l.length]; exact cl _ _ _ _ r (.refl _) rg rfl⟩
    · exact r.elim
  · obtain ⟨v, rfl, h⟩ := rl1 rl
    cases h
    exact ⟨_, _, rfl, ⟨r.1, rfl⟩, cl _ _ _ _ r.2 (.refl _) rg rfl⟩
  · exact r.elim
def dAbs : List D → G → QD → Prop
  | [.int i] => fun g Q => Q (.int (i.natAbs : Int)) g
  | _ => fun _ _ => False
theorem c_abs : CallR X (.builtin "abs") (rUpC X.K dAbs) := cr_imp call_abs fun x H Q ⟨ds, g, Qd, rl, rg, r, cl⟩ => by
  unfold dAbs at r
  split at r
  · rename_i i
    obtain ⟨v, rfl, h⟩ := rl1 rl
    cases h
    refine ⟨i, rfl, cl _ _ _ _ r (.refl _) rg ?_⟩
    show V.int _ = V.int _
    congr 1
    split <;> omega
  · exact r.elim
def intsD : List D → Option (List Int)
  | [] => some []
  | .int i :: ds => (intsD ds).map (i :: ·)
  | _ :: _ => none
def boolsD : List D → Option (List Bool)
  | [] => some []
  | .bl i :: ds => (boolsD ds).map (i :: ·)
  | _ :: _ => none
theorem intsD_rep {K H} : ∀ {ds : List D} {vs : List V} {ns : List Int}, RepL K H ds vs → intsD ds = some ns → vs = ns.map V.int
  | [], vs, ns, r, e => by cases e; exact r
  | .int i :: ds, vs, ns, ⟨v, t, e1, h, q⟩, e => by
    unfold intsD at e
    cases z : intsD ds with
    | none => rw [z] at e; cases e
    | some ms => rw [z] at e; cases e; subst e1; rw [intsD_rep q z, show v = V.int i from h] <;> rfl
  | .non :: ds, vs, ns, r, e => by cases e
  | .bl _ :: ds, vs, ns, r, e => by cases e
  | .str _ :: ds, vs, ns, r, e => by cases e
  | .tup _ :: ds, vs, ns, r, e => by cases e
  | .ref _ :: ds, vs, ns, r, e => by cases e
  | .scr _ :: ds, vs, ns, r, e => by cases e
  | .exc _ :: ds, vs, ns, r, e => by cases e
  | .emp :: ds, vs, ns, r, e => by cases e
theorem boolsD_rep {K H} : ∀ {ds : List D} {vs : List V} {ns : List Bool}, RepL K H ds vs → boolsD ds = some ns → vs = ns.map V.bl
  | [], vs, ns, r, e => by cases e; exact r
  | .bl i :: ds, vs, ns, ⟨v, t, e1, h, q⟩, e => by
    unfold boolsD at e
    cases z : boolsD ds with
    | none => rw [z] at e; cases e
    | some ms => rw [z] at e; cases e; subst e1; rw [boolsD_rep q z, show v = V.bl i from h] <;> rfl
  | .non :: ds, vs, ns, r, e => by cases e
  | .int _ :: ds, vs, ns, r, e => by cases e
  | .str _ :: ds, vs, ns, r, e => by cases e
  | .tup _ :: ds, vs, ns, r, e => by cases e
  | .ref _ :: ds, vs, ns, r, e => by cases e
  | .scr _ :: ds, vs, ns, r, e => by cases e
  | .exc _ :: ds, vs, ns, r, e => by cases e
  | .emp :: ds, vs, ns, r, e => by cases e
def dMax : List D → G → QD → Prop
  | [.int i, .int j] => fun g Q => Q (.int (max i j)) g
  | [.ref a] => fun g Q => match g a with | some xs => (match intsD xs with | some ns => 0 < ns.length ∧ ∀ m, m ∈ ns → (∀ y, y ∈ ns → y ≤ m) → Q (.int m) g | none => False) | none => False
  | _ => fun _ _ => False
theorem c_max (hc : X.calm = true) : CallR X (.builtin "max") (rUpC X.K dMax) := cr_imp (CallR.or (call_max2 hc) (cr_max hc)) fun x H Q ⟨ds, g, Qd, rl, rg, r, cl⟩ => by
  unfold dMax at r
  split at r
  · rename_i i j
    obtain ⟨v, w, rfl, h, h2⟩ := rl2 rl
    cases h; cases h2
    refine .inl ⟨i, j, rfl, cl _ _ _ _ r (.refl _) rg ?_⟩
    show V.int _ = V.int _
    congr 1
    split <;> omega
  · obtain ⟨v, rfl, h⟩ := rl1 rl
    cases h
    split at r
    · rename_i xs e
      split at r
      · rename_i ns e2
        obtain ⟨vs, hh, l⟩ := rg _ xs e
        have := intsD_rep l e2
        subst this
        exact .inr ⟨_, ns, rfl, .of hh, r.1, fun m h1 h2 => cl _ _ _ _ (r.2 m h1 h2) (.refl _) rg rfl⟩
      · exact r.elim
    · exact r.elim
  · exact r.elim
def dMin : List D → G → QD → Prop
  | [.int i, .int j] => fun g Q => Q (.int (min i j)) g
  | _ => fun _ _ => False
theorem c_min (hc : X.calm = true) : CallR X (.builtin "min") (rUpC X.K dMin) := cr_imp (call_min2 hc) fun x H Q ⟨ds, g, Qd, rl, rg, r, cl⟩ => by
  unfold dMin at r
  split at r
  · rename_i i j
    obtain ⟨v, w, rfl, h, h2⟩ := rl2 rl
    cases h; cases h2
    refine ⟨i, j, rfl, cl _ _ _ _ r (.refl _) rg ?_⟩
    show V.int _ = V.int _
    congr 1
    split <;> omega
  · exact r.elim
def dInt : List D → G → QD → Prop
  | [.int i] => fun g Q => Q (.int i) g
  | [.bl k] => fun g Q => Q (.int (if k then 1 else 0)) g
  | [.str a] => fun g Q => match PySem.intText? a with | some n => a.length ≤ 640 ∧ Q (.int n) g | none => False
  | _ => fun _ _ => False
theorem c_int : CallR X (.type "int") (rUpC X.K dInt) := cr_imp (CallR.or call_int1 call_int_str) fun x H Q ⟨ds, g, Qd, rl, rg, r, cl⟩ => by
  unfold dInt at r
  split at r
  · obtain ⟨v, rfl, h⟩ := rl1 rl
    cases h
    exact .inl (.inl ⟨_, rfl, cl _ _ _ _ r (.refl _) rg rfl⟩)
  · obtain ⟨v, rfl, h⟩ := rl1 rl
    cases h
    exact .inl (.inr ⟨_, rfl, cl _ _ _ _ r (.refl _) rg rfl⟩)
  · obtain ⟨v, rfl, h⟩ := rl1 rl
    cases h
    split at r
    · rename_i n e
      exact .inr ⟨_, n, rfl, e, r.1, cl _ _ _ _ r.2 (.refl _) rg rfl⟩
    · exact r.elim
  · exact r.elim
def dStr : List D → G → QD → Prop
  | [.int i] => fun g Q => i.natAbs.log2 < 1920 ∧ Q (.str (toString i)) g
  | _ => fun _ _ => False
theorem c_str : CallR X (.type "str") (rUpC X.K dStr) := cr_imp call_str_int fun x H Q ⟨ds, g, Qd, rl, rg, r, cl⟩ => by
  unfold dStr at r
  split at r
  · obtain ⟨v, rfl, h⟩ := rl1 rl
    cases h
    exact ⟨_, rfl, r.1, cl _ _ _ _ r.2 (.refl _) rg rfl⟩
  · exact r.elim
def dSum : List D → G → QD → Prop
  | [.ref a] => fun g Q => match g a with | some xs => (match intsD xs with | some ns => Q (.int ns.sum) g | none => False) | none => False
  | _ => fun _ _ => False
theorem c_sum (hc : X.calm = true) : CallR X (.builtin "sum") (rUpC X.K dSum) := cr_imp (cr_sum hc) fun x H Q ⟨ds, g, Qd, rl, rg, r, cl⟩ => by
  unfold dSum at r
  split at r
  · obtain ⟨v, rfl, h⟩ := rl1 rl
    cases h
    split at r
    · rename_i xs e
      split at r
      · rename_i ns e2
        obtain ⟨vs, hh, l⟩ := rg _ xs e
        have := intsD_rep l e2
        subst this
        exact ⟨_, ns, rfl, .of hh, cl _ _ _ _ r (.refl _) rg rfl⟩
      · exact r.elim
    · exact r.elim
  · exact r.elim
def dAll : List D → G → QD → Prop
  | [.ref a] => fun g Q => match g a with | some xs => (match boolsD xs with | some ns => Q (.bl (ns.all id)) g | none => False) | none => False
  | _ => fun _ _ => False
theorem c_all (hc : X.calm = true) : CallR X (.builtin "all") (rUpC X.K dAll) := cr_imp (cr_all hc) fun x H Q ⟨ds, g, Qd, rl, rg, r, cl⟩ => by
  unfold dAll at r
  split at r
  · obtain ⟨v, rfl, h⟩ := rl1 rl
    cases h
    split at r
    · rename_i xs e
      split at r
      · rename_i ns e2
        obtain ⟨vs, hh, l⟩ := rg _ xs e
        have := boolsD_rep l e2
        subst this
        exact ⟨_, ns, rfl, .of hh, cl _ _ _ _ r (.refl _) rg rfl⟩
      · exact r.elim
    · exact r.elim
  · exact r.elim
def dList : List D → G → QD → Prop
  | [.ref a] => fun g Q => match g a with | some xs => ∀ p, g p = none → Q (.ref p) (g.up p xs) | none => False
  | [.tup xs] => fun g Q => ∀ p, g p = none → Q (.ref p) (g.up p xs)
  | _ => fun _ _ => False
theorem c_list : CallR X (.type "list") (rUpC X.K dList) := cr_imp call_list_of fun x H Q ⟨ds, g, Qd, rl, rg, r, cl⟩ => by
  unfold dList at r
  split at r
  · obtain ⟨v, rfl, h⟩ := rl1 rl
    cases h
    split at r
    · rename_i xs e
      obtain ⟨vs, hh, l⟩ := rg _ xs e
      exact ⟨_, vs, rfl, .inl (.of hh), fun p hp => cl _ _ _ _ (r p (rg.none hp)) (.new hp) (rg.new hp l) rfl⟩
    · exact r.elim
  · obtain ⟨v, rfl, p, vs, rfl, t, l⟩ := rl1 rl
    exact ⟨_, vs, rfl, .inr t.sq, fun p hp => cl _ _ _ _ (r p (rg.none hp)) (.new hp) (rg.new hp l) rfl⟩
  · exact r.elim
def dTuple : List D → G → QD → Prop
  | [.ref a] => fun g Q => match g a with | some xs => Q (.tup xs) g | none => False
  | [.tup xs] => fun g Q => Q (.tup xs) g
  | _ => fun _ _ => False
theorem c_tuple : CallR X (.type "tuple") (rUpC X.K dTuple) := cr_imp call_tuple_of fun x H Q ⟨ds, g, Qd, rl, rg, r, cl⟩ => by
  unfold dTuple at r
  split at r
  · obtain ⟨v, rfl, h⟩ := rl1 rl
    cases h
    split at r
    · rename_i xs e
      obtain ⟨vs, hh, l⟩ := rg _ xs e
      exact ⟨_, vs, rfl, .inl ⟨.of hh, fun p hp => cl _ _ _ _ r (.new hp) (rg.tup hp) ⟨p, vs, rfl, .inl upd_same, l.keep (.new hp)⟩⟩⟩
    · exact r.elim
  · obtain ⟨v, rfl, p, vs, rfl, t, l⟩ := rl1 rl
    exact ⟨_, vs, rfl, .inr ⟨t.sq, cl _ _ _ _ r (.refl _) rg ⟨p, vs, rfl, t, l⟩⟩⟩
  · exact r.elim
inductive Ty where
  | int | bool | str | list | tuple
  deriving DecidableEq
def Ty.nm : Ty → String
  | .int => "int"
  | .bool => "bool"
  | .str => "str"
  | .list => "list"
  | .tuple => "tuple"
def tyD : D → Option Ty
  | .non => none
  | .bl _ => some .bool
  | .int _ => some .int
  | .str _ => some .str
  | .tup _ => some .tuple
  | .ref _ => some .list
  | .scr _ => some .list
  | .exc _ => none
  | .emp => none
def isTyO (t : Ty) : Option Ty → Bool
  | none => false
  | some .bool => decide (t = .bool) || decide (t = .int)
  | some u => decide (t = u)
def isTy (t : Ty) (d : D) : Bool := isTyO t (tyD d)
def knownD (g : G) : D → Prop
  | .ref a => (g a).isSome = true
  | .exc _ => False
  | _ => True
def dIsi (ts : List Ty) : D → G → QD → Prop := fun d g Q => knownD g d ∧ Q (.bl (ts.any fun t => isTy t d)) g
def tyO : Option Ty → Value
  | none => .type "NoneType"
  | some t => .type t.nm
def tyV' : D → Value
  | .emp => .type "dict"
  | d => tyO (tyD d)
theorem tyx_of {H : Hp} {d : D} {v : V} {g : G} (rg : RepG X.K H g) (r : Rep X.K H d v) (k : knownD g d) : TyX X.K H v (tyV' d) := by
  cases d with
  | non => cases (show v = .non from r); exact .base .non
  | bl b => cases (show v = .bl b from r); exact .base (.bl b)
  | int b => cases (show v = .int b from r); exact .base (.int b)
  | str b => cases (show v = .str b from r); exact .base (.str b)
  | ref b =>
    cases (show v = .ref b from r)
    have k' : (g b).isSome = true := k
    obtain ⟨xs, e⟩ := Option.isSome_iff_exists.mp k'
    obtain ⟨vs, h, _⟩ := rg b xs e
    exact .base (.lst h)
  | scr b =>
    obtain ⟨a, rfl, ⟨o, h⟩ | ⟨o, its, n, h1, h2, _⟩⟩ := r
    · exact .base (.frz h)
    · exact .kList h1 h2
  | exc b => exact False.elim k
  | emp =>
    obtain ⟨a, o, rfl, h⟩ := r
    exact .fDict h
  | tup b =>
    obtain ⟨a, vs, rfl, h | ⟨o, its, n, h1, h2, _⟩, _⟩ := r
    · exact .base (.tup h)
    · exact .kTuple h1 h2
theorem kit_all (t : Ty) (d : D) (K : PySem.W.Frag) : PySem.W.kitOne K (tyV' d) (.type t.nm) = some (isTy t d) := by
  have old : PySem.W.kitOne K (tyO (tyD d)) (.type t.nm) = some (isTy t d) := by
    unfold isTy
    generalize tyD d = o
    rcases o with _ | o
    · cases t <;> exact kit_ty (by decide +kernel)
    · cases o <;> cases t <;> exact kit_ty (by decide +kernel)
  cases d with
  | emp => cases t <;> exact kit_ty (by decide +kernel)
  | _ => exact old
theorem kit_any (K : PySem.W.Frag) (d : D) : ∀ ts : List Ty, PySem.W.kitAny K (tyV' d) (ts.map fun t => .type t.nm) = some (ts.any fun t => isTy t d)
  | [] => rfl
  | t :: ts => by
    simp only [List.map_cons, List.any_cons]
    unfold PySem.W.kitAny
    rw [kit_all t d K]
    cases isTy t d with
    | true => rfl
    | false => exact kit_any K d ts
end
end PP
namespace PP
open PySem PySem.Spec PyProof.Rows L2
abbrev DTI := XD → Env → G → (List D → (G → Prop) → G → Prop) → Prop
structure ItOk (K : PySem.W.Frag) (J : It) (H0 : Hp) (items : List D) (stay : G → Prop) : Prop where
  go : ∀ (i : Nat) (g : G) (H : Hp), i < items.length → TK H0 H → RepG K H g → stay g → J.go i H
  yld : ∀ (i : Nat) (g : G) (H : Hp) (x : V) (H' : Hp), i < items.length → TK H0 H → RepG K H g → stay g → J.yld i H x H' → ∃ d, items[i]? = some d ∧ Rep K H' d x ∧ TK H H' ∧ RepG K H' g
  stop : ∀ (i : Nat) (g : G) (H : Hp), items.length ≤ i → i ≤ items.length → TK H0 H → RepG K H g → stay g → J.stop i H
def upI (K : PySem.W.Frag) (C : Ex → Addr) (W : WX) (t : DTI) : TI := fun σ H R => ∃ (env : Env) (g : G) (Xd : XD) (Rd : List D → (G → Prop) → G → Prop), RepE K H env σ ∧ RepG K H g ∧ t Xd env g Rd ∧
  (∀ items stay g' J H', Rd items stay g' → TK H H' → RepG K H' g' → ItOk K J H' items stay → R J H') ∧ closX K C H Xd (fun c d H' => W c d σ H')
theorem pi_imp {X : Cx} {tg e : Expr} {t t' : TI} (h : PI X tg e t) (f : ∀ σ H Q, t' σ H Q → t σ H Q) : PI X tg e t' := ⟨fun pins s σ H Q I q => h.run pins s σ H Q I (f σ H Q q)⟩
def dOver : D → G → (List D → (G → Prop) → G → Prop) → Prop
  | .ref a => fun g R => match g a with | some xs => R xs (fun g' => g' a = some xs) g | none => False
  | .tup xs => fun g R => R xs (fun _ => True) g
  | .str z => fun g R => R (z.cps.toList.map fun c => D.str ⟨#[c]⟩) (fun _ => True) g
  | _ => fun _ _ => False
def iAny (K : PySem.W.Frag) (tl : TE) : TI := fun σ H R => tl σ H fun x H1 => (∃ a xs, x = .ref a ∧ SqL K H1 a xs ∧ R (Itl K a) H1) ∨ (∃ a xs, x = .ref a ∧ SqT K H1 a xs ∧ R (Itt K a) H1) ∨ ∃ z, x = .str z ∧ R (Its z) H1
theorem itl_ok {K : PySem.W.Frag} {H0 : Hp} {a : Addr} {xs : List D} : ItOk K (Itl K a) H0 xs (fun g => g a = some xs) where
  go := fun i g H hi k r st => by
    obtain ⟨vs, h, l⟩ := r a xs st
    have hv : i < vs.length := by rw [l.length]; exact hi
    exact ⟨vs, vs[i], .of h, by simp [hv]⟩
  yld := fun i g H x H' hi k r st y => by
    obtain ⟨e, y⟩ := y
    subst e
    obtain ⟨vs, h, l⟩ := r a xs st
    obtain ⟨d, e1, rd⟩ := l.getv (y vs (.of h))
    exact ⟨d, e1, rd, .refl _, r⟩
  stop := fun i g H hi hi2 k r st => by
    obtain ⟨vs, h, l⟩ := r a xs st
    exact ⟨vs, .of h, by rw [l.length]; exact hi⟩
theorem itt_ok {K : PySem.W.Frag} {H0 : Hp} {a : Addr} {xs : List D} {vs : List V} (t : TupP K H0 a vs) (l : RepL K H0 xs vs) : ItOk K (Itt K a) H0 xs (fun _ => True) where
  go := fun i g H hi k r st => by
    have hv : i < vs.length := by rw [l.length]; exact hi
    exact ⟨vs, vs[i], (t.keep k).sq, by simp [hv]⟩
  yld := fun i g H x H' hi k r st y => by
    obtain ⟨e, y⟩ := y
    subst e
    obtain ⟨d, e1, rd⟩ := l.getv (y vs (t.keep k).sq)
    exact ⟨d, e1, rd.keep k, .refl _, r⟩
  stop := fun i g H hi hi2 k r st => ⟨vs, (t.keep k).sq, by rw [l.length]; exact hi⟩
theorem its_ok {K : PySem.W.Frag} {H0 : Hp} {z : Str} : ItOk K (Its z) H0 (z.cps.toList.map fun c => D.str ⟨#[c]⟩) (fun _ => True) where
  go := fun i g H hi k r st => by
    show i < z.cps.size
    simpa using hi
  yld := fun i g H x H' hi k r st y => by
    obtain ⟨e, c, hc, ex⟩ := y
    subst e ex
    refine ⟨.str ⟨#[c]⟩, ?_, rfl, .refl _, r⟩
    rw [List.getElem?_map]
    rw [← Array.getElem?_toList] at hc
    rw [hc] <;> rfl
  stop := fun i g H hi hi2 k r st => by
    show z.cps.size ≤ i
    simpa using hi
section
variable {X : Cx} {C : Ex → Addr} {W : WX} {tg e : Expr} {pos p : Pos} {ta : DTE} {tA : DTA}
theorem pi_any {tl : TE} (hl : PE X e tl) : PI X tg e (iAny X.K tl) := by
  refine ⟨fun pins s σ H R I h => thn (hl.run pins s σ H _ I h) fun v s1 ⟨x, H1, I1, r1, q1⟩ => ?_⟩
  rcases q1 with ⟨a, xs, ex, hq, q⟩ | ⟨a, xs, ex, hq, q⟩ | ⟨z, ex, q⟩
  · subst ex; cases r1
    obtain ⟨its, _, pl, _⟩ := I1.list hq
    exact wpAny_pyIter_list pl.isList (pi_one (tk := s1.toks) I1 _ (turn_list a _) ⟨_, Heap.get?_push_size _ rfl, rfl, rfl⟩ q)
  · subst ex; cases r1
    obtain ⟨its, _, pl, _⟩ := I1.tuple hq
    exact wpAny_pyIter_tuple pl (pi_one (tk := s1.toks) I1 _ (turn_tuple a _) ⟨_, Heap.get?_push_size _ rfl, rfl, rfl⟩ q)
  · subst ex
    obtain ⟨t, rfl⟩ := r1
    by_cases hz : z.cps.all (· < 128) = true
    · exact wpAny_pyIter_ascii hz (pi_one (tk := s1.toks) I1 _ (turn_str _ z t _ (.inl rfl)) ⟨_, Heap.get?_push_size _ rfl, rfl, rfl⟩ q)
    · exact wpAny_pyIter_wide (by simpa using hz) (pi_one (tk := s1.toks) I1 _ (turn_str _ z t _ (.inr rfl)) ⟨_, Heap.get?_push_size _ rfl, rfl, rfl⟩ q)
def dIAny (te : DTE) : DTI := fun X env g R => te X env g fun d g1 => dOver d g1 R
theorem d_iAny (h : PE X e (up X.K C W ta)) : PI X tg e (upI X.K C W (dIAny ta)) := by
  refine pi_imp (pi_any h) fun σ H R ⟨env, g, Xd, Rd, re, rg, t, cl, cx⟩ => ?_
  refine ⟨env, g, Xd, _, re, rg, t, fun d g1 v H1 q k r rv => ?_, cx⟩
  dsimp only at q
  unfold dOver at q
  split at q
  · rename_i a
    split at q
    · rename_i xs e
      obtain ⟨vs, hh, l⟩ := r a xs e
      exact .inl ⟨a, vs, rv, .of hh, cl _ _ _ _ _ q k r itl_ok⟩
    · exact q.elim
  · obtain ⟨a, vs, e, t, l⟩ := rv
    exact .inr (.inl ⟨a, vs, e, t.sq, cl _ _ _ _ _ q k r (itt_ok t l)⟩)
  · exact .inr (.inr ⟨_, rv, cl _ _ _ _ _ q k r its_ok⟩)
  · exact q.elim
def rangeD (lo : Int) (n : Nat) : List D := (List.range n).map fun (i : Nat) => D.int (lo + i)
theorem itr_ok {K : PySem.W.Frag} {H0 : Hp} {lo : Int} {n : Nat} : ItOk K (Itr lo n) H0 (rangeD lo n) (fun _ => True) where
  go := fun i g H hi k r st => by
    show i < n
    simpa [rangeD] using hi
  yld := fun i g H x H' hi k r st y => by
    obtain ⟨e, ex⟩ := y
    subst e ex
    have hi' : i < n := by simpa [rangeD] using hi
    exact ⟨.int (lo + i), by simp [rangeD, hi'], rfl, .refl _, r⟩
  stop := fun i g H hi hi2 k r st => by
    show n ≤ i
    simpa [rangeD] using hi
def dRange1 : D → G → (List D → (G → Prop) → G → Prop) → Prop
  | .int j => fun g R => (-(2 ^ 62) ≤ j ∧ j < 2 ^ 62) ∧ R (rangeD 0 j.toNat) (fun _ => True) g
  | _ => fun _ _ => False
def dRange2 : D → D → G → (List D → (G → Prop) → G → Prop) → Prop
  | .int i, .int j => fun g R => (-(2 ^ 62) ≤ i ∧ i < 2 ^ 62 ∧ -(2 ^ 62) ≤ j ∧ j < 2 ^ 62) ∧ R (rangeD i (j - i).toNat) (fun _ => True) g
  | _, _ => fun _ _ => False
def dI1 (r : D → G → (List D → (G → Prop) → G → Prop) → Prop) (ta : DTE) : DTI := fun X env g R => ta X env g fun d g1 => r d g1 R
def dI2 (r : D → D → G → (List D → (G → Prop) → G → Prop) → Prop) (ta tb : DTE) : DTI := fun X env g R => ta X env g fun d g1 => tb X env g1 fun d2 g2 => r d d2 g2 R
variable {a b : Expr} {tb : DTE}
theorem d_range1 (hg : Gl X "range") (hm : X.mg "range" = none) (ha : PE X a (up X.K C W ta)) (hs : starEach [a] X.env = [(false, eval a X.env)]) : PI X tg (.Call (.Name "range" p) [a] [] pos) (upI X.K C W (dI1 dRange1 ta)) := by
  refine pi_imp (pi_range1 hg hm (pa_cons ha pa_nil hs) hs) fun σ H R ⟨env, g, Xd, Rd, re, rg, t, cl, cx⟩ => ?_
  refine ⟨env, g, Xd, _, re, rg, t, fun d g1 v H1 q k r rv => ?_, cx⟩
  dsimp only at q
  unfold dRange1 at q
  split at q
  · cases (show v = .int _ from rv)
    exact ⟨_, rfl, q.1.1, q.1.2, cl _ _ _ _ _ q.2 k r itr_ok⟩
  · exact q.elim
theorem d_range2 (hg : Gl X "range") (hm : X.mg "range" = none) (ha : PE X a (up X.K C W ta)) (hb : PE X b (up X.K C W tb)) (hs : starEach [a, b] X.env = [(false, eval a X.env), (false, eval b X.env)]) (hs2 : starEach [b] X.env = [(false, eval b X.env)]) :
    PI X tg (.Call (.Name "range" p) [a, b] [] pos) (upI X.K C W (dI2 dRange2 ta tb)) := by
  refine pi_imp (pi_range2 hg hm (pa_cons ha (pa_cons hb pa_nil hs2) (by rw [hs, hs2])) hs hs2) fun σ H R ⟨env, g, Xd, Rd, re, rg, t, cl, cx⟩ => ?_
  refine ⟨env, g, Xd, _, re, rg, t, fun d g1 v H1 q k r rv => ?_, cx⟩
  refine ⟨env, g1, Xd, _, re.keep k, r, q, fun d2 g2 v2 H2 q2 k2 r2 rv2 => ?_, cx.at k⟩
  dsimp only at q2
  unfold dRange2 at q2
  split at q2
  · cases (show v = .int _ from rv)
    cases (show v2 = .int _ from rv2)
    exact ⟨_, _, rfl, q2.1, cl _ _ _ _ _ q2.2 (k.trans k2) r2 itr_ok⟩
  · exact q2.elim
def dRev : D → G → (List D → (G → Prop) → G → Prop) → Prop
  | .ref a => fun g R => match g a with | some xs => R xs.reverse (fun g' => g' a = some xs) g | none => False
  | .tup xs => fun g R => R xs.reverse (fun _ => True) g
  | _ => fun _ _ => False
theorem rev_at {α : Type} {xs : List α} {i : Nat} (hi : i < xs.length) : xs[xs.length - 1 - i]? = xs.reverse[i]? := by
  rw [List.getElem?_reverse hi]
theorem itv_ok {K : PySem.W.Frag} {H0 : Hp} {a : Addr} {xs : List D} : ItOk K (Itv K a xs.length) H0 xs.reverse (fun g => g a = some xs) where
  go := fun i g H hi k r st => by
    obtain ⟨vs, h, l⟩ := r a xs st
    have hi' : i < xs.length := by simpa using hi
    have hv : xs.length - 1 - i < vs.length := by rw [l.length]; omega
    exact ⟨hi', vs, vs[xs.length - 1 - i], .of h, by simp [hv]⟩
  yld := fun i g H x H' hi k r st y => by
    obtain ⟨e, y⟩ := y
    subst e
    obtain ⟨vs, h, l⟩ := r a xs st
    obtain ⟨d, e1, rd⟩ := l.getv (y vs (.of h))
    rw [rev_at (by simpa using hi)] at e1
    exact ⟨d, e1, rd, .refl _, r⟩
  stop := fun i g H hi hi2 k r st => by
    show xs.length ≤ i
    simpa using hi
theorem itvT_ok {K : PySem.W.Frag} {H0 : Hp} {a : Addr} {xs : List D} {vs : List V} (t : TupP K H0 a vs) (l : RepL K H0 xs vs) : ItOk K (RT.ItvT K a xs.length) H0 xs.reverse (fun _ => True) where
  go := fun i g H hi k r st => by
    have hi' : i < xs.length := by simpa using hi
    have hv : xs.length - 1 - i < vs.length := by rw [l.length]; omega
    exact ⟨hi', vs, vs[xs.length - 1 - i], (t.keep k).sq, by simp [hv]⟩
  yld := fun i g H x H' hi k r st y => by
    obtain ⟨e, y⟩ := y
    subst e
    obtain ⟨d, e1, rd⟩ := l.getv (y vs (t.keep k).sq)
    rw [rev_at (by simpa using hi)] at e1
    exact ⟨d, e1, rd.keep k, .refl _, r⟩
  stop := fun i g H hi hi2 k r st => by
    show xs.length ≤ i
    simpa using hi
theorem d_rev (hg : Gl X "reversed") (hm : X.mg "reversed" = none) (ha : PE X a (up X.K C W ta)) (hs : starEach [a] X.env = (false, eval a X.env) :: starEach [] X.env) : PI X tg (.Call (.Name "reversed" p) [a] [] pos) (upI X.K C W (dI1 dRev ta)) := by
  refine pi_imp (RT.pi_revA hg hm ha hs) fun σ H R ⟨env, g, Xd, Rd, re, rg, t, cl, cx⟩ => ?_
  refine ⟨env, g, Xd, _, re, rg, t, fun d g1 v H1 q k r rv => ?_, cx⟩
  dsimp only at q
  unfold dRev at q
  split at q
  · split at q
    · rename_i xs e
      obtain ⟨vs, hh, l⟩ := r _ xs e
      refine ⟨_, vs, rv, .inl ⟨.of hh, ?_⟩⟩
      rw [l.length]
      exact cl _ _ _ _ _ q k r itv_ok
    · exact q.elim
  · obtain ⟨a, vs, e, t, l⟩ := rv
    refine ⟨a, vs, e, .inr ⟨t.sq, ?_⟩⟩
    rw [l.length]
    exact cl _ _ _ _ _ q k r (itvT_ok t l)
  · exact q.elim
def zipD (xs ys : List D) : List D := List.zipWith (fun x y => D.tup [x, y]) xs ys
theorem itz_ok {K : PySem.W.Frag} {H0 : Hp} {a b : Addr} {xs ys : List D} : ItOk K (Itz K a b) H0 (zipD xs ys) (fun g => g a = some xs ∧ g b = some ys) where
  go := fun i g H hi k r st => by
    obtain ⟨vs, h, l⟩ := r a xs st.1
    obtain ⟨ws, h2, l2⟩ := r b ys st.2
    have hi' : i < xs.length ∧ i < ys.length := by simp [zipD] at hi; omega
    have hv : i < vs.length := by rw [l.length]; omega
    have hw : i < ws.length := by rw [l2.length]; omega
    exact ⟨vs, ws, vs[i], ws[i], .of h, .of h2, by simp [hv], by simp [hw]⟩
  yld := fun i g H x H' hi k r st y => by
    obtain ⟨vs, h, l⟩ := r a xs st.1
    obtain ⟨ws, h2, l2⟩ := r b ys st.2
    obtain ⟨T, u, w, ex, hT, eH, y1, y2⟩ := y
    obtain ⟨d, e1, rd⟩ := l.getv (y1 vs (.of h))
    obtain ⟨d', e2, rd'⟩ := l2.getv (y2 ws (.of h2))
    subst ex eH
    refine ⟨.tup [d, d'], ?_, ⟨T, [u, w], rfl, .inl upd_same, ⟨u, [w], rfl, rd.keep (.new hT), ⟨w, [], rfl, rd'.keep (.new hT), rfl⟩⟩⟩, .new hT, r.tup hT⟩
    simp [zipD, List.getElem?_zipWith, e1, e2]
  stop := fun i g H hi hi2 k r st => by
    obtain ⟨vs, h, l⟩ := r a xs st.1
    obtain ⟨ws, h2, l2⟩ := r b ys st.2
    refine ⟨vs, ws, .of h, .of h2, ?_⟩
    rw [l.length, l2.length]
    simp [zipD] at hi
    omega
theorem itzT_ok {K : PySem.W.Frag} {H0 : Hp} {a b : Addr} {xs ys : List D} {vs ws : List V} (t : TupP K H0 a vs) (l : RepL K H0 xs vs) (t2 : TupP K H0 b ws) (l2 : RepL K H0 ys ws) : ItOk K (RZ.ItzT K a b) H0 (zipD xs ys) (fun _ => True) where
  go := fun i g H hi k r st => by
    have hi' : i < xs.length ∧ i < ys.length := by simp [zipD] at hi; omega
    have hv : i < vs.length := by rw [l.length]; omega
    have hw : i < ws.length := by rw [l2.length]; omega
    exact ⟨vs, ws, vs[i], ws[i], (t.keep k).sq, (t2.keep k).sq, by simp [hv], by simp [hw]⟩
  yld := fun i g H x H' hi k r st y => by
    obtain ⟨T, u, w, ex, hT, eH, y1, y2⟩ := y
    obtain ⟨d, e1, rd⟩ := l.getv (y1 vs (t.keep k).sq)
    obtain ⟨d', e2, rd'⟩ := l2.getv (y2 ws (t2.keep k).sq)
    subst ex eH
    have k' := k.trans (TK.new (o := .tup [u, w]) hT)
    refine ⟨.tup [d, d'], ?_, ⟨T, [u, w], rfl, .inl upd_same, ⟨u, [w], rfl, rd.keep k', ⟨w, [], rfl, rd'.keep k', rfl⟩⟩⟩, .new hT, r.tup hT⟩
    simp [zipD, List.getElem?_zipWith, e1, e2]
  stop := fun i g H hi hi2 k r st => by
    refine ⟨vs, ws, (t.keep k).sq, (t2.keep k).sq, ?_⟩
    rw [l.length, l2.length]
    simp [zipD] at hi
    omega
def dZip : D → D → G → (List D → (G → Prop) → G → Prop) → Prop
  | .ref a, .ref b => fun g R => match g a, g b with | some xs, some ys => R (zipD xs ys) (fun g' => g' a = some xs ∧ g' b = some ys) g | _, _ => False
  | .tup xs, .tup ys => fun g R => R (zipD xs ys) (fun _ => True) g
  | _, _ => fun _ _ => False
theorem d_zip {elts : List Expr} {kk : Nat} {tpos : Pos} (hg : Gl X "zip") (hm : X.mg "zip" = none) (ha : PE X a (up X.K C W ta)) (hb : PE X b (up X.K C W tb)) (hs : starEach [a, b] X.env = [(false, eval a X.env), (false, eval b X.env)]) (hs2 : starEach [b] X.env = [(false, eval b X.env)]) :
    PI X (.Tuple elts kk tpos) (.Call (.Name "zip" p) [a, b] [] pos) (upI X.K C W (dI2 dZip ta tb)) := by
  refine pi_imp (RZ.pi_zipA hg hm (pa_cons ha (pa_cons hb pa_nil hs2) (by rw [hs, hs2])) (by rw [hs, hs2]) (by rw [hs2]; rfl)) fun σ H R ⟨env, g, Xd, Rd, re, rg, t, cl, cx⟩ => ?_
  refine ⟨env, g, Xd, _, re, rg, t, fun d g1 v H1 q k r rv => ?_, cx⟩
  refine ⟨env, g1, Xd, _, re.keep k, r, q, fun d2 g2 v2 H2 q2 k2 r2 rv2 => ?_, cx.at k⟩
  dsimp only at q2
  unfold dZip at q2
  have kk := k.trans k2
  split at q2
  · cases (show v = .ref _ from rv)
    cases (show v2 = .ref _ from rv2)
    split at q2
    · rename_i xs ys e1 e2
      obtain ⟨vs, h1, l1⟩ := r2 _ xs e1
      obtain ⟨ws, h2, l2⟩ := r2 _ ys e2
      exact ⟨_, _, vs, ws, rfl, .inl ⟨.of h1, .of h2, cl _ _ _ _ _ q2 kk r2 itz_ok⟩⟩
    · exact q2.elim
  · obtain ⟨a1, vs, e1, t1, l1⟩ := rv.keep k2
    obtain ⟨a2, ws, e2, t2, l2⟩ := rv2
    subst e1 e2
    exact ⟨_, _, vs, ws, rfl, .inr ⟨t1.sq, t2.sq, cl _ _ _ _ _ q2 kk r2 (itzT_ok t1 l1 t2 l2)⟩⟩
  · exact q2.elim
end
end PP
namespace PP
open PySem PySem.Spec PyProof.Rows L2
structure DEnds where
  nx : Env → G → Prop
  rt : QD
  ex : Ex → Env → G → Prop
abbrev DTS := DEnds → Env → G → Prop
def DEnds.at (E : DEnds) (env : Env) : XD := fun n g => E.ex n env g
section
variable (K : PySem.W.Frag) (C : Ex → Addr)
def closN (H : Hp) (N : Env → G → Prop) (n : List (Option V) → Hp → Prop) : Prop := ∀ env g σ H', N env g → TK H H' → RepE K H' env σ → RepG K H' g → n σ H'
def closXE (H : Hp) (x : Ex → Env → G → Prop) (W : WX) : Prop := ∀ n env g σ H', x n env g → TK H H' → RepE K H' env σ → RepG K H' g → W (.ref (C n)) none σ H'
def upS (W : WX) (t : DTS) : TS := fun D σ H => ∃ (env : Env) (g : G) (E : DEnds), RepE K H env σ ∧ RepG K H g ∧ t E env g ∧ closN K H E.nx D.nx ∧ clos K H E.rt D.rt ∧ closXE K C H E.ex W
end
section
variable {K : PySem.W.Frag} {C : Ex → Addr} {H H1 : Hp} {W : WX}
theorem closN.at {N n} (k : TK H H1) (c : closN K H N n) : closN K H1 N n := fun env g σ H' q t r1 r2 => c env g σ H' q (k.trans t) r1 r2
theorem closXE.at {N} (k : TK H H1) (c : closXE K C H N W) : closXE K C H1 N W := fun m env g σ H' q t r1 r2 => c m env g σ H' q (k.trans t) r1 r2
theorem closXE.e {x : Ex → Env → G → Prop} {env : Env} {σ : List (Option V)} (re : RepE K H env σ) (c : closXE K C H x W) : closX K C H (fun n g => x n env g) (fun c d H' => W c d σ H') := fun n g H' q k r => c n env g σ H' q k (re.keep k) r
end
def dNop : DTS := fun E env g => E.nx env g
def dSeq (t u : DTS) : DTS := fun E env g => t { E with nx := fun env' g' => u E env' g' } env g
def dExpr (te : DTE) : DTS := fun E env g => te (E.at env) env g fun _ g1 => E.nx env g1
def dRet (te : DTE) : DTS := fun E env g => te (E.at env) env g E.rt
def dRetN : DTS := fun E _ g => E.rt .non g
def dIf (tc : DTT) (t u : DTS) : DTS := fun E env g => tc (E.at env) env g fun b g1 => if b = true then t E env g1 else u E env g1
def setAll : Env → List Nat → List D → Env
  | env, i :: is, d :: ds => setAll (env.set i (some d)) is ds
  | env, _, _ => env
inductive TgD where
  | n (i : Nat)
  | t (is : List Nat)
def gD : TgD → D → Env → G → (Env → G → Prop) → Prop
  | .n i, d, env, g, N => N (env.set i (some d)) g
  | .t is, .tup ds, env, g, N => ds.length = is.length ∧ N (setAll env is ds) g
  | .t is, .ref a, env, g, N => match g a with | some ds => ds.length = is.length ∧ N (setAll env is ds) g | none => False
  | _, _, _, _, _ => False
def setV : List (Option V) → List Nat → List V → List (Option V)
  | σ, i :: is, v :: vs => setV (σ.set i (some v)) is vs
  | σ, _, _ => σ
def TgD.slots : TgD → List Nat
  | .n i => [i]
  | .t is => is
def closG (K : PySem.W.Frag) (tg : TgD) (σ : List (Option V)) (H : Hp) (N : Env → G → Prop) (n : List (Option V) → Hp → Prop) : Prop := ∀ env g σ' H', N env g → TK H H' → RepE K H' env σ' → RepG K H' g → (∃ vs, σ' = setV σ tg.slots vs) → n σ' H'
def gUp (K : PySem.W.Frag) (tg : TgD) : TG := fun v σ H Q => ∃ d env g N, Rep K H d v ∧ RepE K H env σ ∧ RepG K H g ∧ gD tg d env g N ∧ closG K tg σ H N Q
theorem closN.g {K : PySem.W.Frag} {tg : TgD} {σ : List (Option V)} {H : Hp} {N n} (h : closN K H N n) : closG K tg σ H N n := fun env g σ' H' q k r1 r2 _ => h env g σ' H' q k r1 r2
def dAsg (tg : TgD) (te : DTE) : DTS := fun E env g => te (E.at env) env g fun d g1 => gD tg d env g1 E.nx
def dPar (i j : Nat) (ta tb : DTE) : DTS := fun E env g => ta (E.at env) env g fun d g1 => tb (E.at env) env g1 fun d2 g2 => E.nx ((env.set i (some d)).set j (some d2)) g2
def dSet : D → D → D → G → (G → Prop) → Prop
  | .ref a, .int k, v, g, N => match g a with | some xs => (match ixN xs.length k with | some j => N (g.up a (xs.set j v)) | none => False) | none => False
  | _, _, _, _, _ => False
def dPut (to ti te : DTE) : DTS := fun E env g => te (E.at env) env g fun v g1 => to (E.at env) env g1 fun o g2 => ti (E.at env) env g2 fun i g3 => dSet o i v g3 fun g4 => E.nx env g4
def whileD (tc : DTT) (tb : DTS) (E : DEnds) (W : Nat → Env → G → Prop) : Prop := ∀ m env g, W m env g → tc (E.at env) env g fun b g1 => if b = true then tb { E with nx := fun env' g' => ∃ m', m' < m ∧ W m' env' g' } env g1 else E.nx env g1
def dWhile (tc : DTT) (tb : DTS) : DTS := fun E env g => ∃ W : Nat → Env → G → Prop, (∃ m, W m env g) ∧ whileD tc tb E W
def forD (stay : G → Prop) (body : D → Env → G → (Env → G → Prop) → Prop) (fin : Env → G → Prop) : List D → Env → G → Prop
  | [], env, g => stay g ∧ fin env g
  | x :: xs, env, g => stay g ∧ body x env g fun env' g' => forD stay body fin xs env' g'
def dFor (ti : DTI) (tg : TgD) (tb : DTS) : DTS := fun E env g => ti (E.at env) env g fun items stay g1 => forD stay (fun x env g N => gD tg x env g fun env1 g1 => tb { E with nx := N } env1 g1) E.nx items env g1
section
variable {X : Cx} {C : Ex → Addr} {W : WX} {st : Stmt} {sts rest : List Stmt} {e a b : Expr} {pos : Pos} {t u : DTS} {te ta tb to ti : DTE} {tc : DTT}
theorem s_nil : PSs X [] (upS X.K C W dNop) := pss_imp pss_nil fun D σ H ⟨env, g, E, re, rg, t, cn, cr, cx⟩ => cn _ _ _ _ t (.refl _) re rg
theorem s_cons (h1 : PS X st (upS X.K C W t)) (h2 : PSs X rest (upS X.K C W u)) : PSs X (st :: rest) (upS X.K C W (dSeq t u)) := by
  refine pss_imp (pss_cons h1 h2) fun D σ H ⟨env, g, E, re, rg, q, cn, cr, cx⟩ => ?_
  refine ⟨env, g, { E with nx := fun env' g' => u E env' g' }, re, rg, q, fun env1 g1 σ1 H1 q1 k r1 r2 => ?_, cr, cx⟩
  exact ⟨env1, g1, E, r1, r2, q1, cn.at k, cr.at k, cx.at k⟩
theorem s_expr (h : PE X e (up X.K C W te)) (hs : swapsWith e none pos.line X.env = pure false) : PS X (.Expr e pos) (upS X.K C W (dExpr te)) := by
  refine ps_imp (ps_expr h hs) fun D σ H ⟨env, g, E, re, rg, q, cn, cr, cx⟩ => ?_
  exact ⟨env, g, _, _, re, rg, q, fun d g1 v H1 q1 k r rv => cn _ _ _ _ q1 k (re.keep k) r, cx.e re⟩
theorem s_ret (h : PE X e (up X.K C W te)) : PS X (.Return (some e) pos) (upS X.K C W (dRet te)) := by
  refine ps_imp (ps_ret h) fun D σ H ⟨env, g, E, re, rg, q, cn, cr, cx⟩ => ?_
  exact ⟨env, g, _, _, re, rg, q, cr, cx.e re⟩
theorem s_retN : PS X (.Return none pos) (upS X.K C W dRetN) := ps_imp ps_retN fun D σ H ⟨env, g, E, re, rg, q, cn, cr, cx⟩ => cr _ _ _ _ q (.refl _) rg rfl
theorem s_if (hc : PT X e (upT X.K C W tc)) (h1 : PSs X sts (upS X.K C W t)) (h2 : PSs X rest (upS X.K C W u)) : PS X (.If e sts rest pos) (upS X.K C W (dIf tc t u)) := by
  refine ps_imp (ps_if hc h1 h2) fun D σ H ⟨env, g, E, re, rg, q, cn, cr, cx⟩ => ?_
  refine ⟨env, g, _, _, re, rg, q, fun b g1 H1 q1 k r => ?_, cx.e re⟩
  cases b with
  | true => rw [if_pos rfl] at q1 ⊢; exact ⟨env, g1, E, re.keep k, r, q1, cn.at k, cr.at k, cx.at k⟩
  | false => rw [if_neg Bool.false_ne_true] at q1 ⊢; exact ⟨env, g1, E, re.keep k, r, q1, cn.at k, cr.at k, cx.at k⟩
theorem pg_imp {tg : Expr} {t t' : TG} (h : PG X tg t) (f : ∀ v σ H Q, t' v σ H Q → t v σ H Q) : PG X tg t' := ⟨fun pins s σ H v u Q I r q => h.run pins s σ H v u Q I r (f v σ H Q q)⟩
theorem g_name {i : Nat} {x : Str} (hN : X.N.Nodup) (hi : X.N[i]? = some x) (hx : Loc X.env.scope x) (hf : X.fn x = true ∨ X.env.scope.names.lookup x = some .local) : PG X (.Name x pos) (gUp X.K (.n i)) :=
  pg_imp (pg_name hN hi hx hf) fun v σ H Q ⟨d, env, g, N, rv, re, rg, q, cl⟩ => cl _ _ _ _ q (.refl _) (re.set rv) rg ⟨[v], rfl⟩
def gNames (is : List Nat) : TGs := fun vs σ H Q => vs.length = is.length ∧ Q (setV σ is vs) H
theorem pgs_imp {ts : List Expr} {t t' : TGs} (h : PGs X ts t) (f : ∀ v σ H Q, t' v σ H Q → t v σ H Q) : PGs X ts t' := ⟨fun pins s σ H v u Q I r q => h.run pins s σ H v u Q I r (f v σ H Q q)⟩
theorem gs_nil : PGs X [] (gNames []) := pgs_imp pgs_nil fun vs σ H Q ⟨h, q⟩ => by
  cases vs with
  | nil => exact ⟨rfl, q⟩
  | cons v vs => cases h
theorem gs_cons {i : Nat} {is : List Nat} {x : Str} {es : List Expr} {p : Pos} (h1 : PG X (.Name x p) (gName i)) (h2 : PGs X es (gNames is)) (hs : (assignEach (.Name x p :: es) X.env).map (·.2) = assign (.Name x p) X.env :: (assignEach es X.env).map (·.2)) : PGs X (.Name x p :: es) (gNames (i :: is)) :=
  pgs_imp (pgs_cons h1 h2 hs) fun vs σ H Q ⟨h, q⟩ => by
    cases vs with
    | nil => cases h
    | cons v vs => exact ⟨v, vs, rfl, by simpa using h, q⟩
theorem setAll_rep {K : PySem.W.Frag} {H : Hp} : ∀ {is : List Nat} {ds : List D} {vs : List V} {env : Env} {σ : List (Option V)}, RepE K H env σ → RepL K H ds vs → RepE K H (setAll env is ds) (setV σ is vs)
  | [], ds, vs, env, σ, h, r => by simpa [setAll, setV] using h
  | i :: is, [], vs, env, σ, h, r => by cases (show vs = [] from r); simpa [setAll, setV] using h
  | i :: is, d :: ds, vs, env, σ, h, ⟨v, t, e, rv, rl⟩ => by
    subst e
    show RepE K H (setAll (env.set i (some d)) is ds) (setV (σ.set i (some v)) is t)
    exact setAll_rep (h.set rv) rl
theorem PG.or {tg : Expr} {t t' : TG} (h : PG X tg t) (h' : PG X tg t') : PG X tg (fun v σ H Q => t v σ H Q ∨ t' v σ H Q) := ⟨fun pins s σ H v u Q I r q => q.elim (h.run pins s σ H v u Q I r) (h'.run pins s σ H v u Q I r)⟩
theorem g_tup {es : List Expr} {k : Nat} {is : List Nat} (hc : X.calm = true) (h : PGs X es (gNames is)) (hn : (assignEach es X.env).length = is.length) (hst : (assignEach es X.env).findIdx? (·.1) = none) : PG X (.Tuple es k pos) (gUp X.K (.t is)) := by
  refine pg_imp (PG.or (pg_tup hc h hn hst) (pg_lst hc h hn hst)) fun v σ H Q ⟨d, env, g, N, rv, re, rg, q, cl⟩ => ?_
  unfold gD at q
  split at q
  · rename_i z; cases z
  · rename_i z
    cases z
    obtain ⟨a, vs, e, t, l⟩ := rv
    exact .inl ⟨a, vs, e, t.sq, by rw [l.length]; exact q.1, by rw [l.length]; exact q.1, cl _ _ _ _ q.2 (.refl _) (setAll_rep re l) rg ⟨_, rfl⟩⟩
  · rename_i z
    cases z
    split at q
    · rename_i ds e
      obtain ⟨vs, h, l⟩ := rg _ ds e
      exact .inr ⟨_, vs, rv, .of h, by rw [l.length]; exact q.1, by rw [l.length]; exact q.1, cl _ _ _ _ q.2 (.refl _) (setAll_rep re l) rg ⟨_, rfl⟩⟩
    · exact q.elim
  · exact q.elim
theorem s_asg {tg : Expr} {tgd : TgD} (h : PE X e (up X.K C W te)) (hg : PG X tg (gUp X.K tgd)) (hs : swapsWithSole [tg] e pos.line X.env = pure false) (hw : swappedStores [tg] e X.env = pure none) (h1 : (assignEach [tg] X.env).map (·.2) = [assign tg X.env]) : PS X (.Assign [tg] e pos) (upS X.K C W (dAsg tgd te)) := by
  refine ps_imp (ps_asg h hg hs hw h1) fun D σ H ⟨env, g, E, re, rg, q, cn, cr, cx⟩ => ?_
  refine ⟨env, g, _, _, re, rg, q, fun d g1 v H1 q1 k r rv => ?_, cx.e re⟩
  exact ⟨d, env, g1, E.nx, rv, re.keep k, r, q1, (cn.at k).g⟩
theorem s_set {i : Nat} {x : Str} {p : Pos} (hN : X.N.Nodup) (hi : X.N[i]? = some x) (hx : Loc X.env.scope x) (h : PE X e (up X.K C W te)) (hs : swapsWith e (some (.Name x p)) pos.line X.env = pure false) (hf : X.fn x = true ∨ X.env.scope.names.lookup x = some .local) : PS X (.Assign [.Name x p] e pos) (upS X.K C W (dAsg (.n i) te)) := by
  refine ps_imp (ps_set hN hi hx h hs hf) fun D σ H ⟨env, g, E, re, rg, q, cn, cr, cx⟩ => ?_
  refine ⟨env, g, _, _, re, rg, q, fun d g1 v H1 q1 k r rv => ?_, cx.e re⟩
  exact cn _ _ _ _ q1 k ((re.keep k).set rv) r
theorem s_par {i j : Nat} {x y : Str} {px py pt : Pos} {kt k2 pt2} (hc : X.calm = true) (hN : X.N.Nodup) (hi : X.N[i]? = some x) (hj : X.N[j]? = some y) (hij : i ≠ j)
    (hx : X.env.scope.names.lookup x = some .local) (hy : X.env.scope.names.lookup y = some .local) (ha : PE X a (up X.K C W ta)) (hb : PE X b (up X.K C W tb)) (ka : starEach [a, b] X.env = (false, eval a X.env) :: starEach [b] X.env) (kb : starEach [b] X.env = (false, eval b X.env) :: starEach [] X.env)
    (hw : swappedStores [.Tuple [.Name x px, .Name y py] kt pt] (.Tuple [a, b] k2 pt2) X.env = pure (some [x, y]))
    (hs : swapsWithSole [.Tuple [.Name x px, .Name y py] kt pt] (.Tuple [a, b] k2 pt2) pos.line X.env = pure false) : PS X (.Assign [.Tuple [.Name x px, .Name y py] kt pt] (.Tuple [a, b] k2 pt2) pos) (upS X.K C W (dPar i j ta tb)) := by
  refine ps_imp (ps_par hc hN hi hj hij hx hy (pa_cons ha (pa_cons hb pa_nil kb) ka) hw hs) fun D σ H ⟨env, g, E, re, rg, q, cn, cr, cx⟩ => ?_
  refine ⟨env, g, _, _, re, rg, q, fun d g1 v H1 q1 k r rv => ?_, cx.e re⟩
  refine ⟨env, g1, _, _, re.keep k, r, q1, fun d2 g2 v2 H2 q2 k2 r2 rv2 => ?_, (cx.at k).e (re.keep k)⟩
  exact ⟨v, v2, rfl, cn _ _ _ _ q2 (k.trans k2) (((re.keep (k.trans k2)).set (rv.keep k2)).set rv2) r2⟩
theorem s_sub {tp : Pos} (ho : PE X a (up X.K C W to)) (hi : PE X b (up X.K C W ti)) (h : PE X e (up X.K C W te))
    (ha : ∀ v, assign (.Subscript a b tp) X.env v = (do
      let ov ← holding [v] (eval a X.env)
      let iv ← holding [v, ov] (eval b X.env)
      standAt tp
      holding [v, ov, iv] (setItem ov iv v)
      release [v, ov, iv] []))
    (hs : swapsWithSole [.Subscript a b tp] e pos.line X.env = pure false) (hw : swappedStores [.Subscript a b tp] e X.env = pure none) (h1 : (assignEach [.Subscript a b tp] X.env).map (·.2) = [assign (.Subscript a b tp) X.env]) : PS X (.Assign [.Subscript a b tp] e pos) (upS X.K C W (dPut to ti te)) := by
  refine ps_imp (ps_asg h (pg_sub ho hi set_list ha) hs hw h1) fun D σ H ⟨env, g, E, re, rg, q, cn, cr, cx⟩ => ?_
  refine ⟨env, g, _, _, re, rg, q, fun d g1 v H1 q1 k r rv => ?_, cx.e re⟩
  refine ⟨env, g1, _, _, re.keep k, r, q1, fun o g2 ov H2 q2 k2 r2 ro => ?_, (cx.at k).e (re.keep k)⟩
  refine ⟨env, g2, _, _, (re.keep k).keep k2, r2, q2, fun i g3 iv H3 q3 k3 r3 ri => ?_, ((cx.at k).at k2).e ((re.keep k).keep k2)⟩
  have q3 : dSet o i d g3 (fun g4 => E.nx env g4) := q3
  unfold dSet at q3
  split at q3
  · rename_i p kk
    split at q3
    · rename_i xs e1
      split at q3
      · rename_i j e2
        obtain ⟨vs, hh, l⟩ := r3 _ xs e1
        refine ⟨_, vs, _, j, ro, ri, hh, by rw [l.length]; exact e2, ?_⟩
        have kk := (k.trans k2).trans k3
        exact cn _ _ _ _ q3 (kk.trans (.set hh)) (re.keep (kk.trans (.set hh))) (r3.put hh (l.set (rv.keep (k2.trans k3)) j))
      · exact q3.elim
    · exact q3.elim
  · exact q3.elim
theorem s_while {body : List Stmt} (hp : PassesOwn (model X.prog X.w) X.A X.env X.xe) (hc : PT X e (upT X.K C W tc)) (hb : PSs X body (upS X.K C W t)) : PS X (.While e body [] pos) (upS X.K C W (dWhile tc t)) := by
  refine ps_imp (ps_while hp hc hb) fun D σ H ⟨env, g, E, re, rg, ⟨I, ⟨m0, i0⟩, turn⟩, cn, cr, cx⟩ => ?_
  refine ⟨fun m σ1 H1 => TK H H1 ∧ ∃ env1 g1, RepE X.K H1 env1 σ1 ∧ RepG X.K H1 g1 ∧ I m env1 g1, ⟨m0, .refl _, env, g, re, rg, i0⟩, ?_⟩
  rintro m σ1 H1 ⟨k, env1, g1, re1, rg1, i1⟩
  refine ⟨env1, g1, _, _, re1, rg1, turn m env1 g1 i1, fun b g2 H2 q2 k2 r2 => ?_, (cx.at k).e re1⟩
  cases b with
  | true =>
    rw [if_pos rfl] at q2 ⊢
    refine ⟨fun σ' H' => ∃ m', m' < m ∧ TK H H' ∧ ∃ env1 g1, RepE X.K H' env1 σ' ∧ RepG X.K H' g1 ∧ I m' env1 g1, fun σ' H' ⟨m', h, z⟩ => ⟨m', h, z⟩, env1, g2, _, re1.keep k2, r2, q2, fun env3 g3 σ3 H3 ⟨m', hm, q3⟩ k3 r3 r3' => ?_, cr.at (k.trans k2), cx.at (k.trans k2)⟩
    exact ⟨m', hm, (k.trans k2).trans k3, env3, g3, r3, r3', q3⟩
  | false =>
    rw [if_neg Bool.false_ne_true] at q2 ⊢
    exact cn _ _ _ _ q2 (k.trans k2) (re1.keep k2) r2
theorem s_for {tg iter : Expr} {body : List Stmt} {ti : DTI} {tgd : TgD} (hp : PassesOwn (model X.prog X.w) X.A X.env X.xe) (hc : X.calm = true) (hi : PI X tg iter (upI X.K C W ti)) (hg : PG X tg (gUp X.K tgd)) (hb : PSs X body (upS X.K C W t))
    (hs : ∀ x, foldedSetIterable iter X.env x = pure x) : PS X (.For tg iter body [] pos) (upS X.K C W (dFor ti tgd t)) := by
  refine ps_imp (ps_for hp hc hi hg hb hs) fun D σ H ⟨env, g, E, re, rg, q, cn, cr, cx⟩ => ?_
  refine ⟨env, g, _, _, re, rg, q, fun items stay g1 J H1 q1 k r ok => ?_, cx.e re⟩
  refine ⟨fun i m σ2 H2 => m = items.length - i ∧ i ≤ items.length ∧ TK H1 H2 ∧ ∃ env2 g2, RepE X.K H2 env2 σ2 ∧ RepG X.K H2 g2 ∧ forD stay (fun x env g N => gD tgd x env g fun env1 g1 => t { E with nx := N } env1 g1) E.nx (items.drop i) env2 g2,
    ⟨items.length, rfl, Nat.zero_le _, .refl _, env, g1, re.keep k, r, q1⟩, ?_⟩
  rintro i m σ2 H2 ⟨rfl, hle, k2, env2, g2, re2, rg2, q2⟩
  by_cases hlt : i < items.length
  · have hd : items.drop i = items[i] :: items.drop (i + 1) := List.drop_eq_getElem_cons hlt
    rw [hd] at q2
    obtain ⟨st, q2⟩ := q2
    refine .inr ⟨ok.go i g2 H2 hlt k2 rg2 st, fun σ' H' => TK H1 H' ∧ ∃ env2 g2, RepE X.K H' env2 σ' ∧ RepG X.K H' g2 ∧ forD stay (fun x env g N => gD tgd x env g fun env1 g1 => t { E with nx := N } env1 g1) E.nx (items.drop (i + 1)) env2 g2,
      fun σ' H' z => ⟨items.length - (i + 1), by omega, rfl, hlt, z⟩, fun x H' y => ?_⟩
    obtain ⟨d, e1, rd, k3, rg3⟩ := ok.yld i g2 H2 x H' hlt k2 rg2 st y
    have e2 : items[i] = d := by
      rw [List.getElem?_eq_getElem hlt] at e1
      exact Option.some.inj e1
    rw [e2] at q2
    refine ⟨d, env2, g2, _, rd, re2.keep k3, rg3, q2, fun env3 g3 σ3 H3 q3 k4 re3 rg4 _ => ?_⟩
    have kk := (k2.trans k3).trans k4
    refine ⟨env3, g3, _, re3, rg4, q3, fun env5 g5 σ5 H5 q5 k5 re5 rg5 => ?_, cr.at (k.trans kk), cx.at (k.trans kk)⟩
    exact ⟨kk.trans k5, env5, g5, re5, rg5, q5⟩
  · have hd : items.drop i = [] := List.drop_eq_nil_of_le (by omega)
    rw [hd] at q2
    obtain ⟨st, q2⟩ := q2
    exact .inl ⟨ok.stop i g2 H2 (by omega) hle k2 rg2 st, cn _ _ _ _ q2 (k.trans k2) re2 rg2⟩
end
end PP
namespace PP
open PySem PySem.Spec PyProof.Rows L2
def dTst (te : DTE) : DTT := fun X env g Q => te X env g fun d g1 => match d with | .bl b => Q b g1 | _ => False
def dAndT (ta tb : DTT) : DTT := fun X env g Q => ta X env g fun b g1 => if b = true then tb X env g1 Q else Q false g1
def dOrT (ta tb : DTT) : DTT := fun X env g Q => ta X env g fun b g1 => if b = true then Q true g1 else tb X env g1 Q
def dNotT (ta : DTT) : DTT := fun X env g Q => ta X env g fun b g1 => Q (!b) g1
def dYes : DTT := fun _ _ g Q => Q true g
def dAnd (ta tb : DTE) : DTE := fun X env g Q => ta X env g fun d g1 => match d with | .bl b => if b = true then tb X env g1 Q else Q (.bl false) g1 | _ => False
def dOr (ta tb : DTE) : DTE := fun X env g Q => ta X env g fun d g1 => match d with | .bl b => if b = true then Q (.bl true) g1 else tb X env g1 Q | _ => False
def dNot (ta : DTE) : DTE := fun X env g Q => ta X env g fun d g1 => match d with | .bl b => Q (.bl (!b)) g1 | _ => False
def dNeg : D → G → QD → Prop
  | .int i => fun g Q => Q (.int (-i)) g
  | _ => fun _ _ => False
def dChain (r r' : D → D → G → QD → Prop) (ta tb tc : DTE) : DTE := fun X env g Q => ta X env g fun x g1 => tb X env g1 fun y g2 => r x y g2 fun z g3 => match z with
  | .bl k => if k = true then tc X env g3 fun w g4 => r' y w g4 Q else Q (.bl false) g3
  | _ => False
section
variable {X : Cx} {C : Ex → Addr} {W : WX} {e a b c : Expr} {es rest : List Expr} {pos : Pos} {ta tb tc : DTE} {qa qb : DTT} {tA : DTA}
theorem t_val (h : PE X e (up X.K C W ta)) (he : ∀ whole, isTrue e X.env whole = (do let v ← whole; standAt e.pos; holding [v] (truthy v))) : PT X e (upT X.K C W (dTst ta)) := by
  refine pt_imp (pt_val h he) fun σ H Q ⟨env, g, Xd, Qd, re, rg, t, cl, cx⟩ => ?_
  refine ⟨env, g, Xd, _, re, rg, t, fun d g1 v H1 q k r rv => ?_, cx⟩
  dsimp only at q
  split at q
  · exact ⟨_, rv, cl _ _ _ q k r⟩
  · exact q.elim
theorem t_and1 (h : PT X a (upT X.K C W qa)) : PW X (.BoolOp .And [a] pos) (upT X.K C W qa) := pw_and1 h
theorem t_or1 (h : PT X a (upT X.K C W qa)) : PW X (.BoolOp .Or [a] pos) (upT X.K C W qa) := pw_or1 h
theorem t_and (h : PT X a (upT X.K C W qa)) (h2 : PW X (.BoolOp .And (b :: rest) pos) (upT X.K C W qb)) : PW X (.BoolOp .And (a :: b :: rest) pos) (upT X.K C W (dAndT qa qb)) := by
  refine pw_imp (pw_and h h2) fun σ H Q ⟨env, g, Xd, Qd, re, rg, t, cl, cx⟩ => ?_
  refine ⟨env, g, Xd, _, re, rg, t, fun b g1 H1 q k r => ?_, cx⟩
  cases b with
  | true => rw [if_pos rfl] at q ⊢; exact ⟨env, g1, Xd, _, re.keep k, r, q, cl.at k, cx.at k⟩
  | false => rw [if_neg Bool.false_ne_true] at q ⊢; exact cl _ _ _ q k r
theorem t_or (h : PT X a (upT X.K C W qa)) (h2 : PW X (.BoolOp .Or (b :: rest) pos) (upT X.K C W qb)) : PW X (.BoolOp .Or (a :: b :: rest) pos) (upT X.K C W (dOrT qa qb)) := by
  refine pw_imp (pw_or h h2) fun σ H Q ⟨env, g, Xd, Qd, re, rg, t, cl, cx⟩ => ?_
  refine ⟨env, g, Xd, _, re, rg, t, fun b g1 H1 q k r => ?_, cx⟩
  cases b with
  | true => rw [if_pos rfl] at q ⊢; exact cl _ _ _ q k r
  | false => rw [if_neg Bool.false_ne_true] at q ⊢; exact ⟨env, g1, Xd, _, re.keep k, r, q, cl.at k, cx.at k⟩
theorem t_not (h : PT X a (upT X.K C W qa)) : PT X (.UnaryOp .Not a pos) (upT X.K C W (dNotT qa)) := by
  refine pt_imp (pt_not h) fun σ H Q ⟨env, g, Xd, Qd, re, rg, t, cl, cx⟩ => ?_
  exact ⟨env, g, Xd, _, re, rg, t, fun b g1 H1 q k r => cl _ _ _ q k r, cx⟩
theorem t_cmp {r : D → D → G → QD → Prop} {op : CmpOp} (ho : OpR X (compareOp op) (rUp X.K r)) (ha : PE X a (up X.K C W ta)) (hb : PE X b (up X.K C W tb)) (hm : behindInMarks op b = false) : PT X (.Compare a [op] [b] pos) (upT X.K C W (dTst (dBin r ta tb))) := by
  refine pt_imp (pt_cmpR ho ha hb hm) fun σ H Q ⟨env, g, Xd, Qd, re, rg, t, cl, cx⟩ => ?_
  refine ⟨env, g, Xd, _, re, rg, t, fun d1 g1 v H1 q k1 r1 rv => ?_, cx⟩
  refine ⟨env, g1, Xd, _, re.keep k1, r1, q, fun d2 g2 u H2 q2 k2 r2 ru => ?_, cx.at k1⟩
  refine ⟨d1, d2, g2, _, rv.keep k2, ru, r2, q2, fun d3 g3 w H3 q3 k3 r3 rw' => ?_⟩
  split at q3
  · exact ⟨_, rw', cl _ _ _ q3 ((k1.trans k2).trans k3) r3⟩
  · exact q3.elim
theorem v_one {op} (h : PE X a (up X.K C W ta)) : PE X (.BoolOp op [a] pos) (up X.K C W ta) := pe_one h
theorem v_and (h : PE X a (up X.K C W ta)) (h2 : PE X (.BoolOp .And (b :: rest) pos) (up X.K C W tb)) : PE X (.BoolOp .And (a :: b :: rest) pos) (up X.K C W (dAnd ta tb)) := by
  refine pe_imp (pe_and h h2) fun σ H Q ⟨env, g, Xd, Qd, re, rg, t, cl, cx⟩ => ?_
  refine ⟨env, g, Xd, _, re, rg, t, fun d g1 v H1 q k r rv => ?_, cx⟩
  dsimp only at q
  split at q
  · rename_i b
    refine ⟨b, rv, ?_⟩
    cases b with
    | true => rw [if_pos rfl] at q ⊢; exact ⟨env, g1, Xd, _, re.keep k, r, q, cl.at k, cx.at k⟩
    | false => rw [if_neg Bool.false_ne_true] at q ⊢; exact cl _ _ _ _ q k r rfl
  · exact q.elim
theorem v_or (h : PE X a (up X.K C W ta)) (h2 : PE X (.BoolOp .Or (b :: rest) pos) (up X.K C W tb)) : PE X (.BoolOp .Or (a :: b :: rest) pos) (up X.K C W (dOr ta tb)) := by
  refine pe_imp (pe_or h h2) fun σ H Q ⟨env, g, Xd, Qd, re, rg, t, cl, cx⟩ => ?_
  refine ⟨env, g, Xd, _, re, rg, t, fun d g1 v H1 q k r rv => ?_, cx⟩
  dsimp only at q
  split at q
  · rename_i b
    refine ⟨b, rv, ?_⟩
    cases b with
    | true => rw [if_pos rfl] at q ⊢; exact cl _ _ _ _ q k r rfl
    | false => rw [if_neg Bool.false_ne_true] at q ⊢; exact ⟨env, g1, Xd, _, re.keep k, r, q, cl.at k, cx.at k⟩
  · exact q.elim
theorem v_not (h : PE X a (up X.K C W ta)) : PE X (.UnaryOp .Not a pos) (up X.K C W (dNot ta)) := by
  refine pe_imp (pe_not h) fun σ H Q ⟨env, g, Xd, Qd, re, rg, t, cl, cx⟩ => ?_
  refine ⟨env, g, Xd, _, re, rg, t, fun d g1 v H1 q k r rv => ?_, cx⟩
  dsimp only at q
  split at q
  · rename_i b
    exact ⟨b, rv, cl _ _ _ _ q k r rfl⟩
  · exact q.elim
theorem v_neg (h : PE X a (up X.K C W ta)) : PE X (.UnaryOp .USub a pos) (up X.K C W (dUn dNeg ta)) := by
  refine pe_imp (pe_un un_neg h) fun σ H Q ⟨env, g, Xd, Qd, re, rg, t, cl, cx⟩ => ?_
  refine ⟨env, g, Xd, _, re, rg, t, fun d g1 v H1 q k r rv => ?_, cx⟩
  have q : dNeg d g1 Qd := q
  unfold dNeg at q
  split at q
  · exact ⟨_, rv, cl _ _ _ _ q k r rfl⟩
  · exact q.elim
theorem v_chain {r r' : D → D → G → QD → Prop} {op op' : CmpOp} (ho : OpR X (compareOp op) (rUp X.K r)) (ho' : OpR X (compareOp op') (rUp X.K r')) (ha : PE X a (up X.K C W ta)) (hb : PE X b (up X.K C W tb)) (hc : PE X c (up X.K C W tc)) (hm : lastMarks [op, op'] [b, c] = false) :
    PE X (.Compare a [op, op'] [b, c] pos) (up X.K C W (dChain r r' ta tb tc)) := by
  refine pe_imp (pe_chain ho ho' ha hb hc hm) fun σ H Q ⟨env, g, Xd, Qd, re, rg, t, cl, cx⟩ => ?_
  refine ⟨env, g, Xd, _, re, rg, t, fun d1 g1 v H1 q k1 r1 rv => ?_, cx⟩
  refine ⟨env, g1, Xd, _, re.keep k1, r1, q, fun d2 g2 u H2 q2 k2 r2 ru => ?_, cx.at k1⟩
  refine ⟨d1, d2, g2, _, rv.keep k2, ru, r2, q2, fun d3 g3 w H3 q3 k3 r3 rw' => ?_⟩
  have kk := (k1.trans k2).trans k3
  split at q3
  · rename_i k
    refine ⟨k, rw', ?_⟩
    cases k with
    | true =>
      rw [if_pos rfl] at q3 ⊢
      refine ⟨env, g3, Xd, _, re.keep kk, r3, q3, fun d4 g4 z H4 q4 k4 r4 rz => ?_, cx.at kk⟩
      exact ⟨d2, d4, g4, Qd, (ru.keep k3).keep k4, rz, r4, q4, cl.at (kk.trans k4)⟩
    | false => rw [if_neg Bool.false_ne_true] at q3 ⊢; exact cl _ _ _ _ q3 kk r3 rfl
  · exact q3.elim
end
def wipeD (env : Env) (vs : List Nat) : Env := vs.foldr (fun v e => e.set v none) env
def compD (stay : G → Prop) (p : Addr) (body : D → G → (Option D → G → Prop) → Prop) (fin : G → Prop) : List D → List D → G → Prop
  | [], _, g => stay g ∧ fin g
  | x :: xs, acc, g => stay g ∧ body x g fun o g' => match o with
    | some d => g' p = some acc ∧ compD stay p body fin xs (acc ++ [d]) (g'.up p (acc ++ [d]))
    | none => g' p = some acc ∧ compD stay p body fin xs acc g'
def compB (tg : TgD) (env : Env) (tt : DTT) (te : DTE) : D → G → (Option D → G → Prop) → Prop := fun x g k => gD tg x env g fun env2 g2 => tt (fun _ _ => False) env2 g2 fun b g3 => if b = true then te (fun _ _ => False) env2 g3 fun d g4 => k (some d) g4 else k none g3
def dComp (ti : DTI) (tg : TgD) (own : List Nat) (tt : DTT) (te : DTE) : DTE := fun X env g Q => ti X env g fun items stay g1 => items.length ≤ sizeLine ∧ ∀ p, g1 p = none → compD stay p (compB tg (wipeD env own) tt te) (Q (.ref p)) items [] (g1.up p [])
def W0 : WX := fun _ _ _ _ => False
theorem wipe_in {σ : List (Option V)} {i : Nat} : ∀ {vs : List Nat}, i ∈ vs → i < σ.length → (wipe σ vs)[i]? = some none
  | [], h, _ => by cases h
  | v :: vs, h, hl => by
    unfold wipe
    by_cases hi : v = i
    · subst hi
      rw [List.getElem?_set_self (by rw [wipe_length]; exact hl)]
    · rw [List.getElem?_set_ne hi]
      rcases List.mem_cons.mp h with z | z
      · exact absurd z.symm hi
      · exact wipe_in z hl
theorem wipe_eq {σ σ' : List (Option V)} {vs : List Nat} (hl : σ.length = σ'.length) (h : ∀ i, i ∉ vs → σ[i]? = σ'[i]?) : wipe σ vs = wipe σ' vs := by
  apply List.ext_getElem?
  intro i
  by_cases hi : i ∈ vs
  · by_cases hb : i < σ.length
    · rw [wipe_in hi hb, wipe_in hi (by omega)]
    · rw [List.getElem?_eq_none (by rw [wipe_length]; omega), List.getElem?_eq_none (by rw [wipe_length]; omega)]
  · rw [wipe_out hi, wipe_out hi]
    exact h i hi
theorem setV_length : ∀ {is : List Nat} {ws : List V} {σ : List (Option V)}, (setV σ is ws).length = σ.length
  | [], ws, σ => by simp [setV]
  | i :: is, [], σ => by simp [setV]
  | i :: is, w :: ws, σ => by show (setV (σ.set i (some w)) is ws).length = _; rw [setV_length, List.length_set]
theorem setV_out : ∀ {is : List Nat} {ws : List V} {σ : List (Option V)} {j : Nat}, j ∉ is → (setV σ is ws)[j]? = σ[j]?
  | [], ws, σ, j, h => by simp [setV]
  | i :: is, [], σ, j, h => by simp [setV]
  | i :: is, w :: ws, σ, j, h => by
    simp only [List.mem_cons, not_or] at h
    show (setV (σ.set i (some w)) is ws)[j]? = _
    rw [setV_out h.2, List.getElem?_set_ne (Ne.symm h.1)]
theorem wipe_set {σ : List (Option V)} {vs is : List Nat} {ws : List V} (h : ∀ i ∈ is, i ∈ vs) : wipe (setV (wipe σ vs) is ws) vs = wipe σ vs :=
  wipe_eq (by rw [setV_length, wipe_length]) fun i hi => by
    rw [setV_out (fun z => hi (h i z)), wipe_out hi]
theorem lc_up {K : PySem.W.Frag} {C : Ex → Addr} {W : WX} {ti : DTI} {tg : TgD} {own : List Nat} {tt : DTT} {te : DTE} {σ H Q} (hsub : ∀ i ∈ tg.slots, i ∈ own) (h : up K C W (dComp ti tg own tt te) σ H Q) :
    tLc (upI K C W ti) (gUp K tg) (upT K C W0 tt) (up K C W0 te) own σ H Q := by
  obtain ⟨env, g, Xd, Qd, re, rg, t, cl, cx⟩ := h
  refine ⟨env, g, Xd, _, re, rg, t, fun items stay g1 J H1 q k r ok p hp => ?_, cx⟩
  obtain ⟨hsz, q⟩ := q
  have q := q p (r.none hp)
  have kp : TK H1 (upd H1 p (.lst [])) := .new hp
  refine ⟨fun i m H2 => m = items.length - i ∧ i ≤ items.length ∧ TK H1 H2 ∧ ∃ acc g2, acc.length ≤ i ∧ RepG K H2 g2 ∧ g2 p = some acc ∧ compD stay p (compB tg (wipeD env own) tt te) (Qd (.ref p)) (items.drop i) acc g2,
    ⟨items.length, rfl, Nat.zero_le _, kp, [], g1.up p [], Nat.le_refl _, r.new hp rfl, by simp [G.up], q⟩, ?_⟩
  rintro i m H2 ⟨rfl, hle, k2, acc, g2, hacc, rg2, hgp, q2⟩
  by_cases hlt : i < items.length
  · have hd : items.drop i = items[i] :: items.drop (i + 1) := List.drop_eq_getElem_cons hlt
    rw [hd] at q2
    obtain ⟨st, q2⟩ := q2
    refine .inr ⟨ok.go i g2 H2 hlt k2 rg2 st, fun H' => TK H1 H' ∧ ∃ acc g2, acc.length ≤ i + 1 ∧ RepG K H' g2 ∧ g2 p = some acc ∧ compD stay p (compB tg (wipeD env own) tt te) (Qd (.ref p)) (items.drop (i + 1)) acc g2, fun H' z => ⟨items.length - (i + 1), by omega, rfl, hlt, z⟩, fun x H' y => ?_⟩
    obtain ⟨d, e1, rd, k3, rg3⟩ := ok.yld i g2 H2 x H' hlt k2 rg2 st y
    have e2 : items[i] = d := by
      rw [List.getElem?_eq_getElem hlt] at e1
      exact Option.some.inj e1
    rw [e2] at q2
    have reW : RepE K H' (wipeD env own) (wipe σ own) := (re.keep ((k.trans k2).trans k3)).wipe own
    refine ⟨d, _, g2, _, rd, reW, rg3, q2, fun env3 g3 σ3 H3 q3 k4 re3 rg4 ⟨ws, eσ⟩ => ?_⟩
    refine ⟨by rw [eσ]; exact wipe_set hsub, ?_⟩
    refine ⟨env3, g3, _, _, re3, rg4, q3, fun b g5 H5 q5 k5 r5 => ?_, fun n g' H' z => z.elim⟩
    cases b with
    | true =>
      rw [if_pos rfl] at q5 ⊢
      refine ⟨env3, g5, _, _, re3.keep k5, r5, q5, fun d6 g6 v6 H6 q6 k6 r6 rv6 => ?_, fun n g' H' z => z.elim⟩
      obtain ⟨h6, q6⟩ := q6
      obtain ⟨vs, hv, rl⟩ := r6 p acc h6
      have kk := (((k2.trans k3).trans k4).trans k5).trans k6
      refine ⟨vs, hv, ?_, ?_⟩
      · rw [rl.length]
        omega
      · exact ⟨kk.trans (.set hv), acc ++ [d6], _, by simp; omega, r6.put hv (rl.app (.one rv6)), by simp [G.up], q6⟩
    | false =>
      rw [if_neg Bool.false_ne_true] at q5 ⊢
      exact ⟨((k2.trans k3).trans k4).trans k5, acc, g5, by omega, r5, q5.1, q5.2⟩
  · have hd : items.drop i = [] := List.drop_eq_nil_of_le (by omega)
    rw [hd] at q2
    obtain ⟨st, q2⟩ := q2
    exact .inl ⟨ok.stop i g2 H2 (by omega) hle k2 rg2 st, cl _ _ _ _ q2 (k.trans k2) rg2 rfl⟩
section
variable {X : Cx} {C : Ex → Addr} {W : WX} {elt tg iter : Expr} {ifs : List Expr} {scope : Scope} {own : List (Str × Nat)} {pos : Pos} {ti : DTI} {tgd : TgD} {tt : DTT} {te : DTE}
theorem d_comp (hc : X.calm = true) (hN : X.N.Nodup) (hi : PI X tg iter (upI X.K C W ti)) (ok : BlkOk X.N X.env.scope scope own)
    (hg : ∀ (s : Shared) (H : Hp) (A : Addr) (cl : List (Str × Addr)) (fp : List Addr), PG (X.blk s H scope (compEnvC scope cl A X.env) fp) tg (gUp X.K tgd))
    (ht : ∀ (s : Shared) (H : Hp) (A : Addr) (cl : List (Str × Addr)) (fp : List Addr), PTs (X.blk s H scope (compEnvC scope cl A X.env) fp) ifs (upT X.K C W0 tt))
    (he : ∀ (s : Shared) (H : Hp) (A : Addr) (cl : List (Str × Addr)) (fp : List Addr), PE (X.blk s H scope (compEnvC scope cl A X.env) fp) elt (up X.K C W0 te))
    (hs : ∀ x, foldedSetIterable iter X.env x = pure x) (hsub : ∀ i ∈ tgd.slots, i ∈ own.map (·.2)) :
    PE X (.ListComp elt [⟨tg, iter, ifs, 0⟩] scope pos) (up X.K C W (dComp ti tgd (own.map (·.2)) tt te)) :=
  pe_imp (pe_lc hc hN hi ok hg ht he hs) fun σ H Q h => lc_up hsub h
theorem s_setLc {i : Nat} {y : Str} {py spos : Pos} (hc : X.calm = true) (hN : X.N.Nodup) (hy : X.N[i]? = some y) (hyl : X.env.scope.names.lookup y = some .local)
    (hsw : swapsWith (.ListComp elt [⟨tg, iter, ifs, 0⟩] scope pos) (some (.Name y py)) spos.line X.env = pure true) (hi : PI X tg iter (upI X.K C W ti)) (ok : BlkOk X.N X.env.scope scope own)
    (hg : ∀ (s : Shared) (H : Hp) (A : Addr) (cl : List (Str × Addr)) (fp : List Addr), PG (X.blk s H scope (compEnvC scope cl A X.env) fp) tg (gUp X.K tgd))
    (ht : ∀ (s : Shared) (H : Hp) (A : Addr) (cl : List (Str × Addr)) (fp : List Addr), PTs (X.blk s H scope (compEnvC scope cl A X.env) fp) ifs (upT X.K C W0 tt))
    (he : ∀ (s : Shared) (H : Hp) (A : Addr) (cl : List (Str × Addr)) (fp : List Addr), PE (X.blk s H scope (compEnvC scope cl A X.env) fp) elt (up X.K C W0 te))
    (hs : ∀ x, foldedSetIterable iter X.env x = pure x) (hsub : ∀ i ∈ tgd.slots, i ∈ own.map (·.2)) :
    PS X (.Assign [.Name y py] (.ListComp elt [⟨tg, iter, ifs, 0⟩] scope pos) spos) (upS X.K C W (dAsg (.n i) (dComp ti tgd (own.map (·.2)) tt te))) := by
  refine ps_imp (ps_setLc hc hN hy hyl hsw hi ok hg ht he hs) fun D σ H ⟨env, g, E, re, rg, q, cn, cr, cx⟩ => ?_
  refine lc_up (Q := fun x H1 => gName i x σ H1 D.nx) hsub ⟨env, g, _, _, re, rg, q, fun d g1 v H1 q1 k r rv => ?_, cx.e re⟩
  exact cn _ _ _ _ q1 k ((re.keep k).set rv) r
end
abbrev SpD := List D → G → QD → XD → Prop
def liftSp (K : PySem.W.Frag) (C : Ex → Addr) (sp : SpD) : Sp := fun vs H Q E => ∃ ds g Qd Xd, RepL K H ds vs ∧ RepG K H g ∧ sp ds g Qd Xd ∧ clos K H Qd Q ∧ closX K C H Xd E
def dCall (sp : SpD) (t : DTA) : DTE := fun X env g Q => t X env g fun ds g1 => sp ds g1 Q X
section
variable {X : Cx} {C : Ex → Addr} {W : WX} {e : Expr} {es : List Expr} {pos p : Pos} {tA : DTA} {sp : SpD} {x : Str}
structure FnAt (X : Cx) (C : Ex → Addr) (x : Str) (ps : List Str) (sp : SpD) : Prop where
  ex : ∃ (f : Addr) (fd : FuncData) (k : Nat), X.mg x = some (.ref f) ∧ PySem.W.keepIn X.K (.ref f) = true ∧ Binds X.K fd ps [] ∧ FnOk X.prog X.w X.K X.mg X.base (L2N.CX X.prog X.w) k f fd ps (liftSp X.K C sp) ∧ Room k X.A
theorem d_call {ps : List Str} (F : FnAt X C x ps sp) (tk : L2N.Takes X W) (hg : Gl X x) (ha : PA X (e :: es) (upA X.K C W tA)) (hdb : (x == ("__debug__" : Str)) = false) (he : starEach (e :: es) X.env = (false, eval e X.env) :: starEach es X.env) (hpl : (backTo pos (starEach es X.env)).any (·.1) = false) :
    PE X (.Call (.Name x p) (e :: es) [] pos) (up X.K C W (dCall sp tA)) := by
  obtain ⟨f, fd, k, hm, hk, hb, FO, hr⟩ := F.ex
  refine pe_imp (pe_callS FO hr hg hm hk hb (fun σ => L2N.passAt tk σ) ha hdb he hpl) fun σ H Q ⟨env, g, Xd, Qd, re, rg, t, cl, cx⟩ => ?_
  refine ⟨env, g, Xd, _, re, rg, t, fun ds g1 vs H1 q k1 r1 rv => ?_, cx⟩
  exact ⟨ds, g1, Qd, Xd, rv, r1, q, cl.at k1, cx.at k1⟩
theorem d_callB {r : List D → G → QD → Prop} {id : String} (hc : CallR X (.builtin id) (rUpC X.K r)) (hg : Gl X x) (hm : X.mg x = none) (hv : bootBuiltins x = some (.builtin id)) (ha : PA X (e :: es) (upA X.K C W tA)) (hn : x ≠ "__name__") (hdb : (x == ("__debug__" : Str)) = false)
    (he : starEach (e :: es) X.env = (false, eval e X.env) :: starEach es X.env) (hpl : (backTo pos (starEach es X.env)).any (·.1) = false) : PE X (.Call (.Name x p) (e :: es) [] pos) (up X.K C W (dCB r tA)) :=
  pe_imp (pe_callB hc hg hm hv ha hn hdb he hpl) fun σ H Q h => cb_up h
theorem d_callTy {r : List D → G → QD → Prop} {T : String} (hc : CallR X (.type T) (rUpC X.K r)) (hg : Gl X x) (hm : X.mg x = none) (hv : bootBuiltins x = some (.type T)) (ha : PA X (e :: es) (upA X.K C W tA)) (hn : x ≠ "__name__") (hdb : (x == ("__debug__" : Str)) = false)
    (he : starEach (e :: es) X.env = (false, eval e X.env) :: starEach es X.env) (hpl : (backTo pos (starEach es X.env)).any (·.1) = false) : PE X (.Call (.Name x p) (e :: es) [] pos) (up X.K C W (dCB r tA)) :=
  pe_imp (pe_callTy hc hg hm hv ha hn hdb he hpl) fun σ H Q h => cb_up h
end
end PP
namespace PP
open PySem PySem.Spec PyProof.Rows L2
def rUpM (K : PySem.W.Frag) (r : D → List D → G → QD → Prop) : V → List V → Hp → VK → Prop := fun x vs H Q => ∃ d ds g Qd, Rep K H d x ∧ RepL K H ds vs ∧ RepG K H g ∧ r d ds g Qd ∧ clos K H Qd Q
inductive Rc where
  | list | str
def Rc.nm : Rc → String
  | .list => "list"
  | .str => "str"
def recv : Rc → D → G → Prop
  | .list, .ref a, g => (g a).isSome = true
  | .str, .str _, _ => True
  | _, _, _ => False
def dMt (T : Rc) (r : D → List D → G → QD → Prop) (to : DTE) (tA : DTA) : DTE := fun X env g Q => to X env g fun d g1 => recv T d g1 ∧ tA X env g1 fun ds g2 => r d ds g2 Q
section
variable {X : Cx} {C : Ex → Addr} {W : WX} {o e : Expr} {es : List Expr} {to : DTE} {tA : DTA} {r : D → List D → G → QD → Prop} {name : Str} {apos cpos : Pos} {T : Rc} {id : String}
theorem recv_ty {K : PySem.W.Frag} {H : Hp} {d : D} {g : G} {v : V} (h : recv T d g) (rv : Rep K H d v) (rg : RepG K H g) : tyV K T.nm v H := by
  unfold recv at h
  split at h
  · cases (show v = .ref _ from rv)
    obtain ⟨xs, e⟩ := Option.isSome_iff_exists.mp h
    obtain ⟨vs, hh, _⟩ := rg _ xs e
    exact .inl ⟨rfl, vs, .of hh⟩
  · cases (show v = .str _ from rv)
    rfl
  · exact h.elim
theorem d_bm (pa : PlainAttrs T.nm) (slot : Slot T.nm name id) (hty : typeOf (.builtin id) = pure (.type "method_descriptor")) (hm : MtR X id (rUpM X.K r)) (ho : PE X o (up X.K C W to)) (ha : PA X (e :: es) (upA X.K C W tA))
    (hbase : attributeBase o name X.env (eval o X.env) = eval o X.env)
    (hfew : ((backTo cpos (starEach (e :: es) X.env)).all (fun x => !x.1) && (backToKw cpos (keywordEach [] X.env)).all (fun x => x.1.isSome)
      && decide ((e :: es).length + ([] : List Keyword).length + (if ([] : List Keyword).isEmpty then 0 else 1) < 30)) = true)
    (hline : (apos.endLine == cpos.line) = true) (hs : starEach (e :: es) X.env = (false, eval e X.env) :: starEach es X.env) (hplain : (backTo cpos (starEach es X.env)).any (·.1) = false) :
    PE X (.Call (.Attribute o name apos) (e :: es) [] cpos) (up X.K C W (dMt T r to tA)) := by
  refine pe_imp (pe_bm pa slot hty hm ho ha hbase hfew hline hs hplain) fun σ H Q ⟨env, g, Xd, Qd, re, rg, t, cl, cx⟩ => ?_
  refine ⟨env, g, Xd, _, re, rg, t, fun d g1 v H1 q k1 r1 rv => ⟨recv_ty q.1 rv r1, ?_⟩, cx⟩
  refine ⟨env, g1, Xd, _, re.keep k1, r1, q.2, fun ds g2 vs H2 q2 k2 r2 rl => ?_, cx.at k1⟩
  exact ⟨d, ds, g2, Qd, rv.keep k2, rl, r2, q2, cl.at (k1.trans k2)⟩
theorem d_bm0 (pa : PlainAttrs T.nm) (slot : Slot T.nm name id) (hty : typeOf (.builtin id) = pure (.type "method_descriptor")) (hm : MtR X id (rUpM X.K r)) (ho : PE X o (up X.K C W to))
    (hbase : attributeBase o name X.env (eval o X.env) = eval o X.env) (hline : (apos.endLine == cpos.line) = true) :
    PE X (.Call (.Attribute o name apos) [] [] cpos) (up X.K C W (dMt T r to dNil)) := by
  refine pe_imp (pe_bm0 pa slot hty hm ho hbase hline) fun σ H Q ⟨env, g, Xd, Qd, re, rg, t, cl, cx⟩ => ?_
  refine ⟨env, g, Xd, _, re, rg, t, fun d g1 v H1 q k1 r1 rv => ⟨recv_ty q.1 rv r1, ?_⟩, cx⟩
  exact ⟨d, [], g1, Qd, rv, rfl, r1, q.2, cl.at k1⟩
theorem mt_imp {id : String} {r r' : V → List V → Hp → VK → Prop} (h : MtR X id r) (k : ∀ x xs H Q, r' x xs H Q → r x xs H Q) : MtR X id r' := fun pins s σ H x xs v us Q I rx rl q => h pins s σ H x xs v us Q I rx rl (k _ _ _ _ q)
end
def mAppend : D → List D → G → QD → Prop
  | .ref l, [y] => fun g Q => match g l with | some xs => xs.length < sizeLine ∧ Q .non (g.up l (xs ++ [y])) | none => False
  | _, _ => fun _ _ => False
def mPop : D → List D → G → QD → Prop
  | .ref l, [] => fun g Q => match g l with | some xs => (match xs[xs.length - 1]? with | some y => Q y (g.up l xs.dropLast) | none => False) | none => False
  | _, _ => fun _ _ => False
def mPopAt : D → List D → G → QD → Prop
  | .ref l, [.int i] => fun g Q => match g l with | some xs => -(2 ^ 63) ≤ i ∧ i < 2 ^ 63 ∧ (match seqIndex? i xs.length with | some k => (match xs[k]? with | some y => Q y (g.up l (xs.eraseIdx k)) | none => False) | none => False) | none => False
  | _, _ => fun _ _ => False
def mExtend : D → List D → G → QD → Prop
  | .ref l, [.ref b] => fun g Q => match g l, g b with | some xs, some ys => xs.length + ys.length ≤ sizeLine ∧ Q .non (g.up l (xs ++ ys)) | _, _ => False
  | _, _ => fun _ _ => False
def mClear : D → List D → G → QD → Prop
  | .ref l, [] => fun g Q => match g l with | some _ => Q .non (g.up l []) | none => False
  | _, _ => fun _ _ => False
def mReverse : D → List D → G → QD → Prop
  | .ref l, [] => fun g Q => match g l with | some xs => Q .non (g.up l xs.reverse) | none => False
  | _, _ => fun _ _ => False
def mInsert : D → List D → G → QD → Prop
  | .ref l, [.int i, y] => fun g Q => match g l with | some xs => xs.length < sizeLine ∧ 0 ≤ i ∧ i < 2 ^ 63 ∧ Q .non (g.up l (xs.take i.toNat ++ [y] ++ xs.drop i.toNat)) | none => False
  | _, _ => fun _ _ => False
def mIndex : D → List D → G → QD → Prop
  | .ref l, [y] => fun g Q => match pyN 4 g l, py g y with
    | some (.list qs), some p => SeqAt.shaped (.list qs) = true ∧ SeqAt.shaped p = true ∧ (match qs.findIdx? (fun z => PyData.eqv z p) with | some j => Q (.int (j : Nat)) g | none => False)
    | _, _ => False
  | _, _ => fun _ _ => False
def strsD : List D → Option (List Str)
  | [] => some []
  | .str i :: ds => (strsD ds).map (i :: ·)
  | _ :: _ => none
theorem strsD_rep {K H} : ∀ {ds : List D} {vs : List V} {ns : List Str}, RepL K H ds vs → strsD ds = some ns → vs = ns.map V.str
  | [], vs, ns, r, e => by cases e; exact r
  | .str i :: ds, vs, ns, ⟨v, t, e1, h, q⟩, e => by
    unfold strsD at e
    cases z : strsD ds with
    | none => rw [z] at e; cases e
    | some ms => rw [z] at e; cases e; subst e1; rw [strsD_rep q z, show v = V.str i from h] <;> rfl
  | .non :: ds, vs, ns, r, e => by cases e
  | .bl _ :: ds, vs, ns, r, e => by cases e
  | .int _ :: ds, vs, ns, r, e => by cases e
  | .tup _ :: ds, vs, ns, r, e => by cases e
  | .ref _ :: ds, vs, ns, r, e => by cases e
  | .scr _ :: ds, vs, ns, r, e => by cases e
  | .exc _ :: ds, vs, ns, r, e => by cases e
  | .emp :: ds, vs, ns, r, e => by cases e
theorem strs_rep {K H} : ∀ (ss : List Str), RepL K H (ss.map D.str) (ss.map V.str)
  | [] => rfl
  | s :: ss => ⟨.str s, ss.map V.str, rfl, rfl, strs_rep ss⟩
def mSplit : D → List D → G → QD → Prop
  | .str a, [.str b] => fun g Q => (b.length == 0) = false ∧ a.length + 2 ≤ sizeLine ∧ ∀ p, g p = none → Q (.ref p) (g.up p ((Txt.split a b).map D.str))
  | _, _ => fun _ _ => False
def mJoin : D → List D → G → QD → Prop
  | .str a, [.ref p] => fun g Q => match g p with | some xs => (match strsD xs with | some ys => (ys.map (·.length)).sum + ys.length * a.length ≤ 16777216 ∧ Q (.str (Txt.join a ys)) g | none => False) | none => False
  | _, _ => fun _ _ => False
section
variable {X : Cx}
theorem m_append : MtR X "list.append" (rUpM X.K mAppend) := mt_imp mt_append fun x vs H Q ⟨d, ds, g, Qd, rv, rl, rg, r, cl⟩ => by
  unfold mAppend at r
  split at r
  · obtain ⟨w, rfl, rw'⟩ := rl1 rl
    split at r
    · rename_i xs e
      obtain ⟨us, hh, l⟩ := rg _ xs e
      exact ⟨_, us, w, rv, rfl, hh, by rw [l.length]; exact r.1, cl _ _ _ _ r.2 (.set hh) (rg.put hh (l.app (.one rw'))) rfl⟩
    · exact r.elim
  · exact r.elim
theorem m_pop : MtR X "list.pop" (rUpM X.K mPop) := mt_imp mt_pop fun x vs H Q ⟨d, ds, g, Qd, rv, rl, rg, r, cl⟩ => by
  unfold mPop at r
  split at r
  · cases (show vs = [] from rl)
    split at r
    · rename_i xs e
      split at r
      · rename_i y e2
        obtain ⟨us, hh, l⟩ := rg _ xs e
        obtain ⟨w, e3, rw'⟩ := l.get e2
        rw [← l.length] at e3
        refine ⟨_, us, w, rv, rfl, hh, e3, cl _ _ _ _ r (.set hh) (rg.put hh ?_) (rw'.keep (.set hh))⟩
        rw [List.dropLast_eq_take, List.dropLast_eq_take, l.length]
        exact l.take _
      · exact r.elim
    · exact r.elim
  · exact r.elim
theorem m_popAt : MtR X "list.pop" (rUpM X.K mPopAt) := mt_imp mt_popAt fun x vs H Q ⟨d, ds, g, Qd, rv, rl, rg, r, cl⟩ => by
  unfold mPopAt at r
  split at r
  · obtain ⟨w, rfl, rw'⟩ := rl1 rl
    cases rw'
    split at r
    · rename_i xs e
      obtain ⟨h1, h2, r⟩ := r
      split at r
      · rename_i k e1
        split at r
        · rename_i y e2
          obtain ⟨us, hh, l⟩ := rg _ xs e
          obtain ⟨w, e3, rw'⟩ := l.get e2
          refine ⟨_, us, _, k, w, rv, rfl, hh, h1, h2, by rw [l.length]; exact e1, e3, cl _ _ _ _ r (.set hh) (rg.put hh ?_) (rw'.keep (.set hh))⟩
          rw [List.eraseIdx_eq_take_drop_succ, List.eraseIdx_eq_take_drop_succ]
          exact (l.take _).app (l.drop _)
        · exact r.elim
      · exact r.elim
    · exact r.elim
  · exact r.elim
theorem m_extend : MtR X "list.extend" (rUpM X.K mExtend) := mt_imp mt_extend fun x vs H Q ⟨d, ds, g, Qd, rv, rl, rg, r, cl⟩ => by
  unfold mExtend at r
  split at r
  · obtain ⟨w, rfl, rw'⟩ := rl1 rl
    cases rw'
    split at r
    · rename_i xs ys e e2
      obtain ⟨us, hh, l⟩ := rg _ xs e
      obtain ⟨ws, hh2, l2⟩ := rg _ ys e2
      exact ⟨_, _, us, ws, rv, rfl, hh, hh2, by rw [l.length, l2.length]; exact r.1, cl _ _ _ _ r.2 (.set hh) (rg.put hh (l.app l2)) rfl⟩
    · exact r.elim
  · exact r.elim
theorem m_clear : MtR X "list.clear" (rUpM X.K mClear) := mt_imp mt_clear fun x vs H Q ⟨d, ds, g, Qd, rv, rl, rg, r, cl⟩ => by
  unfold mClear at r
  split at r
  · cases (show vs = [] from rl)
    split at r
    · rename_i xs e
      obtain ⟨us, hh, l⟩ := rg _ xs e
      exact ⟨_, us, rv, rfl, hh, cl _ _ _ _ r (.set hh) (rg.put hh rfl) rfl⟩
    · exact r.elim
  · exact r.elim
theorem m_reverse : MtR X "list.reverse" (rUpM X.K mReverse) := mt_imp mt_reverse fun x vs H Q ⟨d, ds, g, Qd, rv, rl, rg, r, cl⟩ => by
  unfold mReverse at r
  split at r
  · cases (show vs = [] from rl)
    split at r
    · rename_i xs e
      obtain ⟨us, hh, l⟩ := rg _ xs e
      exact ⟨_, us, rv, rfl, hh, cl _ _ _ _ r (.set hh) (rg.put hh l.rev) rfl⟩
    · exact r.elim
  · exact r.elim
theorem m_insert : MtR X "list.insert" (rUpM X.K mInsert) := mt_imp mt_insert fun x vs H Q ⟨d, ds, g, Qd, rv, rl, rg, r, cl⟩ => by
  unfold mInsert at r
  split at r
  · obtain ⟨w, u, rfl, rw', ru⟩ := rl2 rl
    cases rw'
    split at r
    · rename_i xs e
      obtain ⟨us, hh, l⟩ := rg _ xs e
      exact ⟨_, us, _, u, rv, rfl, hh, by rw [l.length]; exact r.1, r.2.1, r.2.2.1, cl _ _ _ _ r.2.2.2 (.set hh) (rg.put hh (((l.take _).app (.one ru)).app (l.drop _))) rfl⟩
    · exact r.elim
  · exact r.elim
theorem m_index (hu : X.A.units + 65 < cLine) : MtR X "list.index" (rUpM X.K mIndex) := mt_imp (mt_indexD hu) fun x vs H Q ⟨d, ds, g, Qd, rv, rl, rg, r, cl⟩ => by
  unfold mIndex at r
  split at r
  · obtain ⟨w, rfl, rw'⟩ := rl1 rl
    cases rv
    split at r
    · rename_i qs p e1 e2
      obtain ⟨h1, h2, r⟩ := r
      split at r
      · rename_i j e3
        obtain ⟨hj, hq, hm⟩ := List.findIdx?_eq_some_iff_getElem.mp e3
        refine ⟨_, w, p, qs, j, qs[j], rfl, rfl, pyN_dp rg 4 _ _ e1, py_dp rg e2 rw', h1, h2, by simp [hj], hq, fun m z hlt hz => ?_, cl _ _ _ _ r (.refl _) rg rfl⟩
        have := hm m hlt
        have hmz : qs[m] = z := by
          rw [List.getElem?_eq_getElem (by omega)] at hz
          exact Option.some.inj hz
        rw [hmz] at this
        simpa using this
      · exact r.elim
    · exact r.elim
  · exact r.elim
theorem m_split : MtR X "str.split" (rUpM X.K mSplit) := mt_imp mt_split fun x vs H Q ⟨d, ds, g, Qd, rv, rl, rg, r, cl⟩ => by
  unfold mSplit at r
  split at r
  · obtain ⟨w, rfl, rw'⟩ := rl1 rl
    cases rw'
    exact ⟨_, _, rv, rfl, r.1, r.2.1, fun p hp => cl _ _ _ _ (r.2.2 p (rg.none hp)) (.new hp) (rg.new hp (strs_rep _)) rfl⟩
  · exact r.elim
theorem m_join : MtR X "str.join" (rUpM X.K mJoin) := mt_imp mt_join fun x vs H Q ⟨d, ds, g, Qd, rv, rl, rg, r, cl⟩ => by
  unfold mJoin at r
  split at r
  · obtain ⟨w, rfl, rw'⟩ := rl1 rl
    cases rw'
    split at r
    · rename_i xs e
      split at r
      · rename_i ys e2
        obtain ⟨us, hh, l⟩ := rg _ xs e
        have := strsD_rep l e2
        subst this
        exact ⟨_, _, ys, rv, rfl, .inl (.of hh), r.1, cl _ _ _ _ r.2 (.refl _) rg rfl⟩
      · exact r.elim
    · exact r.elim
  · exact r.elim
end
end PP
namespace PP
open PySem PySem.Spec PyProof.Rows L2
section
variable {X : Cx} {C : Ex → Addr} {W : WX} {e : Expr} {pos p p1 p2 : Pos} {te : DTE}
theorem d_isi1 {t : Ty} {x : Str} (hg : Gl X "isinstance") (hm : X.mg "isinstance" = none) (h : PE X e (up X.K C W te)) (hg2 : Gl X x) (hm2 : X.mg x = none) (hv : bootBuiltins x = some (.type t.nm)) (hn : x ≠ "__name__") (hdb : (x == ("__debug__" : Str)) = false)
    (hs : starEach [e, .Name x p1] X.env = (false, eval e X.env) :: starEach [.Name x p1] X.env) (hpl : (backTo pos (starEach [.Name x p1] X.env)).any (·.1) = false) :
    PE X (.Call (.Name "isinstance" p) [e, .Name x p1] [] pos) (up X.K C W (dUn (dIsi [t]) te)) := by
  refine pe_imp (pe_callB call_isi hg hm (by decide +kernel) (pa_cons h (pa_cons (pe_bltn (v := .ty t.nm) hg2 hm2 hv rfl hn hdb) pa_nil rfl) hs) (by decide) (by decide) hs hpl) fun σ H Q ⟨env, g, Xd, Qd, re, rg, q, cl, cx⟩ => ?_
  refine ⟨env, g, Xd, _, re, rg, q, fun d g1 v H1 q1 k r rv => ?_, cx⟩
  have q1 : dIsi [t] d g1 Qd := q1
  refine ⟨v, .ty t.nm, tyV' d, .type t.nm, isTy t d, rfl, .ty _, tyx_of r rv q1.1, kit_all t d X.K, ?_⟩
  have := q1.2
  simp only [List.any_cons, List.any_nil, Bool.or_false] at this
  exact cl _ _ _ _ this k r rfl
theorem cls_all (ts : List Ty) : Paired ClsV (ts.map fun t => V.ty t.nm) (ts.map fun t => Value.type t.nm) := by
  induction ts with
  | nil => exact .nil
  | cons t ts ih => exact .cons (.ty _) ih
def tTys : List Ty → TA
  | [] => tNil
  | t :: ts => tCons (tC (.ty t.nm)) (tTys ts)
theorem tTys_run {σ : List (Option V)} {H : Hp} {Q : List V → Hp → Prop} : ∀ {ts : List Ty}, Q (ts.map fun t => V.ty t.nm) H → tTys ts σ H Q
  | [], h => h
  | t :: ts, h => by
    show tTys ts σ H fun xs H2 => Q (V.ty t.nm :: xs) H2
    exact tTys_run (ts := ts) h
theorem d_isiT {ts : List Ty} {es : List Expr} {k : Nat} {tp : Pos} (hg : Gl X "isinstance") (hm : X.mg "isinstance" = none) (h : PE X e (up X.K C W te)) (hts : PA X es (tTys ts)) (hl : ts.length ≤ sizeLine)
    (hs : starEach [e, .Tuple es k tp] X.env = (false, eval e X.env) :: starEach [.Tuple es k tp] X.env) (hpl : (backTo pos (starEach [.Tuple es k tp] X.env)).any (·.1) = false) :
    PE X (.Call (.Name "isinstance" p) [e, .Tuple es k tp] [] pos) (up X.K C W (dUn (dIsi ts) te)) := by
  refine pe_imp (pe_callB call_isiT hg hm (by decide +kernel) (pa_cons h (pa_cons (pe_tup hts) pa_nil rfl) hs) (by decide) (by decide) hs hpl) fun σ H Q ⟨env, g, Xd, Qd, re, rg, q, cl, cx⟩ => ?_
  refine ⟨env, g, Xd, _, re, rg, q, fun d g1 v H1 q1 k r rv => ?_, cx⟩
  have q1 : dIsi ts d g1 Qd := q1
  refine tTys_run ⟨by simpa using hl, fun o ho => ?_⟩
  refine ⟨v, o, _, tyV' d, _, ts.any fun t => isTy t d, rfl, upd_same, cls_all ts, tyx_of (r.tup ho) (rv.keep (.new ho)) q1.1, kit_any X.K d ts, ?_⟩
  exact cl _ _ _ _ q1.2 (k.trans (.new ho)) (r.tup ho) rfl
structure ExAt (X : Cx) (C : Ex → Addr) (n : Ex) : Prop where
  mg : X.mg n.nm = some (.ref (C n))
  keep : PySem.W.keepIn X.K (.ref (C n)) = true
  own : ∃ bm, ExcBaseFacts "ValueError" "ValueError.__new__" "ValueError.__init__" bm ∧ PySem.W.excIn X.K (C n) bm "ValueError.__new__" = true
  raises : Raises X (.ref (C n))
def dRaise (n : Ex) : DTS := fun E env g => E.ex n env g
theorem s_raise {n : Ex} {m : Str} {j : Nat} {p3 : Pos} (hc : X.calm = true) (tk : L2N.Takes X W) (F : ExAt X C n) (hg : Gl X n.nm) (hdb : (Str.ofString n.nm == ("__debug__" : Str)) = false) : PS X (.Raise (some (.Call (.Name n.nm p) [.Constant (.str m) j p2] [] p3)) none pos) (upS X.K C W (dRaise n)) := by
  obtain ⟨bm, hF, hq⟩ := F.own
  exact ps_imp (L2N.ps_raise hc tk (L2N.pmk_own hF hq F.mg F.keep F.raises hg hdb)) fun D σ H ⟨env, g, E, re, rg, q, cn, cr, cx⟩ => cx _ _ _ _ _ q (.refl _) re rg
end
end PP
namespace PP
open PySem PySem.Spec PyProof.Rows L2
abbrev enO (it : Addr) : Obj := { cls := .type "enumerate", data := .fields #[.none, .bool false, .ref it, rawInt 0, .none, .none] }
set_option maxHeartbeats 1000000 in
theorem en_new {v : Value} {o : Obj} {P : Heap → Prop} (B : Begins v o P) : Meets (Builtin.«enumerate.__new__» ⟨[.type "enumerate", v], []⟩) (fun _ R s => P s.heap ∧ R (.ok (.ret (.ref (s.heap.push o).objs.size))) { s with heap := (s.heap.push o).push (enO s.heap.objs.size) }) :=
  .of_wp fun pr ww AA R s ⟨h1, h⟩ => by
    obtain ⟨hp, g, d, tk, os⟩ := s
    have hsub := sub_enumerate
    have q1 : ∀ {A' : Around} {E Q : Value → Shared → Prop}, Q (.ref hp.objs.size) ⟨hp.push o, g, d, tk, os⟩ → wpAny (model pr ww) A' (pyIter v) Q E ⟨hp, g, d, tk, os⟩ := fun q => B.iter pr ww _ _ ⟨hp, g, d, tk, os⟩ _ h1 q
    wp_walk using q1
    refine wpAny_stack_any (fun st => wpAny_pure ?_)
    split
    · rename_i c _ _ _ _ _
      cases (c == Value.type "enumerate") <;> (wp_walk using q1; exact ⟨_, rfl, h⟩)
    · wp_walk using q1
      exact ⟨_, rfl, h⟩
theorem en_call {prog : Program} {w : World} {A : Around} {E : Value → Shared → Prop} {s : Shared} {v : Value} {o : Obj} {P : Heap → Prop} {Q : Value → Shared → Prop} (B : Begins v o P) (h1 : P s.heap)
    (h : ∀ h', IsEnum h' (s.heap.objs.size + 1) s.heap.objs.size 0 .none → h'.get? s.heap.objs.size = some o → (∀ b u, s.heap.get? b = some u → h'.get? b = some u) → Q (.ref (s.heap.objs.size + 1)) { s with heap := h' }) :
    wpAny (model prog w) A (call (.type "enumerate") [v]) Q E s := by
  refine callType_new F.called_enumerate (by decide) (F.typeCall_enumerate_1 _) (F.newCall_enumerate_1 _) (fun obj => F.args_object_init_2 obj _) F.entry_enumerate_new (en_new B) ⟨h1, ?_⟩
  have hz : (s.heap.push o).objs.size = s.heap.objs.size + 1 := Heap.size_push ..
  show _ ∧ _
  rw [hz]
  have he : IsEnum ((s.heap.push o).push (enO s.heap.objs.size)) (s.heap.objs.size + 1) s.heap.objs.size 0 .none := by
    have q := Heap.get?_push_size (s.heap.push o) (o := enO s.heap.objs.size) rfl
    rw [hz] at q
    exact q
  exact ⟨⟨_, he, rfl⟩, h _ he (Heap.get?_push_of_some _ (Heap.get?_push_size _ B.free)) fun b u x => Heap.get?_push_of_some _ (Heap.get?_push_of_some _ x)⟩
def IteT (K : PySem.W.Frag) (a : Addr) : It :=
  ⟨fun i H => ∃ (xs : List V) (x : V), SqT K H a xs ∧ xs[i]? = some x, fun i H v H' => ∃ T x, v = .ref T ∧ H T = none ∧ H' = upd H T (.tup [.int (i : Nat), x]) ∧ ∀ xs, SqT K H a xs → xs[i]? = some x, fun i H => ∃ xs : List V, SqT K H a xs ∧ xs.length = i⟩
theorem turn_enumT {P : Program} {w : World} {K : PySem.W.Frag} {elts : List Expr} {kk : Nat} {tpos : Pos} (a e it : Addr) (hai : a < it) (hae : a < e) :
    Turn P w K (.Tuple elts kk tpos) (IteT K a) [e, it] e (fun i h => (∃ old, IsEnum h e it ((i : Nat) : Int) old) ∧ h.IsTupleIter it a i ∧ e ≠ it) where
  mem := by simp
  obj := fun i h st b hb => by
    obtain ⟨⟨old, he⟩, ⟨o, ho, hc, hd⟩, _⟩ := st
    rcases (by simpa using hb : b = e ∨ b = it) with rfl | rfl
    · exact ⟨_, he, fun v q => nomatch q⟩
    · exact ⟨o, ho, fun v q => by rw [hd] at q; cases q⟩
  keep := fun i h h' st k => let ⟨⟨old, he⟩, hi, hne⟩ := st; ⟨⟨old, k e (by simp) _ he⟩, hi.at fun o q => k it (by simp) o q, hne⟩
  item := by
    intro X hP hw hK hc i pins s σ H E I hf st hg
    subst hP hw hK
    obtain ⟨⟨old, he⟩, hit, hne⟩ := st
    obtain ⟨xs, x, hq, hx⟩ := hg
    obtain ⟨its, rv, p, hz⟩ := I.tuple hq
    obtain ⟨u, hu, ru⟩ := rv.get hx
    have hel : e < s.heap.objs.size := Heap.lt_size he
    have hil : it < s.heap.objs.size := by obtain ⟨_, q, _⟩ := hit; exact Heap.lt_size q
    have D := Draws.tuple (prog := X.prog) (w := X.w) (A := X.A.in1) (I.ok.hd hc) it a (Nat.ne_of_lt hai) its.toArray
    have hlt : i < its.toArray.size := by
      rw [List.size_toArray]
      exact (List.getElem?_eq_some_iff.mp hu).1
    refine wpAny_pyNext_enum_itemD D he ⟨hit, p⟩ hlt hne ?_ fun x' h' tk hx' ho st' hT hsz hk => ?_
    · intro hm
      rcases (by simpa using hm : e = it ∨ e = a) with z | z
      · exact hne z
      · exact absurd z (Nat.ne_of_gt hae)
    have ex : x' = u := by
      have z : its[i]? = some x' := by simpa using hx'
      rw [hu] at z
      exact (Option.some.inj z).symm
    subst ex
    refine ⟨_, rfl, wpAny_letOwnedTupleGo_enum (s := { s with heap := h', toks := tk + 1 }) ho fun h'' he' sb => ?_⟩
    have hT2 : h''.get? s.heap.objs.size = some { cls := .type "tuple", data := .seq #[.int i tk, x'] } := (sb.2 _ (Nat.ne_of_gt hel)).trans hT
    have new : ObjOk X.prog X.w (upd H s.heap.objs.size (.tup [.int (i : Nat), x])) h'' s.heap.objs.size (.tup [.int (i : Nat), x]) :=
      ⟨by show 2 ≤ sizeLine; decide, [.int i tk, x'], .cons ⟨_, rfl⟩ (.cons ru .nil), ⟨_, hT2, rfl, _, rfl⟩⟩
    have I1 : Inv X pins σ (upd H s.heap.objs.size (.tup [.int (i : Nat), x])) { s with heap := h'', toks := tk + 1 } :=
      I.turnedNew (ch := [e, it]) (fun b ob hb q => (sb.2 b (fun z => hb (by simp [z]))).trans (hk b ob (fun z => hb (by simp [z])) (fun z => hb (by simp [z])) q)) hf (Nat.le_refl _) new
    refine ⟨.ref s.heap.objs.size, _, I1, rfl, ⟨_, x, rfl, I.hok.fresh (Nat.le_refl _), rfl, fun ys hy => by rw [I.tuple_inj hy hq]; exact hx⟩, ⟨⟨x', ?_⟩, st'.1.at fun o q => (sb.2 it (Ne.symm hne)).trans q, hne⟩, fun b hb => ?_⟩
    · have e1 : ((i + 1 : Nat) : Int) = (i : Int) + 1 := by omega
      rw [e1]
      exact he'
    · have hb' : b < s.heap.objs.size := by
        rcases (by simpa using hb : b = e ∨ b = it) with rfl | rfl
        · exact hel
        · exact hil
      rw [upd_ne (Nat.ne_of_lt hb')]
      exact (hf b hb).1
  done := by
    intro X hP hw hK hc i pins s σ H E I hf st hg
    subst hP hw hK
    obtain ⟨⟨old, he⟩, hit, hne⟩ := st
    obtain ⟨xs, hq, hx⟩ := hg
    obtain ⟨its, rv, p, hz⟩ := I.tuple hq
    obtain ⟨f0, f1, f2, f3, f4, f5⟩ := hf it (by simp)
    have hl := rv.length
    have D := Draws.tuple (prog := X.prog) (w := X.w) (A := X.A.in1) (I.ok.hd hc) it a (Nat.ne_of_lt hai) its.toArray
    have hsz : its.toArray.size = i := by rw [List.size_toArray]; omega
    rw [hsz] at D
    exact wpAny_pyNext_enum_endD D he ⟨hit, p⟩ fun h' eb => ⟨rfl, I.turned (t' := s.toks) (fun b o hb q => eb b o hb q) f0 f1 f3 f4 f5⟩
  self := fun A i s Q E st h => let ⟨⟨_, he⟩, _⟩ := st; wpAny_pyIter_enum he h
def iEnumA (K : PySem.W.Frag) (ta : TE) : TI := fun σ H R => ta σ H fun v H1 => (∃ a xs, v = .ref a ∧ SqL K H1 a xs ∧ R (Ite K a) H1) ∨ ∃ a xs, v = .ref a ∧ SqT K H1 a xs ∧ R (IteT K a) H1
section
variable {X : Cx} {C : Ex → Addr} {W : WX} {e : Expr} {pos p tpos : Pos} {elts : List Expr} {kk : Nat} {te : DTE}
theorem pi_enumA {ta : TE} (hg : Gl X "enumerate") (hm : X.mg "enumerate" = none) (ha : PE X e ta) (hs : starEach [e] X.env = [(false, eval e X.env)]) : PI X (.Tuple elts kk tpos) (.Call (.Name "enumerate" p) [e] [] pos) (iEnumA X.K ta) := by
  refine ⟨fun pins s σ H R I h => ?_⟩
  have hA : PA X [e] (tCons ta tNil) := pa_cons ha pa_nil hs
  refine Call_ (ld_blt I hg hm boot_enumerate (PyProof.Rows.callWith_type1 (thn (hA.run pos pins s σ H (fun vs H1 => ∃ v, vs = [v] ∧ ((∃ a xs, v = .ref a ∧ SqL X.K H1 a xs ∧ R (Ite X.K a) H1) ∨ ∃ a xs, v = .ref a ∧ SqT X.K H1 a xs ∧ R (IteT X.K a) H1)) I ?_) fun us s1 ⟨vs, H1, I1, r1, v, ev, q1⟩ => ?_) hs rfl))
  · refine pe_enumK ha h
  · subst ev
    cases r1 with
    | cons r rr =>
      cases rr
      have fin : ∀ {a : Addr} {o : Obj} {J : It} {tn : Nat → Heap → Prop} {PP : Heap → Prop} {u : Value}, Begins u o PP → PP s1.heap → R J H1 → Turn X.prog X.w X.K (.Tuple elts kk tpos) J [s1.heap.objs.size + 1, s1.heap.objs.size] (s1.heap.objs.size + 1) tn →
          (∀ h', IsEnum h' (s1.heap.objs.size + 1) s1.heap.objs.size 0 .none → h'.get? s1.heap.objs.size = some o → tn 0 h') → wpAny (model X.prog X.w) X.A (call (.type "enumerate") [u]) (fun v s2 => wpAny (model X.prog X.w) X.A (pyIter v) (PIE X pins σ (.Tuple elts kk tpos) R) X.xe s2) X.xe s1 := by
        intro a o J tn PP u B h1 q T hst
        refine en_call B h1 fun h' he hit hk => wpAny_pyIter_enum he ?_
        have I2 : Inv X pins σ H1 { s1 with heap := h' } := I1.kept (t' := s1.toks) hk
        refine ⟨s1.heap.objs.size + 1, [s1.heap.objs.size + 1, s1.heap.objs.size], _, _, H1, rfl, I2, T, hst h' he hit, fun b hb => ?_, q⟩
        have hle : s1.heap.objs.size ≤ b := by
          rcases (by simpa using hb : b = s1.heap.objs.size + 1 ∨ b = s1.heap.objs.size) with rfl | rfl
          · exact Nat.le_add_right _ _
          · exact Nat.le_refl _
        exact I1.fpOk hle (I1.hok.fresh hle)
      rcases q1 with ⟨a, xs, ex, hq, q⟩ | ⟨a, xs, ex, hq, q⟩
      · subst ex
        cases r
        obtain ⟨its, rv, pl, hz⟩ := I1.list hq
        exact fin (a := a) (begins_list a its.toArray) pl.isList q (turn_enum a _ _) fun h' he hit => ⟨⟨_, he⟩, ⟨_, hit, rfl, rfl⟩, Nat.succ_ne_self _⟩
      · subst ex
        cases r
        obtain ⟨its, rv, pl, hz⟩ := I1.tuple hq
        have hlt : a < s1.heap.objs.size := pl.lt
        exact fin (a := a) (begins_tuple a its.toArray) pl q (turn_enumT a _ _ hlt (Nat.lt_succ_of_lt hlt)) fun h' he hit => ⟨⟨_, he⟩, ⟨_, hit, rfl, rfl⟩, Nat.succ_ne_self _⟩
where
  pe_enumK {ta : TE} {σ : L2.St} {H : Hp} {R : It → Hp → Prop} (ha : PE X e ta) (h : iEnumA X.K ta σ H R) : tCons ta tNil σ H (fun vs H1 => ∃ v, vs = [v] ∧ ((∃ a xs, v = .ref a ∧ SqL X.K H1 a xs ∧ R (Ite X.K a) H1) ∨ ∃ a xs, v = .ref a ∧ SqT X.K H1 a xs ∧ R (IteT X.K a) H1)) := by
    have e : (fun (x : V) (H1 : Hp) => ∃ v, x :: [] = [v] ∧ ((∃ a xs, v = .ref a ∧ SqL X.K H1 a xs ∧ R (Ite X.K a) H1) ∨ ∃ a xs, v = .ref a ∧ SqT X.K H1 a xs ∧ R (IteT X.K a) H1)) =
        fun (v : V) (H1 : Hp) => ((∃ a xs, v = .ref a ∧ SqL X.K H1 a xs ∧ R (Ite X.K a) H1) ∨ ∃ a xs, v = .ref a ∧ SqT X.K H1 a xs ∧ R (IteT X.K a) H1) := by
      funext x H1
      apply propext
      constructor
      · rintro ⟨v, e, q⟩
        cases e
        exact q
      · intro q
        exact ⟨x, rfl, q⟩
    have h2 : ta σ H (fun (x : V) (H1 : Hp) => ∃ v, x :: [] = [v] ∧ ((∃ a xs, v = .ref a ∧ SqL X.K H1 a xs ∧ R (Ite X.K a) H1) ∨ ∃ a xs, v = .ref a ∧ SqT X.K H1 a xs ∧ R (IteT X.K a) H1)) := by
      rw [e]
      exact h
    exact h2
def enumD (xs : List D) : List D := xs.mapIdx fun i x => D.tup [.int (i : Nat), x]
theorem ite_ok {K : PySem.W.Frag} {H0 : Hp} {a : Addr} {xs : List D} : ItOk K (Ite K a) H0 (enumD xs) (fun g => g a = some xs) where
  go := fun i g H hi k r st => by
    obtain ⟨vs, h, l⟩ := r a xs st
    have hv : i < vs.length := by rw [l.length]; simpa [enumD] using hi
    exact ⟨vs, vs[i], .of h, by simp [hv]⟩
  yld := fun i g H x H' hi k r st y => by
    obtain ⟨vs, h, l⟩ := r a xs st
    obtain ⟨T, u, ex, hT, eH, y⟩ := y
    obtain ⟨d, e1, rd⟩ := l.getv (y vs (.of h))
    subst ex eH
    exact ⟨.tup [.int (i : Nat), d], by simp [enumD, e1], ⟨T, [.int (i : Nat), u], rfl, .inl upd_same, ⟨_, [u], rfl, rfl, ⟨u, [], rfl, rd.keep (.new hT), rfl⟩⟩⟩, .new hT, r.tup hT⟩
  stop := fun i g H hi hi2 k r st => by
    obtain ⟨vs, h, l⟩ := r a xs st
    exact ⟨vs, .of h, by rw [l.length]; simpa [enumD] using hi⟩
theorem iteT_ok {K : PySem.W.Frag} {H0 : Hp} {a : Addr} {xs : List D} {vs : List V} (t : TupP K H0 a vs) (l : RepL K H0 xs vs) : ItOk K (IteT K a) H0 (enumD xs) (fun _ => True) where
  go := fun i g H hi k r st => by
    have hv : i < vs.length := by rw [l.length]; simpa [enumD] using hi
    exact ⟨vs, vs[i], (t.keep k).sq, by simp [hv]⟩
  yld := fun i g H x H' hi k r st y => by
    obtain ⟨T, u, ex, hT, eH, y⟩ := y
    obtain ⟨d, e1, rd⟩ := l.getv (y vs (t.keep k).sq)
    subst ex eH
    have k' := k.trans (TK.new (o := .tup [.int (i : Nat), u]) hT)
    exact ⟨.tup [.int (i : Nat), d], by simp [enumD, e1], ⟨T, [.int (i : Nat), u], rfl, .inl upd_same, ⟨_, [u], rfl, rfl, ⟨u, [], rfl, rd.keep k', rfl⟩⟩⟩, .new hT, r.tup hT⟩
  stop := fun i g H hi hi2 k r st => by
    refine ⟨vs, (t.keep k).sq, ?_⟩
    rw [l.length]
    simp [enumD] at hi hi2
    omega
def dEnum : D → G → (List D → (G → Prop) → G → Prop) → Prop
  | .ref a => fun g R => match g a with | some xs => R (enumD xs) (fun g' => g' a = some xs) g | none => False
  | .tup xs => fun g R => R (enumD xs) (fun _ => True) g
  | _ => fun _ _ => False
theorem d_enum (hg : Gl X "enumerate") (hm : X.mg "enumerate" = none) (ha : PE X e (up X.K C W te)) (hs : starEach [e] X.env = [(false, eval e X.env)]) : PI X (.Tuple elts kk tpos) (.Call (.Name "enumerate" p) [e] [] pos) (upI X.K C W (dI1 dEnum te)) := by
  refine pi_imp (pi_enumA hg hm ha hs) fun σ H R ⟨env, g, Xd, Rd, re, rg, t, cl, cx⟩ => ?_
  refine ⟨env, g, Xd, _, re, rg, t, fun d g1 v H1 q k r rv => ?_, cx⟩
  dsimp only at q
  unfold dEnum at q
  split at q
  · split at q
    · rename_i xs e
      obtain ⟨vs, hh, l⟩ := r _ xs e
      exact .inl ⟨_, vs, rv, .of hh, cl _ _ _ _ _ q k r ite_ok⟩
    · exact q.elim
  · obtain ⟨a, vs, e, t, l⟩ := rv
    exact .inr ⟨a, vs, e, t.sq, cl _ _ _ _ _ q k r (iteT_ok t l)⟩
  · exact q.elim
end
end PP
namespace PP
open PySem PySem.Spec PyProof.Rows L2
section
variable {X : Cx} {pins : List (Addr × Obj)} {σ : L2.St} {H : Hp} {s : Shared} {a : Addr}
theorem inv_freeze (I : Inv X pins σ H s) {oe : Obj} {vs : Array Value} (ha : s.heap.get? a = some oe) (hd : oe.data = .fields vs) (na : H a = none) (nL : a ≠ X.env.locals)
    (n0 : ∀ b o, X.s_0.heap.get? b = some o → b ≠ a) (np : ∀ p ∈ X.pn ++ pins, p.1 ≠ a) : Inv X pins σ (upd H a (.frz oe excU)) s := by
  have ot : ∀ b u, H b = some u → b ≠ a := fun b u e => ne_of_none e na
  refine ⟨I.ok, I.os, I.bare, ⟨I.base.keep, I.base.slot, fun b o e n hx => ?_, I.base.there, fun b xs e => ?_, fun b o u e => ?_, fun b ps e => ?_⟩, I.loc, I.cell, ?_, fun x c e => ?_, fun p hp => ?_, fun b ob e => ?_, I.len⟩
  · rw [upd_ne (n0 b o e)]; exact I.base.free b o e n hx
  · have z := I.base.tups b xs e
    rw [upd_ne (ot _ _ z)]; exact z
  · have z := I.base.frzs b o u e
    rw [upd_ne (ot _ _ z)]; exact z
  · obtain ⟨m, z⟩ := I.base.tbls b ps e
    exact ⟨m, by rw [upd_ne (ot _ _ z)]; exact z⟩
  · rw [upd_ne (Ne.symm nL)]; exact I.free
  · rw [upd_ne]
    · exact I.freeC x c e
    · intro z
      subst z
      obtain ⟨v, o, h1, h2⟩ := I.cell x c e
      rw [ha] at h1
      cases h1
      rw [hd] at h2
      cases h2
  · obtain ⟨h1, h2, h3, h4, h5⟩ := I.pin p hp
    exact ⟨h1, by rw [upd_ne (np p hp)]; exact h2, h3, h4, h5⟩
  · by_cases hb : b = a
    · subst hb
      rw [upd_same] at e
      cases e
      exact ⟨ha, trivial, ⟨_, ha⟩, fun _ _ _ _ => trivial⟩
    · rw [upd_ne hb] at e
      exact (I.hok b ob e).stay (fun _ _ _ q => q) (fun c q => by rw [upd_ne (ot _ _ q)]; exact q) fun c xs q => by rw [upd_ne (ot _ _ q)]; exact q
theorem inv_suite (I : Inv X pins σ H s) : Inv (X.suite a (X.pn ++ pins)) [] σ H s :=
  ⟨I.ok.suite _ _, I.os, I.bare, I.base, I.loc, I.cell, I.free, I.freeC, fun p hp => I.pin p (by rw [List.append_nil] at hp; exact hp), I.hok, I.len⟩
theorem inv_unsuite {pn' : List (Addr × Obj)} (I : Inv (X.suite a (X.pn ++ pins)) pn' σ H s) (ok : X.Ok) : Inv X pins σ H s :=
  ⟨ok, I.os, I.bare, I.base, I.loc, I.cell, I.free, I.freeC, fun p hp => I.pin p (List.mem_append_left _ hp), I.hok, I.len⟩
end
def wFz (K : PySem.W.Frag) (c : Value) (i : Nat) (ts : Addr → TS) (Wout : WX) (D : Ends) : WX := fun cls d σ H =>
  ∃ b, PySem.W.exmOne K cls c = some b ∧ (b = true → ∀ a oe, H a = none → oe.cls = cls → oe.dict = d → (∃ vs, oe.data = .fields vs ∧ vs[2]? = some .none) →
      ts a { nx := fun σ' H' => D.nx (σ'.set i none) H', rt := D.rt, bk := fun σ' H' => D.bk (σ'.set i none) H', ct := fun σ' H' => D.ct (σ'.set i none) H' } (σ.set i (some (.ref a))) (upd H a (.frz oe excU))) ∧
    (b = false → Wout cls d σ H)
section
variable {X : Cx} {x n : Str} {c : Value} {i : Nat} {body suite : List Stmt} {b₀ : Stmt} {np pos pos' : Pos} {tb : WX → TS} {ts : Addr → TS} {Wout : WX}
theorem ps_try_fz (hs : X.stack = X.env :: X.outer) (hf : X.env.frame = some X.env.locals) (hex : X.ex = []) (hN : X.N.Nodup) (hi : X.N[i]? = some n) (hln : X.env.kindOf n = some .local) (hc : Names X x c) (tk : L2N.Takes X Wout)
    (hb : ∀ (W : WX) (pn : List (Addr × Obj)) (xe : Value → Shared → Prop), L2N.Takes (X.tr pn xe) W → PassesOwn (model X.prog X.w) X.A X.env xe → PSs (X.tr pn xe) body (tb W))
    (hsu : ∀ (a : Addr) (pn : List (Addr × Obj)), PSs (X.suite a pn) (b₀ :: suite) (ts a)) :
    PS X (.Try body [.ExceptHandler (some (.Name x np)) (some n) (b₀ :: suite) pos'] [] [] pos) (fun D σ H => tb (wFz X.K c i ts Wout D) D σ H) := by
  refine ⟨fun pins s σ H D I h => ?_⟩
  have ok := I.ok
  have hfr : X.A.frames = some (X.env :: X.outer) := by rw [ok.frames, hs]
  have hloc : Loc X.env.scope n := .inl hln
  refine wpAny_Try_except ?_
  refine wpAny_mono ((hb (wFz X.K c i ts Wout D) (X.pn ++ pins) (fun e s₁ => wpAny (model X.prog X.w) X.A (noteFrame e X.env) (fun _ s₂ => wpAny (model X.prog X.w) X.A (setFlight e none) (fun _ s₃ =>
    wpAny (model X.prog X.w) X.A (handleBy e X.env [.ExceptHandler (some (.Name x np)) (some n) (b₀ :: suite) pos']) (SP X pins D) X.xe s₃) X.xe s₂) X.xe s₁) (fun u s' xx => ?_) PassesOwn.looking).run [] s σ H D (I.toTry _) h) (fun f s1 hsp => ?_) (fun e s1 he => he)
  · obtain ⟨a, B, sI, pins', σ', H', cls, d, rfl, J', nb, up, sky, na, os, ag, b, hb1, hyes, hno⟩ := xx
    have J : Inv X pins σ' H' sI := J'.ofTry ok
    have sky' : Sky B (X.env :: X.outer) a (L2N.Zn cls d) X.env.locals s'.heap := by rw [← hs]; exact sky
    show wpAny (model X.prog X.w) X.A (noteFrame (.ref a) X.env) _ _ _
    refine L2N.Sky.land L2N.Zn.steady hfr hf sky' fun h3 fl3 up3 => ?_
    have J3 : Inv X pins σ' H' { s' with heap := h3 } := J.landed nb fl3.1 (up.trans up3) os ag
    obtain ⟨oe3, vs3, he3, hz3, hd3⟩ := fl3.there
    have notFr : ∀ {h : Heap} {o : Obj} {vs : Array Value}, h.FunFrames B (X.env :: X.outer) → h.get? a = some o → o.data = .fields vs → a ∉ frs (X.env :: X.outer) := fun {h o vs} ff e dd hm => by
      obtain ⟨_, o', e', hnf⟩ := ff.mem hm
      rw [e] at e'; cases e'
      exact hnf _ dd
    have nfr := notFr fl3.2.2.1 he3 hd3
    have nL : a ≠ X.env.locals := fun z => nfr (List.mem_filterMap.mpr ⟨X.env, List.mem_cons_self, by rw [hf, z]⟩)
    have nB : ∀ b o, sI.heap.get? b = some o → b ≠ a := fun b o e z => by
      subst z
      have q := nb b o e (by rw [show X.stack = X.env :: X.outer from hs]; exact nfr)
      rw [fl3.2.1] at q
      cases q
    have n0 : ∀ b o, X.s_0.heap.get? b = some o → b ≠ a := fun b o e => by
      obtain ⟨o', q⟩ := J.base.there b o e (by rw [hex]; simp)
      exact nB b o' q
    have np' : ∀ p ∈ X.pn ++ pins, p.1 ≠ a := fun p hp => nB _ _ (J.pin p hp).1
    have S3 : Inv (X.suite a (X.pn ++ pins)) [] σ' H' { s' with heap := h3 } := inv_suite J3
    refine wpAny_handleBy_cons (codeAny_handlers_test ?_) (by intro q; cases q)
    have LT : PySem.W.Looks (model X.prog X.w) h3 (typeOf (.ref a)) cls := fun A Q E s k q => wpAny_typeOf_ref (k _ _ he3) (by rw [hz3.1]; exact q)
    have LM := PySem.W.exm_one (M := model X.prog X.w) (J3.kIn) LT hb1
    have test : ∀ {Q : Value → Shared → Prop} {E : Value → Shared → Prop}, Q c { s' with heap := h3 } → wpAny (model X.prog X.w) (X.A.mark (some (.ref a))) (eval (.Name x np) X.env) Q E { s' with heap := h3 } := fun {Q E} q => by
      obtain ⟨hg, hdbg, hm | ⟨hm, hv, hnn⟩⟩ := hc
      · exact ld_glob (X := X.suite a (X.pn ++ pins)) S3 hg hm q hdbg
      · exact ld_blt (X := X.suite a (X.pn ++ pins)) S3 hg hm hv q hnn hdbg
    refine test (LM.here ?_)
    cases b with
    | true =>
      refine codeAny_handlers_suite_as ?_
      refine HandSPX.lands_againZ fl3 fun h4 fl4 up4 => ?_
      have J4 : Inv X pins σ' H' { s' with heap := h4 } := J.landed nb fl4.1 ((up.trans up3).trans up4) os ag
      obtain ⟨oe4, vs4, he4, hz4, hd4⟩ := fl4.there
      have S4 := inv_suite (a := a) (inv_freeze J4 he4 hd4 na nL n0 np')
      refine store_ok (X := X.suite a (X.pn ++ pins)) (v := .ref a) S4 hN hi hloc rfl (fun s5 S5 => ?_) (.inr hln)
      refine wpAny_mono ((hsu a (X.pn ++ pins)).run [] s5 _ _ _ S5 (hyes rfl a oe4 na hz4.1 hz4.2.1 ⟨_, hd4, hz4.2.2 vs4 hd4⟩)) (fun f s6 hsp => ?_) (fun _ _ z => False.elim z)
      have end_ : ∀ {σ6 : L2.St} {H6 : Hp} {Q : Shared → Prop}, Inv (X.suite a (X.pn ++ pins)) [] σ6 H6 s6 → (∀ s7, Inv X pins (σ6.set i none) H6 s7 → Q s7) →
          wpAny (model X.prog X.w) X.A (do bindName X.env n .none; unbindBehindTheSuite X.env n pos') (fun _ s7 => Q s7) X.xe s6 := fun {σ6 H6 Q} S6 hq => gone_ok (inv_unsuite S6 ok) hN hi hln hq
      cases f with
      | next =>
        obtain ⟨σ6, H6, S6, q6⟩ := hsp
        exact end_ S6 fun s7 J7 => ⟨_, _, J7, q6⟩
      | brk =>
        obtain ⟨σ6, H6, S6, q6⟩ := hsp
        exact end_ S6 fun s7 J7 => ⟨_, _, J7, q6⟩
      | cont =>
        obtain ⟨σ6, H6, S6, q6⟩ := hsp
        exact end_ S6 fun s7 J7 => ⟨_, _, J7, q6⟩
      | ret u =>
        obtain ⟨v6, σ6, H6, S6, r6, q6⟩ := hsp
        exact end_ S6 fun s7 J7 => ⟨_, _, _, J7, r6, q6⟩
    | false =>
      show wpAny _ X.A (handleBy (.ref a) X.env []) _ _ _
      refine wpAny_handleBy_nil ?_
      obtain ⟨k1, k2, k3, oe, vs, T, oT, ts', he, hz, hd, h1, hr⟩ := id fl3
      unfold PySem.passOn
      refine wpAny_bind (wpAny_field he hd h1 ?_)
      rw [if_neg (show ¬ ((Value.ref T == Value.none) = true) from by simp)]
      have fin : wpAny (model X.prog X.w) X.A (setFlight (.ref a) X.env.frame) (fun _ s4 => wpAny (model X.prog X.w) X.A (throw (.ref a) : Sem Flow) (SP X pins D) X.xe s4) X.xe { s' with heap := h3 } := by
        rw [hf]
        refine HandSPX.setFlight_upZ fl3 fun h4 hh4 up4 => wpAny_throw (tk _ _ ?_)
        exact ⟨a, B, sI, pins, σ', H', cls, d, rfl, J, nb, (up.trans up3).trans up4, .inr (.inr (by rw [hs]; exact hh4)), na, os, ag, hno rfl⟩
      first
        | exact wpAny_bind (wpAny_pure (wpAny_bind fin))
        | exact wpAny_bind fin
  · cases f with
    | next =>
      obtain ⟨σ', H', J', q⟩ := hsp
      exact wpAny_execs_nil ⟨σ', H', J'.ofTry ok, q⟩
    | brk =>
      obtain ⟨σ', H', J', q⟩ := hsp
      exact ⟨σ', H', J'.ofTry ok, q⟩
    | cont =>
      obtain ⟨σ', H', J', q⟩ := hsp
      exact ⟨σ', H', J'.ofTry ok, q⟩
    | ret u =>
      obtain ⟨v, σ', H', J', r, q⟩ := hsp
      exact ⟨v, σ', H', J'.ofTry ok, r, q⟩
end
def rIsF (K : PySem.W.Frag) : List V → Hp → VK → Prop := fun xs H Q => ∃ (a : Addr) (n : Ex) (c : V) (cv : Value) (b : Bool), xs = [.ref a, c] ∧ ExcP K H n a ∧ ClsV c cv ∧ (∀ c', ExNs K n c' → ExK K n c' → PySem.W.kitOne K (.ref c') cv = some b) ∧ Q (.bl b) H
def rIsFT (K : PySem.W.Frag) : List V → Hp → VK → Prop := fun xs H Q => ∃ (a tp : Addr) (n : Ex) (cs : List V) (us : List Value) (b : Bool), xs = [.ref a, .ref tp] ∧ H tp = some (.tup cs) ∧ ExcP K H n a ∧ Paired ClsV cs us ∧ (∀ c', ExNs K n c' → ExK K n c' → PySem.W.kitAny K (.ref c') us = some b) ∧ Q (.bl b) H
section
variable {X : Cx}
theorem inst_of {pins : List (Addr × Obj)} {σ : L2.St} {H : Hp} {s : Shared} {n : Ex} {a : Addr} (I : Inv X pins σ H s) (h : ExcP X.K H n a) : ∃ (o : Obj) (c : Addr), PySem.W.InstAt s.heap a o c none ∧ ExNs X.K n c ∧ ExK X.K n c := by
  obtain ⟨o, u, c, h1, h2, h3, ⟨vs, h4, _⟩, h5, h6⟩ := h
  obtain ⟨oc, od, oda, osl⟩ := o
  dsimp only at h2 h3 h4
  subst h2 h3 h4
  exact ⟨_, c, ⟨(I.hok a _ h1).1, rfl, rfl, trivial⟩, h5, h6⟩
theorem call_isF : CallR X (.builtin "isinstance") (rIsF X.K) := by
  intro pins s σ H xs us Q I r h
  obtain ⟨a, n, c, cv, b, rfl, e, k, kt, q⟩ := h
  obtain ⟨u1, u2, rfl, r1, r2⟩ := vals2 r
  cases (show u1 = Value.ref a from r1)
  have e2 := k.eq r2
  subst e2
  obtain ⟨o, c', J, ns, ck⟩ := inst_of I e
  have C := ck.exc
  exact PySem.W.kia_one (PySem.W.handS_kitx_exc C.hg C.hk C.hs C.hd C.ha C.hn C.ht C.hm) I.kIn J (kt c' ns ck) (fun z => nomatch z) fun tk => ⟨.bl b, H, I.tok tk, rfl, q⟩
theorem call_isFT : CallR X (.builtin "isinstance") (rIsFT X.K) := by
  intro pins s σ H xs us Q I r h
  obtain ⟨a, tp, n, cs, ws, b, rfl, hT, e, k, kt, q⟩ := h
  obtain ⟨u1, u2, rfl, r1, r2⟩ := vals2 r
  cases (show u1 = Value.ref a from r1)
  cases (show u2 = Value.ref tp from r2)
  obtain ⟨o', c', J, ns, ck⟩ := inst_of I e
  have C := ck.exc
  obtain ⟨_, its, rv, o, h1, h2, n, h3⟩ := (show ObjOk X.prog X.w H s.heap tp (.tup cs) from I.hok tp _ hT)
  have e3 := ClsV.all k rv
  subst e3
  obtain ⟨oc, od, dt, sl⟩ := o
  simp only at h2 h3
  subst h2 h3
  exact PySem.W.kia_tup (PySem.W.handS_kitx_exc C.hg C.hk C.hs C.hd C.ha C.hn C.ht C.hm) I.kIn J h1 (kt c' ns ck) (fun z => nomatch z) fun tk => ⟨.bl b, H, I.tok tk, rfl, q⟩
end
end PP
namespace PP
open PySem PySem.Spec PyProof.Rows L2
structure ExN (K : PySem.W.Frag) (mg : Str → Option Value) (C : Ex → Addr) (n : Ex) : Prop where
  mg : mg n.nm = some (.ref (C n))
  ns : ExNs K n (C n)
  k : ExK K n (C n)
def xnm : Option Ex → String
  | none => "ValueError"
  | some m => m.nm
def xsub (n : Ex) : Option Ex → Bool
  | none => true
  | some m => n.sub m
def vX (C : Ex → Addr) : Option Ex → V
  | none => .ty "ValueError"
  | some m => .ref (C m)
def uX (C : Ex → Addr) : Option Ex → Value
  | none => .type "ValueError"
  | some m => .ref (C m)
theorem cls_X (C : Ex → Addr) (t : Option Ex) : ClsV (vX C t) (uX C t) := by
  cases t with
  | none => exact .ty _
  | some m => exact .own _
theorem cls_Xs (C : Ex → Addr) : ∀ ts : List (Option Ex), Paired ClsV (ts.map (vX C)) (ts.map (uX C))
  | [] => .nil
  | t :: ts => .cons (cls_X C t) (cls_Xs C ts)
theorem kit_X {K : PySem.W.Frag} {C : Ex → Addr} {n : Ex} {c : Addr} (k : ExK K n c) {t : Option Ex} (h : ∀ m, t = some m → ExNs K m (C m)) : PySem.W.kitOne K (.ref c) (uX C t) = some (xsub n t) := by
  cases t with
  | none => exact k.val
  | some m => exact k.kit m _ (h m rfl)
theorem kit_Xs {K : PySem.W.Frag} {C : Ex → Addr} {n : Ex} {c : Addr} (k : ExK K n c) : ∀ {ts : List (Option Ex)}, (∀ t ∈ ts, ∀ m, t = some m → ExNs K m (C m)) → PySem.W.kitAny K (.ref c) (ts.map (uX C)) = some (ts.any (xsub n))
  | [], _ => rfl
  | t :: ts, h => by
    simp only [List.map_cons, List.any_cons]
    unfold PySem.W.kitAny
    rw [kit_X k (h t List.mem_cons_self)]
    cases xsub n t with
    | true => rfl
    | false => exact kit_Xs k fun u hu => h u (List.mem_cons_of_mem _ hu)
def dIsx (ts : List (Option Ex)) : D → G → QD → Prop := fun d g Q => match d with
  | .exc n => Q (.bl (ts.any (xsub n))) g
  | _ => False
def tXs (C : Ex → Addr) : List (Option Ex) → TA
  | [] => tNil
  | t :: ts => tCons (tC (vX C t)) (tXs C ts)
theorem tXs_run {C : Ex → Addr} {σ : List (Option V)} {H : Hp} {Q : List V → Hp → Prop} : ∀ {ts : List (Option Ex)}, Q (ts.map (vX C)) H → tXs C ts σ H Q
  | [], h => h
  | t :: ts, h => by
    show tXs C ts σ H fun xs H2 => Q (vX C t :: xs) H2
    exact tXs_run (ts := ts) h
section
variable {X : Cx} {C : Ex → Addr} {W : WX} {e : Expr} {pos p p1 p2 : Pos} {te : DTE}
theorem d_isx1 {t : Option Ex} {x : Str} (hg : Gl X "isinstance") (hm : X.mg "isinstance" = none) (h : PE X e (up X.K C W te)) (hx : PE X (.Name x p1) (tC (vX C t))) (ht : ∀ m, t = some m → ExNs X.K m (C m))
    (hs : starEach [e, .Name x p1] X.env = (false, eval e X.env) :: starEach [.Name x p1] X.env) (hpl : (backTo pos (starEach [.Name x p1] X.env)).any (·.1) = false) :
    PE X (.Call (.Name "isinstance" p) [e, .Name x p1] [] pos) (up X.K C W (dUn (dIsx [t]) te)) := by
  refine pe_imp (pe_callB call_isF hg hm (by decide +kernel) (pa_cons h (pa_cons hx pa_nil rfl) hs) (by decide) (by decide) hs hpl) fun σ H Q ⟨env, g, Xd, Qd, re, rg, q, cl, cx⟩ => ?_
  refine ⟨env, g, Xd, _, re, rg, q, fun d g1 v H1 q1 k r rv => ?_, cx⟩
  cases d with
  | exc n =>
    have q1 : Qd (.bl ([t].any (xsub n))) g1 := q1
    obtain ⟨a, rfl, hP⟩ := rv
    simp only [List.any_cons, List.any_nil, Bool.or_false] at q1
    exact ⟨a, n, vX C t, uX C t, xsub n t, rfl, hP, cls_X C t, fun c' _ kk => kit_X kk ht, cl _ _ _ _ q1 k r rfl⟩
  | _ => exact False.elim q1
theorem d_isxT {ts : List (Option Ex)} {es : List Expr} {k : Nat} {tp : Pos} (hg : Gl X "isinstance") (hm : X.mg "isinstance" = none) (h : PE X e (up X.K C W te)) (hts : PA X es (tXs C ts)) (ht : ∀ t ∈ ts, ∀ m, t = some m → ExNs X.K m (C m)) (hl : ts.length ≤ sizeLine)
    (hs : starEach [e, .Tuple es k tp] X.env = (false, eval e X.env) :: starEach [.Tuple es k tp] X.env) (hpl : (backTo pos (starEach [.Tuple es k tp] X.env)).any (·.1) = false) :
    PE X (.Call (.Name "isinstance" p) [e, .Tuple es k tp] [] pos) (up X.K C W (dUn (dIsx ts) te)) := by
  refine pe_imp (pe_callB call_isFT hg hm (by decide +kernel) (pa_cons h (pa_cons (pe_tup hts) pa_nil rfl) hs) (by decide) (by decide) hs hpl) fun σ H Q ⟨env, g, Xd, Qd, re, rg, q, cl, cx⟩ => ?_
  refine ⟨env, g, Xd, _, re, rg, q, fun d g1 v H1 q1 k r rv => ?_, cx⟩
  cases d with
  | exc n =>
    have q1 : Qd (.bl (ts.any (xsub n))) g1 := q1
    obtain ⟨a, rfl, hP⟩ := rv
    refine tXs_run ⟨by simpa using hl, fun o ho => ?_⟩
    exact ⟨a, o, n, _, _, ts.any (xsub n), rfl, upd_same, hP.keep (.new ho), cls_Xs C ts, fun c' _ kk => kit_Xs kk ht, cl _ _ _ _ q1 (k.trans (.new ho)) (r.tup ho) rfl⟩
  | _ => exact False.elim q1
def dTry (ns : List Ex) (x : Ex) (i : Nat) (t u : DTS) : DTS := fun E env g =>
  t { E with ex := fun n env' g' => n ∈ ns ∧ (n.sub x = true → u { nx := fun e g'' => E.nx (e.set i none) g'', rt := E.rt, ex := fun _ _ _ => False } (env'.set i (some (.exc n))) g') ∧ (n.sub x = false → E.ex n env' g') } env g
theorem d_try {ns : List Ex} {x : Ex} {i : Nat} {n : Str} {t u : DTS} {body suite : List Stmt} {b₀ : Stmt} {np pos' : Pos} (hs : X.stack = X.env :: X.outer) (hf : X.env.frame = some X.env.locals) (hex : X.ex = []) (hN : X.N.Nodup) (hi : X.N[i]? = some n) (hln : X.env.kindOf n = some .local)
    (hx : ExN X.K X.mg C x) (hg : Gl X x.nm) (hdb : (Str.ofString x.nm == ("__debug__" : Str)) = false) (hns : ∀ n ∈ ns, ExN X.K X.mg C n) (tk : L2N.Takes X W)
    (hb : ∀ (W' : WX) (pn : List (Addr × Obj)) (xe : Value → Shared → Prop), L2N.Takes (X.tr pn xe) W' → PassesOwn (model X.prog X.w) X.A X.env xe → PSs (X.tr pn xe) body (upS X.K C W' t))
    (hsu : ∀ (a : Addr) (pn : List (Addr × Obj)), PSs (X.suite a pn) (b₀ :: suite) (upS X.K C W0 u)) :
    PS X (.Try body [.ExceptHandler (some (.Name x.nm np)) (some n) (b₀ :: suite) pos'] [] [] pos) (upS X.K C W (dTry ns x i t u)) := by
  refine ps_imp (ps_try_fz (tb := fun W' => upS X.K C W' t) (ts := fun _ => upS X.K C W0 u) hs hf hex hN hi hln (c := .ref (C x)) ⟨hg, hdb, .inl hx.mg⟩ tk hb hsu) fun D σ H ⟨env, g, E, re, rg, q, cn, cr, cx⟩ => ?_
  refine ⟨env, g, _, re, rg, q, cn, cr, fun m env' g' σ' H' ⟨hm, h1, h2⟩ k re' rg' => ?_⟩
  have N := hns m hm
  refine ⟨m.sub x, N.k.exm x _ hx.ns, fun hb a oe na hc hd hf => ?_, fun hb => cx _ _ _ _ _ (h2 hb) k re' rg'⟩
  have kn := TK.new (o := .frz oe excU) na
  have rep : Rep X.K (upd H' a (.frz oe excU)) (.exc m) (.ref a) := ⟨a, rfl, oe, excU, C m, upd_same, hc, hd, hf, N.ns, N.k⟩
  refine ⟨_, g', _, (re'.keep kn).set rep, rg'.tup na, h1 hb, fun e2 g2 σ2 H2 q2 k2 r1 r2 => ?_, (cr.at k).at kn, fun _ _ _ _ _ z => z.elim⟩
  have w := RepE.wipe r1 [i]
  exact cn _ _ _ _ q2 ((k.trans kn).trans k2) w r2
end
end PP
namespace PP
open PySem PySem.Spec PyProof.Rows L2
section
variable {X : Cx} {C : Ex → Addr} {W : WX} {pos p : Pos} {sp : SpD} {x : Str}
theorem d_call0 {ps : List Str} (F : FnAt X C x ps sp) (tk : L2N.Takes X W) (hg : Gl X x) (hdb : (x == ("__debug__" : Str)) = false) :
    PE X (.Call (.Name x p) [] [] pos) (up X.K C W (dCall sp dNil)) := by
  obtain ⟨f, fd, k, hm, hk, hb, FO, hr⟩ := F.ex
  refine ⟨fun pins s σ H Q I h => ?_⟩
  obtain ⟨env, g, Xd, Qd, re, rg, t, cl, cx⟩ := h
  refine wpAny_Call_Name_kw (ld_glob I hg hm ?_ hdb)
  exact PySem.W.callWith_K0 I.kIn hk (run_fnS (us := []) FO hr hb (L2N.passAt tk σ) I .nil ⟨[], g, Qd, Xd, rfl, rg, t, cl, cx⟩)
end
def Itz3 (K : PySem.W.Frag) (a b c : Addr) : It :=
  ⟨fun i H => ∃ (xs ys zs : List V) (x y z : V), SqL K H a xs ∧ SqL K H b ys ∧ SqL K H c zs ∧ xs[i]? = some x ∧ ys[i]? = some y ∧ zs[i]? = some z,
    fun i H v H' => ∃ T x y z, v = .ref T ∧ H T = none ∧ H' = upd H T (.tup [x, y, z]) ∧ (∀ xs, SqL K H a xs → xs[i]? = some x) ∧ (∀ ys, SqL K H b ys → ys[i]? = some y) ∧ ∀ zs, SqL K H c zs → zs[i]? = some z,
    fun i H => ∃ xs ys zs : List V, SqL K H a xs ∧ SqL K H b ys ∧ SqL K H c zs ∧ i ≤ xs.length ∧ i ≤ ys.length ∧ i ≤ zs.length ∧ (i = xs.length ∨ i = ys.length ∨ i = zs.length)⟩
theorem list_ne_iter {h : Heap} {a i l : Addr} {its : Array Value} {k : Nat} (p : h.IsList a its) (q : h.IsListIter i l k) : a ≠ i := fun e => by
  subst e
  obtain ⟨o1, e1, c1, _⟩ := p
  obtain ⟨o2, e2, c2, _⟩ := q
  rw [e1] at e2
  cases e2
  rw [c1] at c2
  exact absurd c2 (by simp)
theorem turn_zip3 {P : Program} {w : World} {K : PySem.W.Frag} {elts : List Expr} {kk : Nat} {tpos : Pos} {a b c z TI TO i1 i2 i3 : Addr} (D : ZipSep3 z TI TO i1 i2 i3 [i1, a] [i2, b] [i3, c]) :
    Turn P w K (.Tuple elts kk tpos) (Itz3 K a b c) [z, TI, TO, i1, i2, i3] z (fun i h => IsZip h z TI TO .none ∧ IsTupOf3 h TI (.ref i1) (.ref i2) (.ref i3) ∧ (∃ x y w, IsTupOf3 h TO x y w) ∧ h.IsListIter i1 a i ∧ h.IsListIter i2 b i ∧ h.IsListIter i3 c i) where
  mem := by simp
  obj := fun i h st d hc => by
    obtain ⟨hz, hTI, ⟨x, y, w, hTO⟩, ⟨o1, e1, _, d1⟩, ⟨o2, e2, _, d2⟩, ⟨o3, e3, _, d3⟩⟩ := st
    have e' : d = z ∨ d = TI ∨ d = TO ∨ d = i1 ∨ d = i2 ∨ d = i3 := by simpa using hc
    rcases e' with q | q | q | q | q | q
    · rw [q]; exact ⟨_, hz, fun v q => nomatch q⟩
    · rw [q]; exact ⟨_, hTI, fun v q => nomatch q⟩
    · rw [q]; exact ⟨_, hTO, fun v q => nomatch q⟩
    · rw [q]; exact ⟨o1, e1, fun v q => by rw [d1] at q; cases q⟩
    · rw [q]; exact ⟨o2, e2, fun v q => by rw [d2] at q; cases q⟩
    · rw [q]; exact ⟨o3, e3, fun v q => by rw [d3] at q; cases q⟩
  keep := fun i h h' st k => by
    obtain ⟨hz, hTI, ⟨x, y, w, hTO⟩, h1, h2, h3⟩ := st
    exact ⟨k z (by simp) _ hz, k TI (by simp) _ hTI, ⟨x, y, w, k TO (by simp) _ hTO⟩, h1.at fun o q => k i1 (by simp) o q, h2.at fun o q => k i2 (by simp) o q, h3.at fun o q => k i3 (by simp) o q⟩
  item := by
    intro X hP hw hK hc i pins s σ H E I hf st hg
    subst hP hw hK
    obtain ⟨hz, hTI, ⟨x0, y0, w0, hTO⟩, h1, h2, h3⟩ := st
    obtain ⟨xs, ys, zs, x, y, w, hqx, hqy, hqz, hx, hy, hw⟩ := hg
    obtain ⟨its, rv, p, _⟩ := I.list hqx
    obtain ⟨its2, rv2, p2, _⟩ := I.list hqy
    obtain ⟨its3, rv3, p3, _⟩ := I.list hqz
    obtain ⟨u, hu, ru⟩ := rv.get hx
    obtain ⟨u2, hu2, ru2⟩ := rv2.get hy
    obtain ⟨u3, hu3, ru3⟩ := rv3.get hw
    have hzl : z < s.heap.objs.size := Heap.lt_size hz
    have hh := I.ok.hd hc
    have n1 : a ≠ i1 := list_ne_iter p.isList h1
    have n2 : b ≠ i2 := list_ne_iter p2.isList h2
    have n3 : c ≠ i3 := list_ne_iter p3.isList h3
    have D1 := Draws.list (prog := X.prog) (w := X.w) (A := X.A.in1) hh i1 a n1 its.toArray
    have D2 := Draws.list (prog := X.prog) (w := X.w) (A := X.A.in1) hh i2 b n2 its2.toArray
    have D3 := Draws.list (prog := X.prog) (w := X.w) (A := X.A.in1) hh i3 c n3 its3.toArray
    have l1 : i < its.toArray.size := by have := List.getElem?_eq_some_iff.mp hu; obtain ⟨q, _⟩ := this; simpa using q
    have l2 : i < its2.toArray.size := by have := List.getElem?_eq_some_iff.mp hu2; obtain ⟨q, _⟩ := this; simpa using q
    have l3 : i < its3.toArray.size := by have := List.getElem?_eq_some_iff.mp hu3; obtain ⟨q, _⟩ := this; simpa using q
    refine wpAny_pyNext_zipD3_item D D1 D2 D3 hz hTI hTO ⟨h1, p.isList⟩ ⟨h2, p2.isList⟩ ⟨h3, p3.isList⟩ l1 l2 l3 fun v1 v2 v3 h' tk P1 P2 P3 z' TO' d1 d2 d3 hT hsz hk => ?_
    have e1 : v1 = u := by have P1 : its.toArray[i]? = some v1 := P1; rw [List.getElem?_toArray, hu] at P1; exact (Option.some.inj P1).symm
    have e2 : v2 = u2 := by have P2 : its2.toArray[i]? = some v2 := P2; rw [List.getElem?_toArray, hu2] at P2; exact (Option.some.inj P2).symm
    have e3 : v3 = u3 := by have P3 : its3.toArray[i]? = some v3 := P3; rw [List.getElem?_toArray, hu3] at P3; exact (Option.some.inj P3).symm
    subst e1 e2 e3
    refine ⟨_, rfl, wpAny_letOwnedTupleGo_zip (s := { s with heap := h', toks := tk }) z' fun h'' z'' sb => ?_⟩
    have hT2 : h''.get? s.heap.objs.size = some { cls := .type "tuple", data := .seq #[v1, v2, v3] } := (sb.2 _ (Nat.ne_of_gt hzl)).trans hT
    have new : ObjOk X.prog X.w (upd H s.heap.objs.size (.tup [x, y, w])) h'' s.heap.objs.size (.tup [x, y, w]) :=
      ⟨by show 3 ≤ sizeLine; decide, [v1, v2, v3], .cons ru (.cons ru2 (.cons ru3 .nil)), ⟨_, hT2, rfl, _, rfl⟩⟩
    have I1 : Inv X pins σ (upd H s.heap.objs.size (.tup [x, y, w])) { s with heap := h'', toks := tk } :=
      I.turnedNew (t' := tk) (ch := [z, TI, TO, i1, i2, i3]) (fun c o hb q => (sb.2 c (fun q' => hb (by simp [q']))).trans (hk c o (fun q' => hb (by simp [q'])) (fun q' => hb (by simp [q'])) (fun q' => hb (by simp [q'])) (fun q' => hb (by simp [q'])) (fun q' => hb (by simp [q'])) q)) hf (Nat.le_refl _) new
    refine ⟨.ref s.heap.objs.size, _, I1, rfl, ⟨_, x, y, w, rfl, I.hok.fresh (Nat.le_refl _), rfl, fun l hl => by rw [I.list_inj hl hqx]; exact hx, fun l hl => by rw [I.list_inj hl hqy]; exact hy, fun l hl => by rw [I.list_inj hl hqz]; exact hw⟩, ⟨z'', ?_, ⟨v1, v2, v3, ?_⟩, ?_, ?_, ?_⟩, fun c hcm => ?_⟩
    · exact (sb.2 _ D.TIz).trans (hk _ _ D.TIz D.TITO D.TIi1 D.TIi2 D.TIi3 hTI)
    · exact (sb.2 _ D.TOz).trans TO'
    · exact d1.1.at fun o q => (sb.2 _ D.zi1.symm).trans q
    · exact d2.1.at fun o q => (sb.2 _ D.zi2.symm).trans q
    · exact d3.1.at fun o q => (sb.2 _ D.zi3.symm).trans q
    · have hlt : c < s.heap.objs.size := by
        have e' : c = z ∨ c = TI ∨ c = TO ∨ c = i1 ∨ c = i2 ∨ c = i3 := by simpa using hcm
        rcases e' with q | q | q | q | q | q
        · rw [q]; exact hzl
        · rw [q]; exact Heap.lt_size hTI
        · rw [q]; exact Heap.lt_size hTO
        · rw [q]; obtain ⟨_, e1, _⟩ := h1; exact Heap.lt_size e1
        · rw [q]; obtain ⟨_, e2, _⟩ := h2; exact Heap.lt_size e2
        · rw [q]; obtain ⟨_, e3, _⟩ := h3; exact Heap.lt_size e3
      rw [upd_ne (Nat.ne_of_lt hlt)]
      exact (hf c hcm).1
  done := by
    intro X hP hw hK hc i pins s σ H E I hf st hg
    subst hP hw hK
    obtain ⟨hz, hTI, ⟨x0, y0, w0, hTO⟩, h1, h2, h3⟩ := st
    obtain ⟨xs, ys, zs, hqx, hqy, hqz, m1, m2, m3, hend⟩ := hg
    obtain ⟨its, rv, p, _⟩ := I.list hqx
    obtain ⟨its2, rv2, p2, _⟩ := I.list hqy
    obtain ⟨its3, rv3, p3, _⟩ := I.list hqz
    have l1 := rv.length
    have l2 := rv2.length
    have l3 := rv3.length
    have hh := I.ok.hd hc
    have n1 : a ≠ i1 := list_ne_iter p.isList h1
    have n2 : b ≠ i2 := list_ne_iter p2.isList h2
    have n3 : c ≠ i3 := list_ne_iter p3.isList h3
    have D1 := Draws.list (prog := X.prog) (w := X.w) (A := X.A.in1) hh i1 a n1 its.toArray
    have D2 := Draws.list (prog := X.prog) (w := X.w) (A := X.A.in1) hh i2 b n2 its2.toArray
    have D3 := Draws.list (prog := X.prog) (w := X.w) (A := X.A.in1) hh i3 c n3 its3.toArray
    exact wpAny_pyNext_zipD3_end D D1 D2 D3 hz hTI hTO ⟨h1, p.isList⟩ ⟨h2, p2.isList⟩ ⟨h3, p3.isList⟩ (by simp; omega) (by simp; omega) (by simp; omega) (by simp; omega) fun h' tk hk => ⟨rfl, I.turnedL (t' := tk) (ch := [z, TI, TO, i1, i2, i3]) (fun c o hb q =>
      hk c o (fun q' => hb (by simp [q'])) (fun q' => hb (by simp [q'])) (fun q' => hb (by simp [q'])) (fun q' => hb (by simp [q'])) (fun q' => hb (by simp [q'])) q) hf⟩
  self := fun A i s Q E st h => wpAny_pyIter_zip st.1 h
def iZip3 (K : PySem.W.Frag) (ta : TA) : TI := fun σ H R => ta σ H fun vs H1 => ∃ a b c xs ys zs, vs = [.ref a, .ref b, .ref c] ∧ SqL K H1 a xs ∧ SqL K H1 b ys ∧ SqL K H1 c zs ∧ R (Itz3 K a b c) H1
theorem pi_zip3 {X : Cx} {e e2 e3 : Expr} {ta : TA} {p pos tpos : Pos} {elts : List Expr} {kk : Nat} (hg : Gl X "zip") (hm : X.mg "zip" = none) (ha : PA X [e, e2, e3] ta)
    (hs : starEach [e, e2, e3] X.env = (false, eval e X.env) :: starEach [e2, e3] X.env := by rfl) (hpl : (backTo pos (starEach [e2, e3] X.env)).any (·.1) = false := by rfl) :
    PI X (.Tuple elts kk tpos) (.Call (.Name "zip" p) [e, e2, e3] [] pos) (iZip3 X.K ta) := by
  refine ⟨fun pins s σ H R I h => ?_⟩
  refine Call_ (ld_blt I hg hm PyProof.Rows.boot_zip (PyProof.Rows.callWith_type1 (thn (ha.run pos pins s σ H _ I h) fun us s1 ⟨vs, H1, I1, r1, q1⟩ => ?_) hs hpl))
  obtain ⟨a, b, c, xs, ys, zs, ex, hqx, hqy, hqz, q⟩ := q1
  subst ex
  cases r1 with
  | cons r rr =>
    cases rr with
    | cons r' rr =>
      cases rr with
      | cons r'' rr =>
        cases rr
        cases r
        cases r'
        cases r''
        obtain ⟨its, rv, p1, _⟩ := I1.list hqx
        obtain ⟨its2, rv2, p2, _⟩ := I1.list hqy
        obtain ⟨its3, rv3, p3, _⟩ := I1.list hqz
        have la : a < s1.heap.objs.size := p1.lt
        have lb : b < s1.heap.objs.size := p2.lt
        have lc : c < s1.heap.objs.size := p3.lt
        refine zip_begins3 (begins_list a its.toArray) (begins_list b its2.toArray) (begins_list c its3.toArray) p1.isList p2.isList p3.isList fun h' hz hTI hTO h1 h2 h3 hsz hk => wpAny_pyIter_zip hz ?_
        have I2 : Inv X pins σ H1 { s1 with heap := h' } := I1.kept (t' := s1.toks) hk
        have D : ZipSep3 (s1.heap.objs.size + 5) (s1.heap.objs.size + 3) (s1.heap.objs.size + 4) s1.heap.objs.size (s1.heap.objs.size + 1) (s1.heap.objs.size + 2) [s1.heap.objs.size, a] [s1.heap.objs.size + 1, b] [s1.heap.objs.size + 2, c] :=
          zip_sep3 (fp1 := [a]) (fp2 := [b]) (fp3 := [c]) (by simpa using la) (by simpa using lb) (by simpa using lc)
        refine ⟨s1.heap.objs.size + 5, [s1.heap.objs.size + 5, s1.heap.objs.size + 3, s1.heap.objs.size + 4, s1.heap.objs.size, s1.heap.objs.size + 1, s1.heap.objs.size + 2], _, _, H1, rfl, I2, turn_zip3 D, ⟨hz, hTI, ⟨_, _, _, hTO⟩, ⟨_, h1, rfl, rfl⟩, ⟨_, h2, rfl, rfl⟩, ⟨_, h3, rfl, rfl⟩⟩, fun d hcm => ?_, q⟩
        have e' : d = s1.heap.objs.size + 5 ∨ d = s1.heap.objs.size + 3 ∨ d = s1.heap.objs.size + 4 ∨ d = s1.heap.objs.size ∨ d = s1.heap.objs.size + 1 ∨ d = s1.heap.objs.size + 2 := by simpa using hcm
        have hle : s1.heap.objs.size ≤ d := by rcases e' with z | z | z | z | z | z <;> (rw [z]; first | exact Nat.le_refl _ | exact Nat.le_add_right _ _)
        exact I1.fpOk hle (I1.hok.fresh hle)
def zip3D (xs ys zs : List D) : List D := List.zipWith (fun x yz => D.tup [x, yz.1, yz.2]) xs (List.zip ys zs)
theorem itz3_ok {K : PySem.W.Frag} {H0 : Hp} {a b c : Addr} {xs ys zs : List D} : ItOk K (Itz3 K a b c) H0 (zip3D xs ys zs) (fun g => g a = some xs ∧ g b = some ys ∧ g c = some zs) where
  go := fun i g H hi k r st => by
    obtain ⟨vs, h, l⟩ := r a xs st.1
    obtain ⟨ws, h2, l2⟩ := r b ys st.2.1
    obtain ⟨us, h3, l3⟩ := r c zs st.2.2
    have hi' : i < xs.length ∧ i < ys.length ∧ i < zs.length := by simp [zip3D] at hi; omega
    have hv : i < vs.length := by rw [l.length]; omega
    have hw : i < ws.length := by rw [l2.length]; omega
    have hu : i < us.length := by rw [l3.length]; omega
    exact ⟨vs, ws, us, vs[i], ws[i], us[i], .of h, .of h2, .of h3, by simp [hv], by simp [hw], by simp [hu]⟩
  yld := fun i g H x H' hi k r st y => by
    obtain ⟨vs, h, l⟩ := r a xs st.1
    obtain ⟨ws, h2, l2⟩ := r b ys st.2.1
    obtain ⟨us, h3, l3⟩ := r c zs st.2.2
    obtain ⟨T, u, w, t, ex, hT, eH, y1, y2, y3⟩ := y
    obtain ⟨d, e1, rd⟩ := l.getv (y1 vs (.of h))
    obtain ⟨d', e2, rd'⟩ := l2.getv (y2 ws (.of h2))
    obtain ⟨d'', e3, rd''⟩ := l3.getv (y3 us (.of h3))
    subst ex eH
    refine ⟨.tup [d, d', d''], ?_, ⟨T, [u, w, t], rfl, .inl upd_same, ⟨u, [w, t], rfl, rd.keep (.new hT), ⟨w, [t], rfl, rd'.keep (.new hT), ⟨t, [], rfl, rd''.keep (.new hT), rfl⟩⟩⟩⟩, .new hT, r.tup hT⟩
    have e4 : (List.zip ys zs)[i]? = some (d', d'') := by rw [List.getElem?_zip_eq_some]; exact ⟨e2, e3⟩
    simp [zip3D, List.getElem?_zipWith, e1, e4]
  stop := fun i g H hi hi2 k r st => by
    obtain ⟨vs, h, l⟩ := r a xs st.1
    obtain ⟨ws, h2, l2⟩ := r b ys st.2.1
    obtain ⟨us, h3, l3⟩ := r c zs st.2.2
    refine ⟨vs, ws, us, .of h, .of h2, .of h3, ?_⟩
    rw [l.length, l2.length, l3.length]
    simp [zip3D] at hi hi2
    omega
def dZip3 : D → D → D → G → (List D → (G → Prop) → G → Prop) → Prop
  | .ref a, .ref b, .ref c => fun g R => match g a, g b, g c with | some xs, some ys, some zs => R (zip3D xs ys zs) (fun g' => g' a = some xs ∧ g' b = some ys ∧ g' c = some zs) g | _, _, _ => False
  | _, _, _ => fun _ _ => False
def dI3 (r : D → D → D → G → (List D → (G → Prop) → G → Prop) → Prop) (ta tb tc : DTE) : DTI := fun X env g R => ta X env g fun d g1 => tb X env g1 fun d2 g2 => tc X env g2 fun d3 g3 => r d d2 d3 g3 R
section
variable {X : Cx} {C : Ex → Addr} {W : WX} {a b c : Expr} {ta tb tc : DTE} {p pos : Pos}
theorem d_zip3 {elts : List Expr} {kk : Nat} {tpos : Pos} (hg : Gl X "zip") (hm : X.mg "zip" = none) (ha : PE X a (up X.K C W ta)) (hb : PE X b (up X.K C W tb)) (hc : PE X c (up X.K C W tc)) (hs : starEach [a, b, c] X.env = (false, eval a X.env) :: starEach [b, c] X.env) (hs2 : starEach [b, c] X.env = (false, eval b X.env) :: starEach [c] X.env) (hs3 : starEach [c] X.env = [(false, eval c X.env)]) :
    PI X (.Tuple elts kk tpos) (.Call (.Name "zip" p) [a, b, c] [] pos) (upI X.K C W (dI3 dZip3 ta tb tc)) := by
  refine pi_imp (pi_zip3 hg hm (pa_cons ha (pa_cons hb (pa_cons hc pa_nil hs3) (by rw [hs2])) (by rw [hs])) (by rw [hs]) (by rw [hs2, hs3]; rfl)) fun σ H R ⟨env, g, Xd, Rd, re, rg, t, cl, cx⟩ => ?_
  refine ⟨env, g, Xd, _, re, rg, t, fun d g1 v H1 q k r rv => ?_, cx⟩
  refine ⟨env, g1, Xd, _, re.keep k, r, q, fun d2 g2 v2 H2 q2 k2 r2 rv2 => ?_, cx.at k⟩
  refine ⟨env, g2, Xd, _, (re.keep k).keep k2, r2, q2, fun d3 g3 v3 H3 q3 k3 r3 rv3 => ?_, (cx.at k).at k2⟩
  dsimp only at q3
  unfold dZip3 at q3
  have kk := (k.trans k2).trans k3
  split at q3
  · cases (show v = .ref _ from rv)
    cases (show v2 = .ref _ from rv2)
    cases (show v3 = .ref _ from rv3)
    split at q3
    · rename_i xs ys zs e1 e2 e3
      obtain ⟨vs, h1, l1⟩ := r3 _ xs e1
      obtain ⟨ws, h2, l2⟩ := r3 _ ys e2
      obtain ⟨us, h3, l3⟩ := r3 _ zs e3
      exact ⟨_, _, _, vs, ws, us, rfl, .of h1, .of h2, .of h3, cl _ _ _ _ _ q3 kk r3 itz3_ok⟩
    · exact q3.elim
  · exact q3.elim
end
end PP
set_option maxHeartbeats 2000000
namespace PP
open PySem PySem.Spec PyProof.Rows L2
theorem adj_rev (n : Nat) : Builtin.Slice.sliceAdjust none none (-1) (n : Int) = ((n : Int) - 1, -1) := rfl
theorem places_rev (n : Nat) : Builtin.Slice.slicePlaces ((n : Int) - 1) (-1) (-1) = n := by
  unfold Builtin.Slice.slicePlaces
  rw [if_neg (by decide)]
  by_cases h : (n : Int) - 1 > -1
  · rw [if_pos h, show (-(-1) : Int) = 1 by decide, Int.ediv_one]; omega
  · rw [if_neg h]; omega
theorem pick_rev (xs : Array Value) : ((List.range xs.size).filterMap fun (m : Nat) => xs[((xs.size : Int) - 1 + (m : Int) * -1).toNat]?).toArray = xs.toList.reverse.toArray := by
  congr 1
  have key : ∀ k, k ≤ xs.size → (List.range k).filterMap (fun (m : Nat) => xs[((xs.size : Int) - 1 + (m : Int) * -1).toNat]?) = xs.toList.reverse.take k := by
    intro k
    induction k with
    | zero => intro _; rfl
    | succ k ih =>
      intro hk
      have h2 : ((xs.size : Int) - 1 + (k : Int) * -1).toNat = xs.size - 1 - k := by omega
      have h3 : xs.size - 1 - k < xs.size := by omega
      have h4 : k < xs.toList.reverse.length := by simp; omega
      rw [List.range_succ, List.filterMap_append, ih (by omega), List.take_succ_eq_append_getElem h4]
      congr 1
      simp only [List.filterMap_cons, List.filterMap_nil]
      rw [h2, Array.getElem?_eq_getElem h3]
      simp [List.getElem_reverse]
  rw [key xs.size (Nat.le_refl _), List.take_of_length_le (by simp)]
section
variable {prog : Program} {w : World} {A : Around} {E : Value → Shared → Prop} {s : Shared}
theorem slice_rev {sl : Addr} {vl vu vs : Value} {n : Nat} {Q : Int × Int × Nat → Shared → Prop} (hs : s.heap.IsSliceOf sl vl vu vs) (pl : IsPart vl none) (pu : IsPart vu none) (ps : IsPart vs (some (-1)))
    (h : Q ((n : Int) - 1, -1, n) s) : wpAny (model prog w) A (Builtin.Slice.sliceApplied (.ref sl) (pure (n : Int))) Q E s := by
  obtain ⟨os, hos, hcs, hds⟩ := id hs
  unfold Builtin.Slice.sliceApplied Builtin.Slice.sliceFields
  refine wpAny_bind (wpAny_bind (wpAny_field hos hds (x := vl) rfl (wpAny_bind (wpAny_field hos hds (x := vu) rfl (wpAny_bind (wpAny_field hos hds (x := vs) rfl (wpAny_pure ?_)))))))
  refine wpAny_bind (HT.slicePart_ ps ?_)
  show wpAny _ _ (if ((-1 : Int) == 0) = true then _ else _) _ _ s
  rw [if_neg (by decide)]
  refine wpAny_bind (HT.slicePart_ pl (wpAny_bind (HT.slicePart_ pu (wpAny_bind (wpAny_pure ?_)))))
  show wpAny _ _ (match Builtin.Slice.sliceAdjust none none (-1) (n : Int) with | (lo, hi) => pure (lo, (-1 : Int), Builtin.Slice.slicePlaces lo hi (-1))) _ _ s
  rw [adj_rev n]
  show wpAny _ _ (pure ((n : Int) - 1, (-1 : Int), Builtin.Slice.slicePlaces ((n : Int) - 1) (-1) (-1))) _ _ s
  rw [places_rev]
  exact wpAny_pure h
theorem getItem_tuple_rev {t sl : Addr} {items : Array Value} {vl vu vs : Value} {Q : Value → Shared → Prop} (ht : IsTup s.heap t items) (hs : s.heap.IsSliceOf sl vl vu vs) (pl : IsPart vl none) (pu : IsPart vu none) (ps : IsPart vs (some (-1)))
    (h : Q (.ref s.heap.objs.size) { s with heap := s.heap.push { cls := .type "tuple", data := .seq items.toList.reverse.toArray } })
    (hsz : items.size ≤ sizeLine) : wpAny (model prog w) A (getItem (.ref t) (.ref sl)) Q E s := by
  have htake : sizeOk (.seq items.toList.reverse.toArray) := by
    show items.toList.reverse.toArray.size ≤ sizeLine
    rw [List.size_toArray, List.length_reverse, Array.length_toList]
    exact hsz
  obtain ⟨os, hos, hcs, hds⟩ := id hs
  have hTs : s.TypeIs (.ref sl) "slice" := ⟨os, hos, hcs⟩
  unfold getItem
  try with_reducible refine wpAny_holding ?_
  first | refine wpAny_bind (wpAny_pure ?_) | skip
  refine wpAny_bind (wpAny_sequenceKey ht.typeIs (by decide) ?_)
  refine wpAny_bind (wpAny_callSpecial?_slot (name := Str.ofString "__getitem__") ht.typeIs PyProof.Rows.slot_tuple_getitem
    (wpAny_call_entry PyProof.Rows.slot_tuple_getitem ht.typeIs entry_tuple_getitem ?_ (args_tuple_getitem _ _)))
  show wpAny _ _ (Builtin.Tuple.tupleItemsOf (.ref t) >>= _) _ _ s
  refine wpAny_bind (tupleItemsOf_ ht ?_)
  refine wpAny_bind (wpAny_typeOf hTs ?_)
  rw [if_pos (by decide)]
  refine wpAny_bind (slice_rev hs pl pu ps ?_)
  have hno : ¬ ((((items.size : Int) - 1) == 0 && (-1 : Int) == 1 && items.size == items.size) = true) := by
    rw [show ((-1 : Int) == 1) = false from rfl, Bool.and_false, Bool.false_and]
    exact Bool.false_ne_true
  show wpAny _ _ (if (((items.size : Int) - 1) == 0 && (-1 : Int) == 1 && items.size == items.size) = true then _ else _) _ _ s
  rw [if_neg hno, pick_rev]
  first
    | exact wpAny_bind (m := Builtin.Tuple.tupleExact _) (wpAny_newObj_type (wpAny_pure ⟨_, rfl, wpAny_pure h⟩) htake)
    | exact wpAny_bind (m := Builtin.Tuple.tupleExact _) (wpAny_newObj_type (wpAny_bind (wpAny_pure (wpAny_pure ⟨_, rfl, wpAny_pure h⟩))) htake)
    | exact wpAny_bind (wpAny_bind (m := Builtin.Tuple.tupleExact _) (wpAny_newObj_type (wpAny_pure (wpAny_pure ⟨_, rfl, wpAny_pure h⟩)) htake))
    | exact wpAny_bind (wpAny_bind (m := Builtin.Tuple.tupleExact _) (wpAny_newObj_type (wpAny_pure ⟨_, rfl, wpAny_pure h⟩) htake))
end
section
variable {X : Cx} {C : Ex → Addr} {W : WX}
def tRevT (K : PySem.W.Frag) (te : TE) : TE := fun σ H Q => te σ H fun x H1 => ∃ a xs, x = .ref a ∧ ((SqL K H1 a xs ∧ ∀ p, H1 p = none → Q (.ref p) (upd H1 p (.lst xs.reverse))) ∨ (SqT K H1 a xs ∧ ∀ p, H1 p = none → Q (.ref p) (upd H1 p (.tup xs.reverse))))
theorem pe_rev {e : Expr} {te : TE} {k : Nat} {p1 p2 p3 pos : Pos} (he : PE X e te) : PE X (.Subscript e (.Slice none none (some (.UnaryOp .USub (.Constant (.int 1) k p1) p2)) p3) pos) (tRevT X.K te) := by
  refine ⟨fun pins s σ H Q I h => ?_⟩
  refine Subscript_ (thn (he.run pins s σ H _ I h) fun v s1 ⟨x, H1, I1, r1, q1⟩ => ?_)
  obtain ⟨a, xs, ex, hx⟩ := q1
  subst ex
  cases r1
  have hst : PO X (some (.UnaryOp .USub (.Constant (.int 1) k p1) p2)) (tPart (tUn (rU fun i => .int (-i)) (tC (.int 1)))) := po_some (pe_un un_neg pe_int)
  refine wpAny_Slice (thn (po_none.run pins s1 σ H1 (fun o H2 => o = none ∧ H2 = H1) I1 ⟨rfl, rfl⟩) fun vl s2 ⟨l, H2, I2, pl, el, e2⟩ => ?_)
  subst el e2
  refine thn (po_none.run pins s2 σ H2 (fun o H3 => o = none ∧ H3 = H2) I2 ⟨rfl, rfl⟩) fun vu s3 ⟨u, H3, I3, pu, eu, e3⟩ => ?_
  subst eu e3
  refine thn (hst.run pins s3 σ H3 (fun o H4 => o = some (-1) ∧ H4 = H3) I3 ⟨1, rfl, -1, rfl, rfl, rfl⟩) fun vs s4 ⟨o, H4, I4, ps, eo, e4⟩ => ?_
  subst eo e4
  have I5 : Inv X pins σ H4 { s4 with heap := s4.heap.push { cls := .type "slice", data := .fields #[vl, vu, vs] } } := I4.kept (t' := s4.toks) fun b ob q => Heap.get?_push_of_some _ q
  show wpAny (model X.prog X.w) X.A (subscriptTail e (.Slice none none (some (.UnaryOp .USub (.Constant (.int 1) k p1) p2)) p3) (.ref a) (.ref s4.heap.objs.size)) (EP X pins σ Q) X.xe { s4 with heap := s4.heap.push { cls := .type "slice", data := .fields #[vl, vu, vs] } }
  rcases hx with ⟨hx, q⟩ | ⟨hx, q⟩
  · obtain ⟨its, r, ht, hz⟩ := I5.list hx
    have hlen := r.length
    refine tail_any (ops := [.ref a, .ref s4.heap.objs.size]) ht.isList.typeIs (PySem.slot_list_getitem.lookup) ?_ (by with_unfolding_all rfl)
    refine wpAny_getItem_list_slice ht.isList (Heap.IsSliceOf.new _ vl vu vs) pl pu ps (by decide) ?_ (by rw [List.size_toArray]; omega)
    rw [PySem.W.krv_pick]
    refine ⟨.ref _, _, I5.laid (t' := s4.toks) (o := .lst xs.reverse) (fun b ob q => Heap.get?_push_of_some _ q) (Nat.le_refl _) ?_, rfl, q _ (I5.hok.fresh (Nat.le_refl _))⟩
    exact ⟨by rw [List.length_reverse]; exact hz, _, 0, r.reverse, Heap.get?_push_size _ rfl⟩
  · obtain ⟨its, r, ht, hz⟩ := I5.tuple hx
    have hlen := r.length
    refine tail_any (ops := [.ref a, .ref s4.heap.objs.size]) ht.typeIs (PyProof.Rows.slot_tuple_getitem.lookup) ?_ (by with_unfolding_all rfl)
    refine getItem_tuple_rev ht (Heap.IsSliceOf.new _ vl vu vs) pl pu ps ?_ (by rw [List.size_toArray]; omega)
    refine ⟨.ref _, _, I5.laid (t' := s4.toks) (o := .tup xs.reverse) (fun b ob q => Heap.get?_push_of_some _ q) (Nat.le_refl _) ?_, rfl, q _ (I5.hok.fresh (Nat.le_refl _))⟩
    exact ⟨by rw [List.length_reverse]; exact hz, _, r.reverse, ⟨_, Heap.get?_push_size _ rfl, rfl, _, rfl⟩⟩
end
section
variable {X : Cx} {C : Ex → Addr} {W : WX} {a b c : Expr} {pos : Pos} {ta tb tc : DTE}
theorem t_chain {r r' : D → D → G → QD → Prop} {op op' : CmpOp} (ho : OpR X (compareOp op) (rUp X.K r)) (ho' : OpR X (compareOp op') (rUp X.K r')) (ha : PE X a (up X.K C W ta)) (hb : PE X b (up X.K C W tb)) (hc : PE X c (up X.K C W tc)) (hm : lastMarks [op, op'] [b, c] = false) :
    PT X (.Compare a [op, op'] [b, c] pos) (upT X.K C W (dTst (dChain r r' ta tb tc))) := by
  refine pt_imp (pt_chain ho ho' ha hb hc hm) fun σ H Q ⟨env, g, Xd, Qd, re, rg, t, cl, cx⟩ => ?_
  refine ⟨env, g, Xd, _, re, rg, t, fun d1 g1 v H1 q k1 r1 rv => ?_, cx⟩
  refine ⟨env, g1, Xd, _, re.keep k1, r1, q, fun d2 g2 u H2 q2 k2 r2 ru => ?_, cx.at k1⟩
  refine ⟨d1, d2, g2, _, rv.keep k2, ru, r2, q2, fun d3 g3 w H3 q3 k3 r3 rw' => ?_⟩
  have kk := (k1.trans k2).trans k3
  split at q3
  · rename_i k
    refine ⟨k, rw', ?_⟩
    cases k with
    | true =>
      rw [if_pos rfl] at q3 ⊢
      refine ⟨env, g3, Xd, _, re.keep kk, r3, q3, fun d4 g4 z H4 q4 k4 r4 rz => ?_, cx.at kk⟩
      refine ⟨d2, d4, g4, _, (ru.keep k3).keep k4, rz, r4, q4, fun d5 g5 w5 H5 q5 k5 r5 rw5 => ?_⟩
      split at q5
      · exact ⟨_, rw5, cl _ _ _ q5 ((kk.trans k4).trans k5) r5⟩
      · exact q5.elim
    | false => rw [if_neg Bool.false_ne_true] at q3 ⊢; exact ⟨_, rfl, cl _ _ _ q3 kk r3⟩
  · exact q3.elim
end
end PP
set_option maxHeartbeats 2000000
namespace PP
open PySem PySem.Spec PyProof.Rows L2
inductive Grown : Hp → Hp → Prop
  | refl (H : Hp) : Grown H H
  | step {H H' : Hp} {T : Addr} {xs : List V} : Grown H H' → H' T = none → Grown H (upd H' T (.tup xs))
theorem Grown.tk {H H' : Hp} (g : Grown H H') : TK H H' := by
  induction g with
  | refl => exact .refl _
  | step _ h ih => exact ih.trans (.new h)
theorem Grown.rep {K : PySem.W.Frag} {H H' : Hp} (g : Grown H H') {e : G} (r : RepG K H e) : RepG K H' e := by
  induction g with
  | refl => exact r
  | step _ h ih => exact ih.tup h
theorem Grown.at {H H' : Hp} (g : Grown H H') {b : Addr} {o : HO} (e : H b = some o) : H' b = some o := by
  induction g with
  | refl => exact e
  | step _ h ih => rw [upd_ne (ne_of_none ih h)]; exact ih
abbrev ZSt (z TI TO i1 i2 l1 l2 S : Addr) (xs ys : Array Value) (i : Nat) (h : Heap) : Prop :=
  IsPair h TI (.ref i1) (.ref i2) ∧ h.IsListIter i1 l1 i ∧ h.IsListIter i2 l2 i ∧ h.IsList l1 xs ∧ h.IsList l2 ys ∧
    ((IsZip h z TI TO .none ∧ ∃ a b, IsPair h TO a b) ∨ ∃ T f oT, IsZipHeld h z TI TO T f ∧ h.get? T = some oT ∧ T ≠ z ∧ T ≠ i1 ∧ T ≠ i2 ∧ T ≠ S)
section
variable {prog : Program} {w : World} {A : Around} {E : Value → Shared → Prop} {s : Shared} {z TI TO i1 i2 l1 l2 S : Addr} {xs ys : Array Value} {i : Nat}
theorem zst_frame {h h' : Heap} (st : ZSt z TI TO i1 i2 l1 l2 S xs ys i h) (hS : S ∉ [z, TI, TO, i1, i2, l1, l2]) (hk : ∀ b o, b ≠ S → h.get? b = some o → h'.get? b = some o) : ZSt z TI TO i1 i2 l1 l2 S xs ys i h' := by
  simp only [List.mem_cons, List.not_mem_nil, or_false, not_or] at hS
  obtain ⟨dz, dTI, dTO, di1, di2, dl1, dl2⟩ := hS
  obtain ⟨hTI, h1, h2, hl1, hl2, hz⟩ := st
  refine ⟨hk _ _ (Ne.symm dTI) hTI, h1.at fun o e => hk _ o (Ne.symm di1) e, h2.at fun o e => hk _ o (Ne.symm di2) e, hl1.at fun o e => hk _ o (Ne.symm dl1) e, hl2.at fun o e => hk _ o (Ne.symm dl2) e, ?_⟩
  rcases hz with ⟨hz, a, b, hTO⟩ | ⟨T, f, oT, hz, hT, r1, r2, r3, r4⟩
  · exact .inl ⟨hk _ _ (Ne.symm dz) hz, a, b, hk _ _ (Ne.symm dTO) hTO⟩
  · exact .inr ⟨T, f, oT, hk _ _ (Ne.symm dz) hz, hk _ _ r4 hT, r1, r2, r3, r4⟩
theorem zst_item (D : ZipApart z TI TO i1 i2 l1 l2) (st : ZSt z TI TO i1 i2 l1 l2 S xs ys i s.heap) (hS : S < s.heap.objs.size) (hix : i < xs.size) (hiy : i < ys.size) {Q : Option Value → Shared → Prop}
    (hQ : ∀ h' x y, xs[i]? = some x → ys[i]? = some y → ZSt z TI TO i1 i2 l1 l2 S xs ys (i + 1) h' → IsPair h' s.heap.objs.size x y → h'.objs.size = s.heap.objs.size + 1 → (∀ c o, c ∉ [z, TI, TO, i1, i2] → s.heap.get? c = some o → h'.get? c = some o) → Q (some (.ref s.heap.objs.size)) { s with heap := h' }) :
    wpAny (model prog w) A (pyNext (.ref z)) Q E s := by
  obtain ⟨hTI, h1, h2, hl1, hl2, hz⟩ := st
  have ex := Array.getElem?_eq_getElem hix
  have ey := Array.getElem?_eq_getElem hiy
  have lt : ∀ {c o}, s.heap.get? c = some o → s.heap.objs.size ≠ c := fun e => Nat.ne_of_gt (Heap.lt_size e)
  have n1 : s.heap.objs.size ≠ i1 := let ⟨_, e, _⟩ := h1; lt e
  have n2 : s.heap.objs.size ≠ i2 := let ⟨_, e, _⟩ := h2; lt e
  rcases hz with ⟨hz, a, b, hTO⟩ | ⟨T, f, oT, hz, hT, r1, r2, r3, r4⟩
  · refine wpAny_pyNext_zip_item D hz hTI hTO h1 h2 hl1 hl2 ex ey fun h' a1 a2 a3 a4 a5 a6 hk => ?_
    exact hQ h' _ _ ex ey
      ⟨hk _ _ D.TIz D.TITO D.TIi1 D.TIi2 hTI, a3, a4, hl1.at fun o e => hk _ o D.l1z D.l1TO D.l1i1 D.l1i2 e, hl2.at fun o e => hk _ o D.l2z D.l2TO D.l2i1 D.l2i2 e,
        .inr ⟨s.heap.objs.size, false, _, a1, a5, lt hz, n1, n2, Nat.ne_of_gt hS⟩⟩ a5 a6
      fun c o hc e => hk c o (fun x => hc (by simp [x])) (fun x => hc (by simp [x])) (fun x => hc (by simp [x])) (fun x => hc (by simp [x])) e
  · refine wpAny_pyNext_zip_item_held D hz hT hTI h1 h2 hl1 hl2 ex ey fun h' a1 a3 a4 a5 a6 hk => ?_
    exact hQ h' _ _ ex ey
      ⟨hk _ _ D.TIz D.TIi1 D.TIi2 hTI, a3, a4, hl1.at fun o e => hk _ o D.l1z D.l1i1 D.l1i2 e, hl2.at fun o e => hk _ o D.l2z D.l2i1 D.l2i2 e,
        .inr ⟨T, true, oT, a1, hk _ _ r1 r2 r3 hT, r1, r2, r3, r4⟩⟩ a5 a6
      fun c o hc e => hk c o (fun x => hc (by simp [x])) (fun x => hc (by simp [x])) (fun x => hc (by simp [x])) e
theorem zst_done (hh : A.handled = none) (D : ZipApart z TI TO i1 i2 l1 l2) (st : ZSt z TI TO i1 i2 l1 l2 S xs ys i s.heap) (hi : i = min xs.size ys.size) {Q : Option Value → Shared → Prop}
    (hQ : ∀ h', (∀ c o, c ∉ [z, TI, TO, i1, i2] → s.heap.get? c = some o → h'.get? c = some o) → Q none { s with heap := h' }) : wpAny (model prog w) A (pyNext (.ref z)) Q E s := by
  obtain ⟨hTI, h1, h2, hl1, hl2, hz⟩ := st
  have hend : xs[i]? = none ∨ ys[i]? = none := by
    rw [hi]
    rcases Nat.le_total xs.size ys.size with h | h
    · exact .inl (Array.getElem?_eq_none (by rw [Nat.min_eq_left h]; exact Nat.le_refl _))
    · exact .inr (Array.getElem?_eq_none (by rw [Nat.min_eq_right h]; exact Nat.le_refl _))
  rcases hz with ⟨hz, a, b, hTO⟩ | ⟨T, f, oT, hz, hT, r1, r2, r3, r4⟩
  · exact wpAny_pyNext_zip_end hh D hz hTI hTO h1 h2 hl1 hl2 hend fun h' hk => hQ h' fun c o hc e => hk c o (fun x => hc (by simp [x])) (fun x => hc (by simp [x])) (fun x => hc (by simp [x])) (fun x => hc (by simp [x])) e
  · exact wpAny_pyNext_zip_end_held hh D hz hT hTI h1 h2 hl1 hl2 hend fun h' hk => hQ h' fun c o hc e => hk c o (fun x => hc (by simp [x])) (fun x => hc (by simp [x])) (fun x => hc (by simp [x])) e
end
def Made (xs ys : List V) (H : Hp) (ts : List Addr) : Prop := ∀ (j : Nat) (T : Addr), ts[j]? = some T → ∃ x y, xs[j]? = some x ∧ ys[j]? = some y ∧ H T = some (.tup [x, y])
theorem Made.snoc {xs ys : List V} {H : Hp} {ts : List Addr} {T : Addr} {x y : V} (m : Made xs ys H ts) (hx : xs[ts.length]? = some x) (hy : ys[ts.length]? = some y) (hT : H T = none) : Made xs ys (upd H T (.tup [x, y])) (ts ++ [T]) := fun j U e => by
  rw [List.getElem?_append] at e
  split at e
  · obtain ⟨x', y', a, b, c⟩ := m j U e
    exact ⟨x', y', a, b, by rw [upd_ne (ne_of_none c hT)]; exact c⟩
  · rw [List.getElem?_singleton] at e
    split at e
    · cases e
      have : j = ts.length := by omega
      subst this
      exact ⟨x, y, hx, hy, upd_same⟩
    · cases e
section
variable {X : Cx} {pins : List (Addr × Obj)} {σ : L2.St} {z TI TO i1 i2 a b S : Addr} {its its2 : List Value} {xs ys : List V} {n : Nat} {res : Value} {R : Result → Shared → Prop} {H : Hp}
theorem extend_zip (D : ZipApart z TI TO i1 i2 a b) (rv : Vals xs its) (rv2 : Vals ys its2) (hS : S ∉ [z, TI, TO, i1, i2, a, b]) (hn : n = min its.length its2.length) (hz : n ≤ sizeLine) {b0 : Nat} (hb0 : ∀ b ∈ [z, TI, TO, i1, i2, S], b < b0)
    (hR : ∀ s' H' ts c', Inv X pins σ H' s' → Grown H H' → (∀ b ∈ [z, TI, TO, i1, i2, S], FpOk X pins H' b) → ts.length = n → Made xs ys H' ts → s'.heap.get? S = some { cls := .type "list", dict := none, data := .seq (ts.map Value.ref).toArray c', slots := #[] } → R (.ok (.ret res)) s') :
    ∀ (k i : Nat) (A : Around) (s : Shared) (H' : Hp) (ts : List Addr) (acc : Array Value) (c : Nat), n - i = k → i ≤ n → A.handled = none → Inv X pins σ H' s → Grown H H' → (∀ b ∈ [z, TI, TO, i1, i2, S], FpOk X pins H' b) → ts.length = i → Made xs ys H' ts → ZSt z TI TO i1 i2 a b S its.toArray its2.toArray i s.heap → acc = (ts.map Value.ref).toArray →
      s.heap.get? S = some { cls := .type "list", dict := none, data := .seq acc c, slots := #[] } → b0 ≤ s.heap.objs.size → codeAny (model X.prog X.w) A (.builtin "list.extend.loop" ⟨[.ref S, .ref z, res], []⟩) R s := by
  have hS' := hS
  simp only [List.mem_cons, List.not_mem_nil, or_false, not_or] at hS'
  obtain ⟨dz, dTI, dTO, di1, di2, dl1, dl2⟩ := hS'
  have hSw : S ∉ [z, TI, TO, i1, i2] := by simp only [List.mem_cons, List.not_mem_nil, or_false, not_or]; exact ⟨dz, dTI, dTO, di1, di2⟩
  have sub : ∀ {b}, b ∉ [z, TI, TO, i1, i2, S] → b ∉ [z, TI, TO, i1, i2] := fun {b} h h2 => h (by simp only [List.mem_cons, List.not_mem_nil, or_false] at h2 ⊢; rcases h2 with h | h | h | h | h <;> simp [h])
  intro k
  induction k with
  | zero =>
    intro i A s H' ts acc c hk hi hh I gr hf hl hm st hacc hSg hb
    have hin : i = n := by omega
    refine codeAny_builtin F.entry_extend_loop ?_
    rw [Around.under_plainId F.plain_extend_loop _]
    show wpAny _ A.in1 (pyNext (.ref z) >>= _) _ _ s
    refine wpAny_bind (zst_done (A := A.in1) hh D st (by rw [hin, hn, List.size_toArray, List.size_toArray]) fun h' hk => ?_)
    have I1 : Inv X pins σ H' { s with heap := h' } := I.turnedL (t' := s.toks) (ch := [z, TI, TO, i1, i2, S]) (fun c o hb q => hk c o (sub hb) q) hf
    exact wpAny_pure (hR _ H' ts c I1 gr hf (by omega) hm (by rw [← hacc]; exact hk S _ hSw hSg))
  | succ k ih =>
    intro i A s H' ts acc c hk hi hh I gr hf hl hm st hacc hSg hb
    have hlt : i < n := by omega
    have hSl : S < s.heap.objs.size := Heap.lt_size hSg
    refine codeAny_builtin F.entry_extend_loop ?_
    rw [Around.under_plainId F.plain_extend_loop _]
    show wpAny _ A.in1 (pyNext (.ref z) >>= _) _ _ s
    refine wpAny_bind (zst_item (A := A.in1) D st hSl (by rw [List.size_toArray]; omega) (by rw [List.size_toArray]; omega) fun h' u v hu hv st' hp hsz' hk => ?_)
    have hSg' := hk S _ hSw hSg
    rw [List.getElem?_toArray] at hu hv
    have l1 := rv.length
    have l2 := rv2.length
    obtain ⟨x, hx⟩ : ∃ x, xs[i]? = some x := ⟨xs[i]'(by omega), List.getElem?_eq_getElem (by omega)⟩
    obtain ⟨y, hy⟩ : ∃ y, ys[i]? = some y := ⟨ys[i]'(by omega), List.getElem?_eq_getElem (by omega)⟩
    obtain ⟨u', hu', rx⟩ := rv.get hx
    obtain ⟨v', hv', ry⟩ := rv2.get hy
    rw [hu'] at hu; cases hu
    rw [hv'] at hv; cases hv
    have hfr : H' s.heap.objs.size = none := I.hok.fresh (Nat.le_refl _)
    show wpAny _ A.in1 (updateSeq S (·.push (.ref s.heap.objs.size)) >>= _) _ _ _
    have hup : ∀ c o, c ≠ S → h'.get? c = some o → (h'.update S (Obj.mapSeq (·.push (.ref s.heap.objs.size)))).get? c = some o := fun c o hc e => (Heap.get?_update_other _ _ (Ne.symm hc)).trans e
    have hsz : acc.size = i := by rw [hacc, List.size_toArray, List.length_map, hl]
    have new : ObjOk X.prog X.w (upd H' s.heap.objs.size (.tup [x, y])) (h'.update S (Obj.mapSeq (·.push (.ref s.heap.objs.size)))) s.heap.objs.size (.tup [x, y]) :=
      ⟨by show 2 ≤ sizeLine; decide, [u, v], .cons rx (.cons ry .nil), ⟨_, hup _ _ (Nat.ne_of_gt hSl) hp, rfl, _, rfl⟩⟩
    have I1 : Inv X pins σ (upd H' s.heap.objs.size (.tup [x, y])) { s with heap := h'.update S (Obj.mapSeq (·.push (.ref s.heap.objs.size))) } :=
      I.turnedNew (t' := s.toks) (ch := [z, TI, TO, i1, i2, S]) (fun c o hb q => hup c o (fun e => hb (by simp [e])) (hk c o (sub hb) q)) hf (Nat.le_refl _) new
    have hf1 : ∀ b ∈ [z, TI, TO, i1, i2, S], FpOk X pins (upd H' s.heap.objs.size (.tup [x, y])) b := fun b hb' => by
      have q := hf b hb'
      refine ⟨?_, q.2⟩
      rw [upd_ne (Nat.ne_of_lt (Nat.lt_of_lt_of_le (hb0 _ hb') hb))]
      exact q.1
    refine wpAny_bind ?_
    refine wpAny_updateSeq hSg' rfl (wpAny_pure ⟨plainId_quiet F.plain_extend_loop _, ih (i + 1) A _ _ (ts ++ [s.heap.objs.size]) (acc.push (.ref s.heap.objs.size)) _ (by omega) hlt hh I1 (gr.step hfr) hf1 (by simp [hl]) (hm.snoc (by rw [hl]; exact hx) (by rw [hl]; exact hy) hfr) (zst_frame st' hS fun c o hc e => hup c o hc e) (by rw [hacc]; simp) (Heap.get?_update_self _ hSg' rfl) (by show b0 ≤ (h'.update S _).objs.size; rw [(Heap.SameBut.update ..).1, hsz']; omega)⟩)
      (by rw [hsz]; omega) (by show (acc.push _).size ≤ sizeLine + 1; rw [Array.size_push, hsz]; omega)
theorem zip_no_len : typeLookup (.type "zip") "__len__" = pure none := by rw [typeLookup_type, builtinLookup_eq_fast]; kernel_rfl
theorem zip_no_hint : typeLookup (.type "zip") "__length_hint__" = pure none := by rw [typeLookup_type, builtinLookup_eq_fast]; kernel_rfl
theorem collect_zip {A : Around} {s : Shared} {E : Value → Shared → Prop} {Q : List Value → Shared → Prop} (D : ZipApart z TI TO i1 i2 a b) (rv : Vals xs its) (rv2 : Vals ys its2) (hn : n = min its.length its2.length) (hz : n ≤ sizeLine) (hh : A.handled = none) (I : Inv X pins σ H s)
    (hf : ∀ b ∈ [z, TI, TO, i1, i2], FpOk X pins H b) (hlt : ∀ c ∈ [z, TI, TO, i1, i2, a, b], c < s.heap.objs.size)
    (h0 : IsPair s.heap TI (.ref i1) (.ref i2) ∧ s.heap.IsListIter i1 a 0 ∧ s.heap.IsListIter i2 b 0 ∧ s.heap.IsList a its.toArray ∧ s.heap.IsList b its2.toArray ∧ IsZip s.heap z TI TO .none ∧ ∃ a b, IsPair s.heap TO a b)
    (hQ : ∀ s' H' ts, Inv X pins σ H' s' → Grown H H' → ts.length = n → Made xs ys H' ts → Q (ts.map Value.ref) s') : wpAny (model X.prog X.w) A (collect (.ref z)) Q E s := by
  obtain ⟨g1, g2, g3, g4, g5, g6, ta, tb, g7⟩ := h0
  have hS : s.heap.objs.size ∉ [z, TI, TO, i1, i2, a, b] := fun hm => Nat.lt_irrefl _ (hlt _ hm)
  have hSz : s.heap.objs.size ≠ z := fun e => hS (by simp [e])
  have hfS : FpOk X pins H s.heap.objs.size := I.fpOk (Nat.le_refl _) (I.hok.fresh (Nat.le_refl _))
  unfold collect
  refine wpAny_bind (wpAny_runValue (codeAny_builtin F.entry_proto_collect ?_))
  rw [Around.under_plainId F.plain_proto_collect _]
  show wpAny _ A.in1 (newList [] >>= fun l => again (.builtin "list.__iadd__" ⟨[l, .ref z], []⟩)) _ _ s
  refine wpAny_bind (wpAny_newObj_type ?_)
  refine wpAny_pure ⟨plainId_quiet F.plain_list_iadd _, codeAny_builtin F.entry_list_iadd ?_⟩
  rw [Around.under_plainId F.plain_list_iadd _]
  have hS₁ : (s.heap.push { cls := .type "list", data := .seq ([] : List Value).toArray }).get? s.heap.objs.size = some { cls := .type "list", data := .seq ([] : List Value).toArray } := Heap.get?_push_size _ rfl
  have k1 : ∀ b o, s.heap.get? b = some o → (s.heap.push { cls := .type "list", data := .seq ([] : List Value).toArray }).get? b = some o := fun b o e => Heap.get?_push_of_some _ e
  have hT : ({ s with heap := s.heap.push { cls := .type "list", data := .seq ([] : List Value).toArray } } : Shared).TypeIs (.ref z) "zip" := ⟨_, k1 _ _ g6, rfl⟩
  show wpAny _ A.in1 (Builtin.List.listExtendWith (.ref s.heap.objs.size) (.ref z) (.ref s.heap.objs.size)) _ _ _
  unfold Builtin.List.listExtendWith
  refine wpAny_bind (wpAny_typeOf hT ?_)
  have h1 : Builtin.List.listSameRef (.ref s.heap.objs.size) (.ref z) = false := by simp [Builtin.List.listSameRef, hSz]
  have h2 : (Value.type "zip" == Value.type "list") = false := by decide
  have h3 : (Value.type "zip" == Value.type "tuple") = false := by decide
  simp only [h1, h2, h3, Bool.or_false, Bool.false_eq_true, if_false]
  refine wpAny_bind (wpAny_pyIter_zip (s := { s with heap := s.heap.push { cls := .type "list", data := .seq ([] : List Value).toArray } }) (k1 _ _ g6) ?_)
  refine wpAny_bind (wpAny_holding ?_)
  unfold Builtin.List.listLengthHint
  refine wpAny_bind (wpAny_specialOf hT zip_no_len ?_)
  show wpAny _ A.in1 (specialOf (Value.ref z) (Str.ofString "__length_hint__") >>= _) _ _ _
  refine wpAny_bind (wpAny_specialOf hT zip_no_hint ?_)
  refine wpAny_pure ?_
  show wpAny _ A.in1 (rule "list.extend.makes-room" >>= fun _ => Builtin.List.listTouch (.ref s.heap.objs.size) >>= fun _ =>
    again (.builtin "list.extend.loop" ⟨[.ref s.heap.objs.size, .ref z, .ref s.heap.objs.size], []⟩)) _ _ _
  refine wpAny_bind (wpAny_rule ?_)
  refine wpAny_bind ?_
  show wpAny _ A.in1 (updateSeq s.heap.objs.size (·.push .none) >>= fun _ => updateSeq s.heap.objs.size (·.pop)) _ _ _
  refine wpAny_bind (wpAny_updateSeq hS₁ rfl ?_)
  have hS₂ := Heap.get?_update_self (Obj.mapSeq (·.push Value.none)) hS₁ rfl
  refine wpAny_updateSeq hS₂ rfl ?_
  have hS₃ := Heap.get?_update_self (Obj.mapSeq (·.pop)) hS₂ rfl
  have oth : ∀ b o, b ≠ s.heap.objs.size → s.heap.get? b = some o →
      (((s.heap.push { cls := .type "list", data := .seq ([] : List Value).toArray }).update s.heap.objs.size (Obj.mapSeq (·.push Value.none))).update s.heap.objs.size (Obj.mapSeq (·.pop))).get? b = some o :=
    fun b o hb e => (Heap.get?_update_other _ _ (Ne.symm hb)).trans ((Heap.get?_update_other _ _ (Ne.symm hb)).trans (k1 b o e))
  have ne : ∀ {c}, c ∈ [z, TI, TO, i1, i2, a, b] → c ≠ s.heap.objs.size := fun hc e => hS (e ▸ hc)
  have I1 : Inv X pins σ H { s with heap := ((s.heap.push { cls := .type "list", data := .seq ([] : List Value).toArray }).update s.heap.objs.size (Obj.mapSeq (·.push Value.none))).update s.heap.objs.size (Obj.mapSeq (·.pop)) } :=
    I.turnedL (t' := s.toks) (ch := [s.heap.objs.size]) (fun b o hb e => oth b o (fun q => hb (by simp [q])) e) (fun b hb => by rw [List.mem_singleton.mp hb]; exact hfS)
  have st : ZSt z TI TO i1 i2 a b s.heap.objs.size its.toArray its2.toArray 0 (((s.heap.push { cls := .type "list", data := .seq ([] : List Value).toArray }).update s.heap.objs.size (Obj.mapSeq (·.push Value.none))).update s.heap.objs.size (Obj.mapSeq (·.pop))) :=
    ⟨oth _ _ (ne (by simp)) g1, g2.at fun o e => oth _ o (ne (by simp)) e, g3.at fun o e => oth _ o (ne (by simp)) e, g4.at fun o e => oth _ o (ne (by simp)) e, g5.at fun o e => oth _ o (ne (by simp)) e, .inl ⟨oth _ _ (ne (by simp)) g6, ta, tb, oth _ _ (ne (by simp)) g7⟩⟩
  have hszz : (((s.heap.push { cls := .type "list", data := .seq ([] : List Value).toArray }).update s.heap.objs.size (Obj.mapSeq (·.push Value.none))).update s.heap.objs.size (Obj.mapSeq (·.pop))).objs.size = s.heap.objs.size + 1 := by
    rw [(Heap.SameBut.update ..).1, (Heap.SameBut.update ..).1, Heap.size_push]
  refine wpAny_pure ⟨plainId_quiet F.plain_extend_loop _, extend_zip (X := X) (pins := pins) (σ := σ) (H := H) (n := n) (b0 := s.heap.objs.size + 1) D rv rv2 hS hn hz (fun c hc => ?_) (fun s' H' ts c' I' gr _ hl hm hSg => ?_) n 0 A _ H [] #[] _ rfl (Nat.zero_le _) hh I1 (.refl _) (fun c hc => ?_) rfl (fun j T e => by simp at e) st rfl hS₃ (Nat.le_of_eq hszz.symm)⟩
  · simp only [List.mem_cons, List.not_mem_nil, or_false] at hc
    rcases hc with rfl | rfl | rfl | rfl | rfl | rfl
    all_goals first | exact Nat.lt_succ_self _ | exact Nat.lt_succ_of_lt (hlt _ (by simp))
  · show wpAny _ A (load s.heap.objs.size >>= _) _ _ s'
    refine wpAny_bind (wpAny_load hSg ?_)
    refine wpAny_pure ?_
    have := hQ s' H' ts I' gr hl hm
    simpa using this
  · simp only [List.mem_cons, List.not_mem_nil, or_false] at hc
    rcases hc with rfl | rfl | rfl | rfl | rfl | rfl
    all_goals first | exact hfS | exact hf _ (by simp)
theorem call_tuple_zip {A : Around} {s : Shared} {E : Value → Shared → Prop} {Q : Value → Shared → Prop} (D : ZipApart z TI TO i1 i2 a b) (rv : Vals xs its) (rv2 : Vals ys its2) (hn : n = min its.length its2.length) (hz : n ≤ sizeLine) (hh : A.handled = none) (I : Inv X pins σ H s)
    (hf : ∀ b ∈ [z, TI, TO, i1, i2], FpOk X pins H b) (hlt : ∀ c ∈ [z, TI, TO, i1, i2, a, b], c < s.heap.objs.size)
    (h0 : IsPair s.heap TI (.ref i1) (.ref i2) ∧ s.heap.IsListIter i1 a 0 ∧ s.heap.IsListIter i2 b 0 ∧ s.heap.IsList a its.toArray ∧ s.heap.IsList b its2.toArray ∧ IsZip s.heap z TI TO .none ∧ ∃ a b, IsPair s.heap TO a b)
    (hQ : ∀ s' H' ts, Inv X pins σ H' s' → Grown H H' → ts.length = n → Made xs ys H' ts → Q (.ref s'.heap.objs.size) { s' with heap := s'.heap.push { cls := .type "tuple", data := .seq (ts.map Value.ref).toArray } }) :
    wpAny (model X.prog X.w) A (call (.type "tuple") [.ref z]) Q E s := by
  have code : codeAny (model X.prog X.w) A.in1 (.call (.builtin "tuple.__new__") ⟨[.type "tuple", .ref z], []⟩) (wants (fun obj s₁ => s₁.TypeIs obj "tuple" ∧ Q obj s₁) E) s := by
    refine codeAny_of_tree ?_
    show wpAny _ A.in1.in1 (do checkBuiltinCall "tuple.__new__" ⟨[.type "tuple", .ref z], []⟩; again (.builtin "tuple.__new__" ⟨[.type "tuple", .ref z], []⟩)) _ _ s
    refine wpAny_bind (wpAny_of_eq (F.newCall_tuple_1 _) (wpAny_pure ⟨plainId_quiet F.plain_tuple_new _, codeAny_builtin F.entry_tuple_new ?_⟩))
    rw [Around.under_plainId F.plain_tuple_new _]
    have hsub := sub_tuple_self
    have hinit := init_tuple_lookup
    have hmh := madeHere_tuple
    have hTI : s.TypeIs (.ref z) "zip" := ⟨_, h0.2.2.2.2.2.1, rfl⟩
    have hh1 : A.in1.in1.handled = none := hh
    wp_walk using wpAny_typeOf hTI, collect_zip (A := A.in1.in1) D rv rv2 hn hz hh1 I hf hlt h0
    intro s' H' ts I' gr hl hm
    show wpAny _ _ (Builtin.Tuple.tupleExact (ts.map Value.ref).toArray >>= fun v => ret v) _ _ _
    unfold Builtin.Tuple.tupleExact
    refine wpAny_bind (wpAny_newObj_type ?_ (by show (ts.map Value.ref).toArray.size ≤ sizeLine; rw [List.size_toArray, List.length_map, hl]; exact hz))
    exact wpAny_pure ⟨⟨_, Heap.get?_push_size _ rfl, rfl⟩, hQ s' H' ts I' gr hl hm⟩
  refine callType_codes (Q₁ := fun obj s₁ => s₁.TypeIs obj "tuple" ∧ Q obj s₁) F.called_tuple (F.typeCall_tuple_1 _) F.entry_object_init code fun obj s₁ h₁ => ?_
  exact ⟨h₁.1, F.args_object_init_2 obj _, object_init_meets F.called_tuple.init.lookup F.called_tuple.made (by decide) X.prog X.w A.in1 _ s₁ ⟨h₁.1, rfl, h₁.2⟩⟩
end
def tTupZip (K : PySem.W.Frag) (ta : TA) : TE := fun σ H Q => ta σ H fun vs H1 => ∃ a b xs ys, vs = [.ref a, .ref b] ∧ SqL K H1 a xs ∧ SqL K H1 b ys ∧
  ∀ H2 ts q, Grown H1 H2 → ts.length = min xs.length ys.length → Made xs ys H2 ts → H2 q = none → Q (.ref q) (upd H2 q (.tup (ts.map V.ref)))
theorem vals_refs : ∀ ts : List Addr, Vals (ts.map V.ref) (ts.map Value.ref)
  | [] => .nil
  | _ :: ts => .cons rfl (vals_refs ts)
section
variable {X : Cx} {C : Ex → Addr} {W : WX} {e e2 : Expr} {ta tb : DTE} {p p2 pos pos2 : Pos}
theorem pe_tupZip {t : TA} (hc : X.calm = true) (hg : Gl X "tuple") (hm : X.mg "tuple" = none) (hg2 : Gl X "zip") (hm2 : X.mg "zip" = none) (ha : PA X [e, e2] t)
    (hs : starEach [e, e2] X.env = (false, eval e X.env) :: starEach [e2] X.env) (hpl : (backTo pos2 (starEach [e2] X.env)).any (·.1) = false)
    (hs2 : starEach [.Call (.Name "zip" p2) [e, e2] [] pos2] X.env = (false, eval (.Call (.Name "zip" p2) [e, e2] [] pos2) X.env) :: starEach [] X.env) :
    PE X (.Call (.Name "tuple" p) [.Call (.Name "zip" p2) [e, e2] [] pos2] [] pos) (tTupZip X.K t) := by
  refine ⟨fun pins s σ H Q I h => ?_⟩
  refine Call_ (ld_blt I hg hm boot_tuple (PyProof.Rows.callWith_type1 (args_cons (Call_ (ld_blt I hg2 hm2 PyProof.Rows.boot_zip (PyProof.Rows.callWith_type1 (thn (ha.run pos2 pins s σ H _ I h) fun us s1 ⟨vs, H1, I1, r1, q1⟩ => ?_) hs hpl))) hs2) hs2 rfl))
  obtain ⟨a, b, xs, ys, ex, hqx, hqy, q⟩ := q1
  subst ex
  cases r1 with
  | cons r rr =>
    cases rr with
    | cons r' rr =>
      cases rr
      cases r
      cases r'
      obtain ⟨its, rv, p1, hz1⟩ := I1.list hqx
      obtain ⟨its2, rv2, p2, _⟩ := I1.list hqy
      have l1 := rv.length
      have l2 := rv2.length
      have fresh5 : ∀ c, c ∈ [s1.heap.objs.size + 4, s1.heap.objs.size + 2, s1.heap.objs.size + 3, s1.heap.objs.size, s1.heap.objs.size + 1] → FpOk X pins H1 c := fun c hcm => by
        have e' : c = s1.heap.objs.size + 4 ∨ c = s1.heap.objs.size + 2 ∨ c = s1.heap.objs.size + 3 ∨ c = s1.heap.objs.size ∨ c = s1.heap.objs.size + 1 := by simpa using hcm
        have hle : s1.heap.objs.size ≤ c := by omega
        exact I1.fpOk hle (I1.hok.fresh hle)
      refine call_zip_2 p1.isList p2.isList fun h' hz hTI hTO h1 h2 hsz hk => args_nil ?_
      have I2 : Inv X pins σ H1 { s1 with heap := h' } := I1.kept (t' := s1.toks) hk
      have hla := p1.lt
      have hlb := p2.lt
      refine call_tuple_zip (s := { s1 with heap := h' }) (X := X) (pins := pins) (σ := σ) (H := H1) (n := min its.length its2.length) (PySem.W.ktu_apart s1.heap.objs.size a b p1.lt p2.lt) rv rv2 rfl (by omega) (I1.ok.hd hc) I2 fresh5 (fun c hcm => ?_)
        ⟨hTI, h1, h2, p1.isList.at fun o e => hk _ o e, p2.isList.at fun o e => hk _ o e, hz, _, _, hTO⟩ fun s' H' ts I' gr hl hm' => ?_
      · simp only [List.mem_cons, List.not_mem_nil, or_false] at hcm
        show c < h'.objs.size
        rw [hsz]
        rcases hcm with h | h | h | h | h | h | h
        · rw [h]; exact Nat.lt_succ_self _
        · rw [h]; exact Nat.add_lt_add_left (by decide) _
        · rw [h]; exact Nat.add_lt_add_left (by decide) _
        · rw [h]; exact Nat.lt_add_of_pos_right (by decide)
        · rw [h]; exact Nat.add_lt_add_left (by decide) _
        · rw [h]; exact Nat.lt_of_lt_of_le hla (Nat.le_add_right _ _)
        · rw [h]; exact Nat.lt_of_lt_of_le hlb (Nat.le_add_right _ _)
      · have hfr := I'.hok.fresh (Nat.le_refl s'.heap.objs.size)
        refine ⟨.ref _, _, I'.laid (t' := s'.toks) (o := .tup (ts.map V.ref)) (fun b ob q => Heap.get?_push_of_some _ q) (Nat.le_refl _) ?_, rfl, q H' ts _ gr (by omega) hm' hfr⟩
        exact ⟨by rw [List.length_map, hl]; omega, _, vals_refs ts, ⟨_, Heap.get?_push_size _ rfl, rfl, _, rfl⟩⟩
def dTupZ : D → D → G → QD → Prop
  | .ref a, .ref b => fun g Q => match g a, g b with | some xs, some ys => Q (.tup (zipD xs ys)) g | _, _ => False
  | _, _ => fun _ _ => False
theorem made_rep {K : PySem.W.Frag} {H H2 : Hp} {ds es : List D} {xs ys : List V} (k : TK H H2) (r : RepL K H ds xs) (r2 : RepL K H es ys) : ∀ {ts : List Addr}, ts.length = min xs.length ys.length → Made xs ys H2 ts → RepL K H2 (zipD ds es) (ts.map V.ref) := by
  intro ts
  induction ts generalizing ds es xs ys with
  | nil =>
    intro hl _
    have e : ds = [] ∨ es = [] := by
      have := r.length
      have := r2.length
      simp only [List.length_nil] at hl
      rcases Nat.eq_zero_or_pos ds.length with h | h
      · exact .inl (List.length_eq_zero_iff.mp h)
      · exact .inr (List.length_eq_zero_iff.mp (by omega))
    rcases e with rfl | rfl
    · rfl
    · cases ds <;> rfl
  | cons T ts ih =>
    intro hl hm
    obtain ⟨x, y, hx, hy, hT⟩ := hm 0 T rfl
    cases xs with
    | nil => cases hx
    | cons x' xs =>
      cases ys with
      | nil => cases hy
      | cons y' ys =>
        simp only [List.getElem?_cons_zero, Option.some.injEq] at hx hy
        subst hx hy
        cases ds with
        | nil => cases (show _ = [] from r)
        | cons d ds =>
          cases es with
          | nil => cases (show _ = [] from r2)
          | cons e es =>
            obtain ⟨v, q, e1, h1, t1⟩ := r
            obtain ⟨v2, q2, e2, h2, t2⟩ := r2
            cases e1
            cases e2
            refine ⟨.ref T, ts.map V.ref, rfl, ⟨T, [x', y'], rfl, .inl hT, ⟨x', [y'], rfl, h1.keep k, ⟨y', [], rfl, h2.keep k, rfl⟩⟩⟩, ih t1 t2 (by simp only [List.length_cons] at hl; omega) fun j U e => ?_⟩
            obtain ⟨x, y, a1, a2, a3⟩ := hm (j + 1) U (by simpa using e)
            exact ⟨x, y, by simpa using a1, by simpa using a2, a3⟩
theorem d_tupZ (hc : X.calm = true) (hg : Gl X "tuple") (hm : X.mg "tuple" = none) (hg2 : Gl X "zip") (hm2 : X.mg "zip" = none) (ha : PE X e (up X.K C W ta)) (hb : PE X e2 (up X.K C W tb))
    (hs : starEach [e, e2] X.env = (false, eval e X.env) :: starEach [e2] X.env) (hs3 : starEach [e2] X.env = [(false, eval e2 X.env)]) (hpl : (backTo pos2 (starEach [e2] X.env)).any (·.1) = false)
    (hs2 : starEach [.Call (.Name "zip" p2) [e, e2] [] pos2] X.env = (false, eval (.Call (.Name "zip" p2) [e, e2] [] pos2) X.env) :: starEach [] X.env) :
    PE X (.Call (.Name "tuple" p) [.Call (.Name "zip" p2) [e, e2] [] pos2] [] pos) (up X.K C W (dBin dTupZ ta tb)) := by
  refine pe_imp (pe_tupZip hc hg hm hg2 hm2 (pa_cons ha (pa_cons hb pa_nil hs3) hs) hs hpl hs2) fun σ H Q ⟨env, g, Xd, Qd, re, rg, t, cl, cx⟩ => ?_
  refine ⟨env, g, Xd, _, re, rg, t, fun d g1 v H1 q k r rv => ?_, cx⟩
  refine ⟨env, g1, Xd, _, re.keep k, r, q, fun d2 g2 v2 H2 q2 k2 r2 rv2 => ?_, cx.at k⟩
  dsimp only at q2
  unfold dTupZ at q2
  have kk := k.trans k2
  split at q2
  · cases (show v = .ref _ from rv)
    cases (show v2 = .ref _ from rv2)
    split at q2
    · rename_i xs ys e1 e2
      obtain ⟨vs, h1, l1⟩ := r2 _ xs e1
      obtain ⟨ws, h2, l2⟩ := r2 _ ys e2
      refine ⟨_, _, vs, ws, rfl, .of h1, .of h2, fun H3 ts q gr hl hm hq => ?_⟩
      have k3 := gr.tk
      exact cl _ _ _ _ q2 ((kk.trans k3).trans (.new hq)) ((gr.rep r2).tup hq) ⟨q, ts.map V.ref, rfl, .inl upd_same, (made_rep k3 l1 l2 hl hm).keep (.new hq)⟩
    · exact q2.elim
  · exact q2.elim
end
def dEmp : DTE := fun _ _ g Q => Q .emp g
section
variable {X : Cx} {C : Ex → Addr} {W : WX} {pos : Pos}
theorem pe_dnewF : PE X (.Dict [] [] pos) (fun _ H Q => ∀ p o, H p = none → Q (.ref p) (upd H p (.frz o (.dK [])))) := ⟨fun pins s σ H Q I h =>
  wpAny_Dict_empty ⟨.ref s.heap.objs.size, _, I.laid (a := s.heap.objs.size) (o := .frz { cls := .type "dict", data := .dict #[] } (.dK [])) (t' := s.toks) (fun _ _ q => Heap.get?_push_of_some _ q) (Nat.le_refl _) ⟨Heap.get?_push_size _ rfl, dk_empty s.heap I.big⟩, rfl, h _ _ (I.hok.fresh (Nat.le_refl _))⟩⟩
theorem d_dic : PE X (.Dict [] [] pos) (up X.K C W dEmp) := pe_imp pe_dnewF fun σ H Q ⟨env, g, Xd, Qd, re, rg, q, cl, cx⟩ p o hp => cl _ _ _ _ q (TK.new hp) (rg.tup hp) ⟨p, o, rfl, upd_same⟩
end
end PP
set_option maxHeartbeats 2000000
namespace PP
open PySem PySem.Spec PyProof.Rows L2
theorem pick_one (items : Array Value) : slicePick items none none (some 1) = items := by
  exact (show slicePick items none none (some 1) = slicePick items none none none from rfl).trans (slicePick_all items)
section
variable {X : Cx} {C : Ex → Addr} {W : WX}
def tStep (K : PySem.W.Frag) (te ts : TE) : TE := fun σ H Q => te σ H fun x H1 => ts σ H1 fun z H2 => ∃ i, z = .int i ∧ ∃ a xs, x = .ref a ∧ SqL K H2 a xs ∧ ((i = 1 ∧ ∀ p, H2 p = none → Q (.ref p) (upd H2 p (.lst xs))) ∨ (i = -1 ∧ ∀ p, H2 p = none → Q (.ref p) (upd H2 p (.lst xs.reverse))))
theorem pe_step {e es : Expr} {te ts : TE} {p3 pos : Pos} (he : PE X e te) (hs : PE X es ts) : PE X (.Subscript e (.Slice none none (some es) p3) pos) (tStep X.K te ts) := by
  refine ⟨fun pins s σ H Q I h => ?_⟩
  refine Subscript_ (thn (he.run pins s σ H _ I h) fun v s1 ⟨x, H1, I1, r1, q1⟩ => ?_)
  refine wpAny_Slice (thn (po_none.run pins s1 σ H1 (fun o H2 => o = none ∧ H2 = H1) I1 ⟨rfl, rfl⟩) fun vl s2 ⟨l, H2, I2, pl, el, e2⟩ => ?_)
  subst el e2
  refine thn (po_none.run pins s2 σ H2 (fun o H3 => o = none ∧ H3 = H2) I2 ⟨rfl, rfl⟩) fun vu s3 ⟨u, H3, I3, pu, eu, e3⟩ => ?_
  subst eu e3
  have hst : PO X (some es) (tPart ts) := po_some hs
  refine thn (hst.run pins s3 σ H3 (fun o H2 => ∃ i, o = some i ∧ ∃ a xs, x = .ref a ∧ SqL X.K H2 a xs ∧ ((i = 1 ∧ ∀ p, H2 p = none → Q (.ref p) (upd H2 p (.lst xs))) ∨ (i = -1 ∧ ∀ p, H2 p = none → Q (.ref p) (upd H2 p (.lst xs.reverse))))) I3 ?_) fun vs s4 ⟨o, H4, I4, ps, i, eo, a, xs, ex, hx, q⟩ => ?_
  · exact (show ts σ H3 _ from by simpa only [Option.some.injEq, exists_eq_left'] using q1)
  subst eo ex
  cases r1
  have I5 : Inv X pins σ H4 { s4 with heap := s4.heap.push { cls := .type "slice", data := .fields #[vl, vu, vs] } } := I4.kept (t' := s4.toks) fun b ob q => Heap.get?_push_of_some _ q
  obtain ⟨its, r, ht, hz⟩ := I5.list hx
  have hlen := r.length
  have hi0 : some i ≠ some (0 : Int) := by
    rcases q with ⟨rfl, _⟩ | ⟨rfl, _⟩ <;> decide
  show wpAny (model X.prog X.w) X.A (subscriptTail e (.Slice none none (some es) p3) (.ref a) (.ref s4.heap.objs.size)) (EP X pins σ Q) X.xe { s4 with heap := s4.heap.push { cls := .type "slice", data := .fields #[vl, vu, vs] } }
  refine tail_any (ops := [.ref a, .ref s4.heap.objs.size]) ht.isList.typeIs (PySem.slot_list_getitem.lookup) ?_ (by with_unfolding_all rfl)
  refine wpAny_getItem_list_slice ht.isList (Heap.IsSliceOf.new _ vl vu vs) pl pu ps hi0 ?_ (by rw [List.size_toArray]; omega)
  rcases q with ⟨rfl, q⟩ | ⟨rfl, q⟩
  · rw [pick_one]
    refine ⟨.ref _, _, I5.laid (t' := s4.toks) (o := .lst xs) (fun b ob q => Heap.get?_push_of_some _ q) (Nat.le_refl _) ?_, rfl, q _ (I5.hok.fresh (Nat.le_refl _))⟩
    exact ⟨hz, _, 0, r, Heap.get?_push_size _ rfl⟩
  · rw [PySem.W.krv_pick]
    refine ⟨.ref _, _, I5.laid (t' := s4.toks) (o := .lst xs.reverse) (fun b ob q => Heap.get?_push_of_some _ q) (Nat.le_refl _) ?_, rfl, q _ (I5.hok.fresh (Nat.le_refl _))⟩
    exact ⟨by rw [List.length_reverse]; exact hz, _, 0, r.reverse, Heap.get?_push_size _ rfl⟩
def dStp (te ts : DTE) : DTE := fun X env g Q => te X env g fun d g1 => ts X env g1 fun z g2 => match d, z with
  | .ref a, .int i => (match g2 a with | some xs => (i = 1 ∨ i = -1) ∧ ∀ p, g2 p = none → Q (.ref p) (g2.up p (if i = 1 then xs else xs.reverse)) | none => False)
  | _, _ => False
theorem d_stp {e es : Expr} {ta tb : DTE} {p3 pos : Pos} (ha : PE X e (up X.K C W ta)) (hb : PE X es (up X.K C W tb)) : PE X (.Subscript e (.Slice none none (some es) p3) pos) (up X.K C W (dStp ta tb)) := by
  refine pe_imp (pe_step ha hb) fun σ H Q ⟨env, g, Xd, Qd, re, rg, t, cl, cx⟩ => ?_
  refine ⟨env, g, Xd, _, re, rg, t, fun d g1 v H1 q k r rv => ?_, cx⟩
  refine ⟨env, g1, Xd, _, re.keep k, r, q, fun z g2 u H2 q2 k2 r2 ru => ?_, cx.at k⟩
  dsimp only at q2
  split at q2
  · rename_i a i
    have hv : v = .ref a := rv
    have hu : u = .int i := ru
    split at q2
    · rename_i xs e
      obtain ⟨vs, hvs, rl⟩ := r2 a _ e
      obtain ⟨hi, q2⟩ := q2
      refine ⟨i, hu, a, vs, hv, .inl (.inl hvs), ?_⟩
      rcases hi with rfl | rfl
      · refine .inl ⟨rfl, fun p hp => ?_⟩
        have q3 := q2 p (r2.none hp)
        rw [if_pos rfl] at q3
        exact cl _ _ _ _ q3 ((k.trans k2).trans (.new hp)) (r2.new hp rl) rfl
      · refine .inr ⟨rfl, fun p hp => ?_⟩
        have q3 := q2 p (r2.none hp)
        rw [if_neg (by decide)] at q3
        exact cl _ _ _ _ q3 ((k.trans k2).trans (.new hp)) (r2.new hp rl.rev) rfl
    · exact q2.elim
  · exact q2.elim
end
end PP
set_option maxHeartbeats 2000000
namespace PP
open PySem PySem.Spec PyProof.Rows L2
structure Fro (A : Around) (H : Hp) (a : Addr) : Prop where
  hd : A.handled = some (.ref a)
  ex : ∃ (oe : Obj) (vs : Array Value), H a = some (.frz oe excU) ∧ oe.data = .fields vs ∧ vs[2]? = some .none
def HotF (X : Cx) : Prop := ∃ a, Fro X.A X.H_0 a
section
variable {X : Cx} {pins : List (Addr × Obj)} {σ : L2.St} {H : Hp} {s : Shared}
theorem Fro.at {a : Addr} (f : Fro X.A H a) (I : Inv X pins σ H s) : HotX.HotAt X.A a s.heap := by
  obtain ⟨oe, vs, e, d, c⟩ := f.ex
  exact ⟨f.hd, oe, vs, (I.hok a _ e).1, d, c⟩
theorem Fro.ne {a b : Addr} {A : Around} (f : Fro A H a) (h : H b = none) : a ≠ b := fun z => by
  obtain ⟨oe, vs, e, _⟩ := f.ex
  rw [z, h] at e
  cases e
end
section
variable {X : Cx} {C : Ex → Addr} {W : WX} {tg e : Expr}
def dOverL : D → G → (List D → (G → Prop) → G → Prop) → Prop
  | .ref a => fun g R => match g a with | some xs => R xs (fun g' => g' a = some xs) g | none => False
  | _ => fun _ _ => False
def dILst (te : DTE) : DTI := fun X env g R => te X env g fun d g1 => dOverL d g1 R
theorem d_iLst {ta : DTE} (h : PE X e (up X.K C W ta)) : PI X tg e (upI X.K C W (dILst ta)) := by
  refine pi_imp (pi_any h) fun σ H R ⟨env, g, Xd, Rd, re, rg, t, cl, cx⟩ => ?_
  refine ⟨env, g, Xd, _, re, rg, t, fun d g1 v H1 q k r rv => ?_, cx⟩
  dsimp only at q
  unfold dOverL at q
  split at q
  · split at q
    · rename_i xs e
      obtain ⟨vs, hh, l⟩ := r _ xs e
      exact .inl ⟨_, vs, rv, .of hh, cl _ _ _ _ _ q k r itl_ok⟩
    · exact q.elim
  · exact q.elim
end
structure FnHF (P : Program) (w : World) (K : PySem.W.Frag) (mg : Str → Option Value) (base : Heap) (k : Nat) (f : Addr) (fd : FuncData) (ps : List Str) (sp : Sp) : Prop where
  len : ∀ vs H Q E, sp vs H Q E → vs.length = ps.length
  run : ∀ (A : Around) (outer : List PySem.Env) (s : Shared) (H : Hp) (args : Args) (us : List Value) (vs : List V) (Q : VK) (a : Addr), L2H.RoomH k A → Fro A H a → Env0 P w K mg base A outer s H → BindsTo s fd args (ps.zip us) → Vals vs us → sp vs H Q (fun _ _ _ => False) →
    codeAny (model P w) A (.call (.ref f) args) (CR (L2N.CX P w) outer P w H s Q (fun _ _ _ => False)) s
section
variable {X : Cx} {k : Nat} {f : Addr} {fd : FuncData} {ps : List Str} {sp : Sp} {x : Str} {q pos : Pos} {e : Expr} {es : List Expr} {t : TA}
theorem peF_call (F : FnHF X.prog X.w X.K X.mg X.base k f fd ps sp) (hr : L2H.RoomH k X.A) (hg : Gl X x) (hm : X.mg x = some (.ref f)) (hk : PySem.W.keepIn X.K (.ref f) = true) (hb : Binds X.K fd ps []) (ha : PA X (e :: es) t)
    (hdb : (x == ("__debug__" : Str)) = false) (he : starEach (e :: es) X.env = (false, eval e X.env) :: starEach es X.env) (hpl : (backTo pos (starEach es X.env)).any (·.1) = false) :
    PE X (.Call (.Name x q) (e :: es) [] pos) (fun σ H Q => t σ H fun vs H1 => (∃ a, Fro X.A H1 a) ∧ sp vs H1 Q fun _ _ _ => False) := ⟨fun pins s σ H Q I h => by
  refine wpAny_Call_Name_kw (ld_glob I hg hm ?_ hdb)
  refine PySem.W.callWith_K (h₀ := X.base) I.ok.mod.kin hk (thn (ha.run pos pins s σ H _ I h) fun us s1 ⟨vs, H1, I1, r, ⟨a, fr⟩, q1⟩ => ⟨I1.kIn, ?_⟩) he hpl
  have hl : us.length = ps.length := by rw [← r.length]; exact F.len _ _ _ _ q1
  have b := hb s1 us I1.kIn (by rw [List.append_nil]; exact hl)
  rw [List.append_nil] at b
  refine wpAny_call (codeAny_mono (F.run X.A X.stack s1 H1 ⟨us, []⟩ us vs Q a hr fr I1.env0 b r q1) fun r s' hq => ?_)
  cases r with
  | error e =>
    obtain ⟨_, _, _, _, _, _, _, _, _, _, _, _, z⟩ := hq
    exact z.elim
  | ok fl =>
    cases fl with
    | ret u => exact I1.after hq
    | next => exact hq.elim
    | brk => exact hq.elim
    | cont => exact hq.elim⟩
end
end PP
namespace PP
open PySem PySem.Spec PyProof.Rows L2
inductive Op where
  | add | sub | mul | fdiv | mod | pow
def Op.rd : Op → D → D → G → QD → Prop
  | .add => dAdd
  | .sub => dSub
  | .mul => dMul
  | .fdiv => dFdiv
  | .mod => dMod
  | .pow => dPow
def Op.py : Op → Operator
  | .add => .Add
  | .sub => .Sub
  | .mul => .Mult
  | .fdiv => .FloorDiv
  | .mod => .Mod
  | .pow => .Pow
inductive Cm where
  | eq | ne | lt | le | gt | ge | is_ | isn | in_ | nin
def Cm.rd : Cm → D → D → G → QD → Prop
  | .eq => dEqB false
  | .ne => dEqB true
  | .lt => dLt
  | .le => dLe
  | .gt => dGt
  | .ge => dGe
  | .is_ => dIsN false
  | .isn => dIsN true
  | .in_ => dIn false
  | .nin => dIn true
def Cm.py : Cm → CmpOp
  | .eq => .Eq
  | .ne => .NotEq
  | .lt => .Lt
  | .le => .LtE
  | .gt => .Gt
  | .ge => .GtE
  | .is_ => .Is
  | .isn => .IsNot
  | .in_ => .In
  | .nin => .NotIn
inductive Bl where
  | len | abs | max | min | int | str | sum | all | list | tuple
def Bl.rd : Bl → List D → G → QD → Prop
  | .len => dLen
  | .abs => dAbs
  | .max => dMax
  | .min => dMin
  | .int => dInt
  | .str => dStr
  | .sum => dSum
  | .all => dAll
  | .list => dList
  | .tuple => dTuple
def Bl.nm : Bl → String
  | .len => "len"
  | .abs => "abs"
  | .max => "max"
  | .min => "min"
  | .int => "int"
  | .str => "str"
  | .sum => "sum"
  | .all => "all"
  | .list => "list"
  | .tuple => "tuple"
inductive Mt where
  | append | pop | popAt | extend | clear | reverse | insert | index | split | join
def Mt.rd : Mt → D → List D → G → QD → Prop
  | .append => mAppend
  | .pop => mPop
  | .popAt => mPopAt
  | .extend => mExtend
  | .clear => mClear
  | .reverse => mReverse
  | .insert => mInsert
  | .index => mIndex
  | .split => mSplit
  | .join => mJoin
def Mt.nm : Mt → String
  | .append => "append"
  | .pop => "pop"
  | .popAt => "pop"
  | .extend => "extend"
  | .clear => "clear"
  | .reverse => "reverse"
  | .insert => "insert"
  | .index => "index"
  | .split => "split"
  | .join => "join"
def Mt.rc : Mt → Rc
  | .split => .str
  | .join => .str
  | _ => .list
def Mt.none : Mt → Bool
  | .pop => true
  | .clear => true
  | .reverse => true
  | _ => false
def dLset (t : DTE) : DTE := fun X env g Q => t X env g fun d g1 => match d with
  | .ref a => (match g1 a with
    | some xs => xs.length < 64 ∧ ∃ kss : List (List Int), xs = kss.map (fun k => D.tup (k.map D.int)) ∧ ∀ L : List (List Int), L.Nodup → (∀ k ∈ L, k ∈ kss) → (∀ k ∈ kss, k ∈ L) → Q (.int (L.length : Nat)) g1
    | none => False)
  | _ => False
def dSrev (t : DTE) : DTE := fun X env g Q => t X env g fun d g1 => match d with
  | .ref a => (match g1 a with
    | some xs => ∀ p, g1 p = none → Q (.ref p) (g1.up p xs.reverse)
    | none => False)
  | .tup xs => Q (.tup xs.reverse) g1
  | _ => False
inductive PX where
  | v (i : Nat) | int (i : Int) | bl (b : Bool) | non | str (s : String) | glo (k : Nat)
  | bin (o : Op) (a b : PX) | cmp (o : Cm) (a b : PX) | chain (o p : Cm) (a b c : PX)
  | not (a : PX) | neg (a : PX) | and (a b : PX) | or (a b : PX)
  | ix (a b : PX) | slc (a lo hi : PX)
  | tup (as : PX) | lst (as : PX) | nil | cons (a r : PX)
  | call (f : Nat) (as : PX) | blt (b : Bl) (as : PX) | mt (m : Mt) (o as : PX)
  | isi (ts : List Ty) (a : PX)
  | comp (own : List Nat) (tg : TgD) (it tst e : PX)
  | over (a : PX) | range1 (a : PX) | range2 (a b : PX) | rev (a : PX) | zip (a b : PX) | enum (a : PX) | zip3 (a b d : PX)
  | yes | hole | lset (a : PX) | srev (a : PX)
  | isx (ts : List (Option Ex)) (a : PX) | tupz (a b : PX) | overL (a : PX) | dic | stp (a b : PX)
structure Mn where
  e : DTE := fun _ _ _ _ => False
  t : DTT := fun _ _ _ _ => False
  a : DTA := fun _ _ _ _ => False
  i : DTI := fun _ _ _ _ => False
  o : DTO := fun _ _ _ _ => False
def Mn.of (e : DTE) : Mn := { e := e, t := dTst e, o := dPart e, i := dIAny e }
def mn (Γ : Nat → SpD) (gl : Nat → D) : PX → Mn
  | .v i => .of (dVar i)
  | .int i => .of (dC (.int i))
  | .bl b => .of (dC (.bl b))
  | .non => .of (dC .non)
  | .str s => .of (dC (.str s))
  | .glo k => .of (dC (gl k))
  | .bin o a b => .of (dBin o.rd (mn Γ gl a).e (mn Γ gl b).e)
  | .cmp o a b => .of (dBin o.rd (mn Γ gl a).e (mn Γ gl b).e)
  | .chain o p a b c => .of (dChain o.rd p.rd (mn Γ gl a).e (mn Γ gl b).e (mn Γ gl c).e)
  | .not a => { Mn.of (dNot (mn Γ gl a).e) with t := dNotT (mn Γ gl a).t }
  | .neg a => .of (dUn dNeg (mn Γ gl a).e)
  | .and a b => { Mn.of (dAnd (mn Γ gl a).e (mn Γ gl b).e) with t := dAndT (mn Γ gl a).t (mn Γ gl b).t }
  | .or a b => { Mn.of (dOr (mn Γ gl a).e (mn Γ gl b).e) with t := dOrT (mn Γ gl a).t (mn Γ gl b).t }
  | .ix a b => .of (dBin dIx (mn Γ gl a).e (mn Γ gl b).e)
  | .slc a lo hi => .of (dSlc (mn Γ gl a).e (mn Γ gl lo).o (mn Γ gl hi).o)
  | .tup as => .of (dTup (mn Γ gl as).a)
  | .lst as => .of (dLst (mn Γ gl as).a)
  | .nil => { a := dNil }
  | .cons a r => { a := dCons (mn Γ gl a).e (mn Γ gl r).a }
  | .call f as => .of (dCall (Γ f) (mn Γ gl as).a)
  | .blt b as => .of (dCB b.rd (mn Γ gl as).a)
  | .mt m o as => .of (dMt m.rc m.rd (mn Γ gl o).e (mn Γ gl as).a)
  | .isi ts a => .of (dUn (dIsi ts) (mn Γ gl a).e)
  | .comp own tg it tst e => .of (dComp (mn Γ gl it).i tg own (mn Γ gl tst).t (mn Γ gl e).e)
  | .over a => { i := dIAny (mn Γ gl a).e }
  | .range1 a => { i := dI1 dRange1 (mn Γ gl a).e }
  | .range2 a b => { i := dI2 dRange2 (mn Γ gl a).e (mn Γ gl b).e }
  | .rev a => { i := dI1 dRev (mn Γ gl a).e }
  | .zip a b => { i := dI2 dZip (mn Γ gl a).e (mn Γ gl b).e }
  | .enum a => { i := dI1 dEnum (mn Γ gl a).e }
  | .zip3 a b d => { i := dI3 dZip3 (mn Γ gl a).e (mn Γ gl b).e (mn Γ gl d).e }
  | .yes => { t := dYes }
  | .hole => { o := dNoPart }
  | .lset a => .of (dLset (mn Γ gl a).e)
  | .srev a => .of (dSrev (mn Γ gl a).e)
  | .isx ts a => .of (dUn (dIsx ts) (mn Γ gl a).e)
  | .tupz a b => .of (dBin dTupZ (mn Γ gl a).e (mn Γ gl b).e)
  | .overL a => { i := dILst (mn Γ gl a).e }
  | .dic => .of dEmp
  | .stp a b => .of (dStp (mn Γ gl a).e (mn Γ gl b).e)
structure Ck where
  N : List Str
  sc : Scope
  fn : Str → Bool
  fns : List (Nat × Str)
  gls : List (Nat × Str)
  exs : List Ex
  hot : List (Nat × Str) := []
def Ck.vis (c : Ck) (x : Str) : Bool := (match c.sc.names.lookup x with | some .local => true | some .cell => true | some .free => true | _ => false) && !(x == ("__debug__" : Str)) && !(x == ("__classdict__" : Str))
def Ck.gl (c : Ck) (x : Str) : Bool := (match c.sc.names.lookup x with | some .globalImplicit => true | _ => false) && !(x == ("__debug__" : Str))
def Ck.tgt (c : Ck) (i : Nat) (x : Str) : Bool := decide (c.N[i]? = some x) && ((match c.sc.names.lookup x with | some .local => true | some .cell => c.fn x | _ => false))
def Ck.loc (c : Ck) (x : Str) : Bool := match c.sc.names.lookup x with | some .local => true | _ => false
def Ck.blk (c : Ck) (scope : Scope) : Ck := { c with sc := relS scope c.sc, fn := fun x => scope.names.lookup x == some .cell }
def noStar : Expr → Bool
  | .Starred _ _ => false
  | _ => true
def noSet : Expr → Bool
  | .Set _ _ _ => false
  | _ => true
def noComp : Expr → Bool
  | .ListComp _ _ _ _ => false
  | .SetComp _ _ _ _ => false
  | .DictComp _ _ _ _ _ => false
  | _ => true
def recOk : Expr → Bool
  | .Name _ _ => true
  | .Constant _ _ _ => true
  | .Subscript _ _ _ => true
  | _ => false
def tstOk : Expr → Bool
  | .Name _ _ => true
  | .Call _ _ _ _ => true
  | .Subscript _ _ _ => true
  | .Constant _ _ _ => true
  | _ => false
def tyNames : List Ty → List Expr → Bool
  | [], [] => true
  | t :: ts, .Name x _ :: es => decide (x = Str.ofString t.nm) && tyNames ts es
  | _, _ => false
def xOk (c : Ck) : Option Ex → Bool
  | none => true
  | some m => c.exs.contains m
def xNames (c : Ck) : List (Option Ex) → List Expr → Bool
  | [], [] => true
  | t :: ts, .Name x _ :: es => decide (x = Str.ofString (xnm t)) && c.gl x && xOk c t && xNames c ts es
  | _, _ => false
def tgtsOk (c : Ck) : List Nat → List Expr → Bool
  | [], [] => true
  | i :: is, .Name x _ :: es => c.tgt i x && tgtsOk c is es
  | _, _ => false
def tgOk (c : Ck) : TgD → Expr → Bool
  | .n i, .Name x _ => c.tgt i x
  | .t is, .Tuple es _ _ => tgtsOk c is es
  | _, _ => false
def isTupE : Expr → Bool
  | .Tuple _ _ _ => true
  | _ => false
def bltNames : List String := ["len", "abs", "max", "min", "int", "str", "sum", "all", "list", "tuple", "isinstance", "range", "reversed", "zip", "enumerate", "bool", "set", "ValueError"]
structure Kn where
  e : Ck → Expr → Bool := fun _ _ => false
  t : Ck → Expr → Bool := fun _ _ => false
  w : Ck → BoolOp → List Expr → Bool := fun _ _ _ => false
  ve : Ck → BoolOp → List Expr → Bool := fun _ _ _ => false
  a : Ck → List Expr → Bool := fun _ _ => false
  i : Ck → Expr → Expr → Bool := fun _ _ _ => false
  o : Ck → Option Expr → Bool := fun _ _ => false
def one (k : Expr → Bool) : List Expr → Bool
  | [e] => k e
  | _ => false
def opt (k : Expr → Bool) : Option Expr → Bool
  | some e => k e
  | none => false
def two (k : Expr → Bool) (l : List Expr → Bool) : List Expr → Bool
  | x :: y :: r => k x && l (y :: r)
  | _ => false
def bop (o : BoolOp) (l : List Expr → Bool) : Expr → Bool
  | .BoolOp op es _ => decide (op = o) && l es
  | _ => false
def uop (o : UnaryOp) (k : Expr → Bool) : Expr → Bool
  | .UnaryOp op x _ => decide (op = o) && k x
  | _ => false
def cmpK (o : Cm) (ka kb : Expr → Bool) : Expr → Bool
  | .Compare x [op] [y] _ => decide (op = o.py) && !behindInMarks op y && ka x && kb y
  | _ => false
def chainK (o p : Cm) (ka kb kd : Expr → Bool) : Expr → Bool
  | .Compare x [op, op'] [y, z] _ => decide (op = o.py) && decide (op' = p.py) && !lastMarks [op, op'] [y, z] && ka x && kb y && kd z
  | _ => false
def Kn.of (k : Ck → Expr → Bool) : Kn where
  e := k
  t := fun c e => k c e && tstOk e
  w := fun c _ es => one (fun e => k c e && tstOk e) es
  ve := fun c _ es => one (k c) es
  o := fun c e => opt (k c) e
def kn : PX → Kn
  | .v i => .of fun c e => match e with | .Name x _ => c.vis x && decide (c.N[i]? = some x) | _ => false
  | .int i => .of fun c e => match e with | .Constant (.int j) _ _ => decide (i = j) | _ => false
  | .bl b => .of fun c e => match e with | .Constant (.bool j) _ _ => decide (b = j) | _ => false
  | .non => .of fun c e => match e with | .Constant .none _ _ => true | _ => false
  | .str s => .of fun c e => match e with | .Constant (.str z) _ _ => decide (z = Str.ofString s) | _ => false
  | .glo k => .of fun c e => match e with | .Name x _ => c.gl x && c.gls.contains (k, x) | _ => false
  | .bin o a b => .of fun c e => match e with | .BinOp x op y _ => decide (op = o.py) && (kn a).e c x && (kn b).e c y | _ => false
  | .cmp o a b =>
    { Kn.of (fun c => cmpK o ((kn a).e c) ((kn b).e c)) with
      t := fun c => cmpK o ((kn a).e c) ((kn b).e c)
      w := fun c _ es => one (cmpK o ((kn a).e c) ((kn b).e c)) es }
  | .chain o p a b d => { Kn.of (fun c => chainK o p ((kn a).e c) ((kn b).e c) ((kn d).e c)) with
      t := fun c => chainK o p ((kn a).e c) ((kn b).e c) ((kn d).e c)
      w := fun c _ es => one (chainK o p ((kn a).e c) ((kn b).e c) ((kn d).e c)) es }
  | .not a => { Kn.of (fun c => uop .Not ((kn a).e c)) with
      t := fun c => uop .Not ((kn a).t c)
      w := fun c _ es => one (uop .Not ((kn a).t c)) es }
  | .neg a => .of fun c => uop .USub ((kn a).e c)
  | .and a b => {
      e := fun c => bop .And (two ((kn a).e c) ((kn b).ve c .And)),
      t := fun c => bop .And (two ((kn a).t c) ((kn b).w c .And)),
      w := fun c op es => one (bop .And (two ((kn a).t c) ((kn b).w c .And))) es || (decide (op = .And) && two ((kn a).t c) ((kn b).w c .And) es),
      ve := fun c op es => one (bop .And (two ((kn a).e c) ((kn b).ve c .And))) es || (decide (op = .And) && two ((kn a).e c) ((kn b).ve c .And) es),
      o := fun c => opt (bop .And (two ((kn a).e c) ((kn b).ve c .And))) }
  | .or a b => {
      e := fun c => bop .Or (two ((kn a).e c) ((kn b).ve c .Or)),
      t := fun c => bop .Or (two ((kn a).t c) ((kn b).w c .Or)),
      w := fun c op es => one (bop .Or (two ((kn a).t c) ((kn b).w c .Or))) es || (decide (op = .Or) && two ((kn a).t c) ((kn b).w c .Or) es),
      ve := fun c op es => one (bop .Or (two ((kn a).e c) ((kn b).ve c .Or))) es || (decide (op = .Or) && two ((kn a).e c) ((kn b).ve c .Or) es),
      o := fun c => opt (bop .Or (two ((kn a).e c) ((kn b).ve c .Or))) }
  | .ix a b => .of fun c e => match e with | .Subscript x y _ => (match y with | .Slice _ _ _ _ => false | _ => true) && (kn a).e c x && (kn b).e c y | _ => false
  | .slc a lo hi => .of fun c e => match e with | .Subscript x (.Slice l h none _) _ => (kn a).e c x && (kn lo).o c l && (kn hi).o c h | _ => false
  | .tup as => .of fun c e => match e with | .Tuple es _ _ => (kn as).a c es | _ => false
  | .lst as => .of fun c e => match e with | .List es _ => (kn as).a c es | _ => false
  | .nil => { a := fun c es => match es with | [] => true | _ => false }
  | .cons a r => { a := fun c es => match es with | e :: es => noStar e && (kn a).e c e && (kn r).a c es | _ => false }
  | .call f as => .of fun c e => match e with
    | .Call (.Name x _) (e :: es) [] _ => c.gl x && decide (c.fns.lookup f = some x) && noStar e && es.all noStar && (kn as).a c (e :: es)
    | .Call (.Name x _) [] [] _ => c.gl x && decide (c.fns.lookup f = some x) && (match as with | .nil => true | _ => false)
    | _ => false
  | .blt b as => .of fun c e => match e with | .Call (.Name x _) (e :: es) [] _ => c.gl x && decide (x = Str.ofString b.nm) && noStar e && es.all noStar && (kn as).a c (e :: es) | _ => false
  | .mt m o as => .of fun c e => match e with
    | .Call (.Attribute x n ap) [] [] cp => m.none && decide (n = Str.ofString m.nm) && recOk x && (ap.endLine == cp.line) && (kn o).e c x && (match as with | .nil => true | _ => false)
    | .Call (.Attribute x n ap) (e :: es) [] cp => !m.none && decide (n = Str.ofString m.nm) && recOk x && (ap.endLine == cp.line) && noStar e && es.all noStar && decide ((e :: es).length < 29) && (kn o).e c x && (kn as).a c (e :: es)
    | _ => false
  | .isi ts a => .of fun c e => match e with
    | .Call (.Name x _) [e, .Name y _] [] _ => c.gl x && decide (x = Str.ofString "isinstance") && noStar e && c.gl y && (match ts with | [t] => decide (y = Str.ofString t.nm) | _ => false) && (kn a).e c e
    | .Call (.Name x _) [e, .Tuple es _ _] [] _ => c.gl x && decide (x = Str.ofString "isinstance") && noStar e && decide (ts.length < 20) && tyNames ts es && (ts.all fun t => c.gl (Str.ofString t.nm)) && (kn a).e c e
    | _ => false
  | .comp own tg it tst e => .of fun c x => match x with
    | .ListComp elt [⟨tgE, iter, ifs, 0⟩] scope _ => blkC c.N c.sc scope (own.map fun i => (c.N.getD i "", i)) && (tg.slots.all fun i => own.contains i) && tgOk (c.blk scope) tg tgE && noSet iter && (kn it).i c tgE iter && (kn e).e (c.blk scope) elt &&
      (match tst, ifs with | .yes, [] => true | .yes, _ => false | _, [y] => (kn tst).t (c.blk scope) y | _, _ => false)
    | _ => false
  | .over a => { i := fun c _ e => (kn a).e c e }
  | .overL a => { i := fun c _ e => (kn a).e c e }
  | .dic => .of fun c x => match x with | .Dict [] [] _ => true | _ => false
  | .stp a b => .of fun c e => match e with
    | .Subscript x (.Slice none none (some y) _) _ => (kn a).e c x && (kn b).e c y
    | _ => false
  | .range1 a => { i := fun c _ e => match e with | .Call (.Name x _) [y] [] _ => c.gl x && decide (x = Str.ofString "range") && noStar y && (kn a).e c y | _ => false }
  | .range2 a b => { i := fun c _ e => match e with | .Call (.Name x _) [y, z] [] _ => c.gl x && decide (x = Str.ofString "range") && noStar y && noStar z && (kn a).e c y && (kn b).e c z | _ => false }
  | .rev a => { i := fun c _ e => match e with | .Call (.Name x _) [y] [] _ => c.gl x && decide (x = Str.ofString "reversed") && noStar y && (kn a).e c y | _ => false }
  | .zip a b => { i := fun c tg e => match e with | .Call (.Name x _) [y, z] [] _ => isTupE tg && c.gl x && decide (x = Str.ofString "zip") && noStar y && noStar z && (kn a).e c y && (kn b).e c z | _ => false }
  | .enum a => { i := fun c tg e => match e with | .Call (.Name x _) [y] [] _ => isTupE tg && c.gl x && decide (x = Str.ofString "enumerate") && noStar y && (kn a).e c y | _ => false }
  | .zip3 a b d => { i := fun c tg e => match e with | .Call (.Name x _) [y, z, w] [] _ => isTupE tg && c.gl x && decide (x = Str.ofString "zip") && noStar y && noStar z && noStar w && (kn a).e c y && (kn b).e c z && (kn d).e c w | _ => false }
  | .yes => {}
  | .hole => { o := fun c e => e.isNone }
  | .lset a => .of fun c e => match e with
    | .Call (.Name x _) [.Call (.Name y _) [z] [] _] [] _ => c.gl x && decide (x = Str.ofString "len") && c.gl y && decide (y = Str.ofString "set") && noStar z && (kn a).e c z
    | _ => false
  | .srev a => .of fun c e => match e with
    | .Subscript x (.Slice none none (some (.UnaryOp .USub (.Constant (.int 1) _ _) _)) _) _ => (kn a).e c x
    | _ => false
  | .tupz a b => .of fun c e => match e with
    | .Call (.Name x _) [.Call (.Name y _) [z, w] [] _] [] _ => c.gl x && decide (x = Str.ofString "tuple") && c.gl y && decide (y = Str.ofString "zip") && noStar z && noStar w && (kn a).e c z && (kn b).e c w
    | _ => false
  | .isx ts a => .of fun c e => match e with
    | .Call (.Name x _) [e, .Name y _] [] _ => c.gl x && decide (x = Str.ofString "isinstance") && noStar e && (match ts with | [t] => decide (y = Str.ofString (xnm t)) && c.gl y && xOk c t | _ => false) && (kn a).e c e
    | .Call (.Name x _) [e, .Tuple es _ _] [] _ => c.gl x && decide (x = Str.ofString "isinstance") && noStar e && decide (ts.length < 20) && xNames c ts es && (kn a).e c e
    | _ => false
end PP
namespace PP
open PySem PySem.Spec PyProof.Rows L2
theorem takes0N {X : Cx} : L2N.Takes X (fun _ _ _ _ => False) := fun u s' x => by
  obtain ⟨_, _, _, _, _, _, _, _, _, _, _, _, _, _, _, _, w⟩ := x
  exact w.elim
structure Ctx (c : Ck) (Γ : Nat → SpD) (gl : Nat → D) (C : Ex → Addr) (W : WX) (X : Cx) : Prop where
  N : X.N = c.N
  nd : X.N.Nodup
  sc : X.env.scope = c.sc
  calm : X.calm = true
  stk : Stk X
  hfn : ∀ x, c.fn x = true → X.fn x = true
  fns : ∀ i x, c.fns.lookup i = some x → ∃ ps, FnAt X C x ps (Γ i)
  gls : ∀ i x, (i, x) ∈ c.gls → ∃ u v, X.mg x = some u ∧ RelV v u ∧ ∀ H, Rep X.K H (gl i) v
  free : ∀ x ∈ bltNames, X.mg (Str.ofString x) = none
  exn : ∀ n ∈ c.exs, ExN X.K X.mg C n
  tk : L2N.Takes X W
structure Snd (Γ : Nat → SpD) (gl : Nat → D) (C : Ex → Addr) (px : PX) : Prop where
  e : ∀ (c : Ck) (X : Cx) (W : WX) (x : Expr), Ctx c Γ gl C W X → (kn px).e c x = true → PE X x (up X.K C W (mn Γ gl px).e)
  t : ∀ (c : Ck) (X : Cx) (W : WX) (x : Expr), Ctx c Γ gl C W X → (kn px).t c x = true → PT X x (upT X.K C W (mn Γ gl px).t)
  w : ∀ (c : Ck) (X : Cx) (W : WX) (op : BoolOp) (es : List Expr) (pos : Pos), Ctx c Γ gl C W X → (kn px).w c op es = true → PW X (.BoolOp op es pos) (upT X.K C W (mn Γ gl px).t)
  ve : ∀ (c : Ck) (X : Cx) (W : WX) (op : BoolOp) (es : List Expr) (pos : Pos), Ctx c Γ gl C W X → (kn px).ve c op es = true → PE X (.BoolOp op es pos) (up X.K C W (mn Γ gl px).e)
  a : ∀ (c : Ck) (X : Cx) (W : WX) (es : List Expr), Ctx c Γ gl C W X → (kn px).a c es = true → PA X es (upA X.K C W (mn Γ gl px).a)
  i : ∀ (c : Ck) (X : Cx) (W : WX) (tg x : Expr), Ctx c Γ gl C W X → (kn px).i c tg x = true → PI X tg x (upI X.K C W (mn Γ gl px).i)
  o : ∀ (c : Ck) (X : Cx) (W : WX) (x : Option Expr), Ctx c Γ gl C W X → (kn px).o c x = true → PO X x (upO X.K C W (mn Γ gl px).o)
theorem star_of {e : Expr} {es : List Expr} {env : PySem.Env} (h : noStar e = true) : starEach (e :: es) env = (false, eval e env) :: starEach es env := by
  cases e <;> first | rfl | cases h
theorem tst_of {e : Expr} {env : PySem.Env} (h : tstOk e = true) : ∀ whole, isTrue e env whole = (do let v ← whole; standAt e.pos; holding [v] (truthy v)) := by
  intro whole
  cases e <;> first | rfl | cases h
theorem set_of {e : Expr} {env : PySem.Env} (h : noSet e = true) : ∀ x, foldedSetIterable e env x = pure x := by
  intro x
  cases e <;> first | rfl | cases h
theorem rec_of {e : Expr} {n : Str} {env : PySem.Env} (h : recOk e = true) : attributeBase e n env (eval e env) = eval e env := by
  cases e <;> first | rfl | cases h
theorem plain_star : ∀ {es : List Expr} {env : PySem.Env} {pos : Pos}, es.all noStar = true → (backTo pos (starEach es env)).any (·.1) = false := by
  intro es env pos h
  have k : ∀ {es : List Expr}, es.all noStar = true → (starEach es env).any (·.1) = false := by
    intro es
    induction es with
    | nil => intro _; rfl
    | cons e es ih =>
      intro h
      simp only [List.all_cons, Bool.and_eq_true] at h
      rw [star_of h.1]
      simp [ih h.2]
  have q := k h
  rw [List.any_eq_false] at q ⊢
  intro x hx
  unfold backTo at hx
  obtain ⟨y, hy, e⟩ := List.mem_map.mp hx
  subst e
  exact q y hy
section
variable {Γ : Nat → SpD} {gl : Nat → D} {C : Ex → Addr} {c : Ck} {X : Cx} {W : WX}
theorem Ctx.glb {x : Str} (K : Ctx c Γ gl C W X) (h : c.gl x = true) : Gl X x ∧ (x == ("__debug__" : Str)) = false := by
  unfold Ck.gl at h
  simp only [Bool.and_eq_true] at h
  obtain ⟨h1, h2⟩ := h
  refine ⟨?_, by simpa using h2⟩
  show X.env.scope.names.lookup x = _
  rw [K.sc]
  split at h1
  · assumption
  · cases h1
theorem Ctx.tgt {i : Nat} {x : Str} (K : Ctx c Γ gl C W X) (h : c.tgt i x = true) : X.N[i]? = some x ∧ L2.Loc X.env.scope x ∧ (X.fn x = true ∨ X.env.scope.names.lookup x = some .local) := by
  unfold Ck.tgt at h
  simp only [Bool.and_eq_true, decide_eq_true_eq] at h
  obtain ⟨h1, h2⟩ := h
  refine ⟨by rw [K.N]; exact h1, ?_, ?_⟩
  · unfold L2.Loc
    rw [K.sc]
    split at h2
    · exact .inl (by assumption)
    · exact .inr (by assumption)
    · cases h2
  · rw [K.sc]
    split at h2
    · exact .inr (by assumption)
    · exact .inl (K.hfn _ h2)
    · cases h2
theorem Ctx.hu (K : Ctx c Γ gl C W X) : X.A.units + 65 < cLine := by
  have := K.stk.room.un
  omega
theorem Ctx.free1 (K : Ctx c Γ gl C W X) {x : String} (h : x ∈ bltNames) : X.mg (Str.ofString x) = none := K.free x h
theorem tg_of {tg : TgD} {e : Expr} (K : Ctx c Γ gl C W X) (h : tgOk c tg e = true) : PG X e (gUp X.K tg) := by
  unfold tgOk at h
  split at h
  · obtain ⟨h1, h2, h3⟩ := K.tgt h
    exact g_name K.nd h1 h2 h3
  · rename_i is es _ _
    have k : ∀ (is : List Nat) (es : List Expr), tgtsOk c is es = true → PGs X es (gNames is) ∧ (assignEach es X.env).length = is.length ∧ (assignEach es X.env).findIdx? (·.1) = none := by
      intro is
      induction is with
      | nil =>
        intro es h
        cases es with
        | nil => exact ⟨gs_nil, rfl, rfl⟩
        | cons e es => cases h
      | cons i is ih =>
        intro es h
        cases es with
        | nil => cases h
        | cons e es =>
          cases e with
          | Name x p =>
            have h : (c.tgt i x && tgtsOk c is es) = true := h
            simp only [Bool.and_eq_true] at h
            obtain ⟨h1, h2, h3⟩ := K.tgt h.1
            obtain ⟨k1, k2, k3⟩ := ih es h.2
            refine ⟨gs_cons (pg_name K.nd h1 h2 h3) k1 rfl, ?_, ?_⟩
            · show (assignEach _ X.env).length + 1 = _
              rw [k2] <;> rfl
            · show List.findIdx? _ ((false, _) :: assignEach _ X.env) = none
              rw [List.findIdx?_cons]
              simp only [Bool.false_eq_true, if_false]
              rw [k3] <;> rfl
          | _ => cases h
    obtain ⟨k1, k2, k3⟩ := k _ _ h
    exact g_tup K.calm k1 k2 k3
  · cases h
theorem o_bin (K : Ctx c Γ gl C W X) (o : Op) : OpR X (binaryOp o.py) (rUp X.K o.rd) := by
  cases o
  · exact o_add
  · exact o_sub
  · exact o_mul
  · exact o_fdiv K.stk
  · exact o_mod
  · exact o_pow
theorem o_cm (K : Ctx c Γ gl C W X) (o : Cm) : OpR X (compareOp o.py) (rUp X.K o.rd) := by
  have hu := K.hu
  have hu2 : X.A.units + 64 < cLine := by omega
  cases o
  · exact o_eq hu2
  · exact o_ne hu2
  · exact o_lt
  · exact o_le
  · exact o_gt
  · exact o_ge
  · exact o_isN
  · exact o_notN
  · exact o_in hu
  · exact o_notIn hu
end
theorem one_of {k : Expr → Bool} {es : List Expr} (h : one k es = true) : ∃ e, es = [e] ∧ k e = true := by
  unfold one at h
  split at h
  · exact ⟨_, rfl, h⟩
  · cases h
theorem opt_of {k : Expr → Bool} {es : Option Expr} (h : opt k es = true) : ∃ e, es = some e ∧ k e = true := by
  unfold opt at h
  split at h
  · exact ⟨_, rfl, h⟩
  · cases h
theorem two_of {k : Expr → Bool} {l : List Expr → Bool} {es : List Expr} (h : two k l es = true) : ∃ x y r, es = x :: y :: r ∧ k x = true ∧ l (y :: r) = true := by
  unfold two at h
  split at h
  · rw [Bool.and_eq_true] at h
    exact ⟨_, _, _, rfl, h.1, h.2⟩
  · cases h
theorem bop_of {o : BoolOp} {l : List Expr → Bool} {e : Expr} (h : bop o l e = true) : ∃ es p, e = .BoolOp o es p ∧ l es = true := by
  unfold bop at h
  split at h
  · rw [Bool.and_eq_true] at h
    have := of_decide_eq_true h.1
    subst this
    exact ⟨_, _, rfl, h.2⟩
  · cases h
theorem uop_of {o : UnaryOp} {l : Expr → Bool} {e : Expr} (h : uop o l e = true) : ∃ x p, e = .UnaryOp o x p ∧ l x = true := by
  unfold uop at h
  split at h
  · rw [Bool.and_eq_true] at h
    have := of_decide_eq_true h.1
    subst this
    exact ⟨_, _, rfl, h.2⟩
  · cases h
theorem Snd.of {Γ : Nat → SpD} {gl : Nat → D} {C : Ex → Addr} {px : PX} {k : Ck → Expr → Bool} {m : DTE} (hk : kn px = Kn.of k) (hm : mn Γ gl px = Mn.of m) (h : ∀ (c : Ck) (X : Cx) (W : WX) (x : Expr), Ctx c Γ gl C W X → k c x = true → PE X x (up X.K C W m)) : Snd Γ gl C px where
  e := fun c X W x K q => by rw [hk] at q; rw [hm]; exact h c X W x K q
  t := fun c X W x K q => by
    rw [hk] at q; rw [hm]
    have q' : (k c x && tstOk x) = true := q
    rw [Bool.and_eq_true] at q'
    exact t_val (h c X W x K q'.1) (tst_of q'.2)
  w := fun c X W op es pos K q => by
    rw [hk] at q; rw [hm]
    obtain ⟨e, rfl, q'⟩ := one_of (show one (fun e => k c e && tstOk e) es = true from q)
    rw [Bool.and_eq_true] at q'
    have z := t_val (h c X W _ K q'.1) (tst_of q'.2)
    cases op
    · exact t_and1 z
    · exact t_or1 z
  ve := fun c X W op es pos K q => by
    rw [hk] at q; rw [hm]
    obtain ⟨e, rfl, q'⟩ := one_of (show one (k c) es = true from q)
    exact v_one (h c X W _ K q')
  a := fun c X W es K q => by rw [hk] at q; cases q
  i := fun c X W tg x K q => by rw [hk] at q; cases q
  o := fun c X W x K q => by
    rw [hk] at q; rw [hm]
    obtain ⟨e, rfl, q'⟩ := opt_of (show opt (k c) x = true from q)
    exact d_part (h c X W _ K q')
theorem Ctx.blk {Γ : Nat → SpD} {gl : Nat → D} {C : Ex → Addr} {c : Ck} {X : Cx} {W : WX} (K : Ctx c Γ gl C W X) (scope : Scope) (s : Shared) (H : Hp) (A : Addr) (cl : List (Str × Addr)) (fp : List Addr) :
    Ctx (c.blk scope) Γ gl C W0 (X.blk s H scope (compEnvC scope cl A X.env) fp) where
  N := K.N
  nd := K.nd
  sc := by
    show relS scope X.env.scope = relS scope c.sc
    rw [K.sc]
  calm := K.calm
  stk := ⟨K.stk.seer, K.stk.tree, K.stk.room, K.stk.stk⟩
  hfn := fun x h => h
  fns := fun i x h => by
    obtain ⟨ps, f, fd, k, h1, h2, h3, h4, h5⟩ := K.fns i x h
    exact ⟨ps, f, fd, k, h1, h2, h3, h4, h5⟩
  gls := K.gls
  free := K.free
  exn := K.exn
  tk := takes0N
section
variable {X : Cx}
def tLenSetT (K : PySem.W.Frag) (ta : TE) : TE := fun σ H Q => ta σ H fun x H1 => ∃ (l : Addr) (ks : List (Addr × List Int)), x = V.ref l ∧ SqL K H1 l (ks.map fun p => V.ref p.1) ∧ (∀ p ∈ ks, SqT K H1 p.1 (p.2.map V.int)) ∧ ks.length < 64 ∧
  ∀ L : List (List Int), L.Nodup → (∀ k ∈ L, k ∈ ks.map (·.2)) → (∀ k ∈ ks.map (·.2), k ∈ L) → Q (.int (L.length : Nat)) H1
theorem pe_lenSetT {a : Expr} {ta : TE} {p p2 q pos : Pos} (hc : X.calm = true) (hu : X.A.units + 64 < cLine) (hg : Gl X "len") (hm : X.mg "len" = none) (hg2 : Gl X "set") (hm2 : X.mg "set" = none) (ha : PE X a ta)
    (na : starEach [a] X.env = (false, eval a X.env) :: starEach [] X.env) : PE X (.Call (.Name "len" p) [.Call (.Name "set" p2) [a] [] q] [] pos) (tLenSetT X.K ta) := by
  refine ⟨fun pins s σ H Q I h => ?_⟩
  refine Call_ (ld_blt I hg hm PySem.boot_len ?_)
  refine PyProof.Rows.callWith_builtin1 (PyProof.Rows.args_cons ?_ rfl) rfl rfl
  refine Call_ (ld_blt I hg2 hm2 PyProof.Rows.boot_set ?_)
  refine PyProof.Rows.callWith_type1 (PyProof.Rows.args_cons (thn (ha.run pins s σ H _ I h) fun v s1 ⟨x, H1, I1, r1, q1⟩ => PyProof.Rows.args_nil ?_) na) na rfl
  obtain ⟨l, ks, rfl, hq, hk, hf, q1⟩ := q1
  cases r1
  obtain ⟨its, rv, pl, hz⟩ := I1.list hq
  refine call_set_tups (P := X.prog) (w := X.w) ks (I1.ok.hd hc) pl.isList (by simpa using refs_of_vals rv) (fun p hp => I1.isT (hk p hp)) hf (by omega) fun h' tk L es ep t R g k => ?_
  refine PyProof.Rows.args_nil ?_
  obtain ⟨o, ho, hex, hd⟩ := R.ob
  have I2 : Inv X pins σ H1 { s1 with heap := h', toks := tk } := I1.kept k
  have hs := SetTR.size (s := { s1 with heap := h', toks := tk }) R
  have hfew := R.few
  refine call_len_set ho hex hd (SetTR.fits (s := { s1 with heap := h', toks := tk }) R) (by rw [hs]; omega) ⟨.int (L.length : Nat), H1, I2.tok _, ⟨_, by rw [hs]⟩, ?_⟩
  have hl := q1 (L.map (·.2)) R.nd (fun k hk => ?_) fun k hk => ?_
  · rw [List.length_map] at hl
    exact hl
  · obtain ⟨p, hp, rfl⟩ := List.mem_map.mp hk
    exact List.mem_map.mpr ⟨p, List.mem_of_mem_take (g.sub p hp), rfl⟩
  · obtain ⟨p, hp, rfl⟩ := List.mem_map.mp hk
    exact g.all p (by rw [List.take_length]; exact hp)
end
section
variable {X : Cx} {C : Ex → Addr} {W : WX}
theorem rep_ints {K : PySem.W.Frag} {H : Hp} : ∀ {k : List Int} {vs : List V}, RepL K H (k.map D.int) vs → vs = k.map V.int
  | [], vs, h => h
  | i :: k, vs, h => by
    obtain ⟨v, r, rfl, hv, hr⟩ := h
    have hv : v = .int i := hv
    rw [hv, rep_ints hr]; rfl
theorem rep_tups {K : PySem.W.Frag} {H : Hp} : ∀ {kss : List (List Int)} {vs : List V}, RepL K H (kss.map fun k => D.tup (k.map D.int)) vs → ∃ ks : List (Addr × List Int), vs = ks.map (fun p => V.ref p.1) ∧ (∀ p ∈ ks, SqT K H p.1 (p.2.map V.int)) ∧ ks.map (·.2) = kss
  | [], vs, h => ⟨[], h, fun p hp => (by cases hp), rfl⟩
  | k :: kss, vs, h => by
    obtain ⟨v, r, rfl, hv, hr⟩ := h
    obtain ⟨a, ws, rfl, ht, hl⟩ := hv
    obtain ⟨ks, rfl, h1, h2⟩ := rep_tups hr
    have e := rep_ints hl
    subst e
    refine ⟨(a, k) :: ks, rfl, fun p hp => ?_, by rw [List.map_cons, h2]⟩
    rcases List.mem_cons.mp hp with rfl | hp
    · exact ht.sq
    · exact h1 p hp
theorem d_lset {a : Expr} {ta : DTE} {p p2 q pos : Pos} (hc : X.calm = true) (hu : X.A.units + 64 < cLine) (hg : Gl X "len") (hm : X.mg "len" = none) (hg2 : Gl X "set") (hm2 : X.mg "set" = none) (ha : PE X a (up X.K C W ta))
    (na : starEach [a] X.env = (false, eval a X.env) :: starEach [] X.env) : PE X (.Call (.Name "len" p) [.Call (.Name "set" p2) [a] [] q] [] pos) (up X.K C W (dLset ta)) := by
  refine pe_imp (pe_lenSetT hc hu hg hm hg2 hm2 ha na) fun σ H Q ⟨env, g, Xd, Qd, re, rg, t, cl, cx⟩ => ?_
  refine ⟨env, g, Xd, _, re, rg, t, fun d g1 v H1 q k r rv => ?_, cx⟩
  cases d with
  | ref b =>
    have hv : v = .ref b := rv
    subst hv
    cases e : g1 b with
    | none => simp only [e] at q
    | some xs =>
      simp only [e] at q
      obtain ⟨hl, kss, rfl, q⟩ := q
      obtain ⟨vs, hvs, rl⟩ := r b _ e
      obtain ⟨ks, rfl, h1, rfl⟩ := rep_tups rl
      refine ⟨b, ks, rfl, .inl (.inl hvs), h1, by simpa using hl, fun L n1 n2 n3 => ?_⟩
      exact cl _ _ _ _ (q L n1 n2 n3) k r rfl
  | _ => exact q.elim
end
section
variable {X : Cx} {C : Ex → Addr} {W : WX}
theorem d_srev {e : Expr} {ta : DTE} {k : Nat} {p1 p2 p3 pos : Pos} (ha : PE X e (up X.K C W ta)) : PE X (.Subscript e (.Slice none none (some (.UnaryOp .USub (.Constant (.int 1) k p1) p2)) p3) pos) (up X.K C W (dSrev ta)) := by
  refine pe_imp (pe_rev ha) fun σ H Q ⟨env, g, Xd, Qd, re, rg, t, cl, cx⟩ => ?_
  refine ⟨env, g, Xd, _, re, rg, t, fun d g1 v H1 q k r rv => ?_, cx⟩
  cases d with
  | ref b =>
    have hv : v = .ref b := rv
    subst hv
    cases e : g1 b with
    | none => simp only [e] at q
    | some xs =>
      simp only [e] at q
      obtain ⟨vs, hvs, rl⟩ := r b _ e
      refine ⟨b, vs, rfl, .inl ⟨.inl (.inl hvs), fun p hp => ?_⟩⟩
      exact cl _ _ _ _ (q p (r.none hp)) (k.trans (.new hp)) (r.new hp rl.rev) rfl
  | tup xs =>
    obtain ⟨b, vs, hv, t, rl⟩ := rv
    subst hv
    have q : Qd (.tup xs.reverse) g1 := q
    refine ⟨b, vs, rfl, .inr ⟨t.sq, fun p hp => ?_⟩⟩
    exact cl _ _ _ _ q (k.trans (.new hp)) (r.tup hp) ⟨p, vs.reverse, rfl, .inl upd_same, (rl.keep (.new hp)).rev⟩
  | _ => exact q.elim
end
end PP
namespace PP
open PySem PySem.Spec PyProof.Rows L2
section
variable {Γ : Nat → SpD} {gl : Nat → D} {C : Ex → Addr}
theorem nope {p : Prop} (h : false = true) : p := nomatch h
theorem c_bl {c : Ck} {X : Cx} {W : WX} (K : Ctx c Γ gl C W X) {b : Bl} {x : Str} {e : Expr} {es : List Expr} {p pos : Pos} {tA : DTA} (hx : x = Str.ofString b.nm) (hg : Gl X x) (ha : PA X (e :: es) (upA X.K C W tA)) (hdb : (x == ("__debug__" : Str)) = false)
    (he : starEach (e :: es) X.env = (false, eval e X.env) :: starEach es X.env) (hpl : (backTo pos (starEach es X.env)).any (·.1) = false) : PE X (.Call (.Name x p) (e :: es) [] pos) (up X.K C W (dCB b.rd tA)) := by
  subst hx
  have F := fun (s : String) (h : s ∈ bltNames) => K.free1 h
  cases b
  · exact d_callB c_len hg (F _ (by decide)) (by decide +kernel) ha (by decide) hdb he hpl
  · exact d_callB c_abs hg (F _ (by decide)) (by decide +kernel) ha (by decide) hdb he hpl
  · exact d_callB (c_max K.calm) hg (F _ (by decide)) (by decide +kernel) ha (by decide) hdb he hpl
  · exact d_callB (c_min K.calm) hg (F _ (by decide)) (by decide +kernel) ha (by decide) hdb he hpl
  · exact d_callTy c_int hg (F _ (by decide)) (by decide +kernel) ha (by decide) hdb he hpl
  · exact d_callTy c_str hg (F _ (by decide)) (by decide +kernel) ha (by decide) hdb he hpl
  · exact d_callB (c_sum K.calm) hg (F _ (by decide)) (by decide +kernel) ha (by decide) hdb he hpl
  · exact d_callB (c_all K.calm) hg (F _ (by decide)) (by decide +kernel) ha (by decide) hdb he hpl
  · exact d_callTy c_list hg (F _ (by decide)) (by decide +kernel) ha (by decide) hdb he hpl
  · exact d_callTy c_tuple hg (F _ (by decide)) (by decide +kernel) ha (by decide) hdb he hpl
theorem bm_few {e : Expr} {es : List Expr} {env : PySem.Env} {cpos : Pos} (h1 : noStar e = true) (h : es.all noStar = true) (hl : (e :: es).length < 29) :
    ((backTo cpos (starEach (e :: es) env)).all (fun x => !x.1) && (backToKw cpos (keywordEach [] env)).all (fun x => x.1.isSome)
      && decide ((e :: es).length + ([] : List Keyword).length + (if ([] : List Keyword).isEmpty then 0 else 1) < 30)) = true := by
  have k : (backTo cpos (starEach (e :: es) env)).any (·.1) = false := plain_star (es := e :: es) (by simp [h1, h])
  have k2 : (backTo cpos (starEach (e :: es) env)).all (fun x => !x.1) = true := by
    rw [List.all_eq_true]
    intro x hx
    rw [List.any_eq_false] at k
    simpa using k x hx
  rw [k2]
  have : (backToKw cpos (keywordEach [] env)).all (fun x => x.1.isSome) = true := rfl
  rw [this]
  simp only [Bool.true_and, List.length_nil, Nat.add_zero, List.isEmpty_nil, if_true, decide_eq_true_eq]
  omega
theorem m_of {c : Ck} {X : Cx} {W : WX} (K : Ctx c Γ gl C W X) {m : Mt} {x e : Expr} {es : List Expr} {n : Str} {ap cp : Pos} {to : DTE} {tA : DTA} (hm : m.none = false) (hn : n = Str.ofString m.nm) (hr : recOk x = true) (hl : (ap.endLine == cp.line) = true) (h1 : noStar e = true) (h2 : es.all noStar = true) (h3 : (e :: es).length < 29)
    (ho : PE X x (up X.K C W to)) (ha : PA X (e :: es) (upA X.K C W tA)) : PE X (.Call (.Attribute x n ap) (e :: es) [] cp) (up X.K C W (dMt m.rc m.rd to tA)) := by
  subst hn
  have B := @bm_few e es X.env cp h1 h2 h3
  have S := @star_of e es X.env h1
  have P := @plain_star es X.env cp h2
  cases m
  · exact d_bm (T := .list) F.plainAttrs_list F.slot_list_append F.type_list_append m_append ho ha (rec_of hr) B hl S P
  · cases hm
  · exact d_bm (T := .list) F.plainAttrs_list F.slot_list_pop F.type_list_pop m_popAt ho ha (rec_of hr) B hl S P
  · exact d_bm (T := .list) F.plainAttrs_list F.slot_list_extend F.type_list_extend m_extend ho ha (rec_of hr) B hl S P
  · cases hm
  · cases hm
  · exact d_bm (T := .list) F.plainAttrs_list F.slot_list_insert F.type_list_insert m_insert ho ha (rec_of hr) B hl S P
  · exact d_bm (T := .list) F.plainAttrs_list F.slot_list_index F.type_list_index (m_index K.hu) ho ha (rec_of hr) B hl S P
  · exact d_bm (T := .str) F.plainAttrs_str F.slot_str_split F.type_str_split m_split ho ha (rec_of hr) B hl S P
  · exact d_bm (T := .str) F.plainAttrs_str F.slot_str_join F.type_str_join m_join ho ha (rec_of hr) B hl S P
theorem m_of0 {X : Cx} {W : WX} {m : Mt} {x : Expr} {n : Str} {ap cp : Pos} {to : DTE} (hm : m.none = true) (hn : n = Str.ofString m.nm) (hr : recOk x = true) (hl : (ap.endLine == cp.line) = true)
    (ho : PE X x (up X.K C W to)) : PE X (.Call (.Attribute x n ap) [] [] cp) (up X.K C W (dMt m.rc m.rd to dNil)) := by
  subst hn
  cases m
  · cases hm
  · exact d_bm0 (T := .list) F.plainAttrs_list F.slot_list_pop F.type_list_pop m_pop ho (rec_of hr) hl
  · cases hm
  · cases hm
  · exact d_bm0 (T := .list) F.plainAttrs_list F.slot_list_clear F.type_list_clear m_clear ho (rec_of hr) hl
  · exact d_bm0 (T := .list) F.plainAttrs_list F.slot_list_reverse F.type_list_reverse m_reverse ho (rec_of hr) hl
  · cases hm
  · cases hm
  · cases hm
  · cases hm
theorem ty_mem (t : Ty) : t.nm ∈ bltNames := by cases t <;> decide
theorem ty_boot (t : Ty) : bootBuiltins (Str.ofString t.nm) = some (.type t.nm) := by cases t <;> decide +kernel
theorem ty_ne (t : Ty) : Str.ofString t.nm ≠ "__name__" := by cases t <;> decide
theorem tys_of {c : Ck} {X : Cx} {W : WX} (K : Ctx c Γ gl C W X) : ∀ {ts : List Ty} {es : List Expr}, tyNames ts es = true → (ts.all fun t => c.gl (Str.ofString t.nm)) = true → PA X es (tTys ts)
  | [], [], _, _ => pa_nil
  | t :: ts, .Name x p :: es, h, k => by
    have h : (decide (x = Str.ofString t.nm) && tyNames ts es) = true := h
    simp only [Bool.and_eq_true, decide_eq_true_eq] at h
    simp only [List.all_cons, Bool.and_eq_true] at k
    obtain ⟨g1, g2⟩ := K.glb k.1
    have e := h.1
    subst e
    exact pa_cons (pe_bltn (v := .ty t.nm) g1 (K.free1 (ty_mem t)) (ty_boot t) rfl (ty_ne t) g2) (tys_of K h.2 k.2) rfl
  | t :: ts, [], h, _ => by cases h
  | [], _ :: _, h, _ => by cases h
  | t :: ts, .BoolOp .. :: es, h, _ => by cases h
  | t :: ts, .NamedExpr .. :: es, h, _ => by cases h
  | t :: ts, .BinOp .. :: es, h, _ => by cases h
  | t :: ts, .UnaryOp .. :: es, h, _ => by cases h
  | t :: ts, .Lambda .. :: es, h, _ => by cases h
  | t :: ts, .IfExp .. :: es, h, _ => by cases h
  | t :: ts, .Dict .. :: es, h, _ => by cases h
  | t :: ts, .Set .. :: es, h, _ => by cases h
  | t :: ts, .ListComp .. :: es, h, _ => by cases h
  | t :: ts, .SetComp .. :: es, h, _ => by cases h
  | t :: ts, .DictComp .. :: es, h, _ => by cases h
  | t :: ts, .GeneratorExp .. :: es, h, _ => by cases h
  | t :: ts, .Await .. :: es, h, _ => by cases h
  | t :: ts, .Yield .. :: es, h, _ => by cases h
  | t :: ts, .YieldFrom .. :: es, h, _ => by cases h
  | t :: ts, .Compare .. :: es, h, _ => by cases h
  | t :: ts, .Call .. :: es, h, _ => by cases h
  | t :: ts, .FormattedValue .. :: es, h, _ => by cases h
  | t :: ts, .JoinedStr .. :: es, h, _ => by cases h
  | t :: ts, .Constant .. :: es, h, _ => by cases h
  | t :: ts, .Attribute .. :: es, h, _ => by cases h
  | t :: ts, .Subscript .. :: es, h, _ => by cases h
  | t :: ts, .Starred .. :: es, h, _ => by cases h
  | t :: ts, .List .. :: es, h, _ => by cases h
  | t :: ts, .Tuple .. :: es, h, _ => by cases h
  | t :: ts, .Slice .. :: es, h, _ => by cases h
theorem x_pe {c : Ck} {X : Cx} {W : WX} (K : Ctx c Γ gl C W X) {t : Option Ex} {x : Str} {p : Pos} (h1 : x = Str.ofString (xnm t)) (h2 : c.gl x = true) (h3 : xOk c t = true) : PE X (.Name x p) (tC (vX C t)) ∧ ∀ m, t = some m → ExNs X.K m (C m) := by
  obtain ⟨g1, g2⟩ := K.glb h2
  cases t with
  | none =>
    subst h1
    exact ⟨pe_bltn (v := .ty "ValueError") g1 (K.free1 (x := "ValueError") (by decide)) (by decide +kernel) rfl (by decide) g2, fun m e => by cases e⟩
  | some m =>
    subst h1
    have hm : m ∈ c.exs := by simpa [xOk] using h3
    exact ⟨pe_glob g1 (K.exn m hm).mg rfl g2, fun k e => by cases e; exact (K.exn m hm).ns⟩
theorem xs_pe {c : Ck} {X : Cx} {W : WX} (K : Ctx c Γ gl C W X) : ∀ {ts : List (Option Ex)} {es : List Expr}, xNames c ts es = true → PA X es (tXs C ts) ∧ ∀ t ∈ ts, ∀ m, t = some m → ExNs X.K m (C m) := by
  intro ts
  induction ts with
  | nil =>
    intro es h
    cases es with
    | nil => exact ⟨pa_nil, fun t z => by cases z⟩
    | cons e es => cases h
  | cons t ts ih =>
    intro es h
    cases es with
    | nil => cases h
    | cons e es =>
      unfold xNames at h
      split at h
      · rename_i z _; cases z
      · rename_i z1 z2
        cases z1; cases z2
        simp only [Bool.and_eq_true, decide_eq_true_eq] at h
        obtain ⟨⟨⟨h1, h2⟩, h3⟩, h4⟩ := h
        obtain ⟨a1, a2⟩ := x_pe K (p := _) h1 h2 h3
        obtain ⟨b1, b2⟩ := ih h4
        exact ⟨pa_cons a1 b1 rfl, fun u hu => by
          rcases List.mem_cons.mp hu with rfl | hu
          · exact a2
          · exact b2 u hu⟩
      · cases h
theorem sound (px : PX) : Snd Γ gl C px := by
  induction px with
  | v i =>
    refine .of rfl rfl fun c X W x K q => ?_
    split at q
    · simp only [Bool.and_eq_true, decide_eq_true_eq] at q
      obtain ⟨h1, h2⟩ := q
      unfold Ck.vis at h1
      simp only [Bool.and_eq_true] at h1
      refine d_var (by rw [K.N]; exact h2) ?_ (by simpa using h1.1.2) (by simpa using h1.2)
      unfold Vis
      rw [K.sc]
      have h3 := h1.1.1
      split at h3
      · exact .inl (by assumption)
      · exact .inr (.inl (by assumption))
      · exact .inr (.inr (by assumption))
      · cases h3
    · cases q
  | int i =>
    refine .of rfl rfl fun c X W x K q => ?_
    split at q
    · have := of_decide_eq_true q; subst this; exact d_const pe_int fun _ => rfl
    · cases q
  | bl b =>
    refine .of rfl rfl fun c X W x K q => ?_
    split at q
    · have := of_decide_eq_true q; subst this; exact d_const pe_bl fun _ => rfl
    · cases q
  | non =>
    refine .of rfl rfl fun c X W x K q => ?_
    split at q
    · exact d_const pe_non fun _ => rfl
    · cases q
  | str s =>
    refine .of rfl rfl fun c X W x K q => ?_
    split at q
    · have := of_decide_eq_true q; subst this; exact d_const pe_str fun _ => rfl
    · cases q
  | glo k =>
    refine .of rfl rfl fun c X W x K q => ?_
    split at q
    · simp only [Bool.and_eq_true, decide_eq_true_eq] at q
      obtain ⟨u, v, h1, h2, h3⟩ := K.gls k _ (by simpa using q.2)
      obtain ⟨g1, g2⟩ := K.glb q.1
      exact d_const (pe_glob g1 h1 h2 g2) h3
    · cases q
  | bin o a b iha ihb =>
    refine .of rfl rfl fun c X W x K q => ?_
    split at q
    · simp only [Bool.and_eq_true, decide_eq_true_eq] at q
      have e := q.1.1
      subst e
      exact d_op (f := binaryOp o.py) (o_bin K o) (iha.e c X W _ K q.1.2) (ihb.e c X W _ K q.2)
    · cases q
  | cmp o a b iha ihb =>
    have H : ∀ (c : Ck) (X : Cx) (W : WX) (x : Expr), Ctx c Γ gl C W X → (kn (.cmp o a b)).e c x = true → ∃ y z p, x = .Compare y [o.py] [z] p ∧ behindInMarks o.py z = false ∧ PE X y (up X.K C W (mn Γ gl a).e) ∧ PE X z (up X.K C W (mn Γ gl b).e) := fun c X W x K q => by
      have q : cmpK o ((kn a).e c) ((kn b).e c) x = true := q
      unfold cmpK at q
      split at q
      · simp only [Bool.and_eq_true, decide_eq_true_eq, Bool.not_eq_true'] at q
        have e := q.1.1.1
        subst e
        exact ⟨_, _, _, rfl, q.1.1.2, iha.e c X W _ K q.1.2, ihb.e c X W _ K q.2⟩
      · cases q
    have T : ∀ (c : Ck) (X : Cx) (W : WX) (x : Expr), Ctx c Γ gl C W X → (kn (.cmp o a b)).e c x = true → PT X x (upT X.K C W (dTst (dBin o.rd (mn Γ gl a).e (mn Γ gl b).e))) := fun c X W x K q => by
      obtain ⟨y, z, p, rfl, h1, h2, h3⟩ := H c X W x K q
      exact t_cmp (o_cm K o) h2 h3 h1
    have E : ∀ (c : Ck) (X : Cx) (W : WX) (x : Expr), Ctx c Γ gl C W X → (kn (.cmp o a b)).e c x = true → PE X x (up X.K C W (dBin o.rd (mn Γ gl a).e (mn Γ gl b).e)) := fun c X W x K q => by
      obtain ⟨y, z, p, rfl, h1, h2, h3⟩ := H c X W x K q
      exact d_cmp (o_cm K o) h2 h3 h1
    exact ⟨E, T, fun c X W op es pos K q => by
        obtain ⟨e, rfl, q'⟩ := one_of (show one ((kn (.cmp o a b)).e c) es = true from q)
        have z := T c X W _ K q'
        cases op
        · exact t_and1 z
        · exact t_or1 z,
      fun c X W op es pos K q => by
        obtain ⟨e, rfl, q'⟩ := one_of (show one ((kn (.cmp o a b)).e c) es = true from q)
        exact v_one (E c X W _ K q'),
      fun c X W es K q => nope q, fun c X W tg x K q => nope q,
      fun c X W x K q => by
        obtain ⟨e, rfl, q'⟩ := opt_of (show opt ((kn (.cmp o a b)).e c) x = true from q)
        exact d_part (E c X W _ K q')⟩
  | chain o p a b d iha ihb ihd =>
    have H : ∀ (c : Ck) (X : Cx) (W : WX) (x : Expr), Ctx c Γ gl C W X → chainK o p ((kn a).e c) ((kn b).e c) ((kn d).e c) x = true → ∃ y z u q, x = .Compare y [o.py, p.py] [z, u] q ∧ lastMarks [o.py, p.py] [z, u] = false ∧ PE X y (up X.K C W (mn Γ gl a).e) ∧ PE X z (up X.K C W (mn Γ gl b).e) ∧ PE X u (up X.K C W (mn Γ gl d).e) := fun c X W x K q => by
      unfold chainK at q
      split at q
      · simp only [Bool.and_eq_true, decide_eq_true_eq, Bool.not_eq_true'] at q
        have e := q.1.1.1.1.1
        have e2 := q.1.1.1.1.2
        subst e e2
        exact ⟨_, _, _, _, rfl, q.1.1.1.2, iha.e c X W _ K q.1.1.2, ihb.e c X W _ K q.1.2, ihd.e c X W _ K q.2⟩
      · cases q
    have T : ∀ (c : Ck) (X : Cx) (W : WX) (x : Expr), Ctx c Γ gl C W X → chainK o p ((kn a).e c) ((kn b).e c) ((kn d).e c) x = true → PT X x (upT X.K C W (dTst (dChain o.rd p.rd (mn Γ gl a).e (mn Γ gl b).e (mn Γ gl d).e))) := fun c X W x K q => by
      obtain ⟨y, z, u, q, rfl, h1, h2, h3, h4⟩ := H c X W x K q
      exact t_chain (o_cm K o) (o_cm K p) h2 h3 h4 h1
    have E : ∀ (c : Ck) (X : Cx) (W : WX) (x : Expr), Ctx c Γ gl C W X → chainK o p ((kn a).e c) ((kn b).e c) ((kn d).e c) x = true → PE X x (up X.K C W (dChain o.rd p.rd (mn Γ gl a).e (mn Γ gl b).e (mn Γ gl d).e)) := fun c X W x K q => by
      obtain ⟨y, z, u, q, rfl, h1, h2, h3, h4⟩ := H c X W x K q
      exact v_chain (o_cm K o) (o_cm K p) h2 h3 h4 h1
    exact ⟨E, T, fun c X W op es pos K q => by
        obtain ⟨e, rfl, q'⟩ := one_of (show one (chainK o p ((kn a).e c) ((kn b).e c) ((kn d).e c)) es = true from q)
        have z := T c X W _ K q'
        cases op
        · exact t_and1 z
        · exact t_or1 z,
      fun c X W op es pos K q => by
        obtain ⟨e, rfl, q'⟩ := one_of (show one (chainK o p ((kn a).e c) ((kn b).e c) ((kn d).e c)) es = true from q)
        exact v_one (E c X W _ K q'),
      fun c X W es K q => nope q, fun c X W tg x K q => nope q,
      fun c X W x K q => by
        obtain ⟨e, rfl, q'⟩ := opt_of (show opt (chainK o p ((kn a).e c) ((kn b).e c) ((kn d).e c)) x = true from q)
        exact d_part (E c X W _ K q')⟩
  | not a iha =>
    have E : ∀ (c : Ck) (X : Cx) (W : WX) (x : Expr), Ctx c Γ gl C W X → uop .Not ((kn a).e c) x = true → PE X x (up X.K C W (dNot (mn Γ gl a).e)) := fun c X W x K q => by
      obtain ⟨y, p, rfl, q'⟩ := uop_of q
      exact v_not (iha.e c X W _ K q')
    have T : ∀ (c : Ck) (X : Cx) (W : WX) (x : Expr), Ctx c Γ gl C W X → uop .Not ((kn a).t c) x = true → PT X x (upT X.K C W (dNotT (mn Γ gl a).t)) := fun c X W x K q => by
      obtain ⟨y, p, rfl, q'⟩ := uop_of q
      exact t_not (iha.t c X W _ K q')
    exact ⟨E, T, fun c X W op es pos K q => by
        obtain ⟨e, rfl, q'⟩ := one_of (show one (uop .Not ((kn a).t c)) es = true from q)
        have z := T c X W _ K q'
        cases op
        · exact t_and1 z
        · exact t_or1 z,
      fun c X W op es pos K q => by
        obtain ⟨e, rfl, q'⟩ := one_of (show one (uop .Not ((kn a).e c)) es = true from q)
        exact v_one (E c X W _ K q'),
      fun c X W es K q => nope q, fun c X W tg x K q => nope q,
      fun c X W x K q => by
        obtain ⟨e, rfl, q'⟩ := opt_of (show opt (uop .Not ((kn a).e c)) x = true from q)
        exact d_part (E c X W _ K q')⟩
  | neg a iha =>
    refine .of (k := fun c => uop .USub ((kn a).e c)) rfl rfl fun c X W x K q => ?_
    obtain ⟨y, p, rfl, q'⟩ := uop_of q
    exact v_neg (iha.e c X W _ K q')
  | and a b iha ihb =>
    have WT : ∀ (c : Ck) (X : Cx) (W : WX) (es : List Expr) (pos : Pos), Ctx c Γ gl C W X → two ((kn a).t c) ((kn b).w c .And) es = true → PW X (.BoolOp .And es pos) (upT X.K C W (dAndT (mn Γ gl a).t (mn Γ gl b).t)) := fun c X W es pos K q => by
      obtain ⟨x, y, r, rfl, h1, h2⟩ := two_of q
      exact t_and (iha.t c X W _ K h1) (ihb.w c X W .And _ pos K h2)
    have VE : ∀ (c : Ck) (X : Cx) (W : WX) (es : List Expr) (pos : Pos), Ctx c Γ gl C W X → two ((kn a).e c) ((kn b).ve c .And) es = true → PE X (.BoolOp .And es pos) (up X.K C W (dAnd (mn Γ gl a).e (mn Γ gl b).e)) := fun c X W es pos K q => by
      obtain ⟨x, y, r, rfl, h1, h2⟩ := two_of q
      exact v_and (iha.e c X W _ K h1) (ihb.ve c X W .And _ pos K h2)
    have E : ∀ (c : Ck) (X : Cx) (W : WX) (x : Expr), Ctx c Γ gl C W X → bop .And (two ((kn a).e c) ((kn b).ve c .And)) x = true → PE X x (up X.K C W (dAnd (mn Γ gl a).e (mn Γ gl b).e)) := fun c X W x K q => by
      obtain ⟨es, p, rfl, h⟩ := bop_of q
      exact VE c X W es p K h
    have T : ∀ (c : Ck) (X : Cx) (W : WX) (x : Expr), Ctx c Γ gl C W X → bop .And (two ((kn a).t c) ((kn b).w c .And)) x = true → PT X x (upT X.K C W (dAndT (mn Γ gl a).t (mn Γ gl b).t)) := fun c X W x K q => by
      obtain ⟨es, p, rfl, h⟩ := bop_of q
      exact (WT c X W es p K h).pt
    exact ⟨E, T, fun c X W op es pos K q => by
        have q : (one (bop .And (two ((kn a).t c) ((kn b).w c .And))) es || (decide (op = .And) && two ((kn a).t c) ((kn b).w c .And) es)) = true := q
        rw [Bool.or_eq_true] at q
        rcases q with q | q
        · obtain ⟨e, rfl, q'⟩ := one_of q
          have z := T c X W _ K q'
          cases op
          · exact t_and1 z
          · exact t_or1 z
        · rw [Bool.and_eq_true] at q
          have e := of_decide_eq_true q.1
          subst e
          exact WT c X W es pos K q.2,
      fun c X W op es pos K q => by
        have q : (one (bop .And (two ((kn a).e c) ((kn b).ve c .And))) es || (decide (op = .And) && two ((kn a).e c) ((kn b).ve c .And) es)) = true := q
        rw [Bool.or_eq_true] at q
        rcases q with q | q
        · obtain ⟨e, rfl, q'⟩ := one_of q
          exact v_one (E c X W _ K q')
        · rw [Bool.and_eq_true] at q
          have e := of_decide_eq_true q.1
          subst e
          exact VE c X W es pos K q.2,
      fun c X W es K q => nope q, fun c X W tg x K q => nope q,
      fun c X W x K q => by
        obtain ⟨e, rfl, q'⟩ := opt_of (show opt (bop .And (two ((kn a).e c) ((kn b).ve c .And))) x = true from q)
        exact d_part (E c X W _ K q')⟩
  | or a b iha ihb =>
    have WT : ∀ (c : Ck) (X : Cx) (W : WX) (es : List Expr) (pos : Pos), Ctx c Γ gl C W X → two ((kn a).t c) ((kn b).w c .Or) es = true → PW X (.BoolOp .Or es pos) (upT X.K C W (dOrT (mn Γ gl a).t (mn Γ gl b).t)) := fun c X W es pos K q => by
      obtain ⟨x, y, r, rfl, h1, h2⟩ := two_of q
      exact t_or (iha.t c X W _ K h1) (ihb.w c X W .Or _ pos K h2)
    have VE : ∀ (c : Ck) (X : Cx) (W : WX) (es : List Expr) (pos : Pos), Ctx c Γ gl C W X → two ((kn a).e c) ((kn b).ve c .Or) es = true → PE X (.BoolOp .Or es pos) (up X.K C W (dOr (mn Γ gl a).e (mn Γ gl b).e)) := fun c X W es pos K q => by
      obtain ⟨x, y, r, rfl, h1, h2⟩ := two_of q
      exact v_or (iha.e c X W _ K h1) (ihb.ve c X W .Or _ pos K h2)
    have E : ∀ (c : Ck) (X : Cx) (W : WX) (x : Expr), Ctx c Γ gl C W X → bop .Or (two ((kn a).e c) ((kn b).ve c .Or)) x = true → PE X x (up X.K C W (dOr (mn Γ gl a).e (mn Γ gl b).e)) := fun c X W x K q => by
      obtain ⟨es, p, rfl, h⟩ := bop_of q
      exact VE c X W es p K h
    have T : ∀ (c : Ck) (X : Cx) (W : WX) (x : Expr), Ctx c Γ gl C W X → bop .Or (two ((kn a).t c) ((kn b).w c .Or)) x = true → PT X x (upT X.K C W (dOrT (mn Γ gl a).t (mn Γ gl b).t)) := fun c X W x K q => by
      obtain ⟨es, p, rfl, h⟩ := bop_of q
      exact (WT c X W es p K h).pt
    exact ⟨E, T, fun c X W op es pos K q => by
        have q : (one (bop .Or (two ((kn a).t c) ((kn b).w c .Or))) es || (decide (op = .Or) && two ((kn a).t c) ((kn b).w c .Or) es)) = true := q
        rw [Bool.or_eq_true] at q
        rcases q with q | q
        · obtain ⟨e, rfl, q'⟩ := one_of q
          have z := T c X W _ K q'
          cases op
          · exact t_and1 z
          · exact t_or1 z
        · rw [Bool.and_eq_true] at q
          have e := of_decide_eq_true q.1
          subst e
          exact WT c X W es pos K q.2,
      fun c X W op es pos K q => by
        have q : (one (bop .Or (two ((kn a).e c) ((kn b).ve c .Or))) es || (decide (op = .Or) && two ((kn a).e c) ((kn b).ve c .Or) es)) = true := q
        rw [Bool.or_eq_true] at q
        rcases q with q | q
        · obtain ⟨e, rfl, q'⟩ := one_of q
          exact v_one (E c X W _ K q')
        · rw [Bool.and_eq_true] at q
          have e := of_decide_eq_true q.1
          subst e
          exact VE c X W es pos K q.2,
      fun c X W es K q => nope q, fun c X W tg x K q => nope q,
      fun c X W x K q => by
        obtain ⟨e, rfl, q'⟩ := opt_of (show opt (bop .Or (two ((kn a).e c) ((kn b).ve c .Or))) x = true from q)
        exact d_part (E c X W _ K q')⟩
  | ix a b iha ihb =>
    refine .of rfl rfl fun c X W x K q => ?_
    split at q
    · rename_i x y p
      simp only [Bool.and_eq_true] at q
      refine d_ix (iha.e c X W _ K q.1.2) (ihb.e c X W _ K q.2) ?_
      have h := q.1.1
      intro o i
      cases y <;> first | rfl | cases h
    · cases q
  | slc a lo hi iha ihl ihh =>
    refine .of rfl rfl fun c X W x K q => ?_
    split at q
    · simp only [Bool.and_eq_true] at q
      exact d_slc (iha.e c X W _ K q.1.1) (ihl.o c X W _ K q.1.2) (ihh.o c X W _ K q.2)
    · cases q
  | tup as ih =>
    refine .of rfl rfl fun c X W x K q => ?_
    split at q
    · exact d_tup (ih.a c X W _ K q)
    · cases q
  | lst as ih =>
    refine .of rfl rfl fun c X W x K q => ?_
    split at q
    · exact d_lst (ih.a c X W _ K q)
    · cases q
  | nil =>
    refine ⟨fun c X W x K q => nope q, fun c X W x K q => nope q, fun c X W op es pos K q => nope q, fun c X W op es pos K q => nope q, fun c X W es K q => ?_, fun c X W tg x K q => nope q, fun c X W x K q => nope q⟩
    cases es with
    | nil => exact d_nil
    | cons e es => cases q
  | cons a r iha ihr =>
    refine ⟨fun c X W x K q => nope q, fun c X W x K q => nope q, fun c X W op es pos K q => nope q, fun c X W op es pos K q => nope q, fun c X W es K q => ?_, fun c X W tg x K q => nope q, fun c X W x K q => nope q⟩
    cases es with
    | nil => cases q
    | cons e es =>
      have q : (noStar e && (kn a).e c e && (kn r).a c es) = true := q
      simp only [Bool.and_eq_true] at q
      exact d_cons (iha.e c X W _ K q.1.2) (ihr.a c X W _ K q.2) (star_of q.1.1)
  | call f as ih =>
    refine .of rfl rfl fun c X W x K q => ?_
    split at q
    · simp only [Bool.and_eq_true, decide_eq_true_eq] at q
      obtain ⟨ps, F⟩ := K.fns f _ q.1.1.1.2
      obtain ⟨g1, g2⟩ := K.glb q.1.1.1.1
      exact d_call F K.tk g1 (ih.a c X W _ K q.2) g2 (star_of q.1.1.2) (plain_star q.1.2)
    · simp only [Bool.and_eq_true, decide_eq_true_eq] at q
      obtain ⟨⟨q1, q2⟩, q3⟩ := q
      obtain ⟨ps, F⟩ := K.fns f _ q2
      obtain ⟨g1, g2⟩ := K.glb q1
      cases as with
      | nil => exact d_call0 F K.tk g1 g2
      | _ => cases q3
    · cases q
  | blt b as ih =>
    refine .of rfl rfl fun c X W x K q => ?_
    split at q
    · simp only [Bool.and_eq_true, decide_eq_true_eq] at q
      obtain ⟨g1, g2⟩ := K.glb q.1.1.1.1
      exact c_bl K q.1.1.1.2 g1 (ih.a c X W _ K q.2) g2 (star_of q.1.1.2) (plain_star q.1.2)
    · cases q
  | mt m o as iho iha =>
    refine .of rfl rfl fun c X W x K q => ?_
    split at q
    · simp only [Bool.and_eq_true, decide_eq_true_eq] at q
      have h := q.2
      cases as with
      | nil => exact m_of0 q.1.1.1.1.1 q.1.1.1.1.2 q.1.1.1.2 q.1.1.2 (iho.e c X W _ K q.1.2)
      | _ => cases h
    · simp only [Bool.and_eq_true, decide_eq_true_eq, Bool.not_eq_true'] at q
      exact m_of K q.1.1.1.1.1.1.1.1 q.1.1.1.1.1.1.1.2 q.1.1.1.1.1.1.2 q.1.1.1.1.1.2 q.1.1.1.1.2 q.1.1.1.2 q.1.1.2 (iho.e c X W _ K q.1.2) (iha.a c X W _ K q.2)
    · cases q
  | isi ts a ih =>
    refine .of rfl rfl fun c X W x K q => ?_
    split at q
    · simp only [Bool.and_eq_true, decide_eq_true_eq] at q
      obtain ⟨⟨⟨⟨⟨q1, q2⟩, q3⟩, q4⟩, q5⟩, q6⟩ := q
      split at q5
      · have e2 := of_decide_eq_true q5
        subst q2 e2
        obtain ⟨g1, g2⟩ := K.glb q1
        obtain ⟨g3, g4⟩ := K.glb q4
        exact d_isi1 g1 (K.free1 (x := "isinstance") (by decide)) (ih.e c X W _ K q6) g3 (K.free1 (ty_mem _)) (ty_boot _) (ty_ne _) g4 (star_of q3) rfl
      · cases q5
    · simp only [Bool.and_eq_true, decide_eq_true_eq] at q
      obtain ⟨⟨⟨⟨⟨⟨q1, q2⟩, q3⟩, q0⟩, q4⟩, q5⟩, q6⟩ := q
      subst q2
      obtain ⟨g1, g2⟩ := K.glb q1
      refine d_isiT g1 (K.free1 (x := "isinstance") (by decide)) (ih.e c X W _ K q6) (tys_of K q4 q5) ?_ (star_of q3) rfl
      exact Nat.le_trans (Nat.le_of_lt q0) (by decide +kernel)
    · cases q
  | isx ts a ih =>
    refine .of rfl rfl fun c X W x K q => ?_
    split at q
    · simp only [Bool.and_eq_true, decide_eq_true_eq] at q
      obtain ⟨⟨⟨⟨q1, q2⟩, q3⟩, q5⟩, q6⟩ := q
      split at q5
      · simp only [Bool.and_eq_true, decide_eq_true_eq] at q5
        obtain ⟨⟨e2, q7⟩, q8⟩ := q5
        subst q2
        obtain ⟨g1, g2⟩ := K.glb q1
        obtain ⟨a1, a2⟩ := x_pe K (p := _) e2 q7 q8
        exact d_isx1 g1 (K.free1 (x := "isinstance") (by decide)) (ih.e c X W _ K q6) a1 a2 (star_of q3) rfl
      · cases q5
    · simp only [Bool.and_eq_true, decide_eq_true_eq] at q
      obtain ⟨⟨⟨⟨⟨q1, q2⟩, q3⟩, q0⟩, q4⟩, q6⟩ := q
      subst q2
      obtain ⟨g1, g2⟩ := K.glb q1
      obtain ⟨a1, a2⟩ := xs_pe K q4
      refine d_isxT g1 (K.free1 (x := "isinstance") (by decide)) (ih.e c X W _ K q6) a1 a2 ?_ (star_of q3) rfl
      exact Nat.le_trans (Nat.le_of_lt q0) (by decide +kernel)
    · cases q
  | comp own tg it tst e ihi iht ihe =>
    refine .of rfl rfl fun c X W x K q => ?_
    split at q
    · rename_i elt tgE iter ifs scope pos
      simp only [Bool.and_eq_true] at q
      obtain ⟨⟨⟨⟨⟨⟨q1, q2⟩, q3⟩, q4⟩, q5⟩, q6⟩, q7⟩ := q
      have eo : (own.map fun i => (c.N.getD i "", i)).map (·.2) = own := by
        rw [List.map_map]
        exact List.map_id _
      have H := d_comp (X := X) (C := C) (W := W) (elt := elt) (tg := tgE) (iter := iter) (ifs := ifs) (scope := scope) (own := own.map fun i => (c.N.getD i "", i)) (pos := pos) (ti := (mn Γ gl it).i) (tgd := tg) (tt := (mn Γ gl tst).t) (te := (mn Γ gl e).e) K.calm K.nd (ihi.i c X W tgE iter K q5)
        (by rw [K.N, K.sc]; exact blkOk_by q1) (fun s H A cl fp => tg_of (K.blk scope s H A cl fp) q3) (fun s H A cl fp => ?_) (fun s H A cl fp => ihe.e _ _ W0 _ (K.blk scope s H A cl fp) q6) (set_of q4) ?_
      · rw [eo] at H
        exact H
      · split at q7
        · exact ⟨fun pins s σ H Q I ⟨env, g, Xd, Qd, re, rg, t, cl, cx⟩ => (pts_nil (X := X.blk _ _ scope (compEnvC scope _ _ X.env) _)).run pins s σ H Q I (cl _ _ _ t (.refl _) rg)⟩
        · cases q7
        · exact pts_one (iht.t _ _ W0 _ (K.blk scope s H A cl fp) q7)
        · cases q7
      · intro i hi
        rw [eo]
        have := List.all_eq_true.mp q2 i hi
        simpa using this
    · cases q
  | over a ih => exact ⟨fun c X W x K q => nope q, fun c X W x K q => nope q, fun c X W op es pos K q => nope q, fun c X W op es pos K q => nope q, fun c X W es K q => nope q, fun c X W tg x K q => d_iAny (ih.e c X W _ K q), fun c X W x K q => nope q⟩
  | overL a ih => exact ⟨fun c X W x K q => nope q, fun c X W x K q => nope q, fun c X W op es pos K q => nope q, fun c X W op es pos K q => nope q, fun c X W es K q => nope q, fun c X W tg x K q => d_iLst (ih.e c X W _ K q), fun c X W x K q => nope q⟩
  | dic =>
    refine .of rfl rfl fun c X W x K q => ?_
    split at q
    · exact d_dic
    · cases q
  | stp a b iha ihb =>
    refine .of rfl rfl fun c X W x K q => ?_
    split at q
    · rw [Bool.and_eq_true] at q
      exact d_stp (iha.e c X W _ K q.1) (ihb.e c X W _ K q.2)
    · cases q
  | range1 a ih =>
    refine ⟨fun c X W x K q => nope q, fun c X W x K q => nope q, fun c X W op es pos K q => nope q, fun c X W op es pos K q => nope q, fun c X W es K q => nope q, fun c X W tg x K q => ?_, fun c X W x K q => nope q⟩
    unfold kn at q
    dsimp only at q
    split at q
    · simp only [Bool.and_eq_true, decide_eq_true_eq] at q
      have e := q.1.1.2
      subst e
      obtain ⟨g1, g2⟩ := K.glb q.1.1.1
      exact d_range1 g1 (K.free1 (x := "range") (by decide)) (ih.e c X W _ K q.2) (star_of q.1.2)
    · cases q
  | range2 a b iha ihb =>
    refine ⟨fun c X W x K q => nope q, fun c X W x K q => nope q, fun c X W op es pos K q => nope q, fun c X W op es pos K q => nope q, fun c X W es K q => nope q, fun c X W tg x K q => ?_, fun c X W x K q => nope q⟩
    unfold kn at q
    dsimp only at q
    split at q
    · simp only [Bool.and_eq_true, decide_eq_true_eq] at q
      have e := q.1.1.1.1.2
      subst e
      obtain ⟨g1, g2⟩ := K.glb q.1.1.1.1.1
      exact d_range2 g1 (K.free1 (x := "range") (by decide)) (iha.e c X W _ K q.1.2) (ihb.e c X W _ K q.2) (by rw [star_of q.1.1.1.2, star_of q.1.1.2]; rfl) (star_of q.1.1.2)
    · cases q
  | rev a ih =>
    refine ⟨fun c X W x K q => nope q, fun c X W x K q => nope q, fun c X W op es pos K q => nope q, fun c X W op es pos K q => nope q, fun c X W es K q => nope q, fun c X W tg x K q => ?_, fun c X W x K q => nope q⟩
    unfold kn at q
    dsimp only at q
    split at q
    · simp only [Bool.and_eq_true, decide_eq_true_eq] at q
      have e := q.1.1.2
      subst e
      obtain ⟨g1, g2⟩ := K.glb q.1.1.1
      exact d_rev g1 (K.free1 (x := "reversed") (by decide)) (ih.e c X W _ K q.2) (star_of q.1.2)
    · cases q
  | zip a b iha ihb =>
    refine ⟨fun c X W x K q => nope q, fun c X W x K q => nope q, fun c X W op es pos K q => nope q, fun c X W op es pos K q => nope q, fun c X W es K q => nope q, fun c X W tg x K q => ?_, fun c X W x K q => nope q⟩
    unfold kn at q
    dsimp only at q
    split at q
    · simp only [Bool.and_eq_true, decide_eq_true_eq] at q
      obtain ⟨⟨⟨⟨⟨⟨q0, q1⟩, q2⟩, q3⟩, q4⟩, q5⟩, q6⟩ := q
      subst q2
      obtain ⟨g1, g2⟩ := K.glb q1
      cases tg with
      | Tuple es k p => exact d_zip g1 (K.free1 (x := "zip") (by decide)) (iha.e c X W _ K q5) (ihb.e c X W _ K q6) (by rw [star_of q3, star_of q4]; rfl) (star_of q4)
      | _ => cases q0
    · cases q
  | enum a ih =>
    refine ⟨fun c X W x K q => nope q, fun c X W x K q => nope q, fun c X W op es pos K q => nope q, fun c X W op es pos K q => nope q, fun c X W es K q => nope q, fun c X W tg x K q => ?_, fun c X W x K q => nope q⟩
    unfold kn at q
    dsimp only at q
    split at q
    · simp only [Bool.and_eq_true, decide_eq_true_eq] at q
      obtain ⟨⟨⟨⟨q0, q1⟩, q2⟩, q3⟩, q4⟩ := q
      subst q2
      obtain ⟨g1, g2⟩ := K.glb q1
      cases tg with
      | Tuple es k p => exact d_enum g1 (K.free1 (x := "enumerate") (by decide)) (ih.e c X W _ K q4) (star_of q3)
      | _ => cases q0
    · cases q
  | zip3 a b d iha ihb ihd =>
    refine ⟨fun c X W x K q => nope q, fun c X W x K q => nope q, fun c X W op es pos K q => nope q, fun c X W op es pos K q => nope q, fun c X W es K q => nope q, fun c X W tg x K q => ?_, fun c X W x K q => nope q⟩
    unfold kn at q
    dsimp only at q
    split at q
    · simp only [Bool.and_eq_true, decide_eq_true_eq] at q
      obtain ⟨⟨⟨⟨⟨⟨⟨⟨q0, q1⟩, q2⟩, q3⟩, q4⟩, q5⟩, q6⟩, q7⟩, q8⟩ := q
      subst q2
      obtain ⟨g1, g2⟩ := K.glb q1
      cases tg with
      | Tuple es k p => exact d_zip3 g1 (K.free1 (x := "zip") (by decide)) (iha.e c X W _ K q6) (ihb.e c X W _ K q7) (ihd.e c X W _ K q8) (star_of q3) (star_of q4) (star_of q5)
      | _ => cases q0
    · cases q
  | yes => exact ⟨fun c X W x K q => nope q, fun c X W x K q => nope q, fun c X W op es pos K q => nope q, fun c X W op es pos K q => nope q, fun c X W es K q => nope q, fun c X W tg x K q => nope q, fun c X W x K q => nope q⟩
  | hole => exact ⟨fun c X W x K q => nope q, fun c X W x K q => nope q, fun c X W op es pos K q => nope q, fun c X W op es pos K q => nope q, fun c X W es K q => nope q, fun c X W tg x K q => nope q, fun c X W x K q => by
      cases x with
      | none => exact d_noPart
      | some e => cases q⟩
  | lset a ih =>
    refine .of rfl rfl fun c X W x K q => ?_
    split at q
    · simp only [Bool.and_eq_true, decide_eq_true_eq] at q
      obtain ⟨⟨⟨⟨⟨q1, q2⟩, q3⟩, q4⟩, q5⟩, q6⟩ := q
      subst q2 q4
      obtain ⟨g1, g2⟩ := K.glb q1
      obtain ⟨g3, g4⟩ := K.glb q3
      exact d_lset K.calm (by have := K.hu; omega) g1 (K.free1 (x := "len") (by decide)) g3 (K.free1 (x := "set") (by decide)) (ih.e c X W _ K q6) (star_of q5)
    · cases q
  | tupz a b iha ihb =>
    refine .of rfl rfl fun c X W x K q => ?_
    split at q
    · simp only [Bool.and_eq_true, decide_eq_true_eq] at q
      obtain ⟨⟨⟨⟨⟨⟨⟨q1, q2⟩, q3⟩, q4⟩, q5⟩, q6⟩, q7⟩, q8⟩ := q
      subst q2 q4
      obtain ⟨g1, g2⟩ := K.glb q1
      obtain ⟨g3, g4⟩ := K.glb q3
      exact d_tupZ K.calm g1 (K.free1 (x := "tuple") (by decide)) g3 (K.free1 (x := "zip") (by decide)) (iha.e c X W _ K q7) (ihb.e c X W _ K q8) (star_of q5) (star_of q6) (plain_star (by simp [q6])) rfl
    · cases q
  | srev a ih =>
    refine .of rfl rfl fun c X W x K q => ?_
    split at q
    · exact d_srev (ih.e c X W _ K q)
    · cases q
end
end PP
namespace PP
open PySem PySem.Spec PyProof.Rows L2
structure FnAtH (X : Cx) (C : Ex → Addr) (x : Str) (sp : SpD) : Prop where
  ex : ∃ (f : Addr) (fd : FuncData) (ps : List Str) (k : Nat), X.mg x = some (.ref f) ∧ PySem.W.keepIn X.K (.ref f) = true ∧ Binds X.K fd ps [] ∧ FnHF X.prog X.w X.K X.mg X.base k f fd ps (liftSp X.K C sp) ∧ L2H.RoomH k X.A
def dTryf (ns : List Ex) (x : Ex) (i j : Nat) (sp : SpD) (t : DTS) : DTS := fun E env g =>
  t { E with ex := fun n env' g' => n ∈ ns ∧ (n.sub x = true → i < env'.length ∧ sp [.exc n] g' (fun d g'' => E.nx (((env'.set i (some (.exc n))).set j (some d)).set i none) g'') (fun _ _ => False)) ∧ (n.sub x = false → E.ex n env' g') } env g
section
variable {X : Cx} {C : Ex → Addr} {W : WX} {pos : Pos}
theorem d_tryf {ns : List Ex} {x : Ex} {i j : Nat} {n z fx : Str} {t : DTS} {sp : SpD} {body : List Stmt} {np pos' zp fp ap cp sps : Pos} (hs : X.stack = X.env :: X.outer) (hf : X.env.frame = some X.env.locals) (hex : X.ex = []) (hN : X.N.Nodup) (hi : X.N[i]? = some n) (hln : X.env.kindOf n = some .local)
    (hx : ExN X.K X.mg C x) (hg : Gl X x.nm) (hdb : (Str.ofString x.nm == ("__debug__" : Str)) = false) (hns : ∀ n ∈ ns, ExN X.K X.mg C n) (tk : L2N.Takes X W)
    (hb : ∀ (W' : WX) (pn : List (Addr × Obj)) (xe : Value → Shared → Prop), L2N.Takes (X.tr pn xe) W' → PassesOwn (model X.prog X.w) X.A X.env xe → PSs (X.tr pn xe) body (upS X.K C W' t))
    (hj : X.N[j]? = some z) (hlz : X.env.scope.names.lookup z = some .local) (hv : Vis X.env.scope n) (hd1 : (n == ("__debug__" : Str)) = false) (hd2 : (n == ("__classdict__" : Str)) = false)
    (F : FnAtH X C fx sp) (hgf : Gl X fx) (hdf : (fx == ("__debug__" : Str)) = false) :
    PS X (.Try body [.ExceptHandler (some (.Name x.nm np)) (some n) [.Assign [.Name z zp] (.Call (.Name fx fp) [.Name n ap] [] cp) sps] pos'] [] [] pos) (upS X.K C W (dTryf ns x i j sp t)) := by
  obtain ⟨f, fd, ps, k, f1, f2, f3, f4, f5⟩ := F.ex
  refine ps_imp (ps_try_fz (tb := fun W' => upS X.K C W' t) (ts := fun a => tSeq (tAsg (fun σ H Q => tCons (tVar i) tNil σ H fun vs H1 => (∃ b, Fro (X.suite a []).A H1 b) ∧ liftSp X.K C sp vs H1 Q fun _ _ _ => False) (gName j)) tNext) hs hf hex hN hi hln (c := .ref (C x)) ⟨hg, hdb, .inl hx.mg⟩ tk hb fun a pn => ?_) fun D σ H ⟨env, g, E, re, rg, q, cn, cr, cx⟩ => ?_
  · refine pss_cons (X := X.suite a pn) (ps_set (X := X.suite a pn) hN hj (.inl hlz) ?_ rfl (.inr hlz)) pss_nil
    exact peF_call (X := X.suite a pn) f4 ⟨f5.dp, f5.un⟩ hgf f1 f2 f3 (pa_cons (pe_var (X := X.suite a pn) hi hv hd1 hd2) pa_nil rfl) hdf rfl rfl
  refine ⟨env, g, _, re, rg, q, cn, cr, fun m env' g' σ' H' ⟨hm, h1, h2⟩ k re' rg' => ?_⟩
  have N := hns m hm
  refine ⟨m.sub x, N.k.exm x _ hx.ns, fun hb a oe na hc hd hf => ?_, fun hb => cx _ _ _ _ _ (h2 hb) k re' rg'⟩
  have kn := TK.new (o := .frz oe excU) na
  have hf' := hf
  obtain ⟨vs, hf1, hf2⟩ := hf'
  have rep : Rep X.K (upd H' a (.frz oe excU)) (.exc m) (.ref a) := ⟨a, rfl, oe, excU, C m, upd_same, hc, hd, hf, N.ns, N.k⟩
  obtain ⟨hl, h1⟩ := h1 hb
  have hl2 : i < σ'.length := by rw [← re'.1]; exact hl
  refine ⟨V.ref a, by rw [List.getElem?_set_self hl2], ⟨a, rfl, oe, vs, upd_same, hf1, hf2⟩, ?_⟩
  refine ⟨[.exc m], g', _, _, ⟨_, _, rfl, rep, rfl⟩, rg'.tup na, h1, fun d2 g2 v2 H2 q2 k2 r1 r2 => ?_, fun _ _ _ z => z.elim⟩
  have w0 := (((re'.keep kn).set (i := i) rep).keep k2).set (i := j) r2
  have w := RepE.wipe w0 [i]
  exact cn _ _ _ _ q2 ((k.trans kn).trans k2) w r1
end
end PP
namespace PP
open PySem PySem.Spec PyProof.Rows L2
inductive SX where
  | nil
  | asg (tg : TgD) (e : PX) (r : SX)
  | par (i j : Nat) (a b : PX) (r : SX)
  | put (o i e : PX) (r : SX)
  | expr (e : PX) (r : SX)
  | ret (e : PX) (r : SX)
  | retN (r : SX)
  | ite (c : PX) (t u r : SX)
  | whl (c : PX) (t r : SX)
  | for_ (tg : TgD) (it : PX) (t r : SX)
  | raise (n : Ex) (r : SX)
  | try_ (ns : List Ex) (x : Ex) (i j : Nat) (t r : SX)
  | tryf (ns : List Ex) (x : Ex) (i j f : Nat) (t r : SX)
def mnS (Γ : Nat → SpD) (gl : Nat → D) : SX → DTS
  | .nil => dNop
  | .asg tg e r => dSeq (dAsg tg (mn Γ gl e).e) (mnS Γ gl r)
  | .par i j a b r => dSeq (dPar i j (mn Γ gl a).e (mn Γ gl b).e) (mnS Γ gl r)
  | .put o i e r => dSeq (dPut (mn Γ gl o).e (mn Γ gl i).e (mn Γ gl e).e) (mnS Γ gl r)
  | .expr e r => dSeq (dExpr (mn Γ gl e).e) (mnS Γ gl r)
  | .ret e r => dSeq (dRet (mn Γ gl e).e) (mnS Γ gl r)
  | .retN r => dSeq dRetN (mnS Γ gl r)
  | .ite c t u r => dSeq (dIf (mn Γ gl c).t (mnS Γ gl t) (mnS Γ gl u)) (mnS Γ gl r)
  | .whl c t r => dSeq (dWhile (mn Γ gl c).t (mnS Γ gl t)) (mnS Γ gl r)
  | .for_ tg it t r => dSeq (dFor (mn Γ gl it).i tg (mnS Γ gl t)) (mnS Γ gl r)
  | .raise n r => dSeq (dRaise n) (mnS Γ gl r)
  | .try_ ns x i j t r => dSeq (dTry ns x i (mnS Γ gl t) (dSeq (dAsg (.n j) (dVar i)) dNop)) (mnS Γ gl r)
  | .tryf ns x i j f t r => dSeq (dTryf ns x i j (Γ f) (mnS Γ gl t)) (mnS Γ gl r)
def fnK (c : Ck) : Bool := match c.sc.kind with | .function => true | _ => false
def parK (c : Ck) (i j : Nat) (x y : Str) (px py : Pos) (a b : Expr) : Bool :=
  fnK c && decide (c.N[i]? = some x) && decide (c.N[j]? = some y) && decide (i ≠ j) && c.loc x && c.loc y && decide (x ≠ y) && decide (px.line = py.line) && noStar a && noStar b && !([a, b].all (foldedForSure 8)) && !([a, b].all (constantsAlone 8))
def selfK (c : Ck) (x : Str) (p : Pos) (scope : Scope) (pos : Pos) : Bool :=
  fnK c && c.loc x && (p.line == pos.line) && !(scope.names.any fun (n, k) => n == x && (k == .local || k == .cell))
def celK (c : Ck) (x : Str) : Bool := match c.sc.names.lookup x with | some .cell => true | _ => false
def compE (c : Ck) (own : List Nat) (tg : TgD) (it tst e : PX) : Expr → Bool := (kn (.comp own tg it tst e)).e c
def stoTup : Expr → Bool
  | .Tuple vs _ _ => vs.all (foldedForSure 8)
  | _ => true
def asgK (c : Ck) (tg : TgD) (e : PX) : Expr → Expr → Bool
  | .Name x p, .ListComp elt gs scope pos => ((match tg with | .n i => decide (c.N[i]? = some x) | _ => false) && selfK c x p scope pos && (match e with | .comp own t2 it tst el => compE c own t2 it tst el (.ListComp elt gs scope pos) | _ => false))
      || (celK c x && tgOk c tg (.Name x p) && (kn e).e c (.ListComp elt gs scope pos))
  | .Name x p, v => noComp v && tgOk c tg (.Name x p) && (kn e).e c v
  | .Tuple es k p, v => stoTup v && tgOk c tg (.Tuple es k p) && (kn e).e c v
  | _, _ => false
def subOk : Expr → Bool
  | .Slice _ _ _ _ => false
  | .Starred _ _ => false
  | .Tuple _ _ _ => false
  | _ => true
def knS : SX → Ck → List Stmt → Bool
  | .nil => fun c ss => ss.isEmpty
  | .asg tg e r => fun c ss => match ss with | .Assign [t] v _ :: ss => asgK c tg e t v && knS r c ss | _ => false
  | .par i j a b r => fun c ss => match ss with | .Assign [.Tuple [.Name x px, .Name y py] _ _] (.Tuple [u, v] _ _) _ :: ss => parK c i j x y px py u v && (kn a).e c u && (kn b).e c v && knS r c ss | _ => false
  | .put o i e r => fun c ss => match ss with | .Assign [.Subscript a b _] v _ :: ss => subOk b && (kn o).e c a && (kn i).e c b && (kn e).e c v && knS r c ss | _ => false
  | .expr e r => fun c ss => match ss with | .Expr v _ :: ss => noComp v && (kn e).e c v && knS r c ss | _ => false
  | .ret e r => fun c ss => match ss with | .Return (some v) _ :: ss => (kn e).e c v && knS r c ss | _ => false
  | .retN r => fun c ss => match ss with | .Return none _ :: ss => knS r c ss | _ => false
  | .ite k t u r => fun c ss => match ss with | .If v a b _ :: ss => (kn k).t c v && knS t c a && knS u c b && knS r c ss | _ => false
  | .whl k t r => fun c ss => match ss with | .While v a [] _ :: ss => (kn k).t c v && knS t c a && knS r c ss | _ => false
  | .for_ tg it t r => fun c ss => match ss with | .For x v a [] _ :: ss => noSet v && tgOk c tg x && (kn it).i c x v && knS t c a && knS r c ss | _ => false
  | .raise n r => fun c ss => match ss with | .Raise (some (.Call (.Name x _) [.Constant (.str _) _ _] [] _)) none _ :: ss => decide (x = Str.ofString n.nm) && c.gl x && c.exs.contains n && knS r c ss | _ => false
  | .try_ ns x i j t r => fun c ss => match ss with
    | .Try b [.ExceptHandler (some (.Name y _)) (some nm) [.Assign [.Name z _] (.Name z2 _) _] _] [] [] _ :: ss =>
      decide (y = Str.ofString x.nm) && c.gl y && decide (c.N[i]? = some nm) && c.loc nm && decide (z2 = nm) && c.vis nm && decide (c.N[j]? = some z) && c.loc z && (ns.all fun n => c.exs.contains n) && c.exs.contains x && knS t c b && knS r c ss
    | _ => false
  | .tryf ns x i j f t r => fun c ss => match ss with
    | .Try b [.ExceptHandler (some (.Name y _)) (some nm) [.Assign [.Name z _] (.Call (.Name fx _) [.Name z2 _] [] _) _] _] [] [] _ :: ss =>
      decide (y = Str.ofString x.nm) && c.gl y && decide (c.N[i]? = some nm) && c.loc nm && decide (z2 = nm) && c.vis nm && decide (c.N[j]? = some z) && c.loc z && (ns.all fun n => c.exs.contains n) && c.exs.contains x && knS t c b && knS r c ss && decide (c.hot.lookup f = some fx) && c.gl fx
    | _ => false
structure SCtx (c : Ck) (Γ : Nat → SpD) (gl : Nat → D) (C : Ex → Addr) (W : WX) (X : Cx) : Prop extends Ctx c Γ gl C W X where
  own : PassesOwn (model X.prog X.w) X.A X.env X.xe
  exs : ∀ n ∈ c.exs, ExAt X C n
  stkE : X.stack = X.env :: X.outer
  frm : X.env.frame = some X.env.locals
  ex : X.ex = []
  hot : ∀ i x, c.hot.lookup i = some x → FnAtH X C x (Γ i)
section
variable {Γ : Nat → SpD} {gl : Nat → D} {C : Ex → Addr} {c : Ck} {X : Cx} {W : WX}
theorem fn_of (K : Ctx c Γ gl C W X) (h : fnK c = true) : X.env.scope.kind = .function := by
  unfold fnK at h
  rw [K.sc]
  split at h
  · assumption
  · cases h
theorem loc_of (K : Ctx c Γ gl C W X) {x : Str} (h : c.loc x = true) : X.env.scope.names.lookup x = some .local := by
  unfold Ck.loc at h
  rw [K.sc]
  split at h
  · assumption
  · cases h
theorem par_of (K : Ctx c Γ gl C W X) {i j : Nat} {x y : Str} {px py : Pos} {a b : Expr} {kt k2 : Nat} {pt pt2 : Pos} (h : parK c i j x y px py a b = true) :
    swappedStores [.Tuple [.Name x px, .Name y py] kt pt] (.Tuple [a, b] k2 pt2) X.env = pure (some [x, y]) := by
  unfold parK at h
  simp only [Bool.and_eq_true, decide_eq_true_eq, Bool.not_eq_true'] at h
  obtain ⟨⟨⟨⟨⟨⟨⟨⟨⟨⟨⟨h1, h2⟩, h3⟩, h4⟩, h5⟩, h6⟩, h7⟩, h8⟩, h9⟩, h10⟩, h11⟩, h12⟩ := h
  have kx : X.env.kindOf x = some .local := loc_of K h5
  have ky : X.env.kindOf y = some .local := loc_of K h6
  have hb : X.env.blockKind = .function := by unfold Env.blockKind; rw [fn_of K h1]; rfl
  have s1 : ([a, b].any fun | .Starred .. => true | _ => false) = false := by
    have z : ∀ {e : Expr}, noStar e = true → (match e with | .Starred .. => true | _ => false) = false := by
      intro e h
      cases e <;> first | rfl | cases h
    simp only [List.any_cons, List.any_nil, Bool.or_false]
    rw [z h9, z h10]
    rfl
  have hxy : (x == y) = false := by simpa using h7
  have hyx : (y == x) = false := by simpa using fun e => h7 (Eq.symm e)
  have he : [x, y].eraseDups = [x, y] := by
    simp [List.eraseDups_cons, hyx]
  unfold swappedStores
  simp only [s1, hb, List.filterMap_cons, List.filterMap_nil, kx, ky, List.head?, Option.map, Option.getD, Expr.pos, h8, h11, h12, beq_self_eq_true, Bool.true_and, if_true, he, List.length_cons, List.length_nil]
  have s2 := Bool.eq_false_iff.mp s1
  refine (if_neg (by decide)).trans ((if_neg s2).trans ?_)
  rfl
theorem sw_other {e : Expr} {t : Option Expr} {l : Nat} {env : PySem.Env} (h : noComp e = true) : swapsWith e t l env = pure false := by
  cases e <;> first | rfl | cases h
theorem sws_other {e t : Expr} {l : Nat} {env : PySem.Env} (h : noComp e = true) : swapsWithSole [t] e l env = pure false := sw_other (t := some t) h
theorem sws_cell {x : Str} {p pos : Pos} {elt : Expr} {gs : List Comprehension} {scope : Scope} {l : Nat} {env : PySem.Env} (h : env.scope.names.lookup x = some .cell) : swapsWithSole [.Name x p] (.ListComp elt gs scope pos) l env = pure false := by
  have ky : env.kindOf x = some .cell := h
  show swapsWith (.ListComp elt gs scope pos) (some (.Name x p)) l env = pure false
  unfold swapsWith
  simp only [ky, Bool.and_false, Bool.false_and, show (some NameKind.cell == some NameKind.local) = false from rfl]
theorem cel_of (K : Ctx c Γ gl C W X) {x : Str} (h : celK c x = true) : X.env.scope.names.lookup x = some .cell := by
  unfold celK at h
  rw [K.sc]
  split at h
  · assumption
  · cases h
theorem sto_other {x : Str} {p : Pos} {v : Expr} {env : PySem.Env} : swappedStores [.Name x p] v env = pure none := by
  cases v <;> rfl
theorem sto_tup {es : List Expr} {k : Nat} {p : Pos} {v : Expr} {env : PySem.Env} (h : stoTup v = true) : swappedStores [.Tuple es k p] v env = pure none := by
  cases v with
  | Tuple vs k2 p2 =>
    have h : vs.all (foldedForSure 8) = true := h
    unfold swappedStores
    simp only [h, if_true]
    repeat (first | rfl | split)
  | _ => rfl
theorem sto_sub {a b : Expr} {p : Pos} {v : Expr} {env : PySem.Env} : swappedStores [.Subscript a b p] v env = pure none := by
  cases v <;> rfl
theorem sw_tup {es : List Expr} {k : Nat} {p : Pos} {v : Expr} {l : Nat} {env : PySem.Env} : swapsWithSole [.Tuple es k p] v l env = pure false := by
  cases v <;> rfl
theorem sw_sub {a b : Expr} {p : Pos} {v : Expr} {l : Nat} {env : PySem.Env} : swapsWithSole [.Subscript a b p] v l env = pure false := by
  cases v <;> rfl
theorem comp_parts (K : Ctx c Γ gl C W X) {own : List Nat} {tg : TgD} {it tst e : PX} {elt : Expr} {gs : List Comprehension} {scope : Scope} {pos : Pos} (q : (kn (.comp own tg it tst e)).e c (.ListComp elt gs scope pos) = true) :
    ∃ (tgE iter : Expr) (ifs : List Expr) (ow : List (Str × Nat)), gs = [⟨tgE, iter, ifs, 0⟩] ∧ ow.map (·.2) = own ∧ PI X tgE iter (upI X.K C W (mn Γ gl it).i) ∧ BlkOk X.N X.env.scope scope ow ∧
    (∀ (s : Shared) (H : Hp) (A : Addr) (cl : List (Str × Addr)) (fp : List Addr), PG (X.blk s H scope (compEnvC scope cl A X.env) fp) tgE (gUp X.K tg)) ∧
    (∀ (s : Shared) (H : Hp) (A : Addr) (cl : List (Str × Addr)) (fp : List Addr), PTs (X.blk s H scope (compEnvC scope cl A X.env) fp) ifs (upT X.K C W0 (mn Γ gl tst).t)) ∧
    (∀ (s : Shared) (H : Hp) (A : Addr) (cl : List (Str × Addr)) (fp : List Addr), PE (X.blk s H scope (compEnvC scope cl A X.env) fp) elt (up X.K C W0 (mn Γ gl e).e)) ∧
    (∀ x, foldedSetIterable iter X.env x = pure x) ∧ ∀ i ∈ tg.slots, i ∈ ow.map (·.2) := by
  unfold kn at q
  dsimp only [Kn.of] at q
  split at q
  · rename_i elt' tgE iter ifs scope' pos' z
    cases z
    simp only [Bool.and_eq_true] at q
    obtain ⟨⟨⟨⟨⟨⟨q1, q2⟩, q3⟩, q4⟩, q5⟩, q6⟩, q7⟩ := q
    have eo : (own.map fun i => (c.N.getD i "", i)).map (·.2) = own := by
      rw [List.map_map]
      exact List.map_id _
    refine ⟨tgE, iter, ifs, own.map fun i => (c.N.getD i "", i), rfl, eo, (sound it).i c X W tgE iter K q5, (by rw [K.N, K.sc]; exact blkOk_by q1), fun s H A cl fp => tg_of (K.blk scope s H A cl fp) q3, fun s H A cl fp => ?_, fun s H A cl fp => (sound e).e _ _ W0 _ (K.blk scope s H A cl fp) q6, set_of q4, ?_⟩
    · split at q7
      · exact ⟨fun pins s σ H Q I ⟨env, g, Xd, Qd, re, rg, t, cl, cx⟩ => (pts_nil (X := X.blk _ _ scope (compEnvC scope _ _ X.env) _)).run pins s σ H Q I (cl _ _ _ t (.refl _) rg)⟩
      · cases q7
      · exact pts_one ((sound tst).t _ _ W0 _ (K.blk scope s H A cl fp) q7)
      · cases q7
    · intro i hi
      rw [eo]
      have := List.all_eq_true.mp q2 i hi
      simpa using this
  · cases q
theorem asg_of (K : Ctx c Γ gl C W X) {tg : TgD} {e : PX} {t v : Expr} {pos : Pos} (h : asgK c tg e t v = true) : PS X (.Assign [t] v pos) (upS X.K C W (dAsg tg (mn Γ gl e).e)) := by
  unfold asgK at h
  split at h
  · rename_i x p elt gs scope pos'
    simp only [Bool.and_eq_true, Bool.or_eq_true] at h
    rcases h with h | h
    case inr => exact s_asg ((sound e).e c X W _ K h.2) (tg_of K h.1.2) (sws_cell (cel_of K h.1.1)) sto_other rfl
    obtain ⟨⟨h1, h2⟩, h3⟩ := h
    split at h1
    · rename_i i
      have h1 := of_decide_eq_true h1
      split at h3
      · rename_i own t2 it tst el
        obtain ⟨tgE, iter, ifs, ow, rfl, rfl, p1, p2, p3, p4, p5, p6, p7⟩ := comp_parts K h3
        unfold selfK at h2
        simp only [Bool.and_eq_true, Bool.not_eq_true'] at h2
        obtain ⟨⟨⟨a1, a2⟩, a3⟩, a4⟩ := h2
        exact s_setLc K.calm K.nd (by rw [K.N]; exact h1) (loc_of K a2) (sw_true (fn_of K a1) (loc_of K a2) a3 a4) p1 p2 p3 p4 p5 p6 p7
      · cases h3
    · cases h1
  · simp only [Bool.and_eq_true] at h
    exact s_asg ((sound e).e c X W _ K h.2) (tg_of K h.1.2) (sws_other h.1.1) sto_other rfl
  · rename_i es k p v
    simp only [Bool.and_eq_true] at h
    exact s_asg ((sound e).e c X W _ K h.2) (tg_of K h.1.2) sw_tup (sto_tup h.1.1) rfl
  · cases h
theorem sub_of {a b : Expr} {p : Pos} {env : PySem.Env} (h : subOk b = true) : ∀ v, assign (.Subscript a b p) env v = (do
      let ov ← holding [v] (eval a env)
      let iv ← holding [v, ov] (eval b env)
      standAt p
      holding [v, ov, iv] (setItem ov iv v)
      release [v, ov, iv] []) := by
  intro v
  cases b <;> first | rfl | cases h
theorem SCtx.tr (K : SCtx c Γ gl C W X) {W' : WX} {pn : List (Addr × Obj)} {xe : Value → Shared → Prop} (tk : L2N.Takes (X.tr pn xe) W') (po : PassesOwn (model X.prog X.w) X.A X.env xe) : SCtx c Γ gl C W' (X.tr pn xe) where
  N := K.N
  nd := K.nd
  sc := K.sc
  calm := K.calm
  stk := ⟨K.stk.seer, K.stk.tree, K.stk.room, K.stk.stk⟩
  hfn := K.hfn
  fns := fun i x h => by
    obtain ⟨ps, f, fd, k, h1, h2, h3, h4, h5⟩ := K.fns i x h
    exact ⟨ps, f, fd, k, h1, h2, h3, h4, h5⟩
  gls := K.gls
  free := K.free
  exn := K.exn
  tk := tk
  own := po
  exs := fun n hn => ⟨(K.exs n hn).mg, (K.exs n hn).keep, (K.exs n hn).own, (K.exs n hn).raises⟩
  stkE := K.stkE
  frm := K.frm
  ex := K.ex
  hot := fun i x h => by
    obtain ⟨f, fd, ps, k, h1, h2, h3, h4, h5⟩ := (K.hot i x h).ex
    exact ⟨f, fd, ps, k, h1, h2, h3, h4, h5⟩
theorem vis_of (K : Ctx c Γ gl C W X) {x : Str} (h1 : c.vis x = true) : Vis X.env.scope x ∧ (x == ("__debug__" : Str)) = false ∧ (x == ("__classdict__" : Str)) = false := by
  unfold Ck.vis at h1
  simp only [Bool.and_eq_true] at h1
  refine ⟨?_, by simpa using h1.1.2, by simpa using h1.2⟩
  unfold Vis
  rw [K.sc]
  have h3 := h1.1.1
  split at h3
  · exact .inl (by assumption)
  · exact .inr (.inl (by assumption))
  · exact .inr (.inr (by assumption))
  · cases h3
theorem soundS : ∀ (sx : SX) (c : Ck) (X : Cx) (W : WX) (ss : List Stmt), SCtx c Γ gl C W X → knS sx c ss = true → PSs X ss (upS X.K C W (mnS Γ gl sx)) := by
  intro sx
  induction sx with
  | nil =>
    intro c X W ss K h
    cases ss with
    | nil => exact s_nil
    | cons s ss => cases h
  | asg tg e r ih =>
    intro c X W ss K h
    unfold knS at h
    split at h
    · rw [Bool.and_eq_true] at h
      exact s_cons (asg_of K.toCtx h.1) (ih c X W _ K h.2)
    · cases h
  | par i j a b r ih =>
    intro c X W ss K h
    unfold knS at h
    split at h
    · simp only [Bool.and_eq_true] at h
      obtain ⟨⟨⟨h1, h2⟩, h3⟩, h4⟩ := h
      have hw := fun k2 pt2 kt pt => par_of (kt := kt) (pt := pt) (k2 := k2) (pt2 := pt2) K.toCtx h1
      unfold parK at h1
      simp only [Bool.and_eq_true, decide_eq_true_eq, Bool.not_eq_true'] at h1
      obtain ⟨⟨⟨⟨⟨⟨⟨⟨⟨⟨⟨a1, a2⟩, a3⟩, a4⟩, a5⟩, a6⟩, a7⟩, a8⟩, a9⟩, a10⟩, a11⟩, a12⟩ := h1
      exact s_cons (s_par K.calm K.nd (by rw [K.N]; exact a2) (by rw [K.N]; exact a3) a4 (loc_of K.toCtx a5) (loc_of K.toCtx a6) ((sound a).e c X W _ K.toCtx h2) ((sound b).e c X W _ K.toCtx h3) (star_of a9) (star_of a10) (hw _ _ _ _) sw_tup) (ih c X W _ K h4)
    · cases h
  | put o i e r ih =>
    intro c X W ss K h
    unfold knS at h
    split at h
    · simp only [Bool.and_eq_true] at h
      obtain ⟨⟨⟨⟨h1, h2⟩, h3⟩, h4⟩, h5⟩ := h
      refine s_cons (s_sub ((sound o).e c X W _ K.toCtx h2) ((sound i).e c X W _ K.toCtx h3) ((sound e).e c X W _ K.toCtx h4) ?_ sw_sub sto_sub rfl) (ih c X W _ K h5)
      exact sub_of h1
    · cases h
  | expr e r ih =>
    intro c X W ss K h
    unfold knS at h
    split at h
    · simp only [Bool.and_eq_true] at h
      exact s_cons (s_expr ((sound e).e c X W _ K.toCtx h.1.2) (sw_other h.1.1)) (ih c X W _ K h.2)
    · cases h
  | ret e r ih =>
    intro c X W ss K h
    unfold knS at h
    split at h
    · simp only [Bool.and_eq_true] at h
      exact s_cons (s_ret ((sound e).e c X W _ K.toCtx h.1)) (ih c X W _ K h.2)
    · cases h
  | retN r ih =>
    intro c X W ss K h
    unfold knS at h
    split at h
    · exact s_cons s_retN (ih c X W _ K h)
    · cases h
  | ite k t u r ih1 ih2 ih =>
    intro c X W ss K h
    unfold knS at h
    split at h
    · simp only [Bool.and_eq_true] at h
      obtain ⟨⟨⟨h1, h2⟩, h3⟩, h4⟩ := h
      exact s_cons (s_if ((sound k).t c X W _ K.toCtx h1) (ih1 c X W _ K h2) (ih2 c X W _ K h3)) (ih c X W _ K h4)
    · cases h
  | whl k t r ih1 ih =>
    intro c X W ss K h
    unfold knS at h
    split at h
    · simp only [Bool.and_eq_true] at h
      obtain ⟨⟨h1, h2⟩, h4⟩ := h
      exact s_cons (s_while K.own ((sound k).t c X W _ K.toCtx h1) (ih1 c X W _ K h2)) (ih c X W _ K h4)
    · cases h
  | for_ tg it t r ih1 ih =>
    intro c X W ss K h
    unfold knS at h
    split at h
    · simp only [Bool.and_eq_true] at h
      obtain ⟨⟨⟨⟨h0, h1⟩, h2⟩, h3⟩, h4⟩ := h
      exact s_cons (s_for K.own K.calm ((sound it).i c X W _ _ K.toCtx h2) (tg_of K.toCtx h1) (ih1 c X W _ K h3) (set_of h0)) (ih c X W _ K h4)
    · cases h
  | raise n r ih =>
    intro c X W ss K h
    unfold knS at h
    split at h
    · simp only [Bool.and_eq_true, decide_eq_true_eq] at h
      obtain ⟨⟨⟨h0, h1⟩, h2⟩, h3⟩ := h
      subst h0
      obtain ⟨g1, g2⟩ := K.glb h1
      exact s_cons (s_raise K.calm K.tk (K.exs n (by simpa using h2)) g1 g2) (ih c X W _ K h3)
    · cases h
  | try_ ns x i j t r ih1 ih =>
    intro c X W ss K h
    unfold knS at h
    split at h
    · rename_i b y np nm z zp z2 z2p ap hp tp ss'
      simp only [Bool.and_eq_true, decide_eq_true_eq] at h
      obtain ⟨⟨⟨⟨⟨⟨⟨⟨⟨⟨⟨h1, h2⟩, h3⟩, h4⟩, h5⟩, h6⟩, h7⟩, h8⟩, h9⟩, h10⟩, h11⟩, h12⟩ := h
      subst h1 h5
      obtain ⟨g1, g2⟩ := K.glb h2
      obtain ⟨v1, v2, v3⟩ := vis_of K.toCtx h6
      have N := K.N
      refine s_cons (d_try K.stkE K.frm K.ex K.nd (by rw [N]; exact h3) (loc_of K.toCtx h4) (K.exn x (by simpa using h10)) g1 g2 (fun n hn => K.exn n (by simpa using List.all_eq_true.mp h9 n hn)) K.tk (fun W' pn xe tk po => ih1 c (X.tr pn xe) W' b (K.tr tk po) h11) fun a pn => ?_) (ih c X W _ K h12)
      exact s_cons (X := X.suite a pn) (s_set (X := X.suite a pn) K.nd (by rw [show (X.suite a pn).N = c.N from N]; exact h7) (.inl (loc_of K.toCtx h8)) (d_var (X := X.suite a pn) (by rw [show (X.suite a pn).N = c.N from N]; exact h3) v1 v2 v3) (sw_other rfl) (.inr (loc_of K.toCtx h8))) s_nil
    · cases h
  | tryf ns x i j f t r ih1 ih =>
    intro c X W ss K h
    unfold knS at h
    split at h
    · rename_i b y np nm z zp fx fp z2 z2p cp ap hp tp ss'
      simp only [Bool.and_eq_true, decide_eq_true_eq] at h
      obtain ⟨⟨⟨⟨⟨⟨⟨⟨⟨⟨⟨⟨⟨h1, h2⟩, h3⟩, h4⟩, h5⟩, h6⟩, h7⟩, h8⟩, h9⟩, h10⟩, h11⟩, h12⟩, h13⟩, h14⟩ := h
      subst h1 h5
      obtain ⟨g1, g2⟩ := K.glb h2
      obtain ⟨g3, g4⟩ := K.glb h14
      obtain ⟨v1, v2, v3⟩ := vis_of K.toCtx h6
      have N := K.N
      exact s_cons (d_tryf K.stkE K.frm K.ex K.nd (by rw [N]; exact h3) (loc_of K.toCtx h4) (K.exn x (by simpa using h10)) g1 g2 (fun n hn => K.exn n (by simpa using List.all_eq_true.mp h9 n hn)) K.tk (fun W' pn xe tk po => ih1 c (X.tr pn xe) W' b (K.tr tk po) h11) (by rw [N]; exact h7) (loc_of K.toCtx h8) v1 v2 v3 (K.hot f _ h13) g3 g4) (ih c X W _ K h12)
    · cases h
end
end PP
namespace PP
open PySem PySem.Spec PyProof.Rows L2
structure CtxV (c : Ck) (X : Cx) : Prop where
  N : X.N = c.N
  nd : X.N.Nodup
  sc : X.env.scope = c.sc
  hfn : ∀ x, c.fn x = true → X.fn x = true
structure CtxH (c : Ck) (C : Ex → Addr) (X : Cx) : Prop extends CtxV c X where
  hot : HotF X
  un : X.A.units + 65 < cLine
  free : ∀ x ∈ bltNames, X.mg (Str.ofString x) = none
  exn : ∀ n ∈ c.exs, ExN X.K X.mg C n
structure SndH (Γ : Nat → SpD) (gl : Nat → D) (C : Ex → Addr) (px : PX) : Prop where
  e : ∀ (c : Ck) (X : Cx) (W : WX) (x : Expr), CtxH c C X → (kn px).e c x = true → PE X x (up X.K C W (mn Γ gl px).e)
  t : ∀ (c : Ck) (X : Cx) (W : WX) (x : Expr), CtxH c C X → (kn px).t c x = true → PT X x (upT X.K C W (mn Γ gl px).t)
  w : ∀ (c : Ck) (X : Cx) (W : WX) (op : BoolOp) (es : List Expr) (pos : Pos), CtxH c C X → (kn px).w c op es = true → PW X (.BoolOp op es pos) (upT X.K C W (mn Γ gl px).t)
  ve : ∀ (c : Ck) (X : Cx) (W : WX) (op : BoolOp) (es : List Expr) (pos : Pos), CtxH c C X → (kn px).ve c op es = true → PE X (.BoolOp op es pos) (up X.K C W (mn Γ gl px).e)
  a : ∀ (c : Ck) (X : Cx) (W : WX) (es : List Expr), CtxH c C X → (kn px).a c es = true → PA X es (upA X.K C W (mn Γ gl px).a)
theorem SndH.of {Γ : Nat → SpD} {gl : Nat → D} {C : Ex → Addr} {px : PX} {k : Ck → Expr → Bool} {m : DTE} (hk : kn px = Kn.of k) (hm : mn Γ gl px = Mn.of m) (h : ∀ (c : Ck) (X : Cx) (W : WX) (x : Expr), CtxH c C X → k c x = true → PE X x (up X.K C W m)) : SndH Γ gl C px where
  e := fun c X W x K q => by rw [hk] at q; rw [hm]; exact h c X W x K q
  t := fun c X W x K q => by
    rw [hk] at q; rw [hm]
    have q' : (k c x && tstOk x) = true := q
    rw [Bool.and_eq_true] at q'
    exact t_val (h c X W x K q'.1) (tst_of q'.2)
  w := fun c X W op es pos K q => by
    rw [hk] at q; rw [hm]
    obtain ⟨e, rfl, q'⟩ := one_of (show one (fun e => k c e && tstOk e) es = true from q)
    rw [Bool.and_eq_true] at q'
    have z := t_val (h c X W _ K q'.1) (tst_of q'.2)
    cases op
    · exact t_and1 z
    · exact t_or1 z
  ve := fun c X W op es pos K q => by
    rw [hk] at q; rw [hm]
    obtain ⟨e, rfl, q'⟩ := one_of (show one (k c) es = true from q)
    exact v_one (h c X W _ K q')
  a := fun c X W es K q => by rw [hk] at q; cases q
section
variable {Γ : Nat → SpD} {gl : Nat → D} {C : Ex → Addr} {c : Ck} {X : Cx} {W : WX}
theorem CtxH.glb {x : Str} (K : CtxH c C X) (h : c.gl x = true) : Gl X x ∧ (x == ("__debug__" : Str)) = false := by
  unfold Ck.gl at h
  simp only [Bool.and_eq_true] at h
  obtain ⟨h1, h2⟩ := h
  refine ⟨?_, by simpa using h2⟩
  show X.env.scope.names.lookup x = _
  rw [K.sc]
  split at h1
  · assumption
  · cases h1
end
end PP
namespace PP
open PySem PySem.Spec PyProof.Rows L2
section
variable {Γ : Nat → SpD} {gl : Nat → D} {C : Ex → Addr} {c : Ck} {X : Cx} {W : WX}
theorem CtxV.blk (K : CtxV c X) (scope : Scope) (s : Shared) (H : Hp) (A : Addr) (cl : List (Str × Addr)) (fp : List Addr) :
    CtxV (c.blk scope) (X.blk s H scope (compEnvC scope cl A X.env) fp) where
  N := K.N
  nd := K.nd
  sc := by
    show relS scope X.env.scope = relS scope c.sc
    rw [K.sc]
  hfn := fun x h => h
theorem CtxV.tgt {i : Nat} {x : Str} (K : CtxV c X) (h : c.tgt i x = true) : X.N[i]? = some x ∧ L2.Loc X.env.scope x ∧ (X.fn x = true ∨ X.env.scope.names.lookup x = some .local) := by
  unfold Ck.tgt at h
  simp only [Bool.and_eq_true, decide_eq_true_eq] at h
  obtain ⟨h1, h2⟩ := h
  refine ⟨by rw [K.N]; exact h1, ?_, ?_⟩
  · unfold L2.Loc
    rw [K.sc]
    split at h2
    · exact .inl (by assumption)
    · exact .inr (by assumption)
    · cases h2
  · rw [K.sc]
    split at h2
    · exact .inr (by assumption)
    · exact .inl (K.hfn _ h2)
    · cases h2
end
end PP
namespace PP
open PySem PySem.Spec PyProof.Rows L2
def G.le (g g' : G) : Prop := ∀ a xs, g a = some xs → g' a = some xs
theorem G.le_refl (g : G) : g.le g := fun _ _ h => h
theorem G.le_trans {g g' g'' : G} (a : g.le g') (b : g'.le g'') : g.le g'' := fun _ _ h => b _ _ (a _ _ h)
theorem G.le_up {g g' : G} {p : Addr} {xs : List D} (h : g.le g') (hp : g p = none) : g.le (g'.up p xs) := fun b ys e => by
  unfold G.up
  split
  · rename_i z; subst z; rw [hp] at e; cases e
  · exact h _ _ e
theorem RepG.le {K : PySem.W.Frag} {H : Hp} {g g' : G} (h : RepG K H g') (l : g.le g') : RepG K H g := fun a ds e => h a ds (l a ds e)
def endsOf (Q : QD) (X : XD) : DEnds where
  nx := fun _ g' => ∃ g, g.le g' ∧ Q .non g
  rt := fun d g' => ∃ g, g.le g' ∧ Q d g
  ex := fun n _ g' => ∃ g, g.le g' ∧ X n g
def startD (N : List Str) (ds : List D) : Env := ds.map some ++ List.replicate (N.length - ds.length) none
theorem rep_start {K : PySem.W.Frag} {H : Hp} {N : List Str} {ds : List D} {vs : List V} (h : RepL K H ds vs) : RepE K H (startD N ds) (L2.start N vs) := by
  have hl := h.length
  refine ⟨by simp [startD, L2.start, hl], fun i d e => ?_⟩
  unfold startD at e
  unfold L2.start
  by_cases hi : i < ds.length
  · rw [List.getElem?_append_left (by simpa using hi)] at e
    rw [List.getElem?_append_left (by simpa [hl] using hi)]
    rw [List.getElem?_map] at e ⊢
    cases q : ds[i]? with
    | none => rw [q] at e; cases e
    | some d' =>
      rw [q] at e
      cases e
      obtain ⟨v, e1, r⟩ := h.get q
      exact ⟨v, by rw [e1]; rfl, r⟩
  · rw [List.getElem?_append_right (by simpa using hi)] at e
    rw [List.getElem?_replicate] at e
    split at e <;> cases e
theorem FnOk.late {P : Program} {w : World} {K : PySem.W.Frag} {mg : Str → Option Value} {base : Heap} {CX : CXT} {k : Nat} {f : Addr} {fd : FuncData} {ps : List Str} {sp : Sp} (len : ∀ vs H Q E, sp vs H Q E → vs.length = ps.length)
    (h : Mod K mg base → FnOk P w K mg base CX k f fd ps sp) : FnOk P w K mg base CX k f fd ps sp :=
  ⟨len, fun A outer s H args us vs Q E hr e0 hb r hsp => (h e0.mod).run A outer s H args us vs Q E hr e0 hb r hsp⟩
structure Fnd (P : Program) (w : World) (K : PySem.W.Frag) (mg : Str → Option Value) (base : Heap) (C : Ex → Addr) (k : Nat) (x : Str) (sp : SpD) : Prop where
  ex : ∃ (f : Addr) (fd : FuncData) (ps : List Str), mg x = some (.ref f) ∧ PySem.W.keepIn K (.ref f) = true ∧ Binds K fd ps [] ∧ FnOk P w K mg base (L2N.CX P w) k f fd ps (liftSp K C sp)
structure ExF (K : PySem.W.Frag) (mg : Str → Option Value) (C : Ex → Addr) (n : Ex) : Prop where
  mg : mg n.nm = some (.ref (C n))
  keep : PySem.W.keepIn K (.ref (C n)) = true
  own : ∃ bm, ExcBaseFacts "ValueError" "ValueError.__new__" "ValueError.__init__" bm ∧ PySem.W.excIn K (C n) bm "ValueError.__new__" = true
  sub : PySem.W.subIn K (.ref (C n)) (.type "BaseException") = some true
  typ : PySem.W.typeIn K (.ref (C n)) = some (.type "type")
  ns : ExNs K n (C n)
  k : ExK K n (C n)
structure ModF (P : Program) (w : World) (K : PySem.W.Frag) (mg : Str → Option Value) (base : Heap) (C : Ex → Addr) (Γ : Nat → SpD) (gl : Nat → D) (fns gls : List (Nat × Str)) (exs : List Ex) (k : Nat) : Prop where
  seer : Mod K mg base → base.NoSeer
  tree : P.given.tree = none
  fns : ∀ i x, fns.lookup i = some x → Fnd P w K mg base C k x (Γ i)
  gls : ∀ i x, (i, x) ∈ gls → ∃ u v, mg x = some u ∧ RelV v u ∧ ∀ H, Rep K H (gl i) v
  free : ∀ x ∈ bltNames, mg (Str.ofString x) = none
  exs : ∀ n ∈ exs, ExF K mg C n
def ckOf (N : List Str) (sc : Scope) (fns gls : List (Nat × Str)) (exs : List Ex) : Ck := ⟨N, sc, fun _ => true, fns, gls, exs, []⟩
structure FndH (P : Program) (w : World) (K : PySem.W.Frag) (mg : Str → Option Value) (base : Heap) (C : Ex → Addr) (k : Nat) (x : Str) (sp : SpD) : Prop where
  ex : ∃ (f : Addr) (fd : FuncData) (ps : List Str), mg x = some (.ref f) ∧ PySem.W.keepIn K (.ref f) = true ∧ Binds K fd ps [] ∧ FnHF P w K mg base k f fd ps (liftSp K C sp)
def ckOf2 (N : List Str) (sc : Scope) (fns gls : List (Nat × Str)) (exs : List Ex) (hot : List (Nat × Str)) : Ck := { ckOf N sc fns gls exs with hot := hot }
section
variable {P : Program} {w : World} {K : PySem.W.Frag} {mg : Str → Option Value} {base : Heap} {C : Ex → Addr} {Γ : Nat → SpD} {gl : Nat → D} {fns gls : List (Nat × Str)} {exs : List Ex} {k : Nat}
theorem ok_def2 {hot : List (Nat × Str)} {x qual : Str} {params : Arguments} {body : List Stmt} {scope : Scope} {dvs : List V} {kws : List (Str × V)} {f : Addr} {fd : FuncData} {N ps : List Str} {sx : SX} {sp : SpD}
    (M : ModF P w K mg base C Γ gl fns gls exs k) (hk : 40 ≤ k) (F : FunD K x qual params body scope dvs kws f fd) (S : FnScope N ps scope) (HF : ∀ i x, hot.lookup i = some x → FndH P w K mg base C k x (Γ i)) (chk : knS sx (ckOf2 N scope fns gls exs hot) body = true)
    (len : ∀ ds g Q E, sp ds g Q E → ds.length = ps.length) (pure : ∀ ds g Q E, sp ds g Q E → mnS Γ gl sx (endsOf Q E) (startD N ds) g) : FnOk P w K mg base (L2N.CX P w) (k + 1) f fd ps (liftSp K C sp) := by
  have len' : ∀ vs H Q E, liftSp K C sp vs H Q E → vs.length = ps.length := fun vs H Q E ⟨ds, g, Qd, Xd, r, _, h, _⟩ => by rw [r.length, len _ _ _ _ h]
  refine FnOk.late len' fun hM => F.ok S len' fun cdv A outer s H vs Q E hr ⟨ds, g, Qd, Xd, r, rg, h, cl, cx⟩ => ?_
  refine ⟨_, soundS (Γ := Γ) (gl := gl) (C := C) sx _ _ (fun cls d _ H => E cls d H) body ?_ chk, ?_⟩
  · refine ⟨⟨rfl, S.nd, rfl, rfl, ⟨M.seer hM, M.tree, hr.mono hk, ⟨_, outer, rfl, S.gen, S.co, rfl, rfl⟩⟩, fun _ _ => rfl, fun i y hy => ?_, M.gls, M.free, fun n hn => ⟨(M.exs n hn).mg, (M.exs n hn).ns, (M.exs n hn).k⟩, L2N.takes_of rfl rfl rfl rfl⟩, passes_of rfl, fun n hn => ?_, rfl, rfl, rfl, fun i y hy => ?_⟩
    · obtain ⟨f, fd, ps, h1, h2, h3, h4⟩ := (M.fns i y hy).ex
      exact ⟨ps, f, fd, k, h1, h2, h3, h4, hr⟩
    · have e := M.exs n hn
      exact ⟨e.mg, e.keep, e.own, raises_own e.sub e.typ⟩
    · obtain ⟨f, fd, ps, h1, h2, h3, h4⟩ := (HF i y hy).ex
      exact ⟨f, fd, ps, k, h1, h2, h3, h4, L2H.roomH_of hr⟩
  · refine ⟨startD N ds, g, endsOf Qd Xd, rep_start r, rg, pure _ _ _ _ h, ?_, ?_, ?_⟩
    · rintro env g' σ H' ⟨g0, l, q⟩ t r1 r2
      exact cl _ _ _ _ q t (r2.le l) rfl
    · rintro d g' v H' ⟨g0, l, q⟩ t r1 r2
      exact cl _ _ _ _ q t (r1.le l) r2
    · rintro n env g' σ H' ⟨g0, l, q⟩ t r1 r2
      exact cx _ _ _ q t (r2.le l)
theorem ok_def {x qual : Str} {params : Arguments} {body : List Stmt} {scope : Scope} {dvs : List V} {kws : List (Str × V)} {f : Addr} {fd : FuncData} {N ps : List Str} {sx : SX} {sp : SpD}
    (M : ModF P w K mg base C Γ gl fns gls exs k) (hk : 40 ≤ k) (F : FunD K x qual params body scope dvs kws f fd) (S : FnScope N ps scope) (chk : knS sx (ckOf N scope fns gls exs) body = true)
    (len : ∀ ds g Q E, sp ds g Q E → ds.length = ps.length) (pure : ∀ ds g Q E, sp ds g Q E → mnS Γ gl sx (endsOf Q E) (startD N ds) g) : FnOk P w K mg base (L2N.CX P w) (k + 1) f fd ps (liftSp K C sp) :=
  ok_def2 (hot := []) M hk F S (fun _ _ h => by cases h) chk len pure
end
end PP
set_option maxHeartbeats 2000000
namespace PP
open PySem PySem.Spec PyProof.Rows L2
def atomB : D → Value → Bool
  | .int i, .int j _ => decide (i = j)
  | .str x, .str y _ => decide (x = y)
  | .bl b, .bool c => b == c
  | .non, .none => true
  | _, _ => false
def atomV : D → V
  | .int i => .int i
  | .str x => .str x
  | .bl b => .bl b
  | _ => .non
def atomsB : List D → List Value → Bool
  | [], [] => true
  | d :: ds, u :: us => atomB d u && atomsB ds us
  | _, _ => false
def conB (K : PySem.W.Frag) : D → Value → Bool
  | .tup ds, .ref a => (match K.lookup a with
    | some ⟨.type c, _, .seq its _, _⟩ => decide (c = "tuple") && (decide (its.size ≤ sizeLine) && atomsB ds its.toList)
    | _ => false)
  | d, u => atomB d u
theorem atom_ok {d : D} {u : Value} (h : atomB d u = true) : RelV (atomV d) u ∧ ∀ K H, Rep K H d (atomV d) := by
  unfold atomB at h
  split at h
  · have e := of_decide_eq_true h
    subst e
    exact ⟨⟨_, rfl⟩, fun _ _ => rfl⟩
  · have e := of_decide_eq_true h
    subst e
    exact ⟨⟨_, rfl⟩, fun _ _ => rfl⟩
  · have e := eq_of_beq h
    subst e
    exact ⟨rfl, fun _ _ => rfl⟩
  · exact ⟨rfl, fun _ _ => rfl⟩
  · cases h
theorem atoms_ok : ∀ {ds : List D} {us : List Value}, atomsB ds us = true → Vals (ds.map atomV) us ∧ ∀ K H, RepL K H ds (ds.map atomV)
  | [], [], _ => ⟨.nil, fun _ _ => rfl⟩
  | [], _ :: _, h => by cases h
  | _ :: _, [], h => by cases h
  | d :: ds, u :: us, h => by
    have h : (atomB d u && atomsB ds us) = true := h
    rw [Bool.and_eq_true] at h
    obtain ⟨a, b⟩ := atom_ok h.1
    obtain ⟨c, e⟩ := atoms_ok h.2
    exact ⟨.cons a c, fun K H => ⟨_, _, rfl, b K H, e K H⟩⟩
theorem con_ok {K : PySem.W.Frag} {d : D} {u : Value} (h : conB K d u = true) : ∃ v, RelV v u ∧ ∀ H, Rep K H d v := by
  unfold conB at h
  split at h
  · rename_i ds a
    split at h
    · rename_i c od its n osl q
      simp only [Bool.and_eq_true, decide_eq_true_eq] at h
      obtain ⟨h1, h2, h3⟩ := h
      subst h1
      obtain ⟨r, e⟩ := atoms_ok h3
      exact ⟨.ref a, rfl, fun H => ⟨a, _, rfl, .inr ⟨_, its, n, q, rfl, rfl, h2, r⟩, e K H⟩⟩
    · cases h
  · obtain ⟨a, b⟩ := atom_ok h
    exact ⟨_, a, fun H => b K H⟩
def glB (K : PySem.W.Frag) (p : Str × D) : Bool := match PySem.W.nsIn K mainGlobals p.1 with
  | some (some u) => conB K p.2 u
  | _ => false
theorem gl_ok {K : PySem.W.Frag} {h : Heap} {mg : Str → Option Value} (X : K.In h) (G : h.Ns mainGlobals mg) {p : Str × D} (c : glB K p = true) : ∃ u v, mg p.1 = some u ∧ RelV v u ∧ ∀ H, Rep K H p.2 v := by
  unfold glB at c
  split at c
  · rename_i u e
    obtain ⟨v, r, rr⟩ := con_ok c
    exact ⟨u, v, PySem.W.mg_of X G e, r, rr⟩
  · cases c
def bmB (K : PySem.W.Frag) : Bool := match PySem.W.nsIn K mainGlobals "__builtins__" with
  | some (some (.ref b)) => (K.lookup b).isSome
  | _ => false
def seerB (K : PySem.W.Frag) : Bool := (K.lookup cStatics).isSome && (K.lookup sysModules).isSome && bmB K
theorem ns_back {K : PySem.W.Frag} {h base : Heap} {a : Addr} {m : Str → Option Value} (X : K.In h) (Y : K.In base) (s : (K.lookup a).isSome = true) (n : h.Ns a m) : base.Ns a m := by
  obtain ⟨o, es, ep, e, r⟩ := n
  obtain ⟨o', e'⟩ := Option.isSome_iff_exists.mp s
  have z := X _ _ e'
  rw [e] at z
  cases z
  exact ⟨o, es, ep, Y _ _ e', r⟩
theorem seer_of {K : PySem.W.Frag} {h base : Heap} {mg : Str → Option Value} (X : K.In h) (G : h.Ns mainGlobals mg) (S : h.NoSeer) (c : seerB K = true) (M : Mod K mg base) : base.NoSeer := by
  unfold seerB at c
  simp only [Bool.and_eq_true] at c
  obtain ⟨⟨c1, c2⟩, c3⟩ := c
  refine ⟨?_, ?_, M.blt, ?_⟩
  · obtain ⟨mc, n, r⟩ := S.statics
    exact ⟨mc, ns_back X M.kin c1 n, r⟩
  · obtain ⟨mc, n, r⟩ := S.mods
    exact ⟨mc, ns_back X M.kin c2 n, r⟩
  · obtain ⟨mg', bm, ob, n, e, g, r⟩ := S.main
    unfold bmB at c3
    split at c3
    · rename_i b q
      have e1 := PySem.W.mg_of X n q
      rw [e] at e1
      cases e1
      obtain ⟨o', e'⟩ := Option.isSome_iff_exists.mp c3
      have z := X _ _ e'
      rw [g] at z
      cases z
      exact ⟨mg, _, ob, M.glob, PySem.W.mg_of X G q, M.kin _ _ e', r⟩
    · cases c3
def excCB (K : PySem.W.Frag) (D : Addr) : Bool :=
  decide (PySem.W.findIn K (.ref D) "__getattribute__" = some (some (.builtin "BaseException.__getattribute__"))) && (decide (PySem.W.findIn K (.ref D) "__getattr__" = some none) && (decide (PySem.W.subIn K (.ref D) (.type "BaseException") = some true) && (PySem.W.hasDictIn K D && (decide (PySem.W.findIn K (.ref D) "__class__" = some (some (.builtin "object.__class__"))) && (decide (PySem.W.specialIn K (.builtin "object.__class__") "__get__" = some (some (.builtin "getset_descriptor.__get__"))) && (decide (PySem.W.takesIn K (.builtin "object.__class__") = some true) && decide (PySem.W.mroIn K D (.type "object") = some true)))))))
theorem excC_ok {K : PySem.W.Frag} {D : Addr} (c : excCB K D = true) : ExcC K D := by
  unfold excCB at c
  simp only [Bool.and_eq_true, decide_eq_true_eq] at c
  obtain ⟨c1, c2, c3, c4, c5, c6, c7, c8⟩ := c
  exact ⟨c1, c2, c3, c4, c5, c6, c7, c8⟩
def pairB (K : PySem.W.Frag) (n : Ex) (c : Addr) (m : Ex) : Bool := match PySem.W.nsIn K mainGlobals (Str.ofString m.nm) with
  | some (some (.ref c')) => decide (PySem.W.kitOne K (.ref c) (.ref c') = some (n.sub m)) && decide (PySem.W.exmOne K (.ref c) (.ref c') = some (n.sub m))
  | _ => true
def exB (K : PySem.W.Frag) (n : Ex) : Bool := excCB K (He.ga K (Str.ofString n.nm)) && (decide (PySem.W.kitOne K (.ref (He.ga K (Str.ofString n.nm))) (.type "ValueError") = some true) && Ex.all.all fun m => pairB K n (He.ga K (Str.ofString n.nm)) m)
theorem ex_ok {K : PySem.W.Frag} {n : Ex} (c : exB K n = true) : ExK K n (He.ga K (Str.ofString n.nm)) := by
  unfold exB at c
  simp only [Bool.and_eq_true, decide_eq_true_eq] at c
  obtain ⟨c1, c2, c3⟩ := c
  have p : ∀ m c', ExNs K m c' → PySem.W.kitOne K (.ref (He.ga K (Str.ofString n.nm))) (.ref c') = some (n.sub m) ∧ PySem.W.exmOne K (.ref (He.ga K (Str.ofString n.nm))) (.ref c') = some (n.sub m) := fun m c' e => by
    have z := List.all_eq_true.mp c3 m (Ex.mem_all m)
    unfold pairB at z
    rw [show PySem.W.nsIn K mainGlobals (Str.ofString m.nm) = some (some (.ref c')) from e] at z
    simpa using z
  exact ⟨excC_ok c1, fun m c' e => (p m c' e).1, fun m c' e => (p m c' e).2, c2⟩
abbrev AlP : Type := He.AlD × Bool
def obsP (fa : List He.Fa) (fn : List He.DefD) (tb : List (Str × D)) (ex : List Ex) (K : PySem.W.Frag) : AlP := (He.obsD fa fn K, seerB K && ((tb.all fun p => glB K p) && ex.all fun n => exB K n))
def obsPG (n : Nat) (fa : List He.Fa) (fn : List He.DefD) (tb : List (Str × D)) (ex : List Ex) (g : Addr → Option Obj) : AlP := obsP fa fn tb ex (He.frG g (He.asD g n ++ [cStatics, sysModules]))
def SaysP (fa : List He.Fa) (fn : List He.DefD) (tb : List (Str × D)) (ex : List Ex) (K : PySem.W.Frag) : Prop := obsP fa fn tb ex K = (He.valD fn, true)
def hookP (n : Nat) (fa : List He.Fa) (fn : List He.DefD) (tb : List (Str × D)) (ex : List Ex) : PySem.W.Hook where
  α := AlP
  obs := fun s => obsPG n fa fn tb ex s.heap.get?
  val := fun _ => (He.valD fn, true)
  says := fun _ h => ∃ K : PySem.W.Frag, K.In h ∧ SaysP fa fn tb ex K
  of := fun _ _ e => ⟨_, He.frG_in, e⟩
  keeps := fun _ _ _ ⟨K, hK, c⟩ k => ⟨K, PySem.W.Frag.In.keeps hK k, c⟩
theorem obsPG_eq {n : Nat} {fa : List He.Fa} {fn : List He.DefD} {tb : List (Str × D)} {ex : List Ex} {g : Addr → Option Obj} {s : Shared} (h : ∀ a, g a = s.heap.get? a) : obsPG n fa fn tb ex g = (hookP n fa fn tb ex).obs s := by
  have e : g = s.heap.get? := funext h
  rw [e] <;> rfl
section
variable {fa : List He.Fa} {fn : List He.DefD} {tb : List (Str × D)} {ex : List Ex} {K : PySem.W.Frag}
theorem SaysP.d (c : SaysP fa fn tb ex K) : He.SaysD fa fn K := congrArg Prod.fst c
theorem SaysP.all (c : SaysP fa fn tb ex K) : (seerB K && ((tb.all fun p => glB K p) && ex.all fun n => exB K n)) = true := congrArg Prod.snd c
theorem SaysP.seer (c : SaysP fa fn tb ex K) : seerB K = true := (Bool.and_eq_true_iff.mp c.all).1
theorem SaysP.gl (c : SaysP fa fn tb ex K) (i : Nat) {p : Str × D} (h : tb[i]? = some p) : glB K p = true :=
  List.all_eq_true.mp (Bool.and_eq_true_iff.mp (Bool.and_eq_true_iff.mp c.all).2).1 p (List.mem_of_getElem? h)
theorem SaysP.exB (c : SaysP fa fn tb ex K) {n : Ex} (h : n ∈ ex) : exB K n = true :=
  List.all_eq_true.mp (Bool.and_eq_true_iff.mp (Bool.and_eq_true_iff.mp c.all).2).2 n h
end
theorem walk_P {l : PySem.W.OpenLaw} {n k : Nat} {q : Program} {loose : List Str} {XP : (Str → Option Value) → Heap → Prop} {YP : World → Heap → Prop} {d : DefRec} {x : Str}
    (hn : l.most = some n) (hn2 : n ≤ sizeLine) (hdf : d.params.defaults = []) (hr : Room k callerA) (hi : importsNone q = true)
    (F : ∀ (w : World) (mg : Str → Option Value) (fa : Addr) (h : Heap), YP w h → h.Ns mainGlobals mg → mg d.name = some (.ref fa) → h.NoSeer →
      ∃ (K : PySem.W.Frag) (fd : FuncData) (sp : Sp), K.In h ∧ (∀ (s : Shared) (u : Value), BindsTo s fd ⟨[u], []⟩ [(x, u)]) ∧
        (∀ (H : Hp) (a : Addr) (ns : List Int), ns.length ≤ n → (∀ z ∈ ns, Builtin.Int.intBits z ≤ 1048576) → Only H → SqL K H a (ns.map V.int) → sp [.ref a] H (fun v _ => v = .bl true) fun _ _ _ => False) ∧
        ∀ base : Heap, K.In base → base.Ns mainGlobals mg → FnOk l.prog w K mg base (L2N.CX l.prog w) k fa fd [x] sp) :
    PySem.W.WalkO q loose XP YP l.row.toRowW d [] (fun f vs => PySem.call f vs) := by
  refine Att.attach_callB hn hdf fun w s₀ s₁ mg mb fa o pm cd doc a vs ns G Y ho hd hcd hmg hobj hints hlen hbits hg => ?_
  obtain ⟨K, fd, sp, KX, hb, hsp, hF⟩ := F w mg fa _ Y G.T.g hmg (G.T.seer hi)
  exact law_call KX G.T.g G.T.b G.T.builtins G.T.nolimit hg hobj hints (Nat.le_trans hlen hn2) hr hF hb (fun H hO hS => hsp H a ns hlen hbits hO hS) fun H e s' z => by
    obtain ⟨_, _, _, _, _, _, _, _, _, _, _, _, h⟩ := z
    exact h
end PP
namespace PP
open PySem PySem.Spec PyProof.Rows L2
theorem Fnd.mono {P : Program} {w : World} {K : PySem.W.Frag} {mg : Str → Option Value} {base : Heap} {C : Ex → Addr} {j k : Nat} {x : Str} {sp : SpD} (F : Fnd P w K mg base C j x sp) (h : j ≤ k) : Fnd P w K mg base C k x sp := by
  obtain ⟨f, fd, ps, h1, h2, h3, h4⟩ := F.ex
  exact ⟨f, fd, ps, h1, h2, h3, h4.mono h⟩
abbrev FnP (K : PySem.W.Frag) (x : Str) (st : Stmt) (f : Addr) (fd : FuncData) : Prop := FunD K x x (defArgs st) (defBody st) (defScope st) [] [] f fd
structure DefOk (Γ : Nat → SpD) (gl : Nat → D) (fns gls : List (Nat × Str)) (exs : List Ex) (st : Stmt) (sp : SpD) : Prop where
  ex : ∃ (N ps : List Str) (sx : SX), FnScope N ps (defScope st) ∧ knS sx (ckOf N (defScope st) fns gls exs) (defBody st) = true ∧
    (∀ (x : Str) (K : PySem.W.Frag) (f : Addr) (fd : FuncData), FnP K x st f fd → Binds K fd ps []) ∧ (∀ ds g Q E, sp ds g Q E → ds.length = ps.length) ∧
    ∀ ds g Q E, sp ds g Q E → mnS Γ gl sx (endsOf Q E) (startD N ds) g
section
variable {P : Program} {w : World} {K : PySem.W.Frag} {mg : Str → Option Value} {base : Heap} {C : Ex → Addr} {Γ : Nat → SpD} {gl : Nat → D} {fns gls : List (Nat × Str)} {exs : List Ex} {k : Nat}
theorem chain (i : Nat) {x : Str} {st : Stmt} {f : Addr} {fd : FuncData} (M : ModF P w K mg base C Γ gl fns gls exs k) (hk : Nat.ble 40 k = true) (F : FnP K x st f fd) (hm : mg x = some (.ref f)) (D : DefOk Γ gl fns gls exs st (Γ i)) :
    ModF P w K mg base C Γ gl ((i, x) :: fns) gls exs (k + 1) := by
  obtain ⟨N, ps, sx, S, chk, hb, len, pure⟩ := D.ex
  have hk := Nat.le_of_ble_eq_true hk
  refine ⟨M.seer, M.tree, fun j y hy => ?_, M.gls, M.free, M.exs⟩
  rw [List.lookup_cons] at hy
  split at hy
  · rename_i e
    have e := eq_of_beq e
    cases hy
    subst e
    exact ⟨f, fd, ps, hm, F.kp, hb _ _ _ _ F, ok_def M hk F S chk len pure⟩
  · exact (M.fns j y hy).mono (Nat.le_succ k)
end
section
variable {P : Program} {w : World} {K : PySem.W.Frag} {mg : Str → Option Value} {base : Heap} {C : Ex → Addr} {Γ : Nat → SpD} {gl : Nat → D} {fns gls : List (Nat × Str)} {exs : List Ex} {k : Nat}
theorem ModF.up (M : ModF P w K mg base C Γ gl fns gls exs k) : ModF P w K mg base C Γ gl fns gls exs (k + 1) :=
  ⟨M.seer, M.tree, fun j y hy => (M.fns j y hy).mono (Nat.le_succ k), M.gls, M.free, M.exs⟩
theorem FndH.mono {j k : Nat} {x : Str} {sp : SpD} (F : FndH P w K mg base C j x sp) (h : Nat.ble j k = true) : FndH P w K mg base C k x sp := by
  obtain ⟨f, fd, ps, h1, h2, h3, h4⟩ := F.ex
  have h := Nat.le_of_ble_eq_true h
  exact ⟨f, fd, ps, h1, h2, h3, h4.len, fun A outer s H args us vs Q a hr fr e0 hb r hsp => h4.run A outer s H args us vs Q a (hr.mono h) fr e0 hb r hsp⟩
end
def spLaw : SpD := fun ds g Q _ => ∃ ns : List Int, ds = [.scr ns] ∧ ns.length ≤ 63 ∧ (∀ z ∈ ns, Builtin.Int.intBits z ≤ 1048576) ∧ (∀ a, g a = none) ∧ Q (.bl true) g
theorem law_end {K : PySem.W.Frag} {C : Ex → Addr} {H : Hp} {a : Addr} {ns : List Int} (hl : ns.length ≤ 63) (hb : ∀ z ∈ ns, Builtin.Int.intBits z ≤ 1048576) (hO : Only H) (hS : SqL K H a (ns.map V.int)) :
    liftSp K C spLaw [.ref a] H (fun v _ => v = .bl true) fun _ _ _ => False := by
  refine ⟨[.scr ns], fun _ => none, fun d _ => d = .bl true, fun _ _ => False, ⟨.ref a, [], rfl, ⟨a, rfl, ?_⟩, rfl⟩, fun _ _ e => (by cases e), ⟨ns, rfl, hl, hb, fun _ => rfl, rfl⟩, fun d g v H' e _ _ r => (by subst e; exact r), fun _ _ _ z => z.elim⟩
  rcases hS with (h | ⟨o, h⟩) | h
  · rcases hO a with z | ⟨o, xs, z⟩
    · rw [h] at z; cases z
    · rw [h] at z; cases z
  · exact .inl ⟨o, h⟩
  · exact .inr h
theorem mod0 {P : Program} {w : World} {K : PySem.W.Frag} {mg : Str → Option Value} {h base : Heap} {Γ : Nat → SpD} {gl : Nat → D} {gls : List (Nat × Str)} {exs : List Ex} {fa : List He.Fa} {fn : List He.DefD} {tb : List (Str × D)}
    (X : K.In h) (G : h.Ns mainGlobals mg) (S : h.NoSeer) (c : SaysP fa fn tb exs K) (ht : P.given.tree = none)
    (htb : gls.map (fun p => (p.2, gl p.1)) = tb) (hfree : bltNames.map (fun x => He.Fa.free (Str.ofString x)) <+: fa)
    (hex : ∀ n ∈ exs, He.Fa.glo (Str.ofString n.nm) ∈ fa ∧ He.Fa.exc (Str.ofString n.nm) ∈ fa) :
    ModF P w K mg base (fun n => He.ga K (Str.ofString n.nm)) Γ gl [] gls exs 40 := by
  have fact : ∀ f ∈ fa, f.ok K = true := fun f hf => by
    obtain ⟨i, e⟩ := List.mem_iff_getElem?.mp hf
    exact c.d.fact i e
  refine ⟨fun M => seer_of X G S c.seer M, ht, fun i x e => (by cases e), fun i x hx => ?_, fun x hx => ?_, fun n hn => ?_⟩
  · have hm : (x, gl i) ∈ tb := by
      rw [← htb]
      exact List.mem_map.mpr ⟨(i, x), hx, rfl⟩
    obtain ⟨j, e⟩ := List.mem_iff_getElem?.mp hm
    exact gl_ok X G (c.gl j e)
  · exact He.free_ok X G (fact _ (hfree.subset (List.mem_map.mpr ⟨x, hx, rfl⟩)))
  · obtain ⟨h1, h2⟩ := hex n hn
    obtain ⟨a, b, d, e⟩ := He.exc_ok (fact _ h2)
    exact ⟨He.glo_ok X G (fact _ h1), b, ⟨_, F.excBase_ValueError, a⟩, d, e, He.eqO_ok (fact _ h1), ex_ok (c.exB hn)⟩
end PP
namespace PP
open PySem PySem.Spec PyProof.Rows L2
theorem G_up_same {g : G} {a : Addr} {xs : List D} : (g.up a xs) a = some xs := by simp [G.up]
theorem G_up_ne {g : G} {a b : Addr} {xs : List D} (h : b ≠ a) : (g.up a xs) b = g b := by simp [G.up, h]
theorem G_up_up {g : G} {a : Addr} {xs ys : List D} : (g.up a xs).up a ys = g.up a ys := by
  funext b; unfold G.up; split <;> rfl
theorem ne_of_known {g : G} {a p : Addr} {xs : List D} (h : g a = some xs) (hp : g p = none) : a ≠ p := fun e => by rw [e, hp] at h; cases h
theorem G_up_fresh {g : G} {a p : Addr} {xs ys : List D} (hp : g p = none) (h : g a = some xs) : (g.up p ys) a = some xs := by rw [G_up_ne (ne_of_known h hp)]; exact h
theorem G.le_upS {g g' : G} {a : Addr} {xs : List D} (h : g.le g') : (g.up a xs).le (g'.up a xs) := fun b ys e => by
  unfold G.up at *
  split
  · rename_i z; rw [if_pos z] at e; exact e
  · rename_i z; rw [if_neg z] at e; exact h _ _ e
theorem startD_len {N M : List Str} {ds : List D} (h : N.length = M.length) : startD N ds = startD M ds := by unfold startD; rw [h]
theorem sl0 : ((0 : Nat) ≤ sizeLine) = True := eq_true (by decide +kernel)
theorem sl1 : ((1 : Nat) ≤ sizeLine) = True := eq_true (by decide +kernel)
theorem sl2 : ((2 : Nat) ≤ sizeLine) = True := eq_true (by decide +kernel)
theorem sl3 : ((3 : Nat) ≤ sizeLine) = True := eq_true (by decide +kernel)
theorem sl4 : ((4 : Nat) ≤ sizeLine) = True := eq_true (by decide +kernel)
theorem slN {n : Nat} (h : n ≤ 1000) : n ≤ sizeLine := Nat.le_trans h (by decide +kernel)
theorem slLt {n : Nat} (h : n < 1000) : n < sizeLine := Nat.lt_of_lt_of_le h (slN (Nat.le_refl _))
section
variable {g : G} {Q : QD} {i j : Int} {a b : Addr} {xs ys : List D}
theorem add_int : dAdd (.int i) (.int j) g Q = Q (.int (i + j)) g := rfl
theorem add_tup : dAdd (.tup xs) (.tup ys) g Q = (xs.length + ys.length ≤ sizeLine ∧ Q (.tup (xs ++ ys)) g) := rfl
theorem sub_int : dSub (.int i) (.int j) g Q = Q (.int (i - j)) g := rfl
theorem mul_int : dMul (.int i) (.int j) g Q = (MulOk i j ∧ Q (.int (i * j)) g) := rfl
theorem mul_tup {k : Int} : dMul (.tup xs) (.int k) g Q = (xs ≠ [] ∧ 0 ≤ k ∧ k ≤ 1000 ∧ xs.length ≤ 1000 ∧ Q (.tup (repD k xs)) g) := rfl
theorem pow_int : dPow (.int i) (.int j) g Q = ((0 ≤ j ∧ j ≤ 1000000 ∧ i.natAbs < 2 ^ 64) ∧ Q (.int (i ^ j.toNat)) g) := rfl
theorem mod_int : dMod (.int i) (.int j) g Q = (j ≠ 0 ∧ Q (.int (i.fmod j)) g) := rfl
theorem fdiv_int : dFdiv (.int i) (.int j) g Q = (j ≠ 0 ∧ Q (.int (i.fdiv j)) g) := rfl
theorem lt_int : dLt (.int i) (.int j) g Q = Q (.bl (decide (i < j))) g := rfl
theorem le_int : dLe (.int i) (.int j) g Q = Q (.bl (decide (i ≤ j))) g := rfl
theorem gt_int : dGt (.int i) (.int j) g Q = Q (.bl (decide (j < i))) g := rfl
theorem ge_int : dGe (.int i) (.int j) g Q = Q (.bl (decide (j ≤ i))) g := rfl
theorem eq_int {n : Bool} : dEqB n (.int i) (.int j) g Q = Q (.bl (n != decide (i = j))) g := rfl
theorem neg_int : dNeg (.int i) g Q = Q (.int (-i)) g := rfl
theorem len_tup : dLen [.tup xs] g Q = Q (.int xs.length) g := rfl
theorem len_scr {ns : List Int} : dLen [.scr ns] g Q = Q (.int ns.length) g := rfl
theorem abs_int : dAbs [.int i] g Q = Q (.int (i.natAbs : Int)) g := rfl
theorem max_int : dMax [.int i, .int j] g Q = Q (.int (max i j)) g := rfl
theorem min_int : dMin [.int i, .int j] g Q = Q (.int (min i j)) g := rfl
theorem int_int : dInt [.int i] g Q = Q (.int i) g := rfl
theorem int_bl {k : Bool} : dInt [.bl k] g Q = Q (.int (if k then 1 else 0)) g := rfl
theorem r1_int {R : List D → (G → Prop) → G → Prop} : dRange1 (.int j) g R = ((-(2 ^ 62) ≤ j ∧ j < 2 ^ 62) ∧ R (rangeD 0 j.toNat) (fun _ => True) g) := rfl
theorem r2_int {R : List D → (G → Prop) → G → Prop} : dRange2 (.int i) (.int j) g R = ((-(2 ^ 62) ≤ i ∧ i < 2 ^ 62 ∧ -(2 ^ 62) ≤ j ∧ j < 2 ^ 62) ∧ R (rangeD i (j - i).toNat) (fun _ => True) g) := rfl
theorem tuple_tup : dTuple [.tup xs] g Q = Q (.tup xs) g := rfl
theorem list_tup : dList [.tup xs] g Q = ∀ p, g p = none → Q (.ref p) (g.up p xs) := rfl
theorem over_tup {R : List D → (G → Prop) → G → Prop} : dOver (.tup xs) g R = R xs (fun _ => True) g := rfl
theorem rev_tup {R : List D → (G → Prop) → G → Prop} : dRev (.tup xs) g R = R xs.reverse (fun _ => True) g := rfl
theorem enum_tup {R : List D → (G → Prop) → G → Prop} : dEnum (.tup xs) g R = R (enumD xs) (fun _ => True) g := rfl
theorem zip_tup {R : List D → (G → Prop) → G → Prop} : dZip (.tup xs) (.tup ys) g R = R (zipD xs ys) (fun _ => True) g := rfl
theorem slc_tup {lo hi : Option Int} : dSl (.tup xs) lo hi g Q = Q (.tup (cut xs lo hi)) g := rfl
theorem ix_tup : dIx (.tup xs) (.int i) g Q = (match atI xs i with | some d => Q d g | none => False) := rfl
theorem ix_scr {ns : List Int} : dIx (.scr ns) (.int i) g Q = (match atI ns i with | some n => Q (.int n) g | none => False) := rfl
theorem set_ref {v : D} {N : G → Prop} (h : g a = some xs) : dSet (.ref a) (.int i) v g N = (match ixN xs.length i with | some j => N (g.up a (xs.set j v)) | none => False) := by unfold dSet; simp only [h] <;> rfl
theorem isi_any {ts : List Ty} {d : D} : dIsi ts d g Q = (knownD g d ∧ Q (.bl (ts.any fun t => isTy t d)) g) := rfl
theorem at_mk {nx : Env → G → Prop} {rt : QD} {ex : Ex → Env → G → Prop} {env : Env} : DEnds.at ⟨nx, rt, ex⟩ env = fun n g => ex n env g := rfl
theorem mul_ref {k : Int} (h : g a = some xs) : dMul (.ref a) (.int k) g Q = (-(2 ^ 63) ≤ k ∧ k < 2 ^ 63 ∧ xs.length * k.toNat ≤ sizeLine ∧ ∀ p, g p = none → Q (.ref p) (g.up p (repD k xs))) := by unfold dMul; simp only [h] <;> rfl
theorem len_ref (h : g a = some xs) : dLen [.ref a] g Q = Q (.int xs.length) g := by unfold dLen; simp only [h] <;> rfl
theorem tuple_ref (h : g a = some xs) : dTuple [.ref a] g Q = Q (.tup xs) g := by unfold dTuple; simp only [h] <;> rfl
theorem over_ref {R : List D → (G → Prop) → G → Prop} (h : g a = some xs) : dOver (.ref a) g R = R xs (fun g' => g' a = some xs) g := by unfold dOver; simp only [h] <;> rfl
theorem rev_ref {R : List D → (G → Prop) → G → Prop} (h : g a = some xs) : dRev (.ref a) g R = R xs.reverse (fun g' => g' a = some xs) g := by unfold dRev; simp only [h] <;> rfl
theorem zip_ref {R : List D → (G → Prop) → G → Prop} (h : g a = some xs) (h' : g b = some ys) : dZip (.ref a) (.ref b) g R = R (zipD xs ys) (fun g' => g' a = some xs ∧ g' b = some ys) g := by unfold dZip; simp only [h, h'] <;> rfl
theorem tupz_ref (h : g a = some xs) (h' : g b = some ys) : dTupZ (.ref a) (.ref b) g Q = Q (.tup (zipD xs ys)) g := by unfold dTupZ; simp only [h, h'] <;> rfl
theorem slc_ref {lo hi : Option Int} (h : g a = some xs) : dSl (.ref a) lo hi g Q = ∀ p, g p = none → Q (.ref p) (g.up p (cut xs lo hi)) := by unfold dSl; simp only [h] <;> rfl
theorem ix_ref (h : g a = some xs) : dIx (.ref a) (.int i) g Q = (match atI xs i with | some d => Q d g | none => False) := by unfold dIx; simp only [h] <;> rfl
theorem app_ref {y : D} (h : g a = some xs) : mAppend (.ref a) [y] g Q = (xs.length < sizeLine ∧ Q .non (g.up a (xs ++ [y]))) := by unfold mAppend; simp only [h] <;> rfl
theorem rc_ref : recv .list (.ref a) g = ((g a).isSome = true) := rfl
end
section
variable {α : Type}
theorem atI_at {xs : List α} {i : Int} {k : Nat} {x : α} (hi : i = (k : Int)) (h : xs[k]? = some x) : atI xs i = some x := by
  have hk : k < xs.length := by
    rcases Nat.lt_or_ge k xs.length with z | z
    · exact z
    · rw [List.getElem?_eq_none z] at h; cases h
  subst hi
  unfold atI ixN
  rw [if_pos (by omega), if_pos (by omega)]
  exact h
theorem atI_0 {x : α} {xs : List α} : atI (x :: xs) 0 = some x := atI_at (k := 0) rfl rfl
theorem atI_1 {x y : α} {xs : List α} : atI (x :: y :: xs) 1 = some y := atI_at (k := 1) rfl rfl
theorem atI_2 {x y z : α} {xs : List α} : atI (x :: y :: z :: xs) 2 = some z := atI_at (k := 2) rfl rfl
theorem atI_mem {xs : List α} {k : Nat} (h : k < xs.length) : ∃ x, atI xs (k : Int) = some x ∧ x ∈ xs := ⟨xs[k], atI_at rfl (List.getElem?_eq_getElem h), List.getElem_mem h⟩
end
section
variable {g : G} {Q : QD} {a : Addr} {xs : List D} {i : Int}
theorem ix_some (h : g a = some xs) (h0 : 0 ≤ i) (h1 : i < xs.length) (k : ∀ x ∈ xs, Q x g) : dIx (.ref a) (.int i) g Q := by
  rw [ix_ref h]
  obtain ⟨x, e, hx⟩ := atI_mem (xs := xs) (k := i.toNat) (by omega)
  rw [show i = (i.toNat : Int) by omega, e]
  exact k x hx
end
theorem for_inv {stay : G → Prop} {body : D → Env → G → (Env → G → Prop) → Prop} {fin : Env → G → Prop} {items : List D} (I : Nat → Env → G → Prop)
    (st : ∀ k env g, I k env g → stay g)
    (step : ∀ k x env g N, items[k]? = some x → I k env g → (∀ env' g', I (k + 1) env' g' → N env' g') → body x env g N)
    (done : ∀ env g, I items.length env g → fin env g) {env : Env} {g : G} (h0 : I 0 env g) : forD stay body fin items env g := by
  have H : ∀ (rest : List D) (k : Nat) (env : Env) (g : G), (∀ j, rest[j]? = items[k + j]?) → k + rest.length = items.length → I k env g → forD stay body fin rest env g := by
    intro rest
    induction rest with
    | nil => intro k env g _ hl h; exact ⟨st _ _ _ h, done _ _ (by rw [← hl]; exact h)⟩
    | cons x rest ih =>
      intro k env g hr hl h
      refine ⟨st _ _ _ h, step k x env g _ ((hr 0).symm) h fun env' g' h' => ih (k + 1) env' g' (fun j => ?_) (by simp at hl; omega) h'⟩
      rw [show k + 1 + j = k + (j + 1) by omega, ← hr (j + 1)]
      rfl
  exact H items 0 env g (fun j => by rw [Nat.zero_add]) (by simp) h0
theorem comp_inv {stay : G → Prop} {p : Addr} {body : D → G → (Option D → G → Prop) → Prop} {fin : G → Prop} {items : List D} (I : Nat → List D → G → Prop)
    (st : ∀ k acc g, I k acc g → stay g)
    (step : ∀ k x acc g N, items[k]? = some x → I k acc g → (∀ d g', g' p = some acc → I (k + 1) (acc ++ [d]) (g'.up p (acc ++ [d])) → N (some d) g') → (∀ g', g' p = some acc → I (k + 1) acc g' → N none g') → body x g N)
    (done : ∀ acc g, I items.length acc g → fin g) {g : G} (h0 : I 0 [] g) : compD stay p body fin items [] g := by
  have H : ∀ (rest : List D) (k : Nat) (acc : List D) (g : G), (∀ j, rest[j]? = items[k + j]?) → k + rest.length = items.length → I k acc g → compD stay p body fin rest acc g := by
    intro rest
    induction rest with
    | nil => intro k acc g _ hl h; exact ⟨st _ _ _ h, done _ _ (by rw [← hl]; exact h)⟩
    | cons x rest ih =>
      intro k acc g hr hl h
      have hr' : ∀ j, rest[j]? = items[k + 1 + j]? := fun j => by
        rw [show k + 1 + j = k + (j + 1) by omega, ← hr (j + 1)]
        rfl
      exact ⟨st _ _ _ h, step k x acc g _ ((hr 0).symm) h (fun d g' e h' => ⟨e, ih (k + 1) _ _ hr' (by simp at hl; omega) h'⟩) fun g' e h' => ⟨e, ih (k + 1) _ _ hr' (by simp at hl; omega) h'⟩⟩
  exact H items 0 [] g (fun j => by rw [Nat.zero_add]) (by simp) h0
theorem range_at {lo : Int} {n k : Nat} {x : D} (h : (rangeD lo n)[k]? = some x) : k < n ∧ x = .int (lo + k) := by
  unfold rangeD at h
  rw [List.getElem?_map] at h
  cases q : (List.range n)[k]? with
  | none => rw [q] at h; cases h
  | some j =>
    rw [q] at h
    cases h
    rw [List.getElem?_eq_some_iff] at q
    obtain ⟨hk, e⟩ := q
    simp at hk e
    exact ⟨hk, by rw [e]⟩
theorem range_len {lo : Int} {n : Nat} : (rangeD lo n).length = n := by simp [rangeD]
def num (q : Rat) : D := .tup [.int q.num, .int q.den]
def nums (qs : List Rat) : List D := qs.map num
theorem nums_len (qs : List Rat) : (nums qs).length = qs.length := List.length_map ..
theorem nums_at {qs : List Rat} {k : Nat} {x : D} (h : (nums qs)[k]? = some x) : ∃ q, qs[k]? = some q ∧ x = num q := by
  unfold nums at h
  rw [List.getElem?_map] at h
  cases q : qs[k]? with
  | none => rw [q] at h; cases h
  | some j => rw [q] at h; cases h; exact ⟨j, rfl, rfl⟩
theorem atI_nums {qs : List Rat} {i : Int} {k : Nat} {q : Rat} (hi : i = (k : Int)) (h : qs[k]? = some q) : atI (nums qs) i = some (num q) := atI_at hi (by unfold nums; rw [List.getElem?_map, h]; rfl)
theorem ix_num0 {q : Rat} {g : G} {Q : QD} : dIx (num q) (.int 0) g Q = Q (.int q.num) g := by
  unfold dIx num; simp only [atI_0]
theorem ix_num1 {q : Rat} {g : G} {Q : QD} : dIx (num q) (.int 1) g Q = Q (.int q.den) g := by
  unfold dIx num; simp only [atI_1]
theorem len_num {q : Rat} {g : G} {Q : QD} : dLen [num q] g Q = Q (.int 2) g := rfl
theorem num_0 : D.tup [.int 0, .int 1] = num 0 := rfl
theorem num_1 : D.tup [.int 1, .int 1] = num 1 := rfl
theorem num_inj {p q : Rat} (h : num p = num q) : p = q := by
  unfold num at h
  simp only [D.tup.injEq, List.cons.injEq, D.int.injEq, and_true] at h
  exact Rat.ext h.1 (by omega)
def bits (n : Nat) : Nat := n.log2 + 1
def sz (q : Rat) : Nat := max (bits q.num.natAbs) (bits q.den)
theorem lt_bits (n : Nat) : n < 2 ^ bits n := Nat.lt_log2_self
theorem bits_le {n b : Nat} (h : n < 2 ^ b) (hb : 0 < b) : bits n ≤ b := by
  unfold bits
  by_cases h0 : n = 0
  · subst h0; simp; omega
  · have := (Nat.log2_lt h0).mpr h; omega
theorem sz_num (q : Rat) : q.num.natAbs < 2 ^ sz q := Nat.lt_of_lt_of_le (lt_bits _) (Nat.pow_le_pow_right (by decide) (Nat.le_max_left ..))
theorem sz_den (q : Rat) : q.den < 2 ^ sz q := Nat.lt_of_lt_of_le (lt_bits _) (Nat.pow_le_pow_right (by decide) (Nat.le_max_right ..))
theorem sz_le {q : Rat} {b : Nat} (h1 : q.num.natAbs < 2 ^ b) (h2 : q.den < 2 ^ b) (hb : 0 < b) : sz q ≤ b := Nat.max_le.mpr ⟨bits_le h1 hb, bits_le h2 hb⟩
theorem sz_pos (q : Rat) : 0 < sz q := Nat.lt_of_lt_of_le (Nat.succ_pos _) (Nat.le_max_left ..)
theorem sz_divInt {t b : Int} {c : Nat} (ht : t.natAbs < 2 ^ c) (hb : b.natAbs < 2 ^ c) (h0 : b ≠ 0) : sz (Rat.divInt t b) ≤ c := by
  have hc : 0 < c := by
    rcases Nat.eq_zero_or_pos c with z | z
    · subst z; simp at hb; omega
    · exact z
  refine sz_le ?_ ?_ hc
  · rw [Rat.num_divInt, Int.natAbs_ediv_of_dvd ?_]
    · refine Nat.lt_of_le_of_lt (Nat.div_le_self _ _) ?_
      rw [Int.natAbs_mul]
      have : b.sign.natAbs ≤ 1 := by
        rcases Int.lt_trichotomy b 0 with z | z | z
        · rw [Int.sign_eq_neg_one_of_neg z]; decide
        · exact absurd z h0
        · rw [Int.sign_eq_one_of_pos z]; decide
      calc b.sign.natAbs * t.natAbs ≤ 1 * t.natAbs := Nat.mul_le_mul_right _ this
        _ < 2 ^ c := by rw [Nat.one_mul]; exact ht
    · exact Int.dvd_trans (Int.gcd_dvd_right ..) (Int.dvd_mul_left ..)
  · rw [Rat.den_divInt, if_neg h0]
    exact Nat.lt_of_le_of_lt (Nat.div_le_self _ _) hb
theorem num_bits (q : Rat) : bits q.num.natAbs ≤ sz q := Nat.le_max_left ..
theorem den_bits (q : Rat) : bits q.den ≤ sz q := Nat.le_max_right ..
theorem sz_mul (p q : Rat) : sz (p * q) ≤ sz p + sz q := by
  have h : Rat.divInt (p.num * q.num) (p.den * q.den) = p * q := by
    rw [← Rat.divInt_mul_divInt, Rat.num_divInt_den, Rat.num_divInt_den]
  rw [← h]
  have a := num_bits p; have b := num_bits q; have c := den_bits p; have d := den_bits q
  refine sz_divInt ?_ ?_ ?_
  · rw [Int.natAbs_mul, Nat.pow_add]
    exact Nat.mul_lt_mul'' (sz_num p) (sz_num q)
  · rw [Int.natAbs_mul, Nat.pow_add]
    exact Nat.mul_lt_mul'' (sz_den p) (sz_den q)
  · have := p.den_nz; have := q.den_nz
    exact Int.mul_ne_zero (by omega) (by omega)
theorem sz_neg (p : Rat) : sz (-p) = sz p := by unfold sz; rw [show (-p).num = -p.num from rfl, show (-p).den = p.den from rfl, Int.natAbs_neg]
theorem sz_add (p q : Rat) : sz (p + q) ≤ sz p + sz q + 1 := by
  have h : Rat.divInt (p.num * q.den + q.num * p.den) (p.den * q.den) = p + q := by
    have := p.den_nz; have := q.den_nz
    rw [← Rat.divInt_add_divInt _ _ (by omega) (by omega), Rat.num_divInt_den, Rat.num_divInt_den]
  rw [← h]
  refine sz_divInt ?_ ?_ ?_
  · have h1 : (p.num * q.den).natAbs < 2 ^ (sz p + sz q) := by
      rw [Int.natAbs_mul, Nat.pow_add]
      exact Nat.mul_lt_mul'' (sz_num p) (sz_den q)
    have h2 : (q.num * p.den).natAbs < 2 ^ (sz p + sz q) := by
      rw [Int.natAbs_mul, Nat.pow_add, Nat.mul_comm (2 ^ sz p)]
      exact Nat.mul_lt_mul'' (sz_num q) (sz_den p)
    have h3 := Int.natAbs_add_le (p.num * q.den) (q.num * p.den)
    rw [Nat.pow_succ]
    omega
  · rw [Int.natAbs_mul]
    refine Nat.lt_of_lt_of_le ?_ (Nat.pow_le_pow_right (by decide) (Nat.le_succ _))
    rw [Nat.pow_add]
    exact Nat.mul_lt_mul'' (sz_den p) (sz_den q)
  · have := p.den_nz; have := q.den_nz
    exact Int.mul_ne_zero (by omega) (by omega)
theorem sz_sub (p q : Rat) : sz (p - q) ≤ sz p + sz q + 1 := by
  rw [Rat.sub_eq_add_neg, ← sz_neg q]
  exact sz_add p (-q)
theorem sz_inv (q : Rat) : sz q⁻¹ ≤ sz q := by
  by_cases h : q = 0
  · subst h; rw [Rat.inv_zero]; exact Nat.le_refl _
  · have e : Rat.divInt q.den q.num = q⁻¹ := by rw [← Rat.inv_divInt, Rat.num_divInt_den]
    rw [← e]
    exact sz_divInt (sz_den q) (sz_num q) (fun z => h (Rat.num_eq_zero.mp z))
theorem sz_div (p q : Rat) : sz (p / q) ≤ sz p + sz q := by
  rw [Rat.div_def]
  exact Nat.le_trans (sz_mul _ _) (Nat.add_le_add_left (sz_inv q) _)
theorem sz_0 : sz 0 = 1 := by decide
theorem sz_1 : sz 1 = 1 := by decide
theorem mulOk_of {i j : Int} {a b : Nat} (h1 : i.natAbs < 2 ^ a) (h2 : j.natAbs < 2 ^ b) (h : a + b ≤ 100000000) : MulOk i j := by
  unfold MulOk
  have k : ∀ {n a : Nat}, n < 2 ^ a → n.log2 < a ∨ (n.log2 = 0 ∧ a = 0) := fun {n a} h => by
    by_cases h0 : n = 0
    · subst h0
      by_cases ha : a = 0
      · exact .inr ⟨by simp, ha⟩
      · exact .inl (by simp; omega)
    · exact .inl ((Nat.log2_lt h0).mpr h)
  rcases k h1 with h1 | h1 <;> rcases k h2 with h2 | h2 <;> omega
theorem mulOk_num (p q : Rat) (h : sz p + sz q ≤ 100000000) : MulOk p.num q.num := mulOk_of (sz_num p) (sz_num q) h
theorem mulOk_den (p q : Rat) (h : sz p + sz q ≤ 100000000) : MulOk (p.den : Int) (q.den : Int) := mulOk_of (sz_den p) (sz_den q) h
theorem mulOk_nd (p q : Rat) (h : sz p + sz q ≤ 100000000) : MulOk p.num (q.den : Int) := mulOk_of (sz_num p) (sz_den q) h
theorem mulOk_dn (p q : Rat) (h : sz p + sz q ≤ 100000000) : MulOk (p.den : Int) q.num := mulOk_of (sz_den p) (sz_num q) h
end PP
namespace PP
open PySem PySem.Spec PyProof.Rows L2
def sx_shared_part : SX :=
  (.asg (.n 0) (.blt .abs (.cons (.v 0) .nil))
  (.asg (.n 1) (.blt .abs (.cons (.v 1) .nil))
  (.whl (.cmp .gt (.v 1) (.int 0))
    (.par 0 1 (.v 1) (.bin .mod (.v 0) (.v 1)) .nil)
  (.ret (.v 0) .nil))))
abbrev ns_shared_part : List Str := ["one", "other"]
def sx_law_lowest : SX :=
  (.asg (.n 2) (.blt .abs (.cons (.v 0) .nil))
  (.asg (.n 3) (.blt .abs (.cons (.v 1) .nil))
  (.whl (.cmp .gt (.v 3) (.int 0))
    (.par 2 3 (.v 3) (.bin .mod (.v 2) (.v 3)) .nil)
  (.ite (.cmp .lt (.v 1) (.int 0))
    (.asg (.n 2) (.bin .sub (.int 0) (.v 2)) .nil)
    .nil
  (.ret (.tup (.cons (.bin .fdiv (.v 0) (.v 2)) (.cons (.bin .fdiv (.v 1) (.v 2)) .nil))) .nil)))))
abbrev ns_law_lowest : List Str := ["_law_top_here", "_law_bottom", "_law_one", "_law_other"]
def sx_lowest : SX :=
  (.asg (.n 2) (.call 0 (.cons (.v 0) (.cons (.v 1) .nil)))
  (.ite (.cmp .lt (.v 1) (.int 0))
    (.asg (.n 2) (.bin .sub (.int 0) (.v 2)) .nil)
    .nil
  (.ret (.tup (.cons (.bin .fdiv (.v 0) (.v 2)) (.cons (.bin .fdiv (.v 1) (.v 2)) .nil))) .nil)))
abbrev ns_lowest : List Str := ["top", "bottom", "part"]
def spShared : SpD := fun ds g Q _ => ∃ a b : Int, ds = [.int a, .int b] ∧ Q (.int (Int.gcd a b)) g
theorem gcd_turn {a b : Nat} (h : 0 < b) : Nat.gcd b (a % b) = Nat.gcd a b := by
  rw [Nat.gcd_comm b, ← Nat.gcd_rec, Nat.gcd_comm]
theorem fmod_nat (a b : Nat) : Int.fmod (a : Int) (b : Int) = ((a % b : Nat) : Int) := by
  rw [Int.fmod_eq_emod_of_nonneg _ (by omega)]
  rfl
theorem pure_shared_part {Γ : Nat → SpD} {gl : Nat → D} {ds g Q E} (h : spShared ds g Q E) : mnS Γ gl sx_shared_part (endsOf Q E) (startD ns_shared_part ds) g := by
  obtain ⟨a, b, rfl, h⟩ := h
  simp only [sx_shared_part, mnS, mn, Mn.of, Op.rd, Cm.rd, Bl.rd, Mt.rd, Mt.rc, dNop, dSeq, dExpr, dRet, dRetN, dIf, gD, dAsg, dPar, dPut, dRaise, dVar, dC, dBin, dUn, dNil, dCons, dTup, dLst, dTst, dAndT, dOrT, dNotT, dYes, dAnd, dOr, dNot, dChain, dCall, dCB, dMt, dLset, dSrev, dTry, dIsx, dEmp, dStp, xsub, Ex.sub, dSlc, dPart, dNoPart, dIAny, dI1, dI2, dI3, dFor, dComp, compB, wipeD, startD, endsOf, at_mk, setAll, add_int, sub_int, mul_int, mul_tup, pow_int, mod_int, fdiv_int, lt_int, le_int, gt_int, ge_int, eq_int, neg_int, len_tup, len_scr, abs_int, max_int, min_int, int_int, int_bl, r1_int, r2_int, tuple_tup, list_tup, over_tup, rev_tup, enum_tup, zip_tup, slc_tup, add_tup, isi_any, ix_tup, ix_scr, ix_num0, ix_num1, len_num, num_0, num_1, atI_0, atI_1, atI_2, List.map, List.cons_append, List.nil_append, List.getElem?_cons_zero, List.getElem?_cons_succ, List.getElem?_nil, List.set_cons_zero, List.set_cons_succ, List.replicate, List.length_cons, List.length_nil, List.foldr_cons, List.foldr_nil, Nat.reduceAdd, Nat.reduceSub, List.replicate_succ, List.replicate_zero, G_up_same, decide_eq_true_eq, Bool.not_eq_true', Bool.false_eq_true, if_true, if_false, ite_true, ite_false, and_true, true_and, reduceCtorEq, Bool.not_true, Bool.not_false, Bool.false_bne, Bool.true_bne, sl0, sl1, sl2, sl3, sl4]
  refine ⟨fun m env g' => g' = g ∧ ∃ x : Nat, env = [some (.int x), some (.int m)] ∧ Nat.gcd x m = Int.gcd a b, ⟨b.natAbs, rfl, a.natAbs, rfl, rfl⟩, ?_⟩
  rintro m env g' ⟨rfl, x, rfl, hx⟩
  try simp only [mnS, mn, Mn.of, Op.rd, Cm.rd, Bl.rd, Mt.rd, Mt.rc, dNop, dSeq, dExpr, dRet, dRetN, dIf, gD, dAsg, dPar, dPut, dRaise, dVar, dC, dBin, dUn, dNil, dCons, dTup, dLst, dTst, dAndT, dOrT, dNotT, dYes, dAnd, dOr, dNot, dChain, dCall, dCB, dMt, dLset, dSrev, dTry, dIsx, dEmp, dStp, xsub, Ex.sub, dSlc, dPart, dNoPart, dIAny, dI1, dI2, dI3, dFor, dComp, compB, wipeD, startD, endsOf, at_mk, setAll, add_int, sub_int, mul_int, mul_tup, pow_int, mod_int, fdiv_int, lt_int, le_int, gt_int, ge_int, eq_int, neg_int, len_tup, len_scr, abs_int, max_int, min_int, int_int, int_bl, r1_int, r2_int, tuple_tup, list_tup, over_tup, rev_tup, enum_tup, zip_tup, slc_tup, add_tup, isi_any, ix_tup, ix_scr, ix_num0, ix_num1, len_num, num_0, num_1, atI_0, atI_1, atI_2, List.map, List.cons_append, List.nil_append, List.getElem?_cons_zero, List.getElem?_cons_succ, List.getElem?_nil, List.set_cons_zero, List.set_cons_succ, List.replicate, List.length_cons, List.length_nil, List.foldr_cons, List.foldr_nil, Nat.reduceAdd, Nat.reduceSub, List.replicate_succ, List.replicate_zero, G_up_same, decide_eq_true_eq, Bool.not_eq_true', Bool.false_eq_true, if_true, if_false, ite_true, ite_false, and_true, true_and, reduceCtorEq, Bool.not_true, Bool.not_false, Bool.false_bne, Bool.true_bne, sl0, sl1, sl2, sl3, sl4]
  split
  · rename_i hb
    refine ⟨by omega, x % m, Nat.mod_lt _ (by omega), m, by rw [fmod_nat], ?_⟩
    rw [gcd_turn (by omega), hx]
  · rename_i hb
    have : m = 0 := by omega
    subst this
    rw [Nat.gcd_zero_right] at hx
    exact ⟨_, G.le_refl _, by rw [hx]; exact h⟩
theorem num_divInt_eq (t b : Int) (hb : b ≠ 0) : num (Rat.divInt t b) = .tup [.int (t.fdiv (b.sign * (Int.gcd t b : Int))), .int (b.fdiv (b.sign * (Int.gcd t b : Int)))] := by
  have hg : (0 : Int) < (Int.gcd t b : Int) := by
    have := Int.gcd_pos_of_ne_zero_right t hb
    omega
  have e1 : (Int.gcd t b : Int) ∣ t := Int.gcd_dvd_left ..
  have e2 : (Int.gcd t b : Int) ∣ b := Int.gcd_dvd_right ..
  unfold num
  rw [Rat.num_divInt, Rat.den_divInt, if_neg hb, Int.gcd_comm b t]
  obtain ⟨x, hx⟩ := e1
  obtain ⟨y, hy⟩ := e2
  have hn : b.natAbs = Int.gcd t b * y.natAbs := by
    have := congrArg Int.natAbs hy
    rw [Int.natAbs_mul, Int.natAbs_natCast] at this
    exact this
  have hgn : 0 < Int.gcd t b := by omega
  generalize Int.gcd t b = d at *
  rcases Int.lt_or_gt_of_ne hb with hs | hs
  · rw [Int.sign_eq_neg_one_of_neg hs]
    have hy0 : y < 0 := by
      rcases Int.lt_or_le y 0 with z | z
      · exact z
      · have := Int.mul_nonneg (Int.le_of_lt hg) z; omega
    have d1 : (-1 * t / (d : Int)) = -x := by
      rw [hx, show -1 * ((d : Int) * x) = (d : Int) * (-x) by rw [Int.mul_neg]; omega, Int.mul_ediv_cancel_left _ (by omega)]
    have d2 : (b.natAbs / d) = y.natAbs := by rw [hn, Nat.mul_div_cancel_left _ hgn]
    have d3 : Int.fdiv t (-1 * (d : Int)) = -x := by
      rw [hx, show (d : Int) * x = (-x) * (-1 * (d : Int)) by rw [Int.neg_mul, ← Int.mul_neg]; simp [Int.mul_comm]]
      exact Int.mul_fdiv_cancel _ (by omega)
    have d4 : Int.fdiv b (-1 * (d : Int)) = -y := by
      rw [hy, show (d : Int) * y = (-y) * (-1 * (d : Int)) by rw [Int.neg_mul, ← Int.mul_neg]; simp [Int.mul_comm]]
      exact Int.mul_fdiv_cancel _ (by omega)
    rw [d1, d2, d3, d4, show ((y.natAbs : Int)) = -y by omega]
  · rw [Int.sign_eq_one_of_pos hs]
    have hy0 : 0 < y := by
      rcases Int.lt_or_le 0 y with z | z
      · exact z
      · have := Int.mul_nonpos_of_nonneg_of_nonpos (Int.le_of_lt hg) z; omega
    have d1 : (1 * t / (d : Int)) = x := by rw [hx, Int.one_mul, Int.mul_ediv_cancel_left _ (by omega)]
    have d2 : (b.natAbs / d) = y.natAbs := by rw [hn, Nat.mul_div_cancel_left _ hgn]
    have d3 : Int.fdiv t (1 * (d : Int)) = x := by
      rw [hx, Int.one_mul, Int.mul_comm]
      exact Int.mul_fdiv_cancel _ (by omega)
    have d4 : Int.fdiv b (1 * (d : Int)) = y := by
      rw [hy, Int.one_mul, Int.mul_comm]
      exact Int.mul_fdiv_cancel _ (by omega)
    rw [d1, d2, d3, d4, show ((y.natAbs : Int)) = y by omega]
def spLowest : SpD := fun ds g Q _ => ∃ t b : Int, ds = [.int t, .int b] ∧ b ≠ 0 ∧ Q (num (Rat.divInt t b)) g
theorem c_lowest {t b : Int} {g : G} {Q : QD} {X : XD} : spLowest [.int t, .int b] g Q X ↔ b ≠ 0 ∧ Q (num (Rat.divInt t b)) g :=
  ⟨fun ⟨_, _, e, h⟩ => by simp only [List.cons.injEq, D.int.injEq, and_true] at e; obtain ⟨rfl, rfl⟩ := e; exact h, fun h => ⟨t, b, rfl, h⟩⟩
theorem pure_lowest {Γ : Nat → SpD} {gl : Nat → D} (h0 : Γ 0 = spShared) {ds g Q E} (h : spLowest ds g Q E) : mnS Γ gl sx_lowest (endsOf Q E) (startD ns_lowest ds) g := by
  obtain ⟨t, b, rfl, hb, h⟩ := h
  rw [num_divInt_eq t b hb] at h
  have hg := Int.gcd_pos_of_ne_zero_right t hb
  simp only [sx_lowest, h0, spShared, mnS, mn, Mn.of, Op.rd, Cm.rd, Bl.rd, Mt.rd, Mt.rc, dNop, dSeq, dExpr, dRet, dRetN, dIf, gD, dAsg, dPar, dPut, dRaise, dVar, dC, dBin, dUn, dNil, dCons, dTup, dLst, dTst, dAndT, dOrT, dNotT, dYes, dAnd, dOr, dNot, dChain, dCall, dCB, dMt, dLset, dSrev, dTry, dIsx, dEmp, dStp, xsub, Ex.sub, dSlc, dPart, dNoPart, dIAny, dI1, dI2, dI3, dFor, dComp, compB, wipeD, startD, endsOf, at_mk, setAll, add_int, sub_int, mul_int, mul_tup, pow_int, mod_int, fdiv_int, lt_int, le_int, gt_int, ge_int, eq_int, neg_int, len_tup, len_scr, abs_int, max_int, min_int, int_int, int_bl, r1_int, r2_int, tuple_tup, list_tup, over_tup, rev_tup, enum_tup, zip_tup, slc_tup, add_tup, isi_any, ix_tup, ix_scr, ix_num0, ix_num1, len_num, num_0, num_1, atI_0, atI_1, atI_2, List.map, List.cons_append, List.nil_append, List.getElem?_cons_zero, List.getElem?_cons_succ, List.getElem?_nil, List.set_cons_zero, List.set_cons_succ, List.replicate, List.length_cons, List.length_nil, List.foldr_cons, List.foldr_nil, Nat.reduceAdd, Nat.reduceSub, List.replicate_succ, List.replicate_zero, G_up_same, decide_eq_true_eq, Bool.not_eq_true', Bool.false_eq_true, if_true, if_false, ite_true, ite_false, and_true, true_and, reduceCtorEq, Bool.not_true, Bool.not_false, Bool.false_bne, Bool.true_bne, sl0, sl1, sl2, sl3, sl4]
  refine ⟨t, b, rfl, ?_⟩
  split
  · rename_i hs
    rw [Int.sign_eq_neg_one_of_neg hs] at h
    rw [show (0 : Int) - (Int.gcd t b : Int) = -1 * (Int.gcd t b : Int) by omega]
    exact ⟨by omega, by omega, _, G.le_refl _, h⟩
  · rename_i hs
    rw [Int.sign_eq_one_of_pos (by omega), Int.one_mul] at h
    exact ⟨by omega, by omega, _, G.le_refl _, h⟩
theorem pure_law_lowest {Γ : Nat → SpD} {gl : Nat → D} {ds g Q E} (h : spLowest ds g Q E) : mnS Γ gl sx_law_lowest (endsOf Q E) (startD ns_law_lowest ds) g := by
  obtain ⟨t, b, rfl, hb, h⟩ := h
  rw [num_divInt_eq t b hb] at h
  have hg := Int.gcd_pos_of_ne_zero_right t hb
  simp only [sx_law_lowest, mnS, mn, Mn.of, Op.rd, Cm.rd, Bl.rd, Mt.rd, Mt.rc, dNop, dSeq, dExpr, dRet, dRetN, dIf, gD, dAsg, dPar, dPut, dRaise, dVar, dC, dBin, dUn, dNil, dCons, dTup, dLst, dTst, dAndT, dOrT, dNotT, dYes, dAnd, dOr, dNot, dChain, dCall, dCB, dMt, dLset, dSrev, dTry, dIsx, dEmp, dStp, xsub, Ex.sub, dSlc, dPart, dNoPart, dIAny, dI1, dI2, dI3, dFor, dComp, compB, wipeD, startD, endsOf, at_mk, setAll, add_int, sub_int, mul_int, mul_tup, pow_int, mod_int, fdiv_int, lt_int, le_int, gt_int, ge_int, eq_int, neg_int, len_tup, len_scr, abs_int, max_int, min_int, int_int, int_bl, r1_int, r2_int, tuple_tup, list_tup, over_tup, rev_tup, enum_tup, zip_tup, slc_tup, add_tup, isi_any, ix_tup, ix_scr, ix_num0, ix_num1, len_num, num_0, num_1, atI_0, atI_1, atI_2, List.map, List.cons_append, List.nil_append, List.getElem?_cons_zero, List.getElem?_cons_succ, List.getElem?_nil, List.set_cons_zero, List.set_cons_succ, List.replicate, List.length_cons, List.length_nil, List.foldr_cons, List.foldr_nil, Nat.reduceAdd, Nat.reduceSub, List.replicate_succ, List.replicate_zero, G_up_same, decide_eq_true_eq, Bool.not_eq_true', Bool.false_eq_true, if_true, if_false, ite_true, ite_false, and_true, true_and, reduceCtorEq, Bool.not_true, Bool.not_false, Bool.false_bne, Bool.true_bne, sl0, sl1, sl2, sl3, sl4]
  refine ⟨fun m env g' => g' = g ∧ ∃ x : Nat, env = [some (.int t), some (.int b), some (.int x), some (.int m)] ∧ Nat.gcd x m = Int.gcd t b, ⟨b.natAbs, rfl, t.natAbs, rfl, rfl⟩, ?_⟩
  rintro m env g' ⟨rfl, x, rfl, hx⟩
  try simp only [mnS, mn, Mn.of, Op.rd, Cm.rd, Bl.rd, Mt.rd, Mt.rc, dNop, dSeq, dExpr, dRet, dRetN, dIf, gD, dAsg, dPar, dPut, dRaise, dVar, dC, dBin, dUn, dNil, dCons, dTup, dLst, dTst, dAndT, dOrT, dNotT, dYes, dAnd, dOr, dNot, dChain, dCall, dCB, dMt, dLset, dSrev, dTry, dIsx, dEmp, dStp, xsub, Ex.sub, dSlc, dPart, dNoPart, dIAny, dI1, dI2, dI3, dFor, dComp, compB, wipeD, startD, endsOf, at_mk, setAll, add_int, sub_int, mul_int, mul_tup, pow_int, mod_int, fdiv_int, lt_int, le_int, gt_int, ge_int, eq_int, neg_int, len_tup, len_scr, abs_int, max_int, min_int, int_int, int_bl, r1_int, r2_int, tuple_tup, list_tup, over_tup, rev_tup, enum_tup, zip_tup, slc_tup, add_tup, isi_any, ix_tup, ix_scr, ix_num0, ix_num1, len_num, num_0, num_1, atI_0, atI_1, atI_2, List.map, List.cons_append, List.nil_append, List.getElem?_cons_zero, List.getElem?_cons_succ, List.getElem?_nil, List.set_cons_zero, List.set_cons_succ, List.replicate, List.length_cons, List.length_nil, List.foldr_cons, List.foldr_nil, Nat.reduceAdd, Nat.reduceSub, List.replicate_succ, List.replicate_zero, G_up_same, decide_eq_true_eq, Bool.not_eq_true', Bool.false_eq_true, if_true, if_false, ite_true, ite_false, and_true, true_and, reduceCtorEq, Bool.not_true, Bool.not_false, Bool.false_bne, Bool.true_bne, sl0, sl1, sl2, sl3, sl4]
  split
  · rename_i hb
    refine ⟨by omega, x % m, Nat.mod_lt _ (by omega), m, by rw [fmod_nat], ?_⟩
    rw [gcd_turn (by omega), hx]
  · rename_i hb'
    have : m = 0 := by omega
    subst this
    rw [Nat.gcd_zero_right] at hx
    subst hx
    split
    · rename_i hs
      rw [Int.sign_eq_neg_one_of_neg hs] at h
      rw [show (0 : Int) - (Int.gcd t b : Int) = -1 * (Int.gcd t b : Int) by omega]
      exact ⟨by omega, by omega, _, G.le_refl _, h⟩
    · rename_i hs
      rw [Int.sign_eq_one_of_pos (by omega), Int.one_mul] at h
      exact ⟨by omega, by omega, _, G.le_refl _, h⟩
end PP
namespace PP
open PySem PySem.Spec PyProof.Rows L2
def sx_plus : SX :=
  (.ret (.call 1 (.cons (.bin .add (.bin .mul (.ix (.v 0) (.int 0)) (.ix (.v 1) (.int 1))) (.bin .mul (.ix (.v 1) (.int 0)) (.ix (.v 0) (.int 1)))) (.cons (.bin .mul (.ix (.v 0) (.int 1)) (.ix (.v 1) (.int 1))) .nil))) .nil)
abbrev ns_plus : List Str := ["a", "b"]
def sx_minus : SX :=
  (.ret (.call 1 (.cons (.bin .sub (.bin .mul (.ix (.v 0) (.int 0)) (.ix (.v 1) (.int 1))) (.bin .mul (.ix (.v 1) (.int 0)) (.ix (.v 0) (.int 1)))) (.cons (.bin .mul (.ix (.v 0) (.int 1)) (.ix (.v 1) (.int 1))) .nil))) .nil)
abbrev ns_minus : List Str := ["a", "b"]
def sx_times : SX :=
  (.ret (.call 1 (.cons (.bin .mul (.ix (.v 0) (.int 0)) (.ix (.v 1) (.int 0))) (.cons (.bin .mul (.ix (.v 0) (.int 1)) (.ix (.v 1) (.int 1))) .nil))) .nil)
abbrev ns_times : List Str := ["a", "b"]
def sx_over : SX :=
  (.ite (.cmp .eq (.ix (.v 1) (.int 0)) (.int 0))
    (.raise .number .nil)
    .nil
  (.ret (.call 1 (.cons (.bin .mul (.ix (.v 0) (.int 0)) (.ix (.v 1) (.int 1))) (.cons (.bin .mul (.ix (.v 0) (.int 1)) (.ix (.v 1) (.int 0))) .nil))) .nil))
abbrev ns_over : List Str := ["a", "b"]
def sx_is_less : SX :=
  (.ret (.cmp .lt (.bin .mul (.ix (.v 0) (.int 0)) (.ix (.v 1) (.int 1))) (.bin .mul (.ix (.v 1) (.int 0)) (.ix (.v 0) (.int 1)))) .nil)
abbrev ns_is_less : List Str := ["a", "b"]
def sx_law_plus : SX :=
  (.ret (.call 5 (.cons (.bin .add (.bin .mul (.ix (.v 0) (.int 0)) (.ix (.v 1) (.int 1))) (.bin .mul (.ix (.v 1) (.int 0)) (.ix (.v 0) (.int 1)))) (.cons (.bin .mul (.ix (.v 0) (.int 1)) (.ix (.v 1) (.int 1))) .nil))) .nil)
abbrev ns_law_plus : List Str := ["_law_a", "_law_b"]
def sx_law_minus : SX :=
  (.ret (.call 5 (.cons (.bin .sub (.bin .mul (.ix (.v 0) (.int 0)) (.ix (.v 1) (.int 1))) (.bin .mul (.ix (.v 1) (.int 0)) (.ix (.v 0) (.int 1)))) (.cons (.bin .mul (.ix (.v 0) (.int 1)) (.ix (.v 1) (.int 1))) .nil))) .nil)
abbrev ns_law_minus : List Str := ["_law_a", "_law_b"]
def sx_law_times : SX :=
  (.ret (.call 5 (.cons (.bin .mul (.ix (.v 0) (.int 0)) (.ix (.v 1) (.int 0))) (.cons (.bin .mul (.ix (.v 0) (.int 1)) (.ix (.v 1) (.int 1))) .nil))) .nil)
abbrev ns_law_times : List Str := ["_law_a", "_law_b"]
theorem den_ne (q : Rat) : (q.den : Int) ≠ 0 := by have := q.den_nz; omega
theorem add_parts (p q : Rat) : Rat.divInt (p.num * q.den + q.num * p.den) (p.den * q.den) = p + q := by
  rw [← Rat.divInt_add_divInt _ _ (den_ne p) (den_ne q), Rat.num_divInt_den, Rat.num_divInt_den]
theorem sub_parts (p q : Rat) : Rat.divInt (p.num * q.den - q.num * p.den) (p.den * q.den) = p - q := by
  rw [← Rat.divInt_sub_divInt _ _ (den_ne p) (den_ne q), Rat.num_divInt_den, Rat.num_divInt_den]
theorem mul_parts (p q : Rat) : Rat.divInt (p.num * q.num) (p.den * q.den) = p * q := by
  rw [← Rat.divInt_mul_divInt, Rat.num_divInt_den, Rat.num_divInt_den]
theorem div_parts (p q : Rat) : Rat.divInt (p.num * q.den) (p.den * q.num) = p / q := by
  rw [← Rat.divInt_mul_divInt, Rat.num_divInt_den, Rat.div_def, ← Rat.inv_divInt, Rat.num_divInt_den]
theorem den_mul_ne (p q : Rat) : (p.den : Int) * (q.den : Int) ≠ 0 := Int.mul_ne_zero (den_ne p) (den_ne q)
def spBin (f : Rat → Rat → Rat) : SpD := fun ds g Q _ => ∃ p q : Rat, ds = [num p, num q] ∧ sz p + sz q ≤ 100000000 ∧ Q (num (f p q)) g
abbrev spPlus : SpD := spBin fun p q => p + q
abbrev spMinus : SpD := spBin fun p q => p - q
abbrev spTimes : SpD := spBin fun p q => p * q
def spOver : SpD := fun ds g Q X => ∃ p q : Rat, ds = [num p, num q] ∧ sz p + sz q ≤ 100000000 ∧ (q = 0 → X .number g) ∧ (q ≠ 0 → Q (num (p / q)) g)
def spLess : SpD := fun ds g Q _ => ∃ p q : Rat, ds = [num p, num q] ∧ sz p + sz q ≤ 100000000 ∧ Q (.bl (decide (p < q))) g
theorem c_bin {f : Rat → Rat → Rat} {p q : Rat} {g : G} {Q : QD} {X : XD} : spBin f [num p, num q] g Q X ↔ sz p + sz q ≤ 100000000 ∧ Q (num (f p q)) g :=
  ⟨fun ⟨_, _, e, h⟩ => by simp only [List.cons.injEq, and_true] at e; rw [num_inj e.1, num_inj e.2]; exact h, fun h => ⟨p, q, rfl, h⟩⟩
theorem c_over {p q : Rat} {g : G} {Q : QD} {X : XD} : spOver [num p, num q] g Q X ↔ sz p + sz q ≤ 100000000 ∧ (q = 0 → X .number g) ∧ (q ≠ 0 → Q (num (p / q)) g) :=
  ⟨fun ⟨_, _, e, h⟩ => by simp only [List.cons.injEq, and_true] at e; rw [num_inj e.1, num_inj e.2]; exact h, fun h => ⟨p, q, rfl, h⟩⟩
theorem c_less {p q : Rat} {g : G} {Q : QD} {X : XD} : spLess [num p, num q] g Q X ↔ sz p + sz q ≤ 100000000 ∧ Q (.bl (decide (p < q))) g :=
  ⟨fun ⟨_, _, e, h⟩ => by simp only [List.cons.injEq, and_true] at e; rw [num_inj e.1, num_inj e.2]; exact h, fun h => ⟨p, q, rfl, h⟩⟩
section
variable {Γ : Nat → SpD} {gl : Nat → D} {ds : List D} {g : G} {Q : QD} {E : XD}
theorem pure_plus (h1 : Γ 1 = spLowest) (h : spPlus ds g Q E) : mnS Γ gl sx_plus (endsOf Q E) (startD ns_plus ds) g := by
  obtain ⟨p, q, rfl, hs, h⟩ := h
  simp only [sx_plus, h1, spLowest, mnS, mn, Mn.of, Op.rd, Cm.rd, Bl.rd, Mt.rd, Mt.rc, dNop, dSeq, dExpr, dRet, dRetN, dIf, gD, dAsg, dPar, dPut, dRaise, dVar, dC, dBin, dUn, dNil, dCons, dTup, dLst, dTst, dAndT, dOrT, dNotT, dYes, dAnd, dOr, dNot, dChain, dCall, dCB, dMt, dLset, dSrev, dTry, dIsx, dEmp, dStp, xsub, Ex.sub, dSlc, dPart, dNoPart, dIAny, dI1, dI2, dI3, dFor, dComp, compB, wipeD, startD, endsOf, at_mk, setAll, add_int, sub_int, mul_int, mul_tup, pow_int, mod_int, fdiv_int, lt_int, le_int, gt_int, ge_int, eq_int, neg_int, len_tup, len_scr, abs_int, max_int, min_int, int_int, int_bl, r1_int, r2_int, tuple_tup, list_tup, over_tup, rev_tup, enum_tup, zip_tup, slc_tup, add_tup, isi_any, ix_tup, ix_scr, ix_num0, ix_num1, len_num, num_0, num_1, atI_0, atI_1, atI_2, List.map, List.cons_append, List.nil_append, List.getElem?_cons_zero, List.getElem?_cons_succ, List.getElem?_nil, List.set_cons_zero, List.set_cons_succ, List.replicate, List.length_cons, List.length_nil, List.foldr_cons, List.foldr_nil, Nat.reduceAdd, Nat.reduceSub, List.replicate_succ, List.replicate_zero, G_up_same, decide_eq_true_eq, Bool.not_eq_true', Bool.false_eq_true, if_true, if_false, ite_true, ite_false, and_true, true_and, reduceCtorEq, Bool.not_true, Bool.not_false, Bool.false_bne, Bool.true_bne, sl0, sl1, sl2, sl3, sl4]
  exact ⟨mulOk_nd p q hs, mulOk_nd q p (by omega), mulOk_den p q hs, _, _, rfl, den_mul_ne p q, _, G.le_refl _, by rw [add_parts]; exact h⟩
theorem pure_minus (h1 : Γ 1 = spLowest) (h : spMinus ds g Q E) : mnS Γ gl sx_minus (endsOf Q E) (startD ns_minus ds) g := by
  obtain ⟨p, q, rfl, hs, h⟩ := h
  simp only [sx_minus, h1, spLowest, mnS, mn, Mn.of, Op.rd, Cm.rd, Bl.rd, Mt.rd, Mt.rc, dNop, dSeq, dExpr, dRet, dRetN, dIf, gD, dAsg, dPar, dPut, dRaise, dVar, dC, dBin, dUn, dNil, dCons, dTup, dLst, dTst, dAndT, dOrT, dNotT, dYes, dAnd, dOr, dNot, dChain, dCall, dCB, dMt, dLset, dSrev, dTry, dIsx, dEmp, dStp, xsub, Ex.sub, dSlc, dPart, dNoPart, dIAny, dI1, dI2, dI3, dFor, dComp, compB, wipeD, startD, endsOf, at_mk, setAll, add_int, sub_int, mul_int, mul_tup, pow_int, mod_int, fdiv_int, lt_int, le_int, gt_int, ge_int, eq_int, neg_int, len_tup, len_scr, abs_int, max_int, min_int, int_int, int_bl, r1_int, r2_int, tuple_tup, list_tup, over_tup, rev_tup, enum_tup, zip_tup, slc_tup, add_tup, isi_any, ix_tup, ix_scr, ix_num0, ix_num1, len_num, num_0, num_1, atI_0, atI_1, atI_2, List.map, List.cons_append, List.nil_append, List.getElem?_cons_zero, List.getElem?_cons_succ, List.getElem?_nil, List.set_cons_zero, List.set_cons_succ, List.replicate, List.length_cons, List.length_nil, List.foldr_cons, List.foldr_nil, Nat.reduceAdd, Nat.reduceSub, List.replicate_succ, List.replicate_zero, G_up_same, decide_eq_true_eq, Bool.not_eq_true', Bool.false_eq_true, if_true, if_false, ite_true, ite_false, and_true, true_and, reduceCtorEq, Bool.not_true, Bool.not_false, Bool.false_bne, Bool.true_bne, sl0, sl1, sl2, sl3, sl4]
  exact ⟨mulOk_nd p q hs, mulOk_nd q p (by omega), mulOk_den p q hs, _, _, rfl, den_mul_ne p q, _, G.le_refl _, by rw [sub_parts]; exact h⟩
theorem pure_times (h1 : Γ 1 = spLowest) (h : spTimes ds g Q E) : mnS Γ gl sx_times (endsOf Q E) (startD ns_times ds) g := by
  obtain ⟨p, q, rfl, hs, h⟩ := h
  simp only [sx_times, h1, spLowest, mnS, mn, Mn.of, Op.rd, Cm.rd, Bl.rd, Mt.rd, Mt.rc, dNop, dSeq, dExpr, dRet, dRetN, dIf, gD, dAsg, dPar, dPut, dRaise, dVar, dC, dBin, dUn, dNil, dCons, dTup, dLst, dTst, dAndT, dOrT, dNotT, dYes, dAnd, dOr, dNot, dChain, dCall, dCB, dMt, dLset, dSrev, dTry, dIsx, dEmp, dStp, xsub, Ex.sub, dSlc, dPart, dNoPart, dIAny, dI1, dI2, dI3, dFor, dComp, compB, wipeD, startD, endsOf, at_mk, setAll, add_int, sub_int, mul_int, mul_tup, pow_int, mod_int, fdiv_int, lt_int, le_int, gt_int, ge_int, eq_int, neg_int, len_tup, len_scr, abs_int, max_int, min_int, int_int, int_bl, r1_int, r2_int, tuple_tup, list_tup, over_tup, rev_tup, enum_tup, zip_tup, slc_tup, add_tup, isi_any, ix_tup, ix_scr, ix_num0, ix_num1, len_num, num_0, num_1, atI_0, atI_1, atI_2, List.map, List.cons_append, List.nil_append, List.getElem?_cons_zero, List.getElem?_cons_succ, List.getElem?_nil, List.set_cons_zero, List.set_cons_succ, List.replicate, List.length_cons, List.length_nil, List.foldr_cons, List.foldr_nil, Nat.reduceAdd, Nat.reduceSub, List.replicate_succ, List.replicate_zero, G_up_same, decide_eq_true_eq, Bool.not_eq_true', Bool.false_eq_true, if_true, if_false, ite_true, ite_false, and_true, true_and, reduceCtorEq, Bool.not_true, Bool.not_false, Bool.false_bne, Bool.true_bne, sl0, sl1, sl2, sl3, sl4]
  exact ⟨mulOk_num p q hs, mulOk_den p q hs, _, _, rfl, den_mul_ne p q, _, G.le_refl _, by rw [mul_parts]; exact h⟩
theorem pure_law_plus (h1 : Γ 5 = spLowest) (h : spPlus ds g Q E) : mnS Γ gl sx_law_plus (endsOf Q E) (startD ns_law_plus ds) g := by
  obtain ⟨p, q, rfl, hs, h⟩ := h
  simp only [sx_law_plus, h1, spLowest, mnS, mn, Mn.of, Op.rd, Cm.rd, Bl.rd, Mt.rd, Mt.rc, dNop, dSeq, dExpr, dRet, dRetN, dIf, gD, dAsg, dPar, dPut, dRaise, dVar, dC, dBin, dUn, dNil, dCons, dTup, dLst, dTst, dAndT, dOrT, dNotT, dYes, dAnd, dOr, dNot, dChain, dCall, dCB, dMt, dLset, dSrev, dTry, dIsx, dEmp, dStp, xsub, Ex.sub, dSlc, dPart, dNoPart, dIAny, dI1, dI2, dI3, dFor, dComp, compB, wipeD, startD, endsOf, at_mk, setAll, add_int, sub_int, mul_int, mul_tup, pow_int, mod_int, fdiv_int, lt_int, le_int, gt_int, ge_int, eq_int, neg_int, len_tup, len_scr, abs_int, max_int, min_int, int_int, int_bl, r1_int, r2_int, tuple_tup, list_tup, over_tup, rev_tup, enum_tup, zip_tup, slc_tup, add_tup, isi_any, ix_tup, ix_scr, ix_num0, ix_num1, len_num, num_0, num_1, atI_0, atI_1, atI_2, List.map, List.cons_append, List.nil_append, List.getElem?_cons_zero, List.getElem?_cons_succ, List.getElem?_nil, List.set_cons_zero, List.set_cons_succ, List.replicate, List.length_cons, List.length_nil, List.foldr_cons, List.foldr_nil, Nat.reduceAdd, Nat.reduceSub, List.replicate_succ, List.replicate_zero, G_up_same, decide_eq_true_eq, Bool.not_eq_true', Bool.false_eq_true, if_true, if_false, ite_true, ite_false, and_true, true_and, reduceCtorEq, Bool.not_true, Bool.not_false, Bool.false_bne, Bool.true_bne, sl0, sl1, sl2, sl3, sl4]
  exact ⟨mulOk_nd p q hs, mulOk_nd q p (by omega), mulOk_den p q hs, _, _, rfl, den_mul_ne p q, _, G.le_refl _, by rw [add_parts]; exact h⟩
theorem pure_law_minus (h1 : Γ 5 = spLowest) (h : spMinus ds g Q E) : mnS Γ gl sx_law_minus (endsOf Q E) (startD ns_law_minus ds) g := by
  obtain ⟨p, q, rfl, hs, h⟩ := h
  simp only [sx_law_minus, h1, spLowest, mnS, mn, Mn.of, Op.rd, Cm.rd, Bl.rd, Mt.rd, Mt.rc, dNop, dSeq, dExpr, dRet, dRetN, dIf, gD, dAsg, dPar, dPut, dRaise, dVar, dC, dBin, dUn, dNil, dCons, dTup, dLst, dTst, dAndT, dOrT, dNotT, dYes, dAnd, dOr, dNot, dChain, dCall, dCB, dMt, dLset, dSrev, dTry, dIsx, dEmp, dStp, xsub, Ex.sub, dSlc, dPart, dNoPart, dIAny, dI1, dI2, dI3, dFor, dComp, compB, wipeD, startD, endsOf, at_mk, setAll, add_int, sub_int, mul_int, mul_tup, pow_int, mod_int, fdiv_int, lt_int, le_int, gt_int, ge_int, eq_int, neg_int, len_tup, len_scr, abs_int, max_int, min_int, int_int, int_bl, r1_int, r2_int, tuple_tup, list_tup, over_tup, rev_tup, enum_tup, zip_tup, slc_tup, add_tup, isi_any, ix_tup, ix_scr, ix_num0, ix_num1, len_num, num_0, num_1, atI_0, atI_1, atI_2, List.map, List.cons_append, List.nil_append, List.getElem?_cons_zero, List.getElem?_cons_succ, List.getElem?_nil, List.set_cons_zero, List.set_cons_succ, List.replicate, List.length_cons, List.length_nil, List.foldr_cons, List.foldr_nil, Nat.reduceAdd, Nat.reduceSub, List.replicate_succ, List.replicate_zero, G_up_same, decide_eq_true_eq, Bool.not_eq_true', Bool.false_eq_true, if_true, if_false, ite_true, ite_false, and_true, true_and, reduceCtorEq, Bool.not_true, Bool.not_false, Bool.false_bne, Bool.true_bne, sl0, sl1, sl2, sl3, sl4]
  exact ⟨mulOk_nd p q hs, mulOk_nd q p (by omega), mulOk_den p q hs, _, _, rfl, den_mul_ne p q, _, G.le_refl _, by rw [sub_parts]; exact h⟩
theorem pure_law_times (h1 : Γ 5 = spLowest) (h : spTimes ds g Q E) : mnS Γ gl sx_law_times (endsOf Q E) (startD ns_law_times ds) g := by
  obtain ⟨p, q, rfl, hs, h⟩ := h
  simp only [sx_law_times, h1, spLowest, mnS, mn, Mn.of, Op.rd, Cm.rd, Bl.rd, Mt.rd, Mt.rc, dNop, dSeq, dExpr, dRet, dRetN, dIf, gD, dAsg, dPar, dPut, dRaise, dVar, dC, dBin, dUn, dNil, dCons, dTup, dLst, dTst, dAndT, dOrT, dNotT, dYes, dAnd, dOr, dNot, dChain, dCall, dCB, dMt, dLset, dSrev, dTry, dIsx, dEmp, dStp, xsub, Ex.sub, dSlc, dPart, dNoPart, dIAny, dI1, dI2, dI3, dFor, dComp, compB, wipeD, startD, endsOf, at_mk, setAll, add_int, sub_int, mul_int, mul_tup, pow_int, mod_int, fdiv_int, lt_int, le_int, gt_int, ge_int, eq_int, neg_int, len_tup, len_scr, abs_int, max_int, min_int, int_int, int_bl, r1_int, r2_int, tuple_tup, list_tup, over_tup, rev_tup, enum_tup, zip_tup, slc_tup, add_tup, isi_any, ix_tup, ix_scr, ix_num0, ix_num1, len_num, num_0, num_1, atI_0, atI_1, atI_2, List.map, List.cons_append, List.nil_append, List.getElem?_cons_zero, List.getElem?_cons_succ, List.getElem?_nil, List.set_cons_zero, List.set_cons_succ, List.replicate, List.length_cons, List.length_nil, List.foldr_cons, List.foldr_nil, Nat.reduceAdd, Nat.reduceSub, List.replicate_succ, List.replicate_zero, G_up_same, decide_eq_true_eq, Bool.not_eq_true', Bool.false_eq_true, if_true, if_false, ite_true, ite_false, and_true, true_and, reduceCtorEq, Bool.not_true, Bool.not_false, Bool.false_bne, Bool.true_bne, sl0, sl1, sl2, sl3, sl4]
  exact ⟨mulOk_num p q hs, mulOk_den p q hs, _, _, rfl, den_mul_ne p q, _, G.le_refl _, by rw [mul_parts]; exact h⟩
theorem pure_over (h1 : Γ 1 = spLowest) (h : spOver ds g Q E) : mnS Γ gl sx_over (endsOf Q E) (startD ns_over ds) g := by
  obtain ⟨p, q, rfl, hs, h0, h⟩ := h
  simp only [sx_over, h1, spLowest, mnS, mn, Mn.of, Op.rd, Cm.rd, Bl.rd, Mt.rd, Mt.rc, dNop, dSeq, dExpr, dRet, dRetN, dIf, gD, dAsg, dPar, dPut, dRaise, dVar, dC, dBin, dUn, dNil, dCons, dTup, dLst, dTst, dAndT, dOrT, dNotT, dYes, dAnd, dOr, dNot, dChain, dCall, dCB, dMt, dLset, dSrev, dTry, dIsx, dEmp, dStp, xsub, Ex.sub, dSlc, dPart, dNoPart, dIAny, dI1, dI2, dI3, dFor, dComp, compB, wipeD, startD, endsOf, at_mk, setAll, add_int, sub_int, mul_int, mul_tup, pow_int, mod_int, fdiv_int, lt_int, le_int, gt_int, ge_int, eq_int, neg_int, len_tup, len_scr, abs_int, max_int, min_int, int_int, int_bl, r1_int, r2_int, tuple_tup, list_tup, over_tup, rev_tup, enum_tup, zip_tup, slc_tup, add_tup, isi_any, ix_tup, ix_scr, ix_num0, ix_num1, len_num, num_0, num_1, atI_0, atI_1, atI_2, List.map, List.cons_append, List.nil_append, List.getElem?_cons_zero, List.getElem?_cons_succ, List.getElem?_nil, List.set_cons_zero, List.set_cons_succ, List.replicate, List.length_cons, List.length_nil, List.foldr_cons, List.foldr_nil, Nat.reduceAdd, Nat.reduceSub, List.replicate_succ, List.replicate_zero, G_up_same, decide_eq_true_eq, Bool.not_eq_true', Bool.false_eq_true, if_true, if_false, ite_true, ite_false, and_true, true_and, reduceCtorEq, Bool.not_true, Bool.not_false, Bool.false_bne, Bool.true_bne, sl0, sl1, sl2, sl3, sl4, Bool.false_bne]
  split
  · rename_i z
    exact ⟨_, G.le_refl _, h0 (Rat.num_eq_zero.mp z)⟩
  · rename_i z
    have hq : q ≠ 0 := fun e => z (Rat.num_eq_zero.mpr e)
    exact ⟨mulOk_nd p q hs, mulOk_dn p q hs, _, _, rfl, Int.mul_ne_zero (den_ne p) z, _, G.le_refl _, by rw [div_parts]; exact h hq⟩
theorem pure_is_less (h : spLess ds g Q E) : mnS Γ gl sx_is_less (endsOf Q E) (startD ns_is_less ds) g := by
  obtain ⟨p, q, rfl, hs, h⟩ := h
  simp only [sx_is_less, mnS, mn, Mn.of, Op.rd, Cm.rd, Bl.rd, Mt.rd, Mt.rc, dNop, dSeq, dExpr, dRet, dRetN, dIf, gD, dAsg, dPar, dPut, dRaise, dVar, dC, dBin, dUn, dNil, dCons, dTup, dLst, dTst, dAndT, dOrT, dNotT, dYes, dAnd, dOr, dNot, dChain, dCall, dCB, dMt, dLset, dSrev, dTry, dIsx, dEmp, dStp, xsub, Ex.sub, dSlc, dPart, dNoPart, dIAny, dI1, dI2, dI3, dFor, dComp, compB, wipeD, startD, endsOf, at_mk, setAll, add_int, sub_int, mul_int, mul_tup, pow_int, mod_int, fdiv_int, lt_int, le_int, gt_int, ge_int, eq_int, neg_int, len_tup, len_scr, abs_int, max_int, min_int, int_int, int_bl, r1_int, r2_int, tuple_tup, list_tup, over_tup, rev_tup, enum_tup, zip_tup, slc_tup, add_tup, isi_any, ix_tup, ix_scr, ix_num0, ix_num1, len_num, num_0, num_1, atI_0, atI_1, atI_2, List.map, List.cons_append, List.nil_append, List.getElem?_cons_zero, List.getElem?_cons_succ, List.getElem?_nil, List.set_cons_zero, List.set_cons_succ, List.replicate, List.length_cons, List.length_nil, List.foldr_cons, List.foldr_nil, Nat.reduceAdd, Nat.reduceSub, List.replicate_succ, List.replicate_zero, G_up_same, decide_eq_true_eq, Bool.not_eq_true', Bool.false_eq_true, if_true, if_false, ite_true, ite_false, and_true, true_and, reduceCtorEq, Bool.not_true, Bool.not_false, Bool.false_bne, Bool.true_bne, sl0, sl1, sl2, sl3, sl4]
  refine ⟨mulOk_nd p q hs, mulOk_nd q p (by omega), _, G.le_refl _, ?_⟩
  rw [show decide (p.num * (q.den : Int) < q.num * (p.den : Int)) = decide (p < q) from decide_eq_decide.mpr (Rat.lt_iff p q).symm]
  exact h
end
end PP
namespace PP
open PySem PySem.Spec PyProof.Rows L2
def sx_law_pen : SX :=
  (.asg (.n 2) (.bin .add (.bin .mul (.int 7919) (.v 1)) (.int 5))
  (.ite (.cmp .lt (.v 1) (.blt .len (.cons (.v 0) .nil)))
    (.asg (.n 2) (.ix (.v 0) (.v 1)) .nil)
    (.ite (.cmp .gt (.blt .len (.cons (.v 0) .nil)) (.int 0))
      (.asg (.n 2) (.bin .add (.ix (.v 0) (.bin .mod (.v 1) (.blt .len (.cons (.v 0) .nil)))) (.bin .mul (.int 48271) (.v 1))) .nil)
      .nil .nil)
  (.ite (.cmp .ge (.v 2) (.bin .pow (.int 10) (.int 18)))
    (.ret (.lst (.cons (.bin .sub (.v 2) (.bin .pow (.int 10) (.int 18))) (.cons (.bin .mod (.v 2) (.int 2147483587)) (.cons (.int 0) .nil)))) .nil)
    .nil
  (.ret (.lst (.cons (.int 0) (.cons (.bin .add (.bin .mod (.v 2) (.int 2147483587)) (.bin .mul (.int 2147483629) (.v 1))) (.cons (.int 0) .nil)))) .nil))))
abbrev ns_law_pen : List Str := ["_law_script", "_law_k", "_law_cell"]
def sx_law_draw : SX :=
  (.put (.v 0) (.int 2) (.bin .add (.ix (.v 0) (.int 2)) (.int 1))
  (.ite (.cmp .gt (.ix (.v 0) (.int 0)) (.int 0))
    (.asg (.n 3) (.bin .mod (.ix (.v 0) (.int 0)) (.v 1))
    (.put (.v 0) (.int 0) (.bin .fdiv (.ix (.v 0) (.int 0)) (.v 1))
    (.ret (.v 3) .nil)))
    .nil
  (.asg (.n 2) (.bin .mod (.bin .mul (.bin .add (.bin .add (.ix (.v 0) (.int 1)) (.bin .mul (.int 40503) (.ix (.v 0) (.int 2)))) (.int 1)) (.int 48271)) (.int 2147483647))
  (.asg (.n 2) (.bin .mod (.bin .mul (.v 2) (.bin .add (.bin .add (.bin .mod (.v 2) (.int 65521)) (.ix (.v 0) (.int 2))) (.int 3))) (.int 2147483629))
  (.ret (.bin .mod (.bin .fdiv (.bin .mod (.bin .mul (.v 2) (.bin .add (.bin .mod (.v 2) (.int 8191)) (.int 7))) (.int 2147483563)) (.int 3)) (.v 1)) .nil)))))
abbrev ns_law_draw : List Str := ["_law_pen_here", "_law_many", "_law_number", "_law_drawn"]
def PenL (xs : List D) (n : Nat) : Prop := ∃ x0 x1 x2 : Int, xs = [.int x0, .int x1, .int x2] ∧ 0 ≤ x1 ∧ x1 < 2 ^ 60 ∧ 0 ≤ x2 ∧ x2 ≤ n
theorem PenL.mono {xs : List D} {n m : Nat} (h : PenL xs n) (l : n ≤ m) : PenL xs m := by
  obtain ⟨x0, x1, x2, e, a, b, c, d⟩ := h
  exact ⟨x0, x1, x2, e, a, b, c, by omega⟩
theorem mulOk_small {i j : Int} (h1 : i.natAbs < 2 ^ 64) (h2 : j.natAbs < 2 ^ 64) : MulOk i j := mulOk_of h1 h2 (by decide)
def spDraw : SpD := fun ds g Q _ => ∃ (a : Addr) (m : Int) (xs : List D) (n : Nat), ds = [.ref a, .int m] ∧ 0 < m ∧ g a = some xs ∧ PenL xs n ∧ n < 2 ^ 50 ∧
  ∀ (d : Nat) xs', (d : Int) < m → PenL xs' (n + 1) → Q (.int d) (g.up a xs')
theorem ixN_3 : ixN 3 0 = some 0 ∧ ixN 3 1 = some 1 ∧ ixN 3 2 = some 2 := by decide
theorem fmod_lt {a m : Int} (h : 0 < m) : 0 ≤ a.fmod m ∧ a.fmod m < m := ⟨Int.fmod_nonneg_of_pos a h, Int.fmod_lt_of_pos a h⟩
theorem pure_law_draw {Γ : Nat → SpD} {gl : Nat → D} {ds : List D} {g : G} {Q : QD} {E : XD} (h : spDraw ds g Q E) : mnS Γ gl sx_law_draw (endsOf Q E) (startD ns_law_draw ds) g := by
  obtain ⟨a, m, xs, n, rfl, hm, hg, ⟨x0, x1, x2, rfl, h1, h2, h3, h4⟩, hn, h⟩ := h
  have fin : ∀ (d : Int) xs', 0 ≤ d → d < m → PenL xs' (n + 1) → Q (.int d) (g.up a xs') := fun d xs' a1 a2 a3 => by
    have := h d.toNat xs' (by omega) a3
    rwa [show ((d.toNat : Nat) : Int) = d by omega] at this
  simp only [sx_law_draw, mnS, mn, Mn.of, Op.rd, Cm.rd, Bl.rd, Mt.rd, Mt.rc, dNop, dSeq, dExpr, dRet, dRetN, dIf, gD, dAsg, dPar, dPut, dRaise, dVar, dC, dBin, dUn, dNil, dCons, dTup, dLst, dTst, dAndT, dOrT, dNotT, dYes, dAnd, dOr, dNot, dChain, dCall, dCB, dMt, dLset, dSrev, dTry, dIsx, dEmp, dStp, xsub, Ex.sub, dSlc, dPart, dNoPart, dIAny, dI1, dI2, dI3, dFor, dComp, compB, wipeD, startD, endsOf, at_mk, setAll, add_int, sub_int, mul_int, mul_tup, pow_int, mod_int, fdiv_int, lt_int, le_int, gt_int, ge_int, eq_int, neg_int, len_tup, len_scr, abs_int, max_int, min_int, int_int, int_bl, r1_int, r2_int, tuple_tup, list_tup, over_tup, rev_tup, enum_tup, zip_tup, slc_tup, add_tup, isi_any, ix_tup, ix_scr, ix_num0, ix_num1, len_num, num_0, num_1, atI_0, atI_1, atI_2, List.map, List.cons_append, List.nil_append, List.getElem?_cons_zero, List.getElem?_cons_succ, List.getElem?_nil, List.set_cons_zero, List.set_cons_succ, List.replicate, List.length_cons, List.length_nil, List.foldr_cons, List.foldr_nil, Nat.reduceAdd, Nat.reduceSub, List.replicate_succ, List.replicate_zero, G_up_same, decide_eq_true_eq, Bool.not_eq_true', Bool.false_eq_true, if_true, if_false, ite_true, ite_false, and_true, true_and, reduceCtorEq, Bool.not_true, Bool.not_false, Bool.false_bne, Bool.true_bne, sl0, sl1, sl2, sl3, sl4, ix_ref hg, set_ref hg, set_ref G_up_same, ixN_3, ix_ref G_up_same]
  have P := @fmod_lt x0 m hm
  split
  · rename_i hx
    refine ⟨by omega, by omega, _, G.le_refl _, ?_⟩
    rw [G_up_up]
    exact fin _ _ P.1 P.2 ⟨_, _, _, rfl, h1, h2, by omega, by omega⟩
  · rename_i hx
    refine ⟨mulOk_small (by decide) (by omega), mulOk_of (a := 80) (b := 16) (by omega) (by decide) (by decide), by decide, ?_⟩
    generalize hy : Int.fmod _ 2147483647 = y
    have hy1 : 0 ≤ y ∧ y < 2147483647 := by rw [← hy]; exact fmod_lt (by decide)
    have hz := @fmod_lt y 65521 (by decide)
    refine ⟨by decide, mulOk_small (by omega) (by omega), by decide, ?_⟩
    generalize hw : Int.fmod _ 2147483629 = w
    have hw1 : 0 ≤ w ∧ w < 2147483629 := by rw [← hw]; exact fmod_lt (by decide)
    have hv := @fmod_lt w 8191 (by decide)
    refine ⟨by decide, mulOk_small (by omega) (by omega), by decide, by decide, by omega, _, G.le_refl _, ?_⟩
    have R := @fmod_lt (Int.fdiv (Int.fmod (w * (Int.fmod w 8191 + 7)) 2147483563) 3) m hm
    exact fin _ _ R.1 R.2 ⟨_, _, _, rfl, h1, h2, by omega, by omega⟩
def spPen : SpD := fun ds g Q _ => ∃ (ns : List Int) (k : Nat), ds = [.scr ns, .int k] ∧ k ≤ 1000 ∧ (∀ z ∈ ns, Builtin.Int.intBits z ≤ 1048576) ∧ ∀ p xs, g p = none → PenL xs 0 → Q (.ref p) (g.up p xs)
theorem pure_law_pen {Γ : Nat → SpD} {gl : Nat → D} {ds : List D} {g : G} {Q : QD} {E : XD} (h : spPen ds g Q E) : mnS Γ gl sx_law_pen (endsOf Q E) (startD ns_law_pen ds) g := by
  obtain ⟨ns, k, rfl, hk, hb, h⟩ := h
  have fin : ∀ c : Int, (if ((10 : Int) ^ 18 ≤ c) then (∀ p, g p = none → ∃ g', g'.le (g.up p [.int (c - 10 ^ 18), .int (c.fmod 2147483587), .int 0]) ∧ Q (.ref p) g') else (MulOk 2147483629 k ∧ ∀ p, g p = none → ∃ g', g'.le (g.up p [.int 0, .int (c.fmod 2147483587 + 2147483629 * k), .int 0]) ∧ Q (.ref p) g')) := fun c => by
    have P := @fmod_lt c 2147483587 (by decide)
    split
    · intro p hp
      exact ⟨_, G.le_refl _, h p _ hp ⟨_, _, _, rfl, P.1, by omega, by decide, by decide⟩⟩
    · refine ⟨mulOk_small (by decide) (by omega), fun p hp => ?_⟩
      exact ⟨_, G.le_refl _, h p _ hp ⟨_, _, _, rfl, by omega, by omega, by decide, by decide⟩⟩
  have e18 : ((10 : Int) ^ (18 : Int).toNat) = 10 ^ 18 := rfl
  simp only [sx_law_pen, mnS, mn, Mn.of, Op.rd, Cm.rd, Bl.rd, Mt.rd, Mt.rc, dNop, dSeq, dExpr, dRet, dRetN, dIf, gD, dAsg, dPar, dPut, dRaise, dVar, dC, dBin, dUn, dNil, dCons, dTup, dLst, dTst, dAndT, dOrT, dNotT, dYes, dAnd, dOr, dNot, dChain, dCall, dCB, dMt, dLset, dSrev, dTry, dIsx, dEmp, dStp, xsub, Ex.sub, dSlc, dPart, dNoPart, dIAny, dI1, dI2, dI3, dFor, dComp, compB, wipeD, startD, endsOf, at_mk, setAll, add_int, sub_int, mul_int, mul_tup, pow_int, mod_int, fdiv_int, lt_int, le_int, gt_int, ge_int, eq_int, neg_int, len_tup, len_scr, abs_int, max_int, min_int, int_int, int_bl, r1_int, r2_int, tuple_tup, list_tup, over_tup, rev_tup, enum_tup, zip_tup, slc_tup, add_tup, isi_any, ix_tup, ix_scr, ix_num0, ix_num1, len_num, num_0, num_1, atI_0, atI_1, atI_2, List.map, List.cons_append, List.nil_append, List.getElem?_cons_zero, List.getElem?_cons_succ, List.getElem?_nil, List.set_cons_zero, List.set_cons_succ, List.replicate, List.length_cons, List.length_nil, List.foldr_cons, List.foldr_nil, Nat.reduceAdd, Nat.reduceSub, List.replicate_succ, List.replicate_zero, G_up_same, decide_eq_true_eq, Bool.not_eq_true', Bool.false_eq_true, if_true, if_false, ite_true, ite_false, and_true, true_and, reduceCtorEq, Bool.not_true, Bool.not_false, Bool.false_bne, Bool.true_bne, sl0, sl1, sl2, sl3, sl4]
  have pw : (0 : Int) ≤ 18 ∧ (18 : Int) ≤ 1000000 ∧ (10 : Int).natAbs < 2 ^ 64 := by decide
  refine ⟨mulOk_small (by decide) (by omega), ?_⟩
  split
  · rename_i hlt
    have hlt : k < ns.length := by omega
    rw [atI_at (k := k) (x := ns[k]) rfl (List.getElem?_eq_getElem hlt)]
    try simp only [mnS, mn, Mn.of, Op.rd, Cm.rd, Bl.rd, Mt.rd, Mt.rc, dNop, dSeq, dExpr, dRet, dRetN, dIf, gD, dAsg, dPar, dPut, dRaise, dVar, dC, dBin, dUn, dNil, dCons, dTup, dLst, dTst, dAndT, dOrT, dNotT, dYes, dAnd, dOr, dNot, dChain, dCall, dCB, dMt, dLset, dSrev, dTry, dIsx, dEmp, dStp, xsub, Ex.sub, dSlc, dPart, dNoPart, dIAny, dI1, dI2, dI3, dFor, dComp, compB, wipeD, startD, endsOf, at_mk, setAll, add_int, sub_int, mul_int, mul_tup, pow_int, mod_int, fdiv_int, lt_int, le_int, gt_int, ge_int, eq_int, neg_int, len_tup, len_scr, abs_int, max_int, min_int, int_int, int_bl, r1_int, r2_int, tuple_tup, list_tup, over_tup, rev_tup, enum_tup, zip_tup, slc_tup, add_tup, isi_any, ix_tup, ix_scr, ix_num0, ix_num1, len_num, num_0, num_1, atI_0, atI_1, atI_2, List.map, List.cons_append, List.nil_append, List.getElem?_cons_zero, List.getElem?_cons_succ, List.getElem?_nil, List.set_cons_zero, List.set_cons_succ, List.replicate, List.length_cons, List.length_nil, List.foldr_cons, List.foldr_nil, Nat.reduceAdd, Nat.reduceSub, List.replicate_succ, List.replicate_zero, G_up_same, decide_eq_true_eq, Bool.not_eq_true', Bool.false_eq_true, if_true, if_false, ite_true, ite_false, and_true, true_and, reduceCtorEq, Bool.not_true, Bool.not_false, Bool.false_bne, Bool.true_bne, sl0, sl1, sl2, sl3, sl4]
    refine ⟨pw, ?_⟩
    have F := fin ns[k]
    split
    · rename_i c
      rw [e18] at c ⊢
      rw [if_pos c] at F
      exact ⟨by decide, by decide, F⟩
    · rename_i c
      rw [e18] at c
      rw [if_neg c] at F
      exact ⟨by decide, F.1, F.2⟩
  · split
    · rename_i h0
      have hm := @fmod_lt (k : Int) ns.length h0
      have hlt : ((k : Int).fmod ns.length).toNat < ns.length := by omega
      rw [atI_at (k := ((k : Int).fmod ns.length).toNat) (x := ns[((k : Int).fmod ns.length).toNat]) (by omega) (List.getElem?_eq_getElem hlt)]
      try simp only [mnS, mn, Mn.of, Op.rd, Cm.rd, Bl.rd, Mt.rd, Mt.rc, dNop, dSeq, dExpr, dRet, dRetN, dIf, gD, dAsg, dPar, dPut, dRaise, dVar, dC, dBin, dUn, dNil, dCons, dTup, dLst, dTst, dAndT, dOrT, dNotT, dYes, dAnd, dOr, dNot, dChain, dCall, dCB, dMt, dLset, dSrev, dTry, dIsx, dEmp, dStp, xsub, Ex.sub, dSlc, dPart, dNoPart, dIAny, dI1, dI2, dI3, dFor, dComp, compB, wipeD, startD, endsOf, at_mk, setAll, add_int, sub_int, mul_int, mul_tup, pow_int, mod_int, fdiv_int, lt_int, le_int, gt_int, ge_int, eq_int, neg_int, len_tup, len_scr, abs_int, max_int, min_int, int_int, int_bl, r1_int, r2_int, tuple_tup, list_tup, over_tup, rev_tup, enum_tup, zip_tup, slc_tup, add_tup, isi_any, ix_tup, ix_scr, ix_num0, ix_num1, len_num, num_0, num_1, atI_0, atI_1, atI_2, List.map, List.cons_append, List.nil_append, List.getElem?_cons_zero, List.getElem?_cons_succ, List.getElem?_nil, List.set_cons_zero, List.set_cons_succ, List.replicate, List.length_cons, List.length_nil, List.foldr_cons, List.foldr_nil, Nat.reduceAdd, Nat.reduceSub, List.replicate_succ, List.replicate_zero, G_up_same, decide_eq_true_eq, Bool.not_eq_true', Bool.false_eq_true, if_true, if_false, ite_true, ite_false, and_true, true_and, reduceCtorEq, Bool.not_true, Bool.not_false, Bool.false_bne, Bool.true_bne, sl0, sl1, sl2, sl3, sl4]
      refine ⟨by omega, mulOk_small (by decide) (by omega), pw, ?_⟩
      have F := fin (ns[((k : Int).fmod ns.length).toNat] + 48271 * k)
      split
      · rename_i c
        rw [e18] at c ⊢
        rw [if_pos c] at F
        exact ⟨by decide, by decide, F⟩
      · rename_i c
        rw [e18] at c
        rw [if_neg c] at F
        exact ⟨by decide, F.1, F.2⟩
    · refine ⟨pw, ?_⟩
      have F := fin (7919 * k + 5)
      split
      · rename_i c
        rw [e18] at c ⊢
        rw [if_pos c] at F
        exact ⟨by decide, by decide, F⟩
      · rename_i c
        rw [e18] at c
        rw [if_neg c] at F
        exact ⟨by decide, F.1, F.2⟩
end PP
namespace PP
open PySem PySem.Spec PyProof.Rows L2
mutual
def plainP : PyData → Bool
  | .none => true
  | .int _ => true
  | .str _ => true
  | .list xs => plainPs xs
  | .tuple xs => plainPs xs
  | .bool _ => false
  | .dict _ => false
def plainPs : List PyData → Bool
  | [] => true
  | x :: xs => plainP x && plainPs xs
end
mutual
theorem eqv_eq : ∀ (p q : PyData), plainP p = true → plainP q = true → (PyData.eqv p q = true ↔ p = q)
  | .none, q, _, hq => by cases q <;> first | (simp [PyData.eqv]; done) | (cases hq; done)
  | .int i, q, _, hq => by cases q <;> first | (simp [PyData.eqv]; done) | (cases hq; done)
  | .str i, q, _, hq => by cases q <;> first | (simp [PyData.eqv]; done) | (cases hq; done)
  | .list xs, q, hp, hq => by
    cases q with
    | list ys =>
      rw [PyData.eqv, eqvs_eq xs ys hp hq]
      simp
    | _ => first | (simp [PyData.eqv]; done) | (cases hq; done)
  | .tuple xs, q, hp, hq => by
    cases q with
    | tuple ys =>
      rw [PyData.eqv, eqvs_eq xs ys hp hq]
      simp
    | _ => first | (simp [PyData.eqv]; done) | (cases hq; done)
  | .bool _, _, hp, _ => by cases hp
  | .dict _, _, hp, _ => by cases hp
theorem eqvs_eq : ∀ (xs ys : List PyData), plainPs xs = true → plainPs ys = true → (PyData.eqvAll xs ys = true ↔ xs = ys)
  | [], ys, _, _ => by cases ys <;> simp [PyData.eqvAll]
  | x :: xs, ys, hx, hy => by
    cases ys with
    | nil => simp [PyData.eqvAll]
    | cons y ys =>
      have hx : (plainP x && plainPs xs) = true := hx
      have hy : (plainP y && plainPs ys) = true := hy
      rw [Bool.and_eq_true] at hx hy
      rw [PyData.eqvAll, Bool.and_eq_true, eqv_eq x y hx.1 hy.1, eqvs_eq xs ys hx.2 hy.2]
      simp
end
structure Nice (k : Nat) (p : PyData) : Prop where
  lay : p.canLay0 = true
  plain : plainP p = true
  deep : p.depth ≤ k
theorem Nice.shaped {k : Nat} {p : PyData} (h : Nice k p) (hk : k ≤ 64) : SeqAt.shaped p = true := by
  unfold SeqAt.shaped
  rw [h.lay, decide_eq_true (Nat.le_trans h.deep hk)]
  rfl
theorem Nice.mono {k j : Nat} {p : PyData} (h : Nice k p) (hk : k ≤ j) : Nice j p := ⟨h.lay, h.plain, Nat.le_trans h.deep hk⟩
theorem nice_int (i : Int) : Nice 0 (.int i) := ⟨rfl, rfl, Nat.le_refl _⟩
theorem nices {k : Nat} : ∀ {xs : List PyData}, (∀ x ∈ xs, Nice k x) → PyData.canLayAll0 xs = true ∧ plainPs xs = true ∧ PyData.depthAll xs ≤ k
  | [], _ => ⟨rfl, rfl, Nat.zero_le _⟩
  | x :: xs, h => by
    obtain ⟨a, b, c⟩ := nices (xs := xs) fun y hy => h y (List.mem_cons_of_mem _ hy)
    have hx := h x (List.mem_cons_self ..)
    refine ⟨?_, ?_, ?_⟩
    · rw [PyData.canLayAll0, hx.lay, a]; rfl
    · rw [plainPs, hx.plain, b]; rfl
    · rw [PyData.depthAll]; exact Nat.max_le.mpr ⟨hx.deep, c⟩
theorem nice_list {k : Nat} {xs : List PyData} (h : ∀ x ∈ xs, Nice k x) : Nice (k + 1) (.list xs) := by
  obtain ⟨a, b, c⟩ := nices h
  exact ⟨by rw [PyData.canLay0]; exact a, by rw [plainP]; exact b, by rw [PyData.depth]; omega⟩
theorem nice_tup {k : Nat} {xs : List PyData} (h : ∀ x ∈ xs, Nice k x) : Nice (k + 1) (.tuple xs) := by
  obtain ⟨a, b, c⟩ := nices h
  exact ⟨by rw [PyData.canLay0]; exact a, by rw [plainP]; exact b, by rw [PyData.depth]; omega⟩
def npy (q : Rat) : PyData := .tuple [.int q.num, .int q.den]
theorem npy_inj {p q : Rat} (h : npy p = npy q) : p = q := by
  unfold npy at h
  simp only [PyData.tuple.injEq, List.cons.injEq, PyData.int.injEq, and_true] at h
  exact Rat.ext h.1 (by omega)
theorem nice_num (q : Rat) : Nice 1 (npy q) := nice_tup (k := 0) fun x hx => by
  rcases List.mem_cons.mp hx with e | hx
  · subst e; exact nice_int _
  · rcases List.mem_cons.mp hx with e | hx
    · subst e; exact nice_int _
    · cases hx
def npys (qs : List Rat) : List PyData := qs.map npy
theorem npys_inj {ps qs : List Rat} (h : npys ps = npys qs) : ps = qs := (List.map_inj_right fun _ _ => npy_inj).mp h
theorem nice_nums (qs : List Rat) : ∀ x ∈ npys qs, Nice 1 x := fun x hx => by
  obtain ⟨q, _, rfl⟩ := List.mem_map.mp hx
  exact nice_num q
section
variable {g : G} {Q : QD}
theorem pyW_num {f : Addr → Option PyData} (q : Rat) : pyW f (num q) = some (npy q) := rfl
theorem pyWL_nums {f : Addr → Option PyData} : ∀ qs : List Rat, pyWL f (nums qs) = some (npys qs)
  | [] => rfl
  | q :: qs => by
    show pyWL f (num q :: nums qs) = some (npy q :: npys qs)
    rw [pyWL, pyW_num, pyWL_nums qs]
theorem py_num (q : Rat) : py g (num q) = some (npy q) := rfl
theorem py_nums (qs : List Rat) : py g (.tup (nums qs)) = some (.tuple (npys qs)) := by
  unfold py
  rw [pyW, pyWL_nums]
theorem pyN_list {n : Nat} {a : Addr} {qs : List Rat} (h : g a = some (nums qs)) : pyN (n + 1) g a = some (.list (npys qs)) := by
  rw [pyN]
  simp only [h, pyWL_nums]
theorem py_list {a : Addr} {qs : List Rat} (h : g a = some (nums qs)) : py g (.ref a) = some (.list (npys qs)) := by
  unfold py
  rw [pyW]
  exact pyN_list h
theorem eq_rule {n : Bool} {x y : D} {k : Nat} {p q : PyData} (hx : py g x = some p) (hy : py g y = some q) (np : Nice k p) (nq : Nice k q) (hk : k ≤ 64) (h1 : p = q → Q (.bl (!n)) g) (h2 : p ≠ q → Q (.bl n) g) : dEqB n x y g Q := by
  have gen : (match py g x, py g y with
    | some p, some q => SeqAt.shaped p = true ∧ SeqAt.shaped q = true ∧ Q (.bl (n != PyData.eqv p q)) g
    | _, _ => False) := by
    simp only [hx, hy]
    refine ⟨np.shaped hk, nq.shaped hk, ?_⟩
    by_cases e : p = q
    · rw [(eqv_eq p q np.plain nq.plain).mpr e, Bool.bne_true]; exact h1 e
    · rw [Bool.eq_false_iff.mpr fun z => e ((eqv_eq p q np.plain nq.plain).mp z), Bool.bne_false]; exact h2 e
  unfold dEqB
  split
  · rename_i i j
    cases hx; cases hy
    by_cases e : i = j
    · rw [decide_eq_true e, Bool.bne_true]; exact h1 (by rw [e])
    · rw [decide_eq_false e, Bool.bne_false]; exact h2 fun z => e (by cases z; rfl)
  · rename_i i j
    cases hx; cases hy
    by_cases e : i = j
    · rw [decide_eq_true e, Bool.bne_true]; exact h1 (by rw [e])
    · rw [decide_eq_false e, Bool.bne_false]; exact h2 fun z => e (by cases z; rfl)
  · cases hx; exact absurd np.plain (by simp [plainP])
  · exact gen
theorem eq_num {n : Bool} {p q : Rat} (h1 : p = q → Q (.bl (!n)) g) (h2 : p ≠ q → Q (.bl n) g) : dEqB n (num p) (num q) g Q :=
  eq_rule (py_num p) (py_num q) (nice_num p) (nice_num q) (by decide) (fun e => h1 (npy_inj e)) fun e => h2 fun z => e (by rw [z])
theorem eq_tup {n : Bool} {p q : List Rat} (h1 : p = q → Q (.bl (!n)) g) (h2 : p ≠ q → Q (.bl n) g) : dEqB n (.tup (nums p)) (.tup (nums q)) g Q :=
  eq_rule (py_nums p) (py_nums q) (nice_tup (nice_nums p)) (nice_tup (nice_nums q)) (by decide) (fun e => h1 (npys_inj (by injection e))) fun e => h2 fun z => e (by rw [z])
theorem eq_list {n : Bool} {a b : Addr} {p q : List Rat} (ha : g a = some (nums p)) (hb : g b = some (nums q)) (h1 : p = q → Q (.bl (!n)) g) (h2 : p ≠ q → Q (.bl n) g) : dEqB n (.ref a) (.ref b) g Q :=
  eq_rule (py_list ha) (py_list hb) (nice_list (nice_nums p)) (nice_list (nice_nums q)) (by decide) (fun e => h1 (npys_inj (by injection e))) fun e => h2 fun z => e (by rw [z])
end
end PP
namespace PP
open PySem PySem.Spec PyProof.Rows L2
def sx_law_number_v2 : SX :=
  (.ite (.cmp .gt (.call 4 (.cons (.v 0) (.cons (.int 6) .nil))) (.int 0))
    (.ret (.call 5 (.cons (.bin .sub (.call 4 (.cons (.v 0) (.cons (.int 19) .nil))) (.int 9)) (.cons (.bin .add (.int 1) (.call 4 (.cons (.v 0) (.cons (.ix (.lst (.cons (.int 1) (.cons (.int 4) .nil))) (.call 4 (.cons (.v 0) (.cons (.int 2) .nil)))) .nil)))) .nil))) .nil)
    .nil
  (.ret (.call 5 (.cons (.bin .sub (.call 4 (.cons (.v 0) (.cons (.int 199) .nil))) (.int 99)) (.cons (.bin .add (.int 1) (.call 4 (.cons (.v 0) (.cons (.int 9) .nil)))) .nil))) .nil))
abbrev ns_law_number_v2 : List Str := ["_law_pen_here"]
section
variable {Γ : Nat → SpD} {gl : Nat → D} {ds : List D} {g : G} {Q : QD} {E X : XD}
theorem c_draw {a : Addr} {m : Int} {xs : List D} {n : Nat} (h : g a = some xs) (hm : 0 < m) (hp : PenL xs n) (hn : n < 2 ^ 50) (k : ∀ (d : Nat) xs', (d : Int) < m → PenL xs' (n + 1) → Q (.int d) (g.up a xs')) : spDraw [.ref a, .int m] g Q X :=
  ⟨a, m, xs, n, rfl, hm, h, hp, hn, k⟩
def spPenFn (R : D → Prop) (c : Nat) : SpD := fun ds g Q _ => ∃ (a : Addr) (xs : List D) (n : Nat), ds = [.ref a] ∧ g a = some xs ∧ PenL xs n ∧ n + c < 2 ^ 50 ∧ ∀ d xs', R d → PenL xs' (n + c) → Q d (g.up a xs')
theorem c_penFn {R : D → Prop} {c : Nat} {a : Addr} {xs : List D} {n : Nat} (h : g a = some xs) (hp : PenL xs n) (hn : n + c < 2 ^ 50) (k : ∀ d xs', R d → PenL xs' (n + c) → Q d (g.up a xs')) : spPenFn R c [.ref a] g Q X :=
  ⟨a, xs, n, rfl, h, hp, hn, k⟩
def isNumD (b : Nat) (d : D) : Prop := ∃ q : Rat, d = num q ∧ sz q ≤ b
theorem isNum_div {t b : Int} {c : Nat} (ht : t.natAbs < 2 ^ c) (hb : b.natAbs < 2 ^ c) (h0 : b ≠ 0) : isNumD c (num (Rat.divInt t b)) := ⟨_, rfl, sz_divInt ht hb h0⟩
theorem pure_law_number_v2 (h4 : Γ 4 = spDraw) (h5 : Γ 5 = spLowest) (h : spPenFn (isNumD 16) 4 ds g Q E) : mnS Γ gl sx_law_number_v2 (endsOf Q E) (startD ns_law_number_v2 ds) g := by
  obtain ⟨a, xs, n, rfl, hg, hp, hn, h⟩ := h
  simp only [sx_law_number_v2, h4, h5, mnS, mn, Mn.of, Op.rd, Cm.rd, Bl.rd, Mt.rd, Mt.rc, dNop, dSeq, dExpr, dRet, dRetN, dIf, gD, dAsg, dPar, dPut, dRaise, dVar, dC, dBin, dUn, dNil, dCons, dTup, dLst, dTst, dAndT, dOrT, dNotT, dYes, dAnd, dOr, dNot, dChain, dCall, dCB, dMt, dLset, dSrev, dTry, dIsx, dEmp, dStp, xsub, Ex.sub, dSlc, dPart, dNoPart, dIAny, dI1, dI2, dI3, dFor, dComp, compB, wipeD, startD, endsOf, at_mk, setAll, add_int, sub_int, mul_int, mul_tup, pow_int, mod_int, fdiv_int, lt_int, le_int, gt_int, ge_int, eq_int, neg_int, len_tup, len_scr, abs_int, max_int, min_int, int_int, int_bl, r1_int, r2_int, tuple_tup, list_tup, over_tup, rev_tup, enum_tup, zip_tup, slc_tup, add_tup, isi_any, ix_tup, ix_scr, ix_num0, ix_num1, len_num, num_0, num_1, atI_0, atI_1, atI_2, List.map, List.cons_append, List.nil_append, List.getElem?_cons_zero, List.getElem?_cons_succ, List.getElem?_nil, List.set_cons_zero, List.set_cons_succ, List.replicate, List.length_cons, List.length_nil, List.foldr_cons, List.foldr_nil, Nat.reduceAdd, Nat.reduceSub, List.replicate_succ, List.replicate_zero, G_up_same, decide_eq_true_eq, Bool.not_eq_true', Bool.false_eq_true, if_true, if_false, ite_true, ite_false, and_true, true_and, reduceCtorEq, Bool.not_true, Bool.not_false, Bool.false_bne, Bool.true_bne, sl0, sl1, sl2, sl3, sl4]
  refine c_draw hg (by decide) hp (by omega) fun w xs1 hw p1 => ?_
  try simp only [mnS, mn, Mn.of, Op.rd, Cm.rd, Bl.rd, Mt.rd, Mt.rc, dNop, dSeq, dExpr, dRet, dRetN, dIf, gD, dAsg, dPar, dPut, dRaise, dVar, dC, dBin, dUn, dNil, dCons, dTup, dLst, dTst, dAndT, dOrT, dNotT, dYes, dAnd, dOr, dNot, dChain, dCall, dCB, dMt, dLset, dSrev, dTry, dIsx, dEmp, dStp, xsub, Ex.sub, dSlc, dPart, dNoPart, dIAny, dI1, dI2, dI3, dFor, dComp, compB, wipeD, startD, endsOf, at_mk, setAll, add_int, sub_int, mul_int, mul_tup, pow_int, mod_int, fdiv_int, lt_int, le_int, gt_int, ge_int, eq_int, neg_int, len_tup, len_scr, abs_int, max_int, min_int, int_int, int_bl, r1_int, r2_int, tuple_tup, list_tup, over_tup, rev_tup, enum_tup, zip_tup, slc_tup, add_tup, isi_any, ix_tup, ix_scr, ix_num0, ix_num1, len_num, num_0, num_1, atI_0, atI_1, atI_2, List.map, List.cons_append, List.nil_append, List.getElem?_cons_zero, List.getElem?_cons_succ, List.getElem?_nil, List.set_cons_zero, List.set_cons_succ, List.replicate, List.length_cons, List.length_nil, List.foldr_cons, List.foldr_nil, Nat.reduceAdd, Nat.reduceSub, List.replicate_succ, List.replicate_zero, G_up_same, decide_eq_true_eq, Bool.not_eq_true', Bool.false_eq_true, if_true, if_false, ite_true, ite_false, and_true, true_and, reduceCtorEq, Bool.not_true, Bool.not_false, Bool.false_bne, Bool.true_bne, sl0, sl1, sl2, sl3, sl4]
  split
  · refine c_draw G_up_same (by decide) p1 (by omega) fun d1 xs2 hd1 p2 => ?_
    simp only [mnS, mn, Mn.of, Op.rd, Cm.rd, Bl.rd, Mt.rd, Mt.rc, dNop, dSeq, dExpr, dRet, dRetN, dIf, gD, dAsg, dPar, dPut, dRaise, dVar, dC, dBin, dUn, dNil, dCons, dTup, dLst, dTst, dAndT, dOrT, dNotT, dYes, dAnd, dOr, dNot, dChain, dCall, dCB, dMt, dLset, dSrev, dTry, dIsx, dEmp, dStp, xsub, Ex.sub, dSlc, dPart, dNoPart, dIAny, dI1, dI2, dI3, dFor, dComp, compB, wipeD, startD, endsOf, at_mk, setAll, add_int, sub_int, mul_int, mul_tup, pow_int, mod_int, fdiv_int, lt_int, le_int, gt_int, ge_int, eq_int, neg_int, len_tup, len_scr, abs_int, max_int, min_int, int_int, int_bl, r1_int, r2_int, tuple_tup, list_tup, over_tup, rev_tup, enum_tup, zip_tup, slc_tup, add_tup, isi_any, ix_tup, ix_scr, ix_num0, ix_num1, len_num, num_0, num_1, atI_0, atI_1, atI_2, List.map, List.cons_append, List.nil_append, List.getElem?_cons_zero, List.getElem?_cons_succ, List.getElem?_nil, List.set_cons_zero, List.set_cons_succ, List.replicate, List.length_cons, List.length_nil, List.foldr_cons, List.foldr_nil, Nat.reduceAdd, Nat.reduceSub, List.replicate_succ, List.replicate_zero, G_up_same, decide_eq_true_eq, Bool.not_eq_true', Bool.false_eq_true, if_true, if_false, ite_true, ite_false, and_true, true_and, reduceCtorEq, Bool.not_true, Bool.not_false, Bool.false_bne, Bool.true_bne, sl0, sl1, sl2, sl3, sl4, G_up_up]
    intro p hp
    refine c_draw (G_up_fresh hp G_up_same) (by decide) p2 (by omega) fun d2 xs3 hd2 p3 => ?_
    have hne := ne_of_known (g := g.up a xs2) G_up_same hp
    refine ix_some ((G_up_ne (Ne.symm hne)).trans G_up_same) (by omega) hd2 fun x hx => ?_
    have hx' : ∃ m : Int, x = .int m ∧ 0 < m ∧ m ≤ 4 := by
      simp at hx
      rcases hx with e | e <;> exact ⟨_, e, by decide, by decide⟩
    obtain ⟨m, rfl, hm, hm2⟩ := hx'
    refine c_draw G_up_same hm p3 (by omega) fun d3 xs4 hd3 p4 => ?_
    simp only [mnS, mn, Mn.of, Op.rd, Cm.rd, Bl.rd, Mt.rd, Mt.rc, dNop, dSeq, dExpr, dRet, dRetN, dIf, gD, dAsg, dPar, dPut, dRaise, dVar, dC, dBin, dUn, dNil, dCons, dTup, dLst, dTst, dAndT, dOrT, dNotT, dYes, dAnd, dOr, dNot, dChain, dCall, dCB, dMt, dLset, dSrev, dTry, dIsx, dEmp, dStp, xsub, Ex.sub, dSlc, dPart, dNoPart, dIAny, dI1, dI2, dI3, dFor, dComp, compB, wipeD, startD, endsOf, at_mk, setAll, add_int, sub_int, mul_int, mul_tup, pow_int, mod_int, fdiv_int, lt_int, le_int, gt_int, ge_int, eq_int, neg_int, len_tup, len_scr, abs_int, max_int, min_int, int_int, int_bl, r1_int, r2_int, tuple_tup, list_tup, over_tup, rev_tup, enum_tup, zip_tup, slc_tup, add_tup, isi_any, ix_tup, ix_scr, ix_num0, ix_num1, len_num, num_0, num_1, atI_0, atI_1, atI_2, List.map, List.cons_append, List.nil_append, List.getElem?_cons_zero, List.getElem?_cons_succ, List.getElem?_nil, List.set_cons_zero, List.set_cons_succ, List.replicate, List.length_cons, List.length_nil, List.foldr_cons, List.foldr_nil, Nat.reduceAdd, Nat.reduceSub, List.replicate_succ, List.replicate_zero, G_up_same, decide_eq_true_eq, Bool.not_eq_true', Bool.false_eq_true, if_true, if_false, ite_true, ite_false, and_true, true_and, reduceCtorEq, Bool.not_true, Bool.not_false, Bool.false_bne, Bool.true_bne, sl0, sl1, sl2, sl3, sl4, c_lowest]
    exact ⟨by omega, g.up a xs4, (by intro b ys hb; simp only [G.up] at *; grind), h _ _ (isNum_div (by omega) (by omega) (by omega)) p4⟩
  · refine c_draw G_up_same (by decide) p1 (by omega) fun d1 xs2 hd1 p2 => ?_
    simp only [mnS, mn, Mn.of, Op.rd, Cm.rd, Bl.rd, Mt.rd, Mt.rc, dNop, dSeq, dExpr, dRet, dRetN, dIf, gD, dAsg, dPar, dPut, dRaise, dVar, dC, dBin, dUn, dNil, dCons, dTup, dLst, dTst, dAndT, dOrT, dNotT, dYes, dAnd, dOr, dNot, dChain, dCall, dCB, dMt, dLset, dSrev, dTry, dIsx, dEmp, dStp, xsub, Ex.sub, dSlc, dPart, dNoPart, dIAny, dI1, dI2, dI3, dFor, dComp, compB, wipeD, startD, endsOf, at_mk, setAll, add_int, sub_int, mul_int, mul_tup, pow_int, mod_int, fdiv_int, lt_int, le_int, gt_int, ge_int, eq_int, neg_int, len_tup, len_scr, abs_int, max_int, min_int, int_int, int_bl, r1_int, r2_int, tuple_tup, list_tup, over_tup, rev_tup, enum_tup, zip_tup, slc_tup, add_tup, isi_any, ix_tup, ix_scr, ix_num0, ix_num1, len_num, num_0, num_1, atI_0, atI_1, atI_2, List.map, List.cons_append, List.nil_append, List.getElem?_cons_zero, List.getElem?_cons_succ, List.getElem?_nil, List.set_cons_zero, List.set_cons_succ, List.replicate, List.length_cons, List.length_nil, List.foldr_cons, List.foldr_nil, Nat.reduceAdd, Nat.reduceSub, List.replicate_succ, List.replicate_zero, G_up_same, decide_eq_true_eq, Bool.not_eq_true', Bool.false_eq_true, if_true, if_false, ite_true, ite_false, and_true, true_and, reduceCtorEq, Bool.not_true, Bool.not_false, Bool.false_bne, Bool.true_bne, sl0, sl1, sl2, sl3, sl4, G_up_up]
    refine c_draw G_up_same (by decide) p2 (by omega) fun d2 xs3 hd2 p3 => ?_
    simp only [mnS, mn, Mn.of, Op.rd, Cm.rd, Bl.rd, Mt.rd, Mt.rc, dNop, dSeq, dExpr, dRet, dRetN, dIf, gD, dAsg, dPar, dPut, dRaise, dVar, dC, dBin, dUn, dNil, dCons, dTup, dLst, dTst, dAndT, dOrT, dNotT, dYes, dAnd, dOr, dNot, dChain, dCall, dCB, dMt, dLset, dSrev, dTry, dIsx, dEmp, dStp, xsub, Ex.sub, dSlc, dPart, dNoPart, dIAny, dI1, dI2, dI3, dFor, dComp, compB, wipeD, startD, endsOf, at_mk, setAll, add_int, sub_int, mul_int, mul_tup, pow_int, mod_int, fdiv_int, lt_int, le_int, gt_int, ge_int, eq_int, neg_int, len_tup, len_scr, abs_int, max_int, min_int, int_int, int_bl, r1_int, r2_int, tuple_tup, list_tup, over_tup, rev_tup, enum_tup, zip_tup, slc_tup, add_tup, isi_any, ix_tup, ix_scr, ix_num0, ix_num1, len_num, num_0, num_1, atI_0, atI_1, atI_2, List.map, List.cons_append, List.nil_append, List.getElem?_cons_zero, List.getElem?_cons_succ, List.getElem?_nil, List.set_cons_zero, List.set_cons_succ, List.replicate, List.length_cons, List.length_nil, List.foldr_cons, List.foldr_nil, Nat.reduceAdd, Nat.reduceSub, List.replicate_succ, List.replicate_zero, G_up_same, decide_eq_true_eq, Bool.not_eq_true', Bool.false_eq_true, if_true, if_false, ite_true, ite_false, and_true, true_and, reduceCtorEq, Bool.not_true, Bool.not_false, Bool.false_bne, Bool.true_bne, sl0, sl1, sl2, sl3, sl4, c_lowest, G_up_up]
    exact ⟨by omega, _, G.le_refl _, h _ _ (isNum_div (by omega) (by omega) (by omega)) (p3.mono (by omega))⟩
end
end PP
namespace PP
open PySem PySem.Spec PyProof.Rows L2
def G.lea (a : Addr) (g g' : G) : Prop := ∀ b xs, b ≠ a → g b = some xs → g' b = some xs
theorem G.lea_refl {a : Addr} {g : G} : G.lea a g g := fun _ _ _ h => h
theorem G.lea_of {a : Addr} {g g' : G} (h : g.le g') : G.lea a g g' := fun _ _ _ e => h _ _ e
theorem G.lea_fin {a : Addr} {g g' : G} {xs : List D} (h : G.lea a g g') (e : g' a = some xs) : (g.up a xs).le g' := fun b ys q => by
  by_cases hb : b = a
  · subst hb; rw [G_up_same] at q; rw [e]; exact q
  · rw [G_up_ne hb] at q; exact h _ _ hb q
theorem G.le_new {g : G} {p : Addr} {xs : List D} (hp : g p = none) : g.le (g.up p xs) := G.le_up (G.le_refl g) hp
theorem G.le_fin {p : Addr} {g g' : G} {xs : List D} (h : g.le g') (e : g' p = some xs) : (g.up p xs).le g' := G.lea_fin (G.lea_of h) e
def SeqD (g : G) (d : D) (xs : List D) : Prop := d = .tup xs ∨ ∃ a, d = .ref a ∧ g a = some xs
theorem SeqD.tup {g : G} {xs : List D} : SeqD g (.tup xs) xs := .inl rfl
theorem SeqD.ref {g : G} {a : Addr} {xs : List D} (h : g a = some xs) : SeqD g (.ref a) xs := .inr ⟨a, rfl, h⟩
theorem over_seq {g : G} {d : D} {xs : List D} {R : List D → (G → Prop) → G → Prop} (h : SeqD g d xs) (k : ∀ stay : G → Prop, (∀ g', g.le g' → stay g') → R xs stay g) : dOver d g R := by
  rcases h with rfl | ⟨a, rfl, h⟩
  · exact k _ fun _ _ => trivial
  · rw [over_ref h]; exact k _ fun _ l => l _ _ h
theorem rev_seq {g : G} {d : D} {xs : List D} {R : List D → (G → Prop) → G → Prop} (h : SeqD g d xs) (k : ∀ stay : G → Prop, (∀ g', g.le g' → stay g') → R xs.reverse stay g) : dRev d g R := by
  rcases h with rfl | ⟨a, rfl, h⟩
  · exact k _ fun _ _ => trivial
  · rw [rev_ref h]; exact k _ fun _ l => l _ _ h
theorem len_seq {g : G} {d : D} {xs : List D} {Q : QD} (h : SeqD g d xs) : dLen [d] g Q = Q (.int xs.length) g := by
  rcases h with rfl | ⟨a, rfl, h⟩
  · rfl
  · exact len_ref h
theorem ix_seq {g : G} {d : D} {xs : List D} {i : Int} {Q : QD} (h : SeqD g d xs) : dIx d (.int i) g Q = (match atI xs i with | some d => Q d g | none => False) := by
  rcases h with rfl | ⟨a, rfl, h⟩
  · rfl
  · exact ix_ref h
theorem SeqD.le {g g' : G} {d : D} {xs : List D} (h : SeqD g d xs) (l : g.le g') : SeqD g' d xs := by
  rcases h with rfl | ⟨a, rfl, h⟩
  · exact .tup
  · exact .ref (l _ _ h)
theorem cut_to {α : Type} {xs : List α} {k : Nat} (h : k ≤ xs.length) : cut xs none (some (k : Int)) = xs.take k := by
  unfold cut HT.sIx
  have h1 : ¬ ((k : Int) < 0) := by omega
  simp [h1, h]
theorem atI_last {α : Type} {xs : List α} {x : α} : atI (xs ++ [x]) (-1) = some x := by
  unfold atI ixN
  rw [if_neg (by omega), if_pos (by simp; omega)]
  simp
  rw [show (-1 + ((xs.length : Int) + 1)).toNat = xs.length by omega]
  simp
def ev (c : List Rat) (x : Rat) : Rat := c.foldr (fun a r => a + x * r) 0
theorem ev_nil (x : Rat) : ev [] x = 0 := rfl
theorem ev_cons (a : Rat) (c : List Rat) (x : Rat) : ev (a :: c) x = a + x * ev c x := rfl
def trim : List Rat → List Rat
  | [] => []
  | a :: c => match trim c with
    | [] => if a = 0 then [] else [a]
    | b :: r => a :: b :: r
def Tight (c : List Rat) : Prop := ∀ q, c.getLast? = some q → q ≠ 0
theorem ev_zeros (k : Nat) (x : Rat) : ev (List.replicate k 0) x = 0 := by
  induction k with
  | zero => rfl
  | succ k ih => rw [List.replicate_succ, ev_cons, ih]; grind
theorem ev_append_zeros (c : List Rat) (k : Nat) (x : Rat) : ev (c ++ List.replicate k 0) x = ev c x := by
  induction c with
  | nil => exact ev_zeros k x
  | cons a c ih => rw [List.cons_append, ev_cons, ev_cons, ih]
theorem trim_zeros (k : Nat) : trim (List.replicate k 0) = [] := by
  induction k with
  | zero => rfl
  | succ k ih => rw [List.replicate_succ, trim, ih]; simp
theorem trim_of {c r : List Rat} {k : Nat} (h : c = r ++ List.replicate k 0) (hl : Tight r) : trim c = r := by
  subst h
  induction r with
  | nil => exact trim_zeros k
  | cons a r ih =>
    rw [List.cons_append, trim]
    cases r with
    | nil =>
      rw [List.nil_append, trim_zeros]
      have := hl a rfl
      simp [this]
    | cons b r =>
      rw [ih (fun q hq => hl q (by simpa using hq))]
theorem trim_split (c : List Rat) : ∃ k, c = trim c ++ List.replicate k 0 := by
  induction c with
  | nil => exact ⟨0, rfl⟩
  | cons a c ih =>
    obtain ⟨k, hk⟩ := ih
    rw [trim]
    cases e : trim c with
    | nil =>
      rw [e] at hk
      by_cases ha : a = 0
      · exact ⟨k + 1, by simp only [ha, if_true]; rw [List.replicate_succ, List.nil_append]; exact congrArg _ hk⟩
      · exact ⟨k, by simp only [ha, if_false]; exact congrArg _ hk⟩
    | cons b r =>
      rw [e] at hk
      exact ⟨k, by simp only [List.cons_append]; exact congrArg _ hk⟩
theorem trim_tight (c : List Rat) : Tight (trim c) := by
  induction c with
  | nil => intro q h; cases h
  | cons a c ih =>
    rw [trim]
    cases e : trim c with
    | nil =>
      by_cases ha : a = 0
      · simp only [ha, if_true]; intro q h; cases h
      · simp only [ha, if_false]; intro q h; cases h; exact ha
    | cons b r =>
      rw [e] at ih
      intro q h
      exact ih q (by simpa using h)
theorem trim_self {c : List Rat} (h : Tight c) : trim c = c := trim_of (k := 0) (by simp) h
theorem ev_trim (c : List Rat) (x : Rat) : ev (trim c) x = ev c x := by
  obtain ⟨k, hk⟩ := trim_split c
  conv => rhs; rw [hk]
  rw [ev_append_zeros]
theorem trim_len (c : List Rat) : (trim c).length ≤ c.length := by
  obtain ⟨k, hk⟩ := trim_split c
  have := congrArg List.length hk
  simp at this
  omega
theorem trim_mem {c : List Rat} {q : Rat} (h : q ∈ trim c) : q ∈ c := by
  obtain ⟨k, hk⟩ := trim_split c
  rw [hk]
  exact List.mem_append_left _ h
def sx_curve_of : SX :=
  (.asg (.n 1) (.blt .len (.cons (.v 0) .nil))
  (.whl (.and (.cmp .gt (.v 1) (.int 0)) (.cmp .eq (.ix (.v 0) (.bin .sub (.v 1) (.int 1))) (.glo 0)))
    (.asg (.n 1) (.bin .sub (.v 1) (.int 1)) .nil)
  (.ret (.blt .tuple (.cons (.slc (.v 0) .hole (.v 1)) .nil)) .nil)))
abbrev ns_curve_of : List Str := ["numbers", "many"]
def sx_height_at : SX :=
  (.asg (.n 2) (.glo 0)
  (.for_ (.n 3) (.rev (.v 0))
    (.asg (.n 2) (.call 11 (.cons (.call 13 (.cons (.v 2) (.cons (.v 1) .nil))) (.cons (.v 3) .nil))) .nil)
  (.ret (.v 2) .nil)))
abbrev ns_height_at : List Str := ["curve", "x", "found", "number"]
def sx_law_at : SX :=
  (.asg (.n 2) (.tup (.cons (.int 0) (.cons (.int 1) .nil)))
  (.asg (.n 3) (.tup (.cons (.int 1) (.cons (.int 1) .nil)))
  (.for_ (.n 4) (.over (.v 0))
    (.asg (.n 2) (.call 25 (.cons (.v 2) (.cons (.call 26 (.cons (.v 4) (.cons (.v 3) .nil))) .nil)))
    (.asg (.n 3) (.call 26 (.cons (.v 3) (.cons (.v 1) .nil))) .nil))
  (.ret (.v 2) .nil))))
abbrev ns_law_at : List Str := ["_law_curve", "_law_x", "_law_found", "_law_power", "_law_number_here"]
section
variable {Γ : Nat → SpD} {gl : Nat → D} {ds : List D} {g : G} {Q : QD} {E X : XD}
def spCurveOf : SpD := fun ds g Q _ => ∃ a qs, ds = [.ref a] ∧ g a = some (nums qs) ∧ Q (.tup (nums (trim qs))) g
theorem c_curveOf {a : Addr} {qs : List Rat} (h : g a = some (nums qs)) (k : Q (.tup (nums (trim qs))) g) : spCurveOf [.ref a] g Q X := ⟨a, qs, rfl, h, k⟩
theorem pure_curve_of (hg : gl 0 = .tup [.int 0, .int 1]) (h : spCurveOf ds g Q E) : mnS Γ gl sx_curve_of (endsOf Q E) (startD ns_curve_of ds) g := by
  obtain ⟨a, qs, rfl, ha, h⟩ := h
  simp only [sx_curve_of, hg, mnS, mn, Mn.of, Op.rd, Cm.rd, Bl.rd, Mt.rd, Mt.rc, dNop, dSeq, dExpr, dRet, dRetN, dIf, gD, dAsg, dPar, dPut, dRaise, dVar, dC, dBin, dUn, dNil, dCons, dTup, dLst, dTst, dAndT, dOrT, dNotT, dYes, dAnd, dOr, dNot, dChain, dCall, dCB, dMt, dLset, dSrev, dTry, dIsx, dEmp, dStp, xsub, Ex.sub, dSlc, dPart, dNoPart, dIAny, dI1, dI2, dI3, dFor, dComp, compB, wipeD, startD, endsOf, at_mk, setAll, add_int, sub_int, mul_int, mul_tup, pow_int, mod_int, fdiv_int, lt_int, le_int, gt_int, ge_int, eq_int, neg_int, len_tup, len_scr, abs_int, max_int, min_int, int_int, int_bl, r1_int, r2_int, tuple_tup, list_tup, over_tup, rev_tup, enum_tup, zip_tup, slc_tup, add_tup, isi_any, ix_tup, ix_scr, ix_num0, ix_num1, len_num, num_0, num_1, atI_0, atI_1, atI_2, List.map, List.cons_append, List.nil_append, List.getElem?_cons_zero, List.getElem?_cons_succ, List.getElem?_nil, List.set_cons_zero, List.set_cons_succ, List.replicate, List.length_cons, List.length_nil, List.foldr_cons, List.foldr_nil, Nat.reduceAdd, Nat.reduceSub, List.replicate_succ, List.replicate_zero, G_up_same, decide_eq_true_eq, Bool.not_eq_true', Bool.false_eq_true, if_true, if_false, ite_true, ite_false, and_true, true_and, reduceCtorEq, Bool.not_true, Bool.not_false, Bool.false_bne, Bool.true_bne, sl0, sl1, sl2, sl3, sl4, len_ref ha, nums_len]
  refine ⟨fun m env g' => g' = g ∧ env = [some (.ref a), some (.int m)] ∧ ∃ k, m + k = qs.length ∧ qs = qs.take m ++ List.replicate k 0, ⟨qs.length, rfl, rfl, 0, by omega, by simp⟩, ?_⟩
  rintro m env g' ⟨rfl, rfl, k, hk, hq⟩
  try simp only [mnS, mn, Mn.of, Op.rd, Cm.rd, Bl.rd, Mt.rd, Mt.rc, dNop, dSeq, dExpr, dRet, dRetN, dIf, gD, dAsg, dPar, dPut, dRaise, dVar, dC, dBin, dUn, dNil, dCons, dTup, dLst, dTst, dAndT, dOrT, dNotT, dYes, dAnd, dOr, dNot, dChain, dCall, dCB, dMt, dLset, dSrev, dTry, dIsx, dEmp, dStp, xsub, Ex.sub, dSlc, dPart, dNoPart, dIAny, dI1, dI2, dI3, dFor, dComp, compB, wipeD, startD, endsOf, at_mk, setAll, add_int, sub_int, mul_int, mul_tup, pow_int, mod_int, fdiv_int, lt_int, le_int, gt_int, ge_int, eq_int, neg_int, len_tup, len_scr, abs_int, max_int, min_int, int_int, int_bl, r1_int, r2_int, tuple_tup, list_tup, over_tup, rev_tup, enum_tup, zip_tup, slc_tup, add_tup, isi_any, ix_tup, ix_scr, ix_num0, ix_num1, len_num, num_0, num_1, atI_0, atI_1, atI_2, List.map, List.cons_append, List.nil_append, List.getElem?_cons_zero, List.getElem?_cons_succ, List.getElem?_nil, List.set_cons_zero, List.set_cons_succ, List.replicate, List.length_cons, List.length_nil, List.foldr_cons, List.foldr_nil, Nat.reduceAdd, Nat.reduceSub, List.replicate_succ, List.replicate_zero, G_up_same, decide_eq_true_eq, Bool.not_eq_true', Bool.false_eq_true, if_true, if_false, ite_true, ite_false, and_true, true_and, reduceCtorEq, Bool.not_true, Bool.not_false, Bool.false_bne, Bool.true_bne, sl0, sl1, sl2, sl3, sl4]
  have fin : ∀ p, g' p = none → Tight (qs.take m) → ∃ g0, g0.le (g'.up p (nums (qs.take m))) ∧ Q (.tup (nums (qs.take m))) g0 := fun p hp ht =>
    ⟨g', G.le_new hp, by rw [← trim_of hq ht]; exact h⟩
  have hcut : cut (nums qs) none (some (m : Int)) = nums (qs.take m) := by
    rw [cut_to (by rw [nums_len]; omega)]
    unfold nums
    rw [List.map_take]
  split
  · rename_i hm
    have hm : 0 < m := by omega
    have hlt : m - 1 < qs.length := by omega
    rw [ix_ref ha, show ((m : Int) - 1) = ((m - 1 : Nat) : Int) by omega, atI_nums rfl (List.getElem?_eq_getElem hlt)]
    have e1 : qs.take m = qs.take (m - 1) ++ [qs[m - 1]] := by
      conv => lhs; rw [show m = m - 1 + 1 by omega]
      rw [List.take_succ_eq_append_getElem hlt]
    refine eq_num (fun e => ?_) fun e => ?_
    · simp only [mnS, mn, Mn.of, Op.rd, Cm.rd, Bl.rd, Mt.rd, Mt.rc, dNop, dSeq, dExpr, dRet, dRetN, dIf, gD, dAsg, dPar, dPut, dRaise, dVar, dC, dBin, dUn, dNil, dCons, dTup, dLst, dTst, dAndT, dOrT, dNotT, dYes, dAnd, dOr, dNot, dChain, dCall, dCB, dMt, dLset, dSrev, dTry, dIsx, dEmp, dStp, xsub, Ex.sub, dSlc, dPart, dNoPart, dIAny, dI1, dI2, dI3, dFor, dComp, compB, wipeD, startD, endsOf, at_mk, setAll, add_int, sub_int, mul_int, mul_tup, pow_int, mod_int, fdiv_int, lt_int, le_int, gt_int, ge_int, eq_int, neg_int, len_tup, len_scr, abs_int, max_int, min_int, int_int, int_bl, r1_int, r2_int, tuple_tup, list_tup, over_tup, rev_tup, enum_tup, zip_tup, slc_tup, add_tup, isi_any, ix_tup, ix_scr, ix_num0, ix_num1, len_num, num_0, num_1, atI_0, atI_1, atI_2, List.map, List.cons_append, List.nil_append, List.getElem?_cons_zero, List.getElem?_cons_succ, List.getElem?_nil, List.set_cons_zero, List.set_cons_succ, List.replicate, List.length_cons, List.length_nil, List.foldr_cons, List.foldr_nil, Nat.reduceAdd, Nat.reduceSub, List.replicate_succ, List.replicate_zero, G_up_same, decide_eq_true_eq, Bool.not_eq_true', Bool.false_eq_true, if_true, if_false, ite_true, ite_false, and_true, true_and, reduceCtorEq, Bool.not_true, Bool.not_false, Bool.false_bne, Bool.true_bne, sl0, sl1, sl2, sl3, sl4, Bool.not_false]
      refine ⟨m - 1, by omega, rfl, k + 1, by omega, ?_⟩
      conv => lhs; rw [hq]
      rw [e1, e, List.append_assoc, List.replicate_succ]
      rfl
    · simp only [mnS, mn, Mn.of, Op.rd, Cm.rd, Bl.rd, Mt.rd, Mt.rc, dNop, dSeq, dExpr, dRet, dRetN, dIf, gD, dAsg, dPar, dPut, dRaise, dVar, dC, dBin, dUn, dNil, dCons, dTup, dLst, dTst, dAndT, dOrT, dNotT, dYes, dAnd, dOr, dNot, dChain, dCall, dCB, dMt, dLset, dSrev, dTry, dIsx, dEmp, dStp, xsub, Ex.sub, dSlc, dPart, dNoPart, dIAny, dI1, dI2, dI3, dFor, dComp, compB, wipeD, startD, endsOf, at_mk, setAll, add_int, sub_int, mul_int, mul_tup, pow_int, mod_int, fdiv_int, lt_int, le_int, gt_int, ge_int, eq_int, neg_int, len_tup, len_scr, abs_int, max_int, min_int, int_int, int_bl, r1_int, r2_int, tuple_tup, list_tup, over_tup, rev_tup, enum_tup, zip_tup, slc_tup, add_tup, isi_any, ix_tup, ix_scr, ix_num0, ix_num1, len_num, num_0, num_1, atI_0, atI_1, atI_2, List.map, List.cons_append, List.nil_append, List.getElem?_cons_zero, List.getElem?_cons_succ, List.getElem?_nil, List.set_cons_zero, List.set_cons_succ, List.replicate, List.length_cons, List.length_nil, List.foldr_cons, List.foldr_nil, Nat.reduceAdd, Nat.reduceSub, List.replicate_succ, List.replicate_zero, G_up_same, decide_eq_true_eq, Bool.not_eq_true', Bool.false_eq_true, if_true, if_false, ite_true, ite_false, and_true, true_and, reduceCtorEq, Bool.not_true, Bool.not_false, Bool.false_bne, Bool.true_bne, sl0, sl1, sl2, sl3, sl4, slc_ref ha, hcut]
      intro p hp
      rw [tuple_ref G_up_same]
      exact fin p hp fun q hq2 => by
        rw [e1, List.getLast?_append] at hq2
        simp at hq2
        rw [← hq2]; exact e
  · rename_i hm
    have hm : m = 0 := by omega
    simp only [mnS, mn, Mn.of, Op.rd, Cm.rd, Bl.rd, Mt.rd, Mt.rc, dNop, dSeq, dExpr, dRet, dRetN, dIf, gD, dAsg, dPar, dPut, dRaise, dVar, dC, dBin, dUn, dNil, dCons, dTup, dLst, dTst, dAndT, dOrT, dNotT, dYes, dAnd, dOr, dNot, dChain, dCall, dCB, dMt, dLset, dSrev, dTry, dIsx, dEmp, dStp, xsub, Ex.sub, dSlc, dPart, dNoPart, dIAny, dI1, dI2, dI3, dFor, dComp, compB, wipeD, startD, endsOf, at_mk, setAll, add_int, sub_int, mul_int, mul_tup, pow_int, mod_int, fdiv_int, lt_int, le_int, gt_int, ge_int, eq_int, neg_int, len_tup, len_scr, abs_int, max_int, min_int, int_int, int_bl, r1_int, r2_int, tuple_tup, list_tup, over_tup, rev_tup, enum_tup, zip_tup, slc_tup, add_tup, isi_any, ix_tup, ix_scr, ix_num0, ix_num1, len_num, num_0, num_1, atI_0, atI_1, atI_2, List.map, List.cons_append, List.nil_append, List.getElem?_cons_zero, List.getElem?_cons_succ, List.getElem?_nil, List.set_cons_zero, List.set_cons_succ, List.replicate, List.length_cons, List.length_nil, List.foldr_cons, List.foldr_nil, Nat.reduceAdd, Nat.reduceSub, List.replicate_succ, List.replicate_zero, G_up_same, decide_eq_true_eq, Bool.not_eq_true', Bool.false_eq_true, if_true, if_false, ite_true, ite_false, and_true, true_and, reduceCtorEq, Bool.not_true, Bool.not_false, Bool.false_bne, Bool.true_bne, sl0, sl1, sl2, sl3, sl4, slc_ref ha, hcut]
    intro p hp
    rw [tuple_ref G_up_same]
    exact fin p hp fun q hq2 => by subst hm; cases hq2
def Szs (b : Nat) (qs : List Rat) : Prop := ∀ q ∈ qs, sz q ≤ b
theorem Szs.at {b : Nat} {qs : List Rat} {k : Nat} {q : Rat} (h : Szs b qs) (e : qs[k]? = some q) : sz q ≤ b := h q (List.mem_of_getElem? e)
theorem Szs.trim {b : Nat} {qs : List Rat} (h : Szs b qs) : Szs b (PP.trim qs) := fun q hq => h q (trim_mem hq)
theorem Szs.mono {b c : Nat} {qs : List Rat} (h : Szs b qs) (l : b ≤ c) : Szs c qs := fun q hq => Nat.le_trans (h q hq) l
theorem drop_one6 {qs : List Rat} {k : Nat} {q : Rat} (h : qs[k]? = some q) : qs.drop k = q :: qs.drop (k + 1) := by
  have hlt : k < qs.length := by
    rcases Nat.lt_or_ge k qs.length with z | z
    · exact z
    · rw [List.getElem?_eq_none z] at h; cases h
  rw [List.drop_eq_getElem_cons hlt]
  rw [List.getElem?_eq_getElem hlt] at h
  cases h; rfl
theorem take_one6 {qs : List Rat} {k : Nat} {q : Rat} (h : qs[k]? = some q) : qs.take (k + 1) = qs.take k ++ [q] := by
  have hlt : k < qs.length := by
    rcases Nat.lt_or_ge k qs.length with z | z
    · exact z
    · rw [List.getElem?_eq_none z] at h; cases h
  rw [List.take_succ_eq_append_getElem hlt]
  rw [List.getElem?_eq_getElem hlt] at h
  cases h; rfl
theorem ev_snoc (c : List Rat) (a x : Rat) : ev (c ++ [a]) x = ev c x + a * x ^ c.length := by
  induction c with
  | nil => rw [List.nil_append, ev_cons, ev_nil, List.length_nil, Rat.pow_zero]; grind
  | cons b c ih => rw [List.cons_append, ev_cons, ev_cons, ih, List.length_cons, Rat.pow_succ]; grind
def EvOk (qs : List Rat) (x : Rat) : Prop := ∃ M b bx, sz x ≤ bx ∧ Szs b qs ∧ (∀ k, k ≤ qs.length → sz (ev (qs.drop k) x) ≤ M) ∧ (∀ k, k ≤ qs.length → sz (ev (qs.take k) x) ≤ M) ∧ (∀ k, k ≤ qs.length → sz (x ^ k) ≤ k * bx + 1) ∧ M + b + (qs.length + 2) * (bx + 2) ≤ 100000000
theorem sz_powk (x : Rat) (bx : Nat) (hx : sz x ≤ bx) : ∀ k : Nat, sz (x ^ k) ≤ k * bx + 1
  | 0 => by rw [Rat.pow_zero, show sz (1 : Rat) = 1 by decide]; omega
  | k + 1 => by
    have h1 := sz_powk x bx hx k
    have h2 := sz_mul (x ^ k) x
    rw [Rat.pow_succ, Nat.succ_mul]
    omega
def spEv : SpD := fun ds g Q _ => ∃ d x qs, ds = [d, num x] ∧ SeqD g d (nums qs) ∧ EvOk qs x ∧ Q (num (ev qs x)) g
theorem c_evE {d : D} {x : Rat} {qs : List Rat} (hd : SeqD g d (nums qs)) (h : EvOk qs x) (k : Q (num (ev qs x)) g) : spEv [d, num x] g Q X := ⟨d, x, qs, rfl, hd, h, k⟩
theorem pure_height_at (h11 : Γ 11 = spPlus) (h13 : Γ 13 = spTimes) (hg : gl 0 = .tup [.int 0, .int 1]) (h : spEv ds g Q E) : mnS Γ gl sx_height_at (endsOf Q E) (startD ns_height_at ds) g := by
  obtain ⟨d, x, qs, rfl, hd, ⟨M, b, bx, hx, hb, hM, _, _, hs⟩, h⟩ := h
  simp only [sx_height_at, hg, h11, h13, mnS, mn, Mn.of, Op.rd, Cm.rd, Bl.rd, Mt.rd, Mt.rc, dNop, dSeq, dExpr, dRet, dRetN, dIf, gD, dAsg, dPar, dPut, dRaise, dVar, dC, dBin, dUn, dNil, dCons, dTup, dLst, dTst, dAndT, dOrT, dNotT, dYes, dAnd, dOr, dNot, dChain, dCall, dCB, dMt, dLset, dSrev, dTry, dIsx, dEmp, dStp, xsub, Ex.sub, dSlc, dPart, dNoPart, dIAny, dI1, dI2, dI3, dFor, dComp, compB, wipeD, startD, endsOf, at_mk, setAll, add_int, sub_int, mul_int, mul_tup, pow_int, mod_int, fdiv_int, lt_int, le_int, gt_int, ge_int, eq_int, neg_int, len_tup, len_scr, abs_int, max_int, min_int, int_int, int_bl, r1_int, r2_int, tuple_tup, list_tup, over_tup, rev_tup, enum_tup, zip_tup, slc_tup, add_tup, isi_any, ix_tup, ix_scr, ix_num0, ix_num1, len_num, num_0, num_1, atI_0, atI_1, atI_2, List.map, List.cons_append, List.nil_append, List.getElem?_cons_zero, List.getElem?_cons_succ, List.getElem?_nil, List.set_cons_zero, List.set_cons_succ, List.replicate, List.length_cons, List.length_nil, List.foldr_cons, List.foldr_nil, Nat.reduceAdd, Nat.reduceSub, List.replicate_succ, List.replicate_zero, G_up_same, decide_eq_true_eq, Bool.not_eq_true', Bool.false_eq_true, if_true, if_false, ite_true, ite_false, and_true, true_and, reduceCtorEq, Bool.not_true, Bool.not_false, Bool.false_bne, Bool.true_bne, sl0, sl1, sl2, sl3, sl4]
  refine rev_seq hd fun stay hst => ?_
  have hxx : bx + 2 ≤ (qs.length + 2) * (bx + 2) := Nat.le_mul_of_pos_left _ (by omega)
  refine for_inv (fun k env g' => g' = g ∧ ∃ y o, env = [some d, some (num x), some (num y), o] ∧ y = ev (qs.drop (qs.length - k)) x ∧ k ≤ qs.length) (fun k env g' e => hst _ (by rw [e.1]; exact G.le_refl _)) ?_ ?_ ⟨rfl, 0, none, rfl, by simp; rfl, by omega⟩
  · rintro k y env g' N hk ⟨rfl, v, o, rfl, hv, hk2⟩ hN
    have hk3 : k < qs.length := by
      rcases Nat.lt_or_ge k qs.length with z | z
      · exact z
      · rw [List.getElem?_eq_none (by rw [List.length_reverse, nums_len]; omega)] at hk; cases hk
    rw [List.getElem?_reverse (by rw [nums_len]; omega)] at hk
    rw [nums_len] at hk
    obtain ⟨q, hq, rfl⟩ := nums_at hk
    have hq1 := hb.at hq
    have hsz := hM (qs.length - k) (by omega)
    rw [← hv] at hsz
    have hmul := sz_mul v x
    simp only [mnS, mn, Mn.of, Op.rd, Cm.rd, Bl.rd, Mt.rd, Mt.rc, dNop, dSeq, dExpr, dRet, dRetN, dIf, gD, dAsg, dPar, dPut, dRaise, dVar, dC, dBin, dUn, dNil, dCons, dTup, dLst, dTst, dAndT, dOrT, dNotT, dYes, dAnd, dOr, dNot, dChain, dCall, dCB, dMt, dLset, dSrev, dTry, dIsx, dEmp, dStp, xsub, Ex.sub, dSlc, dPart, dNoPart, dIAny, dI1, dI2, dI3, dFor, dComp, compB, wipeD, startD, endsOf, at_mk, setAll, add_int, sub_int, mul_int, mul_tup, pow_int, mod_int, fdiv_int, lt_int, le_int, gt_int, ge_int, eq_int, neg_int, len_tup, len_scr, abs_int, max_int, min_int, int_int, int_bl, r1_int, r2_int, tuple_tup, list_tup, over_tup, rev_tup, enum_tup, zip_tup, slc_tup, add_tup, isi_any, ix_tup, ix_scr, ix_num0, ix_num1, len_num, num_0, num_1, atI_0, atI_1, atI_2, List.map, List.cons_append, List.nil_append, List.getElem?_cons_zero, List.getElem?_cons_succ, List.getElem?_nil, List.set_cons_zero, List.set_cons_succ, List.replicate, List.length_cons, List.length_nil, List.foldr_cons, List.foldr_nil, Nat.reduceAdd, Nat.reduceSub, List.replicate_succ, List.replicate_zero, G_up_same, decide_eq_true_eq, Bool.not_eq_true', Bool.false_eq_true, if_true, if_false, ite_true, ite_false, and_true, true_and, reduceCtorEq, Bool.not_true, Bool.not_false, Bool.false_bne, Bool.true_bne, sl0, sl1, sl2, sl3, sl4, c_bin]
    refine ⟨by omega, by omega, hN _ _ ⟨rfl, _, _, rfl, ?_, by omega⟩⟩
    rw [show qs.length - (k + 1) = qs.length - 1 - k by omega, drop_one6 hq, show qs.length - 1 - k + 1 = qs.length - k by omega, ev_cons, hv]
    grind
  · rintro env g' ⟨rfl, v, o, rfl, hv, -⟩
    try simp only [mnS, mn, Mn.of, Op.rd, Cm.rd, Bl.rd, Mt.rd, Mt.rc, dNop, dSeq, dExpr, dRet, dRetN, dIf, gD, dAsg, dPar, dPut, dRaise, dVar, dC, dBin, dUn, dNil, dCons, dTup, dLst, dTst, dAndT, dOrT, dNotT, dYes, dAnd, dOr, dNot, dChain, dCall, dCB, dMt, dLset, dSrev, dTry, dIsx, dEmp, dStp, xsub, Ex.sub, dSlc, dPart, dNoPart, dIAny, dI1, dI2, dI3, dFor, dComp, compB, wipeD, startD, endsOf, at_mk, setAll, add_int, sub_int, mul_int, mul_tup, pow_int, mod_int, fdiv_int, lt_int, le_int, gt_int, ge_int, eq_int, neg_int, len_tup, len_scr, abs_int, max_int, min_int, int_int, int_bl, r1_int, r2_int, tuple_tup, list_tup, over_tup, rev_tup, enum_tup, zip_tup, slc_tup, add_tup, isi_any, ix_tup, ix_scr, ix_num0, ix_num1, len_num, num_0, num_1, atI_0, atI_1, atI_2, List.map, List.cons_append, List.nil_append, List.getElem?_cons_zero, List.getElem?_cons_succ, List.getElem?_nil, List.set_cons_zero, List.set_cons_succ, List.replicate, List.length_cons, List.length_nil, List.foldr_cons, List.foldr_nil, Nat.reduceAdd, Nat.reduceSub, List.replicate_succ, List.replicate_zero, G_up_same, decide_eq_true_eq, Bool.not_eq_true', Bool.false_eq_true, if_true, if_false, ite_true, ite_false, and_true, true_and, reduceCtorEq, Bool.not_true, Bool.not_false, Bool.false_bne, Bool.true_bne, sl0, sl1, sl2, sl3, sl4]
    refine ⟨_, G.le_refl _, ?_⟩
    rw [hv]
    simp only [List.length_reverse, nums_len, Nat.sub_self, List.drop_zero]
    exact h
theorem pure_law_at (h25 : Γ 25 = spPlus) (h26 : Γ 26 = spTimes) (h : spEv ds g Q E) : mnS Γ gl sx_law_at (endsOf Q E) (startD ns_law_at ds) g := by
  obtain ⟨d, x, qs, rfl, hd, ⟨M, b, bx, hx, hb, _, hM, hP, hs⟩, h⟩ := h
  simp only [sx_law_at, h25, h26, mnS, mn, Mn.of, Op.rd, Cm.rd, Bl.rd, Mt.rd, Mt.rc, dNop, dSeq, dExpr, dRet, dRetN, dIf, gD, dAsg, dPar, dPut, dRaise, dVar, dC, dBin, dUn, dNil, dCons, dTup, dLst, dTst, dAndT, dOrT, dNotT, dYes, dAnd, dOr, dNot, dChain, dCall, dCB, dMt, dLset, dSrev, dTry, dIsx, dEmp, dStp, xsub, Ex.sub, dSlc, dPart, dNoPart, dIAny, dI1, dI2, dI3, dFor, dComp, compB, wipeD, startD, endsOf, at_mk, setAll, add_int, sub_int, mul_int, mul_tup, pow_int, mod_int, fdiv_int, lt_int, le_int, gt_int, ge_int, eq_int, neg_int, len_tup, len_scr, abs_int, max_int, min_int, int_int, int_bl, r1_int, r2_int, tuple_tup, list_tup, over_tup, rev_tup, enum_tup, zip_tup, slc_tup, add_tup, isi_any, ix_tup, ix_scr, ix_num0, ix_num1, len_num, num_0, num_1, atI_0, atI_1, atI_2, List.map, List.cons_append, List.nil_append, List.getElem?_cons_zero, List.getElem?_cons_succ, List.getElem?_nil, List.set_cons_zero, List.set_cons_succ, List.replicate, List.length_cons, List.length_nil, List.foldr_cons, List.foldr_nil, Nat.reduceAdd, Nat.reduceSub, List.replicate_succ, List.replicate_zero, G_up_same, decide_eq_true_eq, Bool.not_eq_true', Bool.false_eq_true, if_true, if_false, ite_true, ite_false, and_true, true_and, reduceCtorEq, Bool.not_true, Bool.not_false, Bool.false_bne, Bool.true_bne, sl0, sl1, sl2, sl3, sl4]
  refine over_seq hd fun stay hst => ?_
  have h6 : qs.length * bx + 4 + 2 * bx ≤ (qs.length + 2) * (bx + 2) := by rw [Nat.add_mul, Nat.mul_add]; omega
  refine for_inv (fun k env g' => g' = g ∧ ∃ y w o, env = [some d, some (num x), some (num y), some (num w), o] ∧ y = ev (qs.take k) x ∧ w = x ^ k ∧ k ≤ qs.length) (fun k env g' e => hst _ (by rw [e.1]; exact G.le_refl _)) ?_ ?_ ⟨rfl, 0, 1, none, rfl, by rw [List.take_zero, ev_nil], by rw [Rat.pow_zero], by omega⟩
  · rintro k y env g' N hk ⟨rfl, v, w, o, rfl, hv, hw, hk2⟩ hN
    obtain ⟨q, hq, rfl⟩ := nums_at hk
    have hk3 : k < qs.length := by
      rcases Nat.lt_or_ge k qs.length with z | z
      · exact z
      · rw [List.getElem?_eq_none z] at hq; cases hq
    have hq1 := hb.at hq
    have hsv := hM k hk2
    have hsw := hP k hk2
    rw [← hv] at hsv
    rw [← hw] at hsw
    have hm : k * bx ≤ qs.length * bx := Nat.mul_le_mul_right _ hk2
    have hmul := sz_mul q w
    simp only [mnS, mn, Mn.of, Op.rd, Cm.rd, Bl.rd, Mt.rd, Mt.rc, dNop, dSeq, dExpr, dRet, dRetN, dIf, gD, dAsg, dPar, dPut, dRaise, dVar, dC, dBin, dUn, dNil, dCons, dTup, dLst, dTst, dAndT, dOrT, dNotT, dYes, dAnd, dOr, dNot, dChain, dCall, dCB, dMt, dLset, dSrev, dTry, dIsx, dEmp, dStp, xsub, Ex.sub, dSlc, dPart, dNoPart, dIAny, dI1, dI2, dI3, dFor, dComp, compB, wipeD, startD, endsOf, at_mk, setAll, add_int, sub_int, mul_int, mul_tup, pow_int, mod_int, fdiv_int, lt_int, le_int, gt_int, ge_int, eq_int, neg_int, len_tup, len_scr, abs_int, max_int, min_int, int_int, int_bl, r1_int, r2_int, tuple_tup, list_tup, over_tup, rev_tup, enum_tup, zip_tup, slc_tup, add_tup, isi_any, ix_tup, ix_scr, ix_num0, ix_num1, len_num, num_0, num_1, atI_0, atI_1, atI_2, List.map, List.cons_append, List.nil_append, List.getElem?_cons_zero, List.getElem?_cons_succ, List.getElem?_nil, List.set_cons_zero, List.set_cons_succ, List.replicate, List.length_cons, List.length_nil, List.foldr_cons, List.foldr_nil, Nat.reduceAdd, Nat.reduceSub, List.replicate_succ, List.replicate_zero, G_up_same, decide_eq_true_eq, Bool.not_eq_true', Bool.false_eq_true, if_true, if_false, ite_true, ite_false, and_true, true_and, reduceCtorEq, Bool.not_true, Bool.not_false, Bool.false_bne, Bool.true_bne, sl0, sl1, sl2, sl3, sl4, c_bin]
    refine ⟨by omega, by omega, by omega, hN _ _ ⟨rfl, _, _, _, rfl, ?_, ?_, by omega⟩⟩
    · rw [take_one6 hq, ev_snoc, hv, hw, List.length_take, Nat.min_eq_left (by omega)]
    · rw [hw, Rat.pow_succ]
  · rintro env g' ⟨rfl, v, w, o, rfl, hv, -⟩
    try simp only [mnS, mn, Mn.of, Op.rd, Cm.rd, Bl.rd, Mt.rd, Mt.rc, dNop, dSeq, dExpr, dRet, dRetN, dIf, gD, dAsg, dPar, dPut, dRaise, dVar, dC, dBin, dUn, dNil, dCons, dTup, dLst, dTst, dAndT, dOrT, dNotT, dYes, dAnd, dOr, dNot, dChain, dCall, dCB, dMt, dLset, dSrev, dTry, dIsx, dEmp, dStp, xsub, Ex.sub, dSlc, dPart, dNoPart, dIAny, dI1, dI2, dI3, dFor, dComp, compB, wipeD, startD, endsOf, at_mk, setAll, add_int, sub_int, mul_int, mul_tup, pow_int, mod_int, fdiv_int, lt_int, le_int, gt_int, ge_int, eq_int, neg_int, len_tup, len_scr, abs_int, max_int, min_int, int_int, int_bl, r1_int, r2_int, tuple_tup, list_tup, over_tup, rev_tup, enum_tup, zip_tup, slc_tup, add_tup, isi_any, ix_tup, ix_scr, ix_num0, ix_num1, len_num, num_0, num_1, atI_0, atI_1, atI_2, List.map, List.cons_append, List.nil_append, List.getElem?_cons_zero, List.getElem?_cons_succ, List.getElem?_nil, List.set_cons_zero, List.set_cons_succ, List.replicate, List.length_cons, List.length_nil, List.foldr_cons, List.foldr_nil, Nat.reduceAdd, Nat.reduceSub, List.replicate_succ, List.replicate_zero, G_up_same, decide_eq_true_eq, Bool.not_eq_true', Bool.false_eq_true, if_true, if_false, ite_true, ite_false, and_true, true_and, reduceCtorEq, Bool.not_true, Bool.not_false, Bool.false_bne, Bool.true_bne, sl0, sl1, sl2, sl3, sl4]
    refine ⟨_, G.le_refl _, ?_⟩
    rw [hv]
    simp only [nums_len, List.take_length]
    exact h
end
end PP
namespace PP
open PySem PySem.Spec PyProof.Rows L2
section
variable {Γ : Nat → SpD} {gl : Nat → D} {g : G} {Q : QD}
theorem nums_set {zs : List Rat} {k : Nat} {q : Rat} : (nums zs).set k (num q) = nums (zs.set k q) := by unfold nums; rw [List.map_set]
theorem nums_app {ys zs : List Rat} : nums ys ++ nums zs = nums (ys ++ zs) := by unfold nums; rw [List.map_append]
theorem nums_snoc {ys : List Rat} {q : Rat} : nums ys ++ [num q] = nums (ys ++ [q]) := nums_app (zs := [q])
theorem repD_num {k : Int} {q : Rat} : repD k [num q] = nums (List.replicate k.toNat q) := by
  unfold repD nums
  rw [List.map_replicate]
  induction k.toNat with
  | zero => rfl
  | succ n ih => rw [List.replicate_succ, List.flatten_cons, ih, List.replicate_succ]; rfl
theorem ixN_at {n k : Nat} {i : Int} (hi : i = (k : Int)) (h : k < n) : ixN n i = some k := by
  subst hi
  unfold ixN
  rw [if_pos (by omega), if_pos (by omega)]
  simp
theorem Szs.set {b : Nat} {zs : List Rat} {k : Nat} {q : Rat} (h : Szs b zs) (hq : sz q ≤ b) : Szs b (zs.set k q) := fun z hz => by
  rcases List.mem_or_eq_of_mem_set hz with e | e
  · exact h z e
  · rw [e]; exact hq
structure KN (o : G) (a : Addr) (g : G) (L : List (Addr × List D)) : Prop where
  get : ∀ (i : Nat) (b : Addr) (xs : List D), L[i]? = some (b, xs) → g b = some xs
  nd : (L.map Prod.fst).Nodup
  own : ∀ b ∈ L.map Prod.fst, b = a ∨ o b = none
  lea : G.lea a o g
theorem KN.start {o : G} {a : Addr} {xs : List D} (h : o a = some xs) : KN o a o [(a, xs)] where
  get := fun i b ys e => by
    cases i with
    | zero => cases e; exact h
    | succ i => cases e
  nd := by simp
  own := fun b hb => .inl (by simpa using hb)
  lea := G.lea_refl
theorem KN.start' {o : G} {a : Addr} {xs : List D} (h : o a = none) : KN o a (o.up a xs) [(a, xs)] where
  get := fun i b ys e => by
    cases i with
    | zero => cases e; exact G_up_same
    | succ i => cases e
  nd := by simp
  own := fun b hb => .inl (by simpa using hb)
  lea := G.lea_of (G.le_new h)
theorem KN.mem {o : G} {a : Addr} {g : G} {L : List (Addr × List D)} (K : KN o a g L) {b : Addr} (h : b ∈ L.map Prod.fst) : ∃ xs, g b = some xs := by
  obtain ⟨⟨c, xs⟩, hx, e⟩ := List.mem_map.mp h
  obtain ⟨i, hi⟩ := List.mem_iff_getElem?.mp hx
  cases e
  exact ⟨xs, K.get i c xs hi⟩
theorem KN.new {o : G} {a : Addr} {g : G} {L : List (Addr × List D)} {p : Addr} {ys : List D} (K : KN o a g L) (ha : (g a).isSome = true) (hp : g p = none) : KN o a (g.up p ys) (L ++ [(p, ys)]) where
  get := fun i b xs e => by
    rw [List.getElem?_append] at e
    split at e
    · exact G_up_fresh hp (K.get i b xs e)
    · rw [List.getElem?_singleton] at e
      split at e
      · cases e; exact G_up_same
      · cases e
  nd := by
    rw [List.map_append, List.nodup_append]
    refine ⟨K.nd, by simp, fun b hb c hc e => ?_⟩
    simp at hc
    obtain ⟨xs, hx⟩ := K.mem hb
    rw [e, hc, hp] at hx
    cases hx
  own := fun b hb => by
    rw [List.map_append] at hb
    rcases List.mem_append.mp hb with hb | hb
    · exact K.own b hb
    · simp at hb
      subst hb
      refine .inr ?_
      cases e : o b with
      | none => rfl
      | some zs =>
        have hba : b ≠ a := fun z => by rw [← z, hp] at ha; cases ha
        rw [K.lea b zs hba e] at hp
        cases hp
  lea := fun b xs n e => G_up_fresh hp (K.lea b xs n e)
theorem KN.put {o : G} {a : Addr} {g : G} {L : List (Addr × List D)} {b : Addr} {xs ys : List D} (K : KN o a g L) (i : Nat) (h : L[i]? = some (b, xs)) : KN o a (g.up b ys) (L.set i (b, ys)) where
  get := fun j c zs e => by
    rw [List.getElem?_set] at e
    split at e
    · split at e
      · cases e; exact G_up_same
      · cases e
    · rename_i hij
      have hcb : c ≠ b := fun z => by
        subst z
        have h1 := congrArg (Option.map Prod.fst) h
        have h2 := congrArg (Option.map Prod.fst) e
        rw [← List.getElem?_map] at h1 h2
        exact hij ((List.getElem?_inj (by
          rcases Nat.lt_or_ge i (L.map Prod.fst).length with z | z
          · exact z
          · rw [List.getElem?_eq_none z] at h1; cases h1) K.nd).mp (h1.trans h2.symm))
      rw [G_up_ne hcb]
      exact K.get j c zs e
  nd := by
    have e : (L.set i (b, ys)).map Prod.fst = L.map Prod.fst := by
      rw [List.map_set]
      refine List.ext_getElem? fun j => ?_
      rw [List.getElem?_set]
      split
      · rename_i z; subst z
        rw [List.getElem?_map, h]
        split
        · rfl
        · rename_i w
          exfalso; apply w
          rw [List.length_map]
          rcases Nat.lt_or_ge i L.length with z | z
          · exact z
          · rw [List.getElem?_eq_none z] at h; cases h
      · rfl
    rw [e]; exact K.nd
  own := fun c hc => by
    obtain ⟨⟨d, zs⟩, hx, e⟩ := List.mem_map.mp hc
    cases e
    rcases List.mem_or_eq_of_mem_set hx with z | z
    · exact K.own _ (List.mem_map.mpr ⟨_, z, rfl⟩)
    · cases z
      exact K.own _ (List.mem_map.mpr ⟨_, List.mem_of_getElem? h, rfl⟩)
  lea := fun c zs n e => by
    have hcb : c ≠ b := fun z => by
      rcases K.own b (List.mem_map.mpr ⟨_, List.mem_of_getElem? h, rfl⟩) with w | w
      · exact n (z.trans w)
      · rw [z, w] at e; cases e
    rw [G_up_ne hcb]
    exact K.lea c zs n e
theorem KN.pick {o : G} {a : Addr} {g : G} {L : List (Addr × List D)} (K : KN o a g L) (is : List Nat) (h : is.Nodup) : KN o a g (is.filterMap fun i => L[i]?) where
  get := fun i b xs e => by
    have hm := List.mem_of_getElem? e
    obtain ⟨j, _, hj⟩ := List.mem_filterMap.mp hm
    exact K.get j b xs hj
  nd := by
    have key : ∀ (is : List Nat), is.Nodup → ((is.filterMap fun i => L[i]?).map Prod.fst).Nodup ∧ ∀ b ∈ (is.filterMap fun i => L[i]?).map Prod.fst, ∃ i ∈ is, (L.map Prod.fst)[i]? = some b := by
      intro is
      induction is with
      | nil => exact fun _ => ⟨.nil, fun b hb => by cases hb⟩
      | cons i is ih =>
        intro h
        rw [List.nodup_cons] at h
        obtain ⟨a1, a2⟩ := ih h.2
        cases e : L[i]? with
        | none =>
          rw [List.filterMap_cons_none e]
          exact ⟨a1, fun b hb => by obtain ⟨j, h1, h2⟩ := a2 b hb; exact ⟨j, List.mem_cons_of_mem _ h1, h2⟩⟩
        | some c =>
          rw [List.filterMap_cons_some e, List.map_cons]
          have ei : (L.map Prod.fst)[i]? = some c.1 := by rw [List.getElem?_map, e]; rfl
          refine ⟨List.nodup_cons.mpr ⟨fun hc => ?_, a1⟩, fun b hb => ?_⟩
          · obtain ⟨j, h1, h2⟩ := a2 _ hc
            have hlt : i < (L.map Prod.fst).length := by
              rcases Nat.lt_or_ge i (L.map Prod.fst).length with z | z
              · exact z
              · rw [List.getElem?_eq_none z] at ei; cases ei
            have := (List.getElem?_inj hlt K.nd).mp (ei.trans h2.symm)
            subst this
            exact h.1 h1
          · rcases List.mem_cons.mp hb with rfl | hb
            · exact ⟨i, List.mem_cons_self .., ei⟩
            · obtain ⟨j, h1, h2⟩ := a2 b hb
              exact ⟨j, List.mem_cons_of_mem _ h1, h2⟩
    exact (key is h).1
  own := fun b hb => by
    obtain ⟨⟨c, xs⟩, hx, e⟩ := List.mem_map.mp hb
    obtain ⟨j, _, hj⟩ := List.mem_filterMap.mp hx
    cases e
    exact K.own _ (List.mem_map.mpr ⟨_, List.mem_of_getElem? hj, rfl⟩)
  lea := K.lea
theorem KN.le {o : G} {a : Addr} {g g' : G} {L : List (Addr × List D)} (K : KN o a g L) (h : g.le g') : KN o a g' L := ⟨fun i b xs e => h _ _ (K.get i b xs e), K.nd, K.own, fun b xs n e => h _ _ (K.lea b xs n e)⟩
theorem KN.fin0 {o : G} {a : Addr} {g : G} {L : List (Addr × List D)} {xs : List D} (K : KN o a g L) (i : Nat) (h : L[i]? = some (a, xs)) : (o.up a xs).le g := G.lea_fin K.lea (K.get i a xs h)
theorem KN.fin1 {o : G} {a p : Addr} {g : G} {L : List (Addr × List D)} {xs ys : List D} (K : KN o a g L) (i j : Nat) (h : L[i]? = some (a, xs)) (h' : L[j]? = some (p, ys)) : ((o.up a xs).up p ys).le g := G.le_fin (K.fin0 i h) (K.get j p ys h')
theorem KN.fin {o : G} {a : Addr} {g : G} {L : List (Addr × List D)} (K : KN o a g L) (h : o a = none) : o.le g := fun b xs e => K.lea b xs (fun z => by rw [z, h] at e; cases e) e
theorem KN.arg {o : G} {a b : Addr} {g : G} {L : List (Addr × List D)} {xs : List D} (K : KN o a g L) (n : b ≠ a) (h : o b = some xs) : g b = some xs := K.lea b xs n h
section
variable {o : G} {a : Addr} {xs : List D} {n : Nat} {L : List (Addr × List D)} {X : XD}
theorem K_draw {m : Int} (K : KN o a g ((a, xs) :: L)) (hm : 0 < m) (hp : PenL xs n) (hn : n < 2 ^ 50) (k : ∀ (d : Nat) xs' g', (d : Int) < m → PenL xs' (n + 1) → KN o a g' ((a, xs') :: L) → Q (.int d) g') : spDraw [.ref a, .int m] g Q X :=
  c_draw (K.get 0 _ _ rfl) hm hp hn fun d xs' hd hp' => k d xs' _ hd hp' (K.put 0 rfl)
theorem K_pen {R : D → Prop} {c : Nat} (K : KN o a g ((a, xs) :: L)) (hp : PenL xs n) (hn : n + c < 2 ^ 50) (k : ∀ d xs' g', R d → PenL xs' (n + c) → KN o a g' ((a, xs') :: L) → Q d g') : spPenFn R c [.ref a] g Q X :=
  c_penFn (K.get 0 _ _ rfl) hp hn fun d xs' hd hp' => k d xs' _ hd hp' (K.put 0 rfl)
theorem K_new {p : Addr} {ys : List D} (K : KN o a g ((a, xs) :: L)) (hp : g p = none) : KN o a (g.up p ys) ((a, xs) :: (L ++ [(p, ys)])) := K.new (by rw [K.get 0 _ _ rfl]; rfl) hp
end
end
end PP
namespace PP
open PySem PySem.Spec PyProof.Rows L2
def coef (c : List Rat) (k : Nat) : Rat := c.getD k 0
theorem coef_cons_zero {a : Rat} {c : List Rat} : coef (a :: c) 0 = a := rfl
theorem coef_cons_succ {a : Rat} {c : List Rat} {k : Nat} : coef (a :: c) (k + 1) = coef c k := rfl
theorem coef_at {c : List Rat} {k : Nat} {q : Rat} (h : c[k]? = some q) : coef c k = q := by
  unfold coef
  rw [List.getD_eq_getElem?_getD, h]
  rfl
theorem coef_out {c : List Rat} {k : Nat} (h : c.length ≤ k) : coef c k = 0 := by
  unfold coef
  rw [List.getD_eq_getElem?_getD, List.getElem?_eq_none h]
  rfl
theorem coef_lt {c : List Rat} {k : Nat} (h : k < c.length) : c[k]? = some (coef c k) := by
  rw [coef_at (List.getElem?_eq_getElem h)]
  exact List.getElem?_eq_getElem h
theorem ev_map_add {α : Type} (f g : α → Rat) (l : List α) (x : Rat) : ev (l.map fun k => f k + g k) x = ev (l.map f) x + ev (l.map g) x := by
  induction l with
  | nil => simp only [List.map_nil, ev_nil]; grind
  | cons a l ih => simp only [List.map_cons, ev_cons, ih]; grind
theorem ev_map_sub {α : Type} (f g : α → Rat) (l : List α) (x : Rat) : ev (l.map fun k => f k - g k) x = ev (l.map f) x - ev (l.map g) x := by
  induction l with
  | nil => simp only [List.map_nil, ev_nil]; grind
  | cons a l ih => simp only [List.map_cons, ev_cons, ih]; grind
theorem ev_map_mul (q : Rat) (c : List Rat) (x : Rat) : ev (c.map fun a => a * q) x = ev c x * q := by
  induction c with
  | nil => simp only [List.map_nil, ev_nil]; grind
  | cons a l ih => simp only [List.map_cons, ev_cons, ih]; grind
theorem range_coef {c : List Rat} {n : Nat} (h : c.length ≤ n) : (List.range n).map (coef c) = c ++ List.replicate (n - c.length) 0 := by
  refine List.ext_getElem? fun i => ?_
  rw [List.getElem?_map, List.getElem?_append]
  by_cases hi : i < n
  · rw [List.getElem?_range hi]
    by_cases hc : i < c.length
    · rw [if_pos hc]; exact (coef_lt hc).symm
    · rw [if_neg hc, List.getElem?_replicate, if_pos (by omega)]
      exact congrArg some (coef_out (by omega))
  · rw [List.getElem?_eq_none (by simp; omega), if_neg (by omega), List.getElem?_eq_none (by simp; omega)]
    rfl
theorem ev_range_coef {c : List Rat} {n : Nat} (h : c.length ≤ n) (x : Rat) : ev ((List.range n).map (coef c)) x = ev c x := by
  rw [range_coef h, ev_append_zeros]
theorem ev_set (c : List Rat) (k : Nat) (v x : Rat) (h : k < c.length) : ev (c.set k v) x = ev c x + (v - coef c k) * x ^ k := by
  induction c generalizing k with
  | nil => simp at h
  | cons a c ih =>
    cases k with
    | zero => rw [List.set_cons_zero, ev_cons, ev_cons, coef_cons_zero, Rat.pow_zero]; grind
    | succ k => rw [List.set_cons_succ, ev_cons, ev_cons, coef_cons_succ, ih k (by simpa using h), Rat.pow_succ]; grind
theorem ev_app (c d : List Rat) (x : Rat) : ev (c ++ d) x = ev c x + x ^ c.length * ev d x := by
  induction c with
  | nil => rw [List.nil_append, ev_nil, List.length_nil, Rat.pow_zero]; grind
  | cons a c ih => rw [List.cons_append, ev_cons, ev_cons, ih, List.length_cons, Rat.pow_succ]; grind
def divl : List Rat → Rat → List Rat
  | [], _ => []
  | _ :: c, r => match c with
    | [] => []
    | _ :: _ => ev c r :: divl c r
theorem divl_len (c : List Rat) (r : Rat) : (divl c r).length = c.length - 1 := by
  induction c with
  | nil => rfl
  | cons a c ih =>
    cases c with
    | nil => rfl
    | cons b c => rw [divl, List.length_cons, ih]; simp
theorem divl_ev (c : List Rat) (r x : Rat) : ev c x = ev c r + (x - r) * ev (divl c r) x := by
  induction c with
  | nil => simp only [ev_nil, divl]; grind
  | cons a c ih =>
    cases c with
    | nil => simp only [ev_nil, divl, ev_cons]; grind
    | cons b c =>
      rw [divl, ev_cons a, ev_cons a, ev_cons (ev (b :: c) r)]
      grind
theorem roots : ∀ (xs : List Rat) (c : List Rat), xs.Nodup → (∀ x ∈ xs, ev c x = 0) → c.length ≤ xs.length → ∀ x, ev c x = 0 := by
  intro xs
  induction xs with
  | nil =>
    intro c _ _ hl x
    cases c with
    | nil => rfl
    | cons b c => simp at hl
  | cons r xs ih =>
    intro c hn hr hl x
    rw [List.nodup_cons] at hn
    have h0 := hr r (List.mem_cons_self ..)
    have hq := ih (divl c r) hn.2 (fun y hy => by
      have e := divl_ev c r y
      rw [hr y (List.mem_cons_of_mem _ hy), h0] at e
      have hyr : y - r ≠ 0 := fun z => hn.1 (by rw [show r = y by grind]; exact hy)
      grind) (by rw [divl_len]; simp at hl; omega)
    rw [divl_ev c r x, h0, hq x]
    grind
theorem ints_nodup (n : Nat) (a : Rat) : ((List.range n).map fun i : Nat => a + 1 + (i : Rat)).Nodup := by
  rw [List.Nodup, List.pairwise_map]
  have key : ∀ i j : Nat, i ≠ j → a + 1 + (i : Rat) ≠ a + 1 + (j : Rat) := fun i j hij e => hij (Rat.natCast_inj.mp (by grind))
  exact List.Pairwise.imp (fun {i j} hij => key i j hij) (List.nodup_range (n := n))
theorem roots_off {c : List Rat} {a : Rat} (h : ∀ x, a < x → ev c x = 0) (x : Rat) : ev c x = 0 := by
  refine roots ((List.range c.length).map fun i : Nat => a + 1 + (i : Rat)) c (ints_nodup _ _) (fun y hy => ?_) (by simp) x
  obtain ⟨i, _, rfl⟩ := List.mem_map.mp hy
  refine h _ ?_
  have : (0 : Rat) ≤ (i : Rat) := Rat.natCast_nonneg
  grind
theorem coefs_zero {c : List Rat} (h : ∀ x, ev c x = 0) : c = List.replicate c.length 0 := by
  induction c with
  | nil => rfl
  | cons a c ih =>
    have ha : a = 0 := by
      have := h 0
      rw [ev_cons] at this
      grind
    have hc : ∀ x, ev c x = 0 := roots_off (a := 0) fun x hx => by
      have := h x
      rw [ev_cons, ha] at this
      have hx0 : x ≠ 0 := by grind
      grind
    rw [List.length_cons, List.replicate_succ, ha, ← ih hc]
def padd : List Rat → List Rat → List Rat
  | [], q => q
  | a :: p, [] => a :: p
  | a :: p, b :: q => (a + b) :: padd p q
theorem padd_ev (p q : List Rat) (x : Rat) : ev (padd p q) x = ev p x + ev q x := by
  induction p generalizing q with
  | nil => rw [padd, ev_nil]; grind
  | cons a p ih =>
    cases q with
    | nil => rw [padd, ev_nil]; grind
    | cons b q => rw [padd, ev_cons, ev_cons, ev_cons, ih]; grind
def pmul : List Rat → List Rat → List Rat
  | [], _ => []
  | a :: p, q => padd (q.map fun b => b * a) (0 :: pmul p q)
theorem pmul_ev (p q : List Rat) (x : Rat) : ev (pmul p q) x = ev p x * ev q x := by
  induction p with
  | nil => rw [pmul, ev_nil]; grind
  | cons a p ih => rw [pmul, padd_ev, ev_map_mul, ev_cons, ev_cons, ih]; grind
def pneg (q : List Rat) : List Rat := q.map fun b => b * (-1)
theorem pneg_ev (q : List Rat) (x : Rat) : ev (pneg q) x = - ev q x := by
  rw [pneg, ev_map_mul]; grind
theorem padd_len (p q : List Rat) : (padd p q).length = max p.length q.length := by
  induction p generalizing q with
  | nil => rw [padd]; simp
  | cons a p ih =>
    cases q with
    | nil => simp [padd]
    | cons b q => rw [padd, List.length_cons, ih]; simp
theorem pneg_len (q : List Rat) : (pneg q).length = q.length := by simp [pneg]
theorem trim_congr {c d : List Rat} (h : ∀ x, ev c x = ev d x) : trim c = trim d := by
  have hz : ∀ (c d : List Rat), (∀ x, ev c x = ev d x) → c.length ≤ d.length → trim c = trim d := by
    intro c
    induction c with
    | nil =>
      intro d h _
      have := coefs_zero (c := d) fun x => by rw [← h x]; rfl
      rw [this, trim_zeros]
      rfl
    | cons a c ih =>
      intro d h hl
      cases d with
      | nil => simp at hl
      | cons b d =>
        have hab : a = b := by
          have := h 0
          rw [ev_cons, ev_cons] at this
          grind
        have hcd : ∀ x, ev c x = ev d x := fun x => by
          have := roots_off (c := padd c (pneg d)) (a := 0) (fun x hx => by
            have := h x
            rw [ev_cons, ev_cons, hab] at this
            rw [padd_ev, pneg_ev]
            have hx0 : x ≠ 0 := by grind
            grind) x
          rw [padd_ev, pneg_ev] at this
          grind
        rw [trim, trim, ih d hcd (by simpa using hl), hab]
  rcases Nat.le_total c.length d.length with l | l
  · exact hz c d h l
  · exact (hz d c (fun x => (h x).symm) l).symm
theorem tight_congr {c d : List Rat} (hc : Tight c) (hd : Tight d) (h : ∀ x, ev c x = ev d x) : c = d := by
  rw [← trim_self hc, ← trim_self hd]; exact trim_congr h
theorem meet_eq {c d xs : List Rat} (hn : xs.Nodup) (hc : c.length ≤ xs.length) (hd : d.length ≤ xs.length) (h : ∀ x ∈ xs, ev c x = ev d x) (x : Rat) : ev c x = ev d x := by
  have := roots xs (padd c (pneg d)) hn (fun y hy => by rw [padd_ev, pneg_ev, h y hy]; grind) (by rw [padd_len, pneg_len]; omega) x
  rw [padd_ev, pneg_ev] at this
  grind
def PolyF (f : Rat → Rat) : Prop := ∃ c, ∀ x, f x = ev c x
theorem PolyF.of (c : List Rat) : PolyF (ev c) := ⟨c, fun _ => rfl⟩
theorem PolyF.con (a : Rat) : PolyF fun _ => a := ⟨[a], fun x => by rw [ev_cons, ev_nil]; grind⟩
theorem PolyF.id : PolyF fun x => x := ⟨[0, 1], fun x => by rw [ev_cons, ev_cons, ev_nil]; grind⟩
theorem PolyF.add {f g : Rat → Rat} (hf : PolyF f) (hg : PolyF g) : PolyF fun x => f x + g x := by
  obtain ⟨c, hc⟩ := hf; obtain ⟨d, hd⟩ := hg
  exact ⟨padd c d, fun x => by show f x + g x = _; rw [padd_ev, hc, hd]⟩
theorem PolyF.mul {f g : Rat → Rat} (hf : PolyF f) (hg : PolyF g) : PolyF fun x => f x * g x := by
  obtain ⟨c, hc⟩ := hf; obtain ⟨d, hd⟩ := hg
  exact ⟨pmul c d, fun x => by show f x * g x = _; rw [pmul_ev, hc, hd]⟩
theorem PolyF.sub {f g : Rat → Rat} (hf : PolyF f) (hg : PolyF g) : PolyF fun x => f x - g x := by
  obtain ⟨c, hc⟩ := hf; obtain ⟨d, hd⟩ := hg
  exact ⟨padd c (pneg d), fun x => by show f x - g x = _; rw [padd_ev, pneg_ev, hc, hd]; grind⟩
theorem PolyF.eq {f g : Rat → Rat} (hf : PolyF f) (hg : PolyF g) (r : Rat) (h : ∀ x, x ≠ r → f x = g x) (x : Rat) : f x = g x := by
  obtain ⟨c, hc⟩ := hf.sub hg
  have := roots_off (c := c) (a := r) (fun y hy => by rw [← hc y]; show f y - g y = 0; rw [h y (by grind)]; grind) x
  rw [← hc x] at this
  have this : f x - g x = 0 := this
  grind
def evd : List Rat → Rat → Rat
  | [], _ => 0
  | _ :: c, x => ev c x + x * evd c x
theorem evd_divl (c : List Rat) (r : Rat) : evd c r = ev (divl c r) r := by
  induction c with
  | nil => rfl
  | cons a c ih =>
    cases c with
    | nil => rw [evd, evd, divl, ev_nil]; grind
    | cons b c => rw [evd, divl, ev_cons (ev (b :: c) r), ih]
end PP
namespace PP
open PySem PySem.Spec PyProof.Rows L2
def sx_number_at : SX :=
  (.ite (.cmp .lt (.v 1) (.blt .len (.cons (.v 0) .nil)))
    (.ret (.ix (.v 0) (.v 1)) .nil)
    .nil
  (.ret (.glo 0) .nil))
abbrev ns_number_at : List Str := ["curve", "k"]
def sx_added : SX :=
  (.asg (.n 2) (.blt .max (.cons (.blt .len (.cons (.v 0) .nil)) (.cons (.blt .len (.cons (.v 1) .nil)) .nil)))
  (.ret (.call 23 (.cons (.comp [3] (.n 3) (.range1 (.v 2)) .yes (.call 11 (.cons (.call 30 (.cons (.v 0) (.cons (.v 3) .nil))) (.cons (.call 30 (.cons (.v 1) (.cons (.v 3) .nil))) .nil)))) .nil)) .nil))
abbrev ns_added : List Str := ["one", "other", "many", "k"]
def sx_lessened : SX :=
  (.asg (.n 2) (.blt .max (.cons (.blt .len (.cons (.v 0) .nil)) (.cons (.blt .len (.cons (.v 1) .nil)) .nil)))
  (.ret (.call 23 (.cons (.comp [3] (.n 3) (.range1 (.v 2)) .yes (.call 12 (.cons (.call 30 (.cons (.v 0) (.cons (.v 3) .nil))) (.cons (.call 30 (.cons (.v 1) (.cons (.v 3) .nil))) .nil)))) .nil)) .nil))
abbrev ns_lessened : List Str := ["one", "other", "many", "k"]
def sx_scaled : SX :=
  (.ret (.call 23 (.cons (.comp [2] (.n 2) (.over (.v 0)) .yes (.call 13 (.cons (.v 2) (.cons (.v 1) .nil)))) .nil)) .nil)
abbrev ns_scaled : List Str := ["curve", "number", "own"]
def sx_multiplied : SX :=
  (.ite (.or (.cmp .eq (.v 0) (.tup .nil)) (.cmp .eq (.v 1) (.tup .nil)))
    (.ret (.tup .nil) .nil)
    .nil
  (.asg (.n 2) (.comp [5] (.n 5) (.range1 (.bin .sub (.bin .add (.blt .len (.cons (.v 0) .nil)) (.blt .len (.cons (.v 1) .nil))) (.int 1))) .yes (.glo 0))
  (.for_ (.t [3, 4]) (.enum (.v 0))
    (.for_ (.t [5, 6]) (.enum (.v 1))
      (.put (.v 2) (.bin .add (.v 3) (.v 5)) (.call 11 (.cons (.ix (.v 2) (.bin .add (.v 3) (.v 5))) (.cons (.call 13 (.cons (.v 4) (.cons (.v 6) .nil))) .nil))) .nil) .nil)
  (.ret (.call 23 (.cons (.v 2) .nil)) .nil))))
abbrev ns_multiplied : List Str := ["one", "other", "found", "j", "first", "k", "second"]
theorem num_int {i : Int} : D.tup [.int i, .int 1] = num (i : Rat) := rfl
theorem tup_nil : D.tup [] = .tup (nums []) := rfl
theorem range_zeros (n : Nat) : (List.range n).map (fun _ => (0 : Rat)) = List.replicate n 0 := by
  induction n with
  | zero => rfl
  | succ n ih => rw [List.range_succ, List.map_append, ih, List.replicate_succ']; rfl
theorem pow_add' (x : Rat) (m n : Nat) : x ^ (m + n) = x ^ m * x ^ n := by
  induction n with
  | zero => rw [Nat.add_zero, Rat.pow_zero]; grind
  | succ n ih => rw [Nat.add_succ, Rat.pow_succ, ih, Rat.pow_succ]; grind
theorem enum_at {p : List Rat} {k : Nat} {x : D} (h : (enumD (nums p))[k]? = some x) : ∃ q, p[k]? = some q ∧ x = .tup [.int (k : Int), num q] := by
  unfold enumD at h
  rw [List.getElem?_mapIdx] at h
  cases e : (nums p)[k]? with
  | none => rw [e] at h; cases h
  | some d =>
    rw [e] at h
    cases h
    obtain ⟨q, hq, rfl⟩ := nums_at e
    exact ⟨q, hq, rfl⟩
theorem enum_len {xs : List D} : (enumD xs).length = xs.length := by simp [enumD]
theorem comp_nums {stay : G → Prop} {p : Addr} {body : D → G → (Option D → G → Prop) → Prop} {fin : G → Prop} {items : List D} {g : G} (f : Nat → Rat)
    (st : ∀ acc, stay (g.up p acc))
    (step : ∀ k x acc N, items[k]? = some x → k < items.length → N (some (num (f k))) (g.up p acc) → body x (g.up p acc) N)
    (done : fin (g.up p (nums ((List.range items.length).map f)))) : compD stay p body fin items [] (g.up p []) := by
  refine comp_inv (fun k acc g' => acc = nums ((List.range k).map f) ∧ g' = g.up p acc) (fun k acc g' e => by rw [e.2]; exact st _) ?_ ?_ ⟨rfl, rfl⟩
  · rintro k x acc g' N hk ⟨rfl, rfl⟩ h1 -
    have hlt : k < items.length := by
      rcases Nat.lt_or_ge k items.length with z | z
      · exact z
      · rw [List.getElem?_eq_none z] at hk; cases hk
    have e : nums ((List.range k).map f) ++ [num (f k)] = nums ((List.range (k + 1)).map f) := by
      rw [List.range_succ, List.map_append, ← nums_app]; rfl
    refine step k x _ N hk hlt (h1 _ _ G_up_same ⟨e, by rw [G_up_up]⟩)
  · rintro acc g' ⟨rfl, rfl⟩
    exact done
theorem Szs.range {b n : Nat} {f : Nat → Rat} (h : ∀ k, k < n → sz (f k) ≤ b) : Szs b ((List.range n).map f) := fun q hq => by
  obtain ⟨k, hk, rfl⟩ := List.mem_map.mp hq
  exact h k (by simpa using hk)
theorem Szs.coef {b : Nat} {c : List Rat} (h : Szs b c) (hb : 0 < b) (k : Nat) : sz (PP.coef c k) ≤ b := by
  rcases Nat.lt_or_ge k c.length with z | z
  · exact h.at (coef_lt z)
  · rw [coef_out z, sz_0]; exact hb
theorem Szs.nil {b : Nat} : Szs b [] := fun _ h => by cases h
theorem tight_nil : Tight [] := fun _ h => by cases h
section
variable {Γ : Nat → SpD} {gl : Nat → D} {ds : List D} {g : G} {Q : QD} {E X : XD}
def spNumberAt : SpD := fun ds g Q _ => ∃ d c k, ds = [d, .int ((k : Nat) : Int)] ∧ SeqD g d (nums c) ∧ Q (num (coef c k)) g
theorem c_numberAt {d : D} {c : List Rat} {i : Int} {k : Nat} (hi : i = k) (h : SeqD g d (nums c)) (q : Q (num (coef c k)) g) : spNumberAt [d, .int i] g Q X := ⟨d, c, k, by rw [hi], h, q⟩
theorem pure_number_at (hg : gl 0 = .tup [.int 0, .int 1]) (h : spNumberAt ds g Q E) : mnS Γ gl sx_number_at (endsOf Q E) (startD ns_number_at ds) g := by
  obtain ⟨d, c, k, rfl, hd, h⟩ := h
  simp only [sx_number_at, hg, mnS, mn, Mn.of, Op.rd, Cm.rd, Bl.rd, Mt.rd, Mt.rc, dNop, dSeq, dExpr, dRet, dRetN, dIf, gD, dAsg, dPar, dPut, dRaise, dVar, dC, dBin, dUn, dNil, dCons, dTup, dLst, dTst, dAndT, dOrT, dNotT, dYes, dAnd, dOr, dNot, dChain, dCall, dCB, dMt, dLset, dSrev, dTry, dIsx, dEmp, dStp, xsub, Ex.sub, dSlc, dPart, dNoPart, dIAny, dI1, dI2, dI3, dFor, dComp, compB, wipeD, startD, endsOf, at_mk, setAll, add_int, sub_int, mul_int, mul_tup, pow_int, mod_int, fdiv_int, lt_int, le_int, gt_int, ge_int, eq_int, neg_int, len_tup, len_scr, abs_int, max_int, min_int, int_int, int_bl, r1_int, r2_int, tuple_tup, list_tup, over_tup, rev_tup, enum_tup, zip_tup, slc_tup, add_tup, isi_any, ix_tup, ix_scr, ix_num0, ix_num1, len_num, num_0, num_1, atI_0, atI_1, atI_2, List.map, List.cons_append, List.nil_append, List.getElem?_cons_zero, List.getElem?_cons_succ, List.getElem?_nil, List.set_cons_zero, List.set_cons_succ, List.replicate, List.length_cons, List.length_nil, List.foldr_cons, List.foldr_nil, Nat.reduceAdd, Nat.reduceSub, List.replicate_succ, List.replicate_zero, G_up_same, decide_eq_true_eq, Bool.not_eq_true', Bool.false_eq_true, if_true, if_false, ite_true, ite_false, and_true, true_and, reduceCtorEq, Bool.not_true, Bool.not_false, Bool.false_bne, Bool.true_bne, sl0, sl1, sl2, sl3, sl4, len_seq hd, ix_seq hd, nums_len]
  split
  · rename_i hk
    rw [atI_nums rfl (coef_lt (by omega))]
    exact ⟨_, G.le_refl _, h⟩
  · rename_i hk
    exact ⟨_, G.le_refl _, by rw [coef_out (by omega)] at h; exact h⟩
def spTwo (len : Nat → Nat → Nat) (siz : Nat → Nat → Nat → Nat → Nat) (f : Rat → Rat → Rat) : SpD := fun ds g Q _ => ∃ p q b c, ds = [.tup (nums p), .tup (nums q)] ∧ Szs b p ∧ Szs c q ∧ 0 < b ∧ 0 < c ∧ siz p.length q.length b c ≤ 100000000 ∧ p.length ≤ 100 ∧ q.length ≤ 100 ∧
  ∀ r, Tight r → r.length ≤ len p.length q.length → Szs (siz p.length q.length b c) r → (∀ x, ev r x = f (ev p x) (ev q x)) → Q (.tup (nums r)) g
abbrev spAdded : SpD := spTwo (fun n m => max n m) (fun _ _ b c => b + c + 1) fun a b => a + b
abbrev spLessened : SpD := spTwo (fun n m => max n m) (fun _ _ b c => b + c + 1) fun a b => a - b
abbrev spMultiplied : SpD := spTwo (fun n m => n + m - 1) (fun n m b c => min n m * (b + c + 1) + 1) fun a b => a * b
theorem c_twoB {len : Nat → Nat → Nat} {siz : Nat → Nat → Nat → Nat → Nat} {f : Rat → Rat → Rat} {p q : List Rat} (b c : Nat) (hp : Szs b p) (hq : Szs c q) (hb : 0 < b) (hc : 0 < c) (hs : siz p.length q.length b c ≤ 100000000) (hl : p.length ≤ 100) (hl2 : q.length ≤ 100)
    (k : ∀ r, Tight r → r.length ≤ len p.length q.length → Szs (siz p.length q.length b c) r → (∀ x, ev r x = f (ev p x) (ev q x)) → Q (.tup (nums r)) g) : spTwo len siz f [.tup (nums p), .tup (nums q)] g Q X := ⟨p, q, b, c, rfl, hp, hq, hb, hc, hs, hl, hl2, k⟩
theorem c_two {len : Nat → Nat → Nat} {siz : Nat → Nat → Nat → Nat → Nat} {f : Rat → Rat → Rat} {p q : List Rat} (b c : Nat) (hp : Szs b p) (hq : Szs c q) (hb : 0 < b) (hc : 0 < c) (hs : siz p.length q.length b c ≤ 49000000) (hl : p.length ≤ 100) (hl2 : q.length ≤ 100)
    (k : ∀ r, Tight r → r.length ≤ len p.length q.length → Szs (siz p.length q.length b c) r → (∀ x, ev r x = f (ev p x) (ev q x)) → Q (.tup (nums r)) g) : spTwo len siz f [.tup (nums p), .tup (nums q)] g Q X := c_twoB b c hp hq hb hc (Nat.le_trans hs (by decide)) hl hl2 k
theorem pure_added (h11 : Γ 11 = spPlus) (h23 : Γ 23 = spCurveOf) (h30 : Γ 30 = spNumberAt) (h : spAdded ds g Q E) : mnS Γ gl sx_added (endsOf Q E) (startD ns_added ds) g := by
  obtain ⟨p, q, b, c, rfl, hp, hq, hb, hc, hs, hl, hl2, h⟩ := h
  have hs : b + c + 1 ≤ 100000000 := hs
  simp only [sx_added, h11, h23, h30, mnS, mn, Mn.of, Op.rd, Cm.rd, Bl.rd, Mt.rd, Mt.rc, dNop, dSeq, dExpr, dRet, dRetN, dIf, gD, dAsg, dPar, dPut, dRaise, dVar, dC, dBin, dUn, dNil, dCons, dTup, dLst, dTst, dAndT, dOrT, dNotT, dYes, dAnd, dOr, dNot, dChain, dCall, dCB, dMt, dLset, dSrev, dTry, dIsx, dEmp, dStp, xsub, Ex.sub, dSlc, dPart, dNoPart, dIAny, dI1, dI2, dI3, dFor, dComp, compB, wipeD, startD, endsOf, at_mk, setAll, add_int, sub_int, mul_int, mul_tup, pow_int, mod_int, fdiv_int, lt_int, le_int, gt_int, ge_int, eq_int, neg_int, len_tup, len_scr, abs_int, max_int, min_int, int_int, int_bl, r1_int, r2_int, tuple_tup, list_tup, over_tup, rev_tup, enum_tup, zip_tup, slc_tup, add_tup, isi_any, ix_tup, ix_scr, ix_num0, ix_num1, len_num, num_0, num_1, atI_0, atI_1, atI_2, List.map, List.cons_append, List.nil_append, List.getElem?_cons_zero, List.getElem?_cons_succ, List.getElem?_nil, List.set_cons_zero, List.set_cons_succ, List.replicate, List.length_cons, List.length_nil, List.foldr_cons, List.foldr_nil, Nat.reduceAdd, Nat.reduceSub, List.replicate_succ, List.replicate_zero, G_up_same, decide_eq_true_eq, Bool.not_eq_true', Bool.false_eq_true, if_true, if_false, ite_true, ite_false, and_true, true_and, reduceCtorEq, Bool.not_true, Bool.not_false, Bool.false_bne, Bool.true_bne, sl0, sl1, sl2, sl3, sl4, range_len, nums_len]
  refine ⟨by omega, slN (by omega), fun s hs0 => ?_⟩
  refine comp_nums (fun k => coef p k + coef q k) (fun _ => trivial) (fun k x acc N hk hlt hN => ?_) ?_
  · obtain ⟨_, rfl⟩ := range_at hk
    try simp only [mnS, mn, Mn.of, Op.rd, Cm.rd, Bl.rd, Mt.rd, Mt.rc, dNop, dSeq, dExpr, dRet, dRetN, dIf, gD, dAsg, dPar, dPut, dRaise, dVar, dC, dBin, dUn, dNil, dCons, dTup, dLst, dTst, dAndT, dOrT, dNotT, dYes, dAnd, dOr, dNot, dChain, dCall, dCB, dMt, dLset, dSrev, dTry, dIsx, dEmp, dStp, xsub, Ex.sub, dSlc, dPart, dNoPart, dIAny, dI1, dI2, dI3, dFor, dComp, compB, wipeD, startD, endsOf, at_mk, setAll, add_int, sub_int, mul_int, mul_tup, pow_int, mod_int, fdiv_int, lt_int, le_int, gt_int, ge_int, eq_int, neg_int, len_tup, len_scr, abs_int, max_int, min_int, int_int, int_bl, r1_int, r2_int, tuple_tup, list_tup, over_tup, rev_tup, enum_tup, zip_tup, slc_tup, add_tup, isi_any, ix_tup, ix_scr, ix_num0, ix_num1, len_num, num_0, num_1, atI_0, atI_1, atI_2, List.map, List.cons_append, List.nil_append, List.getElem?_cons_zero, List.getElem?_cons_succ, List.getElem?_nil, List.set_cons_zero, List.set_cons_succ, List.replicate, List.length_cons, List.length_nil, List.foldr_cons, List.foldr_nil, Nat.reduceAdd, Nat.reduceSub, List.replicate_succ, List.replicate_zero, G_up_same, decide_eq_true_eq, Bool.not_eq_true', Bool.false_eq_true, if_true, if_false, ite_true, ite_false, and_true, true_and, reduceCtorEq, Bool.not_true, Bool.not_false, Bool.false_bne, Bool.true_bne, sl0, sl1, sl2, sl3, sl4]
    refine c_numberAt (k := k) (by omega) .tup ?_
    refine c_numberAt (k := k) (by omega) .tup ?_
    simp only [c_bin]
    have := hp.coef hb k; have := hq.coef hc k
    exact ⟨by omega, hN⟩
  · refine c_curveOf G_up_same ?_
    simp only [range_len]
    refine ⟨g, G.le_new hs0, h _ (trim_tight _) (Nat.le_trans (trim_len _) ?_) (Szs.trim (Szs.range fun k _ => ?_)) fun x => ?_⟩
    · simp; omega
    · have := hp.coef hb k; have := hq.coef hc k
      exact Nat.le_trans (sz_add _ _) (show _ ≤ b + c + 1 by omega)
    · rw [ev_trim, ev_map_add, ev_range_coef (by omega), ev_range_coef (by omega)]
theorem pure_lessened (h12 : Γ 12 = spMinus) (h23 : Γ 23 = spCurveOf) (h30 : Γ 30 = spNumberAt) (h : spLessened ds g Q E) : mnS Γ gl sx_lessened (endsOf Q E) (startD ns_lessened ds) g := by
  obtain ⟨p, q, b, c, rfl, hp, hq, hb, hc, hs, hl, hl2, h⟩ := h
  have hs : b + c + 1 ≤ 100000000 := hs
  simp only [sx_lessened, h12, h23, h30, mnS, mn, Mn.of, Op.rd, Cm.rd, Bl.rd, Mt.rd, Mt.rc, dNop, dSeq, dExpr, dRet, dRetN, dIf, gD, dAsg, dPar, dPut, dRaise, dVar, dC, dBin, dUn, dNil, dCons, dTup, dLst, dTst, dAndT, dOrT, dNotT, dYes, dAnd, dOr, dNot, dChain, dCall, dCB, dMt, dLset, dSrev, dTry, dIsx, dEmp, dStp, xsub, Ex.sub, dSlc, dPart, dNoPart, dIAny, dI1, dI2, dI3, dFor, dComp, compB, wipeD, startD, endsOf, at_mk, setAll, add_int, sub_int, mul_int, mul_tup, pow_int, mod_int, fdiv_int, lt_int, le_int, gt_int, ge_int, eq_int, neg_int, len_tup, len_scr, abs_int, max_int, min_int, int_int, int_bl, r1_int, r2_int, tuple_tup, list_tup, over_tup, rev_tup, enum_tup, zip_tup, slc_tup, add_tup, isi_any, ix_tup, ix_scr, ix_num0, ix_num1, len_num, num_0, num_1, atI_0, atI_1, atI_2, List.map, List.cons_append, List.nil_append, List.getElem?_cons_zero, List.getElem?_cons_succ, List.getElem?_nil, List.set_cons_zero, List.set_cons_succ, List.replicate, List.length_cons, List.length_nil, List.foldr_cons, List.foldr_nil, Nat.reduceAdd, Nat.reduceSub, List.replicate_succ, List.replicate_zero, G_up_same, decide_eq_true_eq, Bool.not_eq_true', Bool.false_eq_true, if_true, if_false, ite_true, ite_false, and_true, true_and, reduceCtorEq, Bool.not_true, Bool.not_false, Bool.false_bne, Bool.true_bne, sl0, sl1, sl2, sl3, sl4, range_len, nums_len]
  refine ⟨by omega, slN (by omega), fun s hs0 => ?_⟩
  refine comp_nums (fun k => coef p k - coef q k) (fun _ => trivial) (fun k x acc N hk hlt hN => ?_) ?_
  · obtain ⟨_, rfl⟩ := range_at hk
    try simp only [mnS, mn, Mn.of, Op.rd, Cm.rd, Bl.rd, Mt.rd, Mt.rc, dNop, dSeq, dExpr, dRet, dRetN, dIf, gD, dAsg, dPar, dPut, dRaise, dVar, dC, dBin, dUn, dNil, dCons, dTup, dLst, dTst, dAndT, dOrT, dNotT, dYes, dAnd, dOr, dNot, dChain, dCall, dCB, dMt, dLset, dSrev, dTry, dIsx, dEmp, dStp, xsub, Ex.sub, dSlc, dPart, dNoPart, dIAny, dI1, dI2, dI3, dFor, dComp, compB, wipeD, startD, endsOf, at_mk, setAll, add_int, sub_int, mul_int, mul_tup, pow_int, mod_int, fdiv_int, lt_int, le_int, gt_int, ge_int, eq_int, neg_int, len_tup, len_scr, abs_int, max_int, min_int, int_int, int_bl, r1_int, r2_int, tuple_tup, list_tup, over_tup, rev_tup, enum_tup, zip_tup, slc_tup, add_tup, isi_any, ix_tup, ix_scr, ix_num0, ix_num1, len_num, num_0, num_1, atI_0, atI_1, atI_2, List.map, List.cons_append, List.nil_append, List.getElem?_cons_zero, List.getElem?_cons_succ, List.getElem?_nil, List.set_cons_zero, List.set_cons_succ, List.replicate, List.length_cons, List.length_nil, List.foldr_cons, List.foldr_nil, Nat.reduceAdd, Nat.reduceSub, List.replicate_succ, List.replicate_zero, G_up_same, decide_eq_true_eq, Bool.not_eq_true', Bool.false_eq_true, if_true, if_false, ite_true, ite_false, and_true, true_and, reduceCtorEq, Bool.not_true, Bool.not_false, Bool.false_bne, Bool.true_bne, sl0, sl1, sl2, sl3, sl4]
    refine c_numberAt (k := k) (by omega) .tup ?_
    refine c_numberAt (k := k) (by omega) .tup ?_
    simp only [c_bin]
    have := hp.coef hb k; have := hq.coef hc k
    exact ⟨by omega, hN⟩
  · refine c_curveOf G_up_same ?_
    simp only [range_len]
    refine ⟨g, G.le_new hs0, h _ (trim_tight _) (Nat.le_trans (trim_len _) ?_) (Szs.trim (Szs.range fun k _ => ?_)) fun x => ?_⟩
    · simp; omega
    · have := hp.coef hb k; have := hq.coef hc k
      exact Nat.le_trans (sz_sub _ _) (show _ ≤ b + c + 1 by omega)
    · rw [ev_trim, ev_map_sub, ev_range_coef (by omega), ev_range_coef (by omega)]
def spScaled : SpD := fun ds g Q _ => ∃ p q b c, ds = [.tup (nums p), num q] ∧ Szs b p ∧ sz q ≤ c ∧ b + c ≤ 100000000 ∧ p.length ≤ 100 ∧
  ∀ r, Tight r → r.length ≤ p.length → Szs (b + c) r → (∀ x, ev r x = ev p x * q) → Q (.tup (nums r)) g
theorem c_scaledB {p : List Rat} {q : Rat} (b c : Nat) (hp : Szs b p) (hq : sz q ≤ c) (hs : b + c ≤ 100000000) (hl : p.length ≤ 100)
    (k : ∀ r, Tight r → r.length ≤ p.length → Szs (b + c) r → (∀ x, ev r x = ev p x * q) → Q (.tup (nums r)) g) : spScaled [.tup (nums p), num q] g Q X := ⟨p, q, b, c, rfl, hp, hq, hs, hl, k⟩
theorem c_scaled {p : List Rat} {q : Rat} (b c : Nat) (hp : Szs b p) (hq : sz q ≤ c) (hs : b + c ≤ 49000000) (hl : p.length ≤ 100)
    (k : ∀ r, Tight r → r.length ≤ p.length → Szs (b + c) r → (∀ x, ev r x = ev p x * q) → Q (.tup (nums r)) g) : spScaled [.tup (nums p), num q] g Q X := c_scaledB b c hp hq (Nat.le_trans hs (by decide)) hl k
theorem range_mul (p : List Rat) (q : Rat) : (List.range p.length).map (fun k => coef p k * q) = p.map fun a => a * q := by
  refine List.ext_getElem? fun i => ?_
  rw [List.getElem?_map, List.getElem?_map]
  by_cases hi : i < p.length
  · rw [List.getElem?_range hi, coef_lt hi]; rfl
  · rw [List.getElem?_eq_none (by simp; omega), List.getElem?_eq_none (by omega)]; rfl
theorem pure_scaled (h13 : Γ 13 = spTimes) (h23 : Γ 23 = spCurveOf) (h : spScaled ds g Q E) : mnS Γ gl sx_scaled (endsOf Q E) (startD ns_scaled ds) g := by
  obtain ⟨p, q, b, c, rfl, hp, hq, hs, hl, h⟩ := h
  simp only [sx_scaled, h13, h23, mnS, mn, Mn.of, Op.rd, Cm.rd, Bl.rd, Mt.rd, Mt.rc, dNop, dSeq, dExpr, dRet, dRetN, dIf, gD, dAsg, dPar, dPut, dRaise, dVar, dC, dBin, dUn, dNil, dCons, dTup, dLst, dTst, dAndT, dOrT, dNotT, dYes, dAnd, dOr, dNot, dChain, dCall, dCB, dMt, dLset, dSrev, dTry, dIsx, dEmp, dStp, xsub, Ex.sub, dSlc, dPart, dNoPart, dIAny, dI1, dI2, dI3, dFor, dComp, compB, wipeD, startD, endsOf, at_mk, setAll, add_int, sub_int, mul_int, mul_tup, pow_int, mod_int, fdiv_int, lt_int, le_int, gt_int, ge_int, eq_int, neg_int, len_tup, len_scr, abs_int, max_int, min_int, int_int, int_bl, r1_int, r2_int, tuple_tup, list_tup, over_tup, rev_tup, enum_tup, zip_tup, slc_tup, add_tup, isi_any, ix_tup, ix_scr, ix_num0, ix_num1, len_num, num_0, num_1, atI_0, atI_1, atI_2, List.map, List.cons_append, List.nil_append, List.getElem?_cons_zero, List.getElem?_cons_succ, List.getElem?_nil, List.set_cons_zero, List.set_cons_succ, List.replicate, List.length_cons, List.length_nil, List.foldr_cons, List.foldr_nil, Nat.reduceAdd, Nat.reduceSub, List.replicate_succ, List.replicate_zero, G_up_same, decide_eq_true_eq, Bool.not_eq_true', Bool.false_eq_true, if_true, if_false, ite_true, ite_false, and_true, true_and, reduceCtorEq, Bool.not_true, Bool.not_false, Bool.false_bne, Bool.true_bne, sl0, sl1, sl2, sl3, sl4, nums_len]
  refine ⟨slN (by omega), fun s hs0 => ?_⟩
  refine comp_nums (fun k => coef p k * q) (fun _ => trivial) (fun k x acc N hk hlt hN => ?_) ?_
  · obtain ⟨a, ha, rfl⟩ := nums_at hk
    rw [coef_at ha] at hN
    simp only [mnS, mn, Mn.of, Op.rd, Cm.rd, Bl.rd, Mt.rd, Mt.rc, dNop, dSeq, dExpr, dRet, dRetN, dIf, gD, dAsg, dPar, dPut, dRaise, dVar, dC, dBin, dUn, dNil, dCons, dTup, dLst, dTst, dAndT, dOrT, dNotT, dYes, dAnd, dOr, dNot, dChain, dCall, dCB, dMt, dLset, dSrev, dTry, dIsx, dEmp, dStp, xsub, Ex.sub, dSlc, dPart, dNoPart, dIAny, dI1, dI2, dI3, dFor, dComp, compB, wipeD, startD, endsOf, at_mk, setAll, add_int, sub_int, mul_int, mul_tup, pow_int, mod_int, fdiv_int, lt_int, le_int, gt_int, ge_int, eq_int, neg_int, len_tup, len_scr, abs_int, max_int, min_int, int_int, int_bl, r1_int, r2_int, tuple_tup, list_tup, over_tup, rev_tup, enum_tup, zip_tup, slc_tup, add_tup, isi_any, ix_tup, ix_scr, ix_num0, ix_num1, len_num, num_0, num_1, atI_0, atI_1, atI_2, List.map, List.cons_append, List.nil_append, List.getElem?_cons_zero, List.getElem?_cons_succ, List.getElem?_nil, List.set_cons_zero, List.set_cons_succ, List.replicate, List.length_cons, List.length_nil, List.foldr_cons, List.foldr_nil, Nat.reduceAdd, Nat.reduceSub, List.replicate_succ, List.replicate_zero, G_up_same, decide_eq_true_eq, Bool.not_eq_true', Bool.false_eq_true, if_true, if_false, ite_true, ite_false, and_true, true_and, reduceCtorEq, Bool.not_true, Bool.not_false, Bool.false_bne, Bool.true_bne, sl0, sl1, sl2, sl3, sl4, c_bin]
    have := hp.at ha
    exact ⟨by omega, hN⟩
  · refine c_curveOf G_up_same ?_
    rw [nums_len, range_mul]
    refine ⟨g, G.le_new hs0, h _ (trim_tight _) (Nat.le_trans (trim_len _) (by simp)) (Szs.trim fun z hz => ?_) fun x => ?_⟩
    · obtain ⟨a, ha, rfl⟩ := List.mem_map.mp hz
      have := hp a ha
      exact Nat.le_trans (sz_mul _ _) (by omega)
    · rw [ev_trim, ev_map_mul]
theorem sz_int {n : Int} (h : n.natAbs < 2 ^ 10) : sz (n : Rat) ≤ 10 := sz_le (b := 10) (by rw [Rat.num_intCast]; exact h) (by rw [Rat.den_intCast]; decide) (by decide)
def cb (m j i : Nat) : Nat := min j (i + 1) - (i + 1 - m)
theorem pure_multiplied (h11 : Γ 11 = spPlus) (h13 : Γ 13 = spTimes) (h23 : Γ 23 = spCurveOf) (hg : gl 0 = .tup [.int 0, .int 1]) (h : spMultiplied ds g Q E) : mnS Γ gl sx_multiplied (endsOf Q E) (startD ns_multiplied ds) g := by
  obtain ⟨p, q, b, c, rfl, hp, hq, hb, hc, hs, hl, hl2, h⟩ := h
  simp only [sx_multiplied, h11, h13, h23, hg, mnS, mn, Mn.of, Op.rd, Cm.rd, Bl.rd, Mt.rd, Mt.rc, dNop, dSeq, dExpr, dRet, dRetN, dIf, gD, dAsg, dPar, dPut, dRaise, dVar, dC, dBin, dUn, dNil, dCons, dTup, dLst, dTst, dAndT, dOrT, dNotT, dYes, dAnd, dOr, dNot, dChain, dCall, dCB, dMt, dLset, dSrev, dTry, dIsx, dEmp, dStp, xsub, Ex.sub, dSlc, dPart, dNoPart, dIAny, dI1, dI2, dI3, dFor, dComp, compB, wipeD, startD, endsOf, at_mk, setAll, add_int, sub_int, mul_int, mul_tup, pow_int, mod_int, fdiv_int, lt_int, le_int, gt_int, ge_int, eq_int, neg_int, len_tup, len_scr, abs_int, max_int, min_int, int_int, int_bl, r1_int, r2_int, tuple_tup, list_tup, over_tup, rev_tup, enum_tup, zip_tup, slc_tup, add_tup, isi_any, ix_tup, ix_scr, ix_num0, ix_num1, len_num, num_0, num_1, atI_0, atI_1, atI_2, List.map, List.cons_append, List.nil_append, List.getElem?_cons_zero, List.getElem?_cons_succ, List.getElem?_nil, List.set_cons_zero, List.set_cons_succ, List.replicate, List.length_cons, List.length_nil, List.foldr_cons, List.foldr_nil, Nat.reduceAdd, Nat.reduceSub, List.replicate_succ, List.replicate_zero, G_up_same, decide_eq_true_eq, Bool.not_eq_true', Bool.false_eq_true, if_true, if_false, ite_true, ite_false, and_true, true_and, reduceCtorEq, Bool.not_true, Bool.not_false, Bool.false_bne, Bool.true_bne, sl0, sl1, sl2, sl3, sl4, nums_len, tup_nil]
  refine eq_tup (fun e => ?_) fun e => ?_
  · subst e
    try simp only [mnS, mn, Mn.of, Op.rd, Cm.rd, Bl.rd, Mt.rd, Mt.rc, dNop, dSeq, dExpr, dRet, dRetN, dIf, gD, dAsg, dPar, dPut, dRaise, dVar, dC, dBin, dUn, dNil, dCons, dTup, dLst, dTst, dAndT, dOrT, dNotT, dYes, dAnd, dOr, dNot, dChain, dCall, dCB, dMt, dLset, dSrev, dTry, dIsx, dEmp, dStp, xsub, Ex.sub, dSlc, dPart, dNoPart, dIAny, dI1, dI2, dI3, dFor, dComp, compB, wipeD, startD, endsOf, at_mk, setAll, add_int, sub_int, mul_int, mul_tup, pow_int, mod_int, fdiv_int, lt_int, le_int, gt_int, ge_int, eq_int, neg_int, len_tup, len_scr, abs_int, max_int, min_int, int_int, int_bl, r1_int, r2_int, tuple_tup, list_tup, over_tup, rev_tup, enum_tup, zip_tup, slc_tup, add_tup, isi_any, ix_tup, ix_scr, ix_num0, ix_num1, len_num, num_0, num_1, atI_0, atI_1, atI_2, List.map, List.cons_append, List.nil_append, List.getElem?_cons_zero, List.getElem?_cons_succ, List.getElem?_nil, List.set_cons_zero, List.set_cons_succ, List.replicate, List.length_cons, List.length_nil, List.foldr_cons, List.foldr_nil, Nat.reduceAdd, Nat.reduceSub, List.replicate_succ, List.replicate_zero, G_up_same, decide_eq_true_eq, Bool.not_eq_true', Bool.false_eq_true, if_true, if_false, ite_true, ite_false, and_true, true_and, reduceCtorEq, Bool.not_true, Bool.not_false, Bool.false_bne, Bool.true_bne, sl0, sl1, sl2, sl3, sl4]
    exact ⟨_, G.le_refl _, h [] tight_nil (Nat.zero_le _) .nil fun x => by rw [ev_nil]; grind⟩
  simp only [mnS, mn, Mn.of, Op.rd, Cm.rd, Bl.rd, Mt.rd, Mt.rc, dNop, dSeq, dExpr, dRet, dRetN, dIf, gD, dAsg, dPar, dPut, dRaise, dVar, dC, dBin, dUn, dNil, dCons, dTup, dLst, dTst, dAndT, dOrT, dNotT, dYes, dAnd, dOr, dNot, dChain, dCall, dCB, dMt, dLset, dSrev, dTry, dIsx, dEmp, dStp, xsub, Ex.sub, dSlc, dPart, dNoPart, dIAny, dI1, dI2, dI3, dFor, dComp, compB, wipeD, startD, endsOf, at_mk, setAll, add_int, sub_int, mul_int, mul_tup, pow_int, mod_int, fdiv_int, lt_int, le_int, gt_int, ge_int, eq_int, neg_int, len_tup, len_scr, abs_int, max_int, min_int, int_int, int_bl, r1_int, r2_int, tuple_tup, list_tup, over_tup, rev_tup, enum_tup, zip_tup, slc_tup, add_tup, isi_any, ix_tup, ix_scr, ix_num0, ix_num1, len_num, num_0, num_1, atI_0, atI_1, atI_2, List.map, List.cons_append, List.nil_append, List.getElem?_cons_zero, List.getElem?_cons_succ, List.getElem?_nil, List.set_cons_zero, List.set_cons_succ, List.replicate, List.length_cons, List.length_nil, List.foldr_cons, List.foldr_nil, Nat.reduceAdd, Nat.reduceSub, List.replicate_succ, List.replicate_zero, G_up_same, decide_eq_true_eq, Bool.not_eq_true', Bool.false_eq_true, if_true, if_false, ite_true, ite_false, and_true, true_and, reduceCtorEq, Bool.not_true, Bool.not_false, Bool.false_bne, Bool.true_bne, sl0, sl1, sl2, sl3, sl4, nums_len]
  refine eq_tup (fun e2 => ?_) fun e2 => ?_
  · subst e2
    try simp only [mnS, mn, Mn.of, Op.rd, Cm.rd, Bl.rd, Mt.rd, Mt.rc, dNop, dSeq, dExpr, dRet, dRetN, dIf, gD, dAsg, dPar, dPut, dRaise, dVar, dC, dBin, dUn, dNil, dCons, dTup, dLst, dTst, dAndT, dOrT, dNotT, dYes, dAnd, dOr, dNot, dChain, dCall, dCB, dMt, dLset, dSrev, dTry, dIsx, dEmp, dStp, xsub, Ex.sub, dSlc, dPart, dNoPart, dIAny, dI1, dI2, dI3, dFor, dComp, compB, wipeD, startD, endsOf, at_mk, setAll, add_int, sub_int, mul_int, mul_tup, pow_int, mod_int, fdiv_int, lt_int, le_int, gt_int, ge_int, eq_int, neg_int, len_tup, len_scr, abs_int, max_int, min_int, int_int, int_bl, r1_int, r2_int, tuple_tup, list_tup, over_tup, rev_tup, enum_tup, zip_tup, slc_tup, add_tup, isi_any, ix_tup, ix_scr, ix_num0, ix_num1, len_num, num_0, num_1, atI_0, atI_1, atI_2, List.map, List.cons_append, List.nil_append, List.getElem?_cons_zero, List.getElem?_cons_succ, List.getElem?_nil, List.set_cons_zero, List.set_cons_succ, List.replicate, List.length_cons, List.length_nil, List.foldr_cons, List.foldr_nil, Nat.reduceAdd, Nat.reduceSub, List.replicate_succ, List.replicate_zero, G_up_same, decide_eq_true_eq, Bool.not_eq_true', Bool.false_eq_true, if_true, if_false, ite_true, ite_false, and_true, true_and, reduceCtorEq, Bool.not_true, Bool.not_false, Bool.false_bne, Bool.true_bne, sl0, sl1, sl2, sl3, sl4]
    exact ⟨_, G.le_refl _, h [] tight_nil (Nat.zero_le _) .nil fun x => by rw [ev_nil]; grind⟩
  have hn : 0 < p.length := List.length_pos_iff.mpr e
  have hm : 0 < q.length := List.length_pos_iff.mpr e2
  simp only [mnS, mn, Mn.of, Op.rd, Cm.rd, Bl.rd, Mt.rd, Mt.rc, dNop, dSeq, dExpr, dRet, dRetN, dIf, gD, dAsg, dPar, dPut, dRaise, dVar, dC, dBin, dUn, dNil, dCons, dTup, dLst, dTst, dAndT, dOrT, dNotT, dYes, dAnd, dOr, dNot, dChain, dCall, dCB, dMt, dLset, dSrev, dTry, dIsx, dEmp, dStp, xsub, Ex.sub, dSlc, dPart, dNoPart, dIAny, dI1, dI2, dI3, dFor, dComp, compB, wipeD, startD, endsOf, at_mk, setAll, add_int, sub_int, mul_int, mul_tup, pow_int, mod_int, fdiv_int, lt_int, le_int, gt_int, ge_int, eq_int, neg_int, len_tup, len_scr, abs_int, max_int, min_int, int_int, int_bl, r1_int, r2_int, tuple_tup, list_tup, over_tup, rev_tup, enum_tup, zip_tup, slc_tup, add_tup, isi_any, ix_tup, ix_scr, ix_num0, ix_num1, len_num, num_0, num_1, atI_0, atI_1, atI_2, List.map, List.cons_append, List.nil_append, List.getElem?_cons_zero, List.getElem?_cons_succ, List.getElem?_nil, List.set_cons_zero, List.set_cons_succ, List.replicate, List.length_cons, List.length_nil, List.foldr_cons, List.foldr_nil, Nat.reduceAdd, Nat.reduceSub, List.replicate_succ, List.replicate_zero, G_up_same, decide_eq_true_eq, Bool.not_eq_true', Bool.false_eq_true, if_true, if_false, ite_true, ite_false, and_true, true_and, reduceCtorEq, Bool.not_true, Bool.not_false, Bool.false_bne, Bool.true_bne, sl0, sl1, sl2, sl3, sl4, nums_len, range_len]
  refine ⟨by omega, slN (by omega), fun s hs0 => ?_⟩
  refine comp_nums (fun k => 0) (fun _ => trivial) (fun k x acc N hk hlt hN => ?_) ?_
  · simp only [mnS, mn, Mn.of, Op.rd, Cm.rd, Bl.rd, Mt.rd, Mt.rc, dNop, dSeq, dExpr, dRet, dRetN, dIf, gD, dAsg, dPar, dPut, dRaise, dVar, dC, dBin, dUn, dNil, dCons, dTup, dLst, dTst, dAndT, dOrT, dNotT, dYes, dAnd, dOr, dNot, dChain, dCall, dCB, dMt, dLset, dSrev, dTry, dIsx, dEmp, dStp, xsub, Ex.sub, dSlc, dPart, dNoPart, dIAny, dI1, dI2, dI3, dFor, dComp, compB, wipeD, startD, endsOf, at_mk, setAll, add_int, sub_int, mul_int, mul_tup, pow_int, mod_int, fdiv_int, lt_int, le_int, gt_int, ge_int, eq_int, neg_int, len_tup, len_scr, abs_int, max_int, min_int, int_int, int_bl, r1_int, r2_int, tuple_tup, list_tup, over_tup, rev_tup, enum_tup, zip_tup, slc_tup, add_tup, isi_any, ix_tup, ix_scr, ix_num0, ix_num1, len_num, num_0, num_1, atI_0, atI_1, atI_2, List.map, List.cons_append, List.nil_append, List.getElem?_cons_zero, List.getElem?_cons_succ, List.getElem?_nil, List.set_cons_zero, List.set_cons_succ, List.replicate, List.length_cons, List.length_nil, List.foldr_cons, List.foldr_nil, Nat.reduceAdd, Nat.reduceSub, List.replicate_succ, List.replicate_zero, G_up_same, decide_eq_true_eq, Bool.not_eq_true', Bool.false_eq_true, if_true, if_false, ite_true, ite_false, and_true, true_and, reduceCtorEq, Bool.not_true, Bool.not_false, Bool.false_bne, Bool.true_bne, sl0, sl1, sl2, sl3, sl4]; exact hN
  rw [range_len, show ((p.length : Int) + (q.length : Int) - 1).toNat = p.length + q.length - 1 by omega]
  have hmin : min p.length q.length * (b + c + 1) + 1 ≤ 100000000 := hs
  have hB : b + c + 1 ≤ min p.length q.length * (b + c + 1) := Nat.le_mul_of_pos_left _ (by omega)
  refine for_inv (fun j env g' => ∃ f o3 o4 o5 o6, env = [some (.tup (nums p)), some (.tup (nums q)), some (.ref s), o3, o4, o5, o6] ∧ g' = g.up s (nums f) ∧ f.length = p.length + q.length - 1 ∧ (∀ x, ev f x = ev (p.take j) x * ev q x) ∧ j ≤ p.length ∧
      ∀ i v, f[i]? = some v → ∃ t, sz v ≤ t * (b + c + 1) + 1 ∧ t ≤ cb q.length j i) (fun _ _ _ _ => trivial) ?_ ?_
      ⟨(List.range (p.length + q.length - 1)).map fun _ => 0, none, none, none, none, rfl, rfl, by simp, fun x => by rw [List.take_zero, ev_nil, range_zeros, ev_zeros]; grind, Nat.zero_le _, fun i v hv => ⟨0, by
        rw [List.getElem?_map] at hv
        cases z : (List.range (p.length + q.length - 1))[i]? with
        | none => rw [z] at hv; cases hv
        | some w => rw [z] at hv; cases hv; rw [sz_0]; omega, Nat.zero_le _⟩⟩
  · rintro j x env g' N hk ⟨f, o3, o4, o5, o6, rfl, rfl, hf, hev, hj, hsz⟩ hN
    obtain ⟨a, ha, rfl⟩ := enum_at hk
    have hja : j < p.length := by
      rcases Nat.lt_or_ge j p.length with z | z
      · exact z
      · rw [List.getElem?_eq_none z] at ha; cases ha
    have hsa := hp.at ha
    try simp only [mnS, mn, Mn.of, Op.rd, Cm.rd, Bl.rd, Mt.rd, Mt.rc, dNop, dSeq, dExpr, dRet, dRetN, dIf, gD, dAsg, dPar, dPut, dRaise, dVar, dC, dBin, dUn, dNil, dCons, dTup, dLst, dTst, dAndT, dOrT, dNotT, dYes, dAnd, dOr, dNot, dChain, dCall, dCB, dMt, dLset, dSrev, dTry, dIsx, dEmp, dStp, xsub, Ex.sub, dSlc, dPart, dNoPart, dIAny, dI1, dI2, dI3, dFor, dComp, compB, wipeD, startD, endsOf, at_mk, setAll, add_int, sub_int, mul_int, mul_tup, pow_int, mod_int, fdiv_int, lt_int, le_int, gt_int, ge_int, eq_int, neg_int, len_tup, len_scr, abs_int, max_int, min_int, int_int, int_bl, r1_int, r2_int, tuple_tup, list_tup, over_tup, rev_tup, enum_tup, zip_tup, slc_tup, add_tup, isi_any, ix_tup, ix_scr, ix_num0, ix_num1, len_num, num_0, num_1, atI_0, atI_1, atI_2, List.map, List.cons_append, List.nil_append, List.getElem?_cons_zero, List.getElem?_cons_succ, List.getElem?_nil, List.set_cons_zero, List.set_cons_succ, List.replicate, List.length_cons, List.length_nil, List.foldr_cons, List.foldr_nil, Nat.reduceAdd, Nat.reduceSub, List.replicate_succ, List.replicate_zero, G_up_same, decide_eq_true_eq, Bool.not_eq_true', Bool.false_eq_true, if_true, if_false, ite_true, ite_false, and_true, true_and, reduceCtorEq, Bool.not_true, Bool.not_false, Bool.false_bne, Bool.true_bne, sl0, sl1, sl2, sl3, sl4]
    refine for_inv (fun k env g' => ∃ f o5 o6, env = [some (.tup (nums p)), some (.tup (nums q)), some (.ref s), some (.int j), some (num a), o5, o6] ∧ g' = g.up s (nums f) ∧ f.length = p.length + q.length - 1 ∧ (∀ x, ev f x = ev (p.take j) x * ev q x + a * x ^ j * ev (q.take k) x) ∧ k ≤ q.length ∧
      ∀ i v, f[i]? = some v → ∃ t, sz v ≤ t * (b + c + 1) + 1 ∧ t ≤ if i < j + k then cb q.length (j + 1) i else cb q.length j i) (fun _ _ _ _ => trivial) ?_ ?_
      ⟨f, o5, o6, rfl, rfl, hf, fun x => by rw [hev x, List.take_zero, ev_nil]; grind, Nat.zero_le _, fun i v hv => by
        obtain ⟨t, h1, h2⟩ := hsz i v hv
        refine ⟨t, h1, ?_⟩
        unfold cb at *
        split <;> omega⟩
    · rintro k y env g' M hk2 ⟨f, o5, o6, rfl, rfl, hf, hev, hk3, hsz⟩ hM
      obtain ⟨a2, ha2, rfl⟩ := enum_at hk2
      have hka : k < q.length := by
        rcases Nat.lt_or_ge k q.length with z | z
        · exact z
        · rw [List.getElem?_eq_none z] at ha2; cases ha2
      have hsa2 := hq.at ha2
      have hjk : j + k < f.length := by omega
      obtain ⟨t, ht1, ht2⟩ := hsz (j + k) _ (coef_lt hjk)
      rw [if_neg (by omega)] at ht2
      have htm : t + 1 ≤ min p.length q.length := by unfold cb at ht2; omega
      have htB : (t + 1) * (b + c + 1) ≤ min p.length q.length * (b + c + 1) := Nat.mul_le_mul_right _ htm
      have htB2 : (t + 1) * (b + c + 1) = t * (b + c + 1) + (b + c + 1) := Nat.succ_mul ..
      have hmul := sz_mul a a2
      have hadd := sz_add (coef f (j + k)) (a * a2)
      have ejk : (j : Int) + (k : Int) = ((j + k : Nat) : Int) := by omega
      simp only [mnS, mn, Mn.of, Op.rd, Cm.rd, Bl.rd, Mt.rd, Mt.rc, dNop, dSeq, dExpr, dRet, dRetN, dIf, gD, dAsg, dPar, dPut, dRaise, dVar, dC, dBin, dUn, dNil, dCons, dTup, dLst, dTst, dAndT, dOrT, dNotT, dYes, dAnd, dOr, dNot, dChain, dCall, dCB, dMt, dLset, dSrev, dTry, dIsx, dEmp, dStp, xsub, Ex.sub, dSlc, dPart, dNoPart, dIAny, dI1, dI2, dI3, dFor, dComp, compB, wipeD, startD, endsOf, at_mk, setAll, add_int, sub_int, mul_int, mul_tup, pow_int, mod_int, fdiv_int, lt_int, le_int, gt_int, ge_int, eq_int, neg_int, len_tup, len_scr, abs_int, max_int, min_int, int_int, int_bl, r1_int, r2_int, tuple_tup, list_tup, over_tup, rev_tup, enum_tup, zip_tup, slc_tup, add_tup, isi_any, ix_tup, ix_scr, ix_num0, ix_num1, len_num, num_0, num_1, atI_0, atI_1, atI_2, List.map, List.cons_append, List.nil_append, List.getElem?_cons_zero, List.getElem?_cons_succ, List.getElem?_nil, List.set_cons_zero, List.set_cons_succ, List.replicate, List.length_cons, List.length_nil, List.foldr_cons, List.foldr_nil, Nat.reduceAdd, Nat.reduceSub, List.replicate_succ, List.replicate_zero, G_up_same, decide_eq_true_eq, Bool.not_eq_true', Bool.false_eq_true, if_true, if_false, ite_true, ite_false, and_true, true_and, reduceCtorEq, Bool.not_true, Bool.not_false, Bool.false_bne, Bool.true_bne, sl0, sl1, sl2, sl3, sl4, ejk]
      rw [ix_ref G_up_same, atI_nums rfl (coef_lt hjk)]
      simp only [c_bin]
      refine ⟨by omega, by omega, ?_⟩
      rw [set_ref G_up_same, nums_len, ixN_at rfl hjk]
      simp only [nums_set, G_up_up]
      refine hM _ _ ⟨_, _, _, rfl, rfl, by rw [List.length_set]; exact hf, fun x => ?_, hka, fun i v hv => ?_⟩
      · have ht : q.take (k + 1) = q.take k ++ [a2] := by
          rw [List.take_succ_eq_append_getElem hka]
          rw [List.getElem?_eq_getElem hka] at ha2
          cases ha2
          rfl
        rw [ev_set _ _ _ _ hjk, hev x, ht, ev_snoc, List.length_take, Nat.min_eq_left (by omega), pow_add']
        grind
      · rw [List.getElem?_set] at hv
        split at hv
        · rename_i hi
          cases hv
          refine ⟨t + 1, by omega, ?_⟩
          rw [if_pos (by omega)]
          unfold cb at *
          omega
        · rename_i hi
          obtain ⟨t', h1, h2⟩ := hsz i v hv
          refine ⟨t', h1, ?_⟩
          by_cases hlt : i < j + k
          · rw [if_pos hlt] at h2; rw [if_pos (by omega)]; exact h2
          · rw [if_neg hlt] at h2; rw [if_neg (by omega)]; exact h2
    · rintro env g' ⟨f, o5, o6, rfl, rfl, hf, hev, -, hsz⟩
      rw [enum_len, nums_len] at hev hsz
      refine hN _ _ ⟨f, _, _, _, _, rfl, rfl, hf, fun x => ?_, hja, fun i v hv => ?_⟩
      · have ht : p.take (j + 1) = p.take j ++ [a] := by
          rw [List.take_succ_eq_append_getElem hja]
          rw [List.getElem?_eq_getElem hja] at ha
          cases ha
          rfl
        rw [hev x, ht, ev_snoc, List.length_take, Nat.min_eq_left (by omega), List.take_length]
        grind
      · obtain ⟨t', h1, h2⟩ := hsz i v hv
        refine ⟨t', h1, Nat.le_trans h2 ?_⟩
        unfold cb
        split <;> omega
  · rintro env g' ⟨f, o3, o4, o5, o6, rfl, rfl, hf, hev, -, hsz⟩
    try simp only [mnS, mn, Mn.of, Op.rd, Cm.rd, Bl.rd, Mt.rd, Mt.rc, dNop, dSeq, dExpr, dRet, dRetN, dIf, gD, dAsg, dPar, dPut, dRaise, dVar, dC, dBin, dUn, dNil, dCons, dTup, dLst, dTst, dAndT, dOrT, dNotT, dYes, dAnd, dOr, dNot, dChain, dCall, dCB, dMt, dLset, dSrev, dTry, dIsx, dEmp, dStp, xsub, Ex.sub, dSlc, dPart, dNoPart, dIAny, dI1, dI2, dI3, dFor, dComp, compB, wipeD, startD, endsOf, at_mk, setAll, add_int, sub_int, mul_int, mul_tup, pow_int, mod_int, fdiv_int, lt_int, le_int, gt_int, ge_int, eq_int, neg_int, len_tup, len_scr, abs_int, max_int, min_int, int_int, int_bl, r1_int, r2_int, tuple_tup, list_tup, over_tup, rev_tup, enum_tup, zip_tup, slc_tup, add_tup, isi_any, ix_tup, ix_scr, ix_num0, ix_num1, len_num, num_0, num_1, atI_0, atI_1, atI_2, List.map, List.cons_append, List.nil_append, List.getElem?_cons_zero, List.getElem?_cons_succ, List.getElem?_nil, List.set_cons_zero, List.set_cons_succ, List.replicate, List.length_cons, List.length_nil, List.foldr_cons, List.foldr_nil, Nat.reduceAdd, Nat.reduceSub, List.replicate_succ, List.replicate_zero, G_up_same, decide_eq_true_eq, Bool.not_eq_true', Bool.false_eq_true, if_true, if_false, ite_true, ite_false, and_true, true_and, reduceCtorEq, Bool.not_true, Bool.not_false, Bool.false_bne, Bool.true_bne, sl0, sl1, sl2, sl3, sl4]
    refine c_curveOf G_up_same ?_
    rw [enum_len, nums_len] at hev hsz
    refine ⟨g, G.le_new hs0, h _ (trim_tight _) (Nat.le_trans (trim_len _) (show _ ≤ p.length + q.length - 1 by omega)) (Szs.trim fun v hv => ?_) fun x => by rw [ev_trim, hev x, List.take_length]⟩
    obtain ⟨i, hi⟩ := List.mem_iff_getElem?.mp hv
    obtain ⟨t, h1, h2⟩ := hsz i v hi
    have ht : t ≤ min p.length q.length := by unfold cb at h2; omega
    have := Nat.mul_le_mul_right (b + c + 1) ht
    show sz v ≤ min p.length q.length * (b + c + 1) + 1
    omega
end
end PP
namespace PP
open PySem PySem.Spec PyProof.Rows L2
end PP
namespace PP
open PySem PySem.Spec PyProof.Rows L2
def sx_by_steps : SX :=
  (.asg (.n 2) (.tup .nil)
  (.asg (.n 3) (.tup (.cons (.glo 1) .nil))
  (.for_ (.t [4, 5]) (.zip (.v 0) (.v 1))
    (.asg (.n 2) (.call 31 (.cons (.v 2) (.cons (.call 33 (.cons (.v 3) (.cons (.v 5) .nil))) .nil)))
    (.asg (.n 3) (.call 34 (.cons (.v 3) (.cons (.call 23 (.cons (.lst (.cons (.call 12 (.cons (.glo 0) (.cons (.v 4) .nil))) (.cons (.glo 1) .nil))) .nil)) .nil))) .nil))
  (.ret (.v 2) .nil))))
abbrev ns_by_steps : List Str := ["knots", "steps", "found", "product", "knot", "step"]
def nwt : List Rat → List Rat → Rat → Rat
  | k :: ks, s :: ss, x => s + (x - k) * nwt ks ss x
  | _, _, _ => 0
theorem nwt_drop {ks ss : List Rat} {i : Nat} {a s : Rat} (ha : ks[i]? = some a) (hs : ss[i]? = some s) (x : Rat) : nwt (ks.drop i) (ss.drop i) x = s + (x - a) * nwt (ks.drop (i + 1)) (ss.drop (i + 1)) x := by
  have h1 : i < ks.length := by
    rcases Nat.lt_or_ge i ks.length with z | z
    · exact z
    · rw [List.getElem?_eq_none z] at ha; cases ha
  have h2 : i < ss.length := by
    rcases Nat.lt_or_ge i ss.length with z | z
    · exact z
    · rw [List.getElem?_eq_none z] at hs; cases hs
  rw [List.getElem?_eq_getElem h1] at ha
  rw [List.getElem?_eq_getElem h2] at hs
  cases ha; cases hs
  rw [List.drop_eq_getElem_cons h1, List.drop_eq_getElem_cons h2, nwt]
theorem nwt_end {ks ss : List Rat} {i : Nat} (h : ss.length ≤ i) (x : Rat) : nwt (ks.drop i) (ss.drop i) x = 0 := by
  rw [List.drop_eq_nil_of_le h]
  cases ks.drop i <;> rfl
theorem zip_at {p q : List Rat} {k : Nat} {x : D} (h : (zipD (nums p) (nums q))[k]? = some x) : ∃ a b, p[k]? = some a ∧ q[k]? = some b ∧ x = .tup [num a, num b] := by
  unfold zipD at h
  rw [List.getElem?_zipWith] at h
  cases e : (nums p)[k]? with
  | none => rw [e] at h; cases h
  | some d =>
    cases e2 : (nums q)[k]? with
    | none => rw [e, e2] at h; cases h
    | some d2 =>
      rw [e, e2] at h
      cases h
      obtain ⟨a, ha, rfl⟩ := nums_at e
      obtain ⟨b, hb, rfl⟩ := nums_at e2
      exact ⟨a, b, ha, hb, rfl⟩
theorem lt_of_at {α : Type} {xs : List α} {k : Nat} {x : α} (h : xs[k]? = some x) : k < xs.length := by
  rcases Nat.lt_or_ge k xs.length with z | z
  · exact z
  · rw [List.getElem?_eq_none z] at h; cases h
def prSz (n b : Nat) : Nat := 2 ^ n * (2 * b + 4) - (2 * b + 3)
theorem prSz_succ (n b : Nat) : prSz (n + 1) b = 2 * prSz n b + 2 * b + 3 := by
  unfold prSz
  have h : 2 * b + 4 ≤ 2 ^ n * (2 * b + 4) := Nat.le_mul_of_pos_left _ (Nat.two_pow_pos n)
  rw [Nat.pow_succ, Nat.mul_comm (2 ^ n) 2, Nat.mul_assoc]
  omega
theorem prSz_zero (b : Nat) : prSz 0 b = 1 := by unfold prSz; omega
theorem prSz_pos (n b : Nat) : 0 < prSz n b := by
  cases n with
  | zero => rw [prSz_zero]; decide
  | succ n => rw [prSz_succ]; omega
def bsSz (n b c : Nat) : Nat := 2 ^ n * (2 * b + 4 + c) + n
theorem prSz_le (n b : Nat) : prSz n b ≤ 2 ^ n * (2 * b + 4) := Nat.sub_le ..
theorem bsSz_succ (n b c : Nat) : bsSz n b c + prSz n b + 2 ^ n * c + 1 ≤ bsSz (n + 1) b c := by
  have := prSz_le n b
  unfold bsSz
  rw [Nat.pow_succ, Nat.mul_comm (2 ^ n) 2, Nat.mul_assoc, Nat.mul_add (2 ^ n) (2 * b + 4) c]
  omega
theorem prSz_bsSz (n b c : Nat) : prSz n b + 2 ^ n * c ≤ bsSz n b c := by
  have := prSz_le n b
  unfold bsSz
  rw [Nat.mul_add (2 ^ n) (2 * b + 4) c]
  omega
theorem bsSz_mono {n m b c : Nat} (h : n ≤ m) : bsSz n b c ≤ bsSz m b c := by
  induction h with
  | refl => exact Nat.le_refl _
  | @step j _ ih => exact Nat.le_trans ih (show bsSz j b c ≤ bsSz (j + 1) b c by have := bsSz_succ j b c; omega)
def SzG (c : Nat) (ss : List Rat) : Prop := ∀ k s, ss[k]? = some s → sz s ≤ 2 ^ k * c
section
variable {Γ : Nat → SpD} {gl : Nat → D} {ds : List D} {g : G} {Q : QD} {E X : XD}
def spBySteps : SpD := fun ds g Q _ => ∃ a1 a2 ks ss b c, ds = [.ref a1, .ref a2] ∧ g a1 = some (nums ks) ∧ g a2 = some (nums ss) ∧ Szs b ks ∧ SzG c ss ∧ 0 < b ∧ 0 < c ∧ ss.length ≤ 60 ∧ bsSz (ss.length + 1) b c ≤ 40000000 ∧
  ∀ r, Tight r → r.length ≤ ss.length → Szs (bsSz ss.length b c) r → (∀ x, ev r x = nwt ks ss x) → Q (.tup (nums r)) g
theorem c_bySteps {a1 a2 : Addr} {ks ss : List Rat} (b c : Nat) (h1 : g a1 = some (nums ks)) (h2 : g a2 = some (nums ss)) (hk : Szs b ks) (hs : SzG c ss) (hb : 0 < b) (hc : 0 < c) (hl : ss.length ≤ 60) (hz : bsSz (ss.length + 1) b c ≤ 40000000)
    (k : ∀ r, Tight r → r.length ≤ ss.length → Szs (bsSz ss.length b c) r → (∀ x, ev r x = nwt ks ss x) → Q (.tup (nums r)) g) : spBySteps [.ref a1, .ref a2] g Q X := ⟨a1, a2, ks, ss, b, c, rfl, h1, h2, hk, hs, hb, hc, hl, hz, k⟩
theorem zip_len {p q : List Rat} : (zipD (nums p) (nums q)).length = min p.length q.length := by simp [zipD, nums_len]
theorem pure_by_steps (h12 : Γ 12 = spMinus) (h23 : Γ 23 = spCurveOf) (h31 : Γ 31 = spAdded) (h33 : Γ 33 = spScaled) (h34 : Γ 34 = spMultiplied) (hg0 : gl 0 = .tup [.int 0, .int 1]) (hg1 : gl 1 = .tup [.int 1, .int 1]) (h : spBySteps ds g Q E) : mnS Γ gl sx_by_steps (endsOf Q E) (startD ns_by_steps ds) g := by
  obtain ⟨a1, a2, ks, ss, b, c, rfl, h1, h2, hk, hs, hb, hc, hl, hz, h⟩ := h
  simp only [sx_by_steps, h12, h23, h31, h33, h34, hg0, hg1, mnS, mn, Mn.of, Op.rd, Cm.rd, Bl.rd, Mt.rd, Mt.rc, dNop, dSeq, dExpr, dRet, dRetN, dIf, gD, dAsg, dPar, dPut, dRaise, dVar, dC, dBin, dUn, dNil, dCons, dTup, dLst, dTst, dAndT, dOrT, dNotT, dYes, dAnd, dOr, dNot, dChain, dCall, dCB, dMt, dLset, dSrev, dTry, dIsx, dEmp, dStp, xsub, Ex.sub, dSlc, dPart, dNoPart, dIAny, dI1, dI2, dI3, dFor, dComp, compB, wipeD, startD, endsOf, at_mk, setAll, add_int, sub_int, mul_int, mul_tup, pow_int, mod_int, fdiv_int, lt_int, le_int, gt_int, ge_int, eq_int, neg_int, len_tup, len_scr, abs_int, max_int, min_int, int_int, int_bl, r1_int, r2_int, tuple_tup, list_tup, over_tup, rev_tup, enum_tup, zip_tup, slc_tup, add_tup, isi_any, ix_tup, ix_scr, ix_num0, ix_num1, len_num, num_0, num_1, atI_0, atI_1, atI_2, List.map, List.cons_append, List.nil_append, List.getElem?_cons_zero, List.getElem?_cons_succ, List.getElem?_nil, List.set_cons_zero, List.set_cons_succ, List.replicate, List.length_cons, List.length_nil, List.foldr_cons, List.foldr_nil, Nat.reduceAdd, Nat.reduceSub, List.replicate_succ, List.replicate_zero, G_up_same, decide_eq_true_eq, Bool.not_eq_true', Bool.false_eq_true, if_true, if_false, ite_true, ite_false, and_true, true_and, reduceCtorEq, Bool.not_true, Bool.not_false, Bool.false_bne, Bool.true_bne, sl0, sl1, sl2, sl3, sl4, zip_ref h1 h2]
  have hbs : ∀ k, k ≤ ss.length → bsSz (k + 1) b c ≤ 40000000 := fun k hk => Nat.le_trans (bsSz_mono (by omega)) hz
  refine for_inv (fun k env g' => ∃ f p o4 o5, env = [some (.ref a1), some (.ref a2), some (.tup (nums f)), some (.tup (nums p)), o4, o5] ∧ g.le g' ∧ k ≤ ss.length ∧ Tight f ∧ f.length ≤ k ∧ Szs (bsSz k b c) f ∧ p.length ≤ k + 1 ∧ Szs (prSz k b) p ∧ ∀ x, ev f x + ev p x * nwt (ks.drop k) (ss.drop k) x = nwt ks ss x) (fun k env g' e => ?_) ?_ ?_
    ⟨[], [1], none, none, rfl, G.le_refl _, Nat.zero_le _, tight_nil, Nat.le_refl _, .nil, Nat.le_refl _, fun q hq => by rw [List.mem_singleton.mp hq, sz_1, prSz_zero]; exact Nat.le_refl _, fun x => by rw [ev_nil, ev_cons, ev_nil, List.drop_zero, List.drop_zero]; grind⟩
  · obtain ⟨_, _, _, _, _, l, _⟩ := e
    exact ⟨l _ _ h1, l _ _ h2⟩
  · rintro k x env g' N hk2 ⟨f, p, o4, o5, rfl, l, hkl, hft, hfl, hfs, hpl, hps, hev⟩ hN
    obtain ⟨kn, st, hkn, hst, rfl⟩ := zip_at hk2
    have hk3 := lt_of_at hst
    have hsk := hk.at hkn
    have hss := hs k st hst
    have e5 := prSz_bsSz k b c
    have hpos : 0 < 2 ^ k := Nat.two_pow_pos k
    have e1 := bsSz_succ k b c
    have e2 := prSz_succ k b
    have e3 := prSz_pos k b
    have e4 := hbs k (by omega)
    have e6 : prSz (k + 1) b ≤ bsSz (k + 1) b c := Nat.le_trans (Nat.le_add_right ..) (prSz_bsSz (k + 1) b c)
    try simp only [mnS, mn, Mn.of, Op.rd, Cm.rd, Bl.rd, Mt.rd, Mt.rc, dNop, dSeq, dExpr, dRet, dRetN, dIf, gD, dAsg, dPar, dPut, dRaise, dVar, dC, dBin, dUn, dNil, dCons, dTup, dLst, dTst, dAndT, dOrT, dNotT, dYes, dAnd, dOr, dNot, dChain, dCall, dCB, dMt, dLset, dSrev, dTry, dIsx, dEmp, dStp, xsub, Ex.sub, dSlc, dPart, dNoPart, dIAny, dI1, dI2, dI3, dFor, dComp, compB, wipeD, startD, endsOf, at_mk, setAll, add_int, sub_int, mul_int, mul_tup, pow_int, mod_int, fdiv_int, lt_int, le_int, gt_int, ge_int, eq_int, neg_int, len_tup, len_scr, abs_int, max_int, min_int, int_int, int_bl, r1_int, r2_int, tuple_tup, list_tup, over_tup, rev_tup, enum_tup, zip_tup, slc_tup, add_tup, isi_any, ix_tup, ix_scr, ix_num0, ix_num1, len_num, num_0, num_1, atI_0, atI_1, atI_2, List.map, List.cons_append, List.nil_append, List.getElem?_cons_zero, List.getElem?_cons_succ, List.getElem?_nil, List.set_cons_zero, List.set_cons_succ, List.replicate, List.length_cons, List.length_nil, List.foldr_cons, List.foldr_nil, Nat.reduceAdd, Nat.reduceSub, List.replicate_succ, List.replicate_zero, G_up_same, decide_eq_true_eq, Bool.not_eq_true', Bool.false_eq_true, if_true, if_false, ite_true, ite_false, and_true, true_and, reduceCtorEq, Bool.not_true, Bool.not_false, Bool.false_bne, Bool.true_bne, sl0, sl1, sl2, sl3, sl4]
    refine c_scaled (prSz k b) (2 ^ k * c) hps hss (by omega) (by omega) fun r hr hrl hrs hre => ?_
    refine c_two (bsSz k b c) (prSz k b + 2 ^ k * c) hfs hrs (by omega) (by omega) (show bsSz k b c + (prSz k b + 2 ^ k * c) + 1 ≤ 49000000 by omega) (by omega) (by omega) fun u hu hul hus hue => ?_
    have hul : u.length ≤ max f.length r.length := hul
    have hus : Szs (bsSz k b c + (prSz k b + 2 ^ k * c) + 1) u := hus
    simp only [mnS, mn, Mn.of, Op.rd, Cm.rd, Bl.rd, Mt.rd, Mt.rc, dNop, dSeq, dExpr, dRet, dRetN, dIf, gD, dAsg, dPar, dPut, dRaise, dVar, dC, dBin, dUn, dNil, dCons, dTup, dLst, dTst, dAndT, dOrT, dNotT, dYes, dAnd, dOr, dNot, dChain, dCall, dCB, dMt, dLset, dSrev, dTry, dIsx, dEmp, dStp, xsub, Ex.sub, dSlc, dPart, dNoPart, dIAny, dI1, dI2, dI3, dFor, dComp, compB, wipeD, startD, endsOf, at_mk, setAll, add_int, sub_int, mul_int, mul_tup, pow_int, mod_int, fdiv_int, lt_int, le_int, gt_int, ge_int, eq_int, neg_int, len_tup, len_scr, abs_int, max_int, min_int, int_int, int_bl, r1_int, r2_int, tuple_tup, list_tup, over_tup, rev_tup, enum_tup, zip_tup, slc_tup, add_tup, isi_any, ix_tup, ix_scr, ix_num0, ix_num1, len_num, num_0, num_1, atI_0, atI_1, atI_2, List.map, List.cons_append, List.nil_append, List.getElem?_cons_zero, List.getElem?_cons_succ, List.getElem?_nil, List.set_cons_zero, List.set_cons_succ, List.replicate, List.length_cons, List.length_nil, List.foldr_cons, List.foldr_nil, Nat.reduceAdd, Nat.reduceSub, List.replicate_succ, List.replicate_zero, G_up_same, decide_eq_true_eq, Bool.not_eq_true', Bool.false_eq_true, if_true, if_false, ite_true, ite_false, and_true, true_and, reduceCtorEq, Bool.not_true, Bool.not_false, Bool.false_bne, Bool.true_bne, sl0, sl1, sl2, sl3, sl4, c_bin]
    have hneg : sz (0 - kn) ≤ b := by rw [show (0 : Rat) - kn = -kn by grind, sz_neg]; exact hsk
    refine ⟨by rw [sz_0]; omega, ?_⟩
    intro t ht
    refine c_curveOf (qs := [0 - kn, 1]) G_up_same ?_
    have hline : Szs b (trim [0 - kn, 1]) := Szs.trim fun q hq => by
      rcases List.mem_cons.mp hq with rfl | hq
      · exact hneg
      · rw [List.mem_singleton.mp hq, sz_1]; exact hb
    have hll : (trim [0 - kn, 1]).length ≤ 2 := trim_len _
    have hmm : min p.length (trim [0 - kn, 1]).length * (prSz k b + b + 1) ≤ 2 * (prSz k b + b + 1) := Nat.mul_le_mul_right _ (by omega)
    refine c_two (prSz k b) b hps hline e3 hb (show min p.length (trim [0 - kn, 1]).length * (prSz k b + b + 1) + 1 ≤ 49000000 by omega) (by omega) (by omega) fun w hw hwl hws hwe => ?_
    have hwl : w.length ≤ p.length + (trim [0 - kn, 1]).length - 1 := hwl
    have hws : Szs (min p.length (trim [0 - kn, 1]).length * (prSz k b + b + 1) + 1) w := hws
    refine hN _ _ ⟨u, w, _, _, rfl, G.le_trans l (G.le_new ht), hk3, hu, by omega, hus.mono (by omega), by omega, hws.mono (by omega), fun x => ?_⟩
    have := hev x
    rw [nwt_drop hkn hst] at this
    rw [hue, hre, hwe, ev_trim, ev_cons, ev_cons, ev_nil]
    grind
  · rintro env g' ⟨f, p, o4, o5, rfl, l, hkl, hft, hfl, hfs, hpl, hps, hev⟩
    try simp only [mnS, mn, Mn.of, Op.rd, Cm.rd, Bl.rd, Mt.rd, Mt.rc, dNop, dSeq, dExpr, dRet, dRetN, dIf, gD, dAsg, dPar, dPut, dRaise, dVar, dC, dBin, dUn, dNil, dCons, dTup, dLst, dTst, dAndT, dOrT, dNotT, dYes, dAnd, dOr, dNot, dChain, dCall, dCB, dMt, dLset, dSrev, dTry, dIsx, dEmp, dStp, xsub, Ex.sub, dSlc, dPart, dNoPart, dIAny, dI1, dI2, dI3, dFor, dComp, compB, wipeD, startD, endsOf, at_mk, setAll, add_int, sub_int, mul_int, mul_tup, pow_int, mod_int, fdiv_int, lt_int, le_int, gt_int, ge_int, eq_int, neg_int, len_tup, len_scr, abs_int, max_int, min_int, int_int, int_bl, r1_int, r2_int, tuple_tup, list_tup, over_tup, rev_tup, enum_tup, zip_tup, slc_tup, add_tup, isi_any, ix_tup, ix_scr, ix_num0, ix_num1, len_num, num_0, num_1, atI_0, atI_1, atI_2, List.map, List.cons_append, List.nil_append, List.getElem?_cons_zero, List.getElem?_cons_succ, List.getElem?_nil, List.set_cons_zero, List.set_cons_succ, List.replicate, List.length_cons, List.length_nil, List.foldr_cons, List.foldr_nil, Nat.reduceAdd, Nat.reduceSub, List.replicate_succ, List.replicate_zero, G_up_same, decide_eq_true_eq, Bool.not_eq_true', Bool.false_eq_true, if_true, if_false, ite_true, ite_false, and_true, true_and, reduceCtorEq, Bool.not_true, Bool.not_false, Bool.false_bne, Bool.true_bne, sl0, sl1, sl2, sl3, sl4]
    rw [zip_len] at *
    refine ⟨g, l, h f hft (by omega) (hfs.mono (bsSz_mono hkl)) fun x => ?_⟩
    rw [← hev x]
    have hz : nwt (ks.drop (min ks.length ss.length)) (ss.drop (min ks.length ss.length)) x = 0 := by
      rcases Nat.le_total ss.length ks.length with z | z
      · rw [Nat.min_eq_right z]; exact nwt_end (Nat.le_refl _) x
      · rw [Nat.min_eq_left z, List.drop_eq_nil_of_le (Nat.le_refl _)]
        cases ss.drop ks.length <;> rfl
    rw [hz]
    grind
end
end PP
namespace PP
open PySem PySem.Spec PyProof.Rows L2
def sx_law_places : SX :=
  (.asg (.n 2) (.lst .nil)
  (.for_ (.n 3) (.range1 (.v 1))
    (.asg (.n 4) (.call 36 (.cons (.v 0) .nil))
    (.whl (.cmp .in_ (.v 4) (.v 2))
      (.asg (.n 4) (.call 25 (.cons (.v 4) (.cons (.tup (.cons (.int 1) (.cons (.int 1) .nil))) .nil))) .nil)
    (.expr (.mt .append (.v 2) (.cons (.v 4) .nil)) .nil)))
  (.ret (.v 2) .nil)))
abbrev ns_law_places : List Str := ["_law_pen_here", "_law_many", "_law_found", "_law_k", "_law_x"]
theorem mem_npys {q : Rat} {qs : List Rat} : memPy (npy q) (npys qs) = decide (q ∈ qs) := by
  unfold memPy npys
  rw [List.any_map]
  by_cases h : q ∈ qs
  · rw [decide_eq_true h, List.any_eq_true]
    exact ⟨q, h, (eqv_eq _ _ (nice_num q).plain (nice_num q).plain).mpr rfl⟩
  · rw [decide_eq_false h, Bool.eq_false_iff]
    intro z
    obtain ⟨y, hy, e⟩ := List.any_eq_true.mp z
    exact h (npy_inj ((eqv_eq _ _ (nice_num y).plain (nice_num q).plain).mp e) ▸ hy)
theorem in_nums {n : Bool} {a : Addr} {q : Rat} {qs : List Rat} {g : G} {Q : QD} (h : g a = some (nums qs)) : dIn n (num q) (.ref a) g Q = Q (.bl (n != decide (q ∈ qs))) g := by
  unfold dIn num
  simp only [show py g (.tup [.int q.num, .int q.den]) = some (npy q) from rfl, pyN_list h, mem_npys]
  rw [(nice_num q).shaped (by decide), (nice_list (nice_nums qs)).shaped (by decide)]
  simp
theorem above_lt {x : Rat} {qs : List Rat} (h : x ∈ qs) : (qs.filter fun y => decide (x + 1 ≤ y)).length < (qs.filter fun y => decide (x ≤ y)).length := by
  have mono : ∀ qs : List Rat, (qs.filter fun y => decide (x + 1 ≤ y)).length ≤ (qs.filter fun y => decide (x ≤ y)).length := by
    intro qs
    induction qs with
    | nil => exact Nat.le_refl _
    | cons y qs ih =>
      rw [List.filter_cons, List.filter_cons]
      by_cases h1 : x + 1 ≤ y
      · have h2 : x ≤ y := by grind
        rw [if_pos (decide_eq_true h1), if_pos (decide_eq_true h2)]
        simpa using ih
      · rw [if_neg (by simpa using h1)]
        split
        · rw [List.length_cons]; omega
        · exact ih
  induction qs with
  | nil => cases h
  | cons y qs ih =>
    rw [List.filter_cons, List.filter_cons]
    rcases List.mem_cons.mp h with rfl | h
    · rw [if_neg (by simp; grind), if_pos (by simp), List.length_cons]
      have := mono qs
      omega
    · have := ih h
      by_cases h1 : x + 1 ≤ y
      · have h2 : x ≤ y := by grind
        rw [if_pos (decide_eq_true h1), if_pos (decide_eq_true h2)]
        simpa using this
      · rw [if_neg (by simpa using h1)]
        split
        · rw [List.length_cons]; omega
        · exact this
theorem sz_addn {x : Rat} {b j : Nat} (h : sz x ≤ b) (hj : j ≤ 31) : sz (x + (j : Rat)) ≤ b + 6 := by
  have e : Rat.divInt (x.num + j * x.den) x.den = x + (j : Rat) := by
    have := add_parts x (j : Rat)
    rw [Rat.num_natCast, Rat.den_natCast] at this
    simpa using this
  rw [← e]
  have hn := sz_num x
  have hd := sz_den x
  have hp : 2 ^ sz x ≤ 2 ^ b := Nat.pow_le_pow_right (by decide) h
  refine sz_divInt ?_ ?_ ?_
  · have h3 := Int.natAbs_add_le x.num (j * x.den)
    rw [Int.natAbs_mul, Int.natAbs_natCast, Int.natAbs_natCast] at h3
    have h4 : j * x.den ≤ 31 * x.den := Nat.mul_le_mul_right _ hj
    rw [Nat.pow_add]
    omega
  · rw [Int.natAbs_natCast, Nat.pow_add]
    omega
  · have := x.den_nz; omega
section
variable {Γ : Nat → SpD} {gl : Nat → D} {ds : List D} {g : G} {Q : QD} {E X : XD}
def spPlaces (b c : Nat) : SpD := fun ds g Q _ => ∃ (a : Addr) (xs : List D) (n m : Nat), ds = [.ref a, .int (m : Int)] ∧ m ≤ 30 ∧ g a = some xs ∧ PenL xs n ∧ n + c * m < 2 ^ 50 ∧
  ∀ p ks xs', g p = none → ks.Nodup → ks.length = m → Szs b ks → PenL xs' (n + c * m) → Q (.ref p) ((g.up a xs').up p (nums ks))
theorem K_places {b c : Nat} {o : G} {a : Addr} {xs : List D} {n : Nat} {L : List (Addr × List D)} {i : Int} (m : Nat) (hi : i = (m : Int)) (K : KN o a g ((a, xs) :: L)) (hm : m ≤ 30) (hp : PenL xs n) (hn : n + c * m < 2 ^ 50)
    (k : ∀ p ks xs' g', ks.Nodup → ks.length = m → Szs b ks → PenL xs' (n + c * m) → KN o a g' ((a, xs') :: (L ++ [(p, nums ks)])) → Q (.ref p) g') : spPlaces b c [.ref a, .int i] g Q X :=
  ⟨a, xs, n, m, by rw [hi], hm, K.get 0 _ _ rfl, hp, hn, fun p ks xs' hp0 h1 h2 h3 h4 => k p ks xs' _ h1 h2 h3 h4 (by
    have K' : KN o a (g.up a xs') ((a, xs') :: L) := K.put 0 rfl
    have hpa : p ≠ a := fun z => by rw [z, K.get 0 _ _ rfl] at hp0; cases hp0
    exact K_new K' (by rw [G_up_ne hpa]; exact hp0))⟩
theorem pure_law_places (h25 : Γ 25 = spPlus) (h36 : Γ 36 = spPenFn (isNumD 16) 4) (h : spPlaces 22 4 ds g Q E) : mnS Γ gl sx_law_places (endsOf Q E) (startD ns_law_places ds) g := by
  obtain ⟨a, xs, n, m, rfl, hm, ha, hp, hn, h⟩ := h
  have K : KN g a g [(a, xs)] := KN.start ha
  simp only [sx_law_places, h25, h36, mnS, mn, Mn.of, Op.rd, Cm.rd, Bl.rd, Mt.rd, Mt.rc, dNop, dSeq, dExpr, dRet, dRetN, dIf, gD, dAsg, dPar, dPut, dRaise, dVar, dC, dBin, dUn, dNil, dCons, dTup, dLst, dTst, dAndT, dOrT, dNotT, dYes, dAnd, dOr, dNot, dChain, dCall, dCB, dMt, dLset, dSrev, dTry, dIsx, dEmp, dStp, xsub, Ex.sub, dSlc, dPart, dNoPart, dIAny, dI1, dI2, dI3, dFor, dComp, compB, wipeD, startD, endsOf, at_mk, setAll, add_int, sub_int, mul_int, mul_tup, pow_int, mod_int, fdiv_int, lt_int, le_int, gt_int, ge_int, eq_int, neg_int, len_tup, len_scr, abs_int, max_int, min_int, int_int, int_bl, r1_int, r2_int, tuple_tup, list_tup, over_tup, rev_tup, enum_tup, zip_tup, slc_tup, add_tup, isi_any, ix_tup, ix_scr, ix_num0, ix_num1, len_num, num_0, num_1, atI_0, atI_1, atI_2, List.map, List.cons_append, List.nil_append, List.getElem?_cons_zero, List.getElem?_cons_succ, List.getElem?_nil, List.set_cons_zero, List.set_cons_succ, List.replicate, List.length_cons, List.length_nil, List.foldr_cons, List.foldr_nil, Nat.reduceAdd, Nat.reduceSub, List.replicate_succ, List.replicate_zero, G_up_same, decide_eq_true_eq, Bool.not_eq_true', Bool.false_eq_true, if_true, if_false, ite_true, ite_false, and_true, true_and, reduceCtorEq, Bool.not_true, Bool.not_false, Bool.false_bne, Bool.true_bne, sl0, sl1, sl2, sl3, sl4]
  intro p hp0
  have K := K_new (ys := nums []) K hp0
  refine ⟨by omega, for_inv (fun k env g' => ∃ o3 o4 ks xs', env = [some (.ref a), some (.int (m : Int)), some (.ref p), o3, o4] ∧ ks.Nodup ∧ ks.length = k ∧ k ≤ m ∧ Szs 22 ks ∧ PenL xs' (n + 4 * k) ∧ KN g a g' [(a, xs'), (p, nums ks)]) (fun _ _ _ _ => trivial) ?_ ?_ ⟨none, none, [], xs, rfl, List.nodup_nil, rfl, Nat.zero_le _, .nil, hp, K⟩⟩
  · rintro k x env g' N hk ⟨o3, o4, ks, xs', rfl, hnd, hlk, hkm, hks, hp, K⟩ hN
    obtain ⟨hk1, rfl⟩ := range_at hk
    have hk1 : k < m := by omega
    try simp only [mnS, mn, Mn.of, Op.rd, Cm.rd, Bl.rd, Mt.rd, Mt.rc, dNop, dSeq, dExpr, dRet, dRetN, dIf, gD, dAsg, dPar, dPut, dRaise, dVar, dC, dBin, dUn, dNil, dCons, dTup, dLst, dTst, dAndT, dOrT, dNotT, dYes, dAnd, dOr, dNot, dChain, dCall, dCB, dMt, dLset, dSrev, dTry, dIsx, dEmp, dStp, xsub, Ex.sub, dSlc, dPart, dNoPart, dIAny, dI1, dI2, dI3, dFor, dComp, compB, wipeD, startD, endsOf, at_mk, setAll, add_int, sub_int, mul_int, mul_tup, pow_int, mod_int, fdiv_int, lt_int, le_int, gt_int, ge_int, eq_int, neg_int, len_tup, len_scr, abs_int, max_int, min_int, int_int, int_bl, r1_int, r2_int, tuple_tup, list_tup, over_tup, rev_tup, enum_tup, zip_tup, slc_tup, add_tup, isi_any, ix_tup, ix_scr, ix_num0, ix_num1, len_num, num_0, num_1, atI_0, atI_1, atI_2, List.map, List.cons_append, List.nil_append, List.getElem?_cons_zero, List.getElem?_cons_succ, List.getElem?_nil, List.set_cons_zero, List.set_cons_succ, List.replicate, List.length_cons, List.length_nil, List.foldr_cons, List.foldr_nil, Nat.reduceAdd, Nat.reduceSub, List.replicate_succ, List.replicate_zero, G_up_same, decide_eq_true_eq, Bool.not_eq_true', Bool.false_eq_true, if_true, if_false, ite_true, ite_false, and_true, true_and, reduceCtorEq, Bool.not_true, Bool.not_false, Bool.false_bne, Bool.true_bne, sl0, sl1, sl2, sl3, sl4]
    refine K_pen K hp (by omega) fun d xs1 g1 hd p1 K => ?_
    obtain ⟨q, rfl, hq⟩ := hd
    try simp only [mnS, mn, Mn.of, Op.rd, Cm.rd, Bl.rd, Mt.rd, Mt.rc, dNop, dSeq, dExpr, dRet, dRetN, dIf, gD, dAsg, dPar, dPut, dRaise, dVar, dC, dBin, dUn, dNil, dCons, dTup, dLst, dTst, dAndT, dOrT, dNotT, dYes, dAnd, dOr, dNot, dChain, dCall, dCB, dMt, dLset, dSrev, dTry, dIsx, dEmp, dStp, xsub, Ex.sub, dSlc, dPart, dNoPart, dIAny, dI1, dI2, dI3, dFor, dComp, compB, wipeD, startD, endsOf, at_mk, setAll, add_int, sub_int, mul_int, mul_tup, pow_int, mod_int, fdiv_int, lt_int, le_int, gt_int, ge_int, eq_int, neg_int, len_tup, len_scr, abs_int, max_int, min_int, int_int, int_bl, r1_int, r2_int, tuple_tup, list_tup, over_tup, rev_tup, enum_tup, zip_tup, slc_tup, add_tup, isi_any, ix_tup, ix_scr, ix_num0, ix_num1, len_num, num_0, num_1, atI_0, atI_1, atI_2, List.map, List.cons_append, List.nil_append, List.getElem?_cons_zero, List.getElem?_cons_succ, List.getElem?_nil, List.set_cons_zero, List.set_cons_succ, List.replicate, List.length_cons, List.length_nil, List.foldr_cons, List.foldr_nil, Nat.reduceAdd, Nat.reduceSub, List.replicate_succ, List.replicate_zero, G_up_same, decide_eq_true_eq, Bool.not_eq_true', Bool.false_eq_true, if_true, if_false, ite_true, ite_false, and_true, true_and, reduceCtorEq, Bool.not_true, Bool.not_false, Bool.false_bne, Bool.true_bne, sl0, sl1, sl2, sl3, sl4]
    refine ⟨fun r env g'' => g'' = g1 ∧ ∃ j y, env = [some (.ref a), some (.int (m : Int)), some (.ref p), some (.int (0 + (k : Nat) : Int)), some (num y)] ∧ y = q + ((j : Nat) : Rat) ∧ r = (ks.filter fun z => decide (y ≤ z)).length ∧ j + r ≤ ks.length, ⟨_, rfl, 0, q, rfl, by rw [show ((0 : Nat) : Rat) = 0 from rfl]; grind, rfl, by simpa using List.length_filter_le _ _⟩, ?_⟩
    rintro r env g'' ⟨rfl, j, y, rfl, hy, rfl, hj⟩
    simp only [mnS, mn, Mn.of, Op.rd, Cm.rd, Bl.rd, Mt.rd, Mt.rc, dNop, dSeq, dExpr, dRet, dRetN, dIf, gD, dAsg, dPar, dPut, dRaise, dVar, dC, dBin, dUn, dNil, dCons, dTup, dLst, dTst, dAndT, dOrT, dNotT, dYes, dAnd, dOr, dNot, dChain, dCall, dCB, dMt, dLset, dSrev, dTry, dIsx, dEmp, dStp, xsub, Ex.sub, dSlc, dPart, dNoPart, dIAny, dI1, dI2, dI3, dFor, dComp, compB, wipeD, startD, endsOf, at_mk, setAll, add_int, sub_int, mul_int, mul_tup, pow_int, mod_int, fdiv_int, lt_int, le_int, gt_int, ge_int, eq_int, neg_int, len_tup, len_scr, abs_int, max_int, min_int, int_int, int_bl, r1_int, r2_int, tuple_tup, list_tup, over_tup, rev_tup, enum_tup, zip_tup, slc_tup, add_tup, isi_any, ix_tup, ix_scr, ix_num0, ix_num1, len_num, num_0, num_1, atI_0, atI_1, atI_2, List.map, List.cons_append, List.nil_append, List.getElem?_cons_zero, List.getElem?_cons_succ, List.getElem?_nil, List.set_cons_zero, List.set_cons_succ, List.replicate, List.length_cons, List.length_nil, List.foldr_cons, List.foldr_nil, Nat.reduceAdd, Nat.reduceSub, List.replicate_succ, List.replicate_zero, G_up_same, decide_eq_true_eq, Bool.not_eq_true', Bool.false_eq_true, if_true, if_false, ite_true, ite_false, and_true, true_and, reduceCtorEq, Bool.not_true, Bool.not_false, Bool.false_bne, Bool.true_bne, sl0, sl1, sl2, sl3, sl4, in_nums (K.get 1 _ _ rfl)]
    split
    · rename_i hin
      have hin : y ∈ ks := by simpa using hin
      have hlt := above_lt hin
      have hsy : sz y ≤ 22 := hks y hin
      simp only [c_bin]
      refine ⟨by rw [sz_1]; omega, _, hlt, trivial, j + 1, y + 1, rfl, ?_, rfl, by omega⟩
      rw [hy, Rat.natCast_add]
      grind
    · rename_i hin
      have hin : y ∉ ks := by simpa using hin
      simp only [rc_ref, K.get 1 _ _ rfl, Option.isSome_some, app_ref (K.get 1 _ _ rfl), true_and]
      refine ⟨slLt (by rw [nums_len]; omega), ?_⟩
      rw [nums_snoc]
      refine hN _ _ ⟨_, _, ks ++ [y], xs1, rfl, ?_, by simp [hlk], hk1, fun z hz => ?_, p1.mono (by omega), K.put 1 rfl⟩
      · rw [List.nodup_append]
        exact ⟨hnd, by simp, fun b hb c hc e => by simp at hc; rw [e, hc] at hb; exact hin hb⟩
      · rcases List.mem_append.mp hz with hz | hz
        · exact hks z hz
        · rw [List.mem_singleton.mp hz, hy]
          exact sz_addn hq (by omega)
  · rintro env g' ⟨o3, o4, ks, xs', rfl, hnd, hlk, hkm, hks, hp, K⟩
    rw [range_len] at hlk hp
    try simp only [mnS, mn, Mn.of, Op.rd, Cm.rd, Bl.rd, Mt.rd, Mt.rc, dNop, dSeq, dExpr, dRet, dRetN, dIf, gD, dAsg, dPar, dPut, dRaise, dVar, dC, dBin, dUn, dNil, dCons, dTup, dLst, dTst, dAndT, dOrT, dNotT, dYes, dAnd, dOr, dNot, dChain, dCall, dCB, dMt, dLset, dSrev, dTry, dIsx, dEmp, dStp, xsub, Ex.sub, dSlc, dPart, dNoPart, dIAny, dI1, dI2, dI3, dFor, dComp, compB, wipeD, startD, endsOf, at_mk, setAll, add_int, sub_int, mul_int, mul_tup, pow_int, mod_int, fdiv_int, lt_int, le_int, gt_int, ge_int, eq_int, neg_int, len_tup, len_scr, abs_int, max_int, min_int, int_int, int_bl, r1_int, r2_int, tuple_tup, list_tup, over_tup, rev_tup, enum_tup, zip_tup, slc_tup, add_tup, isi_any, ix_tup, ix_scr, ix_num0, ix_num1, len_num, num_0, num_1, atI_0, atI_1, atI_2, List.map, List.cons_append, List.nil_append, List.getElem?_cons_zero, List.getElem?_cons_succ, List.getElem?_nil, List.set_cons_zero, List.set_cons_succ, List.replicate, List.length_cons, List.length_nil, List.foldr_cons, List.foldr_nil, Nat.reduceAdd, Nat.reduceSub, List.replicate_succ, List.replicate_zero, G_up_same, decide_eq_true_eq, Bool.not_eq_true', Bool.false_eq_true, if_true, if_false, ite_true, ite_false, and_true, true_and, reduceCtorEq, Bool.not_true, Bool.not_false, Bool.false_bne, Bool.true_bne, sl0, sl1, sl2, sl3, sl4]
    exact ⟨_, K.fin1 0 1 rfl rfl, h _ _ _ hp0 hnd (by omega) hks (hp.mono (by omega))⟩
end
structure Pt where
  x : Rat
  h : Rat
  s : Option Rat
def pnt (p : Pt) : D := match p.s with
  | none => .tup [num p.x, num p.h]
  | some s => .tup [num p.x, num p.h, num s]
def Pt.w (p : Pt) : Nat := match p.s with
  | none => 1
  | some _ => 2
def toldN : List Pt → Nat
  | [] => 0
  | p :: ps => p.w + toldN ps
theorem toldN_len (ps : List Pt) : ps.length ≤ toldN ps := by
  induction ps with
  | nil => exact Nat.le_refl _
  | cons q ps ih =>
    have : 1 ≤ q.w := by unfold Pt.w; split <;> omega
    rw [toldN, List.length_cons]; omega
def PtSz (b : Nat) (ps : List Pt) : Prop := ∀ p ∈ ps, sz p.x ≤ b ∧ sz p.h ≤ b ∧ ∀ s, p.s = some s → sz s ≤ b
theorem PtSz.snoc {b : Nat} {ps : List Pt} {p : Pt} (h : PtSz b ps) (hx : sz p.x ≤ b) (hh : sz p.h ≤ b) (hs : ∀ s, p.s = some s → sz s ≤ b) : PtSz b (ps ++ [p]) := fun q hq => by
  rcases List.mem_append.mp hq with hq | hq
  · exact h q hq
  · rw [List.mem_singleton.mp hq]; exact ⟨hx, hh, hs⟩
def pnts (ps : List Pt) : List D := ps.map pnt
theorem pnts_len (ps : List Pt) : (pnts ps).length = ps.length := List.length_map ..
theorem pnts_at {ps : List Pt} {k : Nat} {d : D} (h : (pnts ps)[k]? = some d) : ∃ p, ps[k]? = some p ∧ d = pnt p := by
  unfold pnts at h
  rw [List.getElem?_map] at h
  cases q : ps[k]? with
  | none => rw [q] at h; cases h
  | some j => rw [q] at h; cases h; exact ⟨j, rfl, rfl⟩
end PP
namespace PP
open PySem PySem.Spec PyProof.Rows L2
def sx_told_in : SX :=
  (.asg (.n 1) (.lst .nil)
  (.for_ (.n 2) (.over (.v 0))
    (.for_ (.t [3, 4]) (.enum (.slc (.v 2) (.int 1) .hole))
      (.expr (.mt .append (.v 1) (.cons (.tup (.cons (.ix (.v 2) (.int 0)) (.cons (.v 3) (.cons (.v 4) .nil)))) .nil)) .nil) .nil)
  (.ret (.v 1) .nil)))
abbrev ns_told_in : List Str := ["points", "found", "point", "k", "number"]
abbrev Told : Type := Rat × Nat × Rat
def tellP (p : Pt) : List Told := match p.s with
  | none => [(p.x, 0, p.h)]
  | some s => [(p.x, 0, p.h), (p.x, 1, s)]
def tells : List Pt → List Told
  | [] => []
  | p :: ps => tellP p ++ tells ps
theorem tells_snoc (ps : List Pt) (p : Pt) : tells (ps ++ [p]) = tells ps ++ tellP p := by
  induction ps with
  | nil => simp [tells]
  | cons q ps ih => rw [List.cons_append, tells, tells, ih, List.append_assoc]
theorem tellP_len (p : Pt) : (tellP p).length = p.w := by obtain ⟨x, h, s⟩ := p; cases s <;> rfl
theorem tells_len (ps : List Pt) : (tells ps).length = toldN ps := by
  induction ps with
  | nil => rfl
  | cons q ps ih => rw [tells, List.length_append, ih, tellP_len, toldN]
theorem toldN_take (ps : List Pt) (k : Nat) : toldN (ps.take k) ≤ toldN ps := by
  induction ps generalizing k with
  | nil => simp
  | cons q ps ih =>
    cases k with
    | zero => simp [toldN]
    | succ k => rw [List.take_succ_cons, toldN, toldN]; have := ih k; omega
def tld (t : Told) : D := .tup [num t.1, .int (t.2.1 : Int), num t.2.2]
def tlds (ts : List Told) : List D := ts.map tld
theorem tlds_len (ts : List Told) : (tlds ts).length = ts.length := List.length_map ..
theorem tlds_app (ts us : List Told) : tlds ts ++ tlds us = tlds (ts ++ us) := by simp [tlds]
theorem tlds_at {ts : List Told} {k : Nat} {d : D} (h : (tlds ts)[k]? = some d) : ∃ t, ts[k]? = some t ∧ d = tld t := by
  unfold tlds at h
  rw [List.getElem?_map] at h
  cases q : ts[k]? with
  | none => rw [q] at h; cases h
  | some j => rw [q] at h; cases h; exact ⟨j, rfl, rfl⟩
theorem SeqD.lea {g g' : G} {a : Addr} {d : D} {xs : List D} (h : SeqD g d xs) (l : G.lea a g g') (ha : g a = none) : SeqD g' d xs := by
  rcases h with rfl | ⟨b, rfl, h⟩
  · exact .tup
  · exact .ref (l b xs (fun e => by rw [e, ha] at h; cases h) h)
theorem over_seq' {g : G} {d : D} {xs : List D} {R : List D → (G → Prop) → G → Prop} (h : SeqD g d xs) (k : ∀ stay : G → Prop, (∀ g', SeqD g' d xs → stay g') → R xs stay g) : dOver d g R := by
  rcases h with rfl | ⟨a, rfl, h⟩
  · exact k _ fun _ _ => trivial
  · rw [over_ref h]
    refine k _ fun g' s => ?_
    rcases s with e | ⟨b, e, s⟩
    · cases e
    · cases e; exact s
theorem cut_2 {a b : D} : cut [a, b] (some 1) none = [b] := rfl
theorem cut_3 {a b c : D} : cut [a, b, c] (some 1) none = [b, c] := rfl
theorem enumD_1 {a : D} : enumD [a] = [.tup [.int 0, a]] := rfl
theorem enumD_2 {a b : D} : enumD [a, b] = [.tup [.int 0, a], .tup [.int 1, b]] := rfl
section
variable {Γ : Nat → SpD} {gl : Nat → D} {ds : List D} {g : G} {Q : QD} {E X : XD}
def spTold : SpD := fun ds g Q _ => ∃ d ps, ds = [d] ∧ SeqD g d (pnts ps) ∧ toldN ps ≤ 100 ∧ ∀ p, g p = none → Q (.ref p) (g.up p (tlds (tells ps)))
theorem c_told {d : D} {ps : List Pt} (h : SeqD g d (pnts ps)) (hl : toldN ps ≤ 100) (k : ∀ p, g p = none → Q (.ref p) (g.up p (tlds (tells ps)))) : spTold [d] g Q X := ⟨d, ps, rfl, h, hl, k⟩
theorem pure_told_in (h : spTold ds g Q E) : mnS Γ gl sx_told_in (endsOf Q E) (startD ns_told_in ds) g := by
  obtain ⟨d, ps, rfl, hd, hl, h⟩ := h
  simp only [sx_told_in, mnS, mn, Mn.of, Op.rd, Cm.rd, Bl.rd, Mt.rd, Mt.rc, dNop, dSeq, dExpr, dRet, dRetN, dIf, gD, dAsg, dPar, dPut, dRaise, dVar, dC, dBin, dUn, dNil, dCons, dTup, dLst, dTst, dAndT, dOrT, dNotT, dYes, dAnd, dOr, dNot, dChain, dCall, dCB, dMt, dLset, dSrev, dTry, dIsx, dEmp, dStp, xsub, Ex.sub, dSlc, dPart, dNoPart, dIAny, dI1, dI2, dI3, dFor, dComp, compB, wipeD, startD, endsOf, at_mk, setAll, add_int, sub_int, mul_int, mul_tup, pow_int, mod_int, fdiv_int, lt_int, le_int, gt_int, ge_int, eq_int, neg_int, len_tup, len_scr, abs_int, max_int, min_int, int_int, int_bl, r1_int, r2_int, tuple_tup, list_tup, over_tup, rev_tup, enum_tup, zip_tup, slc_tup, add_tup, isi_any, ix_tup, ix_scr, ix_num0, ix_num1, len_num, num_0, num_1, atI_0, atI_1, atI_2, List.map, List.cons_append, List.nil_append, List.getElem?_cons_zero, List.getElem?_cons_succ, List.getElem?_nil, List.set_cons_zero, List.set_cons_succ, List.replicate, List.length_cons, List.length_nil, List.foldr_cons, List.foldr_nil, Nat.reduceAdd, Nat.reduceSub, List.replicate_succ, List.replicate_zero, G_up_same, decide_eq_true_eq, Bool.not_eq_true', Bool.false_eq_true, if_true, if_false, ite_true, ite_false, and_true, true_and, reduceCtorEq, Bool.not_true, Bool.not_false, Bool.false_bne, Bool.true_bne, sl0, sl1, sl2, sl3, sl4]
  intro p hp
  have K : KN g p (g.up p (tlds [])) [(p, tlds [])] := KN.start' hp
  refine over_seq' (hd.lea K.lea hp) fun stay hst => ?_
  refine for_inv (fun k env g' => ∃ o2 o3 o4, env = [some d, some (.ref p), o2, o3, o4] ∧ k ≤ ps.length ∧ KN g p g' [(p, tlds (tells (ps.take k)))]) (fun k env g' e => by
    obtain ⟨_, _, _, _, _, K⟩ := e
    exact hst _ (hd.lea K.lea hp)) ?_ ?_ ⟨none, none, none, rfl, Nat.zero_le _, K⟩
  · rintro k x env g' N hk ⟨o2, o3, o4, rfl, hkl, K⟩ hN
    obtain ⟨pt, hpt, rfl⟩ := pnts_at hk
    have hlt := lt_of_at hpt
    have htk : ps.take (k + 1) = ps.take k ++ [pt] := by
      rw [List.take_succ_eq_append_getElem hlt]
      rw [List.getElem?_eq_getElem hlt] at hpt
      cases hpt
      rfl
    have hlen : (tlds (tells (ps.take k))).length ≤ 100 := by
      rw [tlds_len, tells_len]; exact Nat.le_trans (toldN_take ps k) hl
    obtain ⟨px, ph, pss⟩ := pt
    cases pss with
    | none =>
      simp only [pnt, mnS, mn, Mn.of, Op.rd, Cm.rd, Bl.rd, Mt.rd, Mt.rc, dNop, dSeq, dExpr, dRet, dRetN, dIf, gD, dAsg, dPar, dPut, dRaise, dVar, dC, dBin, dUn, dNil, dCons, dTup, dLst, dTst, dAndT, dOrT, dNotT, dYes, dAnd, dOr, dNot, dChain, dCall, dCB, dMt, dLset, dSrev, dTry, dIsx, dEmp, dStp, xsub, Ex.sub, dSlc, dPart, dNoPart, dIAny, dI1, dI2, dI3, dFor, dComp, compB, wipeD, startD, endsOf, at_mk, setAll, add_int, sub_int, mul_int, mul_tup, pow_int, mod_int, fdiv_int, lt_int, le_int, gt_int, ge_int, eq_int, neg_int, len_tup, len_scr, abs_int, max_int, min_int, int_int, int_bl, r1_int, r2_int, tuple_tup, list_tup, over_tup, rev_tup, enum_tup, zip_tup, slc_tup, add_tup, isi_any, ix_tup, ix_scr, ix_num0, ix_num1, len_num, num_0, num_1, atI_0, atI_1, atI_2, List.map, List.cons_append, List.nil_append, List.getElem?_cons_zero, List.getElem?_cons_succ, List.getElem?_nil, List.set_cons_zero, List.set_cons_succ, List.replicate, List.length_cons, List.length_nil, List.foldr_cons, List.foldr_nil, Nat.reduceAdd, Nat.reduceSub, List.replicate_succ, List.replicate_zero, G_up_same, decide_eq_true_eq, Bool.not_eq_true', Bool.false_eq_true, if_true, if_false, ite_true, ite_false, and_true, true_and, reduceCtorEq, Bool.not_true, Bool.not_false, Bool.false_bne, Bool.true_bne, sl0, sl1, sl2, sl3, sl4, cut_2, enumD_1, forD, rc_ref, K.get 0 _ _ rfl, Option.isSome_some, app_ref (K.get 0 _ _ rfl)]
      refine ⟨slLt (by omega), hN _ _ ⟨_, _, _, rfl, hlt, ?_⟩⟩
      rw [htk, tells_snoc, ← tlds_app]
      exact K.put 0 rfl
    | some s =>
      simp only [pnt, mnS, mn, Mn.of, Op.rd, Cm.rd, Bl.rd, Mt.rd, Mt.rc, dNop, dSeq, dExpr, dRet, dRetN, dIf, gD, dAsg, dPar, dPut, dRaise, dVar, dC, dBin, dUn, dNil, dCons, dTup, dLst, dTst, dAndT, dOrT, dNotT, dYes, dAnd, dOr, dNot, dChain, dCall, dCB, dMt, dLset, dSrev, dTry, dIsx, dEmp, dStp, xsub, Ex.sub, dSlc, dPart, dNoPart, dIAny, dI1, dI2, dI3, dFor, dComp, compB, wipeD, startD, endsOf, at_mk, setAll, add_int, sub_int, mul_int, mul_tup, pow_int, mod_int, fdiv_int, lt_int, le_int, gt_int, ge_int, eq_int, neg_int, len_tup, len_scr, abs_int, max_int, min_int, int_int, int_bl, r1_int, r2_int, tuple_tup, list_tup, over_tup, rev_tup, enum_tup, zip_tup, slc_tup, add_tup, isi_any, ix_tup, ix_scr, ix_num0, ix_num1, len_num, num_0, num_1, atI_0, atI_1, atI_2, List.map, List.cons_append, List.nil_append, List.getElem?_cons_zero, List.getElem?_cons_succ, List.getElem?_nil, List.set_cons_zero, List.set_cons_succ, List.replicate, List.length_cons, List.length_nil, List.foldr_cons, List.foldr_nil, Nat.reduceAdd, Nat.reduceSub, List.replicate_succ, List.replicate_zero, G_up_same, decide_eq_true_eq, Bool.not_eq_true', Bool.false_eq_true, if_true, if_false, ite_true, ite_false, and_true, true_and, reduceCtorEq, Bool.not_true, Bool.not_false, Bool.false_bne, Bool.true_bne, sl0, sl1, sl2, sl3, sl4, cut_3, enumD_2, forD, rc_ref, K.get 0 _ _ rfl, Option.isSome_some, app_ref (K.get 0 _ _ rfl), app_ref G_up_same]
      refine ⟨slLt (by omega), slLt (by simp; omega), hN _ _ ⟨_, _, _, rfl, hlt, ?_⟩⟩
      rw [htk, tells_snoc, ← tlds_app, G_up_up, List.append_assoc]
      exact K.put 0 rfl
  · rintro env g' ⟨o2, o3, o4, rfl, hkl, K⟩
    rw [pnts_len, List.take_length] at K
    try simp only [mnS, mn, Mn.of, Op.rd, Cm.rd, Bl.rd, Mt.rd, Mt.rc, dNop, dSeq, dExpr, dRet, dRetN, dIf, gD, dAsg, dPar, dPut, dRaise, dVar, dC, dBin, dUn, dNil, dCons, dTup, dLst, dTst, dAndT, dOrT, dNotT, dYes, dAnd, dOr, dNot, dChain, dCall, dCB, dMt, dLset, dSrev, dTry, dIsx, dEmp, dStp, xsub, Ex.sub, dSlc, dPart, dNoPart, dIAny, dI1, dI2, dI3, dFor, dComp, compB, wipeD, startD, endsOf, at_mk, setAll, add_int, sub_int, mul_int, mul_tup, pow_int, mod_int, fdiv_int, lt_int, le_int, gt_int, ge_int, eq_int, neg_int, len_tup, len_scr, abs_int, max_int, min_int, int_int, int_bl, r1_int, r2_int, tuple_tup, list_tup, over_tup, rev_tup, enum_tup, zip_tup, slc_tup, add_tup, isi_any, ix_tup, ix_scr, ix_num0, ix_num1, len_num, num_0, num_1, atI_0, atI_1, atI_2, List.map, List.cons_append, List.nil_append, List.getElem?_cons_zero, List.getElem?_cons_succ, List.getElem?_nil, List.set_cons_zero, List.set_cons_succ, List.replicate, List.length_cons, List.length_nil, List.foldr_cons, List.foldr_nil, Nat.reduceAdd, Nat.reduceSub, List.replicate_succ, List.replicate_zero, G_up_same, decide_eq_true_eq, Bool.not_eq_true', Bool.false_eq_true, if_true, if_false, ite_true, ite_false, and_true, true_and, reduceCtorEq, Bool.not_true, Bool.not_false, Bool.false_bne, Bool.true_bne, sl0, sl1, sl2, sl3, sl4]
    exact ⟨_, K.fin0 0 rfl, h _ hp⟩
def knots (ps : List Pt) : List Rat := (tells ps).map fun t => t.1
theorem map_fst_at {ts : List Told} {f : Told → Rat} : (List.range ts.length).map (fun k => f (ts.getD k (0, 0, 0))) = ts.map f := by
  refine List.ext_getElem? fun i => ?_
  rw [List.getElem?_map, List.getElem?_map]
  by_cases hi : i < ts.length
  · rw [List.getElem?_range hi, List.getElem?_eq_getElem hi]
    simp [List.getD_eq_getElem?_getD, List.getElem?_eq_getElem hi]
  · rw [List.getElem?_eq_none (by simp; omega), List.getElem?_eq_none (by omega)]; rfl
theorem getD_at {ts : List Told} {k : Nat} {t : Told} (h : ts[k]? = some t) : ts.getD k (0, 0, 0) = t := by
  rw [List.getD_eq_getElem?_getD, h]; rfl
end
end PP
namespace PP
open PySem PySem.Spec PyProof.Rows L2
def valAt (c : List Rat) (t : Told) : Rat := if t.2.1 = 0 then ev c t.1 else evd c t.1
theorem tells_sz {b : Nat} {ps : List Pt} (h : PtSz b ps) {t : Told} (ht : t ∈ tells ps) : sz t.1 ≤ b ∧ sz t.2.2 ≤ b := by
  induction ps with
  | nil => cases ht
  | cons p ps ih =>
    rw [tells] at ht
    have hp := h p (List.mem_cons_self ..)
    rcases List.mem_append.mp ht with ht | ht
    · obtain ⟨x, y, s⟩ := p
      cases s with
      | none => rw [List.mem_singleton.mp ht]; exact ⟨hp.1, hp.2.1⟩
      | some s =>
        rcases List.mem_cons.mp ht with rfl | ht
        · exact ⟨hp.1, hp.2.1⟩
        · rw [List.mem_singleton.mp ht]; exact ⟨hp.1, hp.2.2 s rfl⟩
    · exact ih (fun q hq => h q (List.mem_cons_of_mem _ hq)) ht
end PP
namespace PP
open PySem PySem.Spec PyProof.Rows L2
def sx_first_row : SX :=
  (.asg (.n 1) (.lst .nil)
  (.for_ (.t [2, 3, 4]) (.over (.v 0))
    (.ite (.cmp .eq (.v 3) (.int 0))
      (.expr (.mt .append (.v 1) (.cons (.v 4) .nil)) .nil)
      (.expr (.mt .append (.v 1) (.cons (.ix (.v 1) (.neg (.int 1))) .nil)) .nil) .nil)
  (.ret (.v 1) .nil)))
abbrev ns_first_row : List Str := ["told", "found", "x", "k", "number"]
def sx_steps_of : SX :=
  (.ret (.comp [1] (.n 1) (.over (.call 84 (.cons (.v 0) .nil))) .yes (.ix (.v 1) (.int 0))) .nil)
abbrev ns_steps_of : List Str := ["points", "row"]
def sx_curve_through : SX :=
  (.asg (.n 1) (.comp [2, 3, 4] (.t [2, 3, 4]) (.over (.call 69 (.cons (.v 0) .nil))) .yes (.v 2))
  (.ret (.call 94 (.cons (.v 1) (.cons (.call 85 (.cons (.v 0) .nil)) .nil))) .nil))
abbrev ns_curve_through : List Str := ["points", "knots", "x", "k", "number"]
def sx_next_row_1 : SX :=
  (.ret (.v 3) .nil)
def sx_next_row : SX :=
  (.asg (.n 3) (.lst .nil)
  (.for_ (.n 4) (.range1 (.bin .sub (.blt .len (.cons (.v 1) .nil)) (.int 1)))
    (.asg (.n 5) (.ix (.v 0) (.bin .add (.v 4) (.v 2)))
    (.asg (.n 6) (.ix (.v 0) (.v 4))
    (.ite (.cmp .eq (.ix (.v 5) (.int 0)) (.ix (.v 6) (.int 0)))
      (.expr (.mt .append (.v 3) (.cons (.ix (.v 5) (.int 2)) .nil)) .nil)
      (.expr (.mt .append (.v 3) (.cons (.call 14 (.cons (.call 12 (.cons (.ix (.v 1) (.bin .add (.v 4) (.int 1))) (.cons (.ix (.v 1) (.v 4)) .nil))) (.cons (.call 12 (.cons (.ix (.v 5) (.int 0)) (.cons (.ix (.v 6) (.int 0)) .nil))) .nil))) .nil)) .nil) .nil)))
  sx_next_row_1))
abbrev ns_next_row : List Str := ["told", "row", "k", "found", "at", "here", "there"]
def sx_table_of_1 : SX :=
  (.ret (.v 2) .nil)
def sx_table_of : SX :=
  (.asg (.n 1) (.call 69 (.cons (.v 0) .nil))
  (.asg (.n 2) (.lst (.cons (.call 82 (.cons (.v 1) .nil)) .nil))
  (.for_ (.n 3) (.range2 (.int 1) (.blt .len (.cons (.v 1) .nil)))
    (.expr (.mt .append (.v 2) (.cons (.call 83 (.cons (.v 1) (.cons (.ix (.v 2) (.neg (.int 1))) (.cons (.v 3) .nil)))) .nil)) .nil)
  sx_table_of_1)))
abbrev ns_table_of : List Str := ["points", "told", "found", "k"]
def tx (ts : List Told) (i : Nat) : Rat := (ts.getD i (0, 0, 0)).1
def tk (ts : List Told) (i : Nat) : Nat := (ts.getD i (0, 0, 0)).2.1
def tv (ts : List Told) (i : Nat) : Rat := (ts.getD i (0, 0, 0)).2.2
theorem tld_at {ts : List Told} {i : Nat} (h : i < ts.length) : (tlds ts)[i]? = some (.tup [num (tx ts i), .int (tk ts i : Int), num (tv ts i)]) := by
  unfold tlds
  rw [List.getElem?_map, List.getElem?_eq_getElem h]
  unfold tx tk tv
  rw [List.getD_eq_getElem?_getD, List.getElem?_eq_getElem h]
  rfl
theorem atI_tlds {ts : List Told} {i : Int} {k : Nat} (hi : i = (k : Int)) (h : k < ts.length) : atI (tlds ts) i = some (.tup [num (tx ts k), .int (tk ts k : Int), num (tv ts k)]) := atI_at hi (tld_at h)
def hAt (ts : List Told) : Nat → Rat
  | 0 => tv ts 0
  | i + 1 => if tk ts (i + 1) = 0 then tv ts (i + 1) else hAt ts i
def tabT (ts : List Told) : Nat → Nat → Rat
  | 0, i => hAt ts i
  | k + 1, i => if tx ts (i + (k + 1)) = tx ts i then tv ts (i + (k + 1)) else (tabT ts k (i + 1) - tabT ts k i) / (tx ts (i + (k + 1)) - tx ts i)
def rowT (ts : List Told) (k : Nat) : List Rat := (List.range (ts.length - k)).map (tabT ts k)
theorem rowT_len (ts : List Told) (k : Nat) : (rowT ts k).length = ts.length - k := by simp [rowT]
theorem rowT_at {ts : List Told} {k i : Nat} (h : i < ts.length - k) : (rowT ts k)[i]? = some (tabT ts k i) := by
  unfold rowT
  rw [List.getElem?_map, List.getElem?_range h]; rfl
theorem row_snoc {ts : List Told} {k i : Nat} : nums ((List.range i).map (tabT ts k)) ++ [num (tabT ts k i)] = nums ((List.range (i + 1)).map (tabT ts k)) := by
  rw [nums_snoc, List.range_succ, List.map_append]; rfl
def TSz (b : Nat) (ts : List Told) : Prop := ∀ t ∈ ts, sz t.1 ≤ b ∧ sz t.2.2 ≤ b
theorem TSz.tx {b : Nat} {ts : List Told} (h : TSz b ts) {i : Nat} (hi : i < ts.length) : sz (PP.tx ts i) ≤ b ∧ sz (tv ts i) ≤ b := by
  unfold PP.tx tv
  rw [List.getD_eq_getElem?_getD, List.getElem?_eq_getElem hi]
  exact h _ (List.getElem_mem hi)
theorem hAt_sz {b : Nat} {ts : List Told} (h : TSz b ts) : ∀ {i : Nat}, i < ts.length → sz (hAt ts i) ≤ b
  | 0, hi => (h.tx hi).2
  | i + 1, hi => by
    rw [hAt]
    split
    · exact (h.tx hi).2
    · exact hAt_sz h (i := i) (by omega)
theorem tabT_sz {b : Nat} {ts : List Told} (h : TSz b ts) : ∀ {k i : Nat}, i + k < ts.length → sz (tabT ts k i) + (2 * b + 2) ≤ 2 ^ k * (3 * b + 2)
  | 0, i, hi => by have := hAt_sz h (i := i) (by omega); rw [tabT]; omega
  | k + 1, i, hi => by
    have h1 := tabT_sz h (k := k) (i := i) (by omega)
    have h2 := tabT_sz h (k := k) (i := i + 1) (by omega)
    have h3 := (h.tx (i := i) (by omega)).1
    have h4 := h.tx (i := i + (k + 1)) (by omega)
    have h5 := sz_sub (tabT ts k (i + 1)) (tabT ts k i)
    have h6 := sz_sub (tx ts (i + (k + 1))) (tx ts i)
    have h7 := sz_div (tabT ts k (i + 1) - tabT ts k i) (tx ts (i + (k + 1)) - tx ts i)
    have hp : 3 * b + 2 ≤ 2 ^ k * (3 * b + 2) := Nat.le_mul_of_pos_left _ (Nat.two_pow_pos k)
    rw [tabT, Nat.pow_succ, Nat.mul_comm (2 ^ k) 2, Nat.mul_assoc]
    split <;> omega
theorem tells_tsz {b : Nat} {ps : List Pt} (h : PtSz b ps) : TSz b (tells ps) := fun t ht => tells_sz h ht
theorem tells_k0 {ps : List Pt} : tk (tells ps) 0 = 0 := by
  cases ps with
  | nil => rfl
  | cons p ps =>
    obtain ⟨x, h, s⟩ := p
    cases s <;> rfl
section
variable {Γ : Nat → SpD} {gl : Nat → D} {ds : List D} {g : G} {Q : QD} {E X : XD}
def spFirstRow : SpD := fun ds g Q _ => ∃ a ts, ds = [.ref a] ∧ g a = some (tlds ts) ∧ tk ts 0 = 0 ∧ ts.length ≤ 100 ∧ ∀ p, g p = none → Q (.ref p) (g.up p (nums (rowT ts 0)))
theorem c_firstRow {a : Addr} {ts : List Told} (h : g a = some (tlds ts)) (h0 : tk ts 0 = 0) (hl : ts.length ≤ 100) (k : ∀ p, g p = none → Q (.ref p) (g.up p (nums (rowT ts 0)))) : spFirstRow [.ref a] g Q X := ⟨a, ts, rfl, h, h0, hl, k⟩
theorem pure_first_row (h : spFirstRow ds g Q E) : mnS Γ gl sx_first_row (endsOf Q E) (startD ns_first_row ds) g := by
  obtain ⟨a, ts, rfl, ha, h0, hl, h⟩ := h
  simp only [sx_first_row, mnS, mn, Mn.of, Op.rd, Cm.rd, Bl.rd, Mt.rd, Mt.rc, dNop, dSeq, dExpr, dRet, dRetN, dIf, gD, dAsg, dPar, dPut, dRaise, dVar, dC, dBin, dUn, dNil, dCons, dTup, dLst, dTst, dAndT, dOrT, dNotT, dYes, dAnd, dOr, dNot, dChain, dCall, dCB, dMt, dLset, dSrev, dTry, dIsx, dEmp, dStp, xsub, Ex.sub, dSlc, dPart, dNoPart, dIAny, dI1, dI2, dI3, dFor, dComp, compB, wipeD, startD, endsOf, at_mk, setAll, add_int, sub_int, mul_int, mul_tup, pow_int, mod_int, fdiv_int, lt_int, le_int, gt_int, ge_int, eq_int, neg_int, len_tup, len_scr, abs_int, max_int, min_int, int_int, int_bl, r1_int, r2_int, tuple_tup, list_tup, over_tup, rev_tup, enum_tup, zip_tup, slc_tup, add_tup, isi_any, ix_tup, ix_scr, ix_num0, ix_num1, len_num, num_0, num_1, atI_0, atI_1, atI_2, List.map, List.cons_append, List.nil_append, List.getElem?_cons_zero, List.getElem?_cons_succ, List.getElem?_nil, List.set_cons_zero, List.set_cons_succ, List.replicate, List.length_cons, List.length_nil, List.foldr_cons, List.foldr_nil, Nat.reduceAdd, Nat.reduceSub, List.replicate_succ, List.replicate_zero, G_up_same, decide_eq_true_eq, Bool.not_eq_true', Bool.false_eq_true, if_true, if_false, ite_true, ite_false, and_true, true_and, reduceCtorEq, Bool.not_true, Bool.not_false, Bool.false_bne, Bool.true_bne, sl0, sl1, sl2, sl3, sl4]
  intro p hp
  have K : KN g p (g.up p []) [(p, nums ((List.range 0).map (tabT ts 0)))] := KN.start' hp
  have hap := ne_of_known ha hp
  rw [over_ref (G_up_fresh hp ha)]
  refine for_inv (fun k env g' => ∃ o2 o3 o4, env = [some (.ref a), some (.ref p), o2, o3, o4] ∧ KN g p g' [(p, nums ((List.range k).map (tabT ts 0)))]) (fun k env g' e => by
    obtain ⟨_, _, _, _, K⟩ := e
    exact K.arg hap ha) ?_ ?_ ⟨_, _, _, rfl, K⟩
  · rintro k x env g' N hk ⟨o2, o3, o4, rfl, K⟩ hN
    obtain ⟨t, htt, rfl⟩ := tlds_at hk
    have hlt := lt_of_at htt
    have hlen : (nums ((List.range k).map (tabT ts 0))).length = k := by simp [nums_len]
    have fin : tabT ts 0 k = (if tk ts k = 0 then tv ts k else tabT ts 0 (k - 1)) := by
      cases k with
      | zero => rw [if_pos h0]; rfl
      | succ k => rfl
    have K2 : KN g p (g'.up p (nums ((List.range (k + 1)).map (tabT ts 0)))) [(p, nums ((List.range (k + 1)).map (tabT ts 0)))] := K.put 0 rfl
    have et : (tld t) = .tup [num (tx ts k), .int (tk ts k : Int), num (tv ts k)] := by
      have := tld_at hlt
      rw [hk] at this
      exact Option.some.inj this
    rw [et]
    try simp only [mnS, mn, Mn.of, Op.rd, Cm.rd, Bl.rd, Mt.rd, Mt.rc, dNop, dSeq, dExpr, dRet, dRetN, dIf, gD, dAsg, dPar, dPut, dRaise, dVar, dC, dBin, dUn, dNil, dCons, dTup, dLst, dTst, dAndT, dOrT, dNotT, dYes, dAnd, dOr, dNot, dChain, dCall, dCB, dMt, dLset, dSrev, dTry, dIsx, dEmp, dStp, xsub, Ex.sub, dSlc, dPart, dNoPart, dIAny, dI1, dI2, dI3, dFor, dComp, compB, wipeD, startD, endsOf, at_mk, setAll, add_int, sub_int, mul_int, mul_tup, pow_int, mod_int, fdiv_int, lt_int, le_int, gt_int, ge_int, eq_int, neg_int, len_tup, len_scr, abs_int, max_int, min_int, int_int, int_bl, r1_int, r2_int, tuple_tup, list_tup, over_tup, rev_tup, enum_tup, zip_tup, slc_tup, add_tup, isi_any, ix_tup, ix_scr, ix_num0, ix_num1, len_num, num_0, num_1, atI_0, atI_1, atI_2, List.map, List.cons_append, List.nil_append, List.getElem?_cons_zero, List.getElem?_cons_succ, List.getElem?_nil, List.set_cons_zero, List.set_cons_succ, List.replicate, List.length_cons, List.length_nil, List.foldr_cons, List.foldr_nil, Nat.reduceAdd, Nat.reduceSub, List.replicate_succ, List.replicate_zero, G_up_same, decide_eq_true_eq, Bool.not_eq_true', Bool.false_eq_true, if_true, if_false, ite_true, ite_false, and_true, true_and, reduceCtorEq, Bool.not_true, Bool.not_false, Bool.false_bne, Bool.true_bne, sl0, sl1, sl2, sl3, sl4]
    split
    · rename_i hz
      rw [if_pos (by omega)] at fin
      simp only [rc_ref, K.get 0 _ _ rfl, Option.isSome_some, app_ref (K.get 0 _ _ rfl), true_and]
      refine ⟨slLt (by omega), hN _ _ ⟨_, _, _, rfl, ?_⟩⟩
      rw [← fin, row_snoc]
      exact K2
    · rename_i hz
      rw [if_neg (by omega)] at fin
      have hk0 : k ≠ 0 := fun z => by subst z; omega
      simp only [rc_ref, K.get 0 _ _ rfl, Option.isSome_some, true_and, ix_ref (K.get 0 _ _ rfl)]
      rw [show nums ((List.range k).map (tabT ts 0)) = nums ((List.range (k - 1)).map (tabT ts 0)) ++ [num (tabT ts 0 (k - 1))] by rw [row_snoc, show k - 1 + 1 = k by omega], atI_last]
      simp only []
      rw [app_ref (K.get 0 _ _ rfl)]
      refine ⟨slLt (by omega), hN _ _ ⟨_, _, _, rfl, ?_⟩⟩
      rw [← fin, row_snoc]
      exact K2
  · rintro env g' ⟨o2, o3, o4, rfl, K⟩
    rw [tlds_len] at K
    try simp only [mnS, mn, Mn.of, Op.rd, Cm.rd, Bl.rd, Mt.rd, Mt.rc, dNop, dSeq, dExpr, dRet, dRetN, dIf, gD, dAsg, dPar, dPut, dRaise, dVar, dC, dBin, dUn, dNil, dCons, dTup, dLst, dTst, dAndT, dOrT, dNotT, dYes, dAnd, dOr, dNot, dChain, dCall, dCB, dMt, dLset, dSrev, dTry, dIsx, dEmp, dStp, xsub, Ex.sub, dSlc, dPart, dNoPart, dIAny, dI1, dI2, dI3, dFor, dComp, compB, wipeD, startD, endsOf, at_mk, setAll, add_int, sub_int, mul_int, mul_tup, pow_int, mod_int, fdiv_int, lt_int, le_int, gt_int, ge_int, eq_int, neg_int, len_tup, len_scr, abs_int, max_int, min_int, int_int, int_bl, r1_int, r2_int, tuple_tup, list_tup, over_tup, rev_tup, enum_tup, zip_tup, slc_tup, add_tup, isi_any, ix_tup, ix_scr, ix_num0, ix_num1, len_num, num_0, num_1, atI_0, atI_1, atI_2, List.map, List.cons_append, List.nil_append, List.getElem?_cons_zero, List.getElem?_cons_succ, List.getElem?_nil, List.set_cons_zero, List.set_cons_succ, List.replicate, List.length_cons, List.length_nil, List.foldr_cons, List.foldr_nil, Nat.reduceAdd, Nat.reduceSub, List.replicate_succ, List.replicate_zero, G_up_same, decide_eq_true_eq, Bool.not_eq_true', Bool.false_eq_true, if_true, if_false, ite_true, ite_false, and_true, true_and, reduceCtorEq, Bool.not_true, Bool.not_false, Bool.false_bne, Bool.true_bne, sl0, sl1, sl2, sl3, sl4]
    exact ⟨_, K.fin0 0 rfl, h _ hp⟩
def spNextRow : SpD := fun ds g Q _ => ∃ a r ts k b, ds = [.ref a, .ref r, .int ((k + 1 : Nat) : Int)] ∧ g a = some (tlds ts) ∧ g r = some (nums (rowT ts k)) ∧ k + 1 < ts.length ∧ ts.length ≤ 60 ∧ TSz b ts ∧ 2 ^ (k + 1) * (3 * b + 2) ≤ 90000000 ∧ ∀ p, g p = none → Q (.ref p) (g.up p (nums (rowT ts (k + 1))))
theorem c_nextRow {a r : Addr} {ts : List Told} {i : Int} (k b : Nat) (hi : i = ((k + 1 : Nat) : Int)) (h1 : g a = some (tlds ts)) (h2 : g r = some (nums (rowT ts k))) (h3 : k + 1 < ts.length) (hl : ts.length ≤ 60) (hb : TSz b ts) (hs : 2 ^ (k + 1) * (3 * b + 2) ≤ 90000000) (h : ∀ p, g p = none → Q (.ref p) (g.up p (nums (rowT ts (k + 1))))) : spNextRow [.ref a, .ref r, .int i] g Q X := ⟨a, r, ts, k, b, by rw [hi], h1, h2, h3, hl, hb, hs, h⟩
theorem pure_next_row (h12 : Γ 12 = spMinus) (h14 : Γ 14 = spOver) (h : spNextRow ds g Q E) : mnS Γ gl sx_next_row (endsOf Q E) (startD ns_next_row ds) g := by
  obtain ⟨a, r, ts, k, b, rfl, ha, hr, hk, hl, hb, hs, h⟩ := h
  simp only [sx_next_row, h12, h14, mnS, mn, Mn.of, Op.rd, Cm.rd, Bl.rd, Mt.rd, Mt.rc, dNop, dSeq, dExpr, dRet, dRetN, dIf, gD, dAsg, dPar, dPut, dRaise, dVar, dC, dBin, dUn, dNil, dCons, dTup, dLst, dTst, dAndT, dOrT, dNotT, dYes, dAnd, dOr, dNot, dChain, dCall, dCB, dMt, dLset, dSrev, dTry, dIsx, dEmp, dStp, xsub, Ex.sub, dSlc, dPart, dNoPart, dIAny, dI1, dI2, dI3, dFor, dComp, compB, wipeD, startD, endsOf, at_mk, setAll, add_int, sub_int, mul_int, mul_tup, pow_int, mod_int, fdiv_int, lt_int, le_int, gt_int, ge_int, eq_int, neg_int, len_tup, len_scr, abs_int, max_int, min_int, int_int, int_bl, r1_int, r2_int, tuple_tup, list_tup, over_tup, rev_tup, enum_tup, zip_tup, slc_tup, add_tup, isi_any, ix_tup, ix_scr, ix_num0, ix_num1, len_num, num_0, num_1, atI_0, atI_1, atI_2, List.map, List.cons_append, List.nil_append, List.getElem?_cons_zero, List.getElem?_cons_succ, List.getElem?_nil, List.set_cons_zero, List.set_cons_succ, List.replicate, List.length_cons, List.length_nil, List.foldr_cons, List.foldr_nil, Nat.reduceAdd, Nat.reduceSub, List.replicate_succ, List.replicate_zero, G_up_same, decide_eq_true_eq, Bool.not_eq_true', Bool.false_eq_true, if_true, if_false, ite_true, ite_false, and_true, true_and, reduceCtorEq, Bool.not_true, Bool.not_false, Bool.false_bne, Bool.true_bne, sl0, sl1, sl2, sl3, sl4]
  intro p hp
  have K : KN g p (g.up p []) [(p, nums ((List.range 0).map (tabT ts (k + 1))))] := KN.start' hp
  have hap := ne_of_known ha hp
  have hrp := ne_of_known hr hp
  simp only [len_ref (G_up_fresh hp hr), mnS, mn, Mn.of, Op.rd, Cm.rd, Bl.rd, Mt.rd, Mt.rc, dNop, dSeq, dExpr, dRet, dRetN, dIf, gD, dAsg, dPar, dPut, dRaise, dVar, dC, dBin, dUn, dNil, dCons, dTup, dLst, dTst, dAndT, dOrT, dNotT, dYes, dAnd, dOr, dNot, dChain, dCall, dCB, dMt, dLset, dSrev, dTry, dIsx, dEmp, dStp, xsub, Ex.sub, dSlc, dPart, dNoPart, dIAny, dI1, dI2, dI3, dFor, dComp, compB, wipeD, startD, endsOf, at_mk, setAll, add_int, sub_int, mul_int, mul_tup, pow_int, mod_int, fdiv_int, lt_int, le_int, gt_int, ge_int, eq_int, neg_int, len_tup, len_scr, abs_int, max_int, min_int, int_int, int_bl, r1_int, r2_int, tuple_tup, list_tup, over_tup, rev_tup, enum_tup, zip_tup, slc_tup, add_tup, isi_any, ix_tup, ix_scr, ix_num0, ix_num1, len_num, num_0, num_1, atI_0, atI_1, atI_2, List.map, List.cons_append, List.nil_append, List.getElem?_cons_zero, List.getElem?_cons_succ, List.getElem?_nil, List.set_cons_zero, List.set_cons_succ, List.replicate, List.length_cons, List.length_nil, List.foldr_cons, List.foldr_nil, Nat.reduceAdd, Nat.reduceSub, List.replicate_succ, List.replicate_zero, G_up_same, decide_eq_true_eq, Bool.not_eq_true', Bool.false_eq_true, if_true, if_false, ite_true, ite_false, and_true, true_and, reduceCtorEq, Bool.not_true, Bool.not_false, Bool.false_bne, Bool.true_bne, sl0, sl1, sl2, sl3, sl4, nums_len, rowT_len, range_len]
  refine ⟨by omega, for_inv (fun i env g' => ∃ o4 o5 o6, env = [some (.ref a), some (.ref r), some (.int ((k + 1 : Nat) : Int)), some (.ref p), o4, o5, o6] ∧ KN g p g' [(p, nums ((List.range i).map (tabT ts (k + 1))))]) (fun _ _ _ _ => trivial) ?_ ?_ ⟨_, _, _, rfl, K⟩⟩
  · rintro i x env g' N hi ⟨o4, o5, o6, rfl, K⟩ hN
    obtain ⟨hi2, rfl⟩ := range_at hi
    have hik : i + (k + 1) < ts.length := by omega
    have e1 : (i : Int) + ((k + 1 : Nat) : Int) = ((i + (k + 1) : Nat) : Int) := by omega
    have e2 : (0 : Int) + (i : Int) = ((i : Nat) : Int) := by omega
    have e3 : (0 : Int) + (i : Int) + 1 = ((i + 1 : Nat) : Int) := by omega
    have hlen : (nums ((List.range i).map (tabT ts (k + 1)))).length = i := by simp [nums_len]
    have K2 : KN g p (g'.up p (nums ((List.range (i + 1)).map (tabT ts (k + 1))))) [(p, nums ((List.range (i + 1)).map (tabT ts (k + 1))))] := K.put 0 rfl
    have ga := K.arg hap ha
    have gr := K.arg hrp hr
    simp only [mnS, mn, Mn.of, Op.rd, Cm.rd, Bl.rd, Mt.rd, Mt.rc, dNop, dSeq, dExpr, dRet, dRetN, dIf, gD, dAsg, dPar, dPut, dRaise, dVar, dC, dBin, dUn, dNil, dCons, dTup, dLst, dTst, dAndT, dOrT, dNotT, dYes, dAnd, dOr, dNot, dChain, dCall, dCB, dMt, dLset, dSrev, dTry, dIsx, dEmp, dStp, xsub, Ex.sub, dSlc, dPart, dNoPart, dIAny, dI1, dI2, dI3, dFor, dComp, compB, wipeD, startD, endsOf, at_mk, setAll, add_int, sub_int, mul_int, mul_tup, pow_int, mod_int, fdiv_int, lt_int, le_int, gt_int, ge_int, eq_int, neg_int, len_tup, len_scr, abs_int, max_int, min_int, int_int, int_bl, r1_int, r2_int, tuple_tup, list_tup, over_tup, rev_tup, enum_tup, zip_tup, slc_tup, add_tup, isi_any, ix_tup, ix_scr, ix_num0, ix_num1, len_num, num_0, num_1, atI_0, atI_1, atI_2, List.map, List.cons_append, List.nil_append, List.getElem?_cons_zero, List.getElem?_cons_succ, List.getElem?_nil, List.set_cons_zero, List.set_cons_succ, List.replicate, List.length_cons, List.length_nil, List.foldr_cons, List.foldr_nil, Nat.reduceAdd, Nat.reduceSub, List.replicate_succ, List.replicate_zero, G_up_same, decide_eq_true_eq, Bool.not_eq_true', Bool.false_eq_true, if_true, if_false, ite_true, ite_false, and_true, true_and, reduceCtorEq, Bool.not_true, Bool.not_false, Bool.false_bne, Bool.true_bne, sl0, sl1, sl2, sl3, sl4, e1, e2, ix_ref ga]
    rw [atI_tlds rfl hik]
    simp only [ix_ref ga]
    rw [atI_tlds rfl (by omega)]
    try simp only [mnS, mn, Mn.of, Op.rd, Cm.rd, Bl.rd, Mt.rd, Mt.rc, dNop, dSeq, dExpr, dRet, dRetN, dIf, gD, dAsg, dPar, dPut, dRaise, dVar, dC, dBin, dUn, dNil, dCons, dTup, dLst, dTst, dAndT, dOrT, dNotT, dYes, dAnd, dOr, dNot, dChain, dCall, dCB, dMt, dLset, dSrev, dTry, dIsx, dEmp, dStp, xsub, Ex.sub, dSlc, dPart, dNoPart, dIAny, dI1, dI2, dI3, dFor, dComp, compB, wipeD, startD, endsOf, at_mk, setAll, add_int, sub_int, mul_int, mul_tup, pow_int, mod_int, fdiv_int, lt_int, le_int, gt_int, ge_int, eq_int, neg_int, len_tup, len_scr, abs_int, max_int, min_int, int_int, int_bl, r1_int, r2_int, tuple_tup, list_tup, over_tup, rev_tup, enum_tup, zip_tup, slc_tup, add_tup, isi_any, ix_tup, ix_scr, ix_num0, ix_num1, len_num, num_0, num_1, atI_0, atI_1, atI_2, List.map, List.cons_append, List.nil_append, List.getElem?_cons_zero, List.getElem?_cons_succ, List.getElem?_nil, List.set_cons_zero, List.set_cons_succ, List.replicate, List.length_cons, List.length_nil, List.foldr_cons, List.foldr_nil, Nat.reduceAdd, Nat.reduceSub, List.replicate_succ, List.replicate_zero, G_up_same, decide_eq_true_eq, Bool.not_eq_true', Bool.false_eq_true, if_true, if_false, ite_true, ite_false, and_true, true_and, reduceCtorEq, Bool.not_true, Bool.not_false, Bool.false_bne, Bool.true_bne, sl0, sl1, sl2, sl3, sl4]
    refine eq_num (fun z => ?_) fun z => ?_
    · simp only [mnS, mn, Mn.of, Op.rd, Cm.rd, Bl.rd, Mt.rd, Mt.rc, dNop, dSeq, dExpr, dRet, dRetN, dIf, gD, dAsg, dPar, dPut, dRaise, dVar, dC, dBin, dUn, dNil, dCons, dTup, dLst, dTst, dAndT, dOrT, dNotT, dYes, dAnd, dOr, dNot, dChain, dCall, dCB, dMt, dLset, dSrev, dTry, dIsx, dEmp, dStp, xsub, Ex.sub, dSlc, dPart, dNoPart, dIAny, dI1, dI2, dI3, dFor, dComp, compB, wipeD, startD, endsOf, at_mk, setAll, add_int, sub_int, mul_int, mul_tup, pow_int, mod_int, fdiv_int, lt_int, le_int, gt_int, ge_int, eq_int, neg_int, len_tup, len_scr, abs_int, max_int, min_int, int_int, int_bl, r1_int, r2_int, tuple_tup, list_tup, over_tup, rev_tup, enum_tup, zip_tup, slc_tup, add_tup, isi_any, ix_tup, ix_scr, ix_num0, ix_num1, len_num, num_0, num_1, atI_0, atI_1, atI_2, List.map, List.cons_append, List.nil_append, List.getElem?_cons_zero, List.getElem?_cons_succ, List.getElem?_nil, List.set_cons_zero, List.set_cons_succ, List.replicate, List.length_cons, List.length_nil, List.foldr_cons, List.foldr_nil, Nat.reduceAdd, Nat.reduceSub, List.replicate_succ, List.replicate_zero, G_up_same, decide_eq_true_eq, Bool.not_eq_true', Bool.false_eq_true, if_true, if_false, ite_true, ite_false, and_true, true_and, reduceCtorEq, Bool.not_true, Bool.not_false, Bool.false_bne, Bool.true_bne, sl0, sl1, sl2, sl3, sl4, rc_ref, K.get 0 _ _ rfl, Option.isSome_some, app_ref (K.get 0 _ _ rfl)]
      refine ⟨slLt (by omega), hN _ _ ⟨_, _, _, rfl, ?_⟩⟩
      have e : tv ts (i + (k + 1)) = tabT ts (k + 1) i := by rw [tabT, if_pos z]
      rw [e, row_snoc]
      exact K2
    · have t1 := tabT_sz hb (k := k) (i := i) (by omega)
      have t2 := tabT_sz hb (k := k) (i := i + 1) (by omega)
      have t3 := (hb.tx (i := i) (by omega)).1
      have t4 := (hb.tx (i := i + (k + 1)) (by omega)).1
      have t5 := sz_sub (tabT ts k (i + 1)) (tabT ts k i)
      have t6 := sz_sub (tx ts (i + (k + 1))) (tx ts i)
      have hs2 : 2 * (2 ^ k * (3 * b + 2)) ≤ 90000000 := by rw [← Nat.mul_assoc, Nat.mul_comm 2 (2 ^ k), ← Nat.pow_succ]; exact hs
      have e4 : ((i : Nat) : Int) + 1 = ((i + 1 : Nat) : Int) := by omega
      simp only [mnS, mn, Mn.of, Op.rd, Cm.rd, Bl.rd, Mt.rd, Mt.rc, dNop, dSeq, dExpr, dRet, dRetN, dIf, gD, dAsg, dPar, dPut, dRaise, dVar, dC, dBin, dUn, dNil, dCons, dTup, dLst, dTst, dAndT, dOrT, dNotT, dYes, dAnd, dOr, dNot, dChain, dCall, dCB, dMt, dLset, dSrev, dTry, dIsx, dEmp, dStp, xsub, Ex.sub, dSlc, dPart, dNoPart, dIAny, dI1, dI2, dI3, dFor, dComp, compB, wipeD, startD, endsOf, at_mk, setAll, add_int, sub_int, mul_int, mul_tup, pow_int, mod_int, fdiv_int, lt_int, le_int, gt_int, ge_int, eq_int, neg_int, len_tup, len_scr, abs_int, max_int, min_int, int_int, int_bl, r1_int, r2_int, tuple_tup, list_tup, over_tup, rev_tup, enum_tup, zip_tup, slc_tup, add_tup, isi_any, ix_tup, ix_scr, ix_num0, ix_num1, len_num, num_0, num_1, atI_0, atI_1, atI_2, List.map, List.cons_append, List.nil_append, List.getElem?_cons_zero, List.getElem?_cons_succ, List.getElem?_nil, List.set_cons_zero, List.set_cons_succ, List.replicate, List.length_cons, List.length_nil, List.foldr_cons, List.foldr_nil, Nat.reduceAdd, Nat.reduceSub, List.replicate_succ, List.replicate_zero, G_up_same, decide_eq_true_eq, Bool.not_eq_true', Bool.false_eq_true, if_true, if_false, ite_true, ite_false, and_true, true_and, reduceCtorEq, Bool.not_true, Bool.not_false, Bool.false_bne, Bool.true_bne, sl0, sl1, sl2, sl3, sl4, rc_ref, K.get 0 _ _ rfl, Option.isSome_some, ix_ref gr, e4]
      rw [atI_nums rfl (rowT_at (by omega))]
      simp only [ix_ref gr]
      rw [atI_nums rfl (rowT_at (by omega))]
      simp only [c_bin, mnS, mn, Mn.of, Op.rd, Cm.rd, Bl.rd, Mt.rd, Mt.rc, dNop, dSeq, dExpr, dRet, dRetN, dIf, gD, dAsg, dPar, dPut, dRaise, dVar, dC, dBin, dUn, dNil, dCons, dTup, dLst, dTst, dAndT, dOrT, dNotT, dYes, dAnd, dOr, dNot, dChain, dCall, dCB, dMt, dLset, dSrev, dTry, dIsx, dEmp, dStp, xsub, Ex.sub, dSlc, dPart, dNoPart, dIAny, dI1, dI2, dI3, dFor, dComp, compB, wipeD, startD, endsOf, at_mk, setAll, add_int, sub_int, mul_int, mul_tup, pow_int, mod_int, fdiv_int, lt_int, le_int, gt_int, ge_int, eq_int, neg_int, len_tup, len_scr, abs_int, max_int, min_int, int_int, int_bl, r1_int, r2_int, tuple_tup, list_tup, over_tup, rev_tup, enum_tup, zip_tup, slc_tup, add_tup, isi_any, ix_tup, ix_scr, ix_num0, ix_num1, len_num, num_0, num_1, atI_0, atI_1, atI_2, List.map, List.cons_append, List.nil_append, List.getElem?_cons_zero, List.getElem?_cons_succ, List.getElem?_nil, List.set_cons_zero, List.set_cons_succ, List.replicate, List.length_cons, List.length_nil, List.foldr_cons, List.foldr_nil, Nat.reduceAdd, Nat.reduceSub, List.replicate_succ, List.replicate_zero, G_up_same, decide_eq_true_eq, Bool.not_eq_true', Bool.false_eq_true, if_true, if_false, ite_true, ite_false, and_true, true_and, reduceCtorEq, Bool.not_true, Bool.not_false, Bool.false_bne, Bool.true_bne, sl0, sl1, sl2, sl3, sl4, c_over]
      have hne : tx ts (i + (k + 1)) - tx ts i ≠ 0 := fun w => z (by grind)
      refine ⟨by omega, by omega, by omega, fun w => absurd w hne, fun _ => ?_⟩
      simp only [app_ref (K.get 0 _ _ rfl)]
      refine ⟨slLt (by omega), hN _ _ ⟨_, _, _, rfl, ?_⟩⟩
      have e : (tabT ts k (i + 1) - tabT ts k i) / (tx ts (i + (k + 1)) - tx ts i) = tabT ts (k + 1) i := by rw [tabT, if_neg z]
      rw [e, row_snoc]
      exact K2
  · rintro env g' ⟨o4, o5, o6, rfl, K⟩
    simp only [sx_next_row_1, mnS, mn, Mn.of, Op.rd, Cm.rd, Bl.rd, Mt.rd, Mt.rc, dNop, dSeq, dExpr, dRet, dRetN, dIf, gD, dAsg, dPar, dPut, dRaise, dVar, dC, dBin, dUn, dNil, dCons, dTup, dLst, dTst, dAndT, dOrT, dNotT, dYes, dAnd, dOr, dNot, dChain, dCall, dCB, dMt, dLset, dSrev, dTry, dIsx, dEmp, dStp, xsub, Ex.sub, dSlc, dPart, dNoPart, dIAny, dI1, dI2, dI3, dFor, dComp, compB, wipeD, startD, endsOf, at_mk, setAll, add_int, sub_int, mul_int, mul_tup, pow_int, mod_int, fdiv_int, lt_int, le_int, gt_int, ge_int, eq_int, neg_int, len_tup, len_scr, abs_int, max_int, min_int, int_int, int_bl, r1_int, r2_int, tuple_tup, list_tup, over_tup, rev_tup, enum_tup, zip_tup, slc_tup, add_tup, isi_any, ix_tup, ix_scr, ix_num0, ix_num1, len_num, num_0, num_1, atI_0, atI_1, atI_2, List.map, List.cons_append, List.nil_append, List.getElem?_cons_zero, List.getElem?_cons_succ, List.getElem?_nil, List.set_cons_zero, List.set_cons_succ, List.replicate, List.length_cons, List.length_nil, List.foldr_cons, List.foldr_nil, Nat.reduceAdd, Nat.reduceSub, List.replicate_succ, List.replicate_zero, G_up_same, decide_eq_true_eq, Bool.not_eq_true', Bool.false_eq_true, if_true, if_false, ite_true, ite_false, and_true, true_and, reduceCtorEq, Bool.not_true, Bool.not_false, Bool.false_bne, Bool.true_bne, sl0, sl1, sl2, sl3, sl4]
    refine ⟨_, K.fin0 0 rfl, ?_⟩
    rw [range_len, show (((ts.length - k : Nat) : Int) - 1).toNat = ts.length - (k + 1) by omega]
    exact h _ hp
end
end PP
namespace PP
open PySem PySem.Spec PyProof.Rows L2
def rowsL (ts : List Told) (rs : List Addr) : List (Addr × List D) := rs.mapIdx fun i r => (r, nums (rowT ts i))
theorem rowsL_at {ts : List Told} {rs : List Addr} {k : Nat} {r : Addr} (h : rs[k]? = some r) : (rowsL ts rs)[k]? = some (r, nums (rowT ts k)) := by
  unfold rowsL
  rw [List.getElem?_mapIdx, h]; rfl
theorem rowsL_snoc {ts : List Told} {rs : List Addr} {r : Addr} : rowsL ts (rs ++ [r]) = rowsL ts rs ++ [(r, nums (rowT ts rs.length))] := by
  unfold rowsL
  rw [List.mapIdx_concat]
theorem rowsL_fst {ts : List Told} {rs : List Addr} : (rowsL ts rs).map Prod.fst = rs := by
  unfold rowsL
  refine List.ext_getElem? fun i => ?_
  rw [List.getElem?_map, List.getElem?_mapIdx]
  cases rs[i]? <;> rfl
def stepsT (ts : List Told) : List Rat := (List.range ts.length).map fun k => tabT ts k 0
theorem stepsT_len (ts : List Told) : (stepsT ts).length = ts.length := by simp [stepsT]
section
variable {Γ : Nat → SpD} {gl : Nat → D} {ds : List D} {g : G} {Q : QD} {E X : XD}
def spTable : SpD := fun ds g Q _ => ∃ d ps b, ds = [d] ∧ SeqD g d (pnts ps) ∧ ps ≠ [] ∧ PtSz b ps ∧ toldN ps ≤ 40 ∧ 2 ^ toldN ps * (3 * b + 2) ≤ 90000000 ∧
  ∀ p rs g', g.le g' → rs.length = toldN ps → (p :: rs).Nodup → (∀ q ∈ p :: rs, g q = none) → g' p = some (rs.map D.ref) → (∀ k r, rs[k]? = some r → g' r = some (nums (rowT (tells ps) k))) → Q (.ref p) g'
theorem c_table {d : D} {ps : List Pt} (b : Nat) (hd : SeqD g d (pnts ps)) (hne : ps ≠ []) (hb : PtSz b ps) (hl : toldN ps ≤ 40) (hs : 2 ^ toldN ps * (3 * b + 2) ≤ 90000000)
    (k : ∀ p rs g', g.le g' → rs.length = toldN ps → (p :: rs).Nodup → (∀ q ∈ p :: rs, g q = none) → g' p = some (rs.map D.ref) → (∀ k r, rs[k]? = some r → g' r = some (nums (rowT (tells ps) k))) → Q (.ref p) g') : spTable [d] g Q X := ⟨d, ps, b, rfl, hd, hne, hb, hl, hs, k⟩
theorem told_pos {ps : List Pt} (h : ps ≠ []) : 0 < toldN ps := by
  have := toldN_len ps
  have := List.length_pos_iff.mpr h
  omega
theorem pure_table_of (h69 : Γ 69 = spTold) (h82 : Γ 82 = spFirstRow) (h83 : Γ 83 = spNextRow) (h : spTable ds g Q E) : mnS Γ gl sx_table_of (endsOf Q E) (startD ns_table_of ds) g := by
  obtain ⟨d, ps, b, rfl, hd, hne, hb, hl, hs, h⟩ := h
  have hpos := told_pos hne
  have htl := tells_len ps
  have htb := tells_tsz hb
  simp only [sx_table_of, h69, h82, h83, mnS, mn, Mn.of, Op.rd, Cm.rd, Bl.rd, Mt.rd, Mt.rc, dNop, dSeq, dExpr, dRet, dRetN, dIf, gD, dAsg, dPar, dPut, dRaise, dVar, dC, dBin, dUn, dNil, dCons, dTup, dLst, dTst, dAndT, dOrT, dNotT, dYes, dAnd, dOr, dNot, dChain, dCall, dCB, dMt, dLset, dSrev, dTry, dIsx, dEmp, dStp, xsub, Ex.sub, dSlc, dPart, dNoPart, dIAny, dI1, dI2, dI3, dFor, dComp, compB, wipeD, startD, endsOf, at_mk, setAll, add_int, sub_int, mul_int, mul_tup, pow_int, mod_int, fdiv_int, lt_int, le_int, gt_int, ge_int, eq_int, neg_int, len_tup, len_scr, abs_int, max_int, min_int, int_int, int_bl, r1_int, r2_int, tuple_tup, list_tup, over_tup, rev_tup, enum_tup, zip_tup, slc_tup, add_tup, isi_any, ix_tup, ix_scr, ix_num0, ix_num1, len_num, num_0, num_1, atI_0, atI_1, atI_2, List.map, List.cons_append, List.nil_append, List.getElem?_cons_zero, List.getElem?_cons_succ, List.getElem?_nil, List.set_cons_zero, List.set_cons_succ, List.replicate, List.length_cons, List.length_nil, List.foldr_cons, List.foldr_nil, Nat.reduceAdd, Nat.reduceSub, List.replicate_succ, List.replicate_zero, G_up_same, decide_eq_true_eq, Bool.not_eq_true', Bool.false_eq_true, if_true, if_false, ite_true, ite_false, and_true, true_and, reduceCtorEq, Bool.not_true, Bool.not_false, Bool.false_bne, Bool.true_bne, sl0, sl1, sl2, sl3, sl4]
  refine c_told hd (by omega) fun q hq => ?_
  have K : KN g q (g.up q (tlds (tells ps))) [(q, tlds (tells ps))] := KN.start' hq
  try simp only [mnS, mn, Mn.of, Op.rd, Cm.rd, Bl.rd, Mt.rd, Mt.rc, dNop, dSeq, dExpr, dRet, dRetN, dIf, gD, dAsg, dPar, dPut, dRaise, dVar, dC, dBin, dUn, dNil, dCons, dTup, dLst, dTst, dAndT, dOrT, dNotT, dYes, dAnd, dOr, dNot, dChain, dCall, dCB, dMt, dLset, dSrev, dTry, dIsx, dEmp, dStp, xsub, Ex.sub, dSlc, dPart, dNoPart, dIAny, dI1, dI2, dI3, dFor, dComp, compB, wipeD, startD, endsOf, at_mk, setAll, add_int, sub_int, mul_int, mul_tup, pow_int, mod_int, fdiv_int, lt_int, le_int, gt_int, ge_int, eq_int, neg_int, len_tup, len_scr, abs_int, max_int, min_int, int_int, int_bl, r1_int, r2_int, tuple_tup, list_tup, over_tup, rev_tup, enum_tup, zip_tup, slc_tup, add_tup, isi_any, ix_tup, ix_scr, ix_num0, ix_num1, len_num, num_0, num_1, atI_0, atI_1, atI_2, List.map, List.cons_append, List.nil_append, List.getElem?_cons_zero, List.getElem?_cons_succ, List.getElem?_nil, List.set_cons_zero, List.set_cons_succ, List.replicate, List.length_cons, List.length_nil, List.foldr_cons, List.foldr_nil, Nat.reduceAdd, Nat.reduceSub, List.replicate_succ, List.replicate_zero, G_up_same, decide_eq_true_eq, Bool.not_eq_true', Bool.false_eq_true, if_true, if_false, ite_true, ite_false, and_true, true_and, reduceCtorEq, Bool.not_true, Bool.not_false, Bool.false_bne, Bool.true_bne, sl0, sl1, sl2, sl3, sl4]
  refine c_firstRow (K.get 0 _ _ rfl) tells_k0 (by omega) fun r hr => ?_
  have K := K_new (ys := nums (rowT (tells ps) 0)) K hr
  intro p hp
  have K := K_new (ys := [.ref r]) K hp
  rw [len_ref (K.get 0 _ _ rfl), tlds_len, htl]
  try simp only [mnS, mn, Mn.of, Op.rd, Cm.rd, Bl.rd, Mt.rd, Mt.rc, dNop, dSeq, dExpr, dRet, dRetN, dIf, gD, dAsg, dPar, dPut, dRaise, dVar, dC, dBin, dUn, dNil, dCons, dTup, dLst, dTst, dAndT, dOrT, dNotT, dYes, dAnd, dOr, dNot, dChain, dCall, dCB, dMt, dLset, dSrev, dTry, dIsx, dEmp, dStp, xsub, Ex.sub, dSlc, dPart, dNoPart, dIAny, dI1, dI2, dI3, dFor, dComp, compB, wipeD, startD, endsOf, at_mk, setAll, add_int, sub_int, mul_int, mul_tup, pow_int, mod_int, fdiv_int, lt_int, le_int, gt_int, ge_int, eq_int, neg_int, len_tup, len_scr, abs_int, max_int, min_int, int_int, int_bl, r1_int, r2_int, tuple_tup, list_tup, over_tup, rev_tup, enum_tup, zip_tup, slc_tup, add_tup, isi_any, ix_tup, ix_scr, ix_num0, ix_num1, len_num, num_0, num_1, atI_0, atI_1, atI_2, List.map, List.cons_append, List.nil_append, List.getElem?_cons_zero, List.getElem?_cons_succ, List.getElem?_nil, List.set_cons_zero, List.set_cons_succ, List.replicate, List.length_cons, List.length_nil, List.foldr_cons, List.foldr_nil, Nat.reduceAdd, Nat.reduceSub, List.replicate_succ, List.replicate_zero, G_up_same, decide_eq_true_eq, Bool.not_eq_true', Bool.false_eq_true, if_true, if_false, ite_true, ite_false, and_true, true_and, reduceCtorEq, Bool.not_true, Bool.not_false, Bool.false_bne, Bool.true_bne, sl0, sl1, sl2, sl3, sl4]
  have K0 : KN g q _ ((q, tlds (tells ps)) :: (p, ([r] : List Addr).map D.ref) :: rowsL (tells ps) [r]) := K.pick [0, 2, 1] (by decide)
  refine ⟨by omega, for_inv (fun i env g' => ∃ o3 rs, env = [some d, some (.ref q), some (.ref p), o3] ∧ rs.length = i + 1 ∧ KN g q g' ((q, tlds (tells ps)) :: (p, rs.map D.ref) :: rowsL (tells ps) rs)) (fun _ _ _ _ => trivial) ?_ ?_ ⟨_, [r], rfl, rfl, K0⟩⟩
  · rintro i x env g' N hi ⟨o3, rs, rfl, hrl, K⟩ hN
    obtain ⟨hi2, rfl⟩ := range_at hi
    have hrlt : i < rs.length := by omega
    have hgr := K.get (i + 2) rs[i] (nums (rowT (tells ps) i)) (by
      show (rowsL (tells ps) rs)[i]? = _
      exact rowsL_at (List.getElem?_eq_getElem hrlt))
    have hlast : atI (rs.map D.ref) (-1) = some (.ref rs[i]) := by
      have e : rs.take i ++ [rs[i]] = rs := by rw [← List.take_succ_eq_append_getElem hrlt, ← hrl, List.take_length]
      have e2 : rs.map D.ref = (rs.take i).map D.ref ++ [.ref rs[i]] := by
        have := congrArg (List.map D.ref) e
        rw [List.map_append] at this
        exact this.symm
      rw [e2]
      exact atI_last
    have hp2 : 2 ^ (i + 1) * (3 * b + 2) ≤ 90000000 := Nat.le_trans (Nat.mul_le_mul_right _ (Nat.pow_le_pow_right (by decide) (by omega))) hs
    simp only [mnS, mn, Mn.of, Op.rd, Cm.rd, Bl.rd, Mt.rd, Mt.rc, dNop, dSeq, dExpr, dRet, dRetN, dIf, gD, dAsg, dPar, dPut, dRaise, dVar, dC, dBin, dUn, dNil, dCons, dTup, dLst, dTst, dAndT, dOrT, dNotT, dYes, dAnd, dOr, dNot, dChain, dCall, dCB, dMt, dLset, dSrev, dTry, dIsx, dEmp, dStp, xsub, Ex.sub, dSlc, dPart, dNoPart, dIAny, dI1, dI2, dI3, dFor, dComp, compB, wipeD, startD, endsOf, at_mk, setAll, add_int, sub_int, mul_int, mul_tup, pow_int, mod_int, fdiv_int, lt_int, le_int, gt_int, ge_int, eq_int, neg_int, len_tup, len_scr, abs_int, max_int, min_int, int_int, int_bl, r1_int, r2_int, tuple_tup, list_tup, over_tup, rev_tup, enum_tup, zip_tup, slc_tup, add_tup, isi_any, ix_tup, ix_scr, ix_num0, ix_num1, len_num, num_0, num_1, atI_0, atI_1, atI_2, List.map, List.cons_append, List.nil_append, List.getElem?_cons_zero, List.getElem?_cons_succ, List.getElem?_nil, List.set_cons_zero, List.set_cons_succ, List.replicate, List.length_cons, List.length_nil, List.foldr_cons, List.foldr_nil, Nat.reduceAdd, Nat.reduceSub, List.replicate_succ, List.replicate_zero, G_up_same, decide_eq_true_eq, Bool.not_eq_true', Bool.false_eq_true, if_true, if_false, ite_true, ite_false, and_true, true_and, reduceCtorEq, Bool.not_true, Bool.not_false, Bool.false_bne, Bool.true_bne, sl0, sl1, sl2, sl3, sl4, rc_ref, K.get 1 _ _ rfl, Option.isSome_some, ix_ref (K.get 1 _ _ rfl), hlast]
    refine c_nextRow i b (by omega) (K.get 0 _ _ rfl) hgr (by omega) (by omega) htb hp2 fun s hs0 => ?_
    have K := K_new (ys := nums (rowT (tells ps) (i + 1))) K hs0
    rw [app_ref (K.get 1 _ _ rfl)]
    refine ⟨slLt (by simp; omega), hN _ _ ⟨_, rs ++ [s], rfl, by simp [hrl], ?_⟩⟩
    have K := K.put (ys := (rs ++ [s]).map D.ref) 1 rfl
    rw [show rs.map D.ref ++ [.ref s] = (rs ++ [s]).map D.ref by simp, rowsL_snoc, hrl]
    exact K
  · rintro env g' ⟨o3, rs, rfl, hrl, K⟩
    rw [range_len] at hrl
    simp only [sx_table_of_1, mnS, mn, Mn.of, Op.rd, Cm.rd, Bl.rd, Mt.rd, Mt.rc, dNop, dSeq, dExpr, dRet, dRetN, dIf, gD, dAsg, dPar, dPut, dRaise, dVar, dC, dBin, dUn, dNil, dCons, dTup, dLst, dTst, dAndT, dOrT, dNotT, dYes, dAnd, dOr, dNot, dChain, dCall, dCB, dMt, dLset, dSrev, dTry, dIsx, dEmp, dStp, xsub, Ex.sub, dSlc, dPart, dNoPart, dIAny, dI1, dI2, dI3, dFor, dComp, compB, wipeD, startD, endsOf, at_mk, setAll, add_int, sub_int, mul_int, mul_tup, pow_int, mod_int, fdiv_int, lt_int, le_int, gt_int, ge_int, eq_int, neg_int, len_tup, len_scr, abs_int, max_int, min_int, int_int, int_bl, r1_int, r2_int, tuple_tup, list_tup, over_tup, rev_tup, enum_tup, zip_tup, slc_tup, add_tup, isi_any, ix_tup, ix_scr, ix_num0, ix_num1, len_num, num_0, num_1, atI_0, atI_1, atI_2, List.map, List.cons_append, List.nil_append, List.getElem?_cons_zero, List.getElem?_cons_succ, List.getElem?_nil, List.set_cons_zero, List.set_cons_succ, List.replicate, List.length_cons, List.length_nil, List.foldr_cons, List.foldr_nil, Nat.reduceAdd, Nat.reduceSub, List.replicate_succ, List.replicate_zero, G_up_same, decide_eq_true_eq, Bool.not_eq_true', Bool.false_eq_true, if_true, if_false, ite_true, ite_false, and_true, true_and, reduceCtorEq, Bool.not_true, Bool.not_false, Bool.false_bne, Bool.true_bne, sl0, sl1, sl2, sl3, sl4]
    have hnd := K.nd
    simp only [List.map_cons, rowsL_fst] at hnd
    have hnd2 := (List.nodup_cons.mp hnd)
    have hrl2 : rs.length = toldN ps := by omega
    refine ⟨g', G.le_refl _, h p rs g' (K.fin hq) hrl2 hnd2.2 (fun z hz => ?_) (K.get 1 _ _ rfl) fun k r hr => K.get (k + 2) r _ (rowsL_at hr)⟩
    rcases K.own z (by simp only [List.map_cons, rowsL_fst]; exact List.mem_cons_of_mem _ hz) with e | e
    · exact absurd (e ▸ hz) hnd2.1
    · exact e
def spSteps : SpD := fun ds g Q _ => ∃ d ps b, ds = [d] ∧ SeqD g d (pnts ps) ∧ ps ≠ [] ∧ PtSz b ps ∧ toldN ps ≤ 40 ∧ 2 ^ toldN ps * (3 * b + 2) ≤ 90000000 ∧
  ∀ p, g p = none → Q (.ref p) (g.up p (nums (stepsT (tells ps))))
theorem c_steps {d : D} {ps : List Pt} (b : Nat) (hd : SeqD g d (pnts ps)) (hne : ps ≠ []) (hb : PtSz b ps) (hl : toldN ps ≤ 40) (hs : 2 ^ toldN ps * (3 * b + 2) ≤ 90000000)
    (k : ∀ p, g p = none → Q (.ref p) (g.up p (nums (stepsT (tells ps))))) : spSteps [d] g Q X := ⟨d, ps, b, rfl, hd, hne, hb, hl, hs, k⟩
theorem pure_steps_of (h84 : Γ 84 = spTable) (h : spSteps ds g Q E) : mnS Γ gl sx_steps_of (endsOf Q E) (startD ns_steps_of ds) g := by
  obtain ⟨d, ps, b, rfl, hd, hne, hb, hl, hs, h⟩ := h
  simp only [sx_steps_of, h84, mnS, mn, Mn.of, Op.rd, Cm.rd, Bl.rd, Mt.rd, Mt.rc, dNop, dSeq, dExpr, dRet, dRetN, dIf, gD, dAsg, dPar, dPut, dRaise, dVar, dC, dBin, dUn, dNil, dCons, dTup, dLst, dTst, dAndT, dOrT, dNotT, dYes, dAnd, dOr, dNot, dChain, dCall, dCB, dMt, dLset, dSrev, dTry, dIsx, dEmp, dStp, xsub, Ex.sub, dSlc, dPart, dNoPart, dIAny, dI1, dI2, dI3, dFor, dComp, compB, wipeD, startD, endsOf, at_mk, setAll, add_int, sub_int, mul_int, mul_tup, pow_int, mod_int, fdiv_int, lt_int, le_int, gt_int, ge_int, eq_int, neg_int, len_tup, len_scr, abs_int, max_int, min_int, int_int, int_bl, r1_int, r2_int, tuple_tup, list_tup, over_tup, rev_tup, enum_tup, zip_tup, slc_tup, add_tup, isi_any, ix_tup, ix_scr, ix_num0, ix_num1, len_num, num_0, num_1, atI_0, atI_1, atI_2, List.map, List.cons_append, List.nil_append, List.getElem?_cons_zero, List.getElem?_cons_succ, List.getElem?_nil, List.set_cons_zero, List.set_cons_succ, List.replicate, List.length_cons, List.length_nil, List.foldr_cons, List.foldr_nil, Nat.reduceAdd, Nat.reduceSub, List.replicate_succ, List.replicate_zero, G_up_same, decide_eq_true_eq, Bool.not_eq_true', Bool.false_eq_true, if_true, if_false, ite_true, ite_false, and_true, true_and, reduceCtorEq, Bool.not_true, Bool.not_false, Bool.false_bne, Bool.true_bne, sl0, sl1, sl2, sl3, sl4]
  refine c_table b hd hne hb hl hs fun p rs g' l hrl hnd hfr hp hrs => ?_
  rw [over_ref hp]
  refine ⟨slN (by simp; omega), fun s hs0 => ?_⟩
  have hps := ne_of_known hp hs0
  have hs1 : g s = none := by
    cases e : g s with
    | none => rfl
    | some ys => rw [l s ys e] at hs0; cases hs0
  refine comp_nums (fun k => tabT (tells ps) k 0) (fun _ => by rw [G_up_ne hps]; exact hp) (fun k x acc N hk hlt hN => ?_) ?_
  · rw [List.getElem?_map] at hk
    cases e : rs[k]? with
    | none => rw [e] at hk; cases hk
    | some r =>
      rw [e] at hk
      cases hk
      have hr := hrs k r e
      have hrs' := ne_of_known hr hs0
      try simp only [mnS, mn, Mn.of, Op.rd, Cm.rd, Bl.rd, Mt.rd, Mt.rc, dNop, dSeq, dExpr, dRet, dRetN, dIf, gD, dAsg, dPar, dPut, dRaise, dVar, dC, dBin, dUn, dNil, dCons, dTup, dLst, dTst, dAndT, dOrT, dNotT, dYes, dAnd, dOr, dNot, dChain, dCall, dCB, dMt, dLset, dSrev, dTry, dIsx, dEmp, dStp, xsub, Ex.sub, dSlc, dPart, dNoPart, dIAny, dI1, dI2, dI3, dFor, dComp, compB, wipeD, startD, endsOf, at_mk, setAll, add_int, sub_int, mul_int, mul_tup, pow_int, mod_int, fdiv_int, lt_int, le_int, gt_int, ge_int, eq_int, neg_int, len_tup, len_scr, abs_int, max_int, min_int, int_int, int_bl, r1_int, r2_int, tuple_tup, list_tup, over_tup, rev_tup, enum_tup, zip_tup, slc_tup, add_tup, isi_any, ix_tup, ix_scr, ix_num0, ix_num1, len_num, num_0, num_1, atI_0, atI_1, atI_2, List.map, List.cons_append, List.nil_append, List.getElem?_cons_zero, List.getElem?_cons_succ, List.getElem?_nil, List.set_cons_zero, List.set_cons_succ, List.replicate, List.length_cons, List.length_nil, List.foldr_cons, List.foldr_nil, Nat.reduceAdd, Nat.reduceSub, List.replicate_succ, List.replicate_zero, G_up_same, decide_eq_true_eq, Bool.not_eq_true', Bool.false_eq_true, if_true, if_false, ite_true, ite_false, and_true, true_and, reduceCtorEq, Bool.not_true, Bool.not_false, Bool.false_bne, Bool.true_bne, sl0, sl1, sl2, sl3, sl4]
      rw [ix_ref (show (g'.up s acc) r = some (nums (rowT (tells ps) k)) by rw [G_up_ne hrs']; exact hr), show (0 : Int) = ((0 : Nat) : Int) from rfl, atI_nums rfl (rowT_at (k := k) (i := 0) (by rw [tells_len]; have := lt_of_at e; omega))]
      exact hN
  · rw [List.length_map, hrl, ← tells_len]
    exact ⟨_, G.le_upS l, h _ hs1⟩
theorem stepsT_grow {b : Nat} {ts : List Told} (h : TSz b ts) : SzG (3 * b + 2) (stepsT ts) := fun k s e => by
  unfold stepsT at e
  rw [List.getElem?_map] at e
  cases q : (List.range ts.length)[k]? with
  | none => rw [q] at e; cases e
  | some j =>
    rw [q] at e
    cases e
    have hk := lt_of_at q
    rw [List.length_range] at hk
    rw [List.getElem?_range hk] at q
    cases q
    have := tabT_sz h (k := k) (i := 0) (by omega)
    show sz (tabT ts k 0) ≤ _
    omega
def spThrough : SpD := fun ds g Q _ => ∃ d ps b, ds = [d] ∧ SeqD g d (pnts ps) ∧ ps ≠ [] ∧ PtSz b ps ∧ 0 < b ∧ toldN ps ≤ 40 ∧ bsSz (toldN ps + 1) b (3 * b + 2) ≤ 40000000 ∧
  ∀ r, Tight r → r.length ≤ toldN ps → Szs (bsSz (toldN ps) b (3 * b + 2)) r → (∀ x, ev r x = nwt (knots ps) (stepsT (tells ps)) x) → Q (.tup (nums r)) g
theorem c_through {d : D} {ps : List Pt} (b : Nat) (hd : SeqD g d (pnts ps)) (hne : ps ≠ []) (hb : PtSz b ps) (hb0 : 0 < b) (hl : toldN ps ≤ 40) (hs : bsSz (toldN ps + 1) b (3 * b + 2) ≤ 40000000)
    (k : ∀ r, Tight r → r.length ≤ toldN ps → Szs (bsSz (toldN ps) b (3 * b + 2)) r → (∀ x, ev r x = nwt (knots ps) (stepsT (tells ps)) x) → Q (.tup (nums r)) g) : spThrough [d] g Q X := ⟨d, ps, b, rfl, hd, hne, hb, hb0, hl, hs, k⟩
theorem pure_curve_through (h69 : Γ 69 = spTold) (h85 : Γ 85 = spSteps) (h94 : Γ 94 = spBySteps) (h : spThrough ds g Q E) : mnS Γ gl sx_curve_through (endsOf Q E) (startD ns_curve_through ds) g := by
  obtain ⟨d, ps, b, rfl, hd, hne, hb, hb0, hl, hs, h⟩ := h
  have htl := tells_len ps
  have htb := tells_tsz hb
  simp only [sx_curve_through, h69, h85, h94, mnS, mn, Mn.of, Op.rd, Cm.rd, Bl.rd, Mt.rd, Mt.rc, dNop, dSeq, dExpr, dRet, dRetN, dIf, gD, dAsg, dPar, dPut, dRaise, dVar, dC, dBin, dUn, dNil, dCons, dTup, dLst, dTst, dAndT, dOrT, dNotT, dYes, dAnd, dOr, dNot, dChain, dCall, dCB, dMt, dLset, dSrev, dTry, dIsx, dEmp, dStp, xsub, Ex.sub, dSlc, dPart, dNoPart, dIAny, dI1, dI2, dI3, dFor, dComp, compB, wipeD, startD, endsOf, at_mk, setAll, add_int, sub_int, mul_int, mul_tup, pow_int, mod_int, fdiv_int, lt_int, le_int, gt_int, ge_int, eq_int, neg_int, len_tup, len_scr, abs_int, max_int, min_int, int_int, int_bl, r1_int, r2_int, tuple_tup, list_tup, over_tup, rev_tup, enum_tup, zip_tup, slc_tup, add_tup, isi_any, ix_tup, ix_scr, ix_num0, ix_num1, len_num, num_0, num_1, atI_0, atI_1, atI_2, List.map, List.cons_append, List.nil_append, List.getElem?_cons_zero, List.getElem?_cons_succ, List.getElem?_nil, List.set_cons_zero, List.set_cons_succ, List.replicate, List.length_cons, List.length_nil, List.foldr_cons, List.foldr_nil, Nat.reduceAdd, Nat.reduceSub, List.replicate_succ, List.replicate_zero, G_up_same, decide_eq_true_eq, Bool.not_eq_true', Bool.false_eq_true, if_true, if_false, ite_true, ite_false, and_true, true_and, reduceCtorEq, Bool.not_true, Bool.not_false, Bool.false_bne, Bool.true_bne, sl0, sl1, sl2, sl3, sl4]
  refine c_told hd (by omega) fun q hq => ?_
  have K : KN g q (g.up q (tlds (tells ps))) [(q, tlds (tells ps))] := KN.start' hq
  rw [over_ref (K.get 0 _ _ rfl)]
  refine ⟨slN (by rw [tlds_len]; omega), fun s hs0 => ?_⟩
  have hqs := ne_of_known (K.get 0 _ _ rfl) hs0
  refine comp_nums (fun k => ((tells ps).getD k (0, 0, 0)).1) (fun _ => by rw [G_up_ne hqs]; exact G_up_same) (fun k x acc N hk hlt hN => ?_) ?_
  · obtain ⟨t, ht, rfl⟩ := tlds_at hk
    rw [getD_at ht] at hN
    simp only [mnS, mn, Mn.of, Op.rd, Cm.rd, Bl.rd, Mt.rd, Mt.rc, dNop, dSeq, dExpr, dRet, dRetN, dIf, gD, dAsg, dPar, dPut, dRaise, dVar, dC, dBin, dUn, dNil, dCons, dTup, dLst, dTst, dAndT, dOrT, dNotT, dYes, dAnd, dOr, dNot, dChain, dCall, dCB, dMt, dLset, dSrev, dTry, dIsx, dEmp, dStp, xsub, Ex.sub, dSlc, dPart, dNoPart, dIAny, dI1, dI2, dI3, dFor, dComp, compB, wipeD, startD, endsOf, at_mk, setAll, add_int, sub_int, mul_int, mul_tup, pow_int, mod_int, fdiv_int, lt_int, le_int, gt_int, ge_int, eq_int, neg_int, len_tup, len_scr, abs_int, max_int, min_int, int_int, int_bl, r1_int, r2_int, tuple_tup, list_tup, over_tup, rev_tup, enum_tup, zip_tup, slc_tup, add_tup, isi_any, ix_tup, ix_scr, ix_num0, ix_num1, len_num, num_0, num_1, atI_0, atI_1, atI_2, List.map, List.cons_append, List.nil_append, List.getElem?_cons_zero, List.getElem?_cons_succ, List.getElem?_nil, List.set_cons_zero, List.set_cons_succ, List.replicate, List.length_cons, List.length_nil, List.foldr_cons, List.foldr_nil, Nat.reduceAdd, Nat.reduceSub, List.replicate_succ, List.replicate_zero, G_up_same, decide_eq_true_eq, Bool.not_eq_true', Bool.false_eq_true, if_true, if_false, ite_true, ite_false, and_true, true_and, reduceCtorEq, Bool.not_true, Bool.not_false, Bool.false_bne, Bool.true_bne, sl0, sl1, sl2, sl3, sl4, tld]
    exact hN
  rw [tlds_len, map_fst_at (f := fun t => t.1)]
  have K := K_new (ys := nums (knots ps)) K hs0
  have hc : 2 ^ toldN ps * (3 * b + 2) ≤ 40000000 := Nat.le_trans (Nat.le_trans (Nat.le_add_left ..) (prSz_bsSz (toldN ps) b (3 * b + 2))) (Nat.le_trans (bsSz_mono (Nat.le_succ _)) hs)
  refine c_steps b (hd.le (K.fin hq)) hne hb hl (by omega) fun t ht => ?_
  have K := K_new (ys := nums (stepsT (tells ps))) K ht
  have hkn : Szs b (knots ps) := fun z hz => by
    obtain ⟨t, ht, rfl⟩ := List.mem_map.mp hz
    exact (htb t ht).1
  refine c_bySteps b (3 * b + 2) (K.get 1 _ _ rfl) (K.get 2 _ _ rfl) hkn (stepsT_grow htb) hb0 (by omega) (by rw [stepsT_len, htl]; omega) (by rw [stepsT_len, htl]; exact hs) fun r hr hrl hrs hre => ?_
  rw [stepsT_len, htl] at hrl hrs
  exact ⟨_, K.fin hq, h r hr hrl hrs hre⟩
end
end PP
namespace PP
open PySem PySem.Spec PyProof.Rows L2
structure TG (ts : List Told) : Prop where
  near : ∀ i j, i < j → j < ts.length → tx ts i = tx ts j → j = i + 1 ∧ tk ts j ≠ 0
  back : ∀ i, i < ts.length → tk ts i ≠ 0 → ∃ j, i = j + 1 ∧ tx ts j = tx ts i ∧ tk ts j = 0
theorem tx_mem {ts : List Told} {i : Nat} (h : i < ts.length) : (tx ts i, tk ts i, tv ts i) ∈ ts := by
  unfold tx tk tv
  rw [List.getD_eq_getElem?_getD, List.getElem?_eq_getElem h]
  exact List.getElem_mem h
theorem TG.nil : TG [] := ⟨fun i j _ h => (by cases h), fun i h => (by cases h)⟩
theorem TG.cons1 {ts : List Told} {x h : Rat} (T : TG ts) (hx : ∀ t ∈ ts, t.1 ≠ x) (h0 : tk ts 0 = 0 ∨ ts = []) : TG ((x, 0, h) :: ts) where
  near := fun i j hij hj e => by
    cases j with
    | zero => omega
    | succ j =>
      have hj : j < ts.length := by simpa using hj
      cases i with
      | zero => exact absurd (show tx ts j = x from e.symm) (hx _ (tx_mem hj))
      | succ i =>
        obtain ⟨a, b⟩ := T.near i j (by omega) hj e
        exact ⟨by omega, b⟩
  back := fun i hi e => by
    cases i with
    | zero => exact absurd rfl e
    | succ i =>
      have hi : i < ts.length := by simpa using hi
      obtain ⟨j, a, b, c⟩ := T.back i hi e
      exact ⟨j + 1, by omega, b, c⟩
theorem TG.cons2 {ts : List Told} {x h s : Rat} (T : TG ts) (hx : ∀ t ∈ ts, t.1 ≠ x) : TG ((x, 0, h) :: (x, 1, s) :: ts) where
  near := fun i j hij hj e => by
    cases j with
    | zero => omega
    | succ j =>
      cases j with
      | zero => exact ⟨by omega, by show (1 : Nat) ≠ 0; decide⟩
      | succ j =>
        have hj : j < ts.length := by simpa using hj
        cases i with
        | zero => exact absurd (show tx ts j = x from e.symm) (hx _ (tx_mem hj))
        | succ i =>
          cases i with
          | zero => exact absurd (show tx ts j = x from e.symm) (hx _ (tx_mem hj))
          | succ i =>
            obtain ⟨a, b⟩ := T.near i j (by omega) hj e
            exact ⟨by omega, b⟩
  back := fun i hi e => by
    cases i with
    | zero => exact absurd rfl e
    | succ i =>
      cases i with
      | zero => exact ⟨0, rfl, rfl, rfl⟩
      | succ i =>
        have hi : i < ts.length := by simpa using hi
        obtain ⟨j, a, b, c⟩ := T.back i hi e
        exact ⟨j + 2, by omega, b, c⟩
theorem tells_x {ps : List Pt} {t : Told} (h : t ∈ tells ps) : t.1 ∈ ps.map Pt.x := by
  induction ps with
  | nil => cases h
  | cons p ps ih =>
    rw [tells] at h
    rcases List.mem_append.mp h with h | h
    · obtain ⟨x, y, s⟩ := p
      cases s with
      | none => rw [List.mem_singleton.mp h]; exact List.mem_cons_self ..
      | some s =>
        rcases List.mem_cons.mp h with rfl | h
        · exact List.mem_cons_self ..
        · rw [List.mem_singleton.mp h]; exact List.mem_cons_self ..
    · exact List.mem_cons_of_mem _ (ih h)
theorem tells_tg {ps : List Pt} (h : (ps.map Pt.x).Nodup) : TG (tells ps) := by
  induction ps with
  | nil => exact TG.nil
  | cons p ps ih =>
    rw [List.map_cons, List.nodup_cons] at h
    have hx : ∀ t ∈ tells ps, t.1 ≠ p.x := fun t ht e => h.1 (e ▸ tells_x ht)
    obtain ⟨x, y, s⟩ := p
    cases s with
    | none => exact (ih h.2).cons1 hx (.inl tells_k0)
    | some s => exact (ih h.2).cons2 hx
section
variable {ts : List Told}
def pr (ts : List Told) (i : Nat) : Nat → Rat → Rat
  | 0, _ => 1
  | k + 1, x => pr ts i k x * (x - tx ts (i + k))
def nw (ts : List Told) (i : Nat) : Nat → Rat → Rat
  | 0, _ => tabT ts 0 i
  | k + 1, x => nw ts i k x + tabT ts (k + 1) i * pr ts i (k + 1) x
theorem pr_succ (i k : Nat) (x : Rat) : pr ts i (k + 1) x = pr ts i k x * (x - tx ts (i + k)) := rfl
theorem tab_succ (k i : Nat) : tabT ts (k + 1) i = if tx ts (i + (k + 1)) = tx ts i then tv ts (i + (k + 1)) else (tabT ts k (i + 1) - tabT ts k i) / (tx ts (i + (k + 1)) - tx ts i) := rfl
theorem pr_front (i k : Nat) (x : Rat) : pr ts i (k + 1) x = (x - tx ts i) * pr ts (i + 1) k x := by
  induction k with
  | zero => rw [pr, pr, pr, Nat.add_zero]; grind
  | succ k ih => rw [pr, ih, pr, show i + (k + 1) = i + 1 + k by omega]; grind
theorem pr_zero (i k j : Nat) (h1 : i ≤ j) (h2 : j < i + k) : pr ts i k (tx ts j) = 0 := by
  induction k with
  | zero => omega
  | succ k ih =>
    rw [pr]
    by_cases e : j = i + k
    · rw [e]; grind
    · rw [ih (by omega)]; grind
theorem pr_poly (i k : Nat) : PolyF (pr ts i k) := by
  induction k with
  | zero => exact PolyF.con 1
  | succ k ih => exact ih.mul (PolyF.id.sub (PolyF.con _))
theorem pr_double (i k j : Nat) (h1 : i ≤ j) (h2 : j + 1 < i + k) (e : tx ts j = tx ts (j + 1)) : ∃ c, ∀ x, pr ts i k x = (x - tx ts j) * (x - tx ts j) * ev c x := by
  induction k with
  | zero => omega
  | succ k ih =>
    by_cases z : j + 1 < i + k
    · obtain ⟨c, hc⟩ := ih z
      obtain ⟨d, hd⟩ := (PolyF.of c).mul (PolyF.id.sub (PolyF.con (tx ts (i + k))))
      exact ⟨d, fun x => by rw [pr, hc, ← hd x]; grind⟩
    · have hk : i + k = j + 1 := by omega
      cases k with
      | zero => omega
      | succ k =>
        obtain ⟨c, hc⟩ := pr_poly (ts := ts) i k
        exact ⟨c, fun x => by rw [pr, pr, hk, show i + k = j by omega, ← e, hc]; grind⟩
def Sl (f : Rat → Rat) (a s : Rat) : Prop := ∃ c, ∀ x, f x = f a + s * (x - a) + (x - a) * (x - a) * ev c x
theorem Sl.plus {f g : Rat → Rat} {a s : Rat} (h : Sl f a s) (T : Rat) (hg : ∃ c, ∀ x, g x = (x - a) * (x - a) * ev c x) : Sl (fun x => f x + T * g x) a s := by
  obtain ⟨c, hc⟩ := h
  obtain ⟨d, hd⟩ := hg
  refine ⟨padd c (d.map fun b => b * T), fun x => ?_⟩
  have hga := hd a
  have hgx := hd x
  have hcx := hc x
  rw [padd_ev, ev_map_mul]
  show f x + T * g x = f a + T * g a + s * (x - a) + (x - a) * (x - a) * (ev c x + ev d x * T)
  rw [hgx, hga, hcx]
  grind
theorem Sl.congr {f g : Rat → Rat} {a s : Rat} (h : Sl f a s) (e : ∀ x, g x = f x) : Sl g a s := by
  obtain ⟨c, hc⟩ := h
  exact ⟨c, fun x => by rw [e x, e a]; exact hc x⟩
theorem Sl.evd {r : List Rat} {a s : Rat} (h : Sl (ev r) a s) : PP.evd r a = s := by
  obtain ⟨c, hc⟩ := h
  rw [evd_divl]
  have := PolyF.eq (f := ev (divl r a)) (g := fun y => s + (y - a) * ev c y) (.of _) ((PolyF.con s).add ((PolyF.id.sub (PolyF.con a)).mul (.of c))) a (fun y hy => by
    have e1 := hc y
    have e2 := divl_ev r a y
    have hya : y - a ≠ 0 := fun z => hy (by grind)
    show ev (divl r a) y = s + (y - a) * ev c y
    grind) a
  rw [this]
  grind
theorem tab_rel (T : TG ts) {i k : Nat} (h : i + (k + 1) < ts.length) : tabT ts (k + 1) i * (tx ts (i + (k + 1)) - tx ts i) = tabT ts k (i + 1) - tabT ts k i := by
  rw [tabT]
  by_cases e : tx ts (i + (k + 1)) = tx ts i
  · obtain ⟨a, b⟩ := T.near i (i + (k + 1)) (by omega) h e.symm
    have hk : k = 0 := by omega
    subst hk
    rw [if_pos e, e, tabT, tabT, hAt, if_neg b]
    grind
  · rw [if_neg e]
    have : tx ts (i + (k + 1)) - tx ts i ≠ 0 := fun z => e (by grind)
    grind
theorem nw_back (T : TG ts) (k : Nat) : ∀ (i : Nat), i + (k + 1) < ts.length → ∀ x, nw ts i (k + 1) x = nw ts (i + 1) k x + tabT ts (k + 1) i * pr ts (i + 1) (k + 1) x := by
  induction k with
  | zero =>
    intro i h x
    have r := tab_rel T (i := i) (k := 0) h
    rw [nw, nw, nw, pr, pr, pr, pr, Nat.add_zero, Nat.add_zero]
    rw [show i + (0 + 1) = i + 1 by omega] at r
    grind
  | succ k ih =>
    intro i h x
    have r := tab_rel T (i := i) (k := k + 1) h
    have a := ih i (by omega) x
    rw [nw, a, nw, pr_front i (k + 1) x, pr_succ (i + 1) (k + 1)]
    rw [show i + (k + 1 + 1) = i + 1 + (k + 1) by omega] at r
    grind
theorem nw_height (T : TG ts) (k : Nat) : ∀ (i j : Nat), i + k < ts.length → i ≤ j → j ≤ i + k → nw ts i k (tx ts j) = tabT ts 0 j := by
  induction k with
  | zero =>
    intro i j h h1 h2
    rw [nw, show j = i by omega]
  | succ k ih =>
    intro i j h h1 h2
    by_cases e : j ≤ i + k
    · rw [nw, ih i j (by omega) h1 e, pr_zero i (k + 1) j h1 (by omega)]
      grind
    · rw [nw_back T k i h, ih (i + 1) j (by omega) (by omega) (by omega), pr_zero (i + 1) (k + 1) j (by omega) (by omega)]
      grind
theorem nw_slope (T : TG ts) (k : Nat) : ∀ (i j : Nat), i + k < ts.length → i ≤ j → j + 1 ≤ i + k → tx ts j = tx ts (j + 1) → Sl (nw ts i k) (tx ts j) (tv ts (j + 1)) := by
  induction k with
  | zero => intro i j h h1 h2; omega
  | succ k ih =>
    intro i j h h1 h2 e
    by_cases z : j + 1 ≤ i + k
    · exact (ih i j (by omega) h1 z e).plus (tabT ts (k + 1) i) (pr_double i (k + 1) j h1 (by omega) e)
    · by_cases w : i + 1 ≤ j
      · exact ((ih (i + 1) j (by omega) w (by omega) e).plus (tabT ts (k + 1) i) (pr_double (i + 1) (k + 1) j w (by omega) e)).congr (nw_back T k i h)
      · have hj : j = i := by omega
        have hk : k = 0 := by omega
        subst hj hk
        clear ih
        refine ⟨[], fun x => ?_⟩
        have e0 : ∀ y, nw ts j (0 + 1) y = tabT ts 0 j + tv ts (j + 1) * (y - tx ts j) := fun y => by
          rw [nw, nw, pr, pr, Nat.add_zero, tab_succ 0, Nat.zero_add, if_pos e.symm]
          grind
        rw [e0, e0, ev_nil]
        grind
theorem nw_nwt (ss ks : List Rat) (hk : ks = ts.map fun t => t.1) (hs : ss = stepsT ts) (k : Nat) (h : k < ts.length) (x : Rat) : nw ts 0 k x + pr ts 0 (k + 1) x * nwt (ks.drop (k + 1)) (ss.drop (k + 1)) x = nwt ks ss x := by
  have ek : ∀ i, i < ts.length → ks[i]? = some (tx ts i) := fun i hi => by
    rw [hk, List.getElem?_map, List.getElem?_eq_getElem hi]
    unfold tx
    rw [List.getD_eq_getElem?_getD, List.getElem?_eq_getElem hi]
    rfl
  have es : ∀ i, i < ts.length → ss[i]? = some (tabT ts i 0) := fun i hi => by
    rw [hs, stepsT, List.getElem?_map, List.getElem?_range hi]; rfl
  induction k with
  | zero =>
    have := nwt_drop (ek 0 h) (es 0 h) x
    rw [List.drop_zero, List.drop_zero] at this
    rw [this, nw, pr, pr]
    grind
  | succ k ih =>
    have a := ih (by omega)
    have b := nwt_drop (ek (k + 1) h) (es (k + 1) h) x
    rw [b] at a
    rw [nw, pr_succ 0 (k + 1), Nat.zero_add]
    grind
end
theorem through_val {ps : List Pt} {r : List Rat} (hn : (ps.map Pt.x).Nodup) (hr : ∀ x, ev r x = nwt (knots ps) (stepsT (tells ps)) x) {t : Told} (ht : t ∈ tells ps) : valAt r t = t.2.2 := by
  have T := tells_tg hn
  obtain ⟨i, hi⟩ := List.mem_iff_getElem?.mp ht
  have hlt := lt_of_at hi
  have et : t = (tx (tells ps) i, tk (tells ps) i, tv (tells ps) i) := by
    unfold tx tk tv
    rw [List.getD_eq_getElem?_getD, hi]; rfl
  have hev : ∀ x, ev r x = nw (tells ps) 0 ((tells ps).length - 1) x := fun x => by
    rw [hr x, ← nw_nwt (ts := tells ps) (stepsT (tells ps)) (knots ps) rfl rfl ((tells ps).length - 1) (by omega) x]
    rw [nwt_end (by rw [stepsT_len]; omega)]
    grind
  subst et
  unfold valAt
  by_cases h0 : tk (tells ps) i = 0
  · rw [if_pos h0]
    show ev r (tx (tells ps) i) = tv (tells ps) i
    rw [hev, nw_height T _ 0 i (by omega) (by omega) (by omega), tabT]
    cases i with
    | zero => rfl
    | succ i => rw [hAt, if_pos h0]
  · rw [if_neg h0]
    show evd r (tx (tells ps) i) = tv (tells ps) i
    obtain ⟨j, rfl, e, -⟩ := T.back i hlt h0
    rw [← e]
    exact ((nw_slope T ((tells ps).length - 1) 0 j (by omega) (by omega) (by omega) e).congr hev).evd
end PP
namespace PP
open PySem PySem.Spec PyProof.Rows L2
theorem told_point {ps : List Pt} {p : Pt} (h : p ∈ ps) : (p.x, 0, p.h) ∈ tells ps ∧ ∀ s, p.s = some s → (p.x, 1, s) ∈ tells ps := by
  induction ps with
  | nil => cases h
  | cons q ps ih =>
    rw [tells]
    rcases List.mem_cons.mp h with rfl | h
    · obtain ⟨x, y, s⟩ := p
      cases s with
      | none => exact ⟨List.mem_append_left _ (List.mem_cons_self ..), fun s e => by cases e⟩
      | some s => exact ⟨List.mem_append_left _ (List.mem_cons_self ..), fun s' e => by cases e; exact List.mem_append_left _ (List.mem_cons_of_mem _ (List.mem_cons_self ..))⟩
    · exact ⟨List.mem_append_right _ (ih h).1, fun s e => List.mem_append_right _ ((ih h).2 s e)⟩
end PP
namespace PP
open PySem PySem.Spec PyProof.Rows L2
end PP
namespace PP
open PySem PySem.Spec PyProof.Rows L2
end PP
namespace PP
open PySem PySem.Spec PyProof.Rows L2
end PP
namespace PP
open PySem PySem.Spec PyProof.Rows L2
end PP
namespace PP
open PySem PySem.Spec PyProof.Rows L2
def mark (x : Rat) (k : Nat) (v : Rat) (t : Told) : Rat := if t.1 = x ∧ t.2.1 = k then v else 0
end PP
namespace PP
open PySem PySem.Spec PyProof.Rows L2
section
variable {Γ : Nat → SpD} {gl : Nat → D} {ds : List D} {g : G} {Q : QD} {X : XD}
theorem KN.init {o : G} {a : Addr} {g : G} {L : List (Addr × List D)} {y : Addr × List D} (K : KN o a g (L ++ [y])) : KN o a g L where
  get := fun i b xs e => K.get i b xs (by rw [List.getElem?_append_left (lt_of_at e)]; exact e)
  nd := by have := K.nd; rw [List.map_append, List.nodup_append] at this; exact this.1
  own := fun b hb => K.own b (by rw [List.map_append]; exact List.mem_append_left _ hb)
  lea := K.lea
end
end PP
namespace PP
open PySem PySem.Spec PyProof.Rows L2
theorem PtSz.erase {b : Nat} {ps : List Pt} (h : PtSz b ps) (i : Nat) : PtSz b (ps.eraseIdx i) := fun p hp => h p (List.mem_of_mem_eraseIdx hp)
end PP
namespace PP
open PySem PySem.Spec PyProof.Rows L2
structure TabG (g : G) (p : Addr) (rs : List Addr) (rows : List (List Rat)) : Prop where
  top : g p = some (rs.map D.ref)
  row : ∀ (k : Nat) (r : Addr) (c : List Rat), rs[k]? = some r → rows[k]? = some c → g r = some (nums c)
  len : rs.length = rows.length
theorem TabG.le {g g' : G} {p : Addr} {rs : List Addr} {rows : List (List Rat)} (T : TabG g p rs rows) (l : g.le g') : TabG g' p rs rows := ⟨l _ _ T.top, fun k r c h1 h2 => l _ _ (T.row k r c h1 h2), T.len⟩
theorem TabG.get {g : G} {p : Addr} {rs : List Addr} {rows : List (List Rat)} (T : TabG g p rs rows) {k : Nat} {r : Addr} (h : rs[k]? = some r) : ∃ c, rows[k]? = some c ∧ g r = some (nums c) := by
  have hl := lt_of_at h
  have e := List.getElem?_eq_getElem (show k < rows.length by rw [← T.len]; exact hl)
  exact ⟨_, e, T.row k r _ h e⟩
section
variable {Γ : Nat → SpD} {gl : Nat → D} {ds : List D} {g : G} {Q : QD} {E X : XD}
def hts (ps : List Pt) : List Rat := rowT (tells ps) 0
end
end PP
namespace PP
open PySem PySem.Spec PyProof.Rows L2
theorem erase_mem {α : Type} [DecidableEq α] {x y : α} {l : List α} (h : y ∈ l) (hne : y ≠ x) : y ∈ l.erase x := (List.mem_erase_of_ne hne).mpr h
theorem nodup_le {α : Type} [DecidableEq α] : ∀ {l d : List α}, l.Nodup → (∀ x ∈ l, x ∈ d) → l.length ≤ d.length
  | [], d, _, _ => Nat.zero_le _
  | x :: l, d, h, hs => by
    have hx := hs x (List.mem_cons_self ..)
    rw [List.nodup_cons] at h
    have := nodup_le (l := l) (d := d.erase x) h.2 fun y hy => erase_mem (hs y (List.mem_cons_of_mem _ hy)) fun e => h.1 (e ▸ hy)
    rw [List.length_erase_of_mem hx] at this
    have : 0 < d.length := List.length_pos_of_mem hx
    rw [List.length_cons]; omega
theorem nodup_lt {α : Type} [DecidableEq α] : ∀ {d l : List α}, ¬ d.Nodup → l.Nodup → (∀ x ∈ l, x ∈ d) → l.length < d.length
  | [], l, h, _, _ => absurd List.nodup_nil h
  | x :: d, l, h, hl, hs => by
    by_cases hx : x ∈ d
    · have := nodup_le hl (d := d) fun y hy => by
        rcases List.mem_cons.mp (hs y hy) with rfl | hy
        · exact hx
        · exact hy
      rw [List.length_cons]; omega
    · have hd : ¬ d.Nodup := fun z => h (List.nodup_cons.mpr ⟨hx, z⟩)
      have := nodup_lt (l := l.erase x) hd (hl.erase _) fun y hy => by
        have hne : y ≠ x := fun e => by subst e; exact (List.Nodup.not_mem_erase hl) hy
        rcases List.mem_cons.mp (hs y (List.mem_of_mem_erase hy)) with e | hy
        · exact absurd e hne
        · exact hy
      by_cases hxl : x ∈ l
      · rw [List.length_erase_of_mem hxl] at this
        rw [List.length_cons]; omega
      · rw [List.erase_of_not_mem hxl] at this
        rw [List.length_cons]; omega
def parts (q : Rat) : List Int := [q.num, (q.den : Int)]
theorem parts_inj {p q : Rat} (h : parts p = parts q) : p = q := by
  unfold parts at h
  simp only [List.cons.injEq, and_true] at h
  exact Rat.ext h.1 (by omega)
theorem nums_parts (qs : List Rat) : nums qs = (qs.map parts).map fun k => D.tup (k.map D.int) := by
  unfold nums
  rw [List.map_map]; rfl
theorem parts_nd {qs : List Rat} : (qs.map parts).Nodup ↔ qs.Nodup := by
  constructor
  · exact fun h => List.Pairwise.of_map parts (fun _ _ hne e => hne (congrArg parts e)) h
  · exact fun h => List.Pairwise.map parts (fun _ _ hne e => hne (parts_inj e)) h
end PP
namespace PP
open PySem PySem.Spec PyProof.Rows L2
end PP
namespace PP
open PySem PySem.Spec PyProof.Rows L2
end PP
namespace PP
open PySem PySem.Spec PyProof.Rows L2
end PP
namespace PP
open PySem PySem.Spec PyProof.Rows L2
theorem coefs_eq {c d : List Rat} (h : ∀ x, ev c x = ev d x) (k : Nat) : coef c k = coef d k := by
  have e := trim_congr h
  have ct : ∀ (c : List Rat) (k : Nat), coef (trim c) k = coef c k := fun c k => by
    obtain ⟨m, hm⟩ := trim_split c
    by_cases hk : k < (trim c).length
    · have h1 := coef_lt hk
      have h2 : c[k]? = some (coef (trim c) k) := by
        have h3 : (trim c ++ List.replicate m 0)[k]? = some (coef (trim c) k) := by rw [List.getElem?_append_left hk]; exact h1
        rw [← hm] at h3
        exact h3
      exact (coef_at h2).symm
    · rw [coef_out (by omega)]
      by_cases hc : k < c.length
      · have h2 : c[k]? = some 0 := by
          rw [hm, List.getElem?_append_right (by omega), List.getElem?_replicate, if_pos]
          have := congrArg List.length hm
          simp at this
          omega
        exact (coef_at h2).symm
      · rw [coef_out (by omega)]
  rw [← ct c, ← ct d, e]
theorem less_len {r s t : List Rat} {N : Nat} (ht : Tight t) (hl : t.length ≤ N + 1) (hc : coef r N = coef s N) (he : ∀ x, ev t x = ev r x - ev s x) (hr : r.length ≤ N + 1) (hs : s.length ≤ N + 1) : t.length ≤ N := by
  have h1 : ∀ x, ev t x = ev ((List.range (N + 1)).map fun k => coef r k - coef s k) x := fun x => by
    rw [he, ev_map_sub, ev_range_coef hr, ev_range_coef hs]
  have h2 := coefs_eq h1 N
  have h3 : coef ((List.range (N + 1)).map fun k => coef r k - coef s k) N = 0 := by
    have : ((List.range (N + 1)).map fun k => coef r k - coef s k)[N]? = some (coef r N - coef s N) := by
      rw [List.getElem?_map, List.getElem?_range (by omega)]; rfl
    rw [coef_at this, hc]; grind
  rw [h3] at h2
  rcases Nat.lt_or_ge N t.length with h | h
  · rcases List.eq_nil_or_concat t with rfl | ⟨q, a, rfl⟩
    · simp at h
    · simp only [List.concat_eq_append, List.length_append, List.length_cons, List.length_nil] at *
      have e : q.length = N := by omega
      have : (q ++ [a])[N]? = some a := by rw [← e]; simp
      rw [coef_at this] at h2
      subst h2
      exact absurd rfl (ht 0 (by simp))
  · exact h
theorem ev_lift (k : Nat) (o : List Rat) (x : Rat) : ev (List.replicate k 0 ++ o) x = x ^ k * ev o x := by
  rw [ev_app, ev_zeros, List.length_replicate]; grind
theorem coef_lift (d k : Nat) (o : List Rat) : coef (List.replicate d 0 ++ o) (d + k) = coef o k := by
  by_cases h : k < o.length
  · refine coef_at ?_
    rw [List.getElem?_append_right (by simp), List.length_replicate, Nat.add_sub_cancel_left]
    exact coef_lt h
  · rw [coef_out (by simp; omega), coef_out (by omega)]
theorem coef_setne {t : List Rat} {d i : Nat} {q : Rat} (h : d ≠ i) (hi : i < t.length) : coef (t.set d q) i = coef t i :=
  coef_at (by rw [List.getElem?_set_ne h]; exact coef_lt hi)
theorem coef_seteq {t : List Rat} {d : Nat} {q : Rat} (hi : d < t.length) : coef (t.set d q) d = q := coef_at (List.getElem?_set_self hi)
theorem rep_zero (d : Nat) : repD (d : Int) [num 0] = nums (List.replicate d 0) := by
  unfold repD
  rw [Int.toNat_natCast]
  induction d with
  | zero => rfl
  | succ d ih => rw [List.replicate_succ, List.flatten_cons, ih, List.replicate_succ]; rfl
def sx_divided_1 : SX :=
  (.ret (.tup (.cons (.call 23 (.cons (.v 2) .nil)) (.cons (.v 3) .nil))) .nil)
def sx_divided_2 : SX :=
  (.asg (.n 2) (.comp [5] (.n 5) (.range1 (.blt .max (.cons (.int 0) (.cons (.bin .add (.bin .sub (.blt .len (.cons (.v 0) .nil)) (.blt .len (.cons (.v 1) .nil))) (.int 1)) .nil)))) .yes (.glo 0))
  (.asg (.n 3) (.v 0)
  (.whl (.cmp .ge (.blt .len (.cons (.v 3) .nil)) (.blt .len (.cons (.v 1) .nil)))
    (.asg (.n 4) (.bin .sub (.blt .len (.cons (.v 3) .nil)) (.blt .len (.cons (.v 1) .nil)))
    (.put (.v 2) (.v 4) (.call 14 (.cons (.ix (.v 3) (.neg (.int 1))) (.cons (.ix (.v 1) (.neg (.int 1))) .nil)))
    (.asg (.n 3) (.call 32 (.cons (.v 3) (.cons (.bin .add (.bin .mul (.tup (.cons (.glo 0) .nil)) (.v 4)) (.call 33 (.cons (.v 1) (.cons (.ix (.v 2) (.v 4)) .nil)))) .nil))) .nil)))
  sx_divided_1)))
def sx_divided : SX :=
  (.ite (.cmp .eq (.v 1) (.tup .nil))
    (.raise .ncurve .nil)
    .nil
  sx_divided_2)
abbrev ns_divided : List Str := ["one", "other", "often", "rest", "at", "k"]
section
variable {Γ : Nat → SpD} {gl : Nat → D} {ds : List D} {g : G} {Q : QD} {E X : XD}
structure DivOk (p o t r : List Rat) : Prop where
  tt : Tight t
  tr : Tight r
  lt : t.length = p.length + 1 - o.length
  lr : r.length < o.length
  e : ∀ x, ev p x = ev t x * ev o x + ev r x
end
end PP
namespace PP
open PySem PySem.Spec PyProof.Rows L2
end PP
namespace PP
open PySem PySem.Spec PyProof.Rows L2
theorem pmul_le (p q : List Rat) : (pmul p q).length ≤ p.length + q.length := by
  induction p with
  | nil => simp [pmul]
  | cons a p ih => rw [pmul, padd_len]; simp; omega
theorem tight_ne {d : List Rat} (h : d ≠ []) (ht : Tight d) : ∃ d0 a, d = d0 ++ [a] ∧ a ≠ 0 := by
  rcases List.eq_nil_or_concat d with rfl | ⟨q, a, rfl⟩
  · exact absurd rfl h
  · exact ⟨q, a, List.concat_eq_append .., ht a (by simp)⟩
theorem tight_snoc {d : List Rat} {a : Rat} (h : a ≠ 0) : Tight (d ++ [a]) := fun q hq => by
  simp at hq
  subst hq
  exact h
theorem tight_prod {d o : List Rat} (hd0 : d ≠ []) (ho0 : o ≠ []) (hd : Tight d) (ho : Tight o) : ∃ c, Tight c ∧ c.length + 1 = d.length + o.length ∧ (∀ x, ev c x = ev d x * ev o x) ∧ c.getLast? = some (d.getLast hd0 * o.getLast ho0) := by
  obtain ⟨d0, a, rfl, ha⟩ := tight_ne hd0 hd
  obtain ⟨o0, b, rfl, hb⟩ := tight_ne ho0 ho
  have hab : a * b ≠ 0 := fun z => by rcases Rat.mul_eq_zero.mp z with h | h; exact ha h; exact hb h
  refine ⟨(List.range (d0.length + o0.length)).map (coef (padd (pmul d0 o0) (padd (List.replicate o0.length 0 ++ d0.map fun q => q * b) (List.replicate d0.length 0 ++ o0.map fun q => q * a)))) ++ [a * b], tight_snoc hab, by simp; omega, fun x => ?_, by simp⟩
  have hl := pmul_le d0 o0
  rw [ev_snoc, ev_range_coef (by rw [padd_len, padd_len]; simp; omega), padd_ev, padd_ev, pmul_ev, ev_lift, ev_lift, ev_map_mul, ev_map_mul, ev_snoc, ev_snoc, List.length_map, List.length_range, pow_add']
  grind
theorem DivOk.uniq {p o t r t' r' : List Rat} (ho : Tight o) (h : DivOk p o t r) (h' : DivOk p o t' r') : t = t' ∧ r = r' := by
  have h0 : o ≠ [] := fun z => by have := h.lr; rw [z] at this; simp at this
  have key : ∀ x, ev t x = ev t' x := by
    by_cases hd : trim (padd t (pneg t')) = []
    · intro x
      have := ev_trim (padd t (pneg t')) x
      rw [hd, ev_nil, padd_ev, pneg_ev] at this
      grind
    · obtain ⟨c, hc, hcl, hce, -⟩ := tight_prod hd h0 (trim_tight _) ho
      have e : c = trim (padd r' (pneg r)) := tight_congr hc (trim_tight _) fun x => by
        rw [hce, ev_trim, ev_trim, padd_ev, padd_ev, pneg_ev, pneg_ev]
        have a := h.e x
        have b := h'.e x
        grind
      have l1 := trim_len (padd r' (pneg r))
      rw [padd_len, pneg_len, ← e] at l1
      have l2 := h.lr
      have l3 := h'.lr
      have l4 : 0 < (trim (padd t (pneg t'))).length := List.length_pos_iff.mpr hd
      omega
  refine ⟨tight_congr h.tt h'.tt key, tight_congr h.tr h'.tr fun x => ?_⟩
  have a := h.e x
  have b := h'.e x
  rw [key x] at a
  grind
end PP
namespace PP
open PySem PySem.Spec PyProof.Rows L2
def Dv (c p : List Rat) : Prop := ∃ q, ∀ x, ev p x = ev c x * ev q x
theorem dv_nil {c : List Rat} : Dv c [] := ⟨[], fun x => by rw [ev_nil]; grind⟩
theorem dv_refl {c : List Rat} : Dv c c := ⟨[1], fun x => by rw [ev_cons, ev_nil]; grind⟩
theorem dv_trans {a b c : List Rat} (h : Dv a b) (h' : Dv b c) : Dv a c := by
  obtain ⟨q, hq⟩ := h
  obtain ⟨r, hr⟩ := h'
  exact ⟨pmul q r, fun x => by rw [hr, hq, pmul_ev]; grind⟩
theorem dv_sub {c p o t r : List Rat} (h : ∀ x, ev p x = ev t x * ev o x + ev r x) (h1 : Dv c p) (h2 : Dv c o) : Dv c r := by
  obtain ⟨q, hq⟩ := h1
  obtain ⟨s, hs⟩ := h2
  refine ⟨padd q (pneg (pmul t s)), fun x => ?_⟩
  have a := h x
  rw [hq x, hs x] at a
  rw [padd_ev, pneg_ev, pmul_ev]
  grind
theorem dv_add {c p o t r : List Rat} (h : ∀ x, ev p x = ev t x * ev o x + ev r x) (h1 : Dv c r) (h2 : Dv c o) : Dv c p := by
  obtain ⟨q, hq⟩ := h1
  obtain ⟨s, hs⟩ := h2
  refine ⟨padd q (pmul t s), fun x => ?_⟩
  have a := h x
  rw [hq x, hs x] at a
  rw [padd_ev, pmul_ev]
  grind
theorem dv_scale {a b : List Rat} {k : Rat} (hk : k ≠ 0) (h : ∀ x, ev a x = ev b x * k) : Dv a b ∧ Dv b a :=
  ⟨⟨[1 / k], fun x => by rw [ev_cons, ev_nil, h x]; grind⟩, ⟨[k], fun x => by rw [ev_cons, ev_nil, h x]; grind⟩⟩
theorem dv_len {c p : List Rat} (hc : Tight c) (hp : Tight p) (h : Dv c p) (hp0 : p ≠ []) : c ≠ [] ∧ c.length ≤ p.length := by
  obtain ⟨q, hq⟩ := h
  have hc0 : c ≠ [] := fun z => by
    have := tight_congr hp tight_nil fun x => by rw [hq, z, ev_nil]; grind
    exact hp0 this
  refine ⟨hc0, ?_⟩
  by_cases hq0 : trim q = []
  · have := tight_congr hp tight_nil fun x => by rw [hq, ← ev_trim q, hq0, ev_nil]; grind
    exact absurd this hp0
  · obtain ⟨r, hr, hrl, hre, -⟩ := tight_prod hc0 hq0 hc (trim_tight q)
    have e : r = p := tight_congr hr hp fun x => by rw [hre, hq, ev_trim]
    have := List.length_pos_iff.mpr hq0
    rw [e] at hrl
    omega
theorem dv_eq {c p : List Rat} (hc : Tight c) (hp : Tight p) (c1 : c.getLast? = some 1) (p1 : p.getLast? = some 1) (h : Dv c p) (h' : Dv p c) : c = p := by
  have hc0 : c ≠ [] := fun z => by rw [z] at c1; cases c1
  have hp0 : p ≠ [] := fun z => by rw [z] at p1; cases p1
  have l := (dv_len hp hc h' hc0).2
  obtain ⟨q, hq⟩ := h
  have hq0 : trim q ≠ [] := fun z => hp0 (tight_congr hp tight_nil fun x => by rw [hq, ← ev_trim q, z, ev_nil]; grind)
  obtain ⟨r, hr, hrl, hre, hlast⟩ := tight_prod hq0 hc0 (trim_tight q) hc
  have e : r = p := tight_congr hr hp fun x => by rw [hre, hq, ev_trim]; grind
  subst e
  have : (trim q).length = 1 := by have := List.length_pos_iff.mpr hq0; omega
  obtain ⟨k, hk⟩ := List.length_eq_one_iff.mp this
  have hk1 : k = 1 := by
    rw [p1] at hlast
    have a : (trim q).getLast hq0 = k := by simp [hk]
    have b : c.getLast hc0 = 1 := by
      have := List.getLast?_eq_getLast hc0
      rw [c1] at this
      exact (Option.some.inj this).symm
    rw [a, b] at hlast
    have := Option.some.inj hlast
    grind
  refine tight_congr hc hp fun x => ?_
  rw [hq, ← ev_trim q, hk, ev_cons, ev_nil, hk1]
  grind
def monic (p : List Rat) : List Rat := p.map fun a => a * (1 / p.getLast?.getD 0)
theorem monic_ev (p : List Rat) (x : Rat) : ev (monic p) x = ev p x * (1 / p.getLast?.getD 0) := ev_map_mul ..
theorem last_ne {p : List Rat} (hp : Tight p) (h : p ≠ []) : p.getLast?.getD 0 ≠ 0 := by
  obtain ⟨d, a, rfl, ha⟩ := tight_ne h hp
  simpa using ha
theorem monic_last {p : List Rat} (hp : Tight p) (h : p ≠ []) : (monic p).getLast? = some 1 := by
  obtain ⟨d, a, rfl, ha⟩ := tight_ne h hp
  simp [monic]
  grind
theorem monic_tight {p : List Rat} (hp : Tight p) (h : p ≠ []) : Tight (monic p) := fun q hq => by
  rw [monic_last hp h] at hq
  cases hq
  decide
theorem monic_dv {p : List Rat} (hp : Tight p) (h : p ≠ []) : Dv (monic p) p ∧ Dv p (monic p) := dv_scale (by have := last_ne hp h; grind) (monic_ev p)
structure GcdOk (p o d : List Rat) : Prop where
  t : Tight d
  m : d.getLast? = some 1
  c : ∀ c, Dv c d ↔ Dv c p ∧ Dv c o
theorem GcdOk.ne {p o d : List Rat} (h : GcdOk p o d) : d ≠ [] := fun z => by have := h.m; rw [z] at this; cases this
theorem GcdOk.d1 {p o d : List Rat} (h : GcdOk p o d) : Dv d p := ((h.c d).mp dv_refl).1
theorem GcdOk.d2 {p o d : List Rat} (h : GcdOk p o d) : Dv d o := ((h.c d).mp dv_refl).2
theorem GcdOk.uniq {p o d p' o' d' : List Rat} (h : GcdOk p o d) (h' : GcdOk p' o' d') (e : ∀ c, Dv c p ∧ Dv c o ↔ Dv c p' ∧ Dv c o') : d = d' :=
  dv_eq h.t h'.t h.m h'.m ((h'.c d).mpr ((e d).mp ((h.c d).mp dv_refl))) ((h.c d').mpr ((e d').mpr ((h'.c d').mp dv_refl)))
def sx_with_last_one : SX :=
  (.ret (.call 33 (.cons (.v 0) (.cons (.call 14 (.cons (.glo 1) (.cons (.ix (.v 0) (.neg (.int 1))) .nil))) .nil))) .nil)
abbrev ns_with_last_one : List Str := ["curve"]
def sx_common_part_1 : SX :=
  (.ret (.call 49 (.cons (.v 0) .nil)) .nil)
def sx_common_part_2 : SX :=
  (.whl (.cmp .ne (.v 1) (.tup .nil))
    (.par 0 1 (.v 1) (.ix (.call 44 (.cons (.v 0) (.cons (.v 1) .nil))) (.int 1)) .nil)
  sx_common_part_1)
def sx_common_part : SX :=
  (.ite (.and (.cmp .eq (.v 0) (.tup .nil)) (.cmp .eq (.v 1) (.tup .nil)))
    (.raise .ncurve .nil)
    .nil
  sx_common_part_2)
abbrev ns_common_part : List Str := ["one", "other"]
section
variable {Γ : Nat → SpD} {gl : Nat → D} {ds : List D} {g : G} {Q : QD} {E X : XD}
def spLastOne : SpD := fun ds g Q _ => ∃ p b, ds = [.tup (nums p)] ∧ Szs b p ∧ Tight p ∧ p ≠ [] ∧ b ≤ 49000000 ∧ p.length ≤ 100 ∧ Q (.tup (nums (monic p))) g
theorem pure_with_last_one (h14 : Γ 14 = spOver) (h33 : Γ 33 = spScaled) (hg1 : gl 1 = .tup [.int 1, .int 1]) (h : spLastOne ds g Q E) : mnS Γ gl sx_with_last_one (endsOf Q E) (startD ns_with_last_one ds) g := by
  obtain ⟨p, b, rfl, hp, ht, h0, hb, hl, h⟩ := h
  obtain ⟨d, l, rfl, hl0⟩ := tight_ne h0 ht
  have hs := hp l (by simp)
  have h2 := sz_div 1 l
  have h1 := sz_1
  have e1 : atI (nums (d ++ [l])) (-1) = some (num l) := by
    rw [show nums (d ++ [l]) = nums d ++ [num l] by simp [nums]]; exact atI_last
  simp only [sx_with_last_one, h14, h33, hg1, mnS, mn, Mn.of, Op.rd, Cm.rd, Bl.rd, Mt.rd, Mt.rc, dNop, dSeq, dExpr, dRet, dRetN, dIf, gD, dAsg, dPar, dPut, dRaise, dVar, dC, dBin, dUn, dNil, dCons, dTup, dLst, dTst, dAndT, dOrT, dNotT, dYes, dAnd, dOr, dNot, dChain, dCall, dCB, dMt, dLset, dSrev, dTry, dIsx, dEmp, dStp, xsub, Ex.sub, dSlc, dPart, dNoPart, dIAny, dI1, dI2, dI3, dFor, dComp, compB, wipeD, startD, endsOf, at_mk, setAll, add_int, sub_int, mul_int, mul_tup, pow_int, mod_int, fdiv_int, lt_int, le_int, gt_int, ge_int, eq_int, neg_int, len_tup, len_scr, abs_int, max_int, min_int, int_int, int_bl, r1_int, r2_int, tuple_tup, list_tup, over_tup, rev_tup, enum_tup, zip_tup, slc_tup, add_tup, isi_any, ix_tup, ix_scr, ix_num0, ix_num1, len_num, num_0, num_1, atI_0, atI_1, atI_2, List.map, List.cons_append, List.nil_append, List.getElem?_cons_zero, List.getElem?_cons_succ, List.getElem?_nil, List.set_cons_zero, List.set_cons_succ, List.replicate, List.length_cons, List.length_nil, List.foldr_cons, List.foldr_nil, Nat.reduceAdd, Nat.reduceSub, List.replicate_succ, List.replicate_zero, G_up_same, decide_eq_true_eq, Bool.not_eq_true', Bool.false_eq_true, if_true, if_false, ite_true, ite_false, and_true, true_and, reduceCtorEq, Bool.not_true, Bool.not_false, Bool.false_bne, Bool.true_bne, sl0, sl1, sl2, sl3, sl4, e1, num_1, c_over]
  refine ⟨by omega, fun z => absurd z hl0, fun _ => ?_⟩
  refine c_scaledB b (b + 1) hp (by omega) (by omega) hl fun r hr hrl hrs hre => ?_
  have e : r = monic (d ++ [l]) := tight_congr hr (monic_tight ht h0) fun x => by rw [hre, monic_ev]; simp
  subst e
  exact ⟨_, G.le_refl _, h⟩
end
end PP
namespace PP
open PySem PySem.Spec PyProof.Rows L2
def lpr : List Rat → Rat → Rat
  | [], _ => 1
  | k :: ks, x => (x - k) * lpr ks x
theorem lpr_snoc (ks : List Rat) (k x : Rat) : lpr (ks ++ [k]) x = lpr ks x * (x - k) := by
  induction ks with
  | nil => rw [List.nil_append, lpr, lpr, lpr]; grind
  | cons a ks ih => rw [List.cons_append, lpr, lpr, ih]; grind
theorem lpr_zero {ks : List Rat} {x : Rat} : lpr ks x = 0 ↔ x ∈ ks := by
  induction ks with
  | nil => rw [lpr]; simp
  | cons a ks ih =>
    rw [lpr, List.mem_cons, ← ih]
    constructor
    · intro h
      rcases Rat.mul_eq_zero.mp h with z | z
      · exact .inl (by grind)
      · exact .inr z
    · rintro (rfl | z)
      · grind
      · rw [z]; grind
section
variable {Γ : Nat → SpD} {gl : Nat → D} {ds : List D} {g : G} {Q : QD} {E X : XD}
theorem line_tight {q : Rat} : Tight [-q, 1] := fun z hz => by
  simp at hz
  rw [← hz]
  decide
theorem line_szs {b : Nat} {q : Rat} (h : sz q ≤ b) (hb : 1 ≤ b) : Szs b [-q, 1] := fun z hz => by
  simp at hz
  rcases hz with rfl | rfl
  · rw [sz_neg]; exact h
  · rw [sz_1]; exact hb
theorem line_ev (q x : Rat) : ev [-q, 1] x = x - q := by rw [ev_cons, ev_cons, ev_nil]; grind
end
end PP
namespace PP
open PySem PySem.Spec PyProof.Rows L2
theorem find_npys {q : Rat} {qs : List Rat} (h : q ∈ qs) : ∃ j, (npys qs).findIdx? (fun z => PyData.eqv z (npy q)) = some j ∧ qs[j]? = some q := by
  induction qs with
  | nil => cases h
  | cons k qs ih =>
    unfold npys at *
    rw [List.map_cons, List.findIdx?_cons]
    by_cases e : k = q
    · subst e
      rw [(eqv_eq _ _ (nice_num k).plain (nice_num k).plain).mpr rfl]
      exact ⟨0, rfl, rfl⟩
    · rcases List.mem_cons.mp h with z | z
      · exact absurd z.symm e
      · obtain ⟨j, h1, h2⟩ := ih z
        rw [Bool.eq_false_iff.mpr fun z => e (npy_inj ((eqv_eq _ _ (nice_num k).plain (nice_num q).plain).mp z))]
        rw [h1]
        exact ⟨j + 1, rfl, h2⟩
theorem index_nums {a : Addr} {q : Rat} {qs : List Rat} {g : G} {Q : QD} (h : g a = some (nums qs)) (hq : q ∈ qs) (k : ∀ j : Nat, qs[j]? = some q → Q (.int (j : Int)) g) : mIndex (.ref a) [num q] g Q := by
  unfold mIndex
  obtain ⟨j, h1, h2⟩ := find_npys hq
  simp only [pyN_list h, show py g (num q) = some (npy q) from rfl, h1]
  exact ⟨(nice_list (nice_nums qs)).shaped (by decide), (nice_num q).shaped (by decide), k j h2⟩
end PP
namespace PP
open PySem PySem.Spec PyProof.Rows L2
theorem take_s {α : Type} {ks : List α} {j : Nat} {z : α} (h : ks[j]? = some z) : ks.take (j + 1) = ks.take j ++ [z] := by
  have hl := lt_of_at h
  rw [List.take_succ_eq_append_getElem hl]
  rw [List.getElem?_eq_getElem hl] at h
  cases h; rfl
theorem Szs.take {b : Nat} {ks : List Rat} (h : Szs b ks) (j : Nat) : Szs b (ks.take j) := fun z hz => h z (List.mem_of_mem_take hz)
def GoodK (ks : List Rat) : Prop := ks ≠ [] ∧ ks.length ≤ 12 ∧ ks.Nodup
theorem GoodK.pos {ks : List Rat} (h : GoodK ks) : 0 < ks.length := List.length_pos_iff.mpr h.1
end PP
namespace PP
open PySem PySem.Spec PyProof.Rows L2
end PP
namespace PP
open PySem PySem.Spec PyProof.Rows L2
end PP
namespace PP
open PySem PySem.Spec PyProof.Rows L2
end PP
namespace PP
open PySem PySem.Spec PyProof.Rows L2
end PP
namespace PP
open PySem PySem.Spec PyProof.Rows L2
def sx_ask_places_v2 : SX :=
  (.ite (.or (.not (.chain .le .le (.v 1) (.blt .len (.cons (.v 0) .nil)) (.glo 2))) (.cmp .lt (.lset (.v 0)) (.blt .len (.cons (.v 0) .nil))))
    (.raise .npoints .nil)
    .nil .nil)
abbrev ns_ask_places_v2 : List Str := ["places", "least"]
def sx_nought_at_1 : SX :=
  (.ret (.v 1) .nil)
def sx_nought_at : SX :=
  (.asg (.n 1) (.tup (.cons (.glo 1) .nil))
  (.for_ (.n 2) (.over (.v 0))
    (.asg (.n 1) (.call 34 (.cons (.v 1) (.cons (.tup (.cons (.call 12 (.cons (.glo 0) (.cons (.v 2) .nil))) (.cons (.glo 1) .nil))) .nil))) .nil)
  sx_nought_at_1))
abbrev ns_nought_at : List Str := ["places", "found", "x"]
def risIns (f : List Rat) (x : Rat) : List Rat := f.take (f.filter fun z => decide (z < x)).length ++ [x] ++ f.drop (f.filter fun z => decide (z < x)).length
theorem risIns_len (f : List Rat) (x : Rat) : (risIns f x).length = f.length + 1 := by
  have := List.length_filter_le (fun z => decide (z < x)) f
  unfold risIns
  simp only [List.length_append, List.length_take, List.length_drop, List.length_singleton]
  omega
theorem fold_len (xs : List Rat) : ∀ f : List Rat, (xs.foldl risIns f).length = f.length + xs.length := by
  induction xs with
  | nil => intro f; rfl
  | cons x xs ih => intro f; rw [List.foldl_cons, ih, risIns_len, List.length_cons]; omega
theorem risIns_mem {f : List Rat} {x z : Rat} (h : z ∈ risIns f x) : z = x ∨ z ∈ f := by
  unfold risIns at h
  rcases List.mem_append.mp h with h | h
  · rcases List.mem_append.mp h with h | h
    · exact .inr (List.mem_of_mem_take h)
    · exact .inl (List.mem_singleton.mp h)
  · exact .inr (List.mem_of_mem_drop h)
theorem fold_mem {xs : List Rat} {z : Rat} : ∀ {f : List Rat}, z ∈ xs.foldl risIns f → z ∈ xs ∨ z ∈ f := by
  induction xs with
  | nil => intro f h; exact .inr h
  | cons x xs ih =>
    intro f h
    rcases ih h with h | h
    · exact .inl (List.mem_cons_of_mem _ h)
    · rcases risIns_mem h with h | h
      · exact .inl (h ▸ List.mem_cons_self ..)
      · exact .inr h
section
variable {Γ : Nat → SpD} {gl : Nat → D} {ds : List D} {g : G} {Q : QD} {E X : XD}
theorem ins_ref {a : Addr} {xs : List D} {i : Int} {y : D} (h : g a = some xs) : mInsert (.ref a) [.int i, y] g Q = (xs.length < sizeLine ∧ 0 ≤ i ∧ i < 2 ^ 63 ∧ Q .non (g.up a (xs.take i.toNat ++ [y] ++ xs.drop i.toNat))) := by unfold mInsert; simp only [h] <;> rfl
def Places (least : Int) (ks : List Rat) : Prop := least ≤ ks.length ∧ ks.length ≤ 12 ∧ ks.Nodup
def spAskPl : SpD := fun ds g Q X => ∃ a ks n, ds = [.ref a, .int n] ∧ g a = some (nums ks) ∧ ks.length ≤ 40 ∧ (¬ Places n ks → X .npoints g) ∧ (Places n ks → Q .non g)
theorem pure_ask_places_v2 (hg : gl 2 = .int 12) (h : spAskPl ds g Q E) : mnS Γ gl sx_ask_places_v2 (endsOf Q E) (startD ns_ask_places_v2 ds) g := by
  obtain ⟨a, ks, n, rfl, ha, hl, hX, h⟩ := h
  simp only [sx_ask_places_v2, hg, mnS, mn, Mn.of, Op.rd, Cm.rd, Bl.rd, Mt.rd, Mt.rc, dNop, dSeq, dExpr, dRet, dRetN, dIf, gD, dAsg, dPar, dPut, dRaise, dVar, dC, dBin, dUn, dNil, dCons, dTup, dLst, dTst, dAndT, dOrT, dNotT, dYes, dAnd, dOr, dNot, dChain, dCall, dCB, dMt, dLset, dSrev, dTry, dIsx, dEmp, dStp, xsub, Ex.sub, dSlc, dPart, dNoPart, dIAny, dI1, dI2, dI3, dFor, dComp, compB, wipeD, startD, endsOf, at_mk, setAll, add_int, sub_int, mul_int, mul_tup, pow_int, mod_int, fdiv_int, lt_int, le_int, gt_int, ge_int, eq_int, neg_int, len_tup, len_scr, abs_int, max_int, min_int, int_int, int_bl, r1_int, r2_int, tuple_tup, list_tup, over_tup, rev_tup, enum_tup, zip_tup, slc_tup, add_tup, isi_any, ix_tup, ix_scr, ix_num0, ix_num1, len_num, num_0, num_1, atI_0, atI_1, atI_2, List.map, List.cons_append, List.nil_append, List.getElem?_cons_zero, List.getElem?_cons_succ, List.getElem?_nil, List.set_cons_zero, List.set_cons_succ, List.replicate, List.length_cons, List.length_nil, List.foldr_cons, List.foldr_nil, Nat.reduceAdd, Nat.reduceSub, List.replicate_succ, List.replicate_zero, G_up_same, decide_eq_true_eq, Bool.not_eq_true', Bool.false_eq_true, if_true, if_false, ite_true, ite_false, and_true, true_and, reduceCtorEq, Bool.not_true, Bool.not_false, Bool.false_bne, Bool.true_bne, sl0, sl1, sl2, sl3, sl4, len_ref ha, nums_len, ha]
  split
  · rename_i h1
    split
    · rename_i h2
      exact ⟨_, G.le_refl _, hX fun z => by have := z.2.1; simp at h2; omega⟩
    · rename_i h2
      have h2 : (ks.length : Int) ≤ 12 := by simpa using h2
      refine ⟨by omega, ks.map parts, nums_parts _, fun L n1 n2 n3 => ?_⟩
      by_cases hn : ks.Nodup
      · have h3 := nodup_le (parts_nd.mpr hn) n3
        rw [List.length_map] at h3
        rw [if_neg (by omega)]
        exact ⟨_, G.le_refl _, h ⟨h1, by omega, hn⟩⟩
      · have h3 := nodup_lt (fun z => hn (parts_nd.mp z)) n1 n2
        rw [List.length_map] at h3
        rw [if_pos (by omega)]
        exact ⟨_, G.le_refl _, hX fun z => hn z.2.2⟩
  · rename_i h1
    exact ⟨_, G.le_refl _, hX fun z => h1 z.1⟩
end
end PP
namespace PP
open PySem PySem.Spec PyProof.Rows L2
section
variable {Γ : Nat → SpD} {gl : Nat → D} {ds : List D} {g : G} {Q : QD} {X : XD}
theorem K_whole {o : G} {a p : Addr} {xs : List D} {n cnt m : Nat} {L : List (Addr × List D)} {f : Nat → Nat → Int} {body : D → G → (Option D → G → Prop) → Prop} {fin : G → Prop} (K : KN o a g ((a, xs) :: L)) (hp0 : g p = none) (hp : PenL xs n) (hn : n + cnt < 2 ^ 50)
    (hbody : ∀ (k : Nat) (g' : G) (xs' : List D) (M : List (Addr × List D)) (N : Option D → G → Prop), k < cnt → PenL xs' (n + k) → KN o a g' ((a, xs') :: M) → (∀ d xs'' g'', d < m → PenL xs'' (n + k + 1) → KN o a g'' ((a, xs'') :: M) → N (some (num ((f k d : Int) : Rat))) g'') → body (.int (0 + (k : Int))) g' N)
    (h : ∀ (zs : List Int) xs' g', zs.length = cnt → (∀ i z, zs[i]? = some z → ∃ d, d < m ∧ z = f i d) → PenL xs' (n + cnt) → KN o a g' ((a, xs') :: (L ++ [(p, nums (zs.map fun z : Int => (z : Rat)))])) → fin g') :
    compD (fun _ => True) p body fin (rangeD 0 cnt) [] (g.up p []) := by
  refine comp_inv (fun k acc g' => k ≤ cnt ∧ ∃ zs xs', acc = nums (zs.map fun z : Int => (z : Rat)) ∧ zs.length = k ∧ (∀ i z, zs[i]? = some z → ∃ d, d < m ∧ z = f i d) ∧ PenL xs' (n + k) ∧ KN o a g' ((a, xs') :: (L ++ [(p, acc)]))) (fun _ _ _ _ => trivial) ?_ ?_
    ⟨Nat.zero_le _, [], xs, rfl, rfl, fun i z e => by simp at e, hp, K_new K hp0⟩
  · rintro k x acc g' N hk ⟨hk0, zs, xs', rfl, hl, hz, hp, K⟩ h1 -
    obtain ⟨hk1, rfl⟩ := range_at hk
    refine hbody k g' xs' _ N hk1 hp K fun d xs'' g'' hd hp' K => ?_
    have hgp : g'' p = some (nums (zs.map fun z : Int => (z : Rat))) := K.get (L.length + 1) _ _ (by simp)
    refine h1 _ _ hgp ⟨hk1, zs ++ [f k d], xs'', by rw [nums_snoc, List.map_append]; rfl, by simp [hl], fun i z e => ?_, hp', ?_⟩
    · rw [List.getElem?_append] at e
      split at e
      · exact hz i z e
      · rw [List.getElem?_singleton] at e
        split at e
        · cases e
          have : i = k := by omega
          subst this
          exact ⟨d, hd, rfl⟩
        · cases e
    · have := K.put (L.length + 1) (ys := nums (zs.map fun z : Int => (z : Rat)) ++ [num ((f k d : Int) : Rat)]) (b := p) (xs := nums (zs.map fun z : Int => (z : Rat))) (by simp)
      rw [List.set_cons_succ, List.set_append] at this
      simpa using this
  · rintro acc g' ⟨hk0, zs, xs', rfl, hl, hz, hp, K⟩
    rw [range_len] at hl hp
    exact h zs xs' g' hl hz hp K
theorem whole_nodup {zs : List Int} {f : Nat → Nat → Int} {m : Nat} (hz : ∀ i z, zs[i]? = some z → ∃ d, d < m ∧ z = f i d) (hf : ∀ i j d e, i < j → d < m → e < m → f i d ≠ f j e) : (zs.map fun z : Int => (z : Rat)).Nodup := by
  rw [List.Nodup, List.pairwise_map, List.pairwise_iff_getElem]
  intro i j hi hj hij e
  obtain ⟨d, hd, e1⟩ := hz i _ (List.getElem?_eq_getElem hi)
  obtain ⟨d2, hd2, e2⟩ := hz j _ (List.getElem?_eq_getElem hj)
  exact hf i j d d2 hij hd hd2 (e1.symm.trans ((Rat.intCast_inj.mp e).trans e2))
end
end PP
namespace PP
open PySem PySem.Spec PyProof.Rows L2
def HtD (D : Int) (h : Nat) (p : List Rat) : Prop := ∀ i, ∃ N : Int, coef p i * (D : Rat) = (N : Rat) ∧ N.natAbs < 2 ^ h
def Ht (h : Nat) (p : List Rat) : Prop := ∃ D : Int, D ≠ 0 ∧ D.natAbs < 2 ^ h ∧ HtD D h p
theorem int_ne {D : Int} (h : D ≠ 0) : (D : Rat) ≠ 0 := fun z => h (Rat.intCast_eq_zero_iff.mp z)
theorem sz_fr {q : Rat} {N D : Int} {h : Nat} (e : q * (D : Rat) = (N : Rat)) (h0 : D ≠ 0) (hD : D.natAbs < 2 ^ h) (hN : N.natAbs < 2 ^ h) : sz q ≤ h := by
  have hd := int_ne h0
  have e2 : q = Rat.divInt N D := by
    rw [Rat.divInt_eq_div, ← e]
    grind
  rw [e2]
  exact sz_divInt hN hD h0
theorem HtD.mono {D : Int} {h k : Nat} {p : List Rat} (a : HtD D h p) (l : h ≤ k) : HtD D k p := fun i => by
  obtain ⟨N, e, b⟩ := a i
  exact ⟨N, e, Nat.lt_of_lt_of_le b (Nat.pow_le_pow_right (by decide) l)⟩
theorem Ht.mono {h k : Nat} {p : List Rat} (a : Ht h p) (l : h ≤ k) : Ht k p := by
  obtain ⟨D, a1, a2, a3⟩ := a
  exact ⟨D, a1, Nat.lt_of_lt_of_le a2 (Nat.pow_le_pow_right (by decide) l), a3.mono l⟩
theorem Ht.pos {h : Nat} {p : List Rat} (a : Ht h p) : 0 < h := by
  obtain ⟨D, a1, a2, a3⟩ := a
  rcases Nat.eq_zero_or_pos h with z | z
  · subst z; omega
  · exact z
theorem HtD.szs {D : Int} {h : Nat} {p : List Rat} (a : HtD D h p) (h0 : D ≠ 0) (hD : D.natAbs < 2 ^ h) : Szs h p := fun q hq => by
  obtain ⟨i, hi⟩ := List.mem_iff_getElem?.mp hq
  obtain ⟨N, e, b⟩ := a i
  rw [coef_at hi] at e
  exact sz_fr e h0 hD b
theorem Ht.szs {h : Nat} {p : List Rat} (a : Ht h p) : Szs h p := by
  obtain ⟨D, a1, a2, a3⟩ := a
  exact a3.szs a1 a2
theorem HtD.congr {D : Int} {h : Nat} {p q : List Rat} (a : HtD D h p) (e : ∀ x, ev p x = ev q x) : HtD D h q := fun i => by
  rw [← coefs_eq e i]; exact a i
theorem Ht.congr {h : Nat} {p q : List Rat} (a : Ht h p) (e : ∀ x, ev p x = ev q x) : Ht h q := by
  obtain ⟨D, a1, a2, a3⟩ := a
  exact ⟨D, a1, a2, a3.congr e⟩
theorem HtD.nil {D : Int} {h : Nat} : HtD D h [] := fun i => ⟨0, by rw [coef_out (Nat.zero_le _)]; grind, Nat.two_pow_pos _⟩
theorem Ht.nil : Ht 1 [] := ⟨1, by decide, by decide, .nil⟩
theorem Ht.one : Ht 1 [1] := ⟨1, by decide, by decide, fun i => by
  cases i with
  | zero => exact ⟨1, by rw [coef_cons_zero]; decide +kernel, by decide⟩
  | succ i => exact ⟨0, by rw [coef_cons_succ, coef_out (Nat.zero_le _)]; grind, by decide⟩⟩
theorem coef_range {f : Nat → Rat} {n i : Nat} (h : i < n) : coef ((List.range n).map f) i = f i := coef_at (by rw [List.getElem?_map, List.getElem?_range h]; rfl)
theorem coef_add {t r s : List Rat} (h : ∀ x, ev t x = ev r x + ev s x) (i : Nat) : coef t i = coef r i + coef s i := by
  have e := coefs_eq (c := t) (d := (List.range (r.length + s.length + i + 1)).map fun k => coef r k + coef s k) (fun x => by rw [h, ev_map_add, ev_range_coef (by omega), ev_range_coef (by omega)]) i
  rw [e, coef_range (by omega)]
theorem coef_sub {t r s : List Rat} (h : ∀ x, ev t x = ev r x - ev s x) (i : Nat) : coef t i = coef r i - coef s i := by
  have e := coefs_eq (c := t) (d := (List.range (r.length + s.length + i + 1)).map fun k => coef r k - coef s k) (fun x => by rw [h, ev_map_sub, ev_range_coef (by omega), ev_range_coef (by omega)]) i
  rw [e, coef_range (by omega)]
theorem coef_map {r : List Rat} {q : Rat} (i : Nat) : coef (r.map fun a => a * q) i = coef r i * q := by
  by_cases h : i < r.length
  · exact coef_at (by rw [List.getElem?_map, coef_lt h]; rfl)
  · rw [coef_out (by simp; omega), coef_out (by omega)]; grind
theorem coef_scale {t r : List Rat} {q : Rat} (h : ∀ x, ev t x = ev r x * q) (i : Nat) : coef t i = coef r i * q := by
  rw [coefs_eq (c := t) (d := r.map fun a => a * q) (fun x => by rw [h, ev_map_mul]) i, coef_map]
theorem coef_low {d i : Nat} {o : List Rat} (h : i < d) : coef (List.replicate d 0 ++ o) i = 0 := coef_at (by rw [List.getElem?_append_left (by simpa using h), List.getElem?_replicate, if_pos h])
theorem coef_liftc (d : Nat) (o : List Rat) (i : Nat) : coef (List.replicate d 0 ++ o) i = if d ≤ i then coef o (i - d) else 0 := by
  split
  · rename_i h
    have := coef_lift d (i - d) o
    rw [show d + (i - d) = i by omega] at this
    exact this
  · exact coef_low (by omega)
theorem pw_mul {a b A B : Nat} (h1 : a < 2 ^ A) (h2 : b < 2 ^ B) : a * b < 2 ^ (A + B) := by rw [Nat.pow_add]; exact Nat.mul_lt_mul'' h1 h2
theorem pw_sub {x y : Int} {A : Nat} (h1 : x.natAbs < 2 ^ A) (h2 : y.natAbs < 2 ^ A) : (x - y).natAbs < 2 ^ (A + 1) := by
  rw [Nat.pow_succ]; omega
theorem pw_add {x y : Int} {A : Nat} (h1 : x.natAbs < 2 ^ A) (h2 : y.natAbs < 2 ^ A) : (x + y).natAbs < 2 ^ (A + 1) := by
  rw [Nat.pow_succ]; omega
theorem HtD.step {D E Nc : Int} {A B d m k : Nat} {r o t : List Rat} {s : Rat} (hr : HtD D A r) (ho : HtD E B o) (hc : coef o k * (E : Rat) = (Nc : Rat)) (hs : s * coef o k = coef r m) (hN : Nc.natAbs < 2 ^ B)
    (e : ∀ x, ev t x = ev r x - ev (List.replicate d 0 ++ o.map fun q => q * s) x) : HtD (D * Nc) (A + B + 1) t := fun i => by
  obtain ⟨Na, ea, ba⟩ := hr m
  obtain ⟨N, e1, b1⟩ := hr i
  have ec := coef_sub e i
  rw [coef_liftc] at ec
  split at ec
  · rename_i hd
    obtain ⟨M, e2, b2⟩ := ho (i - d)
    rw [coef_map] at ec
    refine ⟨N * Nc - M * Na, ?_, ?_⟩
    · rw [ec, Rat.intCast_sub, Rat.intCast_mul, Rat.intCast_mul, Rat.intCast_mul, ← e1, ← e2, ← ea, ← hc, ← hs]
      grind
    · refine pw_sub ?_ ?_
      · rw [Int.natAbs_mul]; exact pw_mul b1 hN
      · rw [Int.natAbs_mul, Nat.add_comm]; exact pw_mul b2 ba
  · rename_i hd
    refine ⟨N * Nc, ?_, ?_⟩
    · rw [ec, Rat.intCast_mul, Rat.intCast_mul, ← e1]
      grind
    · rw [Int.natAbs_mul, Nat.pow_succ]
      have := pw_mul b1 hN
      omega
theorem HtD.sub {D E : Int} {A B : Nat} {p q r : List Rat} (hp : HtD D A p) (hq : HtD E B q) (hD : D.natAbs < 2 ^ A) (hE : E.natAbs < 2 ^ B) (e : ∀ x, ev r x = ev p x - ev q x) : HtD (D * E) (A + B + 1) r := fun i => by
  obtain ⟨N, e1, b1⟩ := hp i
  obtain ⟨M, e2, b2⟩ := hq i
  refine ⟨N * E - M * D, ?_, ?_⟩
  · rw [coef_sub e i, Rat.intCast_sub, Rat.intCast_mul, Rat.intCast_mul, Rat.intCast_mul, ← e1, ← e2]
    grind
  · refine pw_sub ?_ ?_
    · rw [Int.natAbs_mul]; exact pw_mul b1 hE
    · rw [Int.natAbs_mul, Nat.add_comm]; exact pw_mul b2 hD
theorem mul_nz {D E : Int} (h : D ≠ 0) (h' : E ≠ 0) : D * E ≠ 0 := fun z => (Int.mul_eq_zero.mp z).elim h h'
theorem Ht.sub {A B : Nat} {p q r : List Rat} (hp : Ht A p) (hq : Ht B q) (e : ∀ x, ev r x = ev p x - ev q x) : Ht (A + B + 1) r := by
  obtain ⟨D, a1, a2, a3⟩ := hp
  obtain ⟨E, b1, b2, b3⟩ := hq
  refine ⟨D * E, mul_nz a1 b1, ?_, a3.sub b3 a2 b2 e⟩
  rw [Int.natAbs_mul, Nat.pow_succ]
  have := pw_mul a2 b2
  omega
theorem Ht.scale {A B : Nat} {p r : List Rat} {q : Rat} (hp : Ht A p) (hq : sz q ≤ B) (e : ∀ x, ev r x = ev p x * q) : Ht (A + B) r := by
  obtain ⟨D, a1, a2, a3⟩ := hp
  have h1 := Nat.lt_of_lt_of_le (sz_num q) (Nat.pow_le_pow_right (by decide) hq)
  have h2 := Nat.lt_of_lt_of_le (sz_den q) (Nat.pow_le_pow_right (by decide) hq)
  have hd : (q.den : Int) ≠ 0 := by have := q.den_nz; omega
  refine ⟨D * q.den, mul_nz a1 hd, ?_, fun i => ?_⟩
  · rw [Int.natAbs_mul]; exact pw_mul a2 (by simpa using h2)
  · obtain ⟨N, e1, b1⟩ := a3 i
    refine ⟨N * q.num, ?_, ?_⟩
    · rw [coef_scale e i, Rat.intCast_mul, Rat.intCast_mul, ← e1]
      have : q * ((q.den : Int) : Rat) = (q.num : Rat) := by
        have h3 : ((q.den : Int) : Rat) ≠ 0 := int_ne hd
        have h4 : q = Rat.divInt q.num q.den := (Rat.num_divInt_den q).symm
        rw [Rat.divInt_eq_div] at h4
        conv => lhs; rw [h4]
        grind
      rw [← this]; grind
    · rw [Int.natAbs_mul]; exact pw_mul b1 h1
theorem Ht.monic {A k : Nat} {p r : List Rat} (hp : Ht A p) (hk : coef p k ≠ 0) (e : ∀ x, ev r x = ev p x * (1 / coef p k)) : Ht A r := by
  obtain ⟨D, a1, a2, a3⟩ := hp
  obtain ⟨M, e2, b2⟩ := a3 k
  have hM : M ≠ 0 := fun z => by
    rw [z] at e2
    have := int_ne a1
    have e3 : coef p k * (D : Rat) = 0 := e2
    rcases Rat.mul_eq_zero.mp e3 with z | z
    · exact hk z
    · exact this z
  refine ⟨M, hM, b2, fun i => ?_⟩
  obtain ⟨N, e1, b1⟩ := a3 i
  refine ⟨N, ?_, b1⟩
  rw [coef_scale e i, ← e2, ← e1]
  grind
theorem HtD.mul {D E : Int} {A B : Nat} : ∀ {p q : List Rat}, HtD D A p → HtD E B q → ∀ i, ∃ N : Int, coef (pmul p q) i * ((D * E : Int) : Rat) = (N : Rat) ∧ N.natAbs ≤ p.length * 2 ^ (A + B)
  | [], q, _, _, i => ⟨0, by rw [pmul, coef_out (Nat.zero_le _)]; grind, by simp⟩
  | a :: p, q, hp, hq, i => by
    have hp' : HtD D A p := fun i => by
      have := hp (i + 1)
      rw [coef_cons_succ] at this
      exact this
    obtain ⟨N0, e0, b0⟩ := hp 0
    rw [coef_cons_zero] at e0
    obtain ⟨M, e1, b1⟩ := hq i
    have ec : coef (pmul (a :: p) q) i = coef q i * a + coef (0 :: pmul p q) i := by
      rw [pmul, coef_add (t := padd (q.map fun b => b * a) (0 :: pmul p q)) (fun x => padd_ev _ _ x) i, coef_map]
    have hb : (M * N0).natAbs ≤ 2 ^ (A + B) := by
      rw [Int.natAbs_mul, Nat.add_comm]; exact Nat.le_of_lt (pw_mul b1 b0)
    cases i with
    | zero =>
      refine ⟨M * N0, ?_, ?_⟩
      · rw [ec, coef_cons_zero, Rat.intCast_mul, Rat.intCast_mul, ← e0, ← e1]; grind
      · rw [List.length_cons, Nat.succ_mul]; omega
    | succ i =>
      obtain ⟨N, e2, b2⟩ := HtD.mul hp' hq i
      refine ⟨M * N0 + N, ?_, ?_⟩
      · rw [ec, coef_cons_succ, Rat.intCast_add, ← e2, Rat.intCast_mul, Rat.intCast_mul, ← e0, ← e1]; grind
      · rw [List.length_cons, Nat.succ_mul]
        have := Int.natAbs_add_le (M * N0) N
        omega
theorem Ht.mul {A B m : Nat} {p q r : List Rat} (hp : Ht A p) (hq : Ht B q) (hl : p.length < 2 ^ m) (e : ∀ x, ev r x = ev p x * ev q x) : Ht (A + B + m) r := by
  obtain ⟨D, a1, a2, a3⟩ := hp
  obtain ⟨E, b1, b2, b3⟩ := hq
  refine ⟨D * E, mul_nz a1 b1, ?_, fun i => ?_⟩
  · rw [Int.natAbs_mul, Nat.pow_add]
    exact Nat.lt_of_lt_of_le (pw_mul a2 b2) (Nat.le_mul_of_pos_right _ (Nat.two_pow_pos _))
  · obtain ⟨N, e1, b⟩ := HtD.mul a3 b3 i
    refine ⟨N, ?_, ?_⟩
    · rw [coefs_eq (c := r) (d := pmul p q) (fun x => by rw [e, pmul_ev]) i]; exact e1
    · refine Nat.lt_of_le_of_lt b ?_
      rw [Nat.pow_add 2 (A + B) m, Nat.mul_comm]
      exact (Nat.mul_lt_mul_left (Nat.two_pow_pos _)).mpr hl
end PP
namespace PP
open PySem PySem.Spec PyProof.Rows L2
theorem rj_nz {D N : Int} (j : Nat) (h : D ≠ 0) (h' : N ≠ 0) : D * N ^ j ≠ 0 := mul_nz h (by
  induction j with
  | zero => rw [Int.pow_zero]; decide
  | succ j ih => rw [Int.pow_succ]; exact mul_nz ih h')
theorem pw_pow {N : Int} {B : Nat} (m : Nat) (h : N.natAbs < 2 ^ B) : (N ^ m).natAbs < 2 ^ (m * B) ∨ m = 0 := by
  induction m with
  | zero => exact .inr rfl
  | succ m ih =>
    left
    rw [Int.pow_succ, Int.natAbs_mul, Nat.succ_mul]
    rcases ih with h' | rfl
    · exact pw_mul h' h
    · rw [Int.pow_zero, Nat.zero_mul, Nat.zero_add]; simpa using h
theorem pw_pows {N : Int} {A B x : Nat} (m : Nat) (hx : x < 2 ^ A) (h : N.natAbs < 2 ^ B) : x * (N ^ m).natAbs < 2 ^ (A + m * B) := by
  rcases pw_pow m h with h' | rfl
  · exact pw_mul hx h'
  · rw [Int.pow_zero, Nat.zero_mul, Nat.add_zero]; simpa using hx
theorem rj_lt {D N : Int} {A B j : Nat} (h : D.natAbs < 2 ^ A) (h' : N.natAbs < 2 ^ B) : (D * N ^ j).natAbs < 2 ^ (A + j * B) := by
  rw [Int.natAbs_mul]; exact pw_pows j h h'
theorem coef_zeros (n i : Nat) : coef (List.replicate n 0) i = 0 := by
  by_cases h : i < n
  · exact coef_at (by rw [List.getElem?_replicate, if_pos h])
  · exact coef_out (by rw [List.length_replicate]; omega)
theorem set_ht {F : Int} {H d : Nat} {t : List Rat} {q : Rat} (h : HtD F H t) (hq : ∃ N : Int, q * (F : Rat) = (N : Rat) ∧ N.natAbs < 2 ^ H) : HtD F H (t.set d q) := fun i => by
  by_cases hi : i < t.length
  · by_cases hd : d = i
    · subst hd; rw [coef_seteq hi]; exact hq
    · rw [coef_setne hd hi]; exact h i
  · have := h i
    rw [coef_out (by omega)] at this
    rw [coef_out (by rw [List.length_set]; omega)]
    exact this
def divB (n m A B : Nat) : Nat := A + (n + 1 - m) * (B + 1)
section
variable {Γ : Nat → SpD} {gl : Nat → D} {ds : List D} {g : G} {Q : QD} {E X : XD}
def spDivH : SpD := fun ds g Q X => ∃ p o A B, ds = [.tup (nums p), .tup (nums o)] ∧ Ht A p ∧ Ht B o ∧ Tight p ∧ Tight o ∧ p.length ≤ 50 ∧ o.length ≤ 50 ∧ 2 * divB p.length o.length A B + 10 ≤ 100000000 ∧ (o = [] → X .ncurve g) ∧
  (o ≠ [] → ∀ t r, DivOk p o t r → Ht (divB p.length o.length A B) t → Ht (divB p.length o.length A B) r → Q (.tup [.tup (nums t), .tup (nums r)]) g)
theorem dividedH_2 (h14 : Γ 14 = spOver) (h23 : Γ 23 = spCurveOf) (h32 : Γ 32 = spLessened) (h33 : Γ 33 = spScaled) (hg0 : gl 0 = .tup [.int 0, .int 1])
    {p o : List Rat} {A B : Nat} (hp : Ht A p) (ho : Ht B o) (htp : Tight p) (hto : Tight o) (hl : p.length ≤ 50) (hlo : o.length ≤ 50) (hB : 2 * divB p.length o.length A B + 10 ≤ 100000000) (h0 : o ≠ [])
    (h : ∀ t r, DivOk p o t r → Ht (divB p.length o.length A B) t → Ht (divB p.length o.length A B) r → Q (.tup [.tup (nums t), .tup (nums r)]) g) :
    mnS Γ gl sx_divided_2 { nx := fun _ _ => False, rt := fun d g' => ∃ g, g.le g' ∧ Q d g, ex := fun n x g' => ∃ g, g.le g' ∧ E n g } [some (.tup (nums p)), some (.tup (nums o)), none, none, none, none] g := by
  obtain ⟨Dp, dp0, dpA, dpH⟩ := hp
  obtain ⟨Do, do0, doB, doH⟩ := ho
  obtain ⟨o0, c, rfl⟩ : ∃ o0 c, o = o0 ++ [c] := by
    rcases List.eq_nil_or_concat o with rfl | ⟨q, a, rfl⟩
    · exact absurd rfl h0
    · exact ⟨q, a, List.concat_eq_append ..⟩
  have hc : c ≠ 0 := hto c (by simp)
  have k2 : coef (o0 ++ [c]) o0.length = c := coef_at (by simp)
  obtain ⟨Nc, ec, bc⟩ := doH o0.length
  have nc0 : Nc ≠ 0 := fun z => by
    rw [z, k2] at ec
    rcases Rat.mul_eq_zero.mp ec with z | z
    · exact hc z
    · exact int_ne do0 z
  have hpos : 0 < (o0 ++ [c]).length := List.length_pos_iff.mpr h0
  have hos2 := doH.szs do0 doB
  have hsc : sz c ≤ B := hos2 c (by simp)
  simp only [sx_divided_2, h14, h32, h33, hg0, mnS, mn, Mn.of, Op.rd, Cm.rd, Bl.rd, Mt.rd, Mt.rc, dNop, dSeq, dExpr, dRet, dRetN, dIf, gD, dAsg, dPar, dPut, dRaise, dVar, dC, dBin, dUn, dNil, dCons, dTup, dLst, dTst, dAndT, dOrT, dNotT, dYes, dAnd, dOr, dNot, dChain, dCall, dCB, dMt, dLset, dSrev, dTry, dIsx, dEmp, dStp, xsub, Ex.sub, dSlc, dPart, dNoPart, dIAny, dI1, dI2, dI3, dFor, dComp, compB, wipeD, startD, endsOf, at_mk, setAll, add_int, sub_int, mul_int, mul_tup, pow_int, mod_int, fdiv_int, lt_int, le_int, gt_int, ge_int, eq_int, neg_int, len_tup, len_scr, abs_int, max_int, min_int, int_int, int_bl, r1_int, r2_int, tuple_tup, list_tup, over_tup, rev_tup, enum_tup, zip_tup, slc_tup, add_tup, isi_any, ix_tup, ix_scr, ix_num0, ix_num1, len_num, num_0, num_1, atI_0, atI_1, atI_2, List.map, List.cons_append, List.nil_append, List.getElem?_cons_zero, List.getElem?_cons_succ, List.getElem?_nil, List.set_cons_zero, List.set_cons_succ, List.replicate, List.length_cons, List.length_nil, List.foldr_cons, List.foldr_nil, Nat.reduceAdd, Nat.reduceSub, List.replicate_succ, List.replicate_zero, G_up_same, decide_eq_true_eq, Bool.not_eq_true', Bool.false_eq_true, if_true, if_false, ite_true, ite_false, and_true, true_and, reduceCtorEq, Bool.not_true, Bool.not_false, Bool.false_bne, Bool.true_bne, sl0, sl1, sl2, sl3, sl4, nums_len, range_len]
  refine ⟨by omega, slN (by omega), fun s hs => ?_⟩
  refine comp_nums (fun _ => 0) (fun _ => trivial) (fun k x acc N hk hlt hN => hN) ?_
  rw [range_len]
  have en : (max 0 ((p.length : Int) - ((o0 ++ [c]).length : Int) + 1)).toNat = p.length + 1 - (o0 ++ [c]).length := by omega
  rw [en]
  have ez : (List.range (p.length + 1 - (o0 ++ [c]).length)).map (fun _ => (0 : Rat)) = List.replicate (p.length + 1 - (o0 ++ [c]).length) 0 := by rw [List.map_const', List.length_range]
  rw [ez]
  have l0 := G.le_new (xs := nums (List.replicate (p.length + 1 - (o0 ++ [c]).length) 0)) hs
  have hs0 : (g.up s (nums (List.replicate (p.length + 1 - (o0 ++ [c]).length) 0))) s = some (nums (List.replicate (p.length + 1 - (o0 ++ [c]).length) 0)) := G_up_same
  generalize g.up s (nums (List.replicate (p.length + 1 - (o0 ++ [c]).length) 0)) = g0 at l0 hs0
  refine ⟨fun m env g' => ∃ t r j o4, env = [some (.tup (nums p)), some (.tup (nums (o0 ++ [c]))), some (.ref s), some (.tup (nums r)), o4, none] ∧ m = r.length ∧ g.le g' ∧ g' s = some (nums t) ∧ t.length = p.length + 1 - (o0 ++ [c]).length ∧ Tight r ∧ (∀ x, ev p x = ev t x * ev (o0 ++ [c]) x + ev r x) ∧ r.length + j ≤ p.length ∧ j ≤ p.length + 1 - (o0 ++ [c]).length ∧ HtD (Dp * Nc ^ j) (A + j * (B + 1)) r ∧ HtD (Dp * Nc ^ (p.length + 1 - (o0 ++ [c]).length)) (divB p.length (o0 ++ [c]).length A B) t ∧ (∀ i, i + (o0 ++ [c]).length ≤ r.length → coef t i = 0) ∧ (r.length = p.length ∨ coef t (p.length - (o0 ++ [c]).length) ≠ 0),
    ⟨p.length, _, p, 0, _, rfl, rfl, l0, hs0, by simp, htp, fun x => by rw [ev_zeros]; grind, Nat.le_refl _, Nat.zero_le _, by rw [Int.pow_zero, Int.mul_one, Nat.zero_mul]; exact dpH, fun i => ⟨0, by rw [coef_zeros]; grind, Nat.two_pow_pos _⟩, fun i hi => ?_, .inl rfl⟩, ?_⟩
  · rw [coef_at (q := 0)]
    rw [List.getElem?_replicate, if_pos (by omega)]
  rintro m env g' ⟨t, r, j, o4, rfl, rfl, l, hst, htl, htr, he, hj, hjn, hrs, hts, hz, hnz⟩
  simp only [mnS, mn, Mn.of, Op.rd, Cm.rd, Bl.rd, Mt.rd, Mt.rc, dNop, dSeq, dExpr, dRet, dRetN, dIf, gD, dAsg, dPar, dPut, dRaise, dVar, dC, dBin, dUn, dNil, dCons, dTup, dLst, dTst, dAndT, dOrT, dNotT, dYes, dAnd, dOr, dNot, dChain, dCall, dCB, dMt, dLset, dSrev, dTry, dIsx, dEmp, dStp, xsub, Ex.sub, dSlc, dPart, dNoPart, dIAny, dI1, dI2, dI3, dFor, dComp, compB, wipeD, startD, endsOf, at_mk, setAll, add_int, sub_int, mul_int, mul_tup, pow_int, mod_int, fdiv_int, lt_int, le_int, gt_int, ge_int, eq_int, neg_int, len_tup, len_scr, abs_int, max_int, min_int, int_int, int_bl, r1_int, r2_int, tuple_tup, list_tup, over_tup, rev_tup, enum_tup, zip_tup, slc_tup, add_tup, isi_any, ix_tup, ix_scr, ix_num0, ix_num1, len_num, num_0, num_1, atI_0, atI_1, atI_2, List.map, List.cons_append, List.nil_append, List.getElem?_cons_zero, List.getElem?_cons_succ, List.getElem?_nil, List.set_cons_zero, List.set_cons_succ, List.replicate, List.length_cons, List.length_nil, List.foldr_cons, List.foldr_nil, Nat.reduceAdd, Nat.reduceSub, List.replicate_succ, List.replicate_zero, G_up_same, decide_eq_true_eq, Bool.not_eq_true', Bool.false_eq_true, if_true, if_false, ite_true, ite_false, and_true, true_and, reduceCtorEq, Bool.not_true, Bool.not_false, Bool.false_bne, Bool.true_bne, sl0, sl1, sl2, sl3, sl4, nums_len]
  split
  · rename_i hlt
    have hlt : (o0 ++ [c]).length ≤ r.length := by simp at hlt ⊢; omega
    obtain ⟨r0, a, rfl⟩ : ∃ r0 a, r = r0 ++ [a] := by
      rcases List.eq_nil_or_concat r with rfl | ⟨q, a, rfl⟩
      · simp at hlt
      · exact ⟨q, a, List.concat_eq_append ..⟩
    have ha : a ≠ 0 := htr a (by simp)
    have hdv : divB p.length (o0 ++ [c]).length A B = A + (p.length + 1 - (o0 ++ [c]).length) * (B + 1) := rfl
    have hrz := rj_nz j dp0 nc0
    have hrb := rj_lt (j := j) dpA bc
    have hrs2 := hrs.szs hrz (Nat.lt_of_lt_of_le hrb (Nat.pow_le_pow_right (by decide) (by rw [Nat.mul_succ]; omega)))
    have hY : A + (j + 1) * (B + 1) ≤ divB p.length (o0 ++ [c]).length A B := by
      rw [hdv]
      exact Nat.add_le_add_left (Nat.mul_le_mul_right _ (by omega)) _
    rw [Nat.succ_mul] at hY
    have hsa : sz a ≤ A + j * (B + 1) := hrs2 a (by simp)
    have hsp := sz_pos a
    have hsq := sz_div a c
    have er : nums (r0 ++ [a]) = nums r0 ++ [num a] := by simp [nums]
    have eo : nums (o0 ++ [c]) = nums o0 ++ [num c] := by simp [nums]
    obtain ⟨d, hd⟩ : ∃ d, (r0 ++ [a]).length = d + (o0 ++ [c]).length := ⟨(r0 ++ [a]).length - (o0 ++ [c]).length, by omega⟩
    have ed : (((r0 ++ [a]).length : Nat) : Int) - (((o0 ++ [c]).length : Nat) : Int) = (d : Int) := by omega
    have e1 : atI (nums (r0 ++ [a])) (-1) = some (num a) := by rw [er, atI_last]
    have e2 : atI (nums (o0 ++ [c])) (-1) = some (num c) := by rw [eo, atI_last]
    have hdt : d < t.length := by omega
    simp only [ed, e1, e2, c_over]
    refine ⟨by omega, fun z => absurd z hc, fun _ => ?_⟩
    rw [set_ref hst, nums_len, ixN_at rfl hdt]
    refine ⟨by simp, by omega, by omega, by decide, ?_⟩
    rw [nums_set, ix_ref G_up_same, atI_nums rfl (show (t.set d (a / c))[d]? = some (a / c) from List.getElem?_set_self hdt)]
    refine c_scaledB B (A + j * (B + 1) + B) hos2 (by omega) (by omega) (by omega) fun r1 hr1 hr1l hr1s hr1e => ?_
    rw [rep_zero, add_tup, nums_app]
    refine ⟨slN (by simp [nums_len]; omega), ?_⟩
    have hs2 : Szs (A + j * (B + 1) + 2 * B) (List.replicate d 0 ++ r1) := fun q hq => by
      rcases List.mem_append.mp hq with hq | hq
      · rw [List.eq_of_mem_replicate hq, sz_0]; omega
      · have := hr1s q hq; omega
    have hsl : (List.replicate d 0 ++ r1).length ≤ (r0 ++ [a]).length := by rw [List.length_append, List.length_replicate]; omega
    refine c_twoB (A + j * (B + 1)) (A + j * (B + 1) + 2 * B) hrs2 hs2 (by omega) (by omega) (show A + j * (B + 1) + (A + j * (B + 1) + 2 * B) + 1 ≤ 100000000 by omega) (by omega) (by omega) fun r2 hr2 hr2l hr2s hr2e => ?_
    have hr2l : r2.length ≤ max (r0 ++ [a]).length (List.replicate d 0 ++ r1).length := hr2l
    have hrl : (r0 ++ [a]).length = r0.length + 1 := by simp
    have hol : (o0 ++ [c]).length = o0.length + 1 := by simp
    have hlen : r2.length ≤ r0.length := by
      refine less_len hr2 (by omega) ?_ hr2e (by omega) (by omega)
      have k1 : coef (r0 ++ [a]) r0.length = a := coef_at (by simp)
      have k3 := coefs_eq (c := r1) (d := (o0 ++ [c]).map fun q => q * (a / c)) (fun x => by rw [hr1e, ev_map_mul]) o0.length
      have k4 : coef ((o0 ++ [c]).map fun q => q * (a / c)) o0.length = c * (a / c) := coef_at (by simp)
      rw [k1, show r0.length = d + o0.length by omega, coef_lift, k3, k4]
      grind
    have hg0 : g s = none := hs
    refine ⟨r2.length, by omega, t.set d (a / c), r2, j + 1, _, rfl, rfl, ?_, G_up_same, by rw [List.length_set]; exact htl, hr2, fun x => ?_, by omega, by omega, ?_, ?_, fun i hi => ?_, ?_⟩
    · intro y ys hy
      have : y ≠ s := fun z => by subst z; rw [hs] at hy; cases hy
      rw [G_up_ne this]; exact l _ _ hy
    · rw [ev_set _ _ _ _ hdt, hz d (by omega), hr2e, ev_lift, hr1e, he x]; grind
    · have k1 : coef (r0 ++ [a]) r0.length = a := coef_at (by simp)
      have := hrs.step (d := d) (m := r0.length) (k := o0.length) (s := a / c) (t := r2) doH ec (by rw [k1, k2]; grind) bc (fun x => by rw [hr2e, ev_lift, ev_lift, hr1e, ev_map_mul])
      rw [Int.pow_succ, ← Int.mul_assoc, Nat.succ_mul]
      exact this.mono (by omega)
    · have k1 : coef (r0 ++ [a]) r0.length = a := coef_at (by simp)
      obtain ⟨Na, ea, ba⟩ := hrs r0.length
      rw [k1] at ea
      rw [k2] at ec
      obtain ⟨m, hm⟩ : ∃ m, p.length + 1 - (o0 ++ [c]).length = j + 1 + m := ⟨p.length + 1 - (o0 ++ [c]).length - (j + 1), by omega⟩
      refine set_ht hts ⟨Na * Do * Nc ^ m, ?_, ?_⟩
      · rw [hm, Int.pow_add, Int.pow_succ, Rat.intCast_mul, Rat.intCast_mul, Rat.intCast_mul, Rat.intCast_mul (Na * Do) _, Rat.intCast_mul Na Do, ← ea, ← ec, Rat.intCast_mul]
        grind
      · rw [hdv, hm, Int.natAbs_mul, Int.natAbs_mul]
        have b1 := pw_pows m (pw_mul ba doB) bc
        refine Nat.lt_of_lt_of_le b1 (Nat.pow_le_pow_right (by decide) ?_)
        have e3 : m * B ≤ m * (B + 1) := Nat.mul_le_mul_left _ (by omega)
        rw [Nat.add_mul, Nat.add_mul, Nat.one_mul]
        omega
    · rw [coef_setne (by omega) (by omega)]; exact hz i (by omega)
    · right
      by_cases hdd : d = p.length - (o0 ++ [c]).length
      · rw [← hdd, coef_seteq hdt]
        intro z
        have : a = (a / c) * c := by grind
        rw [z] at this
        exact ha (by rw [this]; grind)
      · rcases hnz with hnz | hnz
        · exact absurd (by omega) hdd
        · rw [coef_setne hdd (by omega)]; exact hnz
  · rename_i hlt
    have hlt : r.length < (o0 ++ [c]).length := by simp at hlt ⊢; omega
    simp only [sx_divided_1, h23, mnS, mn, Mn.of, Op.rd, Cm.rd, Bl.rd, Mt.rd, Mt.rc, dNop, dSeq, dExpr, dRet, dRetN, dIf, gD, dAsg, dPar, dPut, dRaise, dVar, dC, dBin, dUn, dNil, dCons, dTup, dLst, dTst, dAndT, dOrT, dNotT, dYes, dAnd, dOr, dNot, dChain, dCall, dCB, dMt, dLset, dSrev, dTry, dIsx, dEmp, dStp, xsub, Ex.sub, dSlc, dPart, dNoPart, dIAny, dI1, dI2, dI3, dFor, dComp, compB, wipeD, startD, endsOf, at_mk, setAll, add_int, sub_int, mul_int, mul_tup, pow_int, mod_int, fdiv_int, lt_int, le_int, gt_int, ge_int, eq_int, neg_int, len_tup, len_scr, abs_int, max_int, min_int, int_int, int_bl, r1_int, r2_int, tuple_tup, list_tup, over_tup, rev_tup, enum_tup, zip_tup, slc_tup, add_tup, isi_any, ix_tup, ix_scr, ix_num0, ix_num1, len_num, num_0, num_1, atI_0, atI_1, atI_2, List.map, List.cons_append, List.nil_append, List.getElem?_cons_zero, List.getElem?_cons_succ, List.getElem?_nil, List.set_cons_zero, List.set_cons_succ, List.replicate, List.length_cons, List.length_nil, List.foldr_cons, List.foldr_nil, Nat.reduceAdd, Nat.reduceSub, List.replicate_succ, List.replicate_zero, G_up_same, decide_eq_true_eq, Bool.not_eq_true', Bool.false_eq_true, if_true, if_false, ite_true, ite_false, and_true, true_and, reduceCtorEq, Bool.not_true, Bool.not_false, Bool.false_bne, Bool.true_bne, sl0, sl1, sl2, sl3, sl4]
    have hmono : A + j * (B + 1) ≤ divB p.length (o0 ++ [c]).length A B := Nat.add_le_add_left (Nat.mul_le_mul_right _ hjn) _
    have htt : Tight t := fun q hq => by
      rcases hnz with hnz | hnz
      · have : t.length = 0 := by omega
        rw [List.eq_nil_of_length_eq_zero this] at hq
        cases hq
      · rcases List.eq_nil_or_concat t with rfl | ⟨z, w, rfl⟩
        · cases hq
        · rw [List.concat_eq_append] at *
          simp at hq
          subst hq
          have e : z.length = p.length - (o0 ++ [c]).length := by simp at htl ⊢; omega
          have : (z ++ [w])[p.length - (o0 ++ [c]).length]? = some w := by rw [← e]; simp
          rw [coef_at this] at hnz
          exact hnz
    refine c_curveOf hst ?_
    rw [trim_self htt]
    exact ⟨g, l, h t r ⟨htt, htr, htl, hlt, he⟩ ⟨Dp * Nc ^ (p.length + 1 - (o0 ++ [c]).length), rj_nz _ dp0 nc0, Nat.lt_of_lt_of_le (rj_lt dpA bc) (Nat.pow_le_pow_right (by decide) (by unfold divB; rw [Nat.mul_succ]; omega)), hts⟩ ⟨Dp * Nc ^ j, rj_nz j dp0 nc0, Nat.lt_of_lt_of_le (rj_lt dpA bc) (Nat.pow_le_pow_right (by decide) (Nat.le_trans (by rw [Nat.mul_succ]; omega) hmono)), hrs.mono hmono⟩⟩
theorem pure_divided__H (h14 : Γ 14 = spOver) (h23 : Γ 23 = spCurveOf) (h32 : Γ 32 = spLessened) (h33 : Γ 33 = spScaled) (hg0 : gl 0 = .tup [.int 0, .int 1]) (h : spDivH ds g Q E) : mnS Γ gl sx_divided (endsOf Q E) (startD ns_divided ds) g := by
  obtain ⟨p, o, A, B, rfl, hp, ho, htp, hto, hl, hlo, hB, hX, h⟩ := h
  simp only [sx_divided, mnS, mn, Mn.of, Op.rd, Cm.rd, Bl.rd, Mt.rd, Mt.rc, dNop, dSeq, dExpr, dRet, dRetN, dIf, gD, dAsg, dPar, dPut, dRaise, dVar, dC, dBin, dUn, dNil, dCons, dTup, dLst, dTst, dAndT, dOrT, dNotT, dYes, dAnd, dOr, dNot, dChain, dCall, dCB, dMt, dLset, dSrev, dTry, dIsx, dEmp, dStp, xsub, Ex.sub, dSlc, dPart, dNoPart, dIAny, dI1, dI2, dI3, dFor, dComp, compB, wipeD, startD, endsOf, at_mk, setAll, add_int, sub_int, mul_int, mul_tup, pow_int, mod_int, fdiv_int, lt_int, le_int, gt_int, ge_int, eq_int, neg_int, len_tup, len_scr, abs_int, max_int, min_int, int_int, int_bl, r1_int, r2_int, tuple_tup, list_tup, over_tup, rev_tup, enum_tup, zip_tup, slc_tup, add_tup, isi_any, ix_tup, ix_scr, ix_num0, ix_num1, len_num, num_0, num_1, atI_0, atI_1, atI_2, List.map, List.cons_append, List.nil_append, List.getElem?_cons_zero, List.getElem?_cons_succ, List.getElem?_nil, List.set_cons_zero, List.set_cons_succ, List.replicate, List.length_cons, List.length_nil, List.foldr_cons, List.foldr_nil, Nat.reduceAdd, Nat.reduceSub, List.replicate_succ, List.replicate_zero, G_up_same, decide_eq_true_eq, Bool.not_eq_true', Bool.false_eq_true, if_true, if_false, ite_true, ite_false, and_true, true_and, reduceCtorEq, Bool.not_true, Bool.not_false, Bool.false_bne, Bool.true_bne, sl0, sl1, sl2, sl3, sl4]
  refine eq_tup (q := []) (fun e => ?_) fun e => ?_
  · try simp only [mnS, mn, Mn.of, Op.rd, Cm.rd, Bl.rd, Mt.rd, Mt.rc, dNop, dSeq, dExpr, dRet, dRetN, dIf, gD, dAsg, dPar, dPut, dRaise, dVar, dC, dBin, dUn, dNil, dCons, dTup, dLst, dTst, dAndT, dOrT, dNotT, dYes, dAnd, dOr, dNot, dChain, dCall, dCB, dMt, dLset, dSrev, dTry, dIsx, dEmp, dStp, xsub, Ex.sub, dSlc, dPart, dNoPart, dIAny, dI1, dI2, dI3, dFor, dComp, compB, wipeD, startD, endsOf, at_mk, setAll, add_int, sub_int, mul_int, mul_tup, pow_int, mod_int, fdiv_int, lt_int, le_int, gt_int, ge_int, eq_int, neg_int, len_tup, len_scr, abs_int, max_int, min_int, int_int, int_bl, r1_int, r2_int, tuple_tup, list_tup, over_tup, rev_tup, enum_tup, zip_tup, slc_tup, add_tup, isi_any, ix_tup, ix_scr, ix_num0, ix_num1, len_num, num_0, num_1, atI_0, atI_1, atI_2, List.map, List.cons_append, List.nil_append, List.getElem?_cons_zero, List.getElem?_cons_succ, List.getElem?_nil, List.set_cons_zero, List.set_cons_succ, List.replicate, List.length_cons, List.length_nil, List.foldr_cons, List.foldr_nil, Nat.reduceAdd, Nat.reduceSub, List.replicate_succ, List.replicate_zero, G_up_same, decide_eq_true_eq, Bool.not_eq_true', Bool.false_eq_true, if_true, if_false, ite_true, ite_false, and_true, true_and, reduceCtorEq, Bool.not_true, Bool.not_false, Bool.false_bne, Bool.true_bne, sl0, sl1, sl2, sl3, sl4]
    exact ⟨_, G.le_refl _, hX e⟩
  · try simp only [mnS, mn, Mn.of, Op.rd, Cm.rd, Bl.rd, Mt.rd, Mt.rc, dNop, dSeq, dExpr, dRet, dRetN, dIf, gD, dAsg, dPar, dPut, dRaise, dVar, dC, dBin, dUn, dNil, dCons, dTup, dLst, dTst, dAndT, dOrT, dNotT, dYes, dAnd, dOr, dNot, dChain, dCall, dCB, dMt, dLset, dSrev, dTry, dIsx, dEmp, dStp, xsub, Ex.sub, dSlc, dPart, dNoPart, dIAny, dI1, dI2, dI3, dFor, dComp, compB, wipeD, startD, endsOf, at_mk, setAll, add_int, sub_int, mul_int, mul_tup, pow_int, mod_int, fdiv_int, lt_int, le_int, gt_int, ge_int, eq_int, neg_int, len_tup, len_scr, abs_int, max_int, min_int, int_int, int_bl, r1_int, r2_int, tuple_tup, list_tup, over_tup, rev_tup, enum_tup, zip_tup, slc_tup, add_tup, isi_any, ix_tup, ix_scr, ix_num0, ix_num1, len_num, num_0, num_1, atI_0, atI_1, atI_2, List.map, List.cons_append, List.nil_append, List.getElem?_cons_zero, List.getElem?_cons_succ, List.getElem?_nil, List.set_cons_zero, List.set_cons_succ, List.replicate, List.length_cons, List.length_nil, List.foldr_cons, List.foldr_nil, Nat.reduceAdd, Nat.reduceSub, List.replicate_succ, List.replicate_zero, G_up_same, decide_eq_true_eq, Bool.not_eq_true', Bool.false_eq_true, if_true, if_false, ite_true, ite_false, and_true, true_and, reduceCtorEq, Bool.not_true, Bool.not_false, Bool.false_bne, Bool.true_bne, sl0, sl1, sl2, sl3, sl4]
    exact dividedH_2 h14 h23 h32 h33 hg0 hp ho htp hto hl hlo hB e (h e)
theorem c_divH {p o : List Rat} (A B : Nat) (hp : Ht A p) (ho : Ht B o) (htp : Tight p) (hto : Tight o) (hl : p.length ≤ 50) (hlo : o.length ≤ 50) (hB : 2 * divB p.length o.length A B + 10 ≤ 100000000) (h0 : o ≠ [])
    (k : ∀ t r, DivOk p o t r → Ht (divB p.length o.length A B) t → Ht (divB p.length o.length A B) r → Q (.tup [.tup (nums t), .tup (nums r)]) g) : spDivH [.tup (nums p), .tup (nums o)] g Q X :=
  ⟨p, o, A, B, rfl, hp, ho, htp, hto, hl, hlo, hB, fun e => absurd e h0, fun _ => k⟩
end
end PP
namespace PP
open PySem PySem.Spec PyProof.Rows L2
theorem Ht.add {A B : Nat} {p q r : List Rat} (hp : Ht A p) (hq : Ht B q) (e : ∀ x, ev r x = ev p x + ev q x) : Ht (A + B + 1) r := by
  obtain ⟨D, a1, a2, a3⟩ := hp
  obtain ⟨E, b1, b2, b3⟩ := hq
  refine ⟨D * E, mul_nz a1 b1, ?_, fun i => ?_⟩
  · rw [Int.natAbs_mul, Nat.pow_succ]
    have := pw_mul a2 b2
    omega
  · obtain ⟨N, e1, h1⟩ := a3 i
    obtain ⟨M, e2, h2⟩ := b3 i
    refine ⟨N * E + M * D, ?_, ?_⟩
    · rw [coef_add e i, Rat.intCast_add, Rat.intCast_mul, Rat.intCast_mul, Rat.intCast_mul, ← e1, ← e2]
      grind
    · refine pw_add ?_ ?_
      · rw [Int.natAbs_mul]; exact pw_mul h1 b2
      · rw [Int.natAbs_mul, Nat.add_comm]; exact pw_mul h2 a2
theorem ht_line {b : Nat} {q : Rat} (h : sz q ≤ b) : Ht b [-q, 1] := by
  have h1 := Nat.lt_of_lt_of_le (sz_num q) (Nat.pow_le_pow_right (by decide) h)
  have h2 := Nat.lt_of_lt_of_le (sz_den q) (Nat.pow_le_pow_right (by decide) h)
  have hd : (q.den : Int) ≠ 0 := by have := q.den_nz; omega
  have h3 : ((q.den : Int) : Rat) ≠ 0 := int_ne hd
  have h4 : q = Rat.divInt q.num q.den := (Rat.num_divInt_den q).symm
  rw [Rat.divInt_eq_div] at h4
  refine ⟨q.den, hd, by simpa using h2, fun i => ?_⟩
  match i with
  | 0 => exact ⟨-q.num, by rw [coef_cons_zero, Rat.intCast_neg]; conv => lhs; rw [h4]
                           grind, by rw [Int.natAbs_neg]; exact h1⟩
  | 1 => exact ⟨q.den, by show (1 : Rat) * _ = _; grind, by simpa using h2⟩
  | i + 2 => exact ⟨0, by rw [coef_out (by simp)]; grind, Nat.two_pow_pos _⟩
def lnL : List Rat → List Rat
  | [] => [1]
  | k :: ks => pmul [-k, 1] (lnL ks)
theorem lnL_ev (ks : List Rat) (x : Rat) : ev (lnL ks) x = lpr ks x := by
  induction ks with
  | nil => rw [lnL, lpr, ev_cons, ev_nil]; grind
  | cons k ks ih => rw [lnL, pmul_ev, line_ev, ih, lpr]
theorem pmul_len_le {p q : List Rat} (h : q ≠ []) : (pmul p q).length ≤ p.length + q.length - 1 := by
  induction p with
  | nil => rw [pmul]; simp
  | cons a p ih =>
    have hq := List.length_pos_iff.mpr h
    rw [pmul, padd_len, List.length_map, List.length_cons, List.length_cons]
    rcases p with _ | ⟨b, p⟩
    · rw [pmul] at *
      simp at *
      omega
    · rw [List.length_cons] at *
      omega
theorem lnL_len (ks : List Rat) : (lnL ks).length ≤ ks.length + 1 ∧ lnL ks ≠ [] := by
  induction ks with
  | nil => exact ⟨Nat.le_refl _, by rw [lnL]; simp⟩
  | cons k ks ih =>
    refine ⟨?_, fun z => ?_⟩
    · have := pmul_len_le (p := [-k, 1]) ih.2
      rw [lnL, List.length_cons]
      simp at this
      omega
    · have h0 := List.length_pos_iff.mpr ih.2
      have := congrArg List.length z
      rw [lnL, pmul, padd_len] at this
      simp at this
theorem lnL_ht {b : Nat} {ks : List Rat} (h : Szs b ks) : Ht (ks.length * (b + 2) + 1) (lnL ks) := by
  induction ks with
  | nil => rw [lnL]; exact Ht.one.mono (by omega)
  | cons k ks ih =>
    have := Ht.mul (m := 2) (r := lnL (k :: ks)) (ht_line (h k (List.mem_cons_self ..))) (ih fun q hq => h q (List.mem_cons_of_mem _ hq)) (show 2 < 2 ^ 2 by decide) (fun x => by rw [lnL, pmul_ev])
    rw [List.length_cons, Nat.succ_mul]
    exact this.mono (by omega)
theorem lnOk_ht {b : Nat} {ks r : List Rat} (h : Szs b ks) (hr : ∀ x, ev r x = 1 * lpr ks x) : Ht (ks.length * (b + 2) + 1) r :=
  (lnL_ht h).congr fun x => by rw [lnL_ev, hr]; grind
theorem lpr_sz {b c : Nat} {x : Rat} (hx : sz x ≤ c) : ∀ {ks : List Rat}, Szs b ks → sz (lpr ks x) ≤ ks.length * (b + c + 1) + 1
  | [], _ => by rw [lpr, sz_1]; omega
  | k :: ks, h => by
    have h1 := lpr_sz (ks := ks) hx fun q hq => h q (List.mem_cons_of_mem _ hq)
    have h2 := h k (List.mem_cons_self ..)
    have h3 := sz_sub x k
    have h4 := sz_mul (x - k) (lpr ks x)
    rw [lpr, List.length_cons, Nat.succ_mul]
    omega
def lgT (ks : List Rat) (p : Rat × Rat) : List Rat := (lnL (ks.filter fun k => decide (k ≠ p.1))).map fun a => a * (p.2 / lpr (ks.filter fun k => decide (k ≠ p.1)) p.1)
def lgS (ks : List Rat) : List (Rat × Rat) → List Rat
  | [] => []
  | p :: ps => padd (lgT ks p) (lgS ks ps)
theorem lgT_ev (ks : List Rat) (p : Rat × Rat) (x : Rat) : ev (lgT ks p) x = lpr (ks.filter fun k => decide (k ≠ p.1)) x * (p.2 / lpr (ks.filter fun k => decide (k ≠ p.1)) p.1) := by
  rw [lgT, ev_map_mul, lnL_ev]
theorem lgT_off {ks : List Rat} {p : Rat × Rat} {x : Rat} (hx : x ∈ ks) (h : x ≠ p.1) : ev (lgT ks p) x = 0 := by
  have : lpr (ks.filter fun k => decide (k ≠ p.1)) x = 0 := lpr_zero.mpr (List.mem_filter.mpr ⟨hx, by simpa using h⟩)
  rw [lgT_ev, this]; grind
theorem lgT_on {ks : List Rat} {p : Rat × Rat} : ev (lgT ks p) p.1 = p.2 := by
  have : lpr (ks.filter fun k => decide (k ≠ p.1)) p.1 ≠ 0 := fun z => by
    have := List.mem_filter.mp (lpr_zero.mp z)
    simp at this
  rw [lgT_ev]; grind
theorem lgS_off {ks : List Rat} {x : Rat} (hx : x ∈ ks) : ∀ {ps : List (Rat × Rat)}, x ∉ ps.map Prod.fst → ev (lgS ks ps) x = 0
  | [], _ => by rw [lgS, ev_nil]
  | p :: ps, h => by
    rw [List.map_cons, List.mem_cons, not_or] at h
    rw [lgS, padd_ev, lgT_off hx h.1, lgS_off hx h.2]; grind
theorem lgS_on {ks : List Rat} {x y : Rat} (hx : x ∈ ks) : ∀ {ps : List (Rat × Rat)}, (ps.map Prod.fst).Nodup → (x, y) ∈ ps → ev (lgS ks ps) x = y
  | [], _, h => by cases h
  | p :: ps, hn, h => by
    rw [List.map_cons, List.nodup_cons] at hn
    rw [lgS, padd_ev]
    rcases List.mem_cons.mp h with rfl | h
    · rw [lgS_off hx hn.1, show ev (lgT ks (x, y)) x = y from lgT_on (p := (x, y))]; grind
    · have hne : x ≠ p.1 := fun z => hn.1 (z ▸ List.mem_map_of_mem (f := Prod.fst) h)
      rw [lgT_off hx hne, lgS_on hx hn.2 h]; grind
theorem filter_len {ks : List Rat} {x : Rat} (hx : x ∈ ks) : (ks.filter fun k => decide (k ≠ x)).length + 1 ≤ ks.length := by
  have := List.length_filter_lt_length_iff_exists.mpr (⟨x, hx, by simp⟩ : ∃ k ∈ ks, ¬ decide (k ≠ x) = true)
  omega
theorem lgS_len {ks : List Rat} : ∀ {ps : List (Rat × Rat)}, (∀ p ∈ ps, p.1 ∈ ks) → (lgS ks ps).length ≤ ks.length
  | [], _ => Nat.zero_le _
  | p :: ps, h => by
    have h1 := lgS_len (ps := ps) fun q hq => h q (List.mem_cons_of_mem _ hq)
    have h2 := (lnL_len (ks.filter fun k => decide (k ≠ p.1))).1
    have h3 := filter_len (h p (List.mem_cons_self ..))
    rw [lgS, padd_len, lgT, List.length_map]
    omega
def tB (n b c : Nat) : Nat := n * (b + 2) + 1 + (c + (n * (b + b + 1) + 1))
theorem tB_mono {n m b c : Nat} (h : n ≤ m) : tB n b c ≤ tB m b c := by
  unfold tB
  have h1 : n * (b + 2) ≤ m * (b + 2) := Nat.mul_le_mul_right _ h
  have h2 : n * (b + b + 1) ≤ m * (b + b + 1) := Nat.mul_le_mul_right _ h
  omega
theorem lgT_ht {b c n : Nat} {ks : List Rat} {p : Rat × Rat} (hk : Szs b ks) (hx : p.1 ∈ ks) (hy : sz p.2 ≤ c) (hn : ks.length ≤ n + 1) : Ht (tB n b c) (lgT ks p) := by
  have hf : Szs b (ks.filter fun k => decide (k ≠ p.1)) := fun q hq => hk q (List.mem_filter.mp hq).1
  have h1 := lpr_sz (hk p.1 hx) hf
  have h2 := sz_div p.2 (lpr (ks.filter fun k => decide (k ≠ p.1)) p.1)
  have := (lnL_ht hf).scale (r := lgT ks p) (Nat.le_trans h2 (Nat.add_le_add hy h1)) (fun x => by rw [lgT, ev_map_mul])
  exact this.mono (tB_mono (by have := filter_len hx; omega))
theorem lgS_ht {b c n : Nat} {ks : List Rat} (hk : Szs b ks) (hn : ks.length ≤ n + 1) : ∀ {ps : List (Rat × Rat)}, (∀ p ∈ ps, p.1 ∈ ks ∧ sz p.2 ≤ c) → Ht (ps.length * (tB n b c + 1) + 1) (lgS ks ps)
  | [], _ => by rw [lgS, List.length_nil, Nat.zero_mul]; exact Ht.nil
  | p :: ps, h => by
    have h1 := lgS_ht hk hn (ps := ps) fun q hq => h q (List.mem_cons_of_mem _ hq)
    obtain ⟨h2, h3⟩ := h p (List.mem_cons_self ..)
    have := (lgT_ht hk h2 h3 hn).add (r := lgS ks (p :: ps)) h1 (fun x => by rw [lgS, padd_ev])
    rw [List.length_cons, Nat.succ_mul]
    exact this.mono (by omega)
theorem met_ht {b c n : Nat} {ks ys f : List Rat} (hk : Szs b ks) (hy : Szs c ys) (hn : ks.Nodup) (hl : ks.length = ys.length) (hl2 : ks.length ≤ n + 1) (hf : f.length ≤ ks.length) (he : ∀ p ∈ ks.zip ys, ev f p.1 = p.2) : Ht (ks.length * (tB n b c + 1) + 1) f := by
  have hfst : (ks.zip ys).map Prod.fst = ks := List.map_fst_zip (by omega)
  have hmem : ∀ p ∈ ks.zip ys, p.1 ∈ ks := fun p hp => (List.of_mem_zip hp).1
  have h1 := lgS_ht (c := c) hk hl2 (ps := ks.zip ys) fun p hp => ⟨hmem p hp, hy _ (List.of_mem_zip hp).2⟩
  rw [List.length_zip, ← hl, Nat.min_self] at h1
  refine h1.congr (meet_eq hn (lgS_len hmem) hf fun x hx => ?_)
  obtain ⟨p, hp, rfl⟩ := List.mem_map.mp (show x ∈ (ks.zip ys).map Prod.fst by rw [hfst]; exact hx)
  rw [lgS_on (y := p.2) hx (by rw [hfst]; exact hn) hp, he p hp]
end PP
namespace PP
open PySem PySem.Spec PyProof.Rows L2
def plB (a b : Nat) : Nat → Nat
  | 0 => a
  | 1 => b
  | k + 2 => plB a b k + 2 * (plB a b (k + 1) + 1)
def vlB (a b : Nat) : Nat → Nat
  | 0 => 1
  | 1 => 1
  | k + 2 => vlB a b k + vlB a b (k + 1) + plB a b (k + 2) + 6
theorem plB_up (a b k : Nat) : plB a b (k + 1) + 1 ≤ plB a b (k + 2) := by rw [plB]; omega
theorem plB_mono {a b k d : Nat} : plB a b (k + 1) ≤ plB a b (k + 1 + d) := by
  induction d with
  | zero => exact Nat.le_refl _
  | succ d ih =>
    have := plB_up a b (k + d)
    rw [show k + 1 + (d + 1) = k + d + 2 by omega]
    rw [show k + d + 1 = k + 1 + d by omega] at this
    omega
theorem plB_step {a b k : Nat} : ∀ {d : Nat}, 1 ≤ d → plB a b k + (d + 1) * (plB a b (k + 1) + 1) ≤ plB a b (k + 1 + d)
  | 0, h => absurd h (by decide)
  | 1, _ => by rw [show k + 1 + 1 = k + 2 by omega, plB]; exact Nat.le_refl _
  | d + 2, _ => by
    have h1 := plB_step (a := a) (b := b) (k := k) (d := d + 1) (by omega)
    have h2 : plB a b (k + 1 + (d + 2)) = plB a b (k + 1 + d) + 2 * (plB a b (k + 1 + (d + 1)) + 1) := by
      rw [show k + 1 + (d + 2) = (k + 1 + d) + 2 by omega, plB, show k + 1 + d + 1 = k + 1 + (d + 1) by omega]
    have h3 : plB a b (k + 1) ≤ plB a b (k + 1 + (d + 1)) := plB_mono
    have h4 : (d + 2 + 1) * (plB a b (k + 1) + 1) = (d + 1 + 1) * (plB a b (k + 1) + 1) + (plB a b (k + 1) + 1) := Nat.succ_mul ..
    rw [h2, h4]
    omega
theorem vlB_up (a b k : Nat) : vlB a b k ≤ vlB a b (k + 1) := by
  cases k with
  | zero => exact Nat.le_refl _
  | succ k => rw [show k + 1 + 1 = k + 2 by omega, vlB]; omega
theorem vlB_mono {a b k j : Nat} (h : k ≤ j) : vlB a b k ≤ vlB a b j := by
  induction h with
  | refl => exact Nat.le_refl _
  | step _ ih => exact Nat.le_trans ih (vlB_up ..)
theorem vlB_step {a b k d : Nat} (h : 1 ≤ d) : vlB a b k + (plB a b (k + 1 + d) + vlB a b (k + 1) + 4) + 1 ≤ vlB a b (k + 1 + d) := by
  obtain ⟨e, rfl⟩ : ∃ e, d = e + 1 := ⟨d - 1, by omega⟩
  have h1 : vlB a b k ≤ vlB a b (k + e) := vlB_mono (by omega)
  have h2 : vlB a b (k + 1) ≤ vlB a b (k + e + 1) := vlB_mono (by omega)
  rw [show k + 1 + (e + 1) = k + e + 2 by omega, vlB]
  omega
def dvB (a b k d : Nat) : Nat := plB a b k + (d + 1) * (plB a b (k + 1) + 1)
def pairOk (a b T : Nat) : Bool := (List.range (T + 1)).all fun k => (List.range (T + 1)).all fun d => d == 0 || decide (T < k + d) || (decide (2 * dvB a b k d + 10 ≤ 100000000) && decide ((d + 1) * (dvB a b k d + vlB a b (k + 1) + 1) + 1 ≤ 100000000) && decide (vlB a b k + (dvB a b k d + vlB a b (k + 1) + 4) + 1 ≤ 100000000))
theorem pairOk_at {a b T k d : Nat} (h : pairOk a b T = true) (h1 : 1 ≤ d) (h2 : k + d ≤ T) : 2 * dvB a b k d + 10 ≤ 100000000 ∧ (d + 1) * (dvB a b k d + vlB a b (k + 1) + 1) + 1 ≤ 100000000 ∧ vlB a b k + (dvB a b k d + vlB a b (k + 1) + 4) + 1 ≤ 100000000 := by
  have := List.all_eq_true.mp (List.all_eq_true.mp h k (List.mem_range.mpr (by omega))) d (List.mem_range.mpr (by omega))
  simp only [Bool.or_eq_true, Bool.and_eq_true, beq_iff_eq, decide_eq_true_eq] at this
  rcases this with (h | h) | h
  · omega
  · omega
  · exact ⟨h.1.1, h.1.2, h.2⟩
def ptZ (ks ys : List Rat) : List Pt := List.zipWith (fun x y => ⟨x, y, none⟩) ks ys
theorem zipD_pts : ∀ (ks ys : List Rat), zipD (nums ks) (nums ys) = pnts (ptZ ks ys)
  | [], _ => rfl
  | _ :: _, [] => rfl
  | k :: ks, y :: ys => by
    show D.tup [num k, num y] :: zipD (nums ks) (nums ys) = pnt ⟨k, y, none⟩ :: pnts (ptZ ks ys)
    rw [zipD_pts ks ys]; rfl
theorem ptZ_x : ∀ {ks ys : List Rat}, ks.length = ys.length → (ptZ ks ys).map Pt.x = ks
  | [], _, _ => rfl
  | _ :: _, [], h => by cases h
  | k :: ks, y :: ys, h => by
    show k :: (ptZ ks ys).map Pt.x = k :: ks
    rw [ptZ_x (by simpa using h)]
theorem ptZ_told : ∀ (ks ys : List Rat), toldN (ptZ ks ys) = (ptZ ks ys).length
  | [], _ => rfl
  | _ :: _, [] => rfl
  | k :: ks, y :: ys => by
    show 1 + toldN (ptZ ks ys) = (ptZ ks ys).length + 1
    rw [ptZ_told ks ys, Nat.add_comm]
theorem ptZ_len {ks ys : List Rat} (h : ks.length = ys.length) : (ptZ ks ys).length = ks.length := by
  unfold ptZ; rw [List.length_zipWith]; omega
theorem ptZ_sz {b : Nat} : ∀ {ks ys : List Rat}, Szs b ks → Szs b ys → PtSz b (ptZ ks ys)
  | [], _, _, _ => fun _ h => by cases h
  | _ :: _, [], _, _ => fun _ h => by cases h
  | k :: ks, y :: ys, h1, h2 => fun p hp => by
    rcases List.mem_cons.mp (show p ∈ (⟨k, y, none⟩ : Pt) :: ptZ ks ys from hp) with rfl | hp
    · exact ⟨h1 k (List.mem_cons_self ..), h2 y (List.mem_cons_self ..), fun s e => by cases e⟩
    · exact ptZ_sz (fun q hq => h1 q (List.mem_cons_of_mem _ hq)) (fun q hq => h2 q (List.mem_cons_of_mem _ hq)) p hp
theorem ptZ_mem {ks ys : List Rat} {p : Rat × Rat} (h : p ∈ ks.zip ys) : (⟨p.1, p.2, none⟩ : Pt) ∈ ptZ ks ys := by
  obtain ⟨i, hi⟩ := List.mem_iff_getElem?.mp h
  rw [List.getElem?_zip_eq_some] at hi
  refine List.mem_of_getElem? (i := i) ?_
  unfold ptZ
  rw [List.getElem?_zipWith, hi.1, hi.2]
theorem through_on {ks ys r : List Rat} (hl : ks.length = ys.length) (hn : ks.Nodup) (hr : ∀ x, ev r x = nwt (knots (ptZ ks ys)) (stepsT (tells (ptZ ks ys))) x) : ∀ p ∈ ks.zip ys, ev r p.1 = p.2 := fun p hp => by
  have h1 := (told_point (ptZ_mem hp)).1
  have h2 := through_val (by rw [ptZ_x hl]; exact hn) hr h1
  exact h2
def sx_ask_told_v2 : SX :=
  (.expr (.call 353 (.cons (.v 0) (.cons (.int 1) .nil)))
  (.ite (.cmp .ne (.blt .len (.cons (.v 1) .nil)) (.blt .len (.cons (.v 0) .nil)))
    (.raise .npoints .nil)
    .nil .nil))
abbrev ns_ask_told_v2 : List Str := ["places", "heights"]
def sx_pair_for_v2_1 : SX :=
  (.ret (.v 4) .nil)
def sx_pair_for_v2 : SX :=
  (.asg (.n 3) (.tup (.cons (.call 218 (.cons (.v 0) .nil)) (.cons (.tup .nil) .nil)))
  (.asg (.n 4) (.tup (.cons (.call 97 (.cons (.tupz (.v 0) (.v 1)) .nil)) (.cons (.tup (.cons (.glo 1) .nil)) .nil)))
  (.whl (.cmp .gt (.blt .len (.cons (.ix (.v 4) (.int 0)) .nil)) (.v 2))
    (.asg (.t [5, 6]) (.call 44 (.cons (.ix (.v 3) (.int 0)) (.cons (.ix (.v 4) (.int 0)) .nil)))
    (.par 3 4 (.v 4) (.tup (.cons (.v 6) (.cons (.call 32 (.cons (.ix (.v 3) (.int 1)) (.cons (.call 34 (.cons (.v 5) (.cons (.ix (.v 4) (.int 1)) .nil))) .nil))) .nil))) .nil))
  sx_pair_for_v2_1)))
abbrev ns_pair_for_v2 : List Str := ["places", "heights", "width", "ahead", "now", "often", "rest"]
structure PairR (ks ys : List Rat) (w : Nat) (r v : List Rat) : Prop where
  tr : Tight r
  tv : Tight v
  v0 : v ≠ []
  lr : r.length ≤ w
  lv : v.length + w ≤ ks.length + 1
  on : ∀ p ∈ ks.zip ys, ev r p.1 = ev v p.1 * p.2
  bez : ∃ ra va : List Rat, ∃ s : Rat, (s = 1 ∨ s = -1) ∧ (∀ x, ev ra x * ev v x - ev r x * ev va x = s * lpr ks x) ∧ ∀ p ∈ ks.zip ys, ev ra p.1 = ev va p.1 * p.2
structure PairS (ks ys : List Rat) (h0 h1 k : Nat) (ra va r v : List Rat) : Prop where
  tra : Tight ra
  tr : Tight r
  tva : Tight va
  tv : Tight v
  lt : r.length < ra.length
  idx : k + ra.length ≤ ks.length + 1
  lv : v.length + ra.length = ks.length + 2
  lva : va.length < v.length
  onA : ∀ p ∈ ks.zip ys, ev ra p.1 = ev va p.1 * p.2
  on : ∀ p ∈ ks.zip ys, ev r p.1 = ev v p.1 * p.2
  bez : ∃ s : Rat, (s = 1 ∨ s = -1) ∧ (∀ x, ev ra x * ev v x - ev r x * ev va x = s * lpr ks x)
  hra : Ht (plB h0 h1 k) ra
  hr : Ht (plB h0 h1 (k + 1)) r
  hva : Ht (vlB h0 h1 k) va
  hv : Ht (vlB h0 h1 (k + 1)) v
theorem PairS.fin {ks ys ra va r v : List Rat} {h0 h1 k w : Nat} (h : PairS ks ys h0 h1 k ra va r v) (h2 : w < ra.length) (h3 : r.length ≤ w) : PairR ks ys w r v where
  tr := h.tr
  tv := h.tv
  v0 := fun z => by have := h.lva; rw [z] at this; simp at this
  lr := h3
  lv := by have := h.lv; omega
  on := h.on
  bez := by
    obtain ⟨s, h1, h2⟩ := h.bez
    exact ⟨ra, va, s, h1, h2, h.onA⟩
theorem PairS.step {ks ys ra va r v t r2 v2 : List Rat} {h0 h1 k : Nat} (hk : ks.length ≤ 12) (h : PairS ks ys h0 h1 k ra va r v) (hr0 : r ≠ []) (hd : DivOk ra r t r2) (ht : Ht (dvB h0 h1 k (ra.length - r.length)) t) (hr2 : Ht (dvB h0 h1 k (ra.length - r.length)) r2)
    (tv2 : Tight v2) (ev2 : ∀ x, ev v2 x = ev va x - ev t x * ev v x) : PairS ks ys h0 h1 (k + (ra.length - r.length)) r v r2 v2 := by
  have hlt := h.lt
  have hidx := h.idx
  have hlv := h.lv
  have hlva := h.lva
  have hd1 : 1 ≤ ra.length - r.length := by omega
  have hvl : 0 < v.length := by omega
  have htl := hd.lt
  have tlen : t.length = ra.length - r.length + 1 := by omega
  -- the length of v2
  have hv2 : v2.length = t.length + v.length - 1 := by
    obtain ⟨c, hc, hcl, hce, hlast⟩ := tight_prod (d := t) (o := v) (fun z => by rw [z] at tlen; simp at tlen) (fun z => by rw [z] at hvl; simp at hvl) hd.tt h.tv
    have hcl : c.length = t.length + v.length - 1 := by omega
    have e1 : ∀ x, ev c x = ev va x - ev v2 x := fun x => by rw [hce, ev2]; grind
    have e2 : ∀ x, ev v2 x = ev va x - ev c x := fun x => by rw [hce, ev2]
    have up : v2.length ≤ t.length + v.length - 1 := by
      rcases Nat.lt_or_ge (t.length + v.length - 1) v2.length with z | z
      · have k1 := coef_sub e2 (v2.length - 1)
        rw [coef_out (c := va) (by omega), coef_out (c := c) (by omega)] at k1
        rcases List.eq_nil_or_concat v2 with rfl | ⟨q, b, rfl⟩
        · simp at z
        · rw [List.concat_eq_append] at *
          have k2 : coef (q ++ [b]) ((q ++ [b]).length - 1) = b := coef_at (by simp)
          rw [k2] at k1
          exact absurd (by rw [k1]; grind) (tv2 b (by simp))
      · exact z
    have dn : c.length ≤ v2.length := by
      rcases Nat.lt_or_ge v2.length c.length with z | z
      · have k1 := coef_sub e1 (c.length - 1)
        rw [coef_out (c := va) (by omega), coef_out (c := v2) (by omega)] at k1
        rcases List.eq_nil_or_concat c with rfl | ⟨q, b, rfl⟩
        · simp at z
        · rw [List.concat_eq_append] at *
          have k2 : coef (q ++ [b]) ((q ++ [b]).length - 1) = b := coef_at (by simp)
          rw [k2] at k1
          exact absurd (by rw [k1]; grind) (hc b (by simp))
      · exact z
    omega
  have hp1 := plB_step (a := h0) (b := h1) (k := k) hd1
  have hR : dvB h0 h1 k (ra.length - r.length) ≤ plB h0 h1 (k + 1 + (ra.length - r.length)) := hp1
  have e1 : k + 1 + (ra.length - r.length) = k + (ra.length - r.length) + 1 := by omega
  refine ⟨h.tr, hd.tr, h.tv, tv2, hd.lr, by omega, by omega, by omega, h.on, fun p hp => ?_, ?_, ?_, ?_, ?_, ?_⟩
  · have a1 := h.onA p hp
    have a2 := h.on p hp
    have a3 := hd.e p.1
    rw [ev2]
    grind
  · obtain ⟨s, hs, hb⟩ := h.bez
    refine ⟨-s, ?_, fun x => ?_⟩
    · rcases hs with rfl | rfl
      · exact .inr rfl
      · exact .inl (by grind)
    · have a3 := hd.e x
      have a4 := hb x
      rw [ev2]
      grind
  · have : plB h0 h1 (k + 1) ≤ plB h0 h1 (k + 1 + (ra.length - r.length - 1)) := plB_mono
    rw [show k + 1 + (ra.length - r.length - 1) = k + (ra.length - r.length) by omega] at this
    exact h.hr.mono this
  · rw [← e1]; exact hr2.mono hR
  · exact h.hv.mono (vlB_mono (by omega))
  · have m1 := Ht.mul (m := 4) (r := pmul t v) ht h.hv (show t.length < 16 by omega) (fun x => pmul_ev t v x)
    have m2 := h.hva.sub (r := v2) m1 (fun x => by rw [ev2, pmul_ev])
    have m3 := vlB_step (a := h0) (b := h1) (k := k) hd1
    rw [← e1]
    exact m2.mono (by omega)
section
variable {Γ : Nat → SpD} {gl : Nat → D} {ds : List D} {g : G} {Q : QD} {E X : XD}
def spAskT : SpD := fun ds g Q X => ∃ a b ks ys, ds = [.ref a, .ref b] ∧ g a = some (nums ks) ∧ g b = some (nums ys) ∧ ks.length ≤ 40 ∧ (¬ (Places 1 ks ∧ ks.length = ys.length) → X .npoints g) ∧ (Places 1 ks → ks.length = ys.length → Q .non g)
theorem pure_ask_told_v2 (h353 : Γ 353 = spAskPl) (h : spAskT ds g Q E) : mnS Γ gl sx_ask_told_v2 (endsOf Q E) (startD ns_ask_told_v2 ds) g := by
  obtain ⟨a, b, ks, ys, rfl, ha, hb, hl, hX, h⟩ := h
  simp only [sx_ask_told_v2, h353, mnS, mn, Mn.of, Op.rd, Cm.rd, Bl.rd, Mt.rd, Mt.rc, dNop, dSeq, dExpr, dRet, dRetN, dIf, gD, dAsg, dPar, dPut, dRaise, dVar, dC, dBin, dUn, dNil, dCons, dTup, dLst, dTst, dAndT, dOrT, dNotT, dYes, dAnd, dOr, dNot, dChain, dCall, dCB, dMt, dLset, dSrev, dTry, dIsx, dEmp, dStp, xsub, Ex.sub, dSlc, dPart, dNoPart, dIAny, dI1, dI2, dI3, dFor, dComp, compB, wipeD, startD, endsOf, at_mk, setAll, add_int, sub_int, mul_int, mul_tup, pow_int, mod_int, fdiv_int, lt_int, le_int, gt_int, ge_int, eq_int, neg_int, len_tup, len_scr, abs_int, max_int, min_int, int_int, int_bl, r1_int, r2_int, tuple_tup, list_tup, over_tup, rev_tup, enum_tup, zip_tup, slc_tup, add_tup, isi_any, ix_tup, ix_scr, ix_num0, ix_num1, len_num, num_0, num_1, atI_0, atI_1, atI_2, List.map, List.cons_append, List.nil_append, List.getElem?_cons_zero, List.getElem?_cons_succ, List.getElem?_nil, List.set_cons_zero, List.set_cons_succ, List.replicate, List.length_cons, List.length_nil, List.foldr_cons, List.foldr_nil, Nat.reduceAdd, Nat.reduceSub, List.replicate_succ, List.replicate_zero, G_up_same, decide_eq_true_eq, Bool.not_eq_true', Bool.false_eq_true, if_true, if_false, ite_true, ite_false, and_true, true_and, reduceCtorEq, Bool.not_true, Bool.not_false, Bool.false_bne, Bool.true_bne, sl0, sl1, sl2, sl3, sl4]
  refine ⟨a, ks, 1, rfl, ha, hl, fun z => ⟨_, G.le_refl _, hX fun y => z y.1⟩, fun hP => ?_⟩
  simp only [len_ref ha, len_ref hb, nums_len, mnS, mn, Mn.of, Op.rd, Cm.rd, Bl.rd, Mt.rd, Mt.rc, dNop, dSeq, dExpr, dRet, dRetN, dIf, gD, dAsg, dPar, dPut, dRaise, dVar, dC, dBin, dUn, dNil, dCons, dTup, dLst, dTst, dAndT, dOrT, dNotT, dYes, dAnd, dOr, dNot, dChain, dCall, dCB, dMt, dLset, dSrev, dTry, dIsx, dEmp, dStp, xsub, Ex.sub, dSlc, dPart, dNoPart, dIAny, dI1, dI2, dI3, dFor, dComp, compB, wipeD, startD, endsOf, at_mk, setAll, add_int, sub_int, mul_int, mul_tup, pow_int, mod_int, fdiv_int, lt_int, le_int, gt_int, ge_int, eq_int, neg_int, len_tup, len_scr, abs_int, max_int, min_int, int_int, int_bl, r1_int, r2_int, tuple_tup, list_tup, over_tup, rev_tup, enum_tup, zip_tup, slc_tup, add_tup, isi_any, ix_tup, ix_scr, ix_num0, ix_num1, len_num, num_0, num_1, atI_0, atI_1, atI_2, List.map, List.cons_append, List.nil_append, List.getElem?_cons_zero, List.getElem?_cons_succ, List.getElem?_nil, List.set_cons_zero, List.set_cons_succ, List.replicate, List.length_cons, List.length_nil, List.foldr_cons, List.foldr_nil, Nat.reduceAdd, Nat.reduceSub, List.replicate_succ, List.replicate_zero, G_up_same, decide_eq_true_eq, Bool.not_eq_true', Bool.false_eq_true, if_true, if_false, ite_true, ite_false, and_true, true_and, reduceCtorEq, Bool.not_true, Bool.not_false, Bool.false_bne, Bool.true_bne, sl0, sl1, sl2, sl3, sl4]
  by_cases e : ks.length = ys.length
  · rw [decide_eq_true (show ((ys.length : Nat) : Int) = (ks.length : Int) by rw [e])]
    try simp only [mnS, mn, Mn.of, Op.rd, Cm.rd, Bl.rd, Mt.rd, Mt.rc, dNop, dSeq, dExpr, dRet, dRetN, dIf, gD, dAsg, dPar, dPut, dRaise, dVar, dC, dBin, dUn, dNil, dCons, dTup, dLst, dTst, dAndT, dOrT, dNotT, dYes, dAnd, dOr, dNot, dChain, dCall, dCB, dMt, dLset, dSrev, dTry, dIsx, dEmp, dStp, xsub, Ex.sub, dSlc, dPart, dNoPart, dIAny, dI1, dI2, dI3, dFor, dComp, compB, wipeD, startD, endsOf, at_mk, setAll, add_int, sub_int, mul_int, mul_tup, pow_int, mod_int, fdiv_int, lt_int, le_int, gt_int, ge_int, eq_int, neg_int, len_tup, len_scr, abs_int, max_int, min_int, int_int, int_bl, r1_int, r2_int, tuple_tup, list_tup, over_tup, rev_tup, enum_tup, zip_tup, slc_tup, add_tup, isi_any, ix_tup, ix_scr, ix_num0, ix_num1, len_num, num_0, num_1, atI_0, atI_1, atI_2, List.map, List.cons_append, List.nil_append, List.getElem?_cons_zero, List.getElem?_cons_succ, List.getElem?_nil, List.set_cons_zero, List.set_cons_succ, List.replicate, List.length_cons, List.length_nil, List.foldr_cons, List.foldr_nil, Nat.reduceAdd, Nat.reduceSub, List.replicate_succ, List.replicate_zero, G_up_same, decide_eq_true_eq, Bool.not_eq_true', Bool.false_eq_true, if_true, if_false, ite_true, ite_false, and_true, true_and, reduceCtorEq, Bool.not_true, Bool.not_false, Bool.false_bne, Bool.true_bne, sl0, sl1, sl2, sl3, sl4]
    exact ⟨_, G.le_refl _, h hP e⟩
  · rw [decide_eq_false (show ¬ ((ys.length : Nat) : Int) = (ks.length : Int) by omega)]
    try simp only [mnS, mn, Mn.of, Op.rd, Cm.rd, Bl.rd, Mt.rd, Mt.rc, dNop, dSeq, dExpr, dRet, dRetN, dIf, gD, dAsg, dPar, dPut, dRaise, dVar, dC, dBin, dUn, dNil, dCons, dTup, dLst, dTst, dAndT, dOrT, dNotT, dYes, dAnd, dOr, dNot, dChain, dCall, dCB, dMt, dLset, dSrev, dTry, dIsx, dEmp, dStp, xsub, Ex.sub, dSlc, dPart, dNoPart, dIAny, dI1, dI2, dI3, dFor, dComp, compB, wipeD, startD, endsOf, at_mk, setAll, add_int, sub_int, mul_int, mul_tup, pow_int, mod_int, fdiv_int, lt_int, le_int, gt_int, ge_int, eq_int, neg_int, len_tup, len_scr, abs_int, max_int, min_int, int_int, int_bl, r1_int, r2_int, tuple_tup, list_tup, over_tup, rev_tup, enum_tup, zip_tup, slc_tup, add_tup, isi_any, ix_tup, ix_scr, ix_num0, ix_num1, len_num, num_0, num_1, atI_0, atI_1, atI_2, List.map, List.cons_append, List.nil_append, List.getElem?_cons_zero, List.getElem?_cons_succ, List.getElem?_nil, List.set_cons_zero, List.set_cons_succ, List.replicate, List.length_cons, List.length_nil, List.foldr_cons, List.foldr_nil, Nat.reduceAdd, Nat.reduceSub, List.replicate_succ, List.replicate_zero, G_up_same, decide_eq_true_eq, Bool.not_eq_true', Bool.false_eq_true, if_true, if_false, ite_true, ite_false, and_true, true_and, reduceCtorEq, Bool.not_true, Bool.not_false, Bool.false_bne, Bool.true_bne, sl0, sl1, sl2, sl3, sl4]
    exact ⟨_, G.le_refl _, hX fun y => e y.2⟩
end
end PP
namespace PP
open PySem PySem.Spec PyProof.Rows L2
theorem ev_htD {D : Int} {h bx : Nat} {x : Rat} (hx : sz x ≤ bx) : ∀ {p : List Rat}, HtD D h p → ∃ N : Int, ev p x * ((D * (x.den : Int) ^ p.length : Int) : Rat) = (N : Rat) ∧ N.natAbs < 2 ^ (h + p.length * (bx + 1))
  | [], _ => ⟨0, by rw [ev_nil]; grind, Nat.two_pow_pos _⟩
  | a :: p, hp => by
    have hp' : HtD D h p := fun i => by
      have := hp (i + 1)
      rw [coef_cons_succ] at this
      exact this
    obtain ⟨Na, ea, ba⟩ := hp 0
    rw [coef_cons_zero] at ea
    obtain ⟨N, e, b⟩ := ev_htD hx hp'
    have h1 := Nat.lt_of_lt_of_le (sz_num x) (Nat.pow_le_pow_right (by decide) hx)
    have h2 : (x.den : Int).natAbs < 2 ^ bx := by simpa using Nat.lt_of_lt_of_le (sz_den x) (Nat.pow_le_pow_right (by decide) hx)
    have hd : (x.den : Int) ≠ 0 := by have := x.den_nz; omega
    have h3 : ((x.den : Int) : Rat) ≠ 0 := int_ne hd
    have h4 : x * ((x.den : Int) : Rat) = (x.num : Rat) := by
      have h5 : x = Rat.divInt x.num x.den := (Rat.num_divInt_den x).symm
      rw [Rat.divInt_eq_div] at h5
      conv => lhs; arg 1; rw [h5]
      grind
    refine ⟨Na * (x.den : Int) ^ (p.length + 1) + x.num * N, ?_, ?_⟩
    · rw [ev_cons, List.length_cons, Rat.intCast_add, Rat.intCast_mul, Rat.intCast_mul, Rat.intCast_mul, ← ea, ← e, ← h4, Int.pow_succ, Rat.intCast_mul, Rat.intCast_mul]
      grind
    · rw [List.length_cons, show h + (p.length + 1) * (bx + 1) = (h + p.length * (bx + 1) + bx) + 1 by rw [Nat.succ_mul]; omega]
      refine pw_add ?_ ?_
      · rw [Int.natAbs_mul]
        refine Nat.lt_of_lt_of_le (pw_pows (p.length + 1) ba h2) (Nat.pow_le_pow_right (by decide) ?_)
        rw [Nat.succ_mul, Nat.mul_succ]; omega
      · rw [Int.natAbs_mul, Nat.mul_comm]; exact pw_mul b h1
theorem ev_sz {D : Int} {h bx : Nat} {x : Rat} {p : List Rat} (h0 : D ≠ 0) (hD : D.natAbs < 2 ^ h) (hp : HtD D h p) (hx : sz x ≤ bx) : sz (ev p x) ≤ h + p.length * (bx + 1) := by
  obtain ⟨N, e, b⟩ := ev_htD hx hp
  have hd : (x.den : Int) ≠ 0 := by have := x.den_nz; omega
  have h2 : (x.den : Int).natAbs < 2 ^ bx := by simpa using Nat.lt_of_lt_of_le (sz_den x) (Nat.pow_le_pow_right (by decide) hx)
  refine sz_fr e (rj_nz _ h0 hd) (Nat.lt_of_lt_of_le (rj_lt hD h2) (Nat.pow_le_pow_right (by decide) ?_)) b
  rw [Nat.mul_succ]; omega
theorem coef_drop (p : List Rat) (k i : Nat) : coef (p.drop k) i = coef p (k + i) := by
  unfold coef
  rw [List.getD_eq_getElem?_getD, List.getD_eq_getElem?_getD, List.getElem?_drop]
theorem coef_take (p : List Rat) (k i : Nat) : coef (p.take k) i = if i < k then coef p i else 0 := by
  unfold coef
  rw [List.getD_eq_getElem?_getD, List.getD_eq_getElem?_getD, List.getElem?_take]
  split <;> rfl
theorem HtD.drop {D : Int} {h : Nat} {p : List Rat} (a : HtD D h p) (k : Nat) : HtD D h (p.drop k) := fun i => by rw [coef_drop]; exact a _
theorem HtD.take {D : Int} {h : Nat} {p : List Rat} (a : HtD D h p) (k : Nat) : HtD D h (p.take k) := fun i => by
  rw [coef_take]
  split
  · exact a _
  · exact ⟨0, by grind, Nat.two_pow_pos _⟩
theorem Ht.ev {h bx : Nat} {x : Rat} {p : List Rat} (a : Ht h p) (hx : sz x ≤ bx) : sz (PP.ev p x) ≤ h + p.length * (bx + 1) := by
  obtain ⟨D, a1, a2, a3⟩ := a
  exact ev_sz a1 a2 a3 hx
theorem evOk_ht {h bx : Nat} {x : Rat} {p : List Rat} (a : Ht h p) (hx : sz x ≤ bx) (hs : 2 * h + (2 * p.length + 2) * (bx + 2) ≤ 100000000) : EvOk p x := by
  have hsz := a.szs
  obtain ⟨D, a1, a2, a3⟩ := a
  refine ⟨h + p.length * (bx + 1), h, bx, hx, hsz, fun k hk => ?_, fun k hk => ?_, fun k _ => sz_powk x bx hx k, ?_⟩
  · refine Nat.le_trans (ev_sz a1 a2 (a3.drop k) hx) (Nat.add_le_add_left (Nat.mul_le_mul_right _ ?_) _)
    rw [List.length_drop]; omega
  · refine Nat.le_trans (ev_sz a1 a2 (a3.take k) hx) (Nat.add_le_add_left (Nat.mul_le_mul_right _ ?_) _)
    rw [List.length_take]; omega
  · have h1 : p.length * (bx + 1) ≤ p.length * (bx + 2) := Nat.mul_le_mul_left _ (by omega)
    have h2 : (2 * p.length + 2) * (bx + 2) = p.length * (bx + 2) + (p.length + 2) * (bx + 2) := by rw [← Nat.add_mul]; congr 1; omega
    omega
section
variable {Γ : Nat → SpD} {gl : Nat → D} {ds : List D} {g : G} {Q : QD} {E X : XD}
theorem zip_numQ {ks ys : List Rat} {k : Nat} {d : D} (h : (zipD (nums ks) (nums ys))[k]? = some d) : ∃ x y, ks[k]? = some x ∧ ys[k]? = some y ∧ d = .tup [num x, num y] := by
  unfold zipD at h
  rw [List.getElem?_zipWith] at h
  unfold nums at h
  rw [List.getElem?_map, List.getElem?_map] at h
  cases hx : ks[k]? with
  | none => rw [hx] at h; cases h
  | some x =>
    cases hy : ys[k]? with
    | none => rw [hx, hy] at h; cases h
    | some y => rw [hx, hy] at h; cases h; exact ⟨x, y, rfl, rfl, rfl⟩
end
end PP
namespace PP
open PySem PySem.Spec PyProof.Rows L2
def H0B (n : Nat) : Nat := (n + 1) * 24 + 1
def H1B (n c : Nat) : Nat := (n + 1) * (tB n 22 c + 1) + 1
theorem met_H1 {n c : Nat} {ks ys f : List Rat} (hk : Szs 22 ks) (hy : Szs c ys) (hn : ks.Nodup) (hl : ks.length = ys.length) (hl2 : ks.length ≤ n + 1) (hf : f.length ≤ ks.length) (he : ∀ p ∈ ks.zip ys, ev f p.1 = p.2) : Ht (H1B n c) f :=
  (met_ht hk hy hn hl hl2 hf he).mono (Nat.add_le_add_right (Nat.mul_le_mul_right _ hl2) _)
theorem lnL_H0 {n : Nat} {ks : List Rat} (hk : Szs 22 ks) (hl2 : ks.length ≤ n + 1) : Ht (H0B n) (lnL ks) :=
  (lnL_ht hk).mono (Nat.add_le_add_right (Nat.mul_le_mul_right _ hl2) _)
end PP
namespace PP
open PySem PySem.Spec PyProof.Rows L2
theorem above_all (L : List Rat) : ∃ a : Rat, ∀ x ∈ L, x ≤ a := by
  induction L with
  | nil => exact ⟨0, fun x h => by cases h⟩
  | cons y L ih =>
    obtain ⟨a, ha⟩ := ih
    by_cases h : y ≤ a
    · exact ⟨a, fun x hx => by rcases List.mem_cons.mp hx with rfl | hx; exact h; exact ha x hx⟩
    · refine ⟨y, fun x hx => ?_⟩
      rcases List.mem_cons.mp hx with rfl | hx
      · exact Rat.le_refl
      · have := ha x hx; grind
theorem div_exact {r v t z c : List Rat} (tc : Tight c) (tv : Tight v) (v0 : v ≠ []) (tr : Tight r) (hd : DivOk r v t z) (h : ∀ x, ev r x = ev v x * ev c x) : z = [] ∧ t = c := by
  have hvl := List.length_pos_iff.mpr v0
  have hd2 : DivOk r v c [] := by
    refine ⟨tc, (fun q hq => by cases hq), ?_, (by simpa using hvl), fun x => by rw [h, ev_nil]; grind⟩
    by_cases hc : c = []
    · subst hc
      have : r = [] := tight_congr tr tight_nil fun x => by rw [h, ev_nil]; grind
      subst this
      simp; omega
    · obtain ⟨d, hdt, hdl, hde, -⟩ := tight_prod v0 hc tv tc
      have : d = r := tight_congr hdt tr fun x => by rw [hde, h]
      subst this
      omega
  obtain ⟨e1, e2⟩ := DivOk.uniq tv hd hd2
  exact ⟨e2, e1⟩
end PP
namespace PP
open PySem PySem.Spec PyProof.Rows L2
def comOk (a b N : Nat) : Bool := (List.range (N + 1)).all fun k => (List.range (N + 1)).all fun d => d == 0 || decide (N < k + d + 1) || decide (2 * dvB a b k d + 10 ≤ 98000000)
theorem comOk_at {a b N k d : Nat} (h : comOk a b N = true) (h1 : 1 ≤ d) (h2 : k + d + 1 ≤ N) : 2 * dvB a b k d + 10 ≤ 98000000 := by
  have := List.all_eq_true.mp (List.all_eq_true.mp h k (List.mem_range.mpr (by omega))) d (List.mem_range.mpr (by omega))
  simp only [Bool.or_eq_true, beq_iff_eq, decide_eq_true_eq] at this
  rcases this with (h | h) | h
  · omega
  · omega
  · exact h
section
variable {Γ : Nat → SpD} {gl : Nat → D} {ds : List D} {g : G} {Q : QD} {E X : XD}
def spComH : SpD := fun ds g Q _ => ∃ p o A B, ds = [.tup (nums p), .tup (nums o)] ∧ Ht A p ∧ Ht B o ∧ Tight p ∧ Tight o ∧ p.length ≤ 50 ∧ o.length ≤ 50 ∧ ¬ (p = [] ∧ o = []) ∧ A ≤ 49000000 ∧ B ≤ 49000000 ∧ 2 * divB p.length o.length A B + 10 ≤ 98000000 ∧ comOk B (divB p.length o.length A B) o.length = true ∧
  ∀ d, GcdOk p o d → Q (.tup (nums d)) g
theorem pure_common_part__H {E : XD} (h44 : Γ 44 = spDivH) (h49 : Γ 49 = spLastOne) (h : spComH ds g Q E) : mnS Γ gl sx_common_part (endsOf Q E) (startD ns_common_part ds) g := by
  obtain ⟨p, o, A, B, rfl, hp, ho, htp, hto, hlp, hlo, hne, hA, hB, hd1, hco, h⟩ := h
  have main : mnS Γ gl sx_common_part_2 (endsOf Q E) [some (.tup (nums p)), some (.tup (nums o))] g := by
    simp only [sx_common_part_2, sx_common_part_1, h44, h49, mnS, mn, Mn.of, Op.rd, Cm.rd, Bl.rd, Mt.rd, Mt.rc, dNop, dSeq, dExpr, dRet, dRetN, dIf, gD, dAsg, dPar, dPut, dRaise, dVar, dC, dBin, dUn, dNil, dCons, dTup, dLst, dTst, dAndT, dOrT, dNotT, dYes, dAnd, dOr, dNot, dChain, dCall, dCB, dMt, dLset, dSrev, dTry, dIsx, dEmp, dStp, xsub, Ex.sub, dSlc, dPart, dNoPart, dIAny, dI1, dI2, dI3, dFor, dComp, compB, wipeD, startD, endsOf, at_mk, setAll, add_int, sub_int, mul_int, mul_tup, pow_int, mod_int, fdiv_int, lt_int, le_int, gt_int, ge_int, eq_int, neg_int, len_tup, len_scr, abs_int, max_int, min_int, int_int, int_bl, r1_int, r2_int, tuple_tup, list_tup, over_tup, rev_tup, enum_tup, zip_tup, slc_tup, add_tup, isi_any, ix_tup, ix_scr, ix_num0, ix_num1, len_num, num_0, num_1, atI_0, atI_1, atI_2, List.map, List.cons_append, List.nil_append, List.getElem?_cons_zero, List.getElem?_cons_succ, List.getElem?_nil, List.set_cons_zero, List.set_cons_succ, List.replicate, List.length_cons, List.length_nil, List.foldr_cons, List.foldr_nil, Nat.reduceAdd, Nat.reduceSub, List.replicate_succ, List.replicate_zero, G_up_same, decide_eq_true_eq, Bool.not_eq_true', Bool.false_eq_true, if_true, if_false, ite_true, ite_false, and_true, true_and, reduceCtorEq, Bool.not_true, Bool.not_false, Bool.false_bne, Bool.true_bne, sl0, sl1, sl2, sl3, sl4]
    refine ⟨fun n env g' => ∃ p' o', env = [some (.tup (nums p')), some (.tup (nums o'))] ∧ g' = g ∧ n = o'.length ∧ Tight p' ∧ Tight o' ∧ p'.length ≤ 50 ∧ o'.length ≤ 50 ∧ (∀ c, Dv c p' ∧ Dv c o' ↔ Dv c p ∧ Dv c o) ∧ ¬ (p' = [] ∧ o' = []) ∧
        ((p' = p ∧ o' = o) ∨ ∃ k, k + p'.length ≤ o.length ∧ o'.length < p'.length ∧ Ht (plB B (divB p.length o.length A B) k) p' ∧ Ht (plB B (divB p.length o.length A B) (k + 1)) o' ∧ ∃ b, b ≤ 49000000 ∧ Szs b p'),
      ⟨_, p, o, rfl, rfl, rfl, htp, hto, hlp, hlo, fun c => Iff.rfl, hne, .inl ⟨rfl, rfl⟩⟩, ?_⟩
    rintro n env g' ⟨p', o', rfl, rfl, rfl, htp, hto, hlp, hlo, hcd, hne, hst⟩
    try simp only [mnS, mn, Mn.of, Op.rd, Cm.rd, Bl.rd, Mt.rd, Mt.rc, dNop, dSeq, dExpr, dRet, dRetN, dIf, gD, dAsg, dPar, dPut, dRaise, dVar, dC, dBin, dUn, dNil, dCons, dTup, dLst, dTst, dAndT, dOrT, dNotT, dYes, dAnd, dOr, dNot, dChain, dCall, dCB, dMt, dLset, dSrev, dTry, dIsx, dEmp, dStp, xsub, Ex.sub, dSlc, dPart, dNoPart, dIAny, dI1, dI2, dI3, dFor, dComp, compB, wipeD, startD, endsOf, at_mk, setAll, add_int, sub_int, mul_int, mul_tup, pow_int, mod_int, fdiv_int, lt_int, le_int, gt_int, ge_int, eq_int, neg_int, len_tup, len_scr, abs_int, max_int, min_int, int_int, int_bl, r1_int, r2_int, tuple_tup, list_tup, over_tup, rev_tup, enum_tup, zip_tup, slc_tup, add_tup, isi_any, ix_tup, ix_scr, ix_num0, ix_num1, len_num, num_0, num_1, atI_0, atI_1, atI_2, List.map, List.cons_append, List.nil_append, List.getElem?_cons_zero, List.getElem?_cons_succ, List.getElem?_nil, List.set_cons_zero, List.set_cons_succ, List.replicate, List.length_cons, List.length_nil, List.foldr_cons, List.foldr_nil, Nat.reduceAdd, Nat.reduceSub, List.replicate_succ, List.replicate_zero, G_up_same, decide_eq_true_eq, Bool.not_eq_true', Bool.false_eq_true, if_true, if_false, ite_true, ite_false, and_true, true_and, reduceCtorEq, Bool.not_true, Bool.not_false, Bool.false_bne, Bool.true_bne, sl0, sl1, sl2, sl3, sl4]
    refine eq_tup (q := []) (fun e => ?_) fun e => ?_
    · subst e
      try simp only [mnS, mn, Mn.of, Op.rd, Cm.rd, Bl.rd, Mt.rd, Mt.rc, dNop, dSeq, dExpr, dRet, dRetN, dIf, gD, dAsg, dPar, dPut, dRaise, dVar, dC, dBin, dUn, dNil, dCons, dTup, dLst, dTst, dAndT, dOrT, dNotT, dYes, dAnd, dOr, dNot, dChain, dCall, dCB, dMt, dLset, dSrev, dTry, dIsx, dEmp, dStp, xsub, Ex.sub, dSlc, dPart, dNoPart, dIAny, dI1, dI2, dI3, dFor, dComp, compB, wipeD, startD, endsOf, at_mk, setAll, add_int, sub_int, mul_int, mul_tup, pow_int, mod_int, fdiv_int, lt_int, le_int, gt_int, ge_int, eq_int, neg_int, len_tup, len_scr, abs_int, max_int, min_int, int_int, int_bl, r1_int, r2_int, tuple_tup, list_tup, over_tup, rev_tup, enum_tup, zip_tup, slc_tup, add_tup, isi_any, ix_tup, ix_scr, ix_num0, ix_num1, len_num, num_0, num_1, atI_0, atI_1, atI_2, List.map, List.cons_append, List.nil_append, List.getElem?_cons_zero, List.getElem?_cons_succ, List.getElem?_nil, List.set_cons_zero, List.set_cons_succ, List.replicate, List.length_cons, List.length_nil, List.foldr_cons, List.foldr_nil, Nat.reduceAdd, Nat.reduceSub, List.replicate_succ, List.replicate_zero, G_up_same, decide_eq_true_eq, Bool.not_eq_true', Bool.false_eq_true, if_true, if_false, ite_true, ite_false, and_true, true_and, reduceCtorEq, Bool.not_true, Bool.not_false, Bool.false_bne, Bool.true_bne, sl0, sl1, sl2, sl3, sl4]
      have h0 : p' ≠ [] := fun z => hne ⟨z, rfl⟩
      have hmd := monic_dv htp h0
      have hsz : ∃ b, b ≤ 49000000 ∧ Szs b p' := by
        rcases hst with ⟨rfl, _⟩ | ⟨k, _, _, _, _, hk2⟩
        · exact ⟨A, hA, hp.szs⟩
        · exact hk2
      obtain ⟨b, hb, hs⟩ := hsz
      refine ⟨p', b, rfl, hs, htp, h0, hb, by omega, ?_⟩
      refine ⟨_, G.le_refl _, h _ ⟨monic_tight htp h0, monic_last htp h0, fun c => ?_⟩⟩
      rw [← hcd c]
      exact ⟨fun q => ⟨dv_trans q hmd.1, dv_nil⟩, fun q => dv_trans q.1 hmd.2⟩
    · try simp only [mnS, mn, Mn.of, Op.rd, Cm.rd, Bl.rd, Mt.rd, Mt.rc, dNop, dSeq, dExpr, dRet, dRetN, dIf, gD, dAsg, dPar, dPut, dRaise, dVar, dC, dBin, dUn, dNil, dCons, dTup, dLst, dTst, dAndT, dOrT, dNotT, dYes, dAnd, dOr, dNot, dChain, dCall, dCB, dMt, dLset, dSrev, dTry, dIsx, dEmp, dStp, xsub, Ex.sub, dSlc, dPart, dNoPart, dIAny, dI1, dI2, dI3, dFor, dComp, compB, wipeD, startD, endsOf, at_mk, setAll, add_int, sub_int, mul_int, mul_tup, pow_int, mod_int, fdiv_int, lt_int, le_int, gt_int, ge_int, eq_int, neg_int, len_tup, len_scr, abs_int, max_int, min_int, int_int, int_bl, r1_int, r2_int, tuple_tup, list_tup, over_tup, rev_tup, enum_tup, zip_tup, slc_tup, add_tup, isi_any, ix_tup, ix_scr, ix_num0, ix_num1, len_num, num_0, num_1, atI_0, atI_1, atI_2, List.map, List.cons_append, List.nil_append, List.getElem?_cons_zero, List.getElem?_cons_succ, List.getElem?_nil, List.set_cons_zero, List.set_cons_succ, List.replicate, List.length_cons, List.length_nil, List.foldr_cons, List.foldr_nil, Nat.reduceAdd, Nat.reduceSub, List.replicate_succ, List.replicate_zero, G_up_same, decide_eq_true_eq, Bool.not_eq_true', Bool.false_eq_true, if_true, if_false, ite_true, ite_false, and_true, true_and, reduceCtorEq, Bool.not_true, Bool.not_false, Bool.false_bne, Bool.true_bne, sl0, sl1, sl2, sl3, sl4]
      have hol := List.length_pos_iff.mpr e
      have next : ∀ A' B' : Nat, Ht A' p' → Ht B' o' → 2 * divB p'.length o'.length A' B' + 10 ≤ 100000000 → B' ≤ 49000000 → (∀ r, r.length < o'.length → Ht (divB p'.length o'.length A' B') r → ∃ k, k + o'.length ≤ o.length ∧ Ht (plB B (divB p.length o.length A B) k) o' ∧ Ht (plB B (divB p.length o.length A B) (k + 1)) r) →
          spDivH [.tup (nums p'), .tup (nums o')] g' (fun d g1 => dIx d (.int 1) g1 fun x g2 => ∃ n', n' < o'.length ∧ ∃ p'_1 o'_1, [some (D.tup (nums o')), some x] = [some (.tup (nums p'_1)), some (.tup (nums o'_1))] ∧ g2 = g' ∧ n' = o'_1.length ∧ Tight p'_1 ∧ Tight o'_1 ∧ p'_1.length ≤ 50 ∧ o'_1.length ≤ 50 ∧ (∀ c, Dv c p'_1 ∧ Dv c o'_1 ↔ Dv c p ∧ Dv c o) ∧ ¬ (p'_1 = [] ∧ o'_1 = []) ∧
            ((p'_1 = p ∧ o'_1 = o) ∨ ∃ k, k + p'_1.length ≤ o.length ∧ o'_1.length < p'_1.length ∧ Ht (plB B (divB p.length o.length A B) k) p'_1 ∧ Ht (plB B (divB p.length o.length A B) (k + 1)) o'_1 ∧ ∃ b, b ≤ 49000000 ∧ Szs b p'_1)) (fun n g => ∃ g_1 : G, g_1.le g ∧ E n g_1) := by
        intro A' B' hA' hB' hd hB49 hk
        refine c_divH A' B' hA' hB' htp hto hlp hlo hd e fun t r hdv ht hr => ?_
        try simp only [mnS, mn, Mn.of, Op.rd, Cm.rd, Bl.rd, Mt.rd, Mt.rc, dNop, dSeq, dExpr, dRet, dRetN, dIf, gD, dAsg, dPar, dPut, dRaise, dVar, dC, dBin, dUn, dNil, dCons, dTup, dLst, dTst, dAndT, dOrT, dNotT, dYes, dAnd, dOr, dNot, dChain, dCall, dCB, dMt, dLset, dSrev, dTry, dIsx, dEmp, dStp, xsub, Ex.sub, dSlc, dPart, dNoPart, dIAny, dI1, dI2, dI3, dFor, dComp, compB, wipeD, startD, endsOf, at_mk, setAll, add_int, sub_int, mul_int, mul_tup, pow_int, mod_int, fdiv_int, lt_int, le_int, gt_int, ge_int, eq_int, neg_int, len_tup, len_scr, abs_int, max_int, min_int, int_int, int_bl, r1_int, r2_int, tuple_tup, list_tup, over_tup, rev_tup, enum_tup, zip_tup, slc_tup, add_tup, isi_any, ix_tup, ix_scr, ix_num0, ix_num1, len_num, num_0, num_1, atI_0, atI_1, atI_2, List.map, List.cons_append, List.nil_append, List.getElem?_cons_zero, List.getElem?_cons_succ, List.getElem?_nil, List.set_cons_zero, List.set_cons_succ, List.replicate, List.length_cons, List.length_nil, List.foldr_cons, List.foldr_nil, Nat.reduceAdd, Nat.reduceSub, List.replicate_succ, List.replicate_zero, G_up_same, decide_eq_true_eq, Bool.not_eq_true', Bool.false_eq_true, if_true, if_false, ite_true, ite_false, and_true, true_and, reduceCtorEq, Bool.not_true, Bool.not_false, Bool.false_bne, Bool.true_bne, sl0, sl1, sl2, sl3, sl4]
        obtain ⟨k, k1, k2, k3⟩ := hk r hdv.lr hr
        have hrl := hdv.lr
        refine ⟨r.length, hrl, o', r, rfl, rfl, hto, hdv.tr, hlo, by omega, fun c => ?_, fun z => e z.1, .inr ⟨k, k1, hrl, k2, k3, B', hB49, hB'.szs⟩⟩
        rw [← hcd c]
        exact ⟨fun q => ⟨dv_add hdv.e q.2 q.1, q.1⟩, fun q => ⟨q.2, dv_sub hdv.e q.1 q.2⟩⟩
      rcases hst with ⟨rfl, rfl⟩ | ⟨k, k1, k2, k3, k4, k5⟩
      · exact next A B hp ho (by omega) hB fun r hrl hr => ⟨0, by omega, ho, hr⟩
      · have hd0 := comOk_at (k := k) (d := p'.length - o'.length) hco (by omega) (by omega)
        have hdv : divB p'.length o'.length (plB B (divB p.length o.length A B) k) (plB B (divB p.length o.length A B) (k + 1)) = dvB B (divB p.length o.length A B) k (p'.length - o'.length) := by
          unfold divB dvB
          rw [show p'.length + 1 - o'.length = p'.length - o'.length + 1 by omega]
        have hb1 : plB B (divB p.length o.length A B) (k + 1) ≤ dvB B (divB p.length o.length A B) k (p'.length - o'.length) := by
          unfold dvB
          rw [Nat.succ_mul]
          omega
        have hst := plB_step (a := B) (b := divB p.length o.length A B) (k := k) (d := p'.length - o'.length) (by omega)
        refine next _ _ k3 k4 (by rw [hdv]; omega) (by omega) fun r hrl hr => ⟨k + (p'.length - o'.length), by omega, ?_, ?_⟩
        · have := plB_mono (a := B) (b := divB p.length o.length A B) (k := k) (d := p'.length - o'.length - 1)
          rw [show k + 1 + (p'.length - o'.length - 1) = k + (p'.length - o'.length) by omega] at this
          exact k4.mono this
        · rw [hdv] at hr
          rw [show k + (p'.length - o'.length) + 1 = k + 1 + (p'.length - o'.length) by omega]
          exact hr.mono hst
  simp only [sx_common_part, mnS, mn, Mn.of, Op.rd, Cm.rd, Bl.rd, Mt.rd, Mt.rc, dNop, dSeq, dExpr, dRet, dRetN, dIf, gD, dAsg, dPar, dPut, dRaise, dVar, dC, dBin, dUn, dNil, dCons, dTup, dLst, dTst, dAndT, dOrT, dNotT, dYes, dAnd, dOr, dNot, dChain, dCall, dCB, dMt, dLset, dSrev, dTry, dIsx, dEmp, dStp, xsub, Ex.sub, dSlc, dPart, dNoPart, dIAny, dI1, dI2, dI3, dFor, dComp, compB, wipeD, startD, endsOf, at_mk, setAll, add_int, sub_int, mul_int, mul_tup, pow_int, mod_int, fdiv_int, lt_int, le_int, gt_int, ge_int, eq_int, neg_int, len_tup, len_scr, abs_int, max_int, min_int, int_int, int_bl, r1_int, r2_int, tuple_tup, list_tup, over_tup, rev_tup, enum_tup, zip_tup, slc_tup, add_tup, isi_any, ix_tup, ix_scr, ix_num0, ix_num1, len_num, num_0, num_1, atI_0, atI_1, atI_2, List.map, List.cons_append, List.nil_append, List.getElem?_cons_zero, List.getElem?_cons_succ, List.getElem?_nil, List.set_cons_zero, List.set_cons_succ, List.replicate, List.length_cons, List.length_nil, List.foldr_cons, List.foldr_nil, Nat.reduceAdd, Nat.reduceSub, List.replicate_succ, List.replicate_zero, G_up_same, decide_eq_true_eq, Bool.not_eq_true', Bool.false_eq_true, if_true, if_false, ite_true, ite_false, and_true, true_and, reduceCtorEq, Bool.not_true, Bool.not_false, Bool.false_bne, Bool.true_bne, sl0, sl1, sl2, sl3, sl4]
  refine eq_tup (q := []) (fun e => ?_) fun e => ?_
  · try simp only [mnS, mn, Mn.of, Op.rd, Cm.rd, Bl.rd, Mt.rd, Mt.rc, dNop, dSeq, dExpr, dRet, dRetN, dIf, gD, dAsg, dPar, dPut, dRaise, dVar, dC, dBin, dUn, dNil, dCons, dTup, dLst, dTst, dAndT, dOrT, dNotT, dYes, dAnd, dOr, dNot, dChain, dCall, dCB, dMt, dLset, dSrev, dTry, dIsx, dEmp, dStp, xsub, Ex.sub, dSlc, dPart, dNoPart, dIAny, dI1, dI2, dI3, dFor, dComp, compB, wipeD, startD, endsOf, at_mk, setAll, add_int, sub_int, mul_int, mul_tup, pow_int, mod_int, fdiv_int, lt_int, le_int, gt_int, ge_int, eq_int, neg_int, len_tup, len_scr, abs_int, max_int, min_int, int_int, int_bl, r1_int, r2_int, tuple_tup, list_tup, over_tup, rev_tup, enum_tup, zip_tup, slc_tup, add_tup, isi_any, ix_tup, ix_scr, ix_num0, ix_num1, len_num, num_0, num_1, atI_0, atI_1, atI_2, List.map, List.cons_append, List.nil_append, List.getElem?_cons_zero, List.getElem?_cons_succ, List.getElem?_nil, List.set_cons_zero, List.set_cons_succ, List.replicate, List.length_cons, List.length_nil, List.foldr_cons, List.foldr_nil, Nat.reduceAdd, Nat.reduceSub, List.replicate_succ, List.replicate_zero, G_up_same, decide_eq_true_eq, Bool.not_eq_true', Bool.false_eq_true, if_true, if_false, ite_true, ite_false, and_true, true_and, reduceCtorEq, Bool.not_true, Bool.not_false, Bool.false_bne, Bool.true_bne, sl0, sl1, sl2, sl3, sl4]
    refine eq_tup (q := []) (fun e2 => absurd ⟨e, e2⟩ hne) fun e2 => ?_
    try simp only [mnS, mn, Mn.of, Op.rd, Cm.rd, Bl.rd, Mt.rd, Mt.rc, dNop, dSeq, dExpr, dRet, dRetN, dIf, gD, dAsg, dPar, dPut, dRaise, dVar, dC, dBin, dUn, dNil, dCons, dTup, dLst, dTst, dAndT, dOrT, dNotT, dYes, dAnd, dOr, dNot, dChain, dCall, dCB, dMt, dLset, dSrev, dTry, dIsx, dEmp, dStp, xsub, Ex.sub, dSlc, dPart, dNoPart, dIAny, dI1, dI2, dI3, dFor, dComp, compB, wipeD, startD, endsOf, at_mk, setAll, add_int, sub_int, mul_int, mul_tup, pow_int, mod_int, fdiv_int, lt_int, le_int, gt_int, ge_int, eq_int, neg_int, len_tup, len_scr, abs_int, max_int, min_int, int_int, int_bl, r1_int, r2_int, tuple_tup, list_tup, over_tup, rev_tup, enum_tup, zip_tup, slc_tup, add_tup, isi_any, ix_tup, ix_scr, ix_num0, ix_num1, len_num, num_0, num_1, atI_0, atI_1, atI_2, List.map, List.cons_append, List.nil_append, List.getElem?_cons_zero, List.getElem?_cons_succ, List.getElem?_nil, List.set_cons_zero, List.set_cons_succ, List.replicate, List.length_cons, List.length_nil, List.foldr_cons, List.foldr_nil, Nat.reduceAdd, Nat.reduceSub, List.replicate_succ, List.replicate_zero, G_up_same, decide_eq_true_eq, Bool.not_eq_true', Bool.false_eq_true, if_true, if_false, ite_true, ite_false, and_true, true_and, reduceCtorEq, Bool.not_true, Bool.not_false, Bool.false_bne, Bool.true_bne, sl0, sl1, sl2, sl3, sl4]
    exact main
  · try simp only [mnS, mn, Mn.of, Op.rd, Cm.rd, Bl.rd, Mt.rd, Mt.rc, dNop, dSeq, dExpr, dRet, dRetN, dIf, gD, dAsg, dPar, dPut, dRaise, dVar, dC, dBin, dUn, dNil, dCons, dTup, dLst, dTst, dAndT, dOrT, dNotT, dYes, dAnd, dOr, dNot, dChain, dCall, dCB, dMt, dLset, dSrev, dTry, dIsx, dEmp, dStp, xsub, Ex.sub, dSlc, dPart, dNoPart, dIAny, dI1, dI2, dI3, dFor, dComp, compB, wipeD, startD, endsOf, at_mk, setAll, add_int, sub_int, mul_int, mul_tup, pow_int, mod_int, fdiv_int, lt_int, le_int, gt_int, ge_int, eq_int, neg_int, len_tup, len_scr, abs_int, max_int, min_int, int_int, int_bl, r1_int, r2_int, tuple_tup, list_tup, over_tup, rev_tup, enum_tup, zip_tup, slc_tup, add_tup, isi_any, ix_tup, ix_scr, ix_num0, ix_num1, len_num, num_0, num_1, atI_0, atI_1, atI_2, List.map, List.cons_append, List.nil_append, List.getElem?_cons_zero, List.getElem?_cons_succ, List.getElem?_nil, List.set_cons_zero, List.set_cons_succ, List.replicate, List.length_cons, List.length_nil, List.foldr_cons, List.foldr_nil, Nat.reduceAdd, Nat.reduceSub, List.replicate_succ, List.replicate_zero, G_up_same, decide_eq_true_eq, Bool.not_eq_true', Bool.false_eq_true, if_true, if_false, ite_true, ite_false, and_true, true_and, reduceCtorEq, Bool.not_true, Bool.not_false, Bool.false_bne, Bool.true_bne, sl0, sl1, sl2, sl3, sl4]
    exact main
end
end PP
namespace PP
open PySem PySem.Spec PyProof.Rows L2
theorem lines_tight : ∀ L : List Rat, ∃ r, Tight r ∧ r.length = L.length + 1 ∧ r.getLast? = some 1 ∧ ∀ x, ev r x = lpr L x
  | [] => ⟨[1], fun q hq => by simp at hq; rw [← hq]; decide, rfl, rfl, fun x => by rw [ev_cons, ev_nil, lpr]; grind⟩
  | k :: L => by
    obtain ⟨r, h1, h2, h3, h4⟩ := lines_tight L
    have h0 : r ≠ [] := fun z => by rw [z] at h2; simp at h2
    obtain ⟨c, hc, hcl, hce, hlast⟩ := tight_prod (d := r) (o := [-k, 1]) h0 (by simp) h1 line_tight
    refine ⟨c, hc, by simp at hcl ⊢; omega, ?_, fun x => by rw [hce, line_ev, h4, lpr]; grind⟩
    rw [hlast]
    rw [List.getLast?_eq_getLast h0] at h3
    rw [Option.some.inj h3]
    simp
theorem roots_far {c : List Rat} {L : List Rat} (h : ∀ x, x ∉ L → ev c x = 0) (x : Rat) : ev c x = 0 := by
  obtain ⟨a, ha⟩ := above_all L
  exact roots_off (a := a) (fun y hy => h y fun z => by have := ha y z; grind) x
theorem part_lines : ∀ (ks c : List Rat), Tight c → (∃ q, ∀ x, lpr ks x = ev c x * ev q x) → ∃ L M a, L.Sublist ks ∧ a ≠ 0 ∧ (∀ x, ev c x = a * lpr L x) ∧ (∀ x, lpr ks x = lpr L x * lpr M x) ∧ (ks.Nodup → ∀ x ∈ L, x ∉ M)
  | [], c, tc, ⟨q, h⟩ => by
    have c0 : c ≠ [] := fun z => by
      have := h 0
      rw [z, ev_nil, lpr] at this
      grind
    have q0 : trim q ≠ [] := fun z => by
      have := h 0
      rw [← ev_trim q, z, ev_nil, lpr] at this
      grind
    obtain ⟨d, hd, hdl, hde, _⟩ := tight_prod c0 q0 tc (trim_tight q)
    have e : d = [1] := tight_congr hd (fun z hz => by simp at hz; rw [← hz]; decide) fun x => by rw [hde, ev_trim, ← h, lpr, ev_cons, ev_nil]; grind
    rw [e] at hdl
    have l1 := List.length_pos_iff.mpr c0
    have l2 := List.length_pos_iff.mpr q0
    have hl : c.length = 1 := by simp at hdl; omega
    obtain ⟨a, rfl⟩ := List.length_eq_one_iff.mp hl
    refine ⟨[], [], a, List.Sublist.refl _, tc a (by simp), fun x => by rw [ev_cons, ev_nil, lpr]; grind, fun x => by rw [lpr]; grind, fun _ x hx => by cases hx⟩
  | k :: ks, c, tc, ⟨q, h⟩ => by
    have h0 := h k
    rw [lpr] at h0
    have hz : ev c k = 0 ∨ ev q k = 0 := by
      rcases Rat.mul_eq_zero.mp (show ev c k * ev q k = 0 by rw [← h0]; grind) with z | z
      · exact .inl z
      · exact .inr z
    rcases hz with z | z
    · have e := divl_ev c k
      have h1 : ∀ x, lpr ks x = ev (trim (divl c k)) x * ev q x := fun x => by
        rw [ev_trim]
        have hp : ∀ y, ev (padd (lnL ks) (pneg (pmul (divl c k) q))) y = 0 := fun y => roots_far (L := [k]) (fun y hy => by
          have hy : y ≠ k := by simpa using hy
          have h2 := h y
          rw [lpr, e y, z] at h2
          rw [padd_ev, pneg_ev, pmul_ev, lnL_ev]
          have h3 : y - k ≠ 0 := fun w => hy (by grind)
          have h4 : (y - k) * (lpr ks y - ev (divl c k) y * ev q y) = 0 := by grind
          rcases Rat.mul_eq_zero.mp h4 with w | w
          · exact absurd w h3
          · grind) y
        have := hp x
        rw [padd_ev, pneg_ev, pmul_ev, lnL_ev] at this
        grind
      obtain ⟨L, M, a, hL, ha, hc, hm, hd⟩ := part_lines ks (trim (divl c k)) (trim_tight _) ⟨q, h1⟩
      refine ⟨k :: L, M, a, hL.cons_cons k, ha, fun x => ?_, fun x => ?_, fun hn x hx => ?_⟩
      · have := hc x
        rw [ev_trim] at this
        rw [e x, z, this, lpr]; grind
      · rw [lpr, lpr, hm]; grind
      · rw [List.nodup_cons] at hn
        rcases List.mem_cons.mp hx with rfl | hx
        · intro w
          have h2 := hm x
          rw [lpr_zero.mpr w] at h2
          exact hn.1 (lpr_zero.mp (by rw [h2]; grind))
        · exact hd hn.2 x hx
    · have e := divl_ev q k
      have h1 : ∀ x, lpr ks x = ev c x * ev (divl q k) x := fun x => by
        have hp : ∀ y, ev (padd (lnL ks) (pneg (pmul c (divl q k)))) y = 0 := fun y => roots_far (L := [k]) (fun y hy => by
          have hy : y ≠ k := by simpa using hy
          have h2 := h y
          rw [lpr, e y, z] at h2
          rw [padd_ev, pneg_ev, pmul_ev, lnL_ev]
          have h3 : y - k ≠ 0 := fun w => hy (by grind)
          have h4 : (y - k) * (lpr ks y - ev c y * ev (divl q k) y) = 0 := by grind
          rcases Rat.mul_eq_zero.mp h4 with w | w
          · exact absurd w h3
          · grind) y
        have := hp x
        rw [padd_ev, pneg_ev, pmul_ev, lnL_ev] at this
        grind
      obtain ⟨L, M, a, hL, ha, hc, hm, hd⟩ := part_lines ks c tc ⟨divl q k, h1⟩
      refine ⟨L, k :: M, a, hL.cons k, ha, hc, fun x => by rw [lpr, lpr, hm]; grind, fun hn x hx w => ?_⟩
      rw [List.nodup_cons] at hn
      rcases List.mem_cons.mp w with rfl | w
      · exact hn.1 (hL.subset hx)
      · exact hd hn.2 x hx w
structure QuoR (ks ys : List Rat) (w S : Nat) (r v ab un L : List Rat) : Prop where
  tab : Tight ab
  tun : Tight un
  mon : un.getLast? = some 1
  sub : L.Sublist ks
  cop : GcdOk ab un [1]
  la : ab = [] ∨ ab.length + L.length ≤ w
  lu : un.length + L.length + S ≤ ks.length + 1
  has : ∀ p ∈ ks.zip ys, p.1 ∈ L ↔ ¬ (ev un p.1 ≠ 0 ∧ ev ab p.1 = p.2 * ev un p.1)
  rel : ∃ l : Rat, l ≠ 0 ∧ (∀ x, ev r x = l * lpr L x * ev ab x) ∧ ∀ x, ev v x = l * lpr L x * ev un x
theorem part_of {ks ys r v d : List Rat} {S : Nat} (P : PairR ks ys S r v) (hg : GcdOk r v d) : ∃ L M, L.Sublist ks ∧ d.length = L.length + 1 ∧ (∀ x, ev d x = lpr L x) ∧ (∀ x, lpr ks x = lpr L x * lpr M x) ∧ (ks.Nodup → ∀ x ∈ L, x ∉ M) := by
  obtain ⟨ra, va, s, hs, hb, _⟩ := P.bez
  obtain ⟨q1, h1⟩ := hg.d1
  obtain ⟨q2, h2⟩ := hg.d2
  have hdv : ∃ q, ∀ x, lpr ks x = ev d x * ev q x := by
    refine ⟨(padd (pmul ra q2) (pneg (pmul q1 va))).map fun q => q * s, fun x => ?_⟩
    have h3 := hb x
    rw [h1, h2] at h3
    rw [ev_map_mul, padd_ev, pneg_ev, pmul_ev, pmul_ev]
    rcases hs with rfl | rfl <;> grind
  obtain ⟨L, M, a, hL, ha, hc, hm, hd⟩ := part_lines ks d hg.t hdv
  obtain ⟨r0, t1, t2, t3, t4⟩ := lines_tight L
  have e : d = r0.map fun q => q * a := tight_congr hg.t (fun z hz => by
    rw [List.getLast?_map, t3] at hz
    simp at hz
    rw [← hz]; exact ha) fun x => by rw [hc, ev_map_mul, t4]; grind
  have hm1 := hg.m
  rw [e, List.getLast?_map, t3] at hm1
  have ha1 : a = 1 := by simpa using hm1
  exact ⟨L, M, hL, by rw [e, List.length_map]; exact t2, fun x => by rw [hc, ha1]; grind, hm, hd⟩
theorem quo_of {ks ys r v d A U : List Rat} {w S : Nat} (hn : ks.Nodup) (P : PairR ks ys S r v) (hr : r.length ≤ w) (hg : GcdOk r v d) (tA : Tight A) (tU : Tight U) (hA : ∀ x, ev r x = ev d x * ev A x) (hU : ∀ x, ev v x = ev d x * ev U x) :
    ∃ L, d.length = L.length + 1 ∧ (∀ x, ev d x = lpr L x) ∧ L.Sublist ks ∧ U ≠ [] ∧ ∀ l ab un, U.getLast? = some l → Tight ab → Tight un → (∀ x, ev ab x = ev A x * (1 / l)) → (∀ x, ev un x = ev U x * (1 / l)) → QuoR ks ys w S r v ab un L := by
  obtain ⟨L, M, hL, hdl, hde, hm, hdis⟩ := part_of P hg
  have hU0 : U ≠ [] := fun z => P.v0 (tight_congr P.tv tight_nil fun x => by rw [hU, z, ev_nil]; grind)
  have hd0 := hg.ne
  refine ⟨L, hdl, hde, hL, hU0, fun l ab un hl tab tun eab eun => ?_⟩
  have hl0 : l ≠ 0 := tU l hl
  have hmapU : un = U.map fun q => q * (1 / l) := tight_congr tun (fun z hz => by
    rw [List.getLast?_map, hl] at hz
    simp only [Option.map_some, Option.some.injEq] at hz
    rw [← hz]; grind) fun x => by rw [eun, ev_map_mul]
  have hun0 : un ≠ [] := fun z => by rw [z] at hmapU; exact hU0 (List.map_eq_nil_iff.mp hmapU.symm)
  have lenU : v.length = L.length + U.length := by
    obtain ⟨c, hc, hcl, hce, _⟩ := tight_prod hd0 hU0 hg.t tU
    have : c = v := tight_congr hc P.tv fun x => by rw [hce, hU]
    rw [this] at hcl
    omega
  have lenA : ab = [] ∨ ab.length + L.length = r.length := by
    by_cases h0 : A = []
    · left; exact tight_congr tab tight_nil fun x => by rw [eab, h0, ev_nil]; grind
    · right
      obtain ⟨c, hc, hcl, hce, _⟩ := tight_prod hd0 h0 hg.t tA
      have e1 : c = r := tight_congr hc P.tr fun x => by rw [hce, hA]
      have e2 : ab = A.map fun q => q * (1 / l) := tight_congr tab (fun z hz => by
        rw [List.getLast?_map] at hz
        cases hA2 : A.getLast? with
        | none => rw [hA2] at hz; cases hz
        | some a =>
          rw [hA2] at hz
          simp only [Option.map_some, Option.some.injEq] at hz
          have := tA a hA2
          rw [← hz]
          intro y
          rcases Rat.mul_eq_zero.mp y with y | y
          · exact this y
          · grind) fun x => by rw [eab, ev_map_mul]
      rw [e1] at hcl
      rw [e2, List.length_map]
      omega
  have rel1 : ∀ x, ev r x = l * lpr L x * ev ab x := fun x => by rw [hA, hde, eab]; grind
  have rel2 : ∀ x, ev v x = l * lpr L x * ev un x := fun x => by rw [hU, hde, eun]; grind
  -- no part in common
  have nocom : ∀ c, Dv c ab → Dv c un → Tight c → c.length ≤ 1 := fun c h1 h2 tc => by
    obtain ⟨q1, h1⟩ := h1
    obtain ⟨q2, h2⟩ := h2
    have c0 : c ≠ [] := fun z => hun0 (tight_congr tun tight_nil fun x => by rw [h2, z, ev_nil]; grind)
    obtain ⟨e, he, hel, hee, _⟩ := tight_prod hd0 c0 hg.t tc
    have hDe : Dv e d := (hg.c e).mpr ⟨⟨q1.map fun q => q * l, fun x => by rw [rel1, h1, hee, hde, ev_map_mul]; grind⟩, ⟨q2.map fun q => q * l, fun x => by rw [rel2, h2, hee, hde, ev_map_mul]; grind⟩⟩
    have := (dv_len he hg.t hDe hd0).2
    omega
  have cop : GcdOk ab un [1] := ⟨fun q hq => by simp at hq; rw [← hq]; decide, rfl, fun c => ⟨fun h => ?_, fun h => ?_⟩⟩
  · have hvl := P.lv
    have hul : un.length = U.length := by rw [hmapU, List.length_map]
    refine ⟨tab, tun, ?_, hL, cop, ?_, by omega, fun p hp => ?_, l, hl0, rel1, rel2⟩
    · rw [hmapU, List.getLast?_map, hl]
      simp only [Option.map_some, Option.some.injEq]
      grind
    · rcases lenA with z | z
      · exact .inl z
      · exact .inr (by omega)
    · have hx : p.1 ∈ ks := (List.of_mem_zip hp).1
      have hon := P.on p hp
      obtain ⟨ra, va, s, hs, hb, honA⟩ := P.bez
      have honA := honA p hp
      constructor
      · rintro hpL ⟨h1, h2⟩
        have hM := hdis hn p.1 hpL
        -- the identity without the lines
        have hid : ∀ x, ev (padd (padd (pmul ra un) (pneg (pmul ab va))) (pneg ((lnL M).map fun q => q * (s * (1 / l))))) x = 0 := fun x => roots_far (L := L) (fun y hy => by
          have h3 := hb y
          rw [rel1, rel2, hm] at h3
          have h4 : lpr L y ≠ 0 := fun z => hy (lpr_zero.mp z)
          rw [padd_ev, padd_ev, pneg_ev, pneg_ev, pmul_ev, pmul_ev, ev_map_mul, lnL_ev]
          have h5 : lpr L y * (l * (ev ra y * ev un y - ev ab y * ev va y) - s * lpr M y) = 0 := by grind
          rcases Rat.mul_eq_zero.mp h5 with z | z
          · exact absurd z h4
          · grind) x
        have h6 := hid p.1
        rw [padd_ev, padd_ev, pneg_ev, pneg_ev, pmul_ev, pmul_ev, ev_map_mul, lnL_ev, honA, h2] at h6
        have h7 : lpr M p.1 ≠ 0 := fun z => hM (lpr_zero.mp z)
        have h8 : lpr M p.1 * (s * (1 / l)) = 0 := by grind
        rcases Rat.mul_eq_zero.mp h8 with z | z
        · exact h7 z
        · rcases hs with rfl | rfl <;> grind
      · intro hno
        refine Classical.byContradiction fun hpL => hno ?_
        have h4 : lpr L p.1 ≠ 0 := fun z => hpL (lpr_zero.mp z)
        rw [rel1, rel2] at hon
        have h5 : ev ab p.1 = p.2 * ev un p.1 := by
          have : lpr L p.1 * (l * (ev ab p.1 - p.2 * ev un p.1)) = 0 := by grind
          rcases Rat.mul_eq_zero.mp this with z | z
          · exact absurd z h4
          · rcases Rat.mul_eq_zero.mp z with z | z
            · exact absurd z hl0
            · grind
        refine ⟨fun hz => ?_, h5⟩
        have ha0 : ev ab p.1 = 0 := by rw [h5, hz]; grind
        have d1 := divl_ev ab p.1
        have d2 := divl_ev un p.1
        have := nocom [-p.1, 1] ⟨divl ab p.1, fun x => by rw [d1 x, ha0, line_ev]; grind⟩ ⟨divl un p.1, fun x => by rw [d2 x, hz, line_ev]; grind⟩ line_tight
        simp at this
  · obtain ⟨q, hq⟩ := h
    exact ⟨⟨pmul q ab, fun x => by have := hq x; rw [ev_cons, ev_nil] at this; rw [pmul_ev]; grind⟩, ⟨pmul q un, fun x => by have := hq x; rw [ev_cons, ev_nil] at this; rw [pmul_ev]; grind⟩⟩
  · have h1 := nocom (trim c) (by obtain ⟨q, hq⟩ := h.1; exact ⟨q, fun x => by rw [ev_trim]; exact hq x⟩) (by obtain ⟨q, hq⟩ := h.2; exact ⟨q, fun x => by rw [ev_trim]; exact hq x⟩) (trim_tight c)
    have h2 : trim c ≠ [] := fun z => hun0 (tight_congr tun tight_nil fun x => by
      obtain ⟨q, hq⟩ := h.2
      rw [hq, ← ev_trim c, z, ev_nil]; grind)
    have h3 := List.length_pos_iff.mpr h2
    obtain ⟨a, ha⟩ := List.length_eq_one_iff.mp (show (trim c).length = 1 by omega)
    have ha0 : a ≠ 0 := trim_tight c a (by rw [ha]; rfl)
    refine ⟨[1 / a], fun x => ?_⟩
    rw [← ev_trim c, ha, ev_cons, ev_nil, ev_cons, ev_nil, ev_cons, ev_nil]
    grind
end PP
namespace PP
open PySem PySem.Spec PyProof.Rows L2
section
variable {Γ : Nat → SpD} {gl : Nat → D} {ds : List D} {g : G} {Q : QD} {E X : XD}
structure LnQ (ks r : List Rat) : Prop where
  t : Tight r
  len : r.length = ks.length + 1
  e : ∀ x, ev r x = 1 * lpr ks x
def spNoughtQ : SpD := fun ds g Q _ => ∃ a ks bk, ds = [.ref a] ∧ g a = some (nums ks) ∧ Szs bk ks ∧ 0 < bk ∧ bk ≤ 1000 ∧ ks.length ≤ 12 ∧ ∀ r, LnQ ks r → Q (.tup (nums r)) g
theorem c_noughtQ {a : Addr} {ks : List Rat} (bk : Nat) (h : g a = some (nums ks)) (hs : Szs bk ks) (h0 : 0 < bk) (hb : bk ≤ 1000) (hl : ks.length ≤ 12) (k : ∀ r, LnQ ks r → Q (.tup (nums r)) g) : spNoughtQ [.ref a] g Q X := ⟨a, ks, bk, rfl, h, hs, h0, hb, hl, k⟩
theorem pure_nought_at__Q (h12 : Γ 12 = spMinus) (h34 : Γ 34 = spMultiplied) (hg0 : gl 0 = num 0) (hg1 : gl 1 = num 1) (h : spNoughtQ ds g Q E) : mnS Γ gl sx_nought_at (endsOf Q E) (startD ns_nought_at ds) g := by
  obtain ⟨a, ks, bk, rfl, ha, hs, h0, hb, hl, h⟩ := h
  simp only [sx_nought_at, h12, h34, hg0, hg1, mnS, mn, Mn.of, Op.rd, Cm.rd, Bl.rd, Mt.rd, Mt.rc, dNop, dSeq, dExpr, dRet, dRetN, dIf, gD, dAsg, dPar, dPut, dRaise, dVar, dC, dBin, dUn, dNil, dCons, dTup, dLst, dTst, dAndT, dOrT, dNotT, dYes, dAnd, dOr, dNot, dChain, dCall, dCB, dMt, dLset, dSrev, dTry, dIsx, dEmp, dStp, xsub, Ex.sub, dSlc, dPart, dNoPart, dIAny, dI1, dI2, dI3, dFor, dComp, compB, wipeD, startD, endsOf, at_mk, setAll, add_int, sub_int, mul_int, mul_tup, pow_int, mod_int, fdiv_int, lt_int, le_int, gt_int, ge_int, eq_int, neg_int, len_tup, len_scr, abs_int, max_int, min_int, int_int, int_bl, r1_int, r2_int, tuple_tup, list_tup, over_tup, rev_tup, enum_tup, zip_tup, slc_tup, add_tup, isi_any, ix_tup, ix_scr, ix_num0, ix_num1, len_num, num_0, num_1, atI_0, atI_1, atI_2, List.map, List.cons_append, List.nil_append, List.getElem?_cons_zero, List.getElem?_cons_succ, List.getElem?_nil, List.set_cons_zero, List.set_cons_succ, List.replicate, List.length_cons, List.length_nil, List.foldr_cons, List.foldr_nil, Nat.reduceAdd, Nat.reduceSub, List.replicate_succ, List.replicate_zero, G_up_same, decide_eq_true_eq, Bool.not_eq_true', Bool.false_eq_true, if_true, if_false, ite_true, ite_false, and_true, true_and, reduceCtorEq, Bool.not_true, Bool.not_false, Bool.false_bne, Bool.true_bne, sl0, sl1, sl2, sl3, sl4, over_ref ha]
  refine for_inv (fun k env g' => g' = g ∧ k ≤ ks.length ∧ ∃ r o2, env = [some (.ref a), some (.tup (nums r)), o2] ∧ LnQ (ks.take k) r) (fun k env g' e => by rw [e.1]; exact ha) ?_ ?_ ⟨rfl, Nat.zero_le _, [1], none, rfl, ⟨fun q hq => by simp at hq; rw [← hq]; decide, rfl, fun x => by rw [ev_cons, ev_nil, List.take_zero, lpr]; grind⟩⟩
  · rintro k x env g' N hk ⟨rfl, hkl, r, o2, rfl, hr⟩ hN
    obtain ⟨y, hy, rfl⟩ := nums_at hk
    have hlt := lt_of_at hy
    have hys := hs.at hy
    have htl : (ks.take k).length = k := by rw [List.length_take]; omega
    have hrl := hr.len
    have hht := lnOk_ht (fun q hq => hs q (List.mem_of_mem_take hq)) hr.e
    rw [htl] at hht
    have hk12 : k * (bk + 2) ≤ 12 * 1002 := Nat.mul_le_mul (by omega) (by omega)
    have hmin : min r.length 2 * (k * (bk + 2) + 1 + bk + 1) ≤ 2 * (k * (bk + 2) + 1 + bk + 1) := Nat.mul_le_mul_right _ (Nat.min_le_right ..)
    simp only [mnS, mn, Mn.of, Op.rd, Cm.rd, Bl.rd, Mt.rd, Mt.rc, dNop, dSeq, dExpr, dRet, dRetN, dIf, gD, dAsg, dPar, dPut, dRaise, dVar, dC, dBin, dUn, dNil, dCons, dTup, dLst, dTst, dAndT, dOrT, dNotT, dYes, dAnd, dOr, dNot, dChain, dCall, dCB, dMt, dLset, dSrev, dTry, dIsx, dEmp, dStp, xsub, Ex.sub, dSlc, dPart, dNoPart, dIAny, dI1, dI2, dI3, dFor, dComp, compB, wipeD, startD, endsOf, at_mk, setAll, add_int, sub_int, mul_int, mul_tup, pow_int, mod_int, fdiv_int, lt_int, le_int, gt_int, ge_int, eq_int, neg_int, len_tup, len_scr, abs_int, max_int, min_int, int_int, int_bl, r1_int, r2_int, tuple_tup, list_tup, over_tup, rev_tup, enum_tup, zip_tup, slc_tup, add_tup, isi_any, ix_tup, ix_scr, ix_num0, ix_num1, len_num, num_0, num_1, atI_0, atI_1, atI_2, List.map, List.cons_append, List.nil_append, List.getElem?_cons_zero, List.getElem?_cons_succ, List.getElem?_nil, List.set_cons_zero, List.set_cons_succ, List.replicate, List.length_cons, List.length_nil, List.foldr_cons, List.foldr_nil, Nat.reduceAdd, Nat.reduceSub, List.replicate_succ, List.replicate_zero, G_up_same, decide_eq_true_eq, Bool.not_eq_true', Bool.false_eq_true, if_true, if_false, ite_true, ite_false, and_true, true_and, reduceCtorEq, Bool.not_true, Bool.not_false, Bool.false_bne, Bool.true_bne, sl0, sl1, sl2, sl3, sl4, c_bin]
    refine ⟨by rw [sz_0]; omega, ?_⟩
    rw [show (0 : Rat) - y = -y by grind]
    refine c_twoB (q := [-y, 1]) (k * (bk + 2) + 1) bk hht.szs (line_szs hys h0) (by omega) h0 (show min r.length 2 * (k * (bk + 2) + 1 + bk + 1) + 1 ≤ 100000000 by omega) (by omega) (by simp) fun r2 ht2 hl2 hs2 he2 => ?_
    refine hN _ _ ⟨rfl, hlt, r2, _, rfl, ?_⟩
    obtain ⟨c, hc, hcl, hce, hlast⟩ := tight_prod (d := r) (o := [-y, 1]) (fun z => by rw [z] at hrl; simp at hrl) (by simp) hr.t line_tight
    have ec : c = r2 := tight_congr hc ht2 fun x => by rw [hce, he2]
    subst ec
    refine ⟨hc, ?_, fun x => ?_⟩
    · rw [List.length_take]; simp at hcl; omega
    · rw [hce, hr.e, line_ev, take_s hy, lpr_snoc]; grind
  · rintro env g' ⟨rfl, hkl, r, o2, rfl, hr⟩
    rw [nums_len, List.take_length] at hr
    simp only [sx_nought_at_1, mnS, mn, Mn.of, Op.rd, Cm.rd, Bl.rd, Mt.rd, Mt.rc, dNop, dSeq, dExpr, dRet, dRetN, dIf, gD, dAsg, dPar, dPut, dRaise, dVar, dC, dBin, dUn, dNil, dCons, dTup, dLst, dTst, dAndT, dOrT, dNotT, dYes, dAnd, dOr, dNot, dChain, dCall, dCB, dMt, dLset, dSrev, dTry, dIsx, dEmp, dStp, xsub, Ex.sub, dSlc, dPart, dNoPart, dIAny, dI1, dI2, dI3, dFor, dComp, compB, wipeD, startD, endsOf, at_mk, setAll, add_int, sub_int, mul_int, mul_tup, pow_int, mod_int, fdiv_int, lt_int, le_int, gt_int, ge_int, eq_int, neg_int, len_tup, len_scr, abs_int, max_int, min_int, int_int, int_bl, r1_int, r2_int, tuple_tup, list_tup, over_tup, rev_tup, enum_tup, zip_tup, slc_tup, add_tup, isi_any, ix_tup, ix_scr, ix_num0, ix_num1, len_num, num_0, num_1, atI_0, atI_1, atI_2, List.map, List.cons_append, List.nil_append, List.getElem?_cons_zero, List.getElem?_cons_succ, List.getElem?_nil, List.set_cons_zero, List.set_cons_succ, List.replicate, List.length_cons, List.length_nil, List.foldr_cons, List.foldr_nil, Nat.reduceAdd, Nat.reduceSub, List.replicate_succ, List.replicate_zero, G_up_same, decide_eq_true_eq, Bool.not_eq_true', Bool.false_eq_true, if_true, if_false, ite_true, ite_false, and_true, true_and, reduceCtorEq, Bool.not_true, Bool.not_false, Bool.false_bne, Bool.true_bne, sl0, sl1, sl2, sl3, sl4]
    exact ⟨_, G.le_refl _, h r hr⟩
def spPairQ : SpD := fun ds g Q _ => ∃ a b ks ys, ∃ w S h0 h1 c bk : Nat, ds = [.ref a, .ref b, .int (w : Int)] ∧ g a = some (nums ks) ∧ g b = some (nums ys) ∧ ks.length = ys.length ∧ ks ≠ [] ∧ ks.Nodup ∧ ks.length ≤ 12 ∧ Szs bk ks ∧ Szs c ys ∧ 0 < bk ∧ bk ≤ 1000 ∧ bk ≤ c ∧ bsSz (ks.length + 1) c (3 * c + 2) ≤ 40000000 ∧ 1 ≤ w ∧ w ≤ S ∧ S ≤ ks.length ∧
  Ht h0 (lnL ks) ∧ (∀ f, Tight f → f.length ≤ ks.length → (∀ p ∈ ks.zip ys, ev f p.1 = p.2) → Ht h1 f) ∧ (∀ r v, PairR ks ys S r v → r.length ≤ w) ∧ pairOk h0 h1 (ks.length - S) = true ∧
  ∀ r v, PairR ks ys S r v → r.length ≤ w → Ht (plB h0 h1 (ks.length - S + 1)) r → Ht (vlB h0 h1 (ks.length - S + 1)) v → Q (.tup [.tup (nums r), .tup (nums v)]) g
theorem pure_pair_for_v2__Q (h32 : Γ 32 = spLessened) (h34 : Γ 34 = spMultiplied) (h44 : Γ 44 = spDivH) (h97 : Γ 97 = spThrough) (h218 : Γ 218 = spNoughtQ) (hg1 : gl 1 = num 1) (h : spPairQ ds g Q E) : mnS Γ gl sx_pair_for_v2 (endsOf Q E) (startD ns_pair_for_v2 ds) g := by
  obtain ⟨a, b, ks, ys, w, S, h0, h1, c, bk, rfl, ha, hb, hl, hne, hn, h12, hs, hy, hbk0, hbk, hc1, hc2, hw1, hwS, hS, hm, hf, hstop, hok, h⟩ := h
  have hpos := List.length_pos_iff.mpr hne
  simp only [sx_pair_for_v2, h32, h34, h44, h97, h218, hg1, mnS, mn, Mn.of, Op.rd, Cm.rd, Bl.rd, Mt.rd, Mt.rc, dNop, dSeq, dExpr, dRet, dRetN, dIf, gD, dAsg, dPar, dPut, dRaise, dVar, dC, dBin, dUn, dNil, dCons, dTup, dLst, dTst, dAndT, dOrT, dNotT, dYes, dAnd, dOr, dNot, dChain, dCall, dCB, dMt, dLset, dSrev, dTry, dIsx, dEmp, dStp, xsub, Ex.sub, dSlc, dPart, dNoPart, dIAny, dI1, dI2, dI3, dFor, dComp, compB, wipeD, startD, endsOf, at_mk, setAll, add_int, sub_int, mul_int, mul_tup, pow_int, mod_int, fdiv_int, lt_int, le_int, gt_int, ge_int, eq_int, neg_int, len_tup, len_scr, abs_int, max_int, min_int, int_int, int_bl, r1_int, r2_int, tuple_tup, list_tup, over_tup, rev_tup, enum_tup, zip_tup, slc_tup, add_tup, isi_any, ix_tup, ix_scr, ix_num0, ix_num1, len_num, num_0, num_1, atI_0, atI_1, atI_2, List.map, List.cons_append, List.nil_append, List.getElem?_cons_zero, List.getElem?_cons_succ, List.getElem?_nil, List.set_cons_zero, List.set_cons_succ, List.replicate, List.length_cons, List.length_nil, List.foldr_cons, List.foldr_nil, Nat.reduceAdd, Nat.reduceSub, List.replicate_succ, List.replicate_zero, G_up_same, decide_eq_true_eq, Bool.not_eq_true', Bool.false_eq_true, if_true, if_false, ite_true, ite_false, and_true, true_and, reduceCtorEq, Bool.not_true, Bool.not_false, Bool.false_bne, Bool.true_bne, sl0, sl1, sl2, sl3, sl4]
  refine c_noughtQ bk ha hs hbk0 hbk h12 fun m hmr => ?_
  rw [tupz_ref ha hb, zipD_pts]
  have hpl := ptZ_len hl
  have hpt := ptZ_told ks ys
  have hbz : bsSz (toldN (ptZ ks ys) + 1) c (3 * c + 2) ≤ 40000000 := by rw [hpt, hpl]; exact hc2
  refine c_through c .tup (fun z => by rw [z] at hpl; simp at hpl; omega) (ptZ_sz (hs.mono hc1) hy) (by omega) (by omega) hbz fun f tf lf sf ef => ?_
  have hon := through_on hl hn ef
  have lf : f.length ≤ ks.length := by omega
  have hml := hmr.len
  refine ⟨fun n env g' => ∃ ra va r v k o5 o6, env = [some (.ref a), some (.ref b), some (.int (w : Int)), some (.tup [.tup (nums ra), .tup (nums va)]), some (.tup [.tup (nums r), .tup (nums v)]), o5, o6] ∧ n = r.length ∧ g' = g ∧ S < ra.length ∧ PairS ks ys h0 h1 k ra va r v,
    ⟨f.length, m, [], f, [1], 0, none, none, rfl, rfl, rfl, by omega, ?_⟩, ?_⟩
  · refine ⟨hmr.t, tf, (fun q hq => by cases hq), (fun q hq => by simp at hq; rw [← hq]; decide), by omega, by omega, by simp; omega, by decide, fun p hp => ?_, fun p hp => ?_, ⟨1, .inl rfl, fun x => ?_⟩, hm.congr fun x => by rw [lnL_ev, hmr.e]; grind, hf f tf lf hon, Ht.nil, Ht.one⟩
    · rw [hmr.e, lpr_zero.mpr (List.of_mem_zip hp).1, ev_nil]; grind
    · rw [hon p hp, ev_cons, ev_nil]; grind
    · rw [hmr.e, ev_cons, ev_nil]; grind
  rintro n env g' ⟨ra, va, r, v, k, o5, o6, rfl, rfl, rfl, hra, hP⟩
  simp only [mnS, mn, Mn.of, Op.rd, Cm.rd, Bl.rd, Mt.rd, Mt.rc, dNop, dSeq, dExpr, dRet, dRetN, dIf, gD, dAsg, dPar, dPut, dRaise, dVar, dC, dBin, dUn, dNil, dCons, dTup, dLst, dTst, dAndT, dOrT, dNotT, dYes, dAnd, dOr, dNot, dChain, dCall, dCB, dMt, dLset, dSrev, dTry, dIsx, dEmp, dStp, xsub, Ex.sub, dSlc, dPart, dNoPart, dIAny, dI1, dI2, dI3, dFor, dComp, compB, wipeD, startD, endsOf, at_mk, setAll, add_int, sub_int, mul_int, mul_tup, pow_int, mod_int, fdiv_int, lt_int, le_int, gt_int, ge_int, eq_int, neg_int, len_tup, len_scr, abs_int, max_int, min_int, int_int, int_bl, r1_int, r2_int, tuple_tup, list_tup, over_tup, rev_tup, enum_tup, zip_tup, slc_tup, add_tup, isi_any, ix_tup, ix_scr, ix_num0, ix_num1, len_num, num_0, num_1, atI_0, atI_1, atI_2, List.map, List.cons_append, List.nil_append, List.getElem?_cons_zero, List.getElem?_cons_succ, List.getElem?_nil, List.set_cons_zero, List.set_cons_succ, List.replicate, List.length_cons, List.length_nil, List.foldr_cons, List.foldr_nil, Nat.reduceAdd, Nat.reduceSub, List.replicate_succ, List.replicate_zero, G_up_same, decide_eq_true_eq, Bool.not_eq_true', Bool.false_eq_true, if_true, if_false, ite_true, ite_false, and_true, true_and, reduceCtorEq, Bool.not_true, Bool.not_false, Bool.false_bne, Bool.true_bne, sl0, sl1, sl2, sl3, sl4, nums_len]
  split
  · rename_i hgt
    have hgt : w < r.length := by omega
    have hrS : S < r.length := by
      rcases Nat.lt_or_ge S r.length with z | z
      · exact z
      · exact absurd (hstop r v (hP.fin hra z)) (by omega)
    have hr0 : r ≠ [] := fun z => by rw [z] at hgt; simp at hgt
    have hidx := hP.idx
    have hlt := hP.lt
    obtain ⟨c1, c2, c3⟩ := pairOk_at (k := k) (d := ra.length - r.length) hok (by omega) (by omega)
    have hdv : divB ra.length r.length (plB h0 h1 k) (plB h0 h1 (k + 1)) = dvB h0 h1 k (ra.length - r.length) := by
      unfold divB dvB
      rw [show ra.length + 1 - r.length = ra.length - r.length + 1 by omega]
    refine c_divH _ _ hP.hra hP.hr hP.tra hP.tr (by omega) (by omega) (by rw [hdv]; exact c1) hr0 fun t r2 hd ht hr2 => ?_
    rw [hdv] at ht hr2
    try simp only [mnS, mn, Mn.of, Op.rd, Cm.rd, Bl.rd, Mt.rd, Mt.rc, dNop, dSeq, dExpr, dRet, dRetN, dIf, gD, dAsg, dPar, dPut, dRaise, dVar, dC, dBin, dUn, dNil, dCons, dTup, dLst, dTst, dAndT, dOrT, dNotT, dYes, dAnd, dOr, dNot, dChain, dCall, dCB, dMt, dLset, dSrev, dTry, dIsx, dEmp, dStp, xsub, Ex.sub, dSlc, dPart, dNoPart, dIAny, dI1, dI2, dI3, dFor, dComp, compB, wipeD, startD, endsOf, at_mk, setAll, add_int, sub_int, mul_int, mul_tup, pow_int, mod_int, fdiv_int, lt_int, le_int, gt_int, ge_int, eq_int, neg_int, len_tup, len_scr, abs_int, max_int, min_int, int_int, int_bl, r1_int, r2_int, tuple_tup, list_tup, over_tup, rev_tup, enum_tup, zip_tup, slc_tup, add_tup, isi_any, ix_tup, ix_scr, ix_num0, ix_num1, len_num, num_0, num_1, atI_0, atI_1, atI_2, List.map, List.cons_append, List.nil_append, List.getElem?_cons_zero, List.getElem?_cons_succ, List.getElem?_nil, List.set_cons_zero, List.set_cons_succ, List.replicate, List.length_cons, List.length_nil, List.foldr_cons, List.foldr_nil, Nat.reduceAdd, Nat.reduceSub, List.replicate_succ, List.replicate_zero, G_up_same, decide_eq_true_eq, Bool.not_eq_true', Bool.false_eq_true, if_true, if_false, ite_true, ite_false, and_true, true_and, reduceCtorEq, Bool.not_true, Bool.not_false, Bool.false_bne, Bool.true_bne, sl0, sl1, sl2, sl3, sl4]
    have htl := hd.lt
    have hvl := hP.lv
    have hv0 : 0 < vlB h0 h1 (k + 1) := hP.hv.pos
    have ht0 : 0 < dvB h0 h1 k (ra.length - r.length) := ht.pos
    have hmin : min t.length v.length * (dvB h0 h1 k (ra.length - r.length) + vlB h0 h1 (k + 1) + 1) ≤ (ra.length - r.length + 1) * (dvB h0 h1 k (ra.length - r.length) + vlB h0 h1 (k + 1) + 1) := Nat.mul_le_mul_right _ (by omega)
    refine c_twoB _ _ ht.szs hP.hv.szs ht0 hv0 (show min t.length v.length * (dvB h0 h1 k (ra.length - r.length) + vlB h0 h1 (k + 1) + 1) + 1 ≤ 100000000 by omega) (by omega) (by omega) fun r3 t3 l3 _ e3 => ?_
    have l3 : r3.length ≤ t.length + v.length - 1 := l3
    have hh3 := Ht.mul (m := 4) (r := r3) ht hP.hv (show t.length < 16 by omega) e3
    have hva := hP.lva
    refine c_twoB _ _ hP.hva.szs hh3.szs hP.hva.pos hh3.pos (show vlB h0 h1 k + (dvB h0 h1 k (ra.length - r.length) + vlB h0 h1 (k + 1) + 4) + 1 ≤ 100000000 from c3) (by omega) (by omega) fun v2 tv2 _ _ ev2 => ?_
    try simp only [mnS, mn, Mn.of, Op.rd, Cm.rd, Bl.rd, Mt.rd, Mt.rc, dNop, dSeq, dExpr, dRet, dRetN, dIf, gD, dAsg, dPar, dPut, dRaise, dVar, dC, dBin, dUn, dNil, dCons, dTup, dLst, dTst, dAndT, dOrT, dNotT, dYes, dAnd, dOr, dNot, dChain, dCall, dCB, dMt, dLset, dSrev, dTry, dIsx, dEmp, dStp, xsub, Ex.sub, dSlc, dPart, dNoPart, dIAny, dI1, dI2, dI3, dFor, dComp, compB, wipeD, startD, endsOf, at_mk, setAll, add_int, sub_int, mul_int, mul_tup, pow_int, mod_int, fdiv_int, lt_int, le_int, gt_int, ge_int, eq_int, neg_int, len_tup, len_scr, abs_int, max_int, min_int, int_int, int_bl, r1_int, r2_int, tuple_tup, list_tup, over_tup, rev_tup, enum_tup, zip_tup, slc_tup, add_tup, isi_any, ix_tup, ix_scr, ix_num0, ix_num1, len_num, num_0, num_1, atI_0, atI_1, atI_2, List.map, List.cons_append, List.nil_append, List.getElem?_cons_zero, List.getElem?_cons_succ, List.getElem?_nil, List.set_cons_zero, List.set_cons_succ, List.replicate, List.length_cons, List.length_nil, List.foldr_cons, List.foldr_nil, Nat.reduceAdd, Nat.reduceSub, List.replicate_succ, List.replicate_zero, G_up_same, decide_eq_true_eq, Bool.not_eq_true', Bool.false_eq_true, if_true, if_false, ite_true, ite_false, and_true, true_and, reduceCtorEq, Bool.not_true, Bool.not_false, Bool.false_bne, Bool.true_bne, sl0, sl1, sl2, sl3, sl4]
    refine ⟨r2.length, hd.lr, r, v, r2, v2, _, _, _, rfl, rfl, hrS, hP.step h12 hr0 hd ht hr2 tv2 fun x => by rw [ev2, e3]⟩
  · rename_i hgt
    have hle : r.length ≤ w := by omega
    have hidx := hP.idx
    simp only [sx_pair_for_v2_1, mnS, mn, Mn.of, Op.rd, Cm.rd, Bl.rd, Mt.rd, Mt.rc, dNop, dSeq, dExpr, dRet, dRetN, dIf, gD, dAsg, dPar, dPut, dRaise, dVar, dC, dBin, dUn, dNil, dCons, dTup, dLst, dTst, dAndT, dOrT, dNotT, dYes, dAnd, dOr, dNot, dChain, dCall, dCB, dMt, dLset, dSrev, dTry, dIsx, dEmp, dStp, xsub, Ex.sub, dSlc, dPart, dNoPart, dIAny, dI1, dI2, dI3, dFor, dComp, compB, wipeD, startD, endsOf, at_mk, setAll, add_int, sub_int, mul_int, mul_tup, pow_int, mod_int, fdiv_int, lt_int, le_int, gt_int, ge_int, eq_int, neg_int, len_tup, len_scr, abs_int, max_int, min_int, int_int, int_bl, r1_int, r2_int, tuple_tup, list_tup, over_tup, rev_tup, enum_tup, zip_tup, slc_tup, add_tup, isi_any, ix_tup, ix_scr, ix_num0, ix_num1, len_num, num_0, num_1, atI_0, atI_1, atI_2, List.map, List.cons_append, List.nil_append, List.getElem?_cons_zero, List.getElem?_cons_succ, List.getElem?_nil, List.set_cons_zero, List.set_cons_succ, List.replicate, List.length_cons, List.length_nil, List.foldr_cons, List.foldr_nil, Nat.reduceAdd, Nat.reduceSub, List.replicate_succ, List.replicate_zero, G_up_same, decide_eq_true_eq, Bool.not_eq_true', Bool.false_eq_true, if_true, if_false, ite_true, ite_false, and_true, true_and, reduceCtorEq, Bool.not_true, Bool.not_false, Bool.false_bne, Bool.true_bne, sl0, sl1, sl2, sl3, sl4]
    have m1 : plB h0 h1 (k + 1) ≤ plB h0 h1 (k + 1 + (ks.length - S - k)) := plB_mono
    have m2 : vlB h0 h1 (k + 1) ≤ vlB h0 h1 (ks.length - S + 1) := vlB_mono (by omega)
    rw [show k + 1 + (ks.length - S - k) = ks.length - S + 1 by omega] at m1
    exact ⟨_, G.le_refl _, h r v (hP.fin hra (by omega)) hle (hP.hr.mono m1) (hP.hv.mono m2)⟩
end
def sx_has_height : SX :=
  (.asg (.n 4) (.call 24 (.cons (.v 1) (.cons (.v 2) .nil)))
  (.ret (.and (.cmp .ne (.v 4) (.glo 0)) (.cmp .eq (.call 24 (.cons (.v 0) (.cons (.v 2) .nil))) (.call 13 (.cons (.v 3) (.cons (.v 4) .nil))))) .nil))
abbrev ns_has_height : List Str := ["above", "under", "x", "y", "below"]
def sx_quotient_through_v3_1 : SX :=
  (.ret (.tup (.cons (.v 4) (.cons (.v 5) (.cons (.v 7) .nil)))) .nil)
def sx_quotient_through_v3_2 : SX :=
  (.asg (.t [4, 5]) (.call 393 (.cons (.v 0) (.cons (.v 1) (.cons (.v 2) .nil))))
  (.asg (.n 3) (.call 50 (.cons (.v 4) (.cons (.v 5) .nil)))
  (.asg (.n 4) (.ix (.call 44 (.cons (.v 4) (.cons (.v 3) .nil))) (.int 0))
  (.asg (.n 5) (.ix (.call 44 (.cons (.v 5) (.cons (.v 3) .nil))) (.int 0))
  (.asg (.n 6) (.call 14 (.cons (.glo 1) (.cons (.ix (.v 5) (.neg (.int 1))) .nil)))
  (.asg (.n 4) (.call 33 (.cons (.v 4) (.cons (.v 6) .nil)))
  (.asg (.n 5) (.call 33 (.cons (.v 5) (.cons (.v 6) .nil)))
  (.asg (.n 7) (.lst .nil)
  (.for_ (.t [8, 9]) (.zip (.v 0) (.v 1))
    (.ite (.not (.call 229 (.cons (.v 4) (.cons (.v 5) (.cons (.v 8) (.cons (.v 9) .nil))))))
      (.asg (.n 10) (.blt .len (.cons (.comp [11] (.n 11) (.over (.v 7)) (.call 15 (.cons (.v 11) (.cons (.v 8) .nil))) (.v 11)) .nil))
      (.expr (.mt .insert (.v 7) (.cons (.v 10) (.cons (.v 8) .nil))) .nil))
      .nil .nil)
  sx_quotient_through_v3_1)))))))))
def sx_quotient_through_v3 : SX :=
  (.expr (.call 354 (.cons (.v 0) (.cons (.v 1) .nil)))
  (.ite (.not (.chain .le .le (.int 1) (.v 2) (.blt .len (.cons (.v 0) .nil))))
    (.raise .few .nil)
    .nil
  sx_quotient_through_v3_2))
abbrev ns_quotient_through_v3 : List Str := ["places", "heights", "width", "part", "above", "under", "one", "left", "x", "y", "at", "z"]
section
variable {Γ : Nat → SpD} {gl : Nat → D} {ds : List D} {g : G} {Q : QD} {E X : XD}
def hasB (ab un : List Rat) (p : Rat × Rat) : Bool := decide (ev un p.1 ≠ 0 ∧ ev ab p.1 = p.2 * ev un p.1)
def spHasH : SpD := fun ds g Q _ => ∃ (ab un : List Rat) (x y : Rat), ds = [.tup (nums ab), .tup (nums un), num x, num y] ∧ EvOk ab x ∧ EvOk un x ∧ sz y + sz (ev un x) ≤ 100000000 ∧ Q (.bl (hasB ab un (x, y))) g
theorem pure_has_height (h13 : Γ 13 = spTimes) (h24 : Γ 24 = spEv) (hg0 : gl 0 = num 0) (h : spHasH ds g Q E) : mnS Γ gl sx_has_height (endsOf Q E) (startD ns_has_height ds) g := by
  obtain ⟨ab, un, x, y, rfl, h1, h2, h3, h⟩ := h
  simp only [sx_has_height, h13, h24, hg0, mnS, mn, Mn.of, Op.rd, Cm.rd, Bl.rd, Mt.rd, Mt.rc, dNop, dSeq, dExpr, dRet, dRetN, dIf, gD, dAsg, dPar, dPut, dRaise, dVar, dC, dBin, dUn, dNil, dCons, dTup, dLst, dTst, dAndT, dOrT, dNotT, dYes, dAnd, dOr, dNot, dChain, dCall, dCB, dMt, dLset, dSrev, dTry, dIsx, dEmp, dStp, xsub, Ex.sub, dSlc, dPart, dNoPart, dIAny, dI1, dI2, dI3, dFor, dComp, compB, wipeD, startD, endsOf, at_mk, setAll, add_int, sub_int, mul_int, mul_tup, pow_int, mod_int, fdiv_int, lt_int, le_int, gt_int, ge_int, eq_int, neg_int, len_tup, len_scr, abs_int, max_int, min_int, int_int, int_bl, r1_int, r2_int, tuple_tup, list_tup, over_tup, rev_tup, enum_tup, zip_tup, slc_tup, add_tup, isi_any, ix_tup, ix_scr, ix_num0, ix_num1, len_num, num_0, num_1, atI_0, atI_1, atI_2, List.map, List.cons_append, List.nil_append, List.getElem?_cons_zero, List.getElem?_cons_succ, List.getElem?_nil, List.set_cons_zero, List.set_cons_succ, List.replicate, List.length_cons, List.length_nil, List.foldr_cons, List.foldr_nil, Nat.reduceAdd, Nat.reduceSub, List.replicate_succ, List.replicate_zero, G_up_same, decide_eq_true_eq, Bool.not_eq_true', Bool.false_eq_true, if_true, if_false, ite_true, ite_false, and_true, true_and, reduceCtorEq, Bool.not_true, Bool.not_false, Bool.false_bne, Bool.true_bne, sl0, sl1, sl2, sl3, sl4]
  refine c_evE .tup h2 ?_
  try simp only [mnS, mn, Mn.of, Op.rd, Cm.rd, Bl.rd, Mt.rd, Mt.rc, dNop, dSeq, dExpr, dRet, dRetN, dIf, gD, dAsg, dPar, dPut, dRaise, dVar, dC, dBin, dUn, dNil, dCons, dTup, dLst, dTst, dAndT, dOrT, dNotT, dYes, dAnd, dOr, dNot, dChain, dCall, dCB, dMt, dLset, dSrev, dTry, dIsx, dEmp, dStp, xsub, Ex.sub, dSlc, dPart, dNoPart, dIAny, dI1, dI2, dI3, dFor, dComp, compB, wipeD, startD, endsOf, at_mk, setAll, add_int, sub_int, mul_int, mul_tup, pow_int, mod_int, fdiv_int, lt_int, le_int, gt_int, ge_int, eq_int, neg_int, len_tup, len_scr, abs_int, max_int, min_int, int_int, int_bl, r1_int, r2_int, tuple_tup, list_tup, over_tup, rev_tup, enum_tup, zip_tup, slc_tup, add_tup, isi_any, ix_tup, ix_scr, ix_num0, ix_num1, len_num, num_0, num_1, atI_0, atI_1, atI_2, List.map, List.cons_append, List.nil_append, List.getElem?_cons_zero, List.getElem?_cons_succ, List.getElem?_nil, List.set_cons_zero, List.set_cons_succ, List.replicate, List.length_cons, List.length_nil, List.foldr_cons, List.foldr_nil, Nat.reduceAdd, Nat.reduceSub, List.replicate_succ, List.replicate_zero, G_up_same, decide_eq_true_eq, Bool.not_eq_true', Bool.false_eq_true, if_true, if_false, ite_true, ite_false, and_true, true_and, reduceCtorEq, Bool.not_true, Bool.not_false, Bool.false_bne, Bool.true_bne, sl0, sl1, sl2, sl3, sl4]
  refine eq_num (fun e => ?_) fun e => ?_
  · try simp only [mnS, mn, Mn.of, Op.rd, Cm.rd, Bl.rd, Mt.rd, Mt.rc, dNop, dSeq, dExpr, dRet, dRetN, dIf, gD, dAsg, dPar, dPut, dRaise, dVar, dC, dBin, dUn, dNil, dCons, dTup, dLst, dTst, dAndT, dOrT, dNotT, dYes, dAnd, dOr, dNot, dChain, dCall, dCB, dMt, dLset, dSrev, dTry, dIsx, dEmp, dStp, xsub, Ex.sub, dSlc, dPart, dNoPart, dIAny, dI1, dI2, dI3, dFor, dComp, compB, wipeD, startD, endsOf, at_mk, setAll, add_int, sub_int, mul_int, mul_tup, pow_int, mod_int, fdiv_int, lt_int, le_int, gt_int, ge_int, eq_int, neg_int, len_tup, len_scr, abs_int, max_int, min_int, int_int, int_bl, r1_int, r2_int, tuple_tup, list_tup, over_tup, rev_tup, enum_tup, zip_tup, slc_tup, add_tup, isi_any, ix_tup, ix_scr, ix_num0, ix_num1, len_num, num_0, num_1, atI_0, atI_1, atI_2, List.map, List.cons_append, List.nil_append, List.getElem?_cons_zero, List.getElem?_cons_succ, List.getElem?_nil, List.set_cons_zero, List.set_cons_succ, List.replicate, List.length_cons, List.length_nil, List.foldr_cons, List.foldr_nil, Nat.reduceAdd, Nat.reduceSub, List.replicate_succ, List.replicate_zero, G_up_same, decide_eq_true_eq, Bool.not_eq_true', Bool.false_eq_true, if_true, if_false, ite_true, ite_false, and_true, true_and, reduceCtorEq, Bool.not_true, Bool.not_false, Bool.false_bne, Bool.true_bne, sl0, sl1, sl2, sl3, sl4]
    have : hasB ab un (x, y) = false := decide_eq_false fun z => z.1 e
    rw [this] at h
    exact ⟨_, G.le_refl _, h⟩
  · try simp only [mnS, mn, Mn.of, Op.rd, Cm.rd, Bl.rd, Mt.rd, Mt.rc, dNop, dSeq, dExpr, dRet, dRetN, dIf, gD, dAsg, dPar, dPut, dRaise, dVar, dC, dBin, dUn, dNil, dCons, dTup, dLst, dTst, dAndT, dOrT, dNotT, dYes, dAnd, dOr, dNot, dChain, dCall, dCB, dMt, dLset, dSrev, dTry, dIsx, dEmp, dStp, xsub, Ex.sub, dSlc, dPart, dNoPart, dIAny, dI1, dI2, dI3, dFor, dComp, compB, wipeD, startD, endsOf, at_mk, setAll, add_int, sub_int, mul_int, mul_tup, pow_int, mod_int, fdiv_int, lt_int, le_int, gt_int, ge_int, eq_int, neg_int, len_tup, len_scr, abs_int, max_int, min_int, int_int, int_bl, r1_int, r2_int, tuple_tup, list_tup, over_tup, rev_tup, enum_tup, zip_tup, slc_tup, add_tup, isi_any, ix_tup, ix_scr, ix_num0, ix_num1, len_num, num_0, num_1, atI_0, atI_1, atI_2, List.map, List.cons_append, List.nil_append, List.getElem?_cons_zero, List.getElem?_cons_succ, List.getElem?_nil, List.set_cons_zero, List.set_cons_succ, List.replicate, List.length_cons, List.length_nil, List.foldr_cons, List.foldr_nil, Nat.reduceAdd, Nat.reduceSub, List.replicate_succ, List.replicate_zero, G_up_same, decide_eq_true_eq, Bool.not_eq_true', Bool.false_eq_true, if_true, if_false, ite_true, ite_false, and_true, true_and, reduceCtorEq, Bool.not_true, Bool.not_false, Bool.false_bne, Bool.true_bne, sl0, sl1, sl2, sl3, sl4]
    refine c_evE .tup h1 ?_
    simp only [c_bin]
    refine ⟨h3, eq_num (fun e2 => ?_) fun e2 => ?_⟩
    · have : hasB ab un (x, y) = true := decide_eq_true ⟨e, e2⟩
      rw [this] at h
      exact ⟨_, G.le_refl _, h⟩
    · have : hasB ab un (x, y) = false := decide_eq_false fun z => e2 z.2
      rw [this] at h
      exact ⟨_, G.le_refl _, h⟩
def lefQ (ks ys ab un : List Rat) : List Rat := ((ks.zip ys).filter fun p => !hasB ab un p).map Prod.fst
def lefR (ks ys ab un : List Rat) : List Rat := (lefQ ks ys ab un).foldl risIns []
theorem lefQ_snoc {ks ys ab un : List Rat} {j : Nat} {x y : Rat} (hx : ks[j]? = some x) (hy : ys[j]? = some y) : lefQ (ks.take (j + 1)) (ys.take (j + 1)) ab un = lefQ (ks.take j) (ys.take j) ab un ++ if hasB ab un (x, y) = true then [] else [x] := by
  have h1 := lt_of_at hx
  have h2 := lt_of_at hy
  unfold lefQ
  rw [take_s hx, take_s hy, List.zip_append (by rw [List.length_take, List.length_take]; omega), List.filter_append, List.map_append]
  congr 1
  by_cases h : hasB ab un (x, y) = true
  · simp [h]
  · simp [h]
theorem lefQ_sub {ks ys ab un : List Rat} {z : Rat} (h : z ∈ lefQ ks ys ab un) : z ∈ ks := by
  obtain ⟨p, hp, rfl⟩ := List.mem_map.mp h
  exact (List.of_mem_zip (List.mem_filter.mp hp).1).1
theorem lefQ_len {ks ys ab un : List Rat} : (lefQ ks ys ab un).length ≤ ks.length := by
  unfold lefQ
  rw [List.length_map]
  have a := List.length_filter_le (fun p : Rat × Rat => !hasB ab un p) (ks.zip ys)
  rw [List.length_zip] at a
  omega
theorem comp_lessL {s p : Addr} {f : List Rat} {y : Rat} {i : Nat} {env : Env} {fin : G → Prop} {te : DTE} (hi : i < env.length) (hs : g s = some (nums f)) (hp : g p = none)
    (hte : ∀ (x : Rat) (acc : List D) (X : XD) (Q : QD), x ∈ f → Q (.bl (decide (x < y))) (g.up p acc) → te X (env.set i (some (num x))) (g.up p acc) Q)
    (h : fin (g.up p (nums (f.filter fun z => decide (z < y))))) :
    compD (fun g' => g' s = some (nums f)) p (compB (.n i) env (dTst te) (dVar i)) fin (nums f) [] (g.up p []) := by
  have hsp := ne_of_known hs hp
  refine comp_inv (fun k acc g' => k ≤ f.length ∧ acc = nums ((f.take k).filter fun z => decide (z < y)) ∧ g' = g.up p acc) (fun k acc g' e => by rw [e.2.2, G_up_ne hsp]; exact hs) ?_ ?_ ⟨Nat.zero_le _, rfl, rfl⟩
  · rintro k x acc g' N hk ⟨hk0, rfl, rfl⟩ h1 h2
    obtain ⟨z, hz, rfl⟩ := nums_at hk
    have hl := lt_of_at hz
    try simp only [mnS, mn, Mn.of, Op.rd, Cm.rd, Bl.rd, Mt.rd, Mt.rc, dNop, dSeq, dExpr, dRet, dRetN, dIf, gD, dAsg, dPar, dPut, dRaise, dVar, dC, dBin, dUn, dNil, dCons, dTup, dLst, dTst, dAndT, dOrT, dNotT, dYes, dAnd, dOr, dNot, dChain, dCall, dCB, dMt, dLset, dSrev, dTry, dIsx, dEmp, dStp, xsub, Ex.sub, dSlc, dPart, dNoPart, dIAny, dI1, dI2, dI3, dFor, dComp, compB, wipeD, startD, endsOf, at_mk, setAll, add_int, sub_int, mul_int, mul_tup, pow_int, mod_int, fdiv_int, lt_int, le_int, gt_int, ge_int, eq_int, neg_int, len_tup, len_scr, abs_int, max_int, min_int, int_int, int_bl, r1_int, r2_int, tuple_tup, list_tup, over_tup, rev_tup, enum_tup, zip_tup, slc_tup, add_tup, isi_any, ix_tup, ix_scr, ix_num0, ix_num1, len_num, num_0, num_1, atI_0, atI_1, atI_2, List.map, List.cons_append, List.nil_append, List.getElem?_cons_zero, List.getElem?_cons_succ, List.getElem?_nil, List.set_cons_zero, List.set_cons_succ, List.replicate, List.length_cons, List.length_nil, List.foldr_cons, List.foldr_nil, Nat.reduceAdd, Nat.reduceSub, List.replicate_succ, List.replicate_zero, G_up_same, decide_eq_true_eq, Bool.not_eq_true', Bool.false_eq_true, if_true, if_false, ite_true, ite_false, and_true, true_and, reduceCtorEq, Bool.not_true, Bool.not_false, Bool.false_bne, Bool.true_bne, sl0, sl1, sl2, sl3, sl4]
    refine hte z _ _ _ (List.mem_of_getElem? hz) ?_
    have e : (f.take (k + 1)).filter (fun z => decide (z < y)) = (f.take k).filter (fun z => decide (z < y)) ++ if z < y then [z] else [] := by
      rw [take_s hz, List.filter_append]
      congr 1
      by_cases h : z < y <;> simp [h]
    by_cases hlt : z < y
    · rw [if_pos hlt] at e
      rw [decide_eq_true hlt]
      simp only [mnS, mn, Mn.of, Op.rd, Cm.rd, Bl.rd, Mt.rd, Mt.rc, dNop, dSeq, dExpr, dRet, dRetN, dIf, gD, dAsg, dPar, dPut, dRaise, dVar, dC, dBin, dUn, dNil, dCons, dTup, dLst, dTst, dAndT, dOrT, dNotT, dYes, dAnd, dOr, dNot, dChain, dCall, dCB, dMt, dLset, dSrev, dTry, dIsx, dEmp, dStp, xsub, Ex.sub, dSlc, dPart, dNoPart, dIAny, dI1, dI2, dI3, dFor, dComp, compB, wipeD, startD, endsOf, at_mk, setAll, add_int, sub_int, mul_int, mul_tup, pow_int, mod_int, fdiv_int, lt_int, le_int, gt_int, ge_int, eq_int, neg_int, len_tup, len_scr, abs_int, max_int, min_int, int_int, int_bl, r1_int, r2_int, tuple_tup, list_tup, over_tup, rev_tup, enum_tup, zip_tup, slc_tup, add_tup, isi_any, ix_tup, ix_scr, ix_num0, ix_num1, len_num, num_0, num_1, atI_0, atI_1, atI_2, List.map, List.cons_append, List.nil_append, List.getElem?_cons_zero, List.getElem?_cons_succ, List.getElem?_nil, List.set_cons_zero, List.set_cons_succ, List.replicate, List.length_cons, List.length_nil, List.foldr_cons, List.foldr_nil, Nat.reduceAdd, Nat.reduceSub, List.replicate_succ, List.replicate_zero, G_up_same, decide_eq_true_eq, Bool.not_eq_true', Bool.false_eq_true, if_true, if_false, ite_true, ite_false, and_true, true_and, reduceCtorEq, Bool.not_true, Bool.not_false, Bool.false_bne, Bool.true_bne, sl0, sl1, sl2, sl3, sl4, List.getElem?_set_self hi]
      exact h1 _ _ G_up_same ⟨by omega, by rw [e, nums_snoc], by rw [G_up_up]⟩
    · rw [if_neg hlt, List.append_nil] at e
      rw [decide_eq_false hlt]
      try simp only [mnS, mn, Mn.of, Op.rd, Cm.rd, Bl.rd, Mt.rd, Mt.rc, dNop, dSeq, dExpr, dRet, dRetN, dIf, gD, dAsg, dPar, dPut, dRaise, dVar, dC, dBin, dUn, dNil, dCons, dTup, dLst, dTst, dAndT, dOrT, dNotT, dYes, dAnd, dOr, dNot, dChain, dCall, dCB, dMt, dLset, dSrev, dTry, dIsx, dEmp, dStp, xsub, Ex.sub, dSlc, dPart, dNoPart, dIAny, dI1, dI2, dI3, dFor, dComp, compB, wipeD, startD, endsOf, at_mk, setAll, add_int, sub_int, mul_int, mul_tup, pow_int, mod_int, fdiv_int, lt_int, le_int, gt_int, ge_int, eq_int, neg_int, len_tup, len_scr, abs_int, max_int, min_int, int_int, int_bl, r1_int, r2_int, tuple_tup, list_tup, over_tup, rev_tup, enum_tup, zip_tup, slc_tup, add_tup, isi_any, ix_tup, ix_scr, ix_num0, ix_num1, len_num, num_0, num_1, atI_0, atI_1, atI_2, List.map, List.cons_append, List.nil_append, List.getElem?_cons_zero, List.getElem?_cons_succ, List.getElem?_nil, List.set_cons_zero, List.set_cons_succ, List.replicate, List.length_cons, List.length_nil, List.foldr_cons, List.foldr_nil, Nat.reduceAdd, Nat.reduceSub, List.replicate_succ, List.replicate_zero, G_up_same, decide_eq_true_eq, Bool.not_eq_true', Bool.false_eq_true, if_true, if_false, ite_true, ite_false, and_true, true_and, reduceCtorEq, Bool.not_true, Bool.not_false, Bool.false_bne, Bool.true_bne, sl0, sl1, sl2, sl3, sl4]
      exact h2 _ G_up_same ⟨by omega, by rw [e], rfl⟩
  · rintro acc g' ⟨hk0, rfl, rfl⟩
    rw [nums_len, List.take_length]
    exact h
def quoHP (bk : Nat) : Nat := 12 * (bk + 2) + 1
def quoHA (HR bk : Nat) : Nat := HR + 14 * (quoHP bk + 1)
def quoOk (HR HV bk c n m : Nat) : Bool := decide (HR ≤ 49000000) && decide (HV ≤ 49000000) && decide (2 * (quoHA HR bk + quoHA HV bk) + 40 * (bk + 2) + c + 100 ≤ 100000000) && (List.range (n + 1)).all fun i => (List.range (m + 1)).all fun j => j == 0 || (decide (2 * divB i j HR HV + 10 ≤ 98000000) && comOk HV (divB i j HR HV) j)
theorem quoOk_at {HR HV bk c n m : Nat} (h : quoOk HR HV bk c n m = true) : HR ≤ 49000000 ∧ HV ≤ 49000000 ∧ 2 * (quoHA HR bk + quoHA HV bk) + 40 * (bk + 2) + c + 100 ≤ 100000000 ∧ ∀ i j, i ≤ n → j ≤ m → 0 < j → 2 * divB i j HR HV + 10 ≤ 98000000 ∧ comOk HV (divB i j HR HV) j = true := by
  unfold quoOk at h
  simp only [Bool.and_eq_true, decide_eq_true_eq] at h
  refine ⟨h.1.1.1, h.1.1.2, h.1.2, fun i j hi hj h0 => ?_⟩
  have := List.all_eq_true.mp (List.all_eq_true.mp h.2 i (List.mem_range.mpr (by omega))) j (List.mem_range.mpr (by omega))
  simp only [Bool.or_eq_true, Bool.and_eq_true, beq_iff_eq, decide_eq_true_eq] at this
  rcases this with h | h
  · omega
  · exact h
def spQuo : SpD := fun ds g Q X => ∃ a b ks ys, ∃ w : Int, ds = [.ref a, .ref b, .int w] ∧ g a = some (nums ks) ∧ g b = some (nums ys) ∧ ks.length ≤ 40 ∧
  (¬ (Places 1 ks ∧ ks.length = ys.length) → X .npoints g) ∧ (Places 1 ks → ks.length = ys.length → ¬ (1 ≤ w ∧ w ≤ ks.length) → X .few g) ∧
  (Places 1 ks → ks.length = ys.length → ∀ wn : Nat, w = (wn : Int) → 1 ≤ wn → wn ≤ ks.length → ∃ S h0 h1 c bk T : Nat, Szs bk ks ∧ Szs c ys ∧ 0 < bk ∧ bk ≤ 1000 ∧ bk ≤ c ∧ bsSz (ks.length + 1) c (3 * c + 2) ≤ 40000000 ∧ wn ≤ S ∧ S ≤ ks.length ∧ ks.length ≤ T + S ∧
    Ht h0 (lnL ks) ∧ (∀ f, Tight f → f.length ≤ ks.length → (∀ p ∈ ks.zip ys, ev f p.1 = p.2) → Ht h1 f) ∧ (∀ r v, PairR ks ys S r v → r.length ≤ wn) ∧ pairOk h0 h1 T = true ∧ quoOk (plB h0 h1 (T + 1)) (vlB h0 h1 (T + 1)) bk c 12 (T + 1) = true ∧
    ∀ r v ab un L, PairR ks ys S r v → QuoR ks ys wn S r v ab un L → Ht (quoHA (plB h0 h1 (T + 1)) bk + quoHA (vlB h0 h1 (T + 1)) bk) ab → Ht (quoHA (vlB h0 h1 (T + 1)) bk) un → ∀ s g', g s = none → g.le g' → g' s = some (nums (lefR ks ys ab un)) → Q (.tup [.tup (nums ab), .tup (nums un), .ref s]) g')
end
end PP
namespace PP
open PySem PySem.Spec PyProof.Rows L2
section
variable {Γ : Nat → SpD} {gl : Nat → D} {ds : List D} {g : G} {Q : QD} {E X : XD}
theorem sz_one_over (l : Rat) : sz (1 / l) ≤ sz l := by
  rw [Rat.div_def, Rat.one_mul]; exact sz_inv l
theorem quo_loop (h15 : Γ 15 = spLess) (h229 : Γ 229 = spHasH) {a b : Addr} {ks ys ab un : List Rat} {bk : Nat} {o2 o3 o6 : Option D} {R : D → G → Prop} {ex : Ex → Env → G → Prop} {nx : Env → G → Prop} (ha : g a = some (nums ks)) (hb : g b = some (nums ys)) (hl : ks.length = ys.length) (h12 : ks.length ≤ 12) (zk : Szs bk ks) (hbk : bk ≤ 1000) (h1 : ∀ x ∈ ks, EvOk ab x) (h2 : ∀ x ∈ ks, EvOk un x) (h3 : ∀ p ∈ ks.zip ys, sz p.2 + sz (ev un p.1) ≤ 100000000)
    (k : ∀ s g', g s = none → g.le g' → g' s = some (nums (lefR ks ys ab un)) → R (.tup [.tup (nums ab), .tup (nums un), .ref s]) g') :
    mnS Γ gl (.asg (.n 7) (.lst .nil)
  (.for_ (.t [8, 9]) (.zip (.v 0) (.v 1))
    (.ite (.not (.call 229 (.cons (.v 4) (.cons (.v 5) (.cons (.v 8) (.cons (.v 9) .nil))))))
      (.asg (.n 10) (.blt .len (.cons (.comp [11] (.n 11) (.over (.v 7)) (.call 15 (.cons (.v 11) (.cons (.v 8) .nil))) (.v 11)) .nil))
      (.expr (.mt .insert (.v 7) (.cons (.v 10) (.cons (.v 8) .nil))) .nil))
      .nil .nil)
  sx_quotient_through_v3_1)) ⟨nx, R, ex⟩ [some (.ref a), some (.ref b), o2, o3, some (.tup (nums ab)), some (.tup (nums un)), o6, none, none, none, none, none] g := by
  simp only [h15, h229, mnS, mn, Mn.of, Op.rd, Cm.rd, Bl.rd, Mt.rd, Mt.rc, dNop, dSeq, dExpr, dRet, dRetN, dIf, gD, dAsg, dPar, dPut, dRaise, dVar, dC, dBin, dUn, dNil, dCons, dTup, dLst, dTst, dAndT, dOrT, dNotT, dYes, dAnd, dOr, dNot, dChain, dCall, dCB, dMt, dLset, dSrev, dTry, dIsx, dEmp, dStp, xsub, Ex.sub, dSlc, dPart, dNoPart, dIAny, dI1, dI2, dI3, dFor, dComp, compB, wipeD, startD, endsOf, at_mk, setAll, add_int, sub_int, mul_int, mul_tup, pow_int, mod_int, fdiv_int, lt_int, le_int, gt_int, ge_int, eq_int, neg_int, len_tup, len_scr, abs_int, max_int, min_int, int_int, int_bl, r1_int, r2_int, tuple_tup, list_tup, over_tup, rev_tup, enum_tup, zip_tup, slc_tup, add_tup, isi_any, ix_tup, ix_scr, ix_num0, ix_num1, len_num, num_0, num_1, atI_0, atI_1, atI_2, List.map, List.cons_append, List.nil_append, List.getElem?_cons_zero, List.getElem?_cons_succ, List.getElem?_nil, List.set_cons_zero, List.set_cons_succ, List.replicate, List.length_cons, List.length_nil, List.foldr_cons, List.foldr_nil, Nat.reduceAdd, Nat.reduceSub, List.replicate_succ, List.replicate_zero, G_up_same, decide_eq_true_eq, Bool.not_eq_true', Bool.false_eq_true, if_true, if_false, ite_true, ite_false, and_true, true_and, reduceCtorEq, Bool.not_true, Bool.not_false, Bool.false_bne, Bool.true_bne, sl0, sl1, sl2, sl3, sl4]
  intro s hs
  have K : KN g s (g.up s (nums [])) [(s, nums [])] := KN.start' hs
  have hsa : a ≠ s := ne_of_known ha hs
  have hsb : b ≠ s := ne_of_known hb hs
  have hzl : (zipD (nums ks) (nums ys)).length = ks.length := by unfold zipD; rw [List.length_zipWith, nums_len, nums_len]; omega
  rw [zip_ref (show (g.up s []) a = some (nums ks) from K.arg hsa ha) (show (g.up s []) b = some (nums ys) from K.arg hsb hb)]
  refine for_inv (fun k env g' => k ≤ ks.length ∧ ∃ o8 o9 o10, env = [some (.ref a), some (.ref b), o2, o3, some (.tup (nums ab)), some (.tup (nums un)), o6, some (.ref s), o8, o9, o10, none] ∧ KN g s g' [(s, nums ((lefQ (ks.take k) (ys.take k) ab un).foldl risIns []))])
    (fun k env g' e => by obtain ⟨_, _, _, _, _, K⟩ := e; exact ⟨K.arg hsa ha, K.arg hsb hb⟩) ?_ ?_ ⟨Nat.zero_le _, none, none, none, rfl, K⟩
  · rintro k d env g' N hk ⟨hk0, o8, o9, o10, rfl, K⟩ hN
    obtain ⟨x, y, hx, hy, rfl⟩ := zip_numQ hk
    have hk2 := lt_of_at hx
    have hxm := List.mem_of_getElem? hx
    have hpm : (x, y) ∈ ks.zip ys := List.mem_of_getElem? (i := k) (List.getElem?_zip_eq_some.mpr ⟨hx, hy⟩)
    have hxs := zk.at hx
    have e := lefQ_snoc (ab := ab) (un := un) hx hy
    try simp only [mnS, mn, Mn.of, Op.rd, Cm.rd, Bl.rd, Mt.rd, Mt.rc, dNop, dSeq, dExpr, dRet, dRetN, dIf, gD, dAsg, dPar, dPut, dRaise, dVar, dC, dBin, dUn, dNil, dCons, dTup, dLst, dTst, dAndT, dOrT, dNotT, dYes, dAnd, dOr, dNot, dChain, dCall, dCB, dMt, dLset, dSrev, dTry, dIsx, dEmp, dStp, xsub, Ex.sub, dSlc, dPart, dNoPart, dIAny, dI1, dI2, dI3, dFor, dComp, compB, wipeD, startD, endsOf, at_mk, setAll, add_int, sub_int, mul_int, mul_tup, pow_int, mod_int, fdiv_int, lt_int, le_int, gt_int, ge_int, eq_int, neg_int, len_tup, len_scr, abs_int, max_int, min_int, int_int, int_bl, r1_int, r2_int, tuple_tup, list_tup, over_tup, rev_tup, enum_tup, zip_tup, slc_tup, add_tup, isi_any, ix_tup, ix_scr, ix_num0, ix_num1, len_num, num_0, num_1, atI_0, atI_1, atI_2, List.map, List.cons_append, List.nil_append, List.getElem?_cons_zero, List.getElem?_cons_succ, List.getElem?_nil, List.set_cons_zero, List.set_cons_succ, List.replicate, List.length_cons, List.length_nil, List.foldr_cons, List.foldr_nil, Nat.reduceAdd, Nat.reduceSub, List.replicate_succ, List.replicate_zero, G_up_same, decide_eq_true_eq, Bool.not_eq_true', Bool.false_eq_true, if_true, if_false, ite_true, ite_false, and_true, true_and, reduceCtorEq, Bool.not_true, Bool.not_false, Bool.false_bne, Bool.true_bne, sl0, sl1, sl2, sl3, sl4]
    refine ⟨ab, un, x, y, rfl, h1 x hxm, h2 x hxm, h3 _ hpm, ?_⟩
    by_cases hh : hasB ab un (x, y) = true
    · rw [if_pos hh, List.append_nil] at e
      rw [hh]
      try simp only [mnS, mn, Mn.of, Op.rd, Cm.rd, Bl.rd, Mt.rd, Mt.rc, dNop, dSeq, dExpr, dRet, dRetN, dIf, gD, dAsg, dPar, dPut, dRaise, dVar, dC, dBin, dUn, dNil, dCons, dTup, dLst, dTst, dAndT, dOrT, dNotT, dYes, dAnd, dOr, dNot, dChain, dCall, dCB, dMt, dLset, dSrev, dTry, dIsx, dEmp, dStp, xsub, Ex.sub, dSlc, dPart, dNoPart, dIAny, dI1, dI2, dI3, dFor, dComp, compB, wipeD, startD, endsOf, at_mk, setAll, add_int, sub_int, mul_int, mul_tup, pow_int, mod_int, fdiv_int, lt_int, le_int, gt_int, ge_int, eq_int, neg_int, len_tup, len_scr, abs_int, max_int, min_int, int_int, int_bl, r1_int, r2_int, tuple_tup, list_tup, over_tup, rev_tup, enum_tup, zip_tup, slc_tup, add_tup, isi_any, ix_tup, ix_scr, ix_num0, ix_num1, len_num, num_0, num_1, atI_0, atI_1, atI_2, List.map, List.cons_append, List.nil_append, List.getElem?_cons_zero, List.getElem?_cons_succ, List.getElem?_nil, List.set_cons_zero, List.set_cons_succ, List.replicate, List.length_cons, List.length_nil, List.foldr_cons, List.foldr_nil, Nat.reduceAdd, Nat.reduceSub, List.replicate_succ, List.replicate_zero, G_up_same, decide_eq_true_eq, Bool.not_eq_true', Bool.false_eq_true, if_true, if_false, ite_true, ite_false, and_true, true_and, reduceCtorEq, Bool.not_true, Bool.not_false, Bool.false_bne, Bool.true_bne, sl0, sl1, sl2, sl3, sl4]
      exact hN _ _ ⟨hk2, _, _, _, rfl, by rw [e]; exact K⟩
    · rw [if_neg hh] at e
      have hh : hasB ab un (x, y) = false := by simpa using hh
      rw [hh]
      try simp only [mnS, mn, Mn.of, Op.rd, Cm.rd, Bl.rd, Mt.rd, Mt.rc, dNop, dSeq, dExpr, dRet, dRetN, dIf, gD, dAsg, dPar, dPut, dRaise, dVar, dC, dBin, dUn, dNil, dCons, dTup, dLst, dTst, dAndT, dOrT, dNotT, dYes, dAnd, dOr, dNot, dChain, dCall, dCB, dMt, dLset, dSrev, dTry, dIsx, dEmp, dStp, xsub, Ex.sub, dSlc, dPart, dNoPart, dIAny, dI1, dI2, dI3, dFor, dComp, compB, wipeD, startD, endsOf, at_mk, setAll, add_int, sub_int, mul_int, mul_tup, pow_int, mod_int, fdiv_int, lt_int, le_int, gt_int, ge_int, eq_int, neg_int, len_tup, len_scr, abs_int, max_int, min_int, int_int, int_bl, r1_int, r2_int, tuple_tup, list_tup, over_tup, rev_tup, enum_tup, zip_tup, slc_tup, add_tup, isi_any, ix_tup, ix_scr, ix_num0, ix_num1, len_num, num_0, num_1, atI_0, atI_1, atI_2, List.map, List.cons_append, List.nil_append, List.getElem?_cons_zero, List.getElem?_cons_succ, List.getElem?_nil, List.set_cons_zero, List.set_cons_succ, List.replicate, List.length_cons, List.length_nil, List.foldr_cons, List.foldr_nil, Nat.reduceAdd, Nat.reduceSub, List.replicate_succ, List.replicate_zero, G_up_same, decide_eq_true_eq, Bool.not_eq_true', Bool.false_eq_true, if_true, if_false, ite_true, ite_false, and_true, true_and, reduceCtorEq, Bool.not_true, Bool.not_false, Bool.false_bne, Bool.true_bne, sl0, sl1, sl2, sl3, sl4]
      have hF : ∀ z ∈ (lefQ (ks.take k) (ys.take k) ab un).foldl risIns [], sz z ≤ bk := fun z hz => by
        rcases fold_mem hz with hz | hz
        · exact zk z (List.mem_of_mem_take (lefQ_sub hz))
        · cases hz
      have hFl : ((lefQ (ks.take k) (ys.take k) ab un).foldl risIns []).length ≤ 40 := by
        rw [fold_len]
        have := lefQ_len (ks := ks.take k) (ys := ys.take k) (ab := ab) (un := un)
        rw [List.length_take] at this
        simp only [List.length_nil]
        omega
      generalize hF0 : (lefQ (ks.take k) (ys.take k) ab un).foldl risIns [] = F at K hF hFl
      rw [over_ref (K.get 0 _ _ rfl)]
      refine ⟨slN (by rw [nums_len]; omega), fun p hp => ?_⟩
      refine comp_lessL (y := x) (by simp) (K.get 0 _ _ rfl) hp (fun z acc X Q hz hQ => ?_) ?_
      · have h1 := hF z hz
        simp only [mnS, mn, Mn.of, Op.rd, Cm.rd, Bl.rd, Mt.rd, Mt.rc, dNop, dSeq, dExpr, dRet, dRetN, dIf, gD, dAsg, dPar, dPut, dRaise, dVar, dC, dBin, dUn, dNil, dCons, dTup, dLst, dTst, dAndT, dOrT, dNotT, dYes, dAnd, dOr, dNot, dChain, dCall, dCB, dMt, dLset, dSrev, dTry, dIsx, dEmp, dStp, xsub, Ex.sub, dSlc, dPart, dNoPart, dIAny, dI1, dI2, dI3, dFor, dComp, compB, wipeD, startD, endsOf, at_mk, setAll, add_int, sub_int, mul_int, mul_tup, pow_int, mod_int, fdiv_int, lt_int, le_int, gt_int, ge_int, eq_int, neg_int, len_tup, len_scr, abs_int, max_int, min_int, int_int, int_bl, r1_int, r2_int, tuple_tup, list_tup, over_tup, rev_tup, enum_tup, zip_tup, slc_tup, add_tup, isi_any, ix_tup, ix_scr, ix_num0, ix_num1, len_num, num_0, num_1, atI_0, atI_1, atI_2, List.map, List.cons_append, List.nil_append, List.getElem?_cons_zero, List.getElem?_cons_succ, List.getElem?_nil, List.set_cons_zero, List.set_cons_succ, List.replicate, List.length_cons, List.length_nil, List.foldr_cons, List.foldr_nil, Nat.reduceAdd, Nat.reduceSub, List.replicate_succ, List.replicate_zero, G_up_same, decide_eq_true_eq, Bool.not_eq_true', Bool.false_eq_true, if_true, if_false, ite_true, ite_false, and_true, true_and, reduceCtorEq, Bool.not_true, Bool.not_false, Bool.false_bne, Bool.true_bne, sl0, sl1, sl2, sl3, sl4, c_less]
        exact ⟨by omega, hQ⟩
      · have hf := List.length_filter_le (fun z => decide (z < x)) F
        have K := K.new (by rw [K.get 0 _ _ rfl]; rfl) hp (ys := nums (F.filter fun z => decide (z < x)))
        rw [len_ref (K.get 1 _ _ rfl)]
        simp only [mnS, mn, Mn.of, Op.rd, Cm.rd, Bl.rd, Mt.rd, Mt.rc, dNop, dSeq, dExpr, dRet, dRetN, dIf, gD, dAsg, dPar, dPut, dRaise, dVar, dC, dBin, dUn, dNil, dCons, dTup, dLst, dTst, dAndT, dOrT, dNotT, dYes, dAnd, dOr, dNot, dChain, dCall, dCB, dMt, dLset, dSrev, dTry, dIsx, dEmp, dStp, xsub, Ex.sub, dSlc, dPart, dNoPart, dIAny, dI1, dI2, dI3, dFor, dComp, compB, wipeD, startD, endsOf, at_mk, setAll, add_int, sub_int, mul_int, mul_tup, pow_int, mod_int, fdiv_int, lt_int, le_int, gt_int, ge_int, eq_int, neg_int, len_tup, len_scr, abs_int, max_int, min_int, int_int, int_bl, r1_int, r2_int, tuple_tup, list_tup, over_tup, rev_tup, enum_tup, zip_tup, slc_tup, add_tup, isi_any, ix_tup, ix_scr, ix_num0, ix_num1, len_num, num_0, num_1, atI_0, atI_1, atI_2, List.map, List.cons_append, List.nil_append, List.getElem?_cons_zero, List.getElem?_cons_succ, List.getElem?_nil, List.set_cons_zero, List.set_cons_succ, List.replicate, List.length_cons, List.length_nil, List.foldr_cons, List.foldr_nil, Nat.reduceAdd, Nat.reduceSub, List.replicate_succ, List.replicate_zero, G_up_same, decide_eq_true_eq, Bool.not_eq_true', Bool.false_eq_true, if_true, if_false, ite_true, ite_false, and_true, true_and, reduceCtorEq, Bool.not_true, Bool.not_false, Bool.false_bne, Bool.true_bne, sl0, sl1, sl2, sl3, sl4, nums_len, rc_ref, K.get 0 _ _ rfl, Option.isSome_some]
        rw [ins_ref (K.get 0 _ _ rfl)]
        refine ⟨slLt (by rw [nums_len]; omega), by omega, by omega, hN _ _ ⟨hk2, _, _, _, rfl, ?_⟩⟩
        have e3 : (nums F).take ((F.filter fun z => decide (z < x)).length : Int).toNat ++ [num x] ++ (nums F).drop ((F.filter fun z => decide (z < x)).length : Int).toNat = nums ((lefQ (ks.take (k + 1)) (ys.take (k + 1)) ab un).foldl risIns []) := by
          rw [e, List.foldl_append, hF0, Int.toNat_natCast]
          show _ = nums (risIns F x)
          unfold risIns nums
          rw [List.map_append, List.map_append, List.map_take, List.map_drop]; rfl
        rw [e3]
        exact (K.put 0 rfl).pick [0] (by decide)
  · rintro env g' ⟨hk0, o8, o9, o10, rfl, K⟩
    rw [hzl, List.take_of_length_le (Nat.le_refl _), List.take_of_length_le (by omega)] at K
    simp only [sx_quotient_through_v3_1, mnS, mn, Mn.of, Op.rd, Cm.rd, Bl.rd, Mt.rd, Mt.rc, dNop, dSeq, dExpr, dRet, dRetN, dIf, gD, dAsg, dPar, dPut, dRaise, dVar, dC, dBin, dUn, dNil, dCons, dTup, dLst, dTst, dAndT, dOrT, dNotT, dYes, dAnd, dOr, dNot, dChain, dCall, dCB, dMt, dLset, dSrev, dTry, dIsx, dEmp, dStp, xsub, Ex.sub, dSlc, dPart, dNoPart, dIAny, dI1, dI2, dI3, dFor, dComp, compB, wipeD, startD, endsOf, at_mk, setAll, add_int, sub_int, mul_int, mul_tup, pow_int, mod_int, fdiv_int, lt_int, le_int, gt_int, ge_int, eq_int, neg_int, len_tup, len_scr, abs_int, max_int, min_int, int_int, int_bl, r1_int, r2_int, tuple_tup, list_tup, over_tup, rev_tup, enum_tup, zip_tup, slc_tup, add_tup, isi_any, ix_tup, ix_scr, ix_num0, ix_num1, len_num, num_0, num_1, atI_0, atI_1, atI_2, List.map, List.cons_append, List.nil_append, List.getElem?_cons_zero, List.getElem?_cons_succ, List.getElem?_nil, List.set_cons_zero, List.set_cons_succ, List.replicate, List.length_cons, List.length_nil, List.foldr_cons, List.foldr_nil, Nat.reduceAdd, Nat.reduceSub, List.replicate_succ, List.replicate_zero, G_up_same, decide_eq_true_eq, Bool.not_eq_true', Bool.false_eq_true, if_true, if_false, ite_true, ite_false, and_true, true_and, reduceCtorEq, Bool.not_true, Bool.not_false, Bool.false_bne, Bool.true_bne, sl0, sl1, sl2, sl3, sl4]
    exact k s g' hs (K.fin hs) (K.get 0 _ _ rfl)
set_option maxHeartbeats 1000000 in
theorem pure_quotient_through_v3 (h14 : Γ 14 = spOver) (h15 : Γ 15 = spLess) (h33 : Γ 33 = spScaled) (h44 : Γ 44 = spDivH) (h50 : Γ 50 = spComH) (h229 : Γ 229 = spHasH) (h354 : Γ 354 = spAskT) (h393 : Γ 393 = spPairQ) (hg1 : gl 1 = num 1) (h : spQuo ds g Q E) : mnS Γ gl sx_quotient_through_v3 (endsOf Q E) (startD ns_quotient_through_v3 ds) g := by
  obtain ⟨a, b, ks, ys, w, rfl, ha, hb, hl40, hX1, hX2, h⟩ := h
  simp only [sx_quotient_through_v3, h354, mnS, mn, Mn.of, Op.rd, Cm.rd, Bl.rd, Mt.rd, Mt.rc, dNop, dSeq, dExpr, dRet, dRetN, dIf, gD, dAsg, dPar, dPut, dRaise, dVar, dC, dBin, dUn, dNil, dCons, dTup, dLst, dTst, dAndT, dOrT, dNotT, dYes, dAnd, dOr, dNot, dChain, dCall, dCB, dMt, dLset, dSrev, dTry, dIsx, dEmp, dStp, xsub, Ex.sub, dSlc, dPart, dNoPart, dIAny, dI1, dI2, dI3, dFor, dComp, compB, wipeD, startD, endsOf, at_mk, setAll, add_int, sub_int, mul_int, mul_tup, pow_int, mod_int, fdiv_int, lt_int, le_int, gt_int, ge_int, eq_int, neg_int, len_tup, len_scr, abs_int, max_int, min_int, int_int, int_bl, r1_int, r2_int, tuple_tup, list_tup, over_tup, rev_tup, enum_tup, zip_tup, slc_tup, add_tup, isi_any, ix_tup, ix_scr, ix_num0, ix_num1, len_num, num_0, num_1, atI_0, atI_1, atI_2, List.map, List.cons_append, List.nil_append, List.getElem?_cons_zero, List.getElem?_cons_succ, List.getElem?_nil, List.set_cons_zero, List.set_cons_succ, List.replicate, List.length_cons, List.length_nil, List.foldr_cons, List.foldr_nil, Nat.reduceAdd, Nat.reduceSub, List.replicate_succ, List.replicate_zero, G_up_same, decide_eq_true_eq, Bool.not_eq_true', Bool.false_eq_true, if_true, if_false, ite_true, ite_false, and_true, true_and, reduceCtorEq, Bool.not_true, Bool.not_false, Bool.false_bne, Bool.true_bne, sl0, sl1, sl2, sl3, sl4]
  refine ⟨a, b, ks, ys, rfl, ha, hb, hl40, fun z => ⟨_, G.le_refl _, hX1 z⟩, fun hP hl => ?_⟩
  simp only [len_ref ha, nums_len, mnS, mn, Mn.of, Op.rd, Cm.rd, Bl.rd, Mt.rd, Mt.rc, dNop, dSeq, dExpr, dRet, dRetN, dIf, gD, dAsg, dPar, dPut, dRaise, dVar, dC, dBin, dUn, dNil, dCons, dTup, dLst, dTst, dAndT, dOrT, dNotT, dYes, dAnd, dOr, dNot, dChain, dCall, dCB, dMt, dLset, dSrev, dTry, dIsx, dEmp, dStp, xsub, Ex.sub, dSlc, dPart, dNoPart, dIAny, dI1, dI2, dI3, dFor, dComp, compB, wipeD, startD, endsOf, at_mk, setAll, add_int, sub_int, mul_int, mul_tup, pow_int, mod_int, fdiv_int, lt_int, le_int, gt_int, ge_int, eq_int, neg_int, len_tup, len_scr, abs_int, max_int, min_int, int_int, int_bl, r1_int, r2_int, tuple_tup, list_tup, over_tup, rev_tup, enum_tup, zip_tup, slc_tup, add_tup, isi_any, ix_tup, ix_scr, ix_num0, ix_num1, len_num, num_0, num_1, atI_0, atI_1, atI_2, List.map, List.cons_append, List.nil_append, List.getElem?_cons_zero, List.getElem?_cons_succ, List.getElem?_nil, List.set_cons_zero, List.set_cons_succ, List.replicate, List.length_cons, List.length_nil, List.foldr_cons, List.foldr_nil, Nat.reduceAdd, Nat.reduceSub, List.replicate_succ, List.replicate_zero, G_up_same, decide_eq_true_eq, Bool.not_eq_true', Bool.false_eq_true, if_true, if_false, ite_true, ite_false, and_true, true_and, reduceCtorEq, Bool.not_true, Bool.not_false, Bool.false_bne, Bool.true_bne, sl0, sl1, sl2, sl3, sl4]
  have main : 1 ≤ w → w ≤ ks.length → mnS Γ gl sx_quotient_through_v3_2 (endsOf Q E) [some (.ref a), some (.ref b), some (.int w), none, none, none, none, none, none, none, none, none] g := fun hw1 hw2 => by
    obtain ⟨wn, rfl⟩ : ∃ n : Nat, w = (n : Int) := ⟨w.toNat, by omega⟩
    obtain ⟨S, h0, h1, c, bk, T, zk, zy, hbk0, hbk, hbc, hbs, hwS, hS, hT, hm, hf, hstop, hpo, hqo, h⟩ := h hP hl wn rfl (by omega) (by omega)
    have h12 := hP.2.1
    have hne : ks ≠ [] := fun z => by rw [z] at hw2; simp at hw2; omega
    simp only [sx_quotient_through_v3_2, h14, h15, h33, h44, h50, h229, h393, hg1, mnS, mn, Mn.of, Op.rd, Cm.rd, Bl.rd, Mt.rd, Mt.rc, dNop, dSeq, dExpr, dRet, dRetN, dIf, gD, dAsg, dPar, dPut, dRaise, dVar, dC, dBin, dUn, dNil, dCons, dTup, dLst, dTst, dAndT, dOrT, dNotT, dYes, dAnd, dOr, dNot, dChain, dCall, dCB, dMt, dLset, dSrev, dTry, dIsx, dEmp, dStp, xsub, Ex.sub, dSlc, dPart, dNoPart, dIAny, dI1, dI2, dI3, dFor, dComp, compB, wipeD, startD, endsOf, at_mk, setAll, add_int, sub_int, mul_int, mul_tup, pow_int, mod_int, fdiv_int, lt_int, le_int, gt_int, ge_int, eq_int, neg_int, len_tup, len_scr, abs_int, max_int, min_int, int_int, int_bl, r1_int, r2_int, tuple_tup, list_tup, over_tup, rev_tup, enum_tup, zip_tup, slc_tup, add_tup, isi_any, ix_tup, ix_scr, ix_num0, ix_num1, len_num, num_0, num_1, atI_0, atI_1, atI_2, List.map, List.cons_append, List.nil_append, List.getElem?_cons_zero, List.getElem?_cons_succ, List.getElem?_nil, List.set_cons_zero, List.set_cons_succ, List.replicate, List.length_cons, List.length_nil, List.foldr_cons, List.foldr_nil, Nat.reduceAdd, Nat.reduceSub, List.replicate_succ, List.replicate_zero, G_up_same, decide_eq_true_eq, Bool.not_eq_true', Bool.false_eq_true, if_true, if_false, ite_true, ite_false, and_true, true_and, reduceCtorEq, Bool.not_true, Bool.not_false, Bool.false_bne, Bool.true_bne, sl0, sl1, sl2, sl3, sl4]
    refine ⟨a, b, ks, ys, wn, S, h0, h1, c, bk, rfl, ha, hb, hl, hne, hP.2.2, h12, zk, zy, hbk0, hbk, hbc, hbs, by omega, hwS, hS, hm, hf, hstop, ?_, fun r v P hrw hhr hhv => ?_⟩
    · refine List.all_eq_true.mpr fun k hk => List.all_eq_true.mpr fun d hd => ?_
      have hk := List.mem_range.mp hk
      have hd := List.mem_range.mp hd
      simp only [Bool.or_eq_true, Bool.and_eq_true, beq_iff_eq, decide_eq_true_eq]
      rcases Nat.eq_zero_or_pos d with z | z
      · exact .inl (.inl z)
      · rcases Nat.lt_or_ge (ks.length - S) (k + d) with y | y
        · exact .inl (.inr y)
        · have := pairOk_at hpo z (by omega : k + d ≤ T)
          exact .inr ⟨⟨this.1, this.2.1⟩, this.2.2⟩
    have m1 : plB h0 h1 (ks.length - S + 1) ≤ plB h0 h1 (T + 1) := by
      have := plB_mono (a := h0) (b := h1) (k := ks.length - S) (d := T - (ks.length - S))
      rw [show ks.length - S + 1 + (T - (ks.length - S)) = T + 1 by omega] at this
      exact this
    have hhr := hhr.mono m1
    have hhv := hhv.mono (vlB_mono (a := h0) (b := h1) (show ks.length - S + 1 ≤ T + 1 by omega))
    obtain ⟨q1, q2, q3, q4⟩ := quoOk_at hqo
    generalize plB h0 h1 (T + 1) = HR at *
    generalize vlB h0 h1 (T + 1) = HV at *
    have hvl := P.lv
    have hv0 := List.length_pos_iff.mpr P.v0
    obtain ⟨q5, q6⟩ := q4 r.length v.length (by omega) (by omega) hv0
    try simp only [mnS, mn, Mn.of, Op.rd, Cm.rd, Bl.rd, Mt.rd, Mt.rc, dNop, dSeq, dExpr, dRet, dRetN, dIf, gD, dAsg, dPar, dPut, dRaise, dVar, dC, dBin, dUn, dNil, dCons, dTup, dLst, dTst, dAndT, dOrT, dNotT, dYes, dAnd, dOr, dNot, dChain, dCall, dCB, dMt, dLset, dSrev, dTry, dIsx, dEmp, dStp, xsub, Ex.sub, dSlc, dPart, dNoPart, dIAny, dI1, dI2, dI3, dFor, dComp, compB, wipeD, startD, endsOf, at_mk, setAll, add_int, sub_int, mul_int, mul_tup, pow_int, mod_int, fdiv_int, lt_int, le_int, gt_int, ge_int, eq_int, neg_int, len_tup, len_scr, abs_int, max_int, min_int, int_int, int_bl, r1_int, r2_int, tuple_tup, list_tup, over_tup, rev_tup, enum_tup, zip_tup, slc_tup, add_tup, isi_any, ix_tup, ix_scr, ix_num0, ix_num1, len_num, num_0, num_1, atI_0, atI_1, atI_2, List.map, List.cons_append, List.nil_append, List.getElem?_cons_zero, List.getElem?_cons_succ, List.getElem?_nil, List.set_cons_zero, List.set_cons_succ, List.replicate, List.length_cons, List.length_nil, List.foldr_cons, List.foldr_nil, Nat.reduceAdd, Nat.reduceSub, List.replicate_succ, List.replicate_zero, G_up_same, decide_eq_true_eq, Bool.not_eq_true', Bool.false_eq_true, if_true, if_false, ite_true, ite_false, and_true, true_and, reduceCtorEq, Bool.not_true, Bool.not_false, Bool.false_bne, Bool.true_bne, sl0, sl1, sl2, sl3, sl4]
    refine ⟨r, v, HR, HV, rfl, hhr, hhv, P.tr, P.tv, by omega, by omega, fun z => P.v0 z.2, q1, q2, q5, q6, fun d hg => ?_⟩
    obtain ⟨L0, M0, hL0, hdl, hde, _, _⟩ := part_of P hg
    have hL0l := hL0.length_le
    have hdh : Ht (quoHP bk) d := by
      have := lnOk_ht (b := bk) (ks := L0) (r := d) (fun q hq => zk q (hL0.subset hq)) (fun x => by rw [hde]; grind)
      refine this.mono ?_
      unfold quoHP
      exact Nat.add_le_add_right (Nat.mul_le_mul_right _ (by omega)) _
    have hd0 := hg.ne
    have hbA : divB r.length d.length HR (quoHP bk) ≤ quoHA HR bk := Nat.add_le_add_left (Nat.mul_le_mul_right _ (by omega)) _
    have hbU : divB v.length d.length HV (quoHP bk) ≤ quoHA HV bk := Nat.add_le_add_left (Nat.mul_le_mul_right _ (by omega)) _
    refine c_divH HR (quoHP bk) hhr hdh P.tr hg.t (by omega) (by omega) (by omega) hd0 fun A zA hdA htA _ => ?_
    obtain ⟨qa, hqa⟩ := hg.d1
    obtain ⟨_, eA⟩ := div_exact (trim_tight qa) hg.t hd0 P.tr hdA (fun x => by rw [hqa, ev_trim])
    have hA : ∀ x, ev r x = ev d x * ev A x := fun x => by rw [eA, ev_trim]; exact hqa x
    have tA : Tight A := hdA.tt
    have htA := htA.mono hbA
    have lA := hdA.lt
    try simp only [mnS, mn, Mn.of, Op.rd, Cm.rd, Bl.rd, Mt.rd, Mt.rc, dNop, dSeq, dExpr, dRet, dRetN, dIf, gD, dAsg, dPar, dPut, dRaise, dVar, dC, dBin, dUn, dNil, dCons, dTup, dLst, dTst, dAndT, dOrT, dNotT, dYes, dAnd, dOr, dNot, dChain, dCall, dCB, dMt, dLset, dSrev, dTry, dIsx, dEmp, dStp, xsub, Ex.sub, dSlc, dPart, dNoPart, dIAny, dI1, dI2, dI3, dFor, dComp, compB, wipeD, startD, endsOf, at_mk, setAll, add_int, sub_int, mul_int, mul_tup, pow_int, mod_int, fdiv_int, lt_int, le_int, gt_int, ge_int, eq_int, neg_int, len_tup, len_scr, abs_int, max_int, min_int, int_int, int_bl, r1_int, r2_int, tuple_tup, list_tup, over_tup, rev_tup, enum_tup, zip_tup, slc_tup, add_tup, isi_any, ix_tup, ix_scr, ix_num0, ix_num1, len_num, num_0, num_1, atI_0, atI_1, atI_2, List.map, List.cons_append, List.nil_append, List.getElem?_cons_zero, List.getElem?_cons_succ, List.getElem?_nil, List.set_cons_zero, List.set_cons_succ, List.replicate, List.length_cons, List.length_nil, List.foldr_cons, List.foldr_nil, Nat.reduceAdd, Nat.reduceSub, List.replicate_succ, List.replicate_zero, G_up_same, decide_eq_true_eq, Bool.not_eq_true', Bool.false_eq_true, if_true, if_false, ite_true, ite_false, and_true, true_and, reduceCtorEq, Bool.not_true, Bool.not_false, Bool.false_bne, Bool.true_bne, sl0, sl1, sl2, sl3, sl4]
    refine c_divH HV (quoHP bk) hhv hdh P.tv hg.t (by omega) (by omega) (by omega) hd0 fun U zU hdU htU _ => ?_
    obtain ⟨qu, hqu⟩ := hg.d2
    obtain ⟨_, eU⟩ := div_exact (trim_tight qu) hg.t hd0 P.tv hdU (fun x => by rw [hqu, ev_trim])
    have hU : ∀ x, ev v x = ev d x * ev U x := fun x => by rw [eU, ev_trim]; exact hqu x
    have tU : Tight U := hdU.tt
    have htU := htU.mono hbU
    have lU := hdU.lt
    obtain ⟨L, _, _, _, hU0, hquo⟩ := quo_of hP.2.2 P hrw hg tA tU hA hU
    obtain ⟨U0, l, rfl⟩ : ∃ U0 l, U = U0 ++ [l] := by
      rcases List.eq_nil_or_concat U with rfl | ⟨q, a, rfl⟩
      · exact absurd rfl hU0
      · exact ⟨q, a, List.concat_eq_append ..⟩
    have hl0 : l ≠ 0 := tU l (by simp)
    have hls : sz l ≤ quoHA HV bk := htU.szs l (by simp)
    have hl1 := sz_one_over l
    have e1 : atI (nums (U0 ++ [l])) (-1) = some (num l) := by
      rw [show nums (U0 ++ [l]) = nums U0 ++ [num l] by simp [nums]]; exact atI_last
    have s1 := sz_1
    simp only [mnS, mn, Mn.of, Op.rd, Cm.rd, Bl.rd, Mt.rd, Mt.rc, dNop, dSeq, dExpr, dRet, dRetN, dIf, gD, dAsg, dPar, dPut, dRaise, dVar, dC, dBin, dUn, dNil, dCons, dTup, dLst, dTst, dAndT, dOrT, dNotT, dYes, dAnd, dOr, dNot, dChain, dCall, dCB, dMt, dLset, dSrev, dTry, dIsx, dEmp, dStp, xsub, Ex.sub, dSlc, dPart, dNoPart, dIAny, dI1, dI2, dI3, dFor, dComp, compB, wipeD, startD, endsOf, at_mk, setAll, add_int, sub_int, mul_int, mul_tup, pow_int, mod_int, fdiv_int, lt_int, le_int, gt_int, ge_int, eq_int, neg_int, len_tup, len_scr, abs_int, max_int, min_int, int_int, int_bl, r1_int, r2_int, tuple_tup, list_tup, over_tup, rev_tup, enum_tup, zip_tup, slc_tup, add_tup, isi_any, ix_tup, ix_scr, ix_num0, ix_num1, len_num, num_0, num_1, atI_0, atI_1, atI_2, List.map, List.cons_append, List.nil_append, List.getElem?_cons_zero, List.getElem?_cons_succ, List.getElem?_nil, List.set_cons_zero, List.set_cons_succ, List.replicate, List.length_cons, List.length_nil, List.foldr_cons, List.foldr_nil, Nat.reduceAdd, Nat.reduceSub, List.replicate_succ, List.replicate_zero, G_up_same, decide_eq_true_eq, Bool.not_eq_true', Bool.false_eq_true, if_true, if_false, ite_true, ite_false, and_true, true_and, reduceCtorEq, Bool.not_true, Bool.not_false, Bool.false_bne, Bool.true_bne, sl0, sl1, sl2, sl3, sl4, e1, c_over]
    refine ⟨by omega, fun z => absurd z hl0, fun _ => ?_⟩
    refine c_scaledB (quoHA HR bk) (quoHA HV bk) htA.szs (by omega) (by omega) (by omega) fun ab tab lab _ eab => ?_
    try simp only [mnS, mn, Mn.of, Op.rd, Cm.rd, Bl.rd, Mt.rd, Mt.rc, dNop, dSeq, dExpr, dRet, dRetN, dIf, gD, dAsg, dPar, dPut, dRaise, dVar, dC, dBin, dUn, dNil, dCons, dTup, dLst, dTst, dAndT, dOrT, dNotT, dYes, dAnd, dOr, dNot, dChain, dCall, dCB, dMt, dLset, dSrev, dTry, dIsx, dEmp, dStp, xsub, Ex.sub, dSlc, dPart, dNoPart, dIAny, dI1, dI2, dI3, dFor, dComp, compB, wipeD, startD, endsOf, at_mk, setAll, add_int, sub_int, mul_int, mul_tup, pow_int, mod_int, fdiv_int, lt_int, le_int, gt_int, ge_int, eq_int, neg_int, len_tup, len_scr, abs_int, max_int, min_int, int_int, int_bl, r1_int, r2_int, tuple_tup, list_tup, over_tup, rev_tup, enum_tup, zip_tup, slc_tup, add_tup, isi_any, ix_tup, ix_scr, ix_num0, ix_num1, len_num, num_0, num_1, atI_0, atI_1, atI_2, List.map, List.cons_append, List.nil_append, List.getElem?_cons_zero, List.getElem?_cons_succ, List.getElem?_nil, List.set_cons_zero, List.set_cons_succ, List.replicate, List.length_cons, List.length_nil, List.foldr_cons, List.foldr_nil, Nat.reduceAdd, Nat.reduceSub, List.replicate_succ, List.replicate_zero, G_up_same, decide_eq_true_eq, Bool.not_eq_true', Bool.false_eq_true, if_true, if_false, ite_true, ite_false, and_true, true_and, reduceCtorEq, Bool.not_true, Bool.not_false, Bool.false_bne, Bool.true_bne, sl0, sl1, sl2, sl3, sl4]
    refine c_scaledB (quoHA HV bk) (quoHA HV bk) htU.szs (by omega) (by omega) (by omega) fun un tun lun _ eun => ?_
    have QR := hquo l ab un (by simp) tab tun eab eun
    have hcl : coef (U0 ++ [l]) U0.length = l := coef_at (by simp)
    have hab : Ht (quoHA HR bk + quoHA HV bk) ab := htA.scale (Nat.le_trans hl1 hls) eab
    have hun : Ht (quoHA HV bk) un := htU.monic (k := U0.length) (by rw [hcl]; exact hl0) (fun x => by rw [eun, hcl])
    have hl26 : ∀ t : List Rat, t.length ≤ 13 → (2 * t.length + 2) * (bk + 2) ≤ 28 * (bk + 2) := fun t ht => Nat.mul_le_mul_right _ (by omega)
    have e1' := hl26 ab (by omega)
    have e2' := hl26 un (by omega)
    have key := quo_loop (Γ := Γ) (gl := gl) (o2 := some (.int (wn : Int))) (o3 := some (.tup (nums d))) (o6 := some (num (1 / l))) (nx := (endsOf Q E).nx) (R := (endsOf Q E).rt) (ex := (endsOf Q E).ex) h15 h229 ha hb hl h12 zk hbk (fun x hx => evOk_ht hab (zk x hx) (by omega)) (fun x hx => evOk_ht hun (zk x hx) (by omega)) (fun p hp => by
      have h5 := hun.ev (zk p.1 (List.of_mem_zip hp).1)
      have h6 := zy p.2 (List.of_mem_zip hp).2
      have h7 : un.length * (bk + 1) ≤ 13 * (bk + 1) := Nat.mul_le_mul_right _ (by omega)
      omega) fun s g' hs l1 hs1 => ⟨_, G.le_refl _, h r v ab un L P QR hab hun s g' hs l1 hs1⟩
    simp only [h15, h229, mnS, mn, Mn.of, Op.rd, Cm.rd, Bl.rd, Mt.rd, Mt.rc, dNop, dSeq, dExpr, dRet, dRetN, dIf, gD, dAsg, dPar, dPut, dRaise, dVar, dC, dBin, dUn, dNil, dCons, dTup, dLst, dTst, dAndT, dOrT, dNotT, dYes, dAnd, dOr, dNot, dChain, dCall, dCB, dMt, dLset, dSrev, dTry, dIsx, dEmp, dStp, xsub, Ex.sub, dSlc, dPart, dNoPart, dIAny, dI1, dI2, dI3, dFor, dComp, compB, wipeD, startD, endsOf, at_mk, setAll, add_int, sub_int, mul_int, mul_tup, pow_int, mod_int, fdiv_int, lt_int, le_int, gt_int, ge_int, eq_int, neg_int, len_tup, len_scr, abs_int, max_int, min_int, int_int, int_bl, r1_int, r2_int, tuple_tup, list_tup, over_tup, rev_tup, enum_tup, zip_tup, slc_tup, add_tup, isi_any, ix_tup, ix_scr, ix_num0, ix_num1, len_num, num_0, num_1, atI_0, atI_1, atI_2, List.map, List.cons_append, List.nil_append, List.getElem?_cons_zero, List.getElem?_cons_succ, List.getElem?_nil, List.set_cons_zero, List.set_cons_succ, List.replicate, List.length_cons, List.length_nil, List.foldr_cons, List.foldr_nil, Nat.reduceAdd, Nat.reduceSub, List.replicate_succ, List.replicate_zero, G_up_same, decide_eq_true_eq, Bool.not_eq_true', Bool.false_eq_true, if_true, if_false, ite_true, ite_false, and_true, true_and, reduceCtorEq, Bool.not_true, Bool.not_false, Bool.false_bne, Bool.true_bne, sl0, sl1, sl2, sl3, sl4] at key
    exact key
  split
  · rename_i h1
    split
    · rename_i h2
      exact ⟨_, G.le_refl _, hX2 hP hl fun z => by simp at h2; omega⟩
    · rename_i h2
      exact main h1 (by simpa using h2)
  · rename_i h1
    exact ⟨_, G.le_refl _, hX2 hP hl fun z => h1 z.1⟩
def quoT (c T : Nat) : Bool := pairOk (H0B 11) (H1B 11 c) T && quoOk (plB (H0B 11) (H1B 11 c) (T + 1)) (vlB (H0B 11) (H1B 11 c) (T + 1)) 22 c 12 (T + 1) && decide (22 ≤ c) && decide (bsSz 13 c (3 * c + 2) ≤ 40000000)
theorem c_quo {a b : Addr} {ks ys : List Rat} {wn : Nat} (c S T : Nat) (ha : g a = some (nums ks)) (hb : g b = some (nums ys)) (hP : Places 1 ks) (hl : ks.length = ys.length) (w1 : 1 ≤ wn) (w2 : wn ≤ ks.length) (zk : Szs 22 ks) (zy : Szs c ys) (hT : quoT c T = true) (hwS : wn ≤ S) (hS : S ≤ ks.length) (hST : ks.length ≤ T + S) (hstop : ∀ r v, PairR ks ys S r v → r.length ≤ wn)
    (k : ∀ r v ab un L, PairR ks ys S r v → QuoR ks ys wn S r v ab un L → Ht (quoHA (plB (H0B 11) (H1B 11 c) (T + 1)) 22 + quoHA (vlB (H0B 11) (H1B 11 c) (T + 1)) 22) ab → Ht (quoHA (vlB (H0B 11) (H1B 11 c) (T + 1)) 22) un → ∀ s g', g s = none → g.le g' → g' s = some (nums (lefR ks ys ab un)) → Q (.tup [.tup (nums ab), .tup (nums un), .ref s]) g') : spQuo [.ref a, .ref b, .int (wn : Int)] g Q X := by
  unfold quoT at hT
  simp only [Bool.and_eq_true, decide_eq_true_eq] at hT
  obtain ⟨⟨⟨h1, h2⟩, h3⟩, h4⟩ := hT
  have h12 := hP.2.1
  refine ⟨a, b, ks, ys, wn, rfl, ha, hb, by omega, fun z => absurd ⟨hP, hl⟩ z, fun _ _ z => absurd ⟨by omega, by omega⟩ z, fun _ _ m hm _ _ => ?_⟩
  have : m = wn := by omega
  subst this
  refine ⟨S, H0B 11, H1B 11 c, c, 22, T, zk, zy, by decide, by decide, h3, ?_, hwS, hS, hST, lnL_H0 zk (by omega), fun f _ hf he => met_H1 zk zy hP.2.2 hl (by omega) hf he, hstop, h1, h2, k⟩
  refine Nat.le_trans ?_ h4
  unfold bsSz
  have e1 : 2 ^ (ks.length + 1) ≤ 2 ^ 13 := Nat.pow_le_pow_right (by decide) (by omega)
  have e2 := Nat.mul_le_mul_right (2 * c + 4 + (3 * c + 2)) e1
  omega
theorem lefQ_none {ks ys ab un : List Rat} (h : ∀ p ∈ ks.zip ys, hasB ab un p = true) : lefR ks ys ab un = [] := by
  unfold lefR lefQ
  rw [List.filter_eq_nil_iff.mpr (fun p hp => by rw [h p hp]; simp)]
  rfl
theorem tight1 {un : List Rat} (h : un.getLast? = some 1) (hl : un.length ≤ 1) : un = [1] := by
  match un, h, hl with
  | [a], h, _ => simp at h; rw [h]
  | [], h, _ => cases h
  | _ :: _ :: _, _, hl => simp at hl
end
end PP
namespace PP
open PySem PySem.Spec PyProof.Rows L2
def sx_law_k54_v3_1 : SX :=
  (.ret (.cmp .eq (.comp [14] (.n 14) (.over (.v 2)) (.cmp .ne (.call 27 (.cons (.v 10) (.cons (.v 14) .nil))) (.ix (.v 9) (.mt .index (.v 2) (.cons (.v 14) .nil)))) (.v 14)) (.lst .nil)) .nil)
def sx_law_k54_v3_2 : SX :=
  (.ite (.or (.cmp .ne (.v 11) (.tup (.cons (.tup (.cons (.int 1) (.cons (.int 1) .nil))) .nil))) (.or (.cmp .ne (.v 12) (.lst .nil)) (.cmp .ne (.blt .len (.cons (.v 10) .nil)) (.v 3))))
    (.ret (.bl false) .nil)
    .nil
  sx_law_k54_v3_1)
def sx_law_k54_v3_3 : SX :=
  (.asg (.n 7) (.call 4 (.cons (.v 1) (.cons (.v 3) .nil)))
  (.asg (.n 8) (.ix (.lst (.cons (.tup (.cons (.int 1) (.cons (.int 1) .nil))) (.cons (.tup (.cons (.bin .sub (.int 0) (.int 2)) (.cons (.int 3) .nil))) .nil))) (.call 4 (.cons (.v 1) (.cons (.int 2) .nil))))
  (.asg (.n 9) (.bin .mul (.lst (.cons (.tup (.cons (.int 0) (.cons (.int 1) .nil))) .nil)) (.v 3))
  (.put (.v 9) (.v 7) (.v 8)
  (.asg (.t [10, 11, 12]) (.call 397 (.cons (.v 2) (.cons (.v 9) (.cons (.v 4) .nil))))
  (.ite (.cmp .lt (.v 4) (.v 3))
    (.ret (.cmp .eq (.tup (.cons (.v 10) (.cons (.v 11) (.cons (.v 12) .nil)))) (.tup (.cons (.tup .nil) (.cons (.tup (.cons (.tup (.cons (.int 1) (.cons (.int 1) .nil))) .nil)) (.cons (.lst (.cons (.ix (.v 2) (.v 7)) .nil)) .nil))))) .nil)
    .nil
  sx_law_k54_v3_2))))))
def sx_law_k54_v3_4 : SX :=
  (.ite (.cmp .ne (.call 397 (.cons (.v 2) (.cons (.bin .mul (.lst (.cons (.v 5) .nil)) (.v 3)) (.cons (.v 4) .nil)))) (.v 6))
    (.ret (.bl false) .nil)
    .nil
  sx_law_k54_v3_3)
def sx_law_k54_v3_5 : SX :=
  (.asg (.n 3) (.blt .len (.cons (.v 2) .nil))
  (.asg (.n 4) (.bin .add (.int 1) (.call 4 (.cons (.v 1) (.cons (.v 3) .nil))))
  (.asg (.n 5) (.ix (.lst (.cons (.call 36 (.cons (.v 1) .nil)) (.cons (.tup (.cons (.int 0) (.cons (.int 1) .nil))) .nil))) (.call 4 (.cons (.v 1) (.cons (.int 2) .nil))))
  (.asg (.n 6) (.tup (.cons (.tup (.cons (.v 5) .nil)) (.cons (.tup (.cons (.tup (.cons (.int 1) (.cons (.int 1) .nil))) .nil)) (.cons (.lst .nil) .nil))))
  (.ite (.cmp .eq (.v 5) (.tup (.cons (.int 0) (.cons (.int 1) .nil))))
    (.asg (.n 6) (.tup (.cons (.tup .nil) (.cons (.tup (.cons (.tup (.cons (.int 1) (.cons (.int 1) .nil))) .nil)) (.cons (.lst .nil) .nil)))) .nil)
    .nil
  sx_law_k54_v3_4)))))
def sx_law_k54_v3 : SX :=
  (.asg (.n 1) (.call 3 (.cons (.v 0) (.cons (.int 0) .nil)))
  (.asg (.n 2) (.call 54 (.cons (.v 1) (.cons (.bin .add (.int 1) (.call 4 (.cons (.v 1) (.cons (.int 7) .nil)))) .nil)))
  (.ite (.cmp .eq (.call 4 (.cons (.v 1) (.cons (.int 3) .nil))) (.int 0))
    (.asg (.n 2) (.comp [13] (.n 13) (.range1 (.bin .add (.int 8) (.call 4 (.cons (.v 1) (.cons (.int 5) .nil))))) .yes (.tup (.cons (.bin .sub (.bin .add (.call 4 (.cons (.v 1) (.cons (.int 3) .nil))) (.bin .mul (.int 3) (.v 13))) (.int 18)) (.cons (.int 1) .nil)))) .nil)
    .nil
  sx_law_k54_v3_5)))
abbrev ns_law_k54_v3 : List Str := ["_law_script", "_law_pen_here", "_law_places_here", "_law_many", "_law_width", "_law_height", "_law_due", "_law_spot", "_law_by", "_law_heights", "_law_above", "_law_under", "_law_left", "_law_k", "_law_x"]
theorem const_curve {ks c : List Rat} {q : Rat} (hn : ks.Nodup) (hne : ks ≠ []) (tc : Tight c) (lc : c.length ≤ ks.length) (h : ∀ x ∈ ks, ev c x = q) : c = trim [q] := by
  have hpos := List.length_pos_iff.mpr hne
  refine tight_congr tc (trim_tight _) fun x => ?_
  rw [ev_trim]
  exact meet_eq (d := [q]) hn lc (show 1 ≤ ks.length from hpos) (fun y hy => by rw [h y hy, ev_cons, ev_nil]; grind) x
theorem rep_mem {ks : List Rat} {q x : Rat} (hx : x ∈ ks) : (x, q) ∈ ks.zip (List.replicate ks.length q) := by
  obtain ⟨i, hi⟩ := List.mem_iff_getElem?.mp hx
  have := lt_of_at hi
  exact List.mem_of_getElem? (i := i) (List.getElem?_zip_eq_some.mpr ⟨hi, by rw [List.getElem?_replicate, if_pos this]⟩)
theorem stop_const {ks r v : List Rat} {q : Rat} {w : Nat} (hn : ks.Nodup) (hne : ks ≠ []) (hw : 1 ≤ w) (P : PairR ks (List.replicate ks.length q) ks.length r v) : r.length ≤ w := by
  have hv := P.lv
  have hv0 := List.length_pos_iff.mpr P.v0
  obtain ⟨a, rfl⟩ := List.length_eq_one_iff.mp (show v.length = 1 by omega)
  have := const_curve (q := a * q) hn hne P.tr P.lr fun x hx => by
    rw [P.on _ (rep_mem hx), ev_cons, ev_nil]; grind
  rw [this]
  have := trim_len [a * q]
  simp at this
  omega
theorem quo_one {ks ys r v ab un L : List Rat} {w : Nat} (QR : QuoR ks ys w ks.length r v ab un L) : un = [1] ∧ L = [] := by
  have h1 := QR.lu
  have h2 : un ≠ [] := fun z => by have := QR.mon; rw [z] at this; cases this
  have h3 := List.length_pos_iff.mpr h2
  refine ⟨tight1 QR.mon (by omega), List.eq_nil_of_length_eq_zero (by omega)⟩
theorem has_one {ks ys r v ab un L : List Rat} {w : Nat} (QR : QuoR ks ys w ks.length r v ab un L) : ∀ p ∈ ks.zip ys, hasB ab un p = true ∧ ev ab p.1 = p.2 := fun p hp => by
  obtain ⟨e1, e2⟩ := quo_one QR
  have h := QR.has p hp
  rw [e2] at h
  have h2 : ev un p.1 ≠ 0 ∧ ev ab p.1 = p.2 * ev un p.1 := Classical.byContradiction fun z => by have := h.mpr z; cases this
  refine ⟨decide_eq_true h2, ?_⟩
  rw [h2.2, e1, ev_cons, ev_nil]; grind
theorem quo_const {ks r v ab un L : List Rat} {q : Rat} {w : Nat} (hn : ks.Nodup) (hne : ks ≠ []) (hw : w ≤ ks.length) (QR : QuoR ks (List.replicate ks.length q) w ks.length r v ab un L) : ab = trim [q] ∧ un = [1] ∧ lefR ks (List.replicate ks.length q) ab un = [] := by
  obtain ⟨e1, e2⟩ := quo_one QR
  have hh := has_one QR
  have hla := QR.la
  refine ⟨const_curve hn hne QR.tab ?_ fun x hx => (hh _ (rep_mem hx)).2, e1, lefQ_none fun p hp => (hh p hp).1⟩
  rcases hla with z | z
  · rw [z]; exact Nat.zero_le _
  · omega
theorem set_at {N j i : Nat} {b : Rat} (hj : j < N) (hi : i < N) : ((List.replicate N (0 : Rat)).set j b)[i]? = some (if i = j then b else 0) := by
  by_cases e : j = i
  · subst e
    rw [List.getElem?_set_self (by simpa using hj), if_pos rfl]
  · rw [List.getElem?_set_ne e, List.getElem?_replicate, if_pos hi, if_neg (Ne.symm e)]
theorem spot_zero {ks r v : List Rat} {j S : Nat} {b : Rat} (hn : ks.Nodup) (hj : j < ks.length) (P : PairR ks ((List.replicate ks.length 0).set j b) S r v) (hS : S + 1 ≤ ks.length) : r = [] := by
  refine tight_congr P.tr tight_nil fun x => ?_
  rw [ev_nil]
  refine roots (ks.eraseIdx j) r (hn.sublist (List.eraseIdx_sublist ..)) (fun y hy => ?_) ?_ x
  · obtain ⟨i, hi⟩ := List.mem_iff_getElem?.mp hy
    rw [List.getElem?_eraseIdx] at hi
    have key : ∀ i, i ≠ j → ks[i]? = some y → ev r y = 0 := fun i hij hi => by
      have hil := lt_of_at hi
      have := P.on (y, 0) (List.mem_of_getElem? (i := i) (List.getElem?_zip_eq_some.mpr ⟨hi, by rw [set_at hj hil, if_neg hij]⟩))
      rw [this]; grind
    split at hi
    · exact key i (by omega) hi
    · exact key (i + 1) (by omega) hi
  · rw [List.length_eraseIdx]
    split
    · have := P.lr; omega
    · omega
theorem range_one : ∀ {N j : Nat}, j < N → (List.range N).filter (fun i => decide (i = j)) = [j]
  | 0, _, h => by omega
  | N + 1, j, h => by
    rw [List.range_succ, List.filter_append]
    by_cases e : j = N
    · subst e
      have : (List.range j).filter (fun i => decide (i = j)) = [] := List.filter_eq_nil_iff.mpr fun i hi => by
        have := List.mem_range.mp hi
        simp; omega
      rw [this]; simp
    · rw [range_one (by omega)]
      have : ¬ N = j := Ne.symm e
      simp [this]
theorem zip_coef54 {ks ys : List Rat} (hl : ks.length = ys.length) : ks.zip ys = (List.range ks.length).map fun i => (coef ks i, coef ys i) := by
  refine List.ext_getElem? fun i => ?_
  rw [List.getElem?_map]
  by_cases hi : i < ks.length
  · rw [List.getElem?_range hi]
    exact (List.getElem?_zip_eq_some (l₁ := ks) (l₂ := ys) (z := (coef ks i, coef ys i))).mpr ⟨coef_lt hi, coef_lt (by omega)⟩
  · rw [List.getElem?_eq_none (by rw [List.length_zip]; omega), List.getElem?_eq_none (by simp; omega)]; rfl
theorem lef_spot {ks : List Rat} {j : Nat} {b x : Rat} (hj : ks[j]? = some x) (hb : b ≠ 0) : lefR ks ((List.replicate ks.length 0).set j b) [] [1] = [x] := by
  have hjl := lt_of_at hj
  have e : lefQ ks ((List.replicate ks.length 0).set j b) [] [1] = [x] := by
    unfold lefQ
    rw [zip_coef54 (by simp), List.filter_map, List.map_map]
    have e2 : (List.range ks.length).filter ((fun p => !hasB [] [1] p) ∘ fun i => (coef ks i, coef ((List.replicate ks.length 0).set j b) i)) = (List.range ks.length).filter fun i => decide (i = j) := by
      refine List.filter_congr fun i hi => ?_
      have hi := List.mem_range.mp hi
      have e3 : coef ((List.replicate ks.length 0).set j b) i = if i = j then b else 0 := coef_at (set_at hjl hi)
      show (!hasB [] [1] (coef ks i, coef ((List.replicate ks.length 0).set j b) i)) = _
      rw [e3]
      unfold hasB
      by_cases h : i = j
      · rw [if_pos h, decide_eq_true h, decide_eq_false]
        · rfl
        · rintro ⟨_, z⟩
          rw [ev_nil, ev_cons, ev_nil] at z
          exact hb (by grind)
      · rw [if_neg h, decide_eq_false h, decide_eq_true]
        · rfl
        · refine ⟨?_, ?_⟩
          · rw [ev_cons, ev_nil]; grind
          · rw [ev_nil]; grind
    rw [e2, range_one hjl]
    show [coef ks j] = [x]
    rw [coef_at hj]
  unfold lefR
  rw [e]
  rfl
section
variable {Γ : Nat → SpD} {gl : Nat → D} {ds : List D} {g : G} {Q : QD} {X : XD}
theorem py_qt {A U f : List Rat} {p : Addr} (h : g p = some (nums f)) : py g (.tup [.tup (nums A), .tup (nums U), .ref p]) = some (.tuple [.tuple (npys A), .tuple (npys U), .list (npys f)]) := by
  have e : pyN 4 g p = some (.list (npys f)) := pyN_list h
  unfold py
  simp only [pyW, pyWL, pyWL_nums, e]
theorem nice_qt {A U f : List Rat} : Nice 3 (.tuple [.tuple (npys A), .tuple (npys U), .list (npys f)]) := nice_tup (k := 2) fun x hx => by
  simp only [List.mem_cons, List.not_mem_nil, or_false] at hx
  rcases hx with rfl | rfl | rfl
  · exact nice_tup (nice_nums A)
  · exact nice_tup (nice_nums U)
  · exact nice_list (nice_nums f)
theorem eq_qt {n : Bool} {A U f A' U' f' : List Rat} {p q : Addr} (hp : g p = some (nums f)) (hq : g q = some (nums f')) (h : A = A' ∧ U = U' ∧ f = f') (k : Q (.bl (!n)) g) : dEqB n (.tup [.tup (nums A), .tup (nums U), .ref p]) (.tup [.tup (nums A'), .tup (nums U'), .ref q]) g Q := by
  obtain ⟨rfl, rfl, rfl⟩ := h
  exact eq_rule (py_qt hp) (py_qt hq) nice_qt nice_qt (by decide) (fun _ => k) fun z => absurd rfl z
theorem quo0 : quoT 700 0 = true := by decide +kernel
theorem quo1 : quoT 700 1 = true := by decide +kernel
structure R54 (ks : List Rat) (w : Nat) : Prop where
  nd : ks.Nodup
  ne : ks ≠ []
  zk : Szs 22 ks
  k12 : ks.length ≤ 12
  w1 : 1 ≤ w
  wk : w ≤ ks.length
theorem R54.pl {ks : List Rat} {w : Nat} (R : R54 ks w) : Places 1 ks := ⟨by have := List.length_pos_iff.mpr R.ne; omega, R.k12, R.nd⟩
theorem full_len {ks r v ab un L : List Rat} {j : Nat} {b x : Rat} {w : Nat} (hn : ks.Nodup) (hj : ks[j]? = some x) (hb : b ≠ 0) (hw : w ≤ ks.length) (QR : QuoR ks ((List.replicate ks.length 0).set j b) w ks.length r v ab un L) : ab.length = ks.length := by
  have hjl := lt_of_at hj
  have hh := has_one QR
  have hle : ab.length ≤ ks.length := by
    rcases QR.la with z | z
    · rw [z]; exact Nat.zero_le _
    · omega
  rcases Nat.lt_or_ge ab.length ks.length with h | h
  · have h0 : ∀ y, ev ab y = 0 := roots (ks.eraseIdx j) ab (hn.sublist (List.eraseIdx_sublist ..)) (fun y hy => by
      obtain ⟨i, hi⟩ := List.mem_iff_getElem?.mp hy
      rw [List.getElem?_eraseIdx] at hi
      have key : ∀ i, i ≠ j → ks[i]? = some y → ev ab y = 0 := fun i hij hi => by
        have hil := lt_of_at hi
        exact (hh (y, 0) (List.mem_of_getElem? (i := i) (List.getElem?_zip_eq_some.mpr ⟨hi, by rw [set_at hjl hil, if_neg hij]⟩))).2
      split at hi
      · exact key i (by omega) hi
      · exact key (i + 1) (by omega) hi) (by
      rw [List.length_eraseIdx, if_pos hjl]; omega)
    have h1 := (hh (x, b) (List.mem_of_getElem? (i := j) (List.getElem?_zip_eq_some.mpr ⟨hj, by rw [set_at hjl hjl, if_pos rfl]⟩))).2
    rw [h0] at h1
    exact absurd h1.symm hb
  · omega
theorem evOk_Q {T : Nat} {ab : List Rat} {x : Rat} (hq : quoT 700 T = true) (h : Ht (quoHA (plB (H0B 11) (H1B 11 700) (T + 1)) 22 + quoHA (vlB (H0B 11) (H1B 11 700) (T + 1)) 22) ab) (hx : sz x ≤ 22) (hl : ab.length ≤ 13) : EvOk ab x := by
  unfold quoT at hq
  simp only [Bool.and_eq_true] at hq
  obtain ⟨_, _, h3, _⟩ := quoOk_at hq.1.1.2
  refine evOk_ht h hx ?_
  have : (2 * ab.length + 2) * (22 + 2) ≤ 28 * 24 := Nat.mul_le_mul (by omega) (by omega)
  omega
theorem k54_3 (h4 : Γ 4 = spDraw) (h27 : Γ 27 = spEv) (h397 : Γ 397 = spQuo) {E : DEnds} {o : G} {a : Addr} {xs : List D} {n0 : Nat} {ks : List Rat} {w : Nat} {p : Addr} {o0 o5 o6 : Option D} (R : R54 ks w) (K : KN o a g [(a, xs), (p, nums ks)]) (hp : PenL xs n0) (hn0 : n0 + 10 < 2 ^ 50) (hN : ∀ g', E.rt (.bl true) g') :
    mnS Γ gl sx_law_k54_v3_3 E [o0, some (.ref a), some (.ref p), some (.int (ks.length : Int)), some (.int (w : Int)), o5, o6, none, none, none, none, none, none, none, none] g := by
  have hpos := List.length_pos_iff.mpr R.ne
  have hk12 := R.k12
  have hwk := R.wk
  have h13 : num ((-2 : Rat) / 3) = .tup [.int (0 - 2), .int 3] := by
    have e1 : ((-2 : Rat) / 3).num = -2 := by decide +kernel
    have e2 : ((-2 : Rat) / 3).den = 3 := by decide +kernel
    unfold num
    rw [e1, e2] <;> rfl
  have s13 : sz ((-2 : Rat) / 3) ≤ 700 := by decide +kernel
  have n13 : ((-2 : Rat) / 3) ≠ 0 := by decide +kernel
  simp only [sx_law_k54_v3_3, h4, h397, mnS, mn, Mn.of, Op.rd, Cm.rd, Bl.rd, Mt.rd, Mt.rc, dNop, dSeq, dExpr, dRet, dRetN, dIf, gD, dAsg, dPar, dPut, dRaise, dVar, dC, dBin, dUn, dNil, dCons, dTup, dLst, dTst, dAndT, dOrT, dNotT, dYes, dAnd, dOr, dNot, dChain, dCall, dCB, dMt, dLset, dSrev, dTry, dIsx, dEmp, dStp, xsub, Ex.sub, dSlc, dPart, dNoPart, dIAny, dI1, dI2, dI3, dFor, dComp, compB, wipeD, startD, endsOf, at_mk, setAll, add_int, sub_int, mul_int, mul_tup, pow_int, mod_int, fdiv_int, lt_int, le_int, gt_int, ge_int, eq_int, neg_int, len_tup, len_scr, abs_int, max_int, min_int, int_int, int_bl, r1_int, r2_int, tuple_tup, list_tup, over_tup, rev_tup, enum_tup, zip_tup, slc_tup, add_tup, isi_any, ix_tup, ix_scr, ix_num0, ix_num1, len_num, num_0, num_1, atI_0, atI_1, atI_2, List.map, List.cons_append, List.nil_append, List.getElem?_cons_zero, List.getElem?_cons_succ, List.getElem?_nil, List.set_cons_zero, List.set_cons_succ, List.replicate, List.length_cons, List.length_nil, List.foldr_cons, List.foldr_nil, Nat.reduceAdd, Nat.reduceSub, List.replicate_succ, List.replicate_zero, G_up_same, decide_eq_true_eq, Bool.not_eq_true', Bool.false_eq_true, if_true, if_false, ite_true, ite_false, and_true, true_and, reduceCtorEq, Bool.not_true, Bool.not_false, Bool.false_bne, Bool.true_bne, sl0, sl1, sl2, sl3, sl4]
  refine K_draw K (by omega) hp (by omega) fun j xs1 g1 hj p1 K => ?_
  try simp only [mnS, mn, Mn.of, Op.rd, Cm.rd, Bl.rd, Mt.rd, Mt.rc, dNop, dSeq, dExpr, dRet, dRetN, dIf, gD, dAsg, dPar, dPut, dRaise, dVar, dC, dBin, dUn, dNil, dCons, dTup, dLst, dTst, dAndT, dOrT, dNotT, dYes, dAnd, dOr, dNot, dChain, dCall, dCB, dMt, dLset, dSrev, dTry, dIsx, dEmp, dStp, xsub, Ex.sub, dSlc, dPart, dNoPart, dIAny, dI1, dI2, dI3, dFor, dComp, compB, wipeD, startD, endsOf, at_mk, setAll, add_int, sub_int, mul_int, mul_tup, pow_int, mod_int, fdiv_int, lt_int, le_int, gt_int, ge_int, eq_int, neg_int, len_tup, len_scr, abs_int, max_int, min_int, int_int, int_bl, r1_int, r2_int, tuple_tup, list_tup, over_tup, rev_tup, enum_tup, zip_tup, slc_tup, add_tup, isi_any, ix_tup, ix_scr, ix_num0, ix_num1, len_num, num_0, num_1, atI_0, atI_1, atI_2, List.map, List.cons_append, List.nil_append, List.getElem?_cons_zero, List.getElem?_cons_succ, List.getElem?_nil, List.set_cons_zero, List.set_cons_succ, List.replicate, List.length_cons, List.length_nil, List.foldr_cons, List.foldr_nil, Nat.reduceAdd, Nat.reduceSub, List.replicate_succ, List.replicate_zero, G_up_same, decide_eq_true_eq, Bool.not_eq_true', Bool.false_eq_true, if_true, if_false, ite_true, ite_false, and_true, true_and, reduceCtorEq, Bool.not_true, Bool.not_false, Bool.false_bne, Bool.true_bne, sl0, sl1, sl2, sl3, sl4]
  rw [← h13]
  intro u hu
  have K := K_new (ys := [num 1, num ((-2 : Rat) / 3)]) K hu
  refine K_draw K (by decide) p1 (by omega) fun d xs2 g2 hd p2 K => ?_
  refine ix_some (K.get 2 _ _ rfl) (by omega) (by simp; omega) fun y hy => ?_
  obtain ⟨b, rfl, hb0, hbs⟩ : ∃ b : Rat, y = num b ∧ b ≠ 0 ∧ sz b ≤ 700 := by
    simp only [List.mem_cons, List.not_mem_nil, or_false] at hy
    rcases hy with rfl | rfl
    · exact ⟨1, rfl, by decide, by decide⟩
    · exact ⟨_, rfl, n13, s13⟩
  try simp only [mnS, mn, Mn.of, Op.rd, Cm.rd, Bl.rd, Mt.rd, Mt.rc, dNop, dSeq, dExpr, dRet, dRetN, dIf, gD, dAsg, dPar, dPut, dRaise, dVar, dC, dBin, dUn, dNil, dCons, dTup, dLst, dTst, dAndT, dOrT, dNotT, dYes, dAnd, dOr, dNot, dChain, dCall, dCB, dMt, dLset, dSrev, dTry, dIsx, dEmp, dStp, xsub, Ex.sub, dSlc, dPart, dNoPart, dIAny, dI1, dI2, dI3, dFor, dComp, compB, wipeD, startD, endsOf, at_mk, setAll, add_int, sub_int, mul_int, mul_tup, pow_int, mod_int, fdiv_int, lt_int, le_int, gt_int, ge_int, eq_int, neg_int, len_tup, len_scr, abs_int, max_int, min_int, int_int, int_bl, r1_int, r2_int, tuple_tup, list_tup, over_tup, rev_tup, enum_tup, zip_tup, slc_tup, add_tup, isi_any, ix_tup, ix_scr, ix_num0, ix_num1, len_num, num_0, num_1, atI_0, atI_1, atI_2, List.map, List.cons_append, List.nil_append, List.getElem?_cons_zero, List.getElem?_cons_succ, List.getElem?_nil, List.set_cons_zero, List.set_cons_succ, List.replicate, List.length_cons, List.length_nil, List.foldr_cons, List.foldr_nil, Nat.reduceAdd, Nat.reduceSub, List.replicate_succ, List.replicate_zero, G_up_same, decide_eq_true_eq, Bool.not_eq_true', Bool.false_eq_true, if_true, if_false, ite_true, ite_false, and_true, true_and, reduceCtorEq, Bool.not_true, Bool.not_false, Bool.false_bne, Bool.true_bne, sl0, sl1, sl2, sl3, sl4]
  intro f hf
  have K := K_new (ys := [num 0]) K hf
  rw [mul_ref (K.get 3 _ _ rfl), repD_num, Int.toNat_natCast]
  refine ⟨by omega, by omega, slN (by simp; omega), fun q hq => ?_⟩
  have K := K_new (ys := nums (List.replicate ks.length 0)) K hq
  have hjl : j < ks.length := by omega
  rw [set_ref (K.get 4 _ _ rfl), nums_len, List.length_replicate, ixN_at rfl hjl]
  simp only []
  rw [nums_set]
  have K := K.put (ys := nums ((List.replicate ks.length (0 : Rat)).set j b)) 4 rfl
  have K : KN o a _ [(a, xs2), (p, nums ks), (u, [num 1, num ((-2 : Rat) / 3)]), (f, [num 0]), (q, nums ((List.replicate ks.length (0 : Rat)).set j b))] := K
  obtain ⟨x, hx⟩ : ∃ x, ks[j]? = some x := ⟨_, List.getElem?_eq_getElem hjl⟩
  have hyl : ((List.replicate ks.length (0 : Rat)).set j b).length = ks.length := by simp
  have zy : Szs 700 ((List.replicate ks.length (0 : Rat)).set j b) := Szs.set (fun q hq => by rw [List.eq_of_mem_replicate hq, sz_0]; decide) hbs
  by_cases hwN : w < ks.length
  · refine c_quo 700 (ks.length - 1) 1 (K.get 1 _ _ rfl) (K.get 4 _ _ rfl) R.pl hyl.symm R.w1 R.wk R.zk zy quo1 (by omega) (by omega) (by omega) (fun r v P => by rw [spot_zero R.nd hjl P (by omega)]; exact Nat.zero_le _) fun r v ab un L P QR hab hun s g3 hs l3 hs3 => ?_
    have hr := spot_zero R.nd hjl P (by omega)
    have hab0 : ab = [] := by
      obtain ⟨l, hl0, hr1, _⟩ := QR.rel
      refine tight_congr QR.tab tight_nil fun y => ?_
      rw [ev_nil]
      refine roots_far (L := L) (fun z hz => ?_) y
      have h1 := hr1 z
      rw [hr, ev_nil] at h1
      have h2 : lpr L z ≠ 0 := fun w => hz (lpr_zero.mp w)
      rcases Rat.mul_eq_zero.mp h1.symm with h3 | h3
      · rcases Rat.mul_eq_zero.mp h3 with h3 | h3
        · exact absurd h3 hl0
        · exact absurd h3 h2
      · exact h3
    subst hab0
    have hun1 : un = [1] := by
      have h1 := (QR.cop.c un).mpr ⟨dv_nil, dv_refl⟩
      have h2 := (dv_len QR.tun QR.cop.t h1 (by simp)).2
      exact tight1 QR.mon h2
    subst hun1
    rw [lef_spot hx hb0] at hs3
    try simp only [mnS, mn, Mn.of, Op.rd, Cm.rd, Bl.rd, Mt.rd, Mt.rc, dNop, dSeq, dExpr, dRet, dRetN, dIf, gD, dAsg, dPar, dPut, dRaise, dVar, dC, dBin, dUn, dNil, dCons, dTup, dLst, dTst, dAndT, dOrT, dNotT, dYes, dAnd, dOr, dNot, dChain, dCall, dCB, dMt, dLset, dSrev, dTry, dIsx, dEmp, dStp, xsub, Ex.sub, dSlc, dPart, dNoPart, dIAny, dI1, dI2, dI3, dFor, dComp, compB, wipeD, startD, endsOf, at_mk, setAll, add_int, sub_int, mul_int, mul_tup, pow_int, mod_int, fdiv_int, lt_int, le_int, gt_int, ge_int, eq_int, neg_int, len_tup, len_scr, abs_int, max_int, min_int, int_int, int_bl, r1_int, r2_int, tuple_tup, list_tup, over_tup, rev_tup, enum_tup, zip_tup, slc_tup, add_tup, isi_any, ix_tup, ix_scr, ix_num0, ix_num1, len_num, num_0, num_1, atI_0, atI_1, atI_2, List.map, List.cons_append, List.nil_append, List.getElem?_cons_zero, List.getElem?_cons_succ, List.getElem?_nil, List.set_cons_zero, List.set_cons_succ, List.replicate, List.length_cons, List.length_nil, List.foldr_cons, List.foldr_nil, Nat.reduceAdd, Nat.reduceSub, List.replicate_succ, List.replicate_zero, G_up_same, decide_eq_true_eq, Bool.not_eq_true', Bool.false_eq_true, if_true, if_false, ite_true, ite_false, and_true, true_and, reduceCtorEq, Bool.not_true, Bool.not_false, Bool.false_bne, Bool.true_bne, sl0, sl1, sl2, sl3, sl4]
    rw [if_pos (by omega)]
    rw [ix_ref (l3 _ _ (K.get 1 _ _ rfl)), atI_nums rfl hx]
    intro e he
    refine eq_qt (A' := []) (U' := [1]) (f' := [x]) (G_up_fresh he hs3) G_up_same ⟨rfl, rfl, rfl⟩ ?_
    exact hN _
  · have hwN : w = ks.length := by omega
    subst hwN
    refine c_quo 700 ks.length 0 (K.get 1 _ _ rfl) (K.get 4 _ _ rfl) R.pl hyl.symm R.w1 R.wk R.zk zy quo0 (by omega) (by omega) (by omega) (fun r v P => P.lr) fun r v ab un L P QR hab hun s g3 hs l3 hs3 => ?_
    obtain ⟨hun1, _⟩ := quo_one QR
    have hh := has_one QR
    have hlen := full_len R.nd hx hb0 (Nat.le_refl _) QR
    rw [lefQ_none fun p hp => (hh p hp).1] at hs3
    subst hun1
    have hp3 := l3 _ _ (K.get 1 _ _ rfl)
    have hq3 := l3 _ _ (K.get 4 _ _ rfl)
    try simp only [mnS, mn, Mn.of, Op.rd, Cm.rd, Bl.rd, Mt.rd, Mt.rc, dNop, dSeq, dExpr, dRet, dRetN, dIf, gD, dAsg, dPar, dPut, dRaise, dVar, dC, dBin, dUn, dNil, dCons, dTup, dLst, dTst, dAndT, dOrT, dNotT, dYes, dAnd, dOr, dNot, dChain, dCall, dCB, dMt, dLset, dSrev, dTry, dIsx, dEmp, dStp, xsub, Ex.sub, dSlc, dPart, dNoPart, dIAny, dI1, dI2, dI3, dFor, dComp, compB, wipeD, startD, endsOf, at_mk, setAll, add_int, sub_int, mul_int, mul_tup, pow_int, mod_int, fdiv_int, lt_int, le_int, gt_int, ge_int, eq_int, neg_int, len_tup, len_scr, abs_int, max_int, min_int, int_int, int_bl, r1_int, r2_int, tuple_tup, list_tup, over_tup, rev_tup, enum_tup, zip_tup, slc_tup, add_tup, isi_any, ix_tup, ix_scr, ix_num0, ix_num1, len_num, num_0, num_1, atI_0, atI_1, atI_2, List.map, List.cons_append, List.nil_append, List.getElem?_cons_zero, List.getElem?_cons_succ, List.getElem?_nil, List.set_cons_zero, List.set_cons_succ, List.replicate, List.length_cons, List.length_nil, List.foldr_cons, List.foldr_nil, Nat.reduceAdd, Nat.reduceSub, List.replicate_succ, List.replicate_zero, G_up_same, decide_eq_true_eq, Bool.not_eq_true', Bool.false_eq_true, if_true, if_false, ite_true, ite_false, and_true, true_and, reduceCtorEq, Bool.not_true, Bool.not_false, Bool.false_bne, Bool.true_bne, sl0, sl1, sl2, sl3, sl4]
    rw [if_neg (by omega)]
    simp only [sx_law_k54_v3_2, mnS, mn, Mn.of, Op.rd, Cm.rd, Bl.rd, Mt.rd, Mt.rc, dNop, dSeq, dExpr, dRet, dRetN, dIf, gD, dAsg, dPar, dPut, dRaise, dVar, dC, dBin, dUn, dNil, dCons, dTup, dLst, dTst, dAndT, dOrT, dNotT, dYes, dAnd, dOr, dNot, dChain, dCall, dCB, dMt, dLset, dSrev, dTry, dIsx, dEmp, dStp, xsub, Ex.sub, dSlc, dPart, dNoPart, dIAny, dI1, dI2, dI3, dFor, dComp, compB, wipeD, startD, endsOf, at_mk, setAll, add_int, sub_int, mul_int, mul_tup, pow_int, mod_int, fdiv_int, lt_int, le_int, gt_int, ge_int, eq_int, neg_int, len_tup, len_scr, abs_int, max_int, min_int, int_int, int_bl, r1_int, r2_int, tuple_tup, list_tup, over_tup, rev_tup, enum_tup, zip_tup, slc_tup, add_tup, isi_any, ix_tup, ix_scr, ix_num0, ix_num1, len_num, num_0, num_1, atI_0, atI_1, atI_2, List.map, List.cons_append, List.nil_append, List.getElem?_cons_zero, List.getElem?_cons_succ, List.getElem?_nil, List.set_cons_zero, List.set_cons_succ, List.replicate, List.length_cons, List.length_nil, List.foldr_cons, List.foldr_nil, Nat.reduceAdd, Nat.reduceSub, List.replicate_succ, List.replicate_zero, G_up_same, decide_eq_true_eq, Bool.not_eq_true', Bool.false_eq_true, if_true, if_false, ite_true, ite_false, and_true, true_and, reduceCtorEq, Bool.not_true, Bool.not_false, Bool.false_bne, Bool.true_bne, sl0, sl1, sl2, sl3, sl4]
    refine eq_tup (p := [1]) (q := [1]) (fun _ => ?_) fun z => absurd rfl z
    try simp only [mnS, mn, Mn.of, Op.rd, Cm.rd, Bl.rd, Mt.rd, Mt.rc, dNop, dSeq, dExpr, dRet, dRetN, dIf, gD, dAsg, dPar, dPut, dRaise, dVar, dC, dBin, dUn, dNil, dCons, dTup, dLst, dTst, dAndT, dOrT, dNotT, dYes, dAnd, dOr, dNot, dChain, dCall, dCB, dMt, dLset, dSrev, dTry, dIsx, dEmp, dStp, xsub, Ex.sub, dSlc, dPart, dNoPart, dIAny, dI1, dI2, dI3, dFor, dComp, compB, wipeD, startD, endsOf, at_mk, setAll, add_int, sub_int, mul_int, mul_tup, pow_int, mod_int, fdiv_int, lt_int, le_int, gt_int, ge_int, eq_int, neg_int, len_tup, len_scr, abs_int, max_int, min_int, int_int, int_bl, r1_int, r2_int, tuple_tup, list_tup, over_tup, rev_tup, enum_tup, zip_tup, slc_tup, add_tup, isi_any, ix_tup, ix_scr, ix_num0, ix_num1, len_num, num_0, num_1, atI_0, atI_1, atI_2, List.map, List.cons_append, List.nil_append, List.getElem?_cons_zero, List.getElem?_cons_succ, List.getElem?_nil, List.set_cons_zero, List.set_cons_succ, List.replicate, List.length_cons, List.length_nil, List.foldr_cons, List.foldr_nil, Nat.reduceAdd, Nat.reduceSub, List.replicate_succ, List.replicate_zero, G_up_same, decide_eq_true_eq, Bool.not_eq_true', Bool.false_eq_true, if_true, if_false, ite_true, ite_false, and_true, true_and, reduceCtorEq, Bool.not_true, Bool.not_false, Bool.false_bne, Bool.true_bne, sl0, sl1, sl2, sl3, sl4]
    intro e he
    refine eq_list (p := []) (q := []) (G_up_fresh he hs3) G_up_same (fun _ => ?_) fun z => absurd rfl z
    simp only [mnS, mn, Mn.of, Op.rd, Cm.rd, Bl.rd, Mt.rd, Mt.rc, dNop, dSeq, dExpr, dRet, dRetN, dIf, gD, dAsg, dPar, dPut, dRaise, dVar, dC, dBin, dUn, dNil, dCons, dTup, dLst, dTst, dAndT, dOrT, dNotT, dYes, dAnd, dOr, dNot, dChain, dCall, dCB, dMt, dLset, dSrev, dTry, dIsx, dEmp, dStp, xsub, Ex.sub, dSlc, dPart, dNoPart, dIAny, dI1, dI2, dI3, dFor, dComp, compB, wipeD, startD, endsOf, at_mk, setAll, add_int, sub_int, mul_int, mul_tup, pow_int, mod_int, fdiv_int, lt_int, le_int, gt_int, ge_int, eq_int, neg_int, len_tup, len_scr, abs_int, max_int, min_int, int_int, int_bl, r1_int, r2_int, tuple_tup, list_tup, over_tup, rev_tup, enum_tup, zip_tup, slc_tup, add_tup, isi_any, ix_tup, ix_scr, ix_num0, ix_num1, len_num, num_0, num_1, atI_0, atI_1, atI_2, List.map, List.cons_append, List.nil_append, List.getElem?_cons_zero, List.getElem?_cons_succ, List.getElem?_nil, List.set_cons_zero, List.set_cons_succ, List.replicate, List.length_cons, List.length_nil, List.foldr_cons, List.foldr_nil, Nat.reduceAdd, Nat.reduceSub, List.replicate_succ, List.replicate_zero, G_up_same, decide_eq_true_eq, Bool.not_eq_true', Bool.false_eq_true, if_true, if_false, ite_true, ite_false, and_true, true_and, reduceCtorEq, Bool.not_true, Bool.not_false, Bool.false_bne, Bool.true_bne, sl0, sl1, sl2, sl3, sl4, nums_len, hlen]
    rw [if_neg (by decide)]
    have hp4 := G_up_fresh (ys := []) he hp3
    have hq4 := G_up_fresh (ys := []) he hq3
    generalize g3.up e [] = g4 at hp4 hq4
    simp only [sx_law_k54_v3_1, h27, mnS, mn, Mn.of, Op.rd, Cm.rd, Bl.rd, Mt.rd, Mt.rc, dNop, dSeq, dExpr, dRet, dRetN, dIf, gD, dAsg, dPar, dPut, dRaise, dVar, dC, dBin, dUn, dNil, dCons, dTup, dLst, dTst, dAndT, dOrT, dNotT, dYes, dAnd, dOr, dNot, dChain, dCall, dCB, dMt, dLset, dSrev, dTry, dIsx, dEmp, dStp, xsub, Ex.sub, dSlc, dPart, dNoPart, dIAny, dI1, dI2, dI3, dFor, dComp, compB, wipeD, startD, endsOf, at_mk, setAll, add_int, sub_int, mul_int, mul_tup, pow_int, mod_int, fdiv_int, lt_int, le_int, gt_int, ge_int, eq_int, neg_int, len_tup, len_scr, abs_int, max_int, min_int, int_int, int_bl, r1_int, r2_int, tuple_tup, list_tup, over_tup, rev_tup, enum_tup, zip_tup, slc_tup, add_tup, isi_any, ix_tup, ix_scr, ix_num0, ix_num1, len_num, num_0, num_1, atI_0, atI_1, atI_2, List.map, List.cons_append, List.nil_append, List.getElem?_cons_zero, List.getElem?_cons_succ, List.getElem?_nil, List.set_cons_zero, List.set_cons_succ, List.replicate, List.length_cons, List.length_nil, List.foldr_cons, List.foldr_nil, Nat.reduceAdd, Nat.reduceSub, List.replicate_succ, List.replicate_zero, G_up_same, decide_eq_true_eq, Bool.not_eq_true', Bool.false_eq_true, if_true, if_false, ite_true, ite_false, and_true, true_and, reduceCtorEq, Bool.not_true, Bool.not_false, Bool.false_bne, Bool.true_bne, sl0, sl1, sl2, sl3, sl4]
    rw [over_ref hp4]
    refine ⟨slN (by rw [nums_len]; omega), fun t ht => ?_⟩
    have hpt := ne_of_known hp4 ht
    have hqt := ne_of_known hq4 ht
    refine comp_inv (fun k acc g' => acc = nums [] ∧ g' = g4.up t acc) (fun k acc g' e => by rw [e.2, G_up_ne hpt]; exact hp4) ?_ ?_ ⟨rfl, rfl⟩
    · rintro k y acc g' N hk ⟨rfl, rfl⟩ h1 h2
      obtain ⟨z, hz, rfl⟩ := nums_at hk
      have hzm := List.mem_of_getElem? hz
      try simp only [mnS, mn, Mn.of, Op.rd, Cm.rd, Bl.rd, Mt.rd, Mt.rc, dNop, dSeq, dExpr, dRet, dRetN, dIf, gD, dAsg, dPar, dPut, dRaise, dVar, dC, dBin, dUn, dNil, dCons, dTup, dLst, dTst, dAndT, dOrT, dNotT, dYes, dAnd, dOr, dNot, dChain, dCall, dCB, dMt, dLset, dSrev, dTry, dIsx, dEmp, dStp, xsub, Ex.sub, dSlc, dPart, dNoPart, dIAny, dI1, dI2, dI3, dFor, dComp, compB, wipeD, startD, endsOf, at_mk, setAll, add_int, sub_int, mul_int, mul_tup, pow_int, mod_int, fdiv_int, lt_int, le_int, gt_int, ge_int, eq_int, neg_int, len_tup, len_scr, abs_int, max_int, min_int, int_int, int_bl, r1_int, r2_int, tuple_tup, list_tup, over_tup, rev_tup, enum_tup, zip_tup, slc_tup, add_tup, isi_any, ix_tup, ix_scr, ix_num0, ix_num1, len_num, num_0, num_1, atI_0, atI_1, atI_2, List.map, List.cons_append, List.nil_append, List.getElem?_cons_zero, List.getElem?_cons_succ, List.getElem?_nil, List.set_cons_zero, List.set_cons_succ, List.replicate, List.length_cons, List.length_nil, List.foldr_cons, List.foldr_nil, Nat.reduceAdd, Nat.reduceSub, List.replicate_succ, List.replicate_zero, G_up_same, decide_eq_true_eq, Bool.not_eq_true', Bool.false_eq_true, if_true, if_false, ite_true, ite_false, and_true, true_and, reduceCtorEq, Bool.not_true, Bool.not_false, Bool.false_bne, Bool.true_bne, sl0, sl1, sl2, sl3, sl4]
      refine c_evE .tup (evOk_Q quo0 hab (R.zk z hzm) (by omega)) ?_
      simp only [rc_ref, G_up_ne hpt, G_up_ne hqt, hp4, hq4, Option.isSome_some, true_and]
      refine index_nums (show (g4.up t (nums [])) p = some (nums ks) by rw [G_up_ne hpt]; exact hp4) hzm fun i hi => ?_
      have hil := lt_of_at hi
      rw [ix_ref (show (g4.up t (nums [])) q = some (nums ((List.replicate ks.length (0 : Rat)).set j b)) by rw [G_up_ne hqt]; exact hq4), atI_nums rfl (set_at hjl hil)]
      have hv := (hh (z, if i = j then b else 0) (List.mem_of_getElem? (i := i) (List.getElem?_zip_eq_some.mpr ⟨hi, set_at hjl hil⟩))).2
      refine eq_num (fun _ => ?_) fun y => absurd hv y
      try simp only [mnS, mn, Mn.of, Op.rd, Cm.rd, Bl.rd, Mt.rd, Mt.rc, dNop, dSeq, dExpr, dRet, dRetN, dIf, gD, dAsg, dPar, dPut, dRaise, dVar, dC, dBin, dUn, dNil, dCons, dTup, dLst, dTst, dAndT, dOrT, dNotT, dYes, dAnd, dOr, dNot, dChain, dCall, dCB, dMt, dLset, dSrev, dTry, dIsx, dEmp, dStp, xsub, Ex.sub, dSlc, dPart, dNoPart, dIAny, dI1, dI2, dI3, dFor, dComp, compB, wipeD, startD, endsOf, at_mk, setAll, add_int, sub_int, mul_int, mul_tup, pow_int, mod_int, fdiv_int, lt_int, le_int, gt_int, ge_int, eq_int, neg_int, len_tup, len_scr, abs_int, max_int, min_int, int_int, int_bl, r1_int, r2_int, tuple_tup, list_tup, over_tup, rev_tup, enum_tup, zip_tup, slc_tup, add_tup, isi_any, ix_tup, ix_scr, ix_num0, ix_num1, len_num, num_0, num_1, atI_0, atI_1, atI_2, List.map, List.cons_append, List.nil_append, List.getElem?_cons_zero, List.getElem?_cons_succ, List.getElem?_nil, List.set_cons_zero, List.set_cons_succ, List.replicate, List.length_cons, List.length_nil, List.foldr_cons, List.foldr_nil, Nat.reduceAdd, Nat.reduceSub, List.replicate_succ, List.replicate_zero, G_up_same, decide_eq_true_eq, Bool.not_eq_true', Bool.false_eq_true, if_true, if_false, ite_true, ite_false, and_true, true_and, reduceCtorEq, Bool.not_true, Bool.not_false, Bool.false_bne, Bool.true_bne, sl0, sl1, sl2, sl3, sl4]
      exact h2 _ G_up_same ⟨rfl, rfl⟩
    · rintro acc g' ⟨rfl, rfl⟩
      intro t2 ht2
      refine eq_list (p := []) (q := []) (G_up_fresh ht2 G_up_same) G_up_same (fun _ => ?_) fun z => absurd rfl z
      exact hN _
theorem k54_4 (h4 : Γ 4 = spDraw) (h27 : Γ 27 = spEv) (h397 : Γ 397 = spQuo) {E : DEnds} {o : G} {a : Addr} {xs : List D} {n0 : Nat} {ks : List Rat} {w : Nat} {p s : Addr} {q : Rat} {o0 : Option D} (R : R54 ks w) (hq : sz q ≤ 16) (K : KN o a g [(a, xs), (p, nums ks), (s, [])]) (hp : PenL xs n0) (hn0 : n0 + 10 < 2 ^ 50) (hN : ∀ g', E.rt (.bl true) g') :
    mnS Γ gl sx_law_k54_v3_4 E [o0, some (.ref a), some (.ref p), some (.int (ks.length : Int)), some (.int (w : Int)), some (num q), some (.tup [.tup (nums (trim [q])), .tup (nums [1]), .ref s]), none, none, none, none, none, none, none, none] g := by
  have hk12 := R.k12
  simp only [sx_law_k54_v3_4, h397, mnS, mn, Mn.of, Op.rd, Cm.rd, Bl.rd, Mt.rd, Mt.rc, dNop, dSeq, dExpr, dRet, dRetN, dIf, gD, dAsg, dPar, dPut, dRaise, dVar, dC, dBin, dUn, dNil, dCons, dTup, dLst, dTst, dAndT, dOrT, dNotT, dYes, dAnd, dOr, dNot, dChain, dCall, dCB, dMt, dLset, dSrev, dTry, dIsx, dEmp, dStp, xsub, Ex.sub, dSlc, dPart, dNoPart, dIAny, dI1, dI2, dI3, dFor, dComp, compB, wipeD, startD, endsOf, at_mk, setAll, add_int, sub_int, mul_int, mul_tup, pow_int, mod_int, fdiv_int, lt_int, le_int, gt_int, ge_int, eq_int, neg_int, len_tup, len_scr, abs_int, max_int, min_int, int_int, int_bl, r1_int, r2_int, tuple_tup, list_tup, over_tup, rev_tup, enum_tup, zip_tup, slc_tup, add_tup, isi_any, ix_tup, ix_scr, ix_num0, ix_num1, len_num, num_0, num_1, atI_0, atI_1, atI_2, List.map, List.cons_append, List.nil_append, List.getElem?_cons_zero, List.getElem?_cons_succ, List.getElem?_nil, List.set_cons_zero, List.set_cons_succ, List.replicate, List.length_cons, List.length_nil, List.foldr_cons, List.foldr_nil, Nat.reduceAdd, Nat.reduceSub, List.replicate_succ, List.replicate_zero, G_up_same, decide_eq_true_eq, Bool.not_eq_true', Bool.false_eq_true, if_true, if_false, ite_true, ite_false, and_true, true_and, reduceCtorEq, Bool.not_true, Bool.not_false, Bool.false_bne, Bool.true_bne, sl0, sl1, sl2, sl3, sl4]
  intro f hf
  have K := K_new (ys := [num q]) K hf
  rw [mul_ref (K.get 3 _ _ rfl), repD_num, Int.toNat_natCast]
  refine ⟨by omega, by omega, slN (by simp; omega), fun u hu => ?_⟩
  have K := K_new (ys := nums (List.replicate ks.length q)) K hu
  have hyl : (List.replicate ks.length q).length = ks.length := by simp
  have zy : Szs 700 (List.replicate ks.length q) := fun z hz => by rw [List.eq_of_mem_replicate hz]; omega
  refine c_quo 700 ks.length 0 (K.get 1 _ _ rfl) (K.get 4 _ _ rfl) R.pl hyl.symm R.w1 R.wk R.zk zy quo0 R.wk (Nat.le_refl _) (by omega) (fun r v P => stop_const R.nd R.ne R.w1 P) fun r v ab un L P QR hab hun t g3 ht l3 ht3 => ?_
  obtain ⟨e1, e2, e3⟩ := quo_const R.nd R.ne R.wk QR
  rw [e3] at ht3
  have K := K.le l3
  refine eq_qt ht3 (K.get 2 _ _ rfl) ⟨e1, e2, rfl⟩ ?_
  try simp only [mnS, mn, Mn.of, Op.rd, Cm.rd, Bl.rd, Mt.rd, Mt.rc, dNop, dSeq, dExpr, dRet, dRetN, dIf, gD, dAsg, dPar, dPut, dRaise, dVar, dC, dBin, dUn, dNil, dCons, dTup, dLst, dTst, dAndT, dOrT, dNotT, dYes, dAnd, dOr, dNot, dChain, dCall, dCB, dMt, dLset, dSrev, dTry, dIsx, dEmp, dStp, xsub, Ex.sub, dSlc, dPart, dNoPart, dIAny, dI1, dI2, dI3, dFor, dComp, compB, wipeD, startD, endsOf, at_mk, setAll, add_int, sub_int, mul_int, mul_tup, pow_int, mod_int, fdiv_int, lt_int, le_int, gt_int, ge_int, eq_int, neg_int, len_tup, len_scr, abs_int, max_int, min_int, int_int, int_bl, r1_int, r2_int, tuple_tup, list_tup, over_tup, rev_tup, enum_tup, zip_tup, slc_tup, add_tup, isi_any, ix_tup, ix_scr, ix_num0, ix_num1, len_num, num_0, num_1, atI_0, atI_1, atI_2, List.map, List.cons_append, List.nil_append, List.getElem?_cons_zero, List.getElem?_cons_succ, List.getElem?_nil, List.set_cons_zero, List.set_cons_succ, List.replicate, List.length_cons, List.length_nil, List.foldr_cons, List.foldr_nil, Nat.reduceAdd, Nat.reduceSub, List.replicate_succ, List.replicate_zero, G_up_same, decide_eq_true_eq, Bool.not_eq_true', Bool.false_eq_true, if_true, if_false, ite_true, ite_false, and_true, true_and, reduceCtorEq, Bool.not_true, Bool.not_false, Bool.false_bne, Bool.true_bne, sl0, sl1, sl2, sl3, sl4]
  exact k54_3 h4 h27 h397 R (K.pick [0, 1] (by decide)) hp hn0 hN
theorem k54_5 (h4 : Γ 4 = spDraw) (h27 : Γ 27 = spEv) (h36 : Γ 36 = spPenFn (isNumD 16) 4) (h397 : Γ 397 = spQuo) {E : DEnds} {o : G} {a : Addr} {xs : List D} {n0 : Nat} {ks : List Rat} {p : Addr} {o0 : Option D} (R : ∀ w, 1 ≤ w → w ≤ ks.length → R54 ks w) (ne : ks ≠ []) (K : KN o a g [(a, xs), (p, nums ks)]) (hp : PenL xs n0) (hn0 : n0 + 30 < 2 ^ 50) (hN : ∀ g', E.rt (.bl true) g') :
    mnS Γ gl sx_law_k54_v3_5 E [o0, some (.ref a), some (.ref p), none, none, none, none, none, none, none, none, none, none, none, none] g := by
  have hpos := List.length_pos_iff.mpr ne
  simp only [sx_law_k54_v3_5, h4, h36, mnS, mn, Mn.of, Op.rd, Cm.rd, Bl.rd, Mt.rd, Mt.rc, dNop, dSeq, dExpr, dRet, dRetN, dIf, gD, dAsg, dPar, dPut, dRaise, dVar, dC, dBin, dUn, dNil, dCons, dTup, dLst, dTst, dAndT, dOrT, dNotT, dYes, dAnd, dOr, dNot, dChain, dCall, dCB, dMt, dLset, dSrev, dTry, dIsx, dEmp, dStp, xsub, Ex.sub, dSlc, dPart, dNoPart, dIAny, dI1, dI2, dI3, dFor, dComp, compB, wipeD, startD, endsOf, at_mk, setAll, add_int, sub_int, mul_int, mul_tup, pow_int, mod_int, fdiv_int, lt_int, le_int, gt_int, ge_int, eq_int, neg_int, len_tup, len_scr, abs_int, max_int, min_int, int_int, int_bl, r1_int, r2_int, tuple_tup, list_tup, over_tup, rev_tup, enum_tup, zip_tup, slc_tup, add_tup, isi_any, ix_tup, ix_scr, ix_num0, ix_num1, len_num, num_0, num_1, atI_0, atI_1, atI_2, List.map, List.cons_append, List.nil_append, List.getElem?_cons_zero, List.getElem?_cons_succ, List.getElem?_nil, List.set_cons_zero, List.set_cons_succ, List.replicate, List.length_cons, List.length_nil, List.foldr_cons, List.foldr_nil, Nat.reduceAdd, Nat.reduceSub, List.replicate_succ, List.replicate_zero, G_up_same, decide_eq_true_eq, Bool.not_eq_true', Bool.false_eq_true, if_true, if_false, ite_true, ite_false, and_true, true_and, reduceCtorEq, Bool.not_true, Bool.not_false, Bool.false_bne, Bool.true_bne, sl0, sl1, sl2, sl3, sl4]
  rw [len_ref (K.get 1 _ _ rfl)]
  simp only [mnS, mn, Mn.of, Op.rd, Cm.rd, Bl.rd, Mt.rd, Mt.rc, dNop, dSeq, dExpr, dRet, dRetN, dIf, gD, dAsg, dPar, dPut, dRaise, dVar, dC, dBin, dUn, dNil, dCons, dTup, dLst, dTst, dAndT, dOrT, dNotT, dYes, dAnd, dOr, dNot, dChain, dCall, dCB, dMt, dLset, dSrev, dTry, dIsx, dEmp, dStp, xsub, Ex.sub, dSlc, dPart, dNoPart, dIAny, dI1, dI2, dI3, dFor, dComp, compB, wipeD, startD, endsOf, at_mk, setAll, add_int, sub_int, mul_int, mul_tup, pow_int, mod_int, fdiv_int, lt_int, le_int, gt_int, ge_int, eq_int, neg_int, len_tup, len_scr, abs_int, max_int, min_int, int_int, int_bl, r1_int, r2_int, tuple_tup, list_tup, over_tup, rev_tup, enum_tup, zip_tup, slc_tup, add_tup, isi_any, ix_tup, ix_scr, ix_num0, ix_num1, len_num, num_0, num_1, atI_0, atI_1, atI_2, List.map, List.cons_append, List.nil_append, List.getElem?_cons_zero, List.getElem?_cons_succ, List.getElem?_nil, List.set_cons_zero, List.set_cons_succ, List.replicate, List.length_cons, List.length_nil, List.foldr_cons, List.foldr_nil, Nat.reduceAdd, Nat.reduceSub, List.replicate_succ, List.replicate_zero, G_up_same, decide_eq_true_eq, Bool.not_eq_true', Bool.false_eq_true, if_true, if_false, ite_true, ite_false, and_true, true_and, reduceCtorEq, Bool.not_true, Bool.not_false, Bool.false_bne, Bool.true_bne, sl0, sl1, sl2, sl3, sl4, nums_len]
  refine K_draw K (by omega) hp (by omega) fun d xs1 g1 hd p1 K => ?_
  try simp only [mnS, mn, Mn.of, Op.rd, Cm.rd, Bl.rd, Mt.rd, Mt.rc, dNop, dSeq, dExpr, dRet, dRetN, dIf, gD, dAsg, dPar, dPut, dRaise, dVar, dC, dBin, dUn, dNil, dCons, dTup, dLst, dTst, dAndT, dOrT, dNotT, dYes, dAnd, dOr, dNot, dChain, dCall, dCB, dMt, dLset, dSrev, dTry, dIsx, dEmp, dStp, xsub, Ex.sub, dSlc, dPart, dNoPart, dIAny, dI1, dI2, dI3, dFor, dComp, compB, wipeD, startD, endsOf, at_mk, setAll, add_int, sub_int, mul_int, mul_tup, pow_int, mod_int, fdiv_int, lt_int, le_int, gt_int, ge_int, eq_int, neg_int, len_tup, len_scr, abs_int, max_int, min_int, int_int, int_bl, r1_int, r2_int, tuple_tup, list_tup, over_tup, rev_tup, enum_tup, zip_tup, slc_tup, add_tup, isi_any, ix_tup, ix_scr, ix_num0, ix_num1, len_num, num_0, num_1, atI_0, atI_1, atI_2, List.map, List.cons_append, List.nil_append, List.getElem?_cons_zero, List.getElem?_cons_succ, List.getElem?_nil, List.set_cons_zero, List.set_cons_succ, List.replicate, List.length_cons, List.length_nil, List.foldr_cons, List.foldr_nil, Nat.reduceAdd, Nat.reduceSub, List.replicate_succ, List.replicate_zero, G_up_same, decide_eq_true_eq, Bool.not_eq_true', Bool.false_eq_true, if_true, if_false, ite_true, ite_false, and_true, true_and, reduceCtorEq, Bool.not_true, Bool.not_false, Bool.false_bne, Bool.true_bne, sl0, sl1, sl2, sl3, sl4]
  refine K_pen K p1 (by omega) fun d2 xs2 g2 hd2 p2 K => ?_
  obtain ⟨q, rfl, hq⟩ := hd2
  try simp only [mnS, mn, Mn.of, Op.rd, Cm.rd, Bl.rd, Mt.rd, Mt.rc, dNop, dSeq, dExpr, dRet, dRetN, dIf, gD, dAsg, dPar, dPut, dRaise, dVar, dC, dBin, dUn, dNil, dCons, dTup, dLst, dTst, dAndT, dOrT, dNotT, dYes, dAnd, dOr, dNot, dChain, dCall, dCB, dMt, dLset, dSrev, dTry, dIsx, dEmp, dStp, xsub, Ex.sub, dSlc, dPart, dNoPart, dIAny, dI1, dI2, dI3, dFor, dComp, compB, wipeD, startD, endsOf, at_mk, setAll, add_int, sub_int, mul_int, mul_tup, pow_int, mod_int, fdiv_int, lt_int, le_int, gt_int, ge_int, eq_int, neg_int, len_tup, len_scr, abs_int, max_int, min_int, int_int, int_bl, r1_int, r2_int, tuple_tup, list_tup, over_tup, rev_tup, enum_tup, zip_tup, slc_tup, add_tup, isi_any, ix_tup, ix_scr, ix_num0, ix_num1, len_num, num_0, num_1, atI_0, atI_1, atI_2, List.map, List.cons_append, List.nil_append, List.getElem?_cons_zero, List.getElem?_cons_succ, List.getElem?_nil, List.set_cons_zero, List.set_cons_succ, List.replicate, List.length_cons, List.length_nil, List.foldr_cons, List.foldr_nil, Nat.reduceAdd, Nat.reduceSub, List.replicate_succ, List.replicate_zero, G_up_same, decide_eq_true_eq, Bool.not_eq_true', Bool.false_eq_true, if_true, if_false, ite_true, ite_false, and_true, true_and, reduceCtorEq, Bool.not_true, Bool.not_false, Bool.false_bne, Bool.true_bne, sl0, sl1, sl2, sl3, sl4]
  intro u hu
  have K := K_new (ys := [num q, num 0]) K hu
  refine K_draw K (by decide) p2 (by omega) fun d3 xs3 g3 hd3 p3 K => ?_
  refine ix_some (K.get 2 _ _ rfl) (by omega) (by simp; omega) fun y hy => ?_
  obtain ⟨c, rfl, hcs⟩ : ∃ c : Rat, y = num c ∧ sz c ≤ 16 := by
    simp only [List.mem_cons, List.not_mem_nil, or_false] at hy
    rcases hy with rfl | rfl
    · exact ⟨q, rfl, hq⟩
    · exact ⟨0, rfl, by decide⟩
  try simp only [mnS, mn, Mn.of, Op.rd, Cm.rd, Bl.rd, Mt.rd, Mt.rc, dNop, dSeq, dExpr, dRet, dRetN, dIf, gD, dAsg, dPar, dPut, dRaise, dVar, dC, dBin, dUn, dNil, dCons, dTup, dLst, dTst, dAndT, dOrT, dNotT, dYes, dAnd, dOr, dNot, dChain, dCall, dCB, dMt, dLset, dSrev, dTry, dIsx, dEmp, dStp, xsub, Ex.sub, dSlc, dPart, dNoPart, dIAny, dI1, dI2, dI3, dFor, dComp, compB, wipeD, startD, endsOf, at_mk, setAll, add_int, sub_int, mul_int, mul_tup, pow_int, mod_int, fdiv_int, lt_int, le_int, gt_int, ge_int, eq_int, neg_int, len_tup, len_scr, abs_int, max_int, min_int, int_int, int_bl, r1_int, r2_int, tuple_tup, list_tup, over_tup, rev_tup, enum_tup, zip_tup, slc_tup, add_tup, isi_any, ix_tup, ix_scr, ix_num0, ix_num1, len_num, num_0, num_1, atI_0, atI_1, atI_2, List.map, List.cons_append, List.nil_append, List.getElem?_cons_zero, List.getElem?_cons_succ, List.getElem?_nil, List.set_cons_zero, List.set_cons_succ, List.replicate, List.length_cons, List.length_nil, List.foldr_cons, List.foldr_nil, Nat.reduceAdd, Nat.reduceSub, List.replicate_succ, List.replicate_zero, G_up_same, decide_eq_true_eq, Bool.not_eq_true', Bool.false_eq_true, if_true, if_false, ite_true, ite_false, and_true, true_and, reduceCtorEq, Bool.not_true, Bool.not_false, Bool.false_bne, Bool.true_bne, sl0, sl1, sl2, sl3, sl4]
  rw [show (1 : Int) + (d : Int) = ((1 + d : Nat) : Int) by omega]
  intro s hs
  have K := (K_new (ys := []) K hs).pick [0, 1, 3] (by decide)
  refine eq_num (fun e => ?_) fun e => ?_
  · try simp only [mnS, mn, Mn.of, Op.rd, Cm.rd, Bl.rd, Mt.rd, Mt.rc, dNop, dSeq, dExpr, dRet, dRetN, dIf, gD, dAsg, dPar, dPut, dRaise, dVar, dC, dBin, dUn, dNil, dCons, dTup, dLst, dTst, dAndT, dOrT, dNotT, dYes, dAnd, dOr, dNot, dChain, dCall, dCB, dMt, dLset, dSrev, dTry, dIsx, dEmp, dStp, xsub, Ex.sub, dSlc, dPart, dNoPart, dIAny, dI1, dI2, dI3, dFor, dComp, compB, wipeD, startD, endsOf, at_mk, setAll, add_int, sub_int, mul_int, mul_tup, pow_int, mod_int, fdiv_int, lt_int, le_int, gt_int, ge_int, eq_int, neg_int, len_tup, len_scr, abs_int, max_int, min_int, int_int, int_bl, r1_int, r2_int, tuple_tup, list_tup, over_tup, rev_tup, enum_tup, zip_tup, slc_tup, add_tup, isi_any, ix_tup, ix_scr, ix_num0, ix_num1, len_num, num_0, num_1, atI_0, atI_1, atI_2, List.map, List.cons_append, List.nil_append, List.getElem?_cons_zero, List.getElem?_cons_succ, List.getElem?_nil, List.set_cons_zero, List.set_cons_succ, List.replicate, List.length_cons, List.length_nil, List.foldr_cons, List.foldr_nil, Nat.reduceAdd, Nat.reduceSub, List.replicate_succ, List.replicate_zero, G_up_same, decide_eq_true_eq, Bool.not_eq_true', Bool.false_eq_true, if_true, if_false, ite_true, ite_false, and_true, true_and, reduceCtorEq, Bool.not_true, Bool.not_false, Bool.false_bne, Bool.true_bne, sl0, sl1, sl2, sl3, sl4]
    intro s2 hs2
    have K := (K_new (ys := []) K hs2).pick [0, 1, 3] (by decide)
    have := k54_4 (Γ := Γ) (gl := gl) (o0 := o0) (q := c) h4 h27 h397 (R (1 + d) (by omega) (by omega)) hcs K p3 (by omega) hN
    rw [show trim [c] = [] by rw [e]; decide] at this
    exact this
  · have := k54_4 (Γ := Γ) (gl := gl) (o0 := o0) (q := c) h4 h27 h397 (R (1 + d) (by omega) (by omega)) hcs K p3 (by omega) hN
    rw [show trim [c] = [c] from trim_self fun z hz => by simp at hz; rw [← hz]; exact e] at this
    try simp only [mnS, mn, Mn.of, Op.rd, Cm.rd, Bl.rd, Mt.rd, Mt.rc, dNop, dSeq, dExpr, dRet, dRetN, dIf, gD, dAsg, dPar, dPut, dRaise, dVar, dC, dBin, dUn, dNil, dCons, dTup, dLst, dTst, dAndT, dOrT, dNotT, dYes, dAnd, dOr, dNot, dChain, dCall, dCB, dMt, dLset, dSrev, dTry, dIsx, dEmp, dStp, xsub, Ex.sub, dSlc, dPart, dNoPart, dIAny, dI1, dI2, dI3, dFor, dComp, compB, wipeD, startD, endsOf, at_mk, setAll, add_int, sub_int, mul_int, mul_tup, pow_int, mod_int, fdiv_int, lt_int, le_int, gt_int, ge_int, eq_int, neg_int, len_tup, len_scr, abs_int, max_int, min_int, int_int, int_bl, r1_int, r2_int, tuple_tup, list_tup, over_tup, rev_tup, enum_tup, zip_tup, slc_tup, add_tup, isi_any, ix_tup, ix_scr, ix_num0, ix_num1, len_num, num_0, num_1, atI_0, atI_1, atI_2, List.map, List.cons_append, List.nil_append, List.getElem?_cons_zero, List.getElem?_cons_succ, List.getElem?_nil, List.set_cons_zero, List.set_cons_succ, List.replicate, List.length_cons, List.length_nil, List.foldr_cons, List.foldr_nil, Nat.reduceAdd, Nat.reduceSub, List.replicate_succ, List.replicate_zero, G_up_same, decide_eq_true_eq, Bool.not_eq_true', Bool.false_eq_true, if_true, if_false, ite_true, ite_false, and_true, true_and, reduceCtorEq, Bool.not_true, Bool.not_false, Bool.false_bne, Bool.true_bne, sl0, sl1, sl2, sl3, sl4]
    exact this
theorem pure_law_k54_v3 {E : XD} (h3 : Γ 3 = spPen) (h4 : Γ 4 = spDraw) (h27 : Γ 27 = spEv) (h36 : Γ 36 = spPenFn (isNumD 16) 4) (h54 : Γ 54 = spPlaces 22 4) (h397 : Γ 397 = spQuo) (h : spLaw ds g Q E) : mnS Γ gl sx_law_k54_v3 (endsOf Q E) (startD ns_law_k54_v3 ds) g := by
  obtain ⟨ns, rfl, hl, hb, h0, h⟩ := h
  have fin : ∀ g', ∃ g0 : G, g0.le g' ∧ Q (.bl true) g0 := fun g' => ⟨g, fun a xs e => (by rw [h0] at e; cases e), h⟩
  simp only [sx_law_k54_v3, h3, h4, h54, mnS, mn, Mn.of, Op.rd, Cm.rd, Bl.rd, Mt.rd, Mt.rc, dNop, dSeq, dExpr, dRet, dRetN, dIf, gD, dAsg, dPar, dPut, dRaise, dVar, dC, dBin, dUn, dNil, dCons, dTup, dLst, dTst, dAndT, dOrT, dNotT, dYes, dAnd, dOr, dNot, dChain, dCall, dCB, dMt, dLset, dSrev, dTry, dIsx, dEmp, dStp, xsub, Ex.sub, dSlc, dPart, dNoPart, dIAny, dI1, dI2, dI3, dFor, dComp, compB, wipeD, startD, endsOf, at_mk, setAll, add_int, sub_int, mul_int, mul_tup, pow_int, mod_int, fdiv_int, lt_int, le_int, gt_int, ge_int, eq_int, neg_int, len_tup, len_scr, abs_int, max_int, min_int, int_int, int_bl, r1_int, r2_int, tuple_tup, list_tup, over_tup, rev_tup, enum_tup, zip_tup, slc_tup, add_tup, isi_any, ix_tup, ix_scr, ix_num0, ix_num1, len_num, num_0, num_1, atI_0, atI_1, atI_2, List.map, List.cons_append, List.nil_append, List.getElem?_cons_zero, List.getElem?_cons_succ, List.getElem?_nil, List.set_cons_zero, List.set_cons_succ, List.replicate, List.length_cons, List.length_nil, List.foldr_cons, List.foldr_nil, Nat.reduceAdd, Nat.reduceSub, List.replicate_succ, List.replicate_zero, G_up_same, decide_eq_true_eq, Bool.not_eq_true', Bool.false_eq_true, if_true, if_false, ite_true, ite_false, and_true, true_and, reduceCtorEq, Bool.not_true, Bool.not_false, Bool.false_bne, Bool.true_bne, sl0, sl1, sl2, sl3, sl4]
  refine ⟨ns, 0, rfl, by omega, hb, fun a xs0 ha p0 => ?_⟩
  have K : KN g a (g.up a xs0) [(a, xs0)] := KN.start' ha
  try simp only [mnS, mn, Mn.of, Op.rd, Cm.rd, Bl.rd, Mt.rd, Mt.rc, dNop, dSeq, dExpr, dRet, dRetN, dIf, gD, dAsg, dPar, dPut, dRaise, dVar, dC, dBin, dUn, dNil, dCons, dTup, dLst, dTst, dAndT, dOrT, dNotT, dYes, dAnd, dOr, dNot, dChain, dCall, dCB, dMt, dLset, dSrev, dTry, dIsx, dEmp, dStp, xsub, Ex.sub, dSlc, dPart, dNoPart, dIAny, dI1, dI2, dI3, dFor, dComp, compB, wipeD, startD, endsOf, at_mk, setAll, add_int, sub_int, mul_int, mul_tup, pow_int, mod_int, fdiv_int, lt_int, le_int, gt_int, ge_int, eq_int, neg_int, len_tup, len_scr, abs_int, max_int, min_int, int_int, int_bl, r1_int, r2_int, tuple_tup, list_tup, over_tup, rev_tup, enum_tup, zip_tup, slc_tup, add_tup, isi_any, ix_tup, ix_scr, ix_num0, ix_num1, len_num, num_0, num_1, atI_0, atI_1, atI_2, List.map, List.cons_append, List.nil_append, List.getElem?_cons_zero, List.getElem?_cons_succ, List.getElem?_nil, List.set_cons_zero, List.set_cons_succ, List.replicate, List.length_cons, List.length_nil, List.foldr_cons, List.foldr_nil, Nat.reduceAdd, Nat.reduceSub, List.replicate_succ, List.replicate_zero, G_up_same, decide_eq_true_eq, Bool.not_eq_true', Bool.false_eq_true, if_true, if_false, ite_true, ite_false, and_true, true_and, reduceCtorEq, Bool.not_true, Bool.not_false, Bool.false_bne, Bool.true_bne, sl0, sl1, sl2, sl3, sl4]
  refine K_draw K (by decide) p0 (by omega) fun d xs1 g1 hd p1 K => ?_
  try simp only [mnS, mn, Mn.of, Op.rd, Cm.rd, Bl.rd, Mt.rd, Mt.rc, dNop, dSeq, dExpr, dRet, dRetN, dIf, gD, dAsg, dPar, dPut, dRaise, dVar, dC, dBin, dUn, dNil, dCons, dTup, dLst, dTst, dAndT, dOrT, dNotT, dYes, dAnd, dOr, dNot, dChain, dCall, dCB, dMt, dLset, dSrev, dTry, dIsx, dEmp, dStp, xsub, Ex.sub, dSlc, dPart, dNoPart, dIAny, dI1, dI2, dI3, dFor, dComp, compB, wipeD, startD, endsOf, at_mk, setAll, add_int, sub_int, mul_int, mul_tup, pow_int, mod_int, fdiv_int, lt_int, le_int, gt_int, ge_int, eq_int, neg_int, len_tup, len_scr, abs_int, max_int, min_int, int_int, int_bl, r1_int, r2_int, tuple_tup, list_tup, over_tup, rev_tup, enum_tup, zip_tup, slc_tup, add_tup, isi_any, ix_tup, ix_scr, ix_num0, ix_num1, len_num, num_0, num_1, atI_0, atI_1, atI_2, List.map, List.cons_append, List.nil_append, List.getElem?_cons_zero, List.getElem?_cons_succ, List.getElem?_nil, List.set_cons_zero, List.set_cons_succ, List.replicate, List.length_cons, List.length_nil, List.foldr_cons, List.foldr_nil, Nat.reduceAdd, Nat.reduceSub, List.replicate_succ, List.replicate_zero, G_up_same, decide_eq_true_eq, Bool.not_eq_true', Bool.false_eq_true, if_true, if_false, ite_true, ite_false, and_true, true_and, reduceCtorEq, Bool.not_true, Bool.not_false, Bool.false_bne, Bool.true_bne, sl0, sl1, sl2, sl3, sl4]
  refine K_places (1 + d) (by omega) K (by omega) p1 (by omega) fun p ks xs2 g2 nd hkl zk p2 K => ?_
  have K : KN g a g2 [(a, xs2), (p, nums ks)] := K
  have ne : ks ≠ [] := fun z => by rw [z] at hkl; simp at hkl; omega
  try simp only [mnS, mn, Mn.of, Op.rd, Cm.rd, Bl.rd, Mt.rd, Mt.rc, dNop, dSeq, dExpr, dRet, dRetN, dIf, gD, dAsg, dPar, dPut, dRaise, dVar, dC, dBin, dUn, dNil, dCons, dTup, dLst, dTst, dAndT, dOrT, dNotT, dYes, dAnd, dOr, dNot, dChain, dCall, dCB, dMt, dLset, dSrev, dTry, dIsx, dEmp, dStp, xsub, Ex.sub, dSlc, dPart, dNoPart, dIAny, dI1, dI2, dI3, dFor, dComp, compB, wipeD, startD, endsOf, at_mk, setAll, add_int, sub_int, mul_int, mul_tup, pow_int, mod_int, fdiv_int, lt_int, le_int, gt_int, ge_int, eq_int, neg_int, len_tup, len_scr, abs_int, max_int, min_int, int_int, int_bl, r1_int, r2_int, tuple_tup, list_tup, over_tup, rev_tup, enum_tup, zip_tup, slc_tup, add_tup, isi_any, ix_tup, ix_scr, ix_num0, ix_num1, len_num, num_0, num_1, atI_0, atI_1, atI_2, List.map, List.cons_append, List.nil_append, List.getElem?_cons_zero, List.getElem?_cons_succ, List.getElem?_nil, List.set_cons_zero, List.set_cons_succ, List.replicate, List.length_cons, List.length_nil, List.foldr_cons, List.foldr_nil, Nat.reduceAdd, Nat.reduceSub, List.replicate_succ, List.replicate_zero, G_up_same, decide_eq_true_eq, Bool.not_eq_true', Bool.false_eq_true, if_true, if_false, ite_true, ite_false, and_true, true_and, reduceCtorEq, Bool.not_true, Bool.not_false, Bool.false_bne, Bool.true_bne, sl0, sl1, sl2, sl3, sl4]
  refine K_draw K (by decide) p2 (by omega) fun d3 xs3 g3 hd3 p3 K => ?_
  try simp only [mnS, mn, Mn.of, Op.rd, Cm.rd, Bl.rd, Mt.rd, Mt.rc, dNop, dSeq, dExpr, dRet, dRetN, dIf, gD, dAsg, dPar, dPut, dRaise, dVar, dC, dBin, dUn, dNil, dCons, dTup, dLst, dTst, dAndT, dOrT, dNotT, dYes, dAnd, dOr, dNot, dChain, dCall, dCB, dMt, dLset, dSrev, dTry, dIsx, dEmp, dStp, xsub, Ex.sub, dSlc, dPart, dNoPart, dIAny, dI1, dI2, dI3, dFor, dComp, compB, wipeD, startD, endsOf, at_mk, setAll, add_int, sub_int, mul_int, mul_tup, pow_int, mod_int, fdiv_int, lt_int, le_int, gt_int, ge_int, eq_int, neg_int, len_tup, len_scr, abs_int, max_int, min_int, int_int, int_bl, r1_int, r2_int, tuple_tup, list_tup, over_tup, rev_tup, enum_tup, zip_tup, slc_tup, add_tup, isi_any, ix_tup, ix_scr, ix_num0, ix_num1, len_num, num_0, num_1, atI_0, atI_1, atI_2, List.map, List.cons_append, List.nil_append, List.getElem?_cons_zero, List.getElem?_cons_succ, List.getElem?_nil, List.set_cons_zero, List.set_cons_succ, List.replicate, List.length_cons, List.length_nil, List.foldr_cons, List.foldr_nil, Nat.reduceAdd, Nat.reduceSub, List.replicate_succ, List.replicate_zero, G_up_same, decide_eq_true_eq, Bool.not_eq_true', Bool.false_eq_true, if_true, if_false, ite_true, ite_false, and_true, true_and, reduceCtorEq, Bool.not_true, Bool.not_false, Bool.false_bne, Bool.true_bne, sl0, sl1, sl2, sl3, sl4]
  split
  · refine K_draw K (by decide) p3 (by omega) fun d4 xs4 g4 hd4 p4 K => ?_
    try simp only [mnS, mn, Mn.of, Op.rd, Cm.rd, Bl.rd, Mt.rd, Mt.rc, dNop, dSeq, dExpr, dRet, dRetN, dIf, gD, dAsg, dPar, dPut, dRaise, dVar, dC, dBin, dUn, dNil, dCons, dTup, dLst, dTst, dAndT, dOrT, dNotT, dYes, dAnd, dOr, dNot, dChain, dCall, dCB, dMt, dLset, dSrev, dTry, dIsx, dEmp, dStp, xsub, Ex.sub, dSlc, dPart, dNoPart, dIAny, dI1, dI2, dI3, dFor, dComp, compB, wipeD, startD, endsOf, at_mk, setAll, add_int, sub_int, mul_int, mul_tup, pow_int, mod_int, fdiv_int, lt_int, le_int, gt_int, ge_int, eq_int, neg_int, len_tup, len_scr, abs_int, max_int, min_int, int_int, int_bl, r1_int, r2_int, tuple_tup, list_tup, over_tup, rev_tup, enum_tup, zip_tup, slc_tup, add_tup, isi_any, ix_tup, ix_scr, ix_num0, ix_num1, len_num, num_0, num_1, atI_0, atI_1, atI_2, List.map, List.cons_append, List.nil_append, List.getElem?_cons_zero, List.getElem?_cons_succ, List.getElem?_nil, List.set_cons_zero, List.set_cons_succ, List.replicate, List.length_cons, List.length_nil, List.foldr_cons, List.foldr_nil, Nat.reduceAdd, Nat.reduceSub, List.replicate_succ, List.replicate_zero, G_up_same, decide_eq_true_eq, Bool.not_eq_true', Bool.false_eq_true, if_true, if_false, ite_true, ite_false, and_true, true_and, reduceCtorEq, Bool.not_true, Bool.not_false, Bool.false_bne, Bool.true_bne, sl0, sl1, sl2, sl3, sl4, range_len]
    rw [show (8 : Int) + (d4 : Int) = ((8 + d4 : Nat) : Int) by omega, show (((8 + d4 : Nat) : Int)).toNat = 8 + d4 from rfl]
    refine ⟨by omega, slN (by omega), fun q hq => ?_⟩
    refine K_whole (m := 3) (f := fun k d => (d : Int) + 3 * (k : Int) - 18) (n := 1000) (K.pick [0] (by decide)) hq (p4.mono (by omega)) (by omega) (fun k g' xs' M N hk hp K hN => ?_) fun zs xs5 g5 hzl hz p5 K => ?_
    · try simp only [mnS, mn, Mn.of, Op.rd, Cm.rd, Bl.rd, Mt.rd, Mt.rc, dNop, dSeq, dExpr, dRet, dRetN, dIf, gD, dAsg, dPar, dPut, dRaise, dVar, dC, dBin, dUn, dNil, dCons, dTup, dLst, dTst, dAndT, dOrT, dNotT, dYes, dAnd, dOr, dNot, dChain, dCall, dCB, dMt, dLset, dSrev, dTry, dIsx, dEmp, dStp, xsub, Ex.sub, dSlc, dPart, dNoPart, dIAny, dI1, dI2, dI3, dFor, dComp, compB, wipeD, startD, endsOf, at_mk, setAll, add_int, sub_int, mul_int, mul_tup, pow_int, mod_int, fdiv_int, lt_int, le_int, gt_int, ge_int, eq_int, neg_int, len_tup, len_scr, abs_int, max_int, min_int, int_int, int_bl, r1_int, r2_int, tuple_tup, list_tup, over_tup, rev_tup, enum_tup, zip_tup, slc_tup, add_tup, isi_any, ix_tup, ix_scr, ix_num0, ix_num1, len_num, num_0, num_1, atI_0, atI_1, atI_2, List.map, List.cons_append, List.nil_append, List.getElem?_cons_zero, List.getElem?_cons_succ, List.getElem?_nil, List.set_cons_zero, List.set_cons_succ, List.replicate, List.length_cons, List.length_nil, List.foldr_cons, List.foldr_nil, Nat.reduceAdd, Nat.reduceSub, List.replicate_succ, List.replicate_zero, G_up_same, decide_eq_true_eq, Bool.not_eq_true', Bool.false_eq_true, if_true, if_false, ite_true, ite_false, and_true, true_and, reduceCtorEq, Bool.not_true, Bool.not_false, Bool.false_bne, Bool.true_bne, sl0, sl1, sl2, sl3, sl4]
      refine K_draw K (by decide) hp (by omega) fun d xs'' g'' hd hp' K => ?_
      try simp only [mnS, mn, Mn.of, Op.rd, Cm.rd, Bl.rd, Mt.rd, Mt.rc, dNop, dSeq, dExpr, dRet, dRetN, dIf, gD, dAsg, dPar, dPut, dRaise, dVar, dC, dBin, dUn, dNil, dCons, dTup, dLst, dTst, dAndT, dOrT, dNotT, dYes, dAnd, dOr, dNot, dChain, dCall, dCB, dMt, dLset, dSrev, dTry, dIsx, dEmp, dStp, xsub, Ex.sub, dSlc, dPart, dNoPart, dIAny, dI1, dI2, dI3, dFor, dComp, compB, wipeD, startD, endsOf, at_mk, setAll, add_int, sub_int, mul_int, mul_tup, pow_int, mod_int, fdiv_int, lt_int, le_int, gt_int, ge_int, eq_int, neg_int, len_tup, len_scr, abs_int, max_int, min_int, int_int, int_bl, r1_int, r2_int, tuple_tup, list_tup, over_tup, rev_tup, enum_tup, zip_tup, slc_tup, add_tup, isi_any, ix_tup, ix_scr, ix_num0, ix_num1, len_num, num_0, num_1, atI_0, atI_1, atI_2, List.map, List.cons_append, List.nil_append, List.getElem?_cons_zero, List.getElem?_cons_succ, List.getElem?_nil, List.set_cons_zero, List.set_cons_succ, List.replicate, List.length_cons, List.length_nil, List.foldr_cons, List.foldr_nil, Nat.reduceAdd, Nat.reduceSub, List.replicate_succ, List.replicate_zero, G_up_same, decide_eq_true_eq, Bool.not_eq_true', Bool.false_eq_true, if_true, if_false, ite_true, ite_false, and_true, true_and, reduceCtorEq, Bool.not_true, Bool.not_false, Bool.false_bne, Bool.true_bne, sl0, sl1, sl2, sl3, sl4]
      refine ⟨mulOk_of (a := 10) (b := 10) (by decide) (by omega) (by omega), ?_⟩
      have := hN d xs'' g'' (by omega) hp' K
      rw [← num_int, show (d : Int) + 3 * (k : Int) - 18 = (d : Int) + 3 * (0 + (k : Int)) - 18 by omega] at this
      exact this
    · have nd2 : (zs.map fun z : Int => (z : Rat)).Nodup := whole_nodup (m := 3) (f := fun i d => (d : Int) + 3 * (i : Int) - 18) hz fun i j d e hij hd he => by omega
      have zk2 : Szs 22 (zs.map fun z : Int => (z : Rat)) := fun x hx => by
        obtain ⟨z, hzm, rfl⟩ := List.mem_map.mp hx
        obtain ⟨i, hi⟩ := List.mem_iff_getElem?.mp hzm
        obtain ⟨d, hd, rfl⟩ := hz i z hi
        have := lt_of_at hi
        exact Nat.le_trans (sz_int (by omega)) (by decide)
      have hl2 : (zs.map fun z : Int => (z : Rat)).length = 8 + d4 := by rw [List.length_map]; exact hzl
      generalize (zs.map fun z : Int => (z : Rat)) = ks2 at nd2 zk2 K hl2
      have ne2 : ks2 ≠ [] := fun z => by rw [z] at hl2; simp at hl2; omega
      exact k54_5 h4 h27 h36 h397 (fun w h1 h2 => ⟨nd2, ne2, zk2, by omega, h1, h2⟩) ne2 K p5 (by omega) fin
  · exact k54_5 h4 h27 h36 h397 (fun w h1 h2 => ⟨nd, ne, zk, by omega, h1, h2⟩) ne K p3 (by omega) fin
end
end PP
set_option maxHeartbeats 0
namespace PK54
open PySem PySem.Spec PyProof.Rows L2 PP
def top (i : Nat) : Stmt := PySem.Challenge.pw_onecurve_k54_quotients_of_one_height.main.body.getD i (.Pass ⟨0, 0, 0, 0⟩)
def gl : Nat → D
  | 0 => .tup [.int 0, .int 1]
  | 1 => .tup [.int 1, .int 1]
  | 2 => .int 12
  | _ => .non
def gls : List (Nat × Str) := [(0, "NOUGHT_numbers"), (1, "ONE_numbers"), (0, "NOUGHT_steps"), (1, "ONE_steps"), (2, "MOST_PLACES")]
def exs : List Ex := [.number, .ncurve, .npoints, .few]
def Γ : Nat → SpD
  | 0 => spShared
  | 1 => spLowest
  | 11 => spPlus
  | 12 => spMinus
  | 13 => spTimes
  | 14 => spOver
  | 15 => spLess
  | 23 => spCurveOf
  | 24 => spEv
  | 30 => spNumberAt
  | 31 => spAdded
  | 32 => spLessened
  | 33 => spScaled
  | 34 => spMultiplied
  | 44 => spDivH
  | 49 => spLastOne
  | 50 => spComH
  | 69 => spTold
  | 82 => spFirstRow
  | 83 => spNextRow
  | 84 => spTable
  | 85 => spSteps
  | 94 => spBySteps
  | 97 => spThrough
  | 353 => spAskPl
  | 354 => spAskT
  | 218 => spNoughtQ
  | 393 => spPairQ
  | 229 => spHasH
  | 397 => spQuo
  | 3 => spPen
  | 4 => spDraw
  | 5 => spLowest
  | 25 => spPlus
  | 35 => spMinus
  | 26 => spTimes
  | 36 => spPenFn (isNumD 16) 4
  | 27 => spEv
  | 54 => spPlaces 22 4
  | _ => fun _ _ _ _ => False
abbrev F0 : List (Nat × Str) := []
abbrev F1 : List (Nat × Str) := (0, "shared_part") :: F0
abbrev F2 : List (Nat × Str) := (1, "lowest") :: F1
abbrev F3 : List (Nat × Str) := (11, "plus") :: F2
abbrev F4 : List (Nat × Str) := (12, "minus") :: F3
abbrev F5 : List (Nat × Str) := (13, "times") :: F4
abbrev F6 : List (Nat × Str) := (14, "over") :: F5
abbrev F7 : List (Nat × Str) := (15, "is_less") :: F6
abbrev F8 : List (Nat × Str) := (23, "curve_of") :: F7
abbrev F9 : List (Nat × Str) := (24, "height_at") :: F8
abbrev F10 : List (Nat × Str) := (30, "number_at") :: F9
abbrev F11 : List (Nat × Str) := (31, "added") :: F10
abbrev F12 : List (Nat × Str) := (32, "lessened") :: F11
abbrev F13 : List (Nat × Str) := (33, "scaled") :: F12
abbrev F14 : List (Nat × Str) := (34, "multiplied") :: F13
abbrev F15 : List (Nat × Str) := (44, "divided") :: F14
abbrev F16 : List (Nat × Str) := (49, "with_last_one") :: F15
abbrev F17 : List (Nat × Str) := (50, "common_part") :: F16
abbrev F18 : List (Nat × Str) := (69, "told_in") :: F17
abbrev F19 : List (Nat × Str) := (82, "first_row") :: F18
abbrev F20 : List (Nat × Str) := (83, "next_row") :: F19
abbrev F21 : List (Nat × Str) := (84, "table_of") :: F20
abbrev F22 : List (Nat × Str) := (85, "steps_of") :: F21
abbrev F23 : List (Nat × Str) := (94, "by_steps") :: F22
abbrev F24 : List (Nat × Str) := (97, "curve_through") :: F23
abbrev F25 : List (Nat × Str) := (353, "ask_places") :: F24
abbrev F26 : List (Nat × Str) := (354, "ask_told") :: F25
abbrev F27 : List (Nat × Str) := (218, "nought_at") :: F26
abbrev F28 : List (Nat × Str) := (393, "pair_for") :: F27
abbrev F29 : List (Nat × Str) := (229, "has_height") :: F28
abbrev F30 : List (Nat × Str) := (397, "quotient_through") :: F29
abbrev F31 : List (Nat × Str) := (3, "_law_pen") :: F30
abbrev F32 : List (Nat × Str) := (4, "_law_draw") :: F31
abbrev F33 : List (Nat × Str) := (5, "_law_lowest") :: F32
abbrev F34 : List (Nat × Str) := (25, "_law_plus") :: F33
abbrev F35 : List (Nat × Str) := (35, "_law_minus") :: F34
abbrev F36 : List (Nat × Str) := (26, "_law_times") :: F35
abbrev F37 : List (Nat × Str) := (36, "_law_number") :: F36
abbrev F38 : List (Nat × Str) := (27, "_law_at") :: F37
abbrev F39 : List (Nat × Str) := (54, "_law_places") :: F38
abbrev N0 : List Str := ["one", "other"]
theorem chk0 : knS sx_shared_part (ckOf N0 (defScope (top 9)) F0 gls exs) (defBody (top 9)) = true := by decide +kernel
theorem sc0 : FnScope N0 ["one", "other"] (defScope (top 9)) := ⟨rfl, rfl, rfl, by decide +kernel, rfl, by decide +kernel, by decide +kernel⟩
theorem len0 (ds : List D) (g : G) (Q : QD) (E : XD) (h : Γ 0 ds g Q E) : ds.length = 2 := by first | (obtain ⟨rfl, _⟩ := h; rfl; done) | (obtain ⟨_, rfl, _⟩ := h; rfl; done) | (obtain ⟨_, _, rfl, _⟩ := h; rfl; done) | (obtain ⟨_, _, _, rfl, _⟩ := h; rfl; done) | (obtain ⟨_, _, _, _, rfl, _⟩ := h; rfl; done) | (obtain ⟨_, _, _, _, _, rfl, _⟩ := h; rfl; done) | (obtain ⟨_, _, _, _, _, _, rfl, _⟩ := h; rfl; done) | (obtain ⟨_, _, _, _, _, _, _, rfl, _⟩ := h; rfl; done) | (obtain ⟨_, _, _, _, _, _, _, _, rfl, _⟩ := h; rfl; done) | (obtain ⟨_, _, _, _, _, _, _, _, _, rfl, _⟩ := h; rfl; done) | (obtain ⟨_, _, _, _, _, _, _, _, _, _, rfl, _⟩ := h; rfl; done) | (obtain ⟨_, _, _, _, _, _, _, _, _, _, _, rfl, _⟩ := h; rfl; done) | (obtain ⟨_, _, _, _, _, _, _, _, _, _, _, _, rfl, _⟩ := h; rfl; done) | (obtain ⟨_, _, _, _, _, _, _, _, _, _, _, _, _, rfl, _⟩ := h; rfl; done) | (rcases h with h | h <;> first | (obtain ⟨rfl, _⟩ := h; rfl; done) | (obtain ⟨_, rfl, _⟩ := h; rfl; done) | (obtain ⟨_, _, rfl, _⟩ := h; rfl; done) | (obtain ⟨_, _, _, rfl, _⟩ := h; rfl; done) | (obtain ⟨_, _, _, _, rfl, _⟩ := h; rfl; done) | (obtain ⟨_, _, _, _, _, rfl, _⟩ := h; rfl; done) | (obtain ⟨_, _, _, _, _, _, rfl, _⟩ := h; rfl; done) | (obtain ⟨_, _, _, _, _, _, _, rfl, _⟩ := h; rfl; done) | (obtain ⟨_, _, _, _, _, _, _, _, rfl, _⟩ := h; rfl; done) | (obtain ⟨_, _, _, _, _, _, _, _, _, rfl, _⟩ := h; rfl; done) | (obtain ⟨_, _, _, _, _, _, _, _, _, _, rfl, _⟩ := h; rfl; done) | (obtain ⟨_, _, _, _, _, _, _, _, _, _, _, rfl, _⟩ := h; rfl; done) | (obtain ⟨_, _, _, _, _, _, _, _, _, _, _, _, rfl, _⟩ := h; rfl; done) | (obtain ⟨_, _, _, _, _, _, _, _, _, _, _, _, _, rfl, _⟩ := h; rfl; done))
theorem ok0 : DefOk Γ gl F0 gls exs (top 9) (Γ 0) := ⟨N0, ["one", "other"], sx_shared_part, sc0, chk0, fun x K f fd F => F.bindsN fun _ _ _ _ _ _ us hl => (match us, hl with | [_, _], _ => rfl), fun ds g Q E h => len0 ds g Q E h, fun ds g Q E h => by rw [startD_len (N := N0) (M := ns_shared_part) rfl]; exact pure_shared_part h⟩
abbrev N1 : List Str := ["top", "bottom", "part"]
theorem chk1 : knS sx_lowest (ckOf N1 (defScope (top 10)) F1 gls exs) (defBody (top 10)) = true := by decide +kernel
theorem sc1 : FnScope N1 ["top", "bottom"] (defScope (top 10)) := ⟨rfl, rfl, rfl, by decide +kernel, rfl, by decide +kernel, by decide +kernel⟩
theorem len1 (ds : List D) (g : G) (Q : QD) (E : XD) (h : Γ 1 ds g Q E) : ds.length = 2 := by first | (obtain ⟨rfl, _⟩ := h; rfl; done) | (obtain ⟨_, rfl, _⟩ := h; rfl; done) | (obtain ⟨_, _, rfl, _⟩ := h; rfl; done) | (obtain ⟨_, _, _, rfl, _⟩ := h; rfl; done) | (obtain ⟨_, _, _, _, rfl, _⟩ := h; rfl; done) | (obtain ⟨_, _, _, _, _, rfl, _⟩ := h; rfl; done) | (obtain ⟨_, _, _, _, _, _, rfl, _⟩ := h; rfl; done) | (obtain ⟨_, _, _, _, _, _, _, rfl, _⟩ := h; rfl; done) | (obtain ⟨_, _, _, _, _, _, _, _, rfl, _⟩ := h; rfl; done) | (obtain ⟨_, _, _, _, _, _, _, _, _, rfl, _⟩ := h; rfl; done) | (obtain ⟨_, _, _, _, _, _, _, _, _, _, rfl, _⟩ := h; rfl; done) | (obtain ⟨_, _, _, _, _, _, _, _, _, _, _, rfl, _⟩ := h; rfl; done) | (obtain ⟨_, _, _, _, _, _, _, _, _, _, _, _, rfl, _⟩ := h; rfl; done) | (obtain ⟨_, _, _, _, _, _, _, _, _, _, _, _, _, rfl, _⟩ := h; rfl; done) | (rcases h with h | h <;> first | (obtain ⟨rfl, _⟩ := h; rfl; done) | (obtain ⟨_, rfl, _⟩ := h; rfl; done) | (obtain ⟨_, _, rfl, _⟩ := h; rfl; done) | (obtain ⟨_, _, _, rfl, _⟩ := h; rfl; done) | (obtain ⟨_, _, _, _, rfl, _⟩ := h; rfl; done) | (obtain ⟨_, _, _, _, _, rfl, _⟩ := h; rfl; done) | (obtain ⟨_, _, _, _, _, _, rfl, _⟩ := h; rfl; done) | (obtain ⟨_, _, _, _, _, _, _, rfl, _⟩ := h; rfl; done) | (obtain ⟨_, _, _, _, _, _, _, _, rfl, _⟩ := h; rfl; done) | (obtain ⟨_, _, _, _, _, _, _, _, _, rfl, _⟩ := h; rfl; done) | (obtain ⟨_, _, _, _, _, _, _, _, _, _, rfl, _⟩ := h; rfl; done) | (obtain ⟨_, _, _, _, _, _, _, _, _, _, _, rfl, _⟩ := h; rfl; done) | (obtain ⟨_, _, _, _, _, _, _, _, _, _, _, _, rfl, _⟩ := h; rfl; done) | (obtain ⟨_, _, _, _, _, _, _, _, _, _, _, _, _, rfl, _⟩ := h; rfl; done))
theorem ok1 : DefOk Γ gl F1 gls exs (top 10) (Γ 1) := ⟨N1, ["top", "bottom"], sx_lowest, sc1, chk1, fun x K f fd F => F.bindsN fun _ _ _ _ _ _ us hl => (match us, hl with | [_, _], _ => rfl), fun ds g Q E h => len1 ds g Q E h, fun ds g Q E h => by rw [startD_len (N := N1) (M := ns_lowest) rfl]; exact pure_lowest rfl h⟩
abbrev N2 : List Str := ["a", "b"]
theorem chk2 : knS sx_plus (ckOf N2 (defScope (top 11)) F2 gls exs) (defBody (top 11)) = true := by decide +kernel
theorem sc2 : FnScope N2 ["a", "b"] (defScope (top 11)) := ⟨rfl, rfl, rfl, by decide +kernel, rfl, by decide +kernel, by decide +kernel⟩
theorem len2 (ds : List D) (g : G) (Q : QD) (E : XD) (h : Γ 11 ds g Q E) : ds.length = 2 := by first | (obtain ⟨rfl, _⟩ := h; rfl; done) | (obtain ⟨_, rfl, _⟩ := h; rfl; done) | (obtain ⟨_, _, rfl, _⟩ := h; rfl; done) | (obtain ⟨_, _, _, rfl, _⟩ := h; rfl; done) | (obtain ⟨_, _, _, _, rfl, _⟩ := h; rfl; done) | (obtain ⟨_, _, _, _, _, rfl, _⟩ := h; rfl; done) | (obtain ⟨_, _, _, _, _, _, rfl, _⟩ := h; rfl; done) | (obtain ⟨_, _, _, _, _, _, _, rfl, _⟩ := h; rfl; done) | (obtain ⟨_, _, _, _, _, _, _, _, rfl, _⟩ := h; rfl; done) | (obtain ⟨_, _, _, _, _, _, _, _, _, rfl, _⟩ := h; rfl; done) | (obtain ⟨_, _, _, _, _, _, _, _, _, _, rfl, _⟩ := h; rfl; done) | (obtain ⟨_, _, _, _, _, _, _, _, _, _, _, rfl, _⟩ := h; rfl; done) | (obtain ⟨_, _, _, _, _, _, _, _, _, _, _, _, rfl, _⟩ := h; rfl; done) | (obtain ⟨_, _, _, _, _, _, _, _, _, _, _, _, _, rfl, _⟩ := h; rfl; done) | (rcases h with h | h <;> first | (obtain ⟨rfl, _⟩ := h; rfl; done) | (obtain ⟨_, rfl, _⟩ := h; rfl; done) | (obtain ⟨_, _, rfl, _⟩ := h; rfl; done) | (obtain ⟨_, _, _, rfl, _⟩ := h; rfl; done) | (obtain ⟨_, _, _, _, rfl, _⟩ := h; rfl; done) | (obtain ⟨_, _, _, _, _, rfl, _⟩ := h; rfl; done) | (obtain ⟨_, _, _, _, _, _, rfl, _⟩ := h; rfl; done) | (obtain ⟨_, _, _, _, _, _, _, rfl, _⟩ := h; rfl; done) | (obtain ⟨_, _, _, _, _, _, _, _, rfl, _⟩ := h; rfl; done) | (obtain ⟨_, _, _, _, _, _, _, _, _, rfl, _⟩ := h; rfl; done) | (obtain ⟨_, _, _, _, _, _, _, _, _, _, rfl, _⟩ := h; rfl; done) | (obtain ⟨_, _, _, _, _, _, _, _, _, _, _, rfl, _⟩ := h; rfl; done) | (obtain ⟨_, _, _, _, _, _, _, _, _, _, _, _, rfl, _⟩ := h; rfl; done) | (obtain ⟨_, _, _, _, _, _, _, _, _, _, _, _, _, rfl, _⟩ := h; rfl; done))
theorem ok2 : DefOk Γ gl F2 gls exs (top 11) (Γ 11) := ⟨N2, ["a", "b"], sx_plus, sc2, chk2, fun x K f fd F => F.bindsN fun _ _ _ _ _ _ us hl => (match us, hl with | [_, _], _ => rfl), fun ds g Q E h => len2 ds g Q E h, fun ds g Q E h => by rw [startD_len (N := N2) (M := ns_plus) rfl]; exact pure_plus rfl h⟩
abbrev N3 : List Str := ["a", "b"]
theorem chk3 : knS sx_minus (ckOf N3 (defScope (top 12)) F3 gls exs) (defBody (top 12)) = true := by decide +kernel
theorem sc3 : FnScope N3 ["a", "b"] (defScope (top 12)) := ⟨rfl, rfl, rfl, by decide +kernel, rfl, by decide +kernel, by decide +kernel⟩
theorem len3 (ds : List D) (g : G) (Q : QD) (E : XD) (h : Γ 12 ds g Q E) : ds.length = 2 := by first | (obtain ⟨rfl, _⟩ := h; rfl; done) | (obtain ⟨_, rfl, _⟩ := h; rfl; done) | (obtain ⟨_, _, rfl, _⟩ := h; rfl; done) | (obtain ⟨_, _, _, rfl, _⟩ := h; rfl; done) | (obtain ⟨_, _, _, _, rfl, _⟩ := h; rfl; done) | (obtain ⟨_, _, _, _, _, rfl, _⟩ := h; rfl; done) | (obtain ⟨_, _, _, _, _, _, rfl, _⟩ := h; rfl; done) | (obtain ⟨_, _, _, _, _, _, _, rfl, _⟩ := h; rfl; done) | (obtain ⟨_, _, _, _, _, _, _, _, rfl, _⟩ := h; rfl; done) | (obtain ⟨_, _, _, _, _, _, _, _, _, rfl, _⟩ := h; rfl; done) | (obtain ⟨_, _, _, _, _, _, _, _, _, _, rfl, _⟩ := h; rfl; done) | (obtain ⟨_, _, _, _, _, _, _, _, _, _, _, rfl, _⟩ := h; rfl; done) | (obtain ⟨_, _, _, _, _, _, _, _, _, _, _, _, rfl, _⟩ := h; rfl; done) | (obtain ⟨_, _, _, _, _, _, _, _, _, _, _, _, _, rfl, _⟩ := h; rfl; done) | (rcases h with h | h <;> first | (obtain ⟨rfl, _⟩ := h; rfl; done) | (obtain ⟨_, rfl, _⟩ := h; rfl; done) | (obtain ⟨_, _, rfl, _⟩ := h; rfl; done) | (obtain ⟨_, _, _, rfl, _⟩ := h; rfl; done) | (obtain ⟨_, _, _, _, rfl, _⟩ := h; rfl; done) | (obtain ⟨_, _, _, _, _, rfl, _⟩ := h; rfl; done) | (obtain ⟨_, _, _, _, _, _, rfl, _⟩ := h; rfl; done) | (obtain ⟨_, _, _, _, _, _, _, rfl, _⟩ := h; rfl; done) | (obtain ⟨_, _, _, _, _, _, _, _, rfl, _⟩ := h; rfl; done) | (obtain ⟨_, _, _, _, _, _, _, _, _, rfl, _⟩ := h; rfl; done) | (obtain ⟨_, _, _, _, _, _, _, _, _, _, rfl, _⟩ := h; rfl; done) | (obtain ⟨_, _, _, _, _, _, _, _, _, _, _, rfl, _⟩ := h; rfl; done) | (obtain ⟨_, _, _, _, _, _, _, _, _, _, _, _, rfl, _⟩ := h; rfl; done) | (obtain ⟨_, _, _, _, _, _, _, _, _, _, _, _, _, rfl, _⟩ := h; rfl; done))
theorem ok3 : DefOk Γ gl F3 gls exs (top 12) (Γ 12) := ⟨N3, ["a", "b"], sx_minus, sc3, chk3, fun x K f fd F => F.bindsN fun _ _ _ _ _ _ us hl => (match us, hl with | [_, _], _ => rfl), fun ds g Q E h => len3 ds g Q E h, fun ds g Q E h => by rw [startD_len (N := N3) (M := ns_minus) rfl]; exact pure_minus rfl h⟩
abbrev N4 : List Str := ["a", "b"]
theorem chk4 : knS sx_times (ckOf N4 (defScope (top 13)) F4 gls exs) (defBody (top 13)) = true := by decide +kernel
theorem sc4 : FnScope N4 ["a", "b"] (defScope (top 13)) := ⟨rfl, rfl, rfl, by decide +kernel, rfl, by decide +kernel, by decide +kernel⟩
theorem len4 (ds : List D) (g : G) (Q : QD) (E : XD) (h : Γ 13 ds g Q E) : ds.length = 2 := by first | (obtain ⟨rfl, _⟩ := h; rfl; done) | (obtain ⟨_, rfl, _⟩ := h; rfl; done) | (obtain ⟨_, _, rfl, _⟩ := h; rfl; done) | (obtain ⟨_, _, _, rfl, _⟩ := h; rfl; done) | (obtain ⟨_, _, _, _, rfl, _⟩ := h; rfl; done) | (obtain ⟨_, _, _, _, _, rfl, _⟩ := h; rfl; done) | (obtain ⟨_, _, _, _, _, _, rfl, _⟩ := h; rfl; done) | (obtain ⟨_, _, _, _, _, _, _, rfl, _⟩ := h; rfl; done) | (obtain ⟨_, _, _, _, _, _, _, _, rfl, _⟩ := h; rfl; done) | (obtain ⟨_, _, _, _, _, _, _, _, _, rfl, _⟩ := h; rfl; done) | (obtain ⟨_, _, _, _, _, _, _, _, _, _, rfl, _⟩ := h; rfl; done) | (obtain ⟨_, _, _, _, _, _, _, _, _, _, _, rfl, _⟩ := h; rfl; done) | (obtain ⟨_, _, _, _, _, _, _, _, _, _, _, _, rfl, _⟩ := h; rfl; done) | (obtain ⟨_, _, _, _, _, _, _, _, _, _, _, _, _, rfl, _⟩ := h; rfl; done) | (rcases h with h | h <;> first | (obtain ⟨rfl, _⟩ := h; rfl; done) | (obtain ⟨_, rfl, _⟩ := h; rfl; done) | (obtain ⟨_, _, rfl, _⟩ := h; rfl; done) | (obtain ⟨_, _, _, rfl, _⟩ := h; rfl; done) | (obtain ⟨_, _, _, _, rfl, _⟩ := h; rfl; done) | (obtain ⟨_, _, _, _, _, rfl, _⟩ := h; rfl; done) | (obtain ⟨_, _, _, _, _, _, rfl, _⟩ := h; rfl; done) | (obtain ⟨_, _, _, _, _, _, _, rfl, _⟩ := h; rfl; done) | (obtain ⟨_, _, _, _, _, _, _, _, rfl, _⟩ := h; rfl; done) | (obtain ⟨_, _, _, _, _, _, _, _, _, rfl, _⟩ := h; rfl; done) | (obtain ⟨_, _, _, _, _, _, _, _, _, _, rfl, _⟩ := h; rfl; done) | (obtain ⟨_, _, _, _, _, _, _, _, _, _, _, rfl, _⟩ := h; rfl; done) | (obtain ⟨_, _, _, _, _, _, _, _, _, _, _, _, rfl, _⟩ := h; rfl; done) | (obtain ⟨_, _, _, _, _, _, _, _, _, _, _, _, _, rfl, _⟩ := h; rfl; done))
theorem ok4 : DefOk Γ gl F4 gls exs (top 13) (Γ 13) := ⟨N4, ["a", "b"], sx_times, sc4, chk4, fun x K f fd F => F.bindsN fun _ _ _ _ _ _ us hl => (match us, hl with | [_, _], _ => rfl), fun ds g Q E h => len4 ds g Q E h, fun ds g Q E h => by rw [startD_len (N := N4) (M := ns_times) rfl]; exact pure_times rfl h⟩
abbrev N5 : List Str := ["a", "b"]
theorem chk5 : knS sx_over (ckOf N5 (defScope (top 14)) F5 gls exs) (defBody (top 14)) = true := by decide +kernel
theorem sc5 : FnScope N5 ["a", "b"] (defScope (top 14)) := ⟨rfl, rfl, rfl, by decide +kernel, rfl, by decide +kernel, by decide +kernel⟩
theorem len5 (ds : List D) (g : G) (Q : QD) (E : XD) (h : Γ 14 ds g Q E) : ds.length = 2 := by first | (obtain ⟨rfl, _⟩ := h; rfl; done) | (obtain ⟨_, rfl, _⟩ := h; rfl; done) | (obtain ⟨_, _, rfl, _⟩ := h; rfl; done) | (obtain ⟨_, _, _, rfl, _⟩ := h; rfl; done) | (obtain ⟨_, _, _, _, rfl, _⟩ := h; rfl; done) | (obtain ⟨_, _, _, _, _, rfl, _⟩ := h; rfl; done) | (obtain ⟨_, _, _, _, _, _, rfl, _⟩ := h; rfl; done) | (obtain ⟨_, _, _, _, _, _, _, rfl, _⟩ := h; rfl; done) | (obtain ⟨_, _, _, _, _, _, _, _, rfl, _⟩ := h; rfl; done) | (obtain ⟨_, _, _, _, _, _, _, _, _, rfl, _⟩ := h; rfl; done) | (obtain ⟨_, _, _, _, _, _, _, _, _, _, rfl, _⟩ := h; rfl; done) | (obtain ⟨_, _, _, _, _, _, _, _, _, _, _, rfl, _⟩ := h; rfl; done) | (obtain ⟨_, _, _, _, _, _, _, _, _, _, _, _, rfl, _⟩ := h; rfl; done) | (obtain ⟨_, _, _, _, _, _, _, _, _, _, _, _, _, rfl, _⟩ := h; rfl; done) | (rcases h with h | h <;> first | (obtain ⟨rfl, _⟩ := h; rfl; done) | (obtain ⟨_, rfl, _⟩ := h; rfl; done) | (obtain ⟨_, _, rfl, _⟩ := h; rfl; done) | (obtain ⟨_, _, _, rfl, _⟩ := h; rfl; done) | (obtain ⟨_, _, _, _, rfl, _⟩ := h; rfl; done) | (obtain ⟨_, _, _, _, _, rfl, _⟩ := h; rfl; done) | (obtain ⟨_, _, _, _, _, _, rfl, _⟩ := h; rfl; done) | (obtain ⟨_, _, _, _, _, _, _, rfl, _⟩ := h; rfl; done) | (obtain ⟨_, _, _, _, _, _, _, _, rfl, _⟩ := h; rfl; done) | (obtain ⟨_, _, _, _, _, _, _, _, _, rfl, _⟩ := h; rfl; done) | (obtain ⟨_, _, _, _, _, _, _, _, _, _, rfl, _⟩ := h; rfl; done) | (obtain ⟨_, _, _, _, _, _, _, _, _, _, _, rfl, _⟩ := h; rfl; done) | (obtain ⟨_, _, _, _, _, _, _, _, _, _, _, _, rfl, _⟩ := h; rfl; done) | (obtain ⟨_, _, _, _, _, _, _, _, _, _, _, _, _, rfl, _⟩ := h; rfl; done))
theorem ok5 : DefOk Γ gl F5 gls exs (top 14) (Γ 14) := ⟨N5, ["a", "b"], sx_over, sc5, chk5, fun x K f fd F => F.bindsN fun _ _ _ _ _ _ us hl => (match us, hl with | [_, _], _ => rfl), fun ds g Q E h => len5 ds g Q E h, fun ds g Q E h => by rw [startD_len (N := N5) (M := ns_over) rfl]; exact pure_over rfl h⟩
abbrev N6 : List Str := ["a", "b"]
theorem chk6 : knS sx_is_less (ckOf N6 (defScope (top 15)) F6 gls exs) (defBody (top 15)) = true := by decide +kernel
theorem sc6 : FnScope N6 ["a", "b"] (defScope (top 15)) := ⟨rfl, rfl, rfl, by decide +kernel, rfl, by decide +kernel, by decide +kernel⟩
theorem len6 (ds : List D) (g : G) (Q : QD) (E : XD) (h : Γ 15 ds g Q E) : ds.length = 2 := by first | (obtain ⟨rfl, _⟩ := h; rfl; done) | (obtain ⟨_, rfl, _⟩ := h; rfl; done) | (obtain ⟨_, _, rfl, _⟩ := h; rfl; done) | (obtain ⟨_, _, _, rfl, _⟩ := h; rfl; done) | (obtain ⟨_, _, _, _, rfl, _⟩ := h; rfl; done) | (obtain ⟨_, _, _, _, _, rfl, _⟩ := h; rfl; done) | (obtain ⟨_, _, _, _, _, _, rfl, _⟩ := h; rfl; done) | (obtain ⟨_, _, _, _, _, _, _, rfl, _⟩ := h; rfl; done) | (obtain ⟨_, _, _, _, _, _, _, _, rfl, _⟩ := h; rfl; done) | (obtain ⟨_, _, _, _, _, _, _, _, _, rfl, _⟩ := h; rfl; done) | (obtain ⟨_, _, _, _, _, _, _, _, _, _, rfl, _⟩ := h; rfl; done) | (obtain ⟨_, _, _, _, _, _, _, _, _, _, _, rfl, _⟩ := h; rfl; done) | (obtain ⟨_, _, _, _, _, _, _, _, _, _, _, _, rfl, _⟩ := h; rfl; done) | (obtain ⟨_, _, _, _, _, _, _, _, _, _, _, _, _, rfl, _⟩ := h; rfl; done) | (rcases h with h | h <;> first | (obtain ⟨rfl, _⟩ := h; rfl; done) | (obtain ⟨_, rfl, _⟩ := h; rfl; done) | (obtain ⟨_, _, rfl, _⟩ := h; rfl; done) | (obtain ⟨_, _, _, rfl, _⟩ := h; rfl; done) | (obtain ⟨_, _, _, _, rfl, _⟩ := h; rfl; done) | (obtain ⟨_, _, _, _, _, rfl, _⟩ := h; rfl; done) | (obtain ⟨_, _, _, _, _, _, rfl, _⟩ := h; rfl; done) | (obtain ⟨_, _, _, _, _, _, _, rfl, _⟩ := h; rfl; done) | (obtain ⟨_, _, _, _, _, _, _, _, rfl, _⟩ := h; rfl; done) | (obtain ⟨_, _, _, _, _, _, _, _, _, rfl, _⟩ := h; rfl; done) | (obtain ⟨_, _, _, _, _, _, _, _, _, _, rfl, _⟩ := h; rfl; done) | (obtain ⟨_, _, _, _, _, _, _, _, _, _, _, rfl, _⟩ := h; rfl; done) | (obtain ⟨_, _, _, _, _, _, _, _, _, _, _, _, rfl, _⟩ := h; rfl; done) | (obtain ⟨_, _, _, _, _, _, _, _, _, _, _, _, _, rfl, _⟩ := h; rfl; done))
theorem ok6 : DefOk Γ gl F6 gls exs (top 15) (Γ 15) := ⟨N6, ["a", "b"], sx_is_less, sc6, chk6, fun x K f fd F => F.bindsN fun _ _ _ _ _ _ us hl => (match us, hl with | [_, _], _ => rfl), fun ds g Q E h => len6 ds g Q E h, fun ds g Q E h => by rw [startD_len (N := N6) (M := ns_is_less) rfl]; exact pure_is_less h⟩
abbrev N7 : List Str := ["numbers", "many"]
theorem chk7 : knS sx_curve_of (ckOf N7 (defScope (top 17)) F7 gls exs) (defBody (top 17)) = true := by decide +kernel
theorem sc7 : FnScope N7 ["numbers"] (defScope (top 17)) := ⟨rfl, rfl, rfl, by decide +kernel, rfl, by decide +kernel, by decide +kernel⟩
theorem len7 (ds : List D) (g : G) (Q : QD) (E : XD) (h : Γ 23 ds g Q E) : ds.length = 1 := by first | (obtain ⟨rfl, _⟩ := h; rfl; done) | (obtain ⟨_, rfl, _⟩ := h; rfl; done) | (obtain ⟨_, _, rfl, _⟩ := h; rfl; done) | (obtain ⟨_, _, _, rfl, _⟩ := h; rfl; done) | (obtain ⟨_, _, _, _, rfl, _⟩ := h; rfl; done) | (obtain ⟨_, _, _, _, _, rfl, _⟩ := h; rfl; done) | (obtain ⟨_, _, _, _, _, _, rfl, _⟩ := h; rfl; done) | (obtain ⟨_, _, _, _, _, _, _, rfl, _⟩ := h; rfl; done) | (obtain ⟨_, _, _, _, _, _, _, _, rfl, _⟩ := h; rfl; done) | (obtain ⟨_, _, _, _, _, _, _, _, _, rfl, _⟩ := h; rfl; done) | (obtain ⟨_, _, _, _, _, _, _, _, _, _, rfl, _⟩ := h; rfl; done) | (obtain ⟨_, _, _, _, _, _, _, _, _, _, _, rfl, _⟩ := h; rfl; done) | (obtain ⟨_, _, _, _, _, _, _, _, _, _, _, _, rfl, _⟩ := h; rfl; done) | (obtain ⟨_, _, _, _, _, _, _, _, _, _, _, _, _, rfl, _⟩ := h; rfl; done) | (rcases h with h | h <;> first | (obtain ⟨rfl, _⟩ := h; rfl; done) | (obtain ⟨_, rfl, _⟩ := h; rfl; done) | (obtain ⟨_, _, rfl, _⟩ := h; rfl; done) | (obtain ⟨_, _, _, rfl, _⟩ := h; rfl; done) | (obtain ⟨_, _, _, _, rfl, _⟩ := h; rfl; done) | (obtain ⟨_, _, _, _, _, rfl, _⟩ := h; rfl; done) | (obtain ⟨_, _, _, _, _, _, rfl, _⟩ := h; rfl; done) | (obtain ⟨_, _, _, _, _, _, _, rfl, _⟩ := h; rfl; done) | (obtain ⟨_, _, _, _, _, _, _, _, rfl, _⟩ := h; rfl; done) | (obtain ⟨_, _, _, _, _, _, _, _, _, rfl, _⟩ := h; rfl; done) | (obtain ⟨_, _, _, _, _, _, _, _, _, _, rfl, _⟩ := h; rfl; done) | (obtain ⟨_, _, _, _, _, _, _, _, _, _, _, rfl, _⟩ := h; rfl; done) | (obtain ⟨_, _, _, _, _, _, _, _, _, _, _, _, rfl, _⟩ := h; rfl; done) | (obtain ⟨_, _, _, _, _, _, _, _, _, _, _, _, _, rfl, _⟩ := h; rfl; done))
theorem ok7 : DefOk Γ gl F7 gls exs (top 17) (Γ 23) := ⟨N7, ["numbers"], sx_curve_of, sc7, chk7, fun x K f fd F => F.bindsN fun _ _ _ _ _ _ us hl => (match us, hl with | [_], _ => rfl), fun ds g Q E h => len7 ds g Q E h, fun ds g Q E h => by rw [startD_len (N := N7) (M := ns_curve_of) rfl]; exact pure_curve_of rfl h⟩
abbrev N8 : List Str := ["curve", "x", "found", "number"]
theorem chk8 : knS sx_height_at (ckOf N8 (defScope (top 18)) F8 gls exs) (defBody (top 18)) = true := by decide +kernel
theorem sc8 : FnScope N8 ["curve", "x"] (defScope (top 18)) := ⟨rfl, rfl, rfl, by decide +kernel, rfl, by decide +kernel, by decide +kernel⟩
theorem len8 (ds : List D) (g : G) (Q : QD) (E : XD) (h : Γ 24 ds g Q E) : ds.length = 2 := by first | (obtain ⟨rfl, _⟩ := h; rfl; done) | (obtain ⟨_, rfl, _⟩ := h; rfl; done) | (obtain ⟨_, _, rfl, _⟩ := h; rfl; done) | (obtain ⟨_, _, _, rfl, _⟩ := h; rfl; done) | (obtain ⟨_, _, _, _, rfl, _⟩ := h; rfl; done) | (obtain ⟨_, _, _, _, _, rfl, _⟩ := h; rfl; done) | (obtain ⟨_, _, _, _, _, _, rfl, _⟩ := h; rfl; done) | (obtain ⟨_, _, _, _, _, _, _, rfl, _⟩ := h; rfl; done) | (obtain ⟨_, _, _, _, _, _, _, _, rfl, _⟩ := h; rfl; done) | (obtain ⟨_, _, _, _, _, _, _, _, _, rfl, _⟩ := h; rfl; done) | (obtain ⟨_, _, _, _, _, _, _, _, _, _, rfl, _⟩ := h; rfl; done) | (obtain ⟨_, _, _, _, _, _, _, _, _, _, _, rfl, _⟩ := h; rfl; done) | (obtain ⟨_, _, _, _, _, _, _, _, _, _, _, _, rfl, _⟩ := h; rfl; done) | (obtain ⟨_, _, _, _, _, _, _, _, _, _, _, _, _, rfl, _⟩ := h; rfl; done) | (rcases h with h | h <;> first | (obtain ⟨rfl, _⟩ := h; rfl; done) | (obtain ⟨_, rfl, _⟩ := h; rfl; done) | (obtain ⟨_, _, rfl, _⟩ := h; rfl; done) | (obtain ⟨_, _, _, rfl, _⟩ := h; rfl; done) | (obtain ⟨_, _, _, _, rfl, _⟩ := h; rfl; done) | (obtain ⟨_, _, _, _, _, rfl, _⟩ := h; rfl; done) | (obtain ⟨_, _, _, _, _, _, rfl, _⟩ := h; rfl; done) | (obtain ⟨_, _, _, _, _, _, _, rfl, _⟩ := h; rfl; done) | (obtain ⟨_, _, _, _, _, _, _, _, rfl, _⟩ := h; rfl; done) | (obtain ⟨_, _, _, _, _, _, _, _, _, rfl, _⟩ := h; rfl; done) | (obtain ⟨_, _, _, _, _, _, _, _, _, _, rfl, _⟩ := h; rfl; done) | (obtain ⟨_, _, _, _, _, _, _, _, _, _, _, rfl, _⟩ := h; rfl; done) | (obtain ⟨_, _, _, _, _, _, _, _, _, _, _, _, rfl, _⟩ := h; rfl; done) | (obtain ⟨_, _, _, _, _, _, _, _, _, _, _, _, _, rfl, _⟩ := h; rfl; done))
theorem ok8 : DefOk Γ gl F8 gls exs (top 18) (Γ 24) := ⟨N8, ["curve", "x"], sx_height_at, sc8, chk8, fun x K f fd F => F.bindsN fun _ _ _ _ _ _ us hl => (match us, hl with | [_, _], _ => rfl), fun ds g Q E h => len8 ds g Q E h, fun ds g Q E h => by rw [startD_len (N := N8) (M := ns_height_at) rfl]; exact pure_height_at rfl rfl rfl h⟩
abbrev N9 : List Str := ["curve", "k"]
theorem chk9 : knS sx_number_at (ckOf N9 (defScope (top 19)) F9 gls exs) (defBody (top 19)) = true := by decide +kernel
theorem sc9 : FnScope N9 ["curve", "k"] (defScope (top 19)) := ⟨rfl, rfl, rfl, by decide +kernel, rfl, by decide +kernel, by decide +kernel⟩
theorem len9 (ds : List D) (g : G) (Q : QD) (E : XD) (h : Γ 30 ds g Q E) : ds.length = 2 := by first | (obtain ⟨rfl, _⟩ := h; rfl; done) | (obtain ⟨_, rfl, _⟩ := h; rfl; done) | (obtain ⟨_, _, rfl, _⟩ := h; rfl; done) | (obtain ⟨_, _, _, rfl, _⟩ := h; rfl; done) | (obtain ⟨_, _, _, _, rfl, _⟩ := h; rfl; done) | (obtain ⟨_, _, _, _, _, rfl, _⟩ := h; rfl; done) | (obtain ⟨_, _, _, _, _, _, rfl, _⟩ := h; rfl; done) | (obtain ⟨_, _, _, _, _, _, _, rfl, _⟩ := h; rfl; done) | (obtain ⟨_, _, _, _, _, _, _, _, rfl, _⟩ := h; rfl; done) | (obtain ⟨_, _, _, _, _, _, _, _, _, rfl, _⟩ := h; rfl; done) | (obtain ⟨_, _, _, _, _, _, _, _, _, _, rfl, _⟩ := h; rfl; done) | (obtain ⟨_, _, _, _, _, _, _, _, _, _, _, rfl, _⟩ := h; rfl; done) | (obtain ⟨_, _, _, _, _, _, _, _, _, _, _, _, rfl, _⟩ := h; rfl; done) | (obtain ⟨_, _, _, _, _, _, _, _, _, _, _, _, _, rfl, _⟩ := h; rfl; done) | (rcases h with h | h <;> first | (obtain ⟨rfl, _⟩ := h; rfl; done) | (obtain ⟨_, rfl, _⟩ := h; rfl; done) | (obtain ⟨_, _, rfl, _⟩ := h; rfl; done) | (obtain ⟨_, _, _, rfl, _⟩ := h; rfl; done) | (obtain ⟨_, _, _, _, rfl, _⟩ := h; rfl; done) | (obtain ⟨_, _, _, _, _, rfl, _⟩ := h; rfl; done) | (obtain ⟨_, _, _, _, _, _, rfl, _⟩ := h; rfl; done) | (obtain ⟨_, _, _, _, _, _, _, rfl, _⟩ := h; rfl; done) | (obtain ⟨_, _, _, _, _, _, _, _, rfl, _⟩ := h; rfl; done) | (obtain ⟨_, _, _, _, _, _, _, _, _, rfl, _⟩ := h; rfl; done) | (obtain ⟨_, _, _, _, _, _, _, _, _, _, rfl, _⟩ := h; rfl; done) | (obtain ⟨_, _, _, _, _, _, _, _, _, _, _, rfl, _⟩ := h; rfl; done) | (obtain ⟨_, _, _, _, _, _, _, _, _, _, _, _, rfl, _⟩ := h; rfl; done) | (obtain ⟨_, _, _, _, _, _, _, _, _, _, _, _, _, rfl, _⟩ := h; rfl; done))
theorem ok9 : DefOk Γ gl F9 gls exs (top 19) (Γ 30) := ⟨N9, ["curve", "k"], sx_number_at, sc9, chk9, fun x K f fd F => F.bindsN fun _ _ _ _ _ _ us hl => (match us, hl with | [_, _], _ => rfl), fun ds g Q E h => len9 ds g Q E h, fun ds g Q E h => by rw [startD_len (N := N9) (M := ns_number_at) rfl]; exact pure_number_at rfl h⟩
abbrev N10 : List Str := ["one", "other", "many", "k"]
theorem chk10 : knS sx_added (ckOf N10 (defScope (top 20)) F10 gls exs) (defBody (top 20)) = true := by decide +kernel
theorem sc10 : FnScope N10 ["one", "other"] (defScope (top 20)) := ⟨rfl, rfl, rfl, by decide +kernel, rfl, by decide +kernel, by decide +kernel⟩
theorem len10 (ds : List D) (g : G) (Q : QD) (E : XD) (h : Γ 31 ds g Q E) : ds.length = 2 := by first | (obtain ⟨rfl, _⟩ := h; rfl; done) | (obtain ⟨_, rfl, _⟩ := h; rfl; done) | (obtain ⟨_, _, rfl, _⟩ := h; rfl; done) | (obtain ⟨_, _, _, rfl, _⟩ := h; rfl; done) | (obtain ⟨_, _, _, _, rfl, _⟩ := h; rfl; done) | (obtain ⟨_, _, _, _, _, rfl, _⟩ := h; rfl; done) | (obtain ⟨_, _, _, _, _, _, rfl, _⟩ := h; rfl; done) | (obtain ⟨_, _, _, _, _, _, _, rfl, _⟩ := h; rfl; done) | (obtain ⟨_, _, _, _, _, _, _, _, rfl, _⟩ := h; rfl; done) | (obtain ⟨_, _, _, _, _, _, _, _, _, rfl, _⟩ := h; rfl; done) | (obtain ⟨_, _, _, _, _, _, _, _, _, _, rfl, _⟩ := h; rfl; done) | (obtain ⟨_, _, _, _, _, _, _, _, _, _, _, rfl, _⟩ := h; rfl; done) | (obtain ⟨_, _, _, _, _, _, _, _, _, _, _, _, rfl, _⟩ := h; rfl; done) | (obtain ⟨_, _, _, _, _, _, _, _, _, _, _, _, _, rfl, _⟩ := h; rfl; done) | (rcases h with h | h <;> first | (obtain ⟨rfl, _⟩ := h; rfl; done) | (obtain ⟨_, rfl, _⟩ := h; rfl; done) | (obtain ⟨_, _, rfl, _⟩ := h; rfl; done) | (obtain ⟨_, _, _, rfl, _⟩ := h; rfl; done) | (obtain ⟨_, _, _, _, rfl, _⟩ := h; rfl; done) | (obtain ⟨_, _, _, _, _, rfl, _⟩ := h; rfl; done) | (obtain ⟨_, _, _, _, _, _, rfl, _⟩ := h; rfl; done) | (obtain ⟨_, _, _, _, _, _, _, rfl, _⟩ := h; rfl; done) | (obtain ⟨_, _, _, _, _, _, _, _, rfl, _⟩ := h; rfl; done) | (obtain ⟨_, _, _, _, _, _, _, _, _, rfl, _⟩ := h; rfl; done) | (obtain ⟨_, _, _, _, _, _, _, _, _, _, rfl, _⟩ := h; rfl; done) | (obtain ⟨_, _, _, _, _, _, _, _, _, _, _, rfl, _⟩ := h; rfl; done) | (obtain ⟨_, _, _, _, _, _, _, _, _, _, _, _, rfl, _⟩ := h; rfl; done) | (obtain ⟨_, _, _, _, _, _, _, _, _, _, _, _, _, rfl, _⟩ := h; rfl; done))
theorem ok10 : DefOk Γ gl F10 gls exs (top 20) (Γ 31) := ⟨N10, ["one", "other"], sx_added, sc10, chk10, fun x K f fd F => F.bindsN fun _ _ _ _ _ _ us hl => (match us, hl with | [_, _], _ => rfl), fun ds g Q E h => len10 ds g Q E h, fun ds g Q E h => by rw [startD_len (N := N10) (M := ns_added) rfl]; exact pure_added rfl rfl rfl h⟩
abbrev N11 : List Str := ["one", "other", "many", "k"]
theorem chk11 : knS sx_lessened (ckOf N11 (defScope (top 21)) F11 gls exs) (defBody (top 21)) = true := by decide +kernel
theorem sc11 : FnScope N11 ["one", "other"] (defScope (top 21)) := ⟨rfl, rfl, rfl, by decide +kernel, rfl, by decide +kernel, by decide +kernel⟩
theorem len11 (ds : List D) (g : G) (Q : QD) (E : XD) (h : Γ 32 ds g Q E) : ds.length = 2 := by first | (obtain ⟨rfl, _⟩ := h; rfl; done) | (obtain ⟨_, rfl, _⟩ := h; rfl; done) | (obtain ⟨_, _, rfl, _⟩ := h; rfl; done) | (obtain ⟨_, _, _, rfl, _⟩ := h; rfl; done) | (obtain ⟨_, _, _, _, rfl, _⟩ := h; rfl; done) | (obtain ⟨_, _, _, _, _, rfl, _⟩ := h; rfl; done) | (obtain ⟨_, _, _, _, _, _, rfl, _⟩ := h; rfl; done) | (obtain ⟨_, _, _, _, _, _, _, rfl, _⟩ := h; rfl; done) | (obtain ⟨_, _, _, _, _, _, _, _, rfl, _⟩ := h; rfl; done) | (obtain ⟨_, _, _, _, _, _, _, _, _, rfl, _⟩ := h; rfl; done) | (obtain ⟨_, _, _, _, _, _, _, _, _, _, rfl, _⟩ := h; rfl; done) | (obtain ⟨_, _, _, _, _, _, _, _, _, _, _, rfl, _⟩ := h; rfl; done) | (obtain ⟨_, _, _, _, _, _, _, _, _, _, _, _, rfl, _⟩ := h; rfl; done) | (obtain ⟨_, _, _, _, _, _, _, _, _, _, _, _, _, rfl, _⟩ := h; rfl; done) | (rcases h with h | h <;> first | (obtain ⟨rfl, _⟩ := h; rfl; done) | (obtain ⟨_, rfl, _⟩ := h; rfl; done) | (obtain ⟨_, _, rfl, _⟩ := h; rfl; done) | (obtain ⟨_, _, _, rfl, _⟩ := h; rfl; done) | (obtain ⟨_, _, _, _, rfl, _⟩ := h; rfl; done) | (obtain ⟨_, _, _, _, _, rfl, _⟩ := h; rfl; done) | (obtain ⟨_, _, _, _, _, _, rfl, _⟩ := h; rfl; done) | (obtain ⟨_, _, _, _, _, _, _, rfl, _⟩ := h; rfl; done) | (obtain ⟨_, _, _, _, _, _, _, _, rfl, _⟩ := h; rfl; done) | (obtain ⟨_, _, _, _, _, _, _, _, _, rfl, _⟩ := h; rfl; done) | (obtain ⟨_, _, _, _, _, _, _, _, _, _, rfl, _⟩ := h; rfl; done) | (obtain ⟨_, _, _, _, _, _, _, _, _, _, _, rfl, _⟩ := h; rfl; done) | (obtain ⟨_, _, _, _, _, _, _, _, _, _, _, _, rfl, _⟩ := h; rfl; done) | (obtain ⟨_, _, _, _, _, _, _, _, _, _, _, _, _, rfl, _⟩ := h; rfl; done))
theorem ok11 : DefOk Γ gl F11 gls exs (top 21) (Γ 32) := ⟨N11, ["one", "other"], sx_lessened, sc11, chk11, fun x K f fd F => F.bindsN fun _ _ _ _ _ _ us hl => (match us, hl with | [_, _], _ => rfl), fun ds g Q E h => len11 ds g Q E h, fun ds g Q E h => by rw [startD_len (N := N11) (M := ns_lessened) rfl]; exact pure_lessened rfl rfl rfl h⟩
abbrev N12 : List Str := ["curve", "number", "own"]
theorem chk12 : knS sx_scaled (ckOf N12 (defScope (top 22)) F12 gls exs) (defBody (top 22)) = true := by decide +kernel
theorem sc12 : FnScope N12 ["curve", "number"] (defScope (top 22)) := ⟨rfl, rfl, rfl, by decide +kernel, rfl, by decide +kernel, by decide +kernel⟩
theorem len12 (ds : List D) (g : G) (Q : QD) (E : XD) (h : Γ 33 ds g Q E) : ds.length = 2 := by first | (obtain ⟨rfl, _⟩ := h; rfl; done) | (obtain ⟨_, rfl, _⟩ := h; rfl; done) | (obtain ⟨_, _, rfl, _⟩ := h; rfl; done) | (obtain ⟨_, _, _, rfl, _⟩ := h; rfl; done) | (obtain ⟨_, _, _, _, rfl, _⟩ := h; rfl; done) | (obtain ⟨_, _, _, _, _, rfl, _⟩ := h; rfl; done) | (obtain ⟨_, _, _, _, _, _, rfl, _⟩ := h; rfl; done) | (obtain ⟨_, _, _, _, _, _, _, rfl, _⟩ := h; rfl; done) | (obtain ⟨_, _, _, _, _, _, _, _, rfl, _⟩ := h; rfl; done) | (obtain ⟨_, _, _, _, _, _, _, _, _, rfl, _⟩ := h; rfl; done) | (obtain ⟨_, _, _, _, _, _, _, _, _, _, rfl, _⟩ := h; rfl; done) | (obtain ⟨_, _, _, _, _, _, _, _, _, _, _, rfl, _⟩ := h; rfl; done) | (obtain ⟨_, _, _, _, _, _, _, _, _, _, _, _, rfl, _⟩ := h; rfl; done) | (obtain ⟨_, _, _, _, _, _, _, _, _, _, _, _, _, rfl, _⟩ := h; rfl; done) | (rcases h with h | h <;> first | (obtain ⟨rfl, _⟩ := h; rfl; done) | (obtain ⟨_, rfl, _⟩ := h; rfl; done) | (obtain ⟨_, _, rfl, _⟩ := h; rfl; done) | (obtain ⟨_, _, _, rfl, _⟩ := h; rfl; done) | (obtain ⟨_, _, _, _, rfl, _⟩ := h; rfl; done) | (obtain ⟨_, _, _, _, _, rfl, _⟩ := h; rfl; done) | (obtain ⟨_, _, _, _, _, _, rfl, _⟩ := h; rfl; done) | (obtain ⟨_, _, _, _, _, _, _, rfl, _⟩ := h; rfl; done) | (obtain ⟨_, _, _, _, _, _, _, _, rfl, _⟩ := h; rfl; done) | (obtain ⟨_, _, _, _, _, _, _, _, _, rfl, _⟩ := h; rfl; done) | (obtain ⟨_, _, _, _, _, _, _, _, _, _, rfl, _⟩ := h; rfl; done) | (obtain ⟨_, _, _, _, _, _, _, _, _, _, _, rfl, _⟩ := h; rfl; done) | (obtain ⟨_, _, _, _, _, _, _, _, _, _, _, _, rfl, _⟩ := h; rfl; done) | (obtain ⟨_, _, _, _, _, _, _, _, _, _, _, _, _, rfl, _⟩ := h; rfl; done))
theorem ok12 : DefOk Γ gl F12 gls exs (top 22) (Γ 33) := ⟨N12, ["curve", "number"], sx_scaled, sc12, chk12, fun x K f fd F => F.bindsN fun _ _ _ _ _ _ us hl => (match us, hl with | [_, _], _ => rfl), fun ds g Q E h => len12 ds g Q E h, fun ds g Q E h => by rw [startD_len (N := N12) (M := ns_scaled) rfl]; exact pure_scaled rfl rfl h⟩
abbrev N13 : List Str := ["one", "other", "found", "j", "first", "k", "second"]
theorem chk13 : knS sx_multiplied (ckOf N13 (defScope (top 23)) F13 gls exs) (defBody (top 23)) = true := by decide +kernel
theorem sc13 : FnScope N13 ["one", "other"] (defScope (top 23)) := ⟨rfl, rfl, rfl, by decide +kernel, rfl, by decide +kernel, by decide +kernel⟩
theorem len13 (ds : List D) (g : G) (Q : QD) (E : XD) (h : Γ 34 ds g Q E) : ds.length = 2 := by first | (obtain ⟨rfl, _⟩ := h; rfl; done) | (obtain ⟨_, rfl, _⟩ := h; rfl; done) | (obtain ⟨_, _, rfl, _⟩ := h; rfl; done) | (obtain ⟨_, _, _, rfl, _⟩ := h; rfl; done) | (obtain ⟨_, _, _, _, rfl, _⟩ := h; rfl; done) | (obtain ⟨_, _, _, _, _, rfl, _⟩ := h; rfl; done) | (obtain ⟨_, _, _, _, _, _, rfl, _⟩ := h; rfl; done) | (obtain ⟨_, _, _, _, _, _, _, rfl, _⟩ := h; rfl; done) | (obtain ⟨_, _, _, _, _, _, _, _, rfl, _⟩ := h; rfl; done) | (obtain ⟨_, _, _, _, _, _, _, _, _, rfl, _⟩ := h; rfl; done) | (obtain ⟨_, _, _, _, _, _, _, _, _, _, rfl, _⟩ := h; rfl; done) | (obtain ⟨_, _, _, _, _, _, _, _, _, _, _, rfl, _⟩ := h; rfl; done) | (obtain ⟨_, _, _, _, _, _, _, _, _, _, _, _, rfl, _⟩ := h; rfl; done) | (obtain ⟨_, _, _, _, _, _, _, _, _, _, _, _, _, rfl, _⟩ := h; rfl; done) | (rcases h with h | h <;> first | (obtain ⟨rfl, _⟩ := h; rfl; done) | (obtain ⟨_, rfl, _⟩ := h; rfl; done) | (obtain ⟨_, _, rfl, _⟩ := h; rfl; done) | (obtain ⟨_, _, _, rfl, _⟩ := h; rfl; done) | (obtain ⟨_, _, _, _, rfl, _⟩ := h; rfl; done) | (obtain ⟨_, _, _, _, _, rfl, _⟩ := h; rfl; done) | (obtain ⟨_, _, _, _, _, _, rfl, _⟩ := h; rfl; done) | (obtain ⟨_, _, _, _, _, _, _, rfl, _⟩ := h; rfl; done) | (obtain ⟨_, _, _, _, _, _, _, _, rfl, _⟩ := h; rfl; done) | (obtain ⟨_, _, _, _, _, _, _, _, _, rfl, _⟩ := h; rfl; done) | (obtain ⟨_, _, _, _, _, _, _, _, _, _, rfl, _⟩ := h; rfl; done) | (obtain ⟨_, _, _, _, _, _, _, _, _, _, _, rfl, _⟩ := h; rfl; done) | (obtain ⟨_, _, _, _, _, _, _, _, _, _, _, _, rfl, _⟩ := h; rfl; done) | (obtain ⟨_, _, _, _, _, _, _, _, _, _, _, _, _, rfl, _⟩ := h; rfl; done))
theorem ok13 : DefOk Γ gl F13 gls exs (top 23) (Γ 34) := ⟨N13, ["one", "other"], sx_multiplied, sc13, chk13, fun x K f fd F => F.bindsN fun _ _ _ _ _ _ us hl => (match us, hl with | [_, _], _ => rfl), fun ds g Q E h => len13 ds g Q E h, fun ds g Q E h => by rw [startD_len (N := N13) (M := ns_multiplied) rfl]; exact pure_multiplied rfl rfl rfl rfl h⟩
abbrev N14 : List Str := ["one", "other", "often", "rest", "at", "k"]
theorem chk14 : knS sx_divided (ckOf N14 (defScope (top 25)) F14 gls exs) (defBody (top 25)) = true := by decide +kernel
theorem sc14 : FnScope N14 ["one", "other"] (defScope (top 25)) := ⟨rfl, rfl, rfl, by decide +kernel, rfl, by decide +kernel, by decide +kernel⟩
theorem len14 (ds : List D) (g : G) (Q : QD) (E : XD) (h : Γ 44 ds g Q E) : ds.length = 2 := by first | (obtain ⟨rfl, _⟩ := h; rfl; done) | (obtain ⟨_, rfl, _⟩ := h; rfl; done) | (obtain ⟨_, _, rfl, _⟩ := h; rfl; done) | (obtain ⟨_, _, _, rfl, _⟩ := h; rfl; done) | (obtain ⟨_, _, _, _, rfl, _⟩ := h; rfl; done) | (obtain ⟨_, _, _, _, _, rfl, _⟩ := h; rfl; done) | (obtain ⟨_, _, _, _, _, _, rfl, _⟩ := h; rfl; done) | (obtain ⟨_, _, _, _, _, _, _, rfl, _⟩ := h; rfl; done) | (obtain ⟨_, _, _, _, _, _, _, _, rfl, _⟩ := h; rfl; done) | (obtain ⟨_, _, _, _, _, _, _, _, _, rfl, _⟩ := h; rfl; done) | (obtain ⟨_, _, _, _, _, _, _, _, _, _, rfl, _⟩ := h; rfl; done) | (obtain ⟨_, _, _, _, _, _, _, _, _, _, _, rfl, _⟩ := h; rfl; done) | (obtain ⟨_, _, _, _, _, _, _, _, _, _, _, _, rfl, _⟩ := h; rfl; done) | (obtain ⟨_, _, _, _, _, _, _, _, _, _, _, _, _, rfl, _⟩ := h; rfl; done) | (rcases h with h | h <;> first | (obtain ⟨rfl, _⟩ := h; rfl; done) | (obtain ⟨_, rfl, _⟩ := h; rfl; done) | (obtain ⟨_, _, rfl, _⟩ := h; rfl; done) | (obtain ⟨_, _, _, rfl, _⟩ := h; rfl; done) | (obtain ⟨_, _, _, _, rfl, _⟩ := h; rfl; done) | (obtain ⟨_, _, _, _, _, rfl, _⟩ := h; rfl; done) | (obtain ⟨_, _, _, _, _, _, rfl, _⟩ := h; rfl; done) | (obtain ⟨_, _, _, _, _, _, _, rfl, _⟩ := h; rfl; done) | (obtain ⟨_, _, _, _, _, _, _, _, rfl, _⟩ := h; rfl; done) | (obtain ⟨_, _, _, _, _, _, _, _, _, rfl, _⟩ := h; rfl; done) | (obtain ⟨_, _, _, _, _, _, _, _, _, _, rfl, _⟩ := h; rfl; done) | (obtain ⟨_, _, _, _, _, _, _, _, _, _, _, rfl, _⟩ := h; rfl; done) | (obtain ⟨_, _, _, _, _, _, _, _, _, _, _, _, rfl, _⟩ := h; rfl; done) | (obtain ⟨_, _, _, _, _, _, _, _, _, _, _, _, _, rfl, _⟩ := h; rfl; done))
theorem ok14 : DefOk Γ gl F14 gls exs (top 25) (Γ 44) := ⟨N14, ["one", "other"], sx_divided, sc14, chk14, fun x K f fd F => F.bindsN fun _ _ _ _ _ _ us hl => (match us, hl with | [_, _], _ => rfl), fun ds g Q E h => len14 ds g Q E h, fun ds g Q E h => by rw [startD_len (N := N14) (M := ns_divided) rfl]; exact pure_divided__H rfl rfl rfl rfl rfl h⟩
abbrev N15 : List Str := ["curve"]
theorem chk15 : knS sx_with_last_one (ckOf N15 (defScope (top 26)) F15 gls exs) (defBody (top 26)) = true := by decide +kernel
theorem sc15 : FnScope N15 ["curve"] (defScope (top 26)) := ⟨rfl, rfl, rfl, by decide +kernel, rfl, by decide +kernel, by decide +kernel⟩
theorem len15 (ds : List D) (g : G) (Q : QD) (E : XD) (h : Γ 49 ds g Q E) : ds.length = 1 := by first | (obtain ⟨rfl, _⟩ := h; rfl; done) | (obtain ⟨_, rfl, _⟩ := h; rfl; done) | (obtain ⟨_, _, rfl, _⟩ := h; rfl; done) | (obtain ⟨_, _, _, rfl, _⟩ := h; rfl; done) | (obtain ⟨_, _, _, _, rfl, _⟩ := h; rfl; done) | (obtain ⟨_, _, _, _, _, rfl, _⟩ := h; rfl; done) | (obtain ⟨_, _, _, _, _, _, rfl, _⟩ := h; rfl; done) | (obtain ⟨_, _, _, _, _, _, _, rfl, _⟩ := h; rfl; done) | (obtain ⟨_, _, _, _, _, _, _, _, rfl, _⟩ := h; rfl; done) | (obtain ⟨_, _, _, _, _, _, _, _, _, rfl, _⟩ := h; rfl; done) | (obtain ⟨_, _, _, _, _, _, _, _, _, _, rfl, _⟩ := h; rfl; done) | (obtain ⟨_, _, _, _, _, _, _, _, _, _, _, rfl, _⟩ := h; rfl; done) | (obtain ⟨_, _, _, _, _, _, _, _, _, _, _, _, rfl, _⟩ := h; rfl; done) | (obtain ⟨_, _, _, _, _, _, _, _, _, _, _, _, _, rfl, _⟩ := h; rfl; done) | (rcases h with h | h <;> first | (obtain ⟨rfl, _⟩ := h; rfl; done) | (obtain ⟨_, rfl, _⟩ := h; rfl; done) | (obtain ⟨_, _, rfl, _⟩ := h; rfl; done) | (obtain ⟨_, _, _, rfl, _⟩ := h; rfl; done) | (obtain ⟨_, _, _, _, rfl, _⟩ := h; rfl; done) | (obtain ⟨_, _, _, _, _, rfl, _⟩ := h; rfl; done) | (obtain ⟨_, _, _, _, _, _, rfl, _⟩ := h; rfl; done) | (obtain ⟨_, _, _, _, _, _, _, rfl, _⟩ := h; rfl; done) | (obtain ⟨_, _, _, _, _, _, _, _, rfl, _⟩ := h; rfl; done) | (obtain ⟨_, _, _, _, _, _, _, _, _, rfl, _⟩ := h; rfl; done) | (obtain ⟨_, _, _, _, _, _, _, _, _, _, rfl, _⟩ := h; rfl; done) | (obtain ⟨_, _, _, _, _, _, _, _, _, _, _, rfl, _⟩ := h; rfl; done) | (obtain ⟨_, _, _, _, _, _, _, _, _, _, _, _, rfl, _⟩ := h; rfl; done) | (obtain ⟨_, _, _, _, _, _, _, _, _, _, _, _, _, rfl, _⟩ := h; rfl; done))
theorem ok15 : DefOk Γ gl F15 gls exs (top 26) (Γ 49) := ⟨N15, ["curve"], sx_with_last_one, sc15, chk15, fun x K f fd F => F.bindsN fun _ _ _ _ _ _ us hl => (match us, hl with | [_], _ => rfl), fun ds g Q E h => len15 ds g Q E h, fun ds g Q E h => by rw [startD_len (N := N15) (M := ns_with_last_one) rfl]; exact pure_with_last_one rfl rfl rfl h⟩
abbrev N16 : List Str := ["one", "other"]
theorem chk16 : knS sx_common_part (ckOf N16 (defScope (top 27)) F16 gls exs) (defBody (top 27)) = true := by decide +kernel
theorem sc16 : FnScope N16 ["one", "other"] (defScope (top 27)) := ⟨rfl, rfl, rfl, by decide +kernel, rfl, by decide +kernel, by decide +kernel⟩
theorem len16 (ds : List D) (g : G) (Q : QD) (E : XD) (h : Γ 50 ds g Q E) : ds.length = 2 := by first | (obtain ⟨rfl, _⟩ := h; rfl; done) | (obtain ⟨_, rfl, _⟩ := h; rfl; done) | (obtain ⟨_, _, rfl, _⟩ := h; rfl; done) | (obtain ⟨_, _, _, rfl, _⟩ := h; rfl; done) | (obtain ⟨_, _, _, _, rfl, _⟩ := h; rfl; done) | (obtain ⟨_, _, _, _, _, rfl, _⟩ := h; rfl; done) | (obtain ⟨_, _, _, _, _, _, rfl, _⟩ := h; rfl; done) | (obtain ⟨_, _, _, _, _, _, _, rfl, _⟩ := h; rfl; done) | (obtain ⟨_, _, _, _, _, _, _, _, rfl, _⟩ := h; rfl; done) | (obtain ⟨_, _, _, _, _, _, _, _, _, rfl, _⟩ := h; rfl; done) | (obtain ⟨_, _, _, _, _, _, _, _, _, _, rfl, _⟩ := h; rfl; done) | (obtain ⟨_, _, _, _, _, _, _, _, _, _, _, rfl, _⟩ := h; rfl; done) | (obtain ⟨_, _, _, _, _, _, _, _, _, _, _, _, rfl, _⟩ := h; rfl; done) | (obtain ⟨_, _, _, _, _, _, _, _, _, _, _, _, _, rfl, _⟩ := h; rfl; done) | (rcases h with h | h <;> first | (obtain ⟨rfl, _⟩ := h; rfl; done) | (obtain ⟨_, rfl, _⟩ := h; rfl; done) | (obtain ⟨_, _, rfl, _⟩ := h; rfl; done) | (obtain ⟨_, _, _, rfl, _⟩ := h; rfl; done) | (obtain ⟨_, _, _, _, rfl, _⟩ := h; rfl; done) | (obtain ⟨_, _, _, _, _, rfl, _⟩ := h; rfl; done) | (obtain ⟨_, _, _, _, _, _, rfl, _⟩ := h; rfl; done) | (obtain ⟨_, _, _, _, _, _, _, rfl, _⟩ := h; rfl; done) | (obtain ⟨_, _, _, _, _, _, _, _, rfl, _⟩ := h; rfl; done) | (obtain ⟨_, _, _, _, _, _, _, _, _, rfl, _⟩ := h; rfl; done) | (obtain ⟨_, _, _, _, _, _, _, _, _, _, rfl, _⟩ := h; rfl; done) | (obtain ⟨_, _, _, _, _, _, _, _, _, _, _, rfl, _⟩ := h; rfl; done) | (obtain ⟨_, _, _, _, _, _, _, _, _, _, _, _, rfl, _⟩ := h; rfl; done) | (obtain ⟨_, _, _, _, _, _, _, _, _, _, _, _, _, rfl, _⟩ := h; rfl; done))
theorem ok16 : DefOk Γ gl F16 gls exs (top 27) (Γ 50) := ⟨N16, ["one", "other"], sx_common_part, sc16, chk16, fun x K f fd F => F.bindsN fun _ _ _ _ _ _ us hl => (match us, hl with | [_, _], _ => rfl), fun ds g Q E h => len16 ds g Q E h, fun ds g Q E h => by rw [startD_len (N := N16) (M := ns_common_part) rfl]; exact pure_common_part__H rfl rfl h⟩
abbrev N17 : List Str := ["points", "found", "point", "k", "number"]
theorem chk17 : knS sx_told_in (ckOf N17 (defScope (top 29)) F17 gls exs) (defBody (top 29)) = true := by decide +kernel
theorem sc17 : FnScope N17 ["points"] (defScope (top 29)) := ⟨rfl, rfl, rfl, by decide +kernel, rfl, by decide +kernel, by decide +kernel⟩
theorem len17 (ds : List D) (g : G) (Q : QD) (E : XD) (h : Γ 69 ds g Q E) : ds.length = 1 := by first | (obtain ⟨rfl, _⟩ := h; rfl; done) | (obtain ⟨_, rfl, _⟩ := h; rfl; done) | (obtain ⟨_, _, rfl, _⟩ := h; rfl; done) | (obtain ⟨_, _, _, rfl, _⟩ := h; rfl; done) | (obtain ⟨_, _, _, _, rfl, _⟩ := h; rfl; done) | (obtain ⟨_, _, _, _, _, rfl, _⟩ := h; rfl; done) | (obtain ⟨_, _, _, _, _, _, rfl, _⟩ := h; rfl; done) | (obtain ⟨_, _, _, _, _, _, _, rfl, _⟩ := h; rfl; done) | (obtain ⟨_, _, _, _, _, _, _, _, rfl, _⟩ := h; rfl; done) | (obtain ⟨_, _, _, _, _, _, _, _, _, rfl, _⟩ := h; rfl; done) | (obtain ⟨_, _, _, _, _, _, _, _, _, _, rfl, _⟩ := h; rfl; done) | (obtain ⟨_, _, _, _, _, _, _, _, _, _, _, rfl, _⟩ := h; rfl; done) | (obtain ⟨_, _, _, _, _, _, _, _, _, _, _, _, rfl, _⟩ := h; rfl; done) | (obtain ⟨_, _, _, _, _, _, _, _, _, _, _, _, _, rfl, _⟩ := h; rfl; done) | (rcases h with h | h <;> first | (obtain ⟨rfl, _⟩ := h; rfl; done) | (obtain ⟨_, rfl, _⟩ := h; rfl; done) | (obtain ⟨_, _, rfl, _⟩ := h; rfl; done) | (obtain ⟨_, _, _, rfl, _⟩ := h; rfl; done) | (obtain ⟨_, _, _, _, rfl, _⟩ := h; rfl; done) | (obtain ⟨_, _, _, _, _, rfl, _⟩ := h; rfl; done) | (obtain ⟨_, _, _, _, _, _, rfl, _⟩ := h; rfl; done) | (obtain ⟨_, _, _, _, _, _, _, rfl, _⟩ := h; rfl; done) | (obtain ⟨_, _, _, _, _, _, _, _, rfl, _⟩ := h; rfl; done) | (obtain ⟨_, _, _, _, _, _, _, _, _, rfl, _⟩ := h; rfl; done) | (obtain ⟨_, _, _, _, _, _, _, _, _, _, rfl, _⟩ := h; rfl; done) | (obtain ⟨_, _, _, _, _, _, _, _, _, _, _, rfl, _⟩ := h; rfl; done) | (obtain ⟨_, _, _, _, _, _, _, _, _, _, _, _, rfl, _⟩ := h; rfl; done) | (obtain ⟨_, _, _, _, _, _, _, _, _, _, _, _, _, rfl, _⟩ := h; rfl; done))
theorem ok17 : DefOk Γ gl F17 gls exs (top 29) (Γ 69) := ⟨N17, ["points"], sx_told_in, sc17, chk17, fun x K f fd F => F.bindsN fun _ _ _ _ _ _ us hl => (match us, hl with | [_], _ => rfl), fun ds g Q E h => len17 ds g Q E h, fun ds g Q E h => by rw [startD_len (N := N17) (M := ns_told_in) rfl]; exact pure_told_in h⟩
abbrev N18 : List Str := ["told", "found", "x", "k", "number"]
theorem chk18 : knS sx_first_row (ckOf N18 (defScope (top 33)) F18 gls exs) (defBody (top 33)) = true := by decide +kernel
theorem sc18 : FnScope N18 ["told"] (defScope (top 33)) := ⟨rfl, rfl, rfl, by decide +kernel, rfl, by decide +kernel, by decide +kernel⟩
theorem len18 (ds : List D) (g : G) (Q : QD) (E : XD) (h : Γ 82 ds g Q E) : ds.length = 1 := by first | (obtain ⟨rfl, _⟩ := h; rfl; done) | (obtain ⟨_, rfl, _⟩ := h; rfl; done) | (obtain ⟨_, _, rfl, _⟩ := h; rfl; done) | (obtain ⟨_, _, _, rfl, _⟩ := h; rfl; done) | (obtain ⟨_, _, _, _, rfl, _⟩ := h; rfl; done) | (obtain ⟨_, _, _, _, _, rfl, _⟩ := h; rfl; done) | (obtain ⟨_, _, _, _, _, _, rfl, _⟩ := h; rfl; done) | (obtain ⟨_, _, _, _, _, _, _, rfl, _⟩ := h; rfl; done) | (obtain ⟨_, _, _, _, _, _, _, _, rfl, _⟩ := h; rfl; done) | (obtain ⟨_, _, _, _, _, _, _, _, _, rfl, _⟩ := h; rfl; done) | (obtain ⟨_, _, _, _, _, _, _, _, _, _, rfl, _⟩ := h; rfl; done) | (obtain ⟨_, _, _, _, _, _, _, _, _, _, _, rfl, _⟩ := h; rfl; done) | (obtain ⟨_, _, _, _, _, _, _, _, _, _, _, _, rfl, _⟩ := h; rfl; done) | (obtain ⟨_, _, _, _, _, _, _, _, _, _, _, _, _, rfl, _⟩ := h; rfl; done) | (rcases h with h | h <;> first | (obtain ⟨rfl, _⟩ := h; rfl; done) | (obtain ⟨_, rfl, _⟩ := h; rfl; done) | (obtain ⟨_, _, rfl, _⟩ := h; rfl; done) | (obtain ⟨_, _, _, rfl, _⟩ := h; rfl; done) | (obtain ⟨_, _, _, _, rfl, _⟩ := h; rfl; done) | (obtain ⟨_, _, _, _, _, rfl, _⟩ := h; rfl; done) | (obtain ⟨_, _, _, _, _, _, rfl, _⟩ := h; rfl; done) | (obtain ⟨_, _, _, _, _, _, _, rfl, _⟩ := h; rfl; done) | (obtain ⟨_, _, _, _, _, _, _, _, rfl, _⟩ := h; rfl; done) | (obtain ⟨_, _, _, _, _, _, _, _, _, rfl, _⟩ := h; rfl; done) | (obtain ⟨_, _, _, _, _, _, _, _, _, _, rfl, _⟩ := h; rfl; done) | (obtain ⟨_, _, _, _, _, _, _, _, _, _, _, rfl, _⟩ := h; rfl; done) | (obtain ⟨_, _, _, _, _, _, _, _, _, _, _, _, rfl, _⟩ := h; rfl; done) | (obtain ⟨_, _, _, _, _, _, _, _, _, _, _, _, _, rfl, _⟩ := h; rfl; done))
theorem ok18 : DefOk Γ gl F18 gls exs (top 33) (Γ 82) := ⟨N18, ["told"], sx_first_row, sc18, chk18, fun x K f fd F => F.bindsN fun _ _ _ _ _ _ us hl => (match us, hl with | [_], _ => rfl), fun ds g Q E h => len18 ds g Q E h, fun ds g Q E h => by rw [startD_len (N := N18) (M := ns_first_row) rfl]; exact pure_first_row h⟩
abbrev N19 : List Str := ["told", "row", "k", "found", "at", "here", "there"]
theorem chk19 : knS sx_next_row (ckOf N19 (defScope (top 34)) F19 gls exs) (defBody (top 34)) = true := by decide +kernel
theorem sc19 : FnScope N19 ["told", "row", "k"] (defScope (top 34)) := ⟨rfl, rfl, rfl, by decide +kernel, rfl, by decide +kernel, by decide +kernel⟩
theorem len19 (ds : List D) (g : G) (Q : QD) (E : XD) (h : Γ 83 ds g Q E) : ds.length = 3 := by first | (obtain ⟨rfl, _⟩ := h; rfl; done) | (obtain ⟨_, rfl, _⟩ := h; rfl; done) | (obtain ⟨_, _, rfl, _⟩ := h; rfl; done) | (obtain ⟨_, _, _, rfl, _⟩ := h; rfl; done) | (obtain ⟨_, _, _, _, rfl, _⟩ := h; rfl; done) | (obtain ⟨_, _, _, _, _, rfl, _⟩ := h; rfl; done) | (obtain ⟨_, _, _, _, _, _, rfl, _⟩ := h; rfl; done) | (obtain ⟨_, _, _, _, _, _, _, rfl, _⟩ := h; rfl; done) | (obtain ⟨_, _, _, _, _, _, _, _, rfl, _⟩ := h; rfl; done) | (obtain ⟨_, _, _, _, _, _, _, _, _, rfl, _⟩ := h; rfl; done) | (obtain ⟨_, _, _, _, _, _, _, _, _, _, rfl, _⟩ := h; rfl; done) | (obtain ⟨_, _, _, _, _, _, _, _, _, _, _, rfl, _⟩ := h; rfl; done) | (obtain ⟨_, _, _, _, _, _, _, _, _, _, _, _, rfl, _⟩ := h; rfl; done) | (obtain ⟨_, _, _, _, _, _, _, _, _, _, _, _, _, rfl, _⟩ := h; rfl; done) | (rcases h with h | h <;> first | (obtain ⟨rfl, _⟩ := h; rfl; done) | (obtain ⟨_, rfl, _⟩ := h; rfl; done) | (obtain ⟨_, _, rfl, _⟩ := h; rfl; done) | (obtain ⟨_, _, _, rfl, _⟩ := h; rfl; done) | (obtain ⟨_, _, _, _, rfl, _⟩ := h; rfl; done) | (obtain ⟨_, _, _, _, _, rfl, _⟩ := h; rfl; done) | (obtain ⟨_, _, _, _, _, _, rfl, _⟩ := h; rfl; done) | (obtain ⟨_, _, _, _, _, _, _, rfl, _⟩ := h; rfl; done) | (obtain ⟨_, _, _, _, _, _, _, _, rfl, _⟩ := h; rfl; done) | (obtain ⟨_, _, _, _, _, _, _, _, _, rfl, _⟩ := h; rfl; done) | (obtain ⟨_, _, _, _, _, _, _, _, _, _, rfl, _⟩ := h; rfl; done) | (obtain ⟨_, _, _, _, _, _, _, _, _, _, _, rfl, _⟩ := h; rfl; done) | (obtain ⟨_, _, _, _, _, _, _, _, _, _, _, _, rfl, _⟩ := h; rfl; done) | (obtain ⟨_, _, _, _, _, _, _, _, _, _, _, _, _, rfl, _⟩ := h; rfl; done))
theorem ok19 : DefOk Γ gl F19 gls exs (top 34) (Γ 83) := ⟨N19, ["told", "row", "k"], sx_next_row, sc19, chk19, fun x K f fd F => F.bindsN fun _ _ _ _ _ _ us hl => (match us, hl with | [_, _, _], _ => rfl), fun ds g Q E h => len19 ds g Q E h, fun ds g Q E h => by rw [startD_len (N := N19) (M := ns_next_row) rfl]; exact pure_next_row rfl rfl h⟩
abbrev N20 : List Str := ["points", "told", "found", "k"]
theorem chk20 : knS sx_table_of (ckOf N20 (defScope (top 35)) F20 gls exs) (defBody (top 35)) = true := by decide +kernel
theorem sc20 : FnScope N20 ["points"] (defScope (top 35)) := ⟨rfl, rfl, rfl, by decide +kernel, rfl, by decide +kernel, by decide +kernel⟩
theorem len20 (ds : List D) (g : G) (Q : QD) (E : XD) (h : Γ 84 ds g Q E) : ds.length = 1 := by first | (obtain ⟨rfl, _⟩ := h; rfl; done) | (obtain ⟨_, rfl, _⟩ := h; rfl; done) | (obtain ⟨_, _, rfl, _⟩ := h; rfl; done) | (obtain ⟨_, _, _, rfl, _⟩ := h; rfl; done) | (obtain ⟨_, _, _, _, rfl, _⟩ := h; rfl; done) | (obtain ⟨_, _, _, _, _, rfl, _⟩ := h; rfl; done) | (obtain ⟨_, _, _, _, _, _, rfl, _⟩ := h; rfl; done) | (obtain ⟨_, _, _, _, _, _, _, rfl, _⟩ := h; rfl; done) | (obtain ⟨_, _, _, _, _, _, _, _, rfl, _⟩ := h; rfl; done) | (obtain ⟨_, _, _, _, _, _, _, _, _, rfl, _⟩ := h; rfl; done) | (obtain ⟨_, _, _, _, _, _, _, _, _, _, rfl, _⟩ := h; rfl; done) | (obtain ⟨_, _, _, _, _, _, _, _, _, _, _, rfl, _⟩ := h; rfl; done) | (obtain ⟨_, _, _, _, _, _, _, _, _, _, _, _, rfl, _⟩ := h; rfl; done) | (obtain ⟨_, _, _, _, _, _, _, _, _, _, _, _, _, rfl, _⟩ := h; rfl; done) | (rcases h with h | h <;> first | (obtain ⟨rfl, _⟩ := h; rfl; done) | (obtain ⟨_, rfl, _⟩ := h; rfl; done) | (obtain ⟨_, _, rfl, _⟩ := h; rfl; done) | (obtain ⟨_, _, _, rfl, _⟩ := h; rfl; done) | (obtain ⟨_, _, _, _, rfl, _⟩ := h; rfl; done) | (obtain ⟨_, _, _, _, _, rfl, _⟩ := h; rfl; done) | (obtain ⟨_, _, _, _, _, _, rfl, _⟩ := h; rfl; done) | (obtain ⟨_, _, _, _, _, _, _, rfl, _⟩ := h; rfl; done) | (obtain ⟨_, _, _, _, _, _, _, _, rfl, _⟩ := h; rfl; done) | (obtain ⟨_, _, _, _, _, _, _, _, _, rfl, _⟩ := h; rfl; done) | (obtain ⟨_, _, _, _, _, _, _, _, _, _, rfl, _⟩ := h; rfl; done) | (obtain ⟨_, _, _, _, _, _, _, _, _, _, _, rfl, _⟩ := h; rfl; done) | (obtain ⟨_, _, _, _, _, _, _, _, _, _, _, _, rfl, _⟩ := h; rfl; done) | (obtain ⟨_, _, _, _, _, _, _, _, _, _, _, _, _, rfl, _⟩ := h; rfl; done))
theorem ok20 : DefOk Γ gl F20 gls exs (top 35) (Γ 84) := ⟨N20, ["points"], sx_table_of, sc20, chk20, fun x K f fd F => F.bindsN fun _ _ _ _ _ _ us hl => (match us, hl with | [_], _ => rfl), fun ds g Q E h => len20 ds g Q E h, fun ds g Q E h => by rw [startD_len (N := N20) (M := ns_table_of) rfl]; exact pure_table_of rfl rfl rfl h⟩
abbrev N21 : List Str := ["points", "row"]
theorem chk21 : knS sx_steps_of (ckOf N21 (defScope (top 36)) F21 gls exs) (defBody (top 36)) = true := by decide +kernel
theorem sc21 : FnScope N21 ["points"] (defScope (top 36)) := ⟨rfl, rfl, rfl, by decide +kernel, rfl, by decide +kernel, by decide +kernel⟩
theorem len21 (ds : List D) (g : G) (Q : QD) (E : XD) (h : Γ 85 ds g Q E) : ds.length = 1 := by first | (obtain ⟨rfl, _⟩ := h; rfl; done) | (obtain ⟨_, rfl, _⟩ := h; rfl; done) | (obtain ⟨_, _, rfl, _⟩ := h; rfl; done) | (obtain ⟨_, _, _, rfl, _⟩ := h; rfl; done) | (obtain ⟨_, _, _, _, rfl, _⟩ := h; rfl; done) | (obtain ⟨_, _, _, _, _, rfl, _⟩ := h; rfl; done) | (obtain ⟨_, _, _, _, _, _, rfl, _⟩ := h; rfl; done) | (obtain ⟨_, _, _, _, _, _, _, rfl, _⟩ := h; rfl; done) | (obtain ⟨_, _, _, _, _, _, _, _, rfl, _⟩ := h; rfl; done) | (obtain ⟨_, _, _, _, _, _, _, _, _, rfl, _⟩ := h; rfl; done) | (obtain ⟨_, _, _, _, _, _, _, _, _, _, rfl, _⟩ := h; rfl; done) | (obtain ⟨_, _, _, _, _, _, _, _, _, _, _, rfl, _⟩ := h; rfl; done) | (obtain ⟨_, _, _, _, _, _, _, _, _, _, _, _, rfl, _⟩ := h; rfl; done) | (obtain ⟨_, _, _, _, _, _, _, _, _, _, _, _, _, rfl, _⟩ := h; rfl; done) | (rcases h with h | h <;> first | (obtain ⟨rfl, _⟩ := h; rfl; done) | (obtain ⟨_, rfl, _⟩ := h; rfl; done) | (obtain ⟨_, _, rfl, _⟩ := h; rfl; done) | (obtain ⟨_, _, _, rfl, _⟩ := h; rfl; done) | (obtain ⟨_, _, _, _, rfl, _⟩ := h; rfl; done) | (obtain ⟨_, _, _, _, _, rfl, _⟩ := h; rfl; done) | (obtain ⟨_, _, _, _, _, _, rfl, _⟩ := h; rfl; done) | (obtain ⟨_, _, _, _, _, _, _, rfl, _⟩ := h; rfl; done) | (obtain ⟨_, _, _, _, _, _, _, _, rfl, _⟩ := h; rfl; done) | (obtain ⟨_, _, _, _, _, _, _, _, _, rfl, _⟩ := h; rfl; done) | (obtain ⟨_, _, _, _, _, _, _, _, _, _, rfl, _⟩ := h; rfl; done) | (obtain ⟨_, _, _, _, _, _, _, _, _, _, _, rfl, _⟩ := h; rfl; done) | (obtain ⟨_, _, _, _, _, _, _, _, _, _, _, _, rfl, _⟩ := h; rfl; done) | (obtain ⟨_, _, _, _, _, _, _, _, _, _, _, _, _, rfl, _⟩ := h; rfl; done))
theorem ok21 : DefOk Γ gl F21 gls exs (top 36) (Γ 85) := ⟨N21, ["points"], sx_steps_of, sc21, chk21, fun x K f fd F => F.bindsN fun _ _ _ _ _ _ us hl => (match us, hl with | [_], _ => rfl), fun ds g Q E h => len21 ds g Q E h, fun ds g Q E h => by rw [startD_len (N := N21) (M := ns_steps_of) rfl]; exact pure_steps_of rfl h⟩
abbrev N22 : List Str := ["knots", "steps", "found", "product", "knot", "step"]
theorem chk22 : knS sx_by_steps (ckOf N22 (defScope (top 37)) F22 gls exs) (defBody (top 37)) = true := by decide +kernel
theorem sc22 : FnScope N22 ["knots", "steps"] (defScope (top 37)) := ⟨rfl, rfl, rfl, by decide +kernel, rfl, by decide +kernel, by decide +kernel⟩
theorem len22 (ds : List D) (g : G) (Q : QD) (E : XD) (h : Γ 94 ds g Q E) : ds.length = 2 := by first | (obtain ⟨rfl, _⟩ := h; rfl; done) | (obtain ⟨_, rfl, _⟩ := h; rfl; done) | (obtain ⟨_, _, rfl, _⟩ := h; rfl; done) | (obtain ⟨_, _, _, rfl, _⟩ := h; rfl; done) | (obtain ⟨_, _, _, _, rfl, _⟩ := h; rfl; done) | (obtain ⟨_, _, _, _, _, rfl, _⟩ := h; rfl; done) | (obtain ⟨_, _, _, _, _, _, rfl, _⟩ := h; rfl; done) | (obtain ⟨_, _, _, _, _, _, _, rfl, _⟩ := h; rfl; done) | (obtain ⟨_, _, _, _, _, _, _, _, rfl, _⟩ := h; rfl; done) | (obtain ⟨_, _, _, _, _, _, _, _, _, rfl, _⟩ := h; rfl; done) | (obtain ⟨_, _, _, _, _, _, _, _, _, _, rfl, _⟩ := h; rfl; done) | (obtain ⟨_, _, _, _, _, _, _, _, _, _, _, rfl, _⟩ := h; rfl; done) | (obtain ⟨_, _, _, _, _, _, _, _, _, _, _, _, rfl, _⟩ := h; rfl; done) | (obtain ⟨_, _, _, _, _, _, _, _, _, _, _, _, _, rfl, _⟩ := h; rfl; done) | (rcases h with h | h <;> first | (obtain ⟨rfl, _⟩ := h; rfl; done) | (obtain ⟨_, rfl, _⟩ := h; rfl; done) | (obtain ⟨_, _, rfl, _⟩ := h; rfl; done) | (obtain ⟨_, _, _, rfl, _⟩ := h; rfl; done) | (obtain ⟨_, _, _, _, rfl, _⟩ := h; rfl; done) | (obtain ⟨_, _, _, _, _, rfl, _⟩ := h; rfl; done) | (obtain ⟨_, _, _, _, _, _, rfl, _⟩ := h; rfl; done) | (obtain ⟨_, _, _, _, _, _, _, rfl, _⟩ := h; rfl; done) | (obtain ⟨_, _, _, _, _, _, _, _, rfl, _⟩ := h; rfl; done) | (obtain ⟨_, _, _, _, _, _, _, _, _, rfl, _⟩ := h; rfl; done) | (obtain ⟨_, _, _, _, _, _, _, _, _, _, rfl, _⟩ := h; rfl; done) | (obtain ⟨_, _, _, _, _, _, _, _, _, _, _, rfl, _⟩ := h; rfl; done) | (obtain ⟨_, _, _, _, _, _, _, _, _, _, _, _, rfl, _⟩ := h; rfl; done) | (obtain ⟨_, _, _, _, _, _, _, _, _, _, _, _, _, rfl, _⟩ := h; rfl; done))
theorem ok22 : DefOk Γ gl F22 gls exs (top 37) (Γ 94) := ⟨N22, ["knots", "steps"], sx_by_steps, sc22, chk22, fun x K f fd F => F.bindsN fun _ _ _ _ _ _ us hl => (match us, hl with | [_, _], _ => rfl), fun ds g Q E h => len22 ds g Q E h, fun ds g Q E h => by rw [startD_len (N := N22) (M := ns_by_steps) rfl]; exact pure_by_steps rfl rfl rfl rfl rfl rfl rfl h⟩
abbrev N23 : List Str := ["points", "knots", "x", "k", "number"]
theorem chk23 : knS sx_curve_through (ckOf N23 (defScope (top 38)) F23 gls exs) (defBody (top 38)) = true := by decide +kernel
theorem sc23 : FnScope N23 ["points"] (defScope (top 38)) := ⟨rfl, rfl, rfl, by decide +kernel, rfl, by decide +kernel, by decide +kernel⟩
theorem len23 (ds : List D) (g : G) (Q : QD) (E : XD) (h : Γ 97 ds g Q E) : ds.length = 1 := by first | (obtain ⟨rfl, _⟩ := h; rfl; done) | (obtain ⟨_, rfl, _⟩ := h; rfl; done) | (obtain ⟨_, _, rfl, _⟩ := h; rfl; done) | (obtain ⟨_, _, _, rfl, _⟩ := h; rfl; done) | (obtain ⟨_, _, _, _, rfl, _⟩ := h; rfl; done) | (obtain ⟨_, _, _, _, _, rfl, _⟩ := h; rfl; done) | (obtain ⟨_, _, _, _, _, _, rfl, _⟩ := h; rfl; done) | (obtain ⟨_, _, _, _, _, _, _, rfl, _⟩ := h; rfl; done) | (obtain ⟨_, _, _, _, _, _, _, _, rfl, _⟩ := h; rfl; done) | (obtain ⟨_, _, _, _, _, _, _, _, _, rfl, _⟩ := h; rfl; done) | (obtain ⟨_, _, _, _, _, _, _, _, _, _, rfl, _⟩ := h; rfl; done) | (obtain ⟨_, _, _, _, _, _, _, _, _, _, _, rfl, _⟩ := h; rfl; done) | (obtain ⟨_, _, _, _, _, _, _, _, _, _, _, _, rfl, _⟩ := h; rfl; done) | (obtain ⟨_, _, _, _, _, _, _, _, _, _, _, _, _, rfl, _⟩ := h; rfl; done) | (rcases h with h | h <;> first | (obtain ⟨rfl, _⟩ := h; rfl; done) | (obtain ⟨_, rfl, _⟩ := h; rfl; done) | (obtain ⟨_, _, rfl, _⟩ := h; rfl; done) | (obtain ⟨_, _, _, rfl, _⟩ := h; rfl; done) | (obtain ⟨_, _, _, _, rfl, _⟩ := h; rfl; done) | (obtain ⟨_, _, _, _, _, rfl, _⟩ := h; rfl; done) | (obtain ⟨_, _, _, _, _, _, rfl, _⟩ := h; rfl; done) | (obtain ⟨_, _, _, _, _, _, _, rfl, _⟩ := h; rfl; done) | (obtain ⟨_, _, _, _, _, _, _, _, rfl, _⟩ := h; rfl; done) | (obtain ⟨_, _, _, _, _, _, _, _, _, rfl, _⟩ := h; rfl; done) | (obtain ⟨_, _, _, _, _, _, _, _, _, _, rfl, _⟩ := h; rfl; done) | (obtain ⟨_, _, _, _, _, _, _, _, _, _, _, rfl, _⟩ := h; rfl; done) | (obtain ⟨_, _, _, _, _, _, _, _, _, _, _, _, rfl, _⟩ := h; rfl; done) | (obtain ⟨_, _, _, _, _, _, _, _, _, _, _, _, _, rfl, _⟩ := h; rfl; done))
theorem ok23 : DefOk Γ gl F23 gls exs (top 38) (Γ 97) := ⟨N23, ["points"], sx_curve_through, sc23, chk23, fun x K f fd F => F.bindsN fun _ _ _ _ _ _ us hl => (match us, hl with | [_], _ => rfl), fun ds g Q E h => len23 ds g Q E h, fun ds g Q E h => by rw [startD_len (N := N23) (M := ns_curve_through) rfl]; exact pure_curve_through rfl rfl rfl h⟩
abbrev N24 : List Str := ["places", "least"]
theorem chk24 : knS sx_ask_places_v2 (ckOf N24 (defScope (top 41)) F24 gls exs) (defBody (top 41)) = true := by decide +kernel
theorem sc24 : FnScope N24 ["places", "least"] (defScope (top 41)) := ⟨rfl, rfl, rfl, by decide +kernel, rfl, by decide +kernel, by decide +kernel⟩
theorem len24 (ds : List D) (g : G) (Q : QD) (E : XD) (h : Γ 353 ds g Q E) : ds.length = 2 := by first | (obtain ⟨rfl, _⟩ := h; rfl; done) | (obtain ⟨_, rfl, _⟩ := h; rfl; done) | (obtain ⟨_, _, rfl, _⟩ := h; rfl; done) | (obtain ⟨_, _, _, rfl, _⟩ := h; rfl; done) | (obtain ⟨_, _, _, _, rfl, _⟩ := h; rfl; done) | (obtain ⟨_, _, _, _, _, rfl, _⟩ := h; rfl; done) | (obtain ⟨_, _, _, _, _, _, rfl, _⟩ := h; rfl; done) | (obtain ⟨_, _, _, _, _, _, _, rfl, _⟩ := h; rfl; done) | (obtain ⟨_, _, _, _, _, _, _, _, rfl, _⟩ := h; rfl; done) | (obtain ⟨_, _, _, _, _, _, _, _, _, rfl, _⟩ := h; rfl; done) | (obtain ⟨_, _, _, _, _, _, _, _, _, _, rfl, _⟩ := h; rfl; done) | (obtain ⟨_, _, _, _, _, _, _, _, _, _, _, rfl, _⟩ := h; rfl; done) | (obtain ⟨_, _, _, _, _, _, _, _, _, _, _, _, rfl, _⟩ := h; rfl; done) | (obtain ⟨_, _, _, _, _, _, _, _, _, _, _, _, _, rfl, _⟩ := h; rfl; done) | (rcases h with h | h <;> first | (obtain ⟨rfl, _⟩ := h; rfl; done) | (obtain ⟨_, rfl, _⟩ := h; rfl; done) | (obtain ⟨_, _, rfl, _⟩ := h; rfl; done) | (obtain ⟨_, _, _, rfl, _⟩ := h; rfl; done) | (obtain ⟨_, _, _, _, rfl, _⟩ := h; rfl; done) | (obtain ⟨_, _, _, _, _, rfl, _⟩ := h; rfl; done) | (obtain ⟨_, _, _, _, _, _, rfl, _⟩ := h; rfl; done) | (obtain ⟨_, _, _, _, _, _, _, rfl, _⟩ := h; rfl; done) | (obtain ⟨_, _, _, _, _, _, _, _, rfl, _⟩ := h; rfl; done) | (obtain ⟨_, _, _, _, _, _, _, _, _, rfl, _⟩ := h; rfl; done) | (obtain ⟨_, _, _, _, _, _, _, _, _, _, rfl, _⟩ := h; rfl; done) | (obtain ⟨_, _, _, _, _, _, _, _, _, _, _, rfl, _⟩ := h; rfl; done) | (obtain ⟨_, _, _, _, _, _, _, _, _, _, _, _, rfl, _⟩ := h; rfl; done) | (obtain ⟨_, _, _, _, _, _, _, _, _, _, _, _, _, rfl, _⟩ := h; rfl; done))
theorem ok24 : DefOk Γ gl F24 gls exs (top 41) (Γ 353) := ⟨N24, ["places", "least"], sx_ask_places_v2, sc24, chk24, fun x K f fd F => F.bindsN fun _ _ _ _ _ _ us hl => (match us, hl with | [_, _], _ => rfl), fun ds g Q E h => len24 ds g Q E h, fun ds g Q E h => by rw [startD_len (N := N24) (M := ns_ask_places_v2) rfl]; exact pure_ask_places_v2 rfl h⟩
abbrev N25 : List Str := ["places", "heights"]
theorem chk25 : knS sx_ask_told_v2 (ckOf N25 (defScope (top 42)) F25 gls exs) (defBody (top 42)) = true := by decide +kernel
theorem sc25 : FnScope N25 ["places", "heights"] (defScope (top 42)) := ⟨rfl, rfl, rfl, by decide +kernel, rfl, by decide +kernel, by decide +kernel⟩
theorem len25 (ds : List D) (g : G) (Q : QD) (E : XD) (h : Γ 354 ds g Q E) : ds.length = 2 := by first | (obtain ⟨rfl, _⟩ := h; rfl; done) | (obtain ⟨_, rfl, _⟩ := h; rfl; done) | (obtain ⟨_, _, rfl, _⟩ := h; rfl; done) | (obtain ⟨_, _, _, rfl, _⟩ := h; rfl; done) | (obtain ⟨_, _, _, _, rfl, _⟩ := h; rfl; done) | (obtain ⟨_, _, _, _, _, rfl, _⟩ := h; rfl; done) | (obtain ⟨_, _, _, _, _, _, rfl, _⟩ := h; rfl; done) | (obtain ⟨_, _, _, _, _, _, _, rfl, _⟩ := h; rfl; done) | (obtain ⟨_, _, _, _, _, _, _, _, rfl, _⟩ := h; rfl; done) | (obtain ⟨_, _, _, _, _, _, _, _, _, rfl, _⟩ := h; rfl; done) | (obtain ⟨_, _, _, _, _, _, _, _, _, _, rfl, _⟩ := h; rfl; done) | (obtain ⟨_, _, _, _, _, _, _, _, _, _, _, rfl, _⟩ := h; rfl; done) | (obtain ⟨_, _, _, _, _, _, _, _, _, _, _, _, rfl, _⟩ := h; rfl; done) | (obtain ⟨_, _, _, _, _, _, _, _, _, _, _, _, _, rfl, _⟩ := h; rfl; done) | (rcases h with h | h <;> first | (obtain ⟨rfl, _⟩ := h; rfl; done) | (obtain ⟨_, rfl, _⟩ := h; rfl; done) | (obtain ⟨_, _, rfl, _⟩ := h; rfl; done) | (obtain ⟨_, _, _, rfl, _⟩ := h; rfl; done) | (obtain ⟨_, _, _, _, rfl, _⟩ := h; rfl; done) | (obtain ⟨_, _, _, _, _, rfl, _⟩ := h; rfl; done) | (obtain ⟨_, _, _, _, _, _, rfl, _⟩ := h; rfl; done) | (obtain ⟨_, _, _, _, _, _, _, rfl, _⟩ := h; rfl; done) | (obtain ⟨_, _, _, _, _, _, _, _, rfl, _⟩ := h; rfl; done) | (obtain ⟨_, _, _, _, _, _, _, _, _, rfl, _⟩ := h; rfl; done) | (obtain ⟨_, _, _, _, _, _, _, _, _, _, rfl, _⟩ := h; rfl; done) | (obtain ⟨_, _, _, _, _, _, _, _, _, _, _, rfl, _⟩ := h; rfl; done) | (obtain ⟨_, _, _, _, _, _, _, _, _, _, _, _, rfl, _⟩ := h; rfl; done) | (obtain ⟨_, _, _, _, _, _, _, _, _, _, _, _, _, rfl, _⟩ := h; rfl; done))
theorem ok25 : DefOk Γ gl F25 gls exs (top 42) (Γ 354) := ⟨N25, ["places", "heights"], sx_ask_told_v2, sc25, chk25, fun x K f fd F => F.bindsN fun _ _ _ _ _ _ us hl => (match us, hl with | [_, _], _ => rfl), fun ds g Q E h => len25 ds g Q E h, fun ds g Q E h => by rw [startD_len (N := N25) (M := ns_ask_told_v2) rfl]; exact pure_ask_told_v2 rfl h⟩
abbrev N26 : List Str := ["places", "found", "x"]
theorem chk26 : knS sx_nought_at (ckOf N26 (defScope (top 43)) F26 gls exs) (defBody (top 43)) = true := by decide +kernel
theorem sc26 : FnScope N26 ["places"] (defScope (top 43)) := ⟨rfl, rfl, rfl, by decide +kernel, rfl, by decide +kernel, by decide +kernel⟩
theorem len26 (ds : List D) (g : G) (Q : QD) (E : XD) (h : Γ 218 ds g Q E) : ds.length = 1 := by first | (obtain ⟨rfl, _⟩ := h; rfl; done) | (obtain ⟨_, rfl, _⟩ := h; rfl; done) | (obtain ⟨_, _, rfl, _⟩ := h; rfl; done) | (obtain ⟨_, _, _, rfl, _⟩ := h; rfl; done) | (obtain ⟨_, _, _, _, rfl, _⟩ := h; rfl; done) | (obtain ⟨_, _, _, _, _, rfl, _⟩ := h; rfl; done) | (obtain ⟨_, _, _, _, _, _, rfl, _⟩ := h; rfl; done) | (obtain ⟨_, _, _, _, _, _, _, rfl, _⟩ := h; rfl; done) | (obtain ⟨_, _, _, _, _, _, _, _, rfl, _⟩ := h; rfl; done) | (obtain ⟨_, _, _, _, _, _, _, _, _, rfl, _⟩ := h; rfl; done) | (obtain ⟨_, _, _, _, _, _, _, _, _, _, rfl, _⟩ := h; rfl; done) | (obtain ⟨_, _, _, _, _, _, _, _, _, _, _, rfl, _⟩ := h; rfl; done) | (obtain ⟨_, _, _, _, _, _, _, _, _, _, _, _, rfl, _⟩ := h; rfl; done) | (obtain ⟨_, _, _, _, _, _, _, _, _, _, _, _, _, rfl, _⟩ := h; rfl; done) | (rcases h with h | h <;> first | (obtain ⟨rfl, _⟩ := h; rfl; done) | (obtain ⟨_, rfl, _⟩ := h; rfl; done) | (obtain ⟨_, _, rfl, _⟩ := h; rfl; done) | (obtain ⟨_, _, _, rfl, _⟩ := h; rfl; done) | (obtain ⟨_, _, _, _, rfl, _⟩ := h; rfl; done) | (obtain ⟨_, _, _, _, _, rfl, _⟩ := h; rfl; done) | (obtain ⟨_, _, _, _, _, _, rfl, _⟩ := h; rfl; done) | (obtain ⟨_, _, _, _, _, _, _, rfl, _⟩ := h; rfl; done) | (obtain ⟨_, _, _, _, _, _, _, _, rfl, _⟩ := h; rfl; done) | (obtain ⟨_, _, _, _, _, _, _, _, _, rfl, _⟩ := h; rfl; done) | (obtain ⟨_, _, _, _, _, _, _, _, _, _, rfl, _⟩ := h; rfl; done) | (obtain ⟨_, _, _, _, _, _, _, _, _, _, _, rfl, _⟩ := h; rfl; done) | (obtain ⟨_, _, _, _, _, _, _, _, _, _, _, _, rfl, _⟩ := h; rfl; done) | (obtain ⟨_, _, _, _, _, _, _, _, _, _, _, _, _, rfl, _⟩ := h; rfl; done))
theorem ok26 : DefOk Γ gl F26 gls exs (top 43) (Γ 218) := ⟨N26, ["places"], sx_nought_at, sc26, chk26, fun x K f fd F => F.bindsN fun _ _ _ _ _ _ us hl => (match us, hl with | [_], _ => rfl), fun ds g Q E h => len26 ds g Q E h, fun ds g Q E h => by rw [startD_len (N := N26) (M := ns_nought_at) rfl]; exact pure_nought_at__Q rfl rfl rfl rfl h⟩
abbrev N27 : List Str := ["places", "heights", "width", "ahead", "now", "often", "rest"]
theorem chk27 : knS sx_pair_for_v2 (ckOf N27 (defScope (top 44)) F27 gls exs) (defBody (top 44)) = true := by decide +kernel
theorem sc27 : FnScope N27 ["places", "heights", "width"] (defScope (top 44)) := ⟨rfl, rfl, rfl, by decide +kernel, rfl, by decide +kernel, by decide +kernel⟩
theorem len27 (ds : List D) (g : G) (Q : QD) (E : XD) (h : Γ 393 ds g Q E) : ds.length = 3 := by first | (obtain ⟨rfl, _⟩ := h; rfl; done) | (obtain ⟨_, rfl, _⟩ := h; rfl; done) | (obtain ⟨_, _, rfl, _⟩ := h; rfl; done) | (obtain ⟨_, _, _, rfl, _⟩ := h; rfl; done) | (obtain ⟨_, _, _, _, rfl, _⟩ := h; rfl; done) | (obtain ⟨_, _, _, _, _, rfl, _⟩ := h; rfl; done) | (obtain ⟨_, _, _, _, _, _, rfl, _⟩ := h; rfl; done) | (obtain ⟨_, _, _, _, _, _, _, rfl, _⟩ := h; rfl; done) | (obtain ⟨_, _, _, _, _, _, _, _, rfl, _⟩ := h; rfl; done) | (obtain ⟨_, _, _, _, _, _, _, _, _, rfl, _⟩ := h; rfl; done) | (obtain ⟨_, _, _, _, _, _, _, _, _, _, rfl, _⟩ := h; rfl; done) | (obtain ⟨_, _, _, _, _, _, _, _, _, _, _, rfl, _⟩ := h; rfl; done) | (obtain ⟨_, _, _, _, _, _, _, _, _, _, _, _, rfl, _⟩ := h; rfl; done) | (obtain ⟨_, _, _, _, _, _, _, _, _, _, _, _, _, rfl, _⟩ := h; rfl; done) | (rcases h with h | h <;> first | (obtain ⟨rfl, _⟩ := h; rfl; done) | (obtain ⟨_, rfl, _⟩ := h; rfl; done) | (obtain ⟨_, _, rfl, _⟩ := h; rfl; done) | (obtain ⟨_, _, _, rfl, _⟩ := h; rfl; done) | (obtain ⟨_, _, _, _, rfl, _⟩ := h; rfl; done) | (obtain ⟨_, _, _, _, _, rfl, _⟩ := h; rfl; done) | (obtain ⟨_, _, _, _, _, _, rfl, _⟩ := h; rfl; done) | (obtain ⟨_, _, _, _, _, _, _, rfl, _⟩ := h; rfl; done) | (obtain ⟨_, _, _, _, _, _, _, _, rfl, _⟩ := h; rfl; done) | (obtain ⟨_, _, _, _, _, _, _, _, _, rfl, _⟩ := h; rfl; done) | (obtain ⟨_, _, _, _, _, _, _, _, _, _, rfl, _⟩ := h; rfl; done) | (obtain ⟨_, _, _, _, _, _, _, _, _, _, _, rfl, _⟩ := h; rfl; done) | (obtain ⟨_, _, _, _, _, _, _, _, _, _, _, _, rfl, _⟩ := h; rfl; done) | (obtain ⟨_, _, _, _, _, _, _, _, _, _, _, _, _, rfl, _⟩ := h; rfl; done))
theorem ok27 : DefOk Γ gl F27 gls exs (top 44) (Γ 393) := ⟨N27, ["places", "heights", "width"], sx_pair_for_v2, sc27, chk27, fun x K f fd F => F.bindsN fun _ _ _ _ _ _ us hl => (match us, hl with | [_, _, _], _ => rfl), fun ds g Q E h => len27 ds g Q E h, fun ds g Q E h => by rw [startD_len (N := N27) (M := ns_pair_for_v2) rfl]; exact pure_pair_for_v2__Q rfl rfl rfl rfl rfl rfl h⟩
abbrev N28 : List Str := ["above", "under", "x", "y", "below"]
theorem chk28 : knS sx_has_height (ckOf N28 (defScope (top 46)) F28 gls exs) (defBody (top 46)) = true := by decide +kernel
theorem sc28 : FnScope N28 ["above", "under", "x", "y"] (defScope (top 46)) := ⟨rfl, rfl, rfl, by decide +kernel, rfl, by decide +kernel, by decide +kernel⟩
theorem len28 (ds : List D) (g : G) (Q : QD) (E : XD) (h : Γ 229 ds g Q E) : ds.length = 4 := by first | (obtain ⟨rfl, _⟩ := h; rfl; done) | (obtain ⟨_, rfl, _⟩ := h; rfl; done) | (obtain ⟨_, _, rfl, _⟩ := h; rfl; done) | (obtain ⟨_, _, _, rfl, _⟩ := h; rfl; done) | (obtain ⟨_, _, _, _, rfl, _⟩ := h; rfl; done) | (obtain ⟨_, _, _, _, _, rfl, _⟩ := h; rfl; done) | (obtain ⟨_, _, _, _, _, _, rfl, _⟩ := h; rfl; done) | (obtain ⟨_, _, _, _, _, _, _, rfl, _⟩ := h; rfl; done) | (obtain ⟨_, _, _, _, _, _, _, _, rfl, _⟩ := h; rfl; done) | (obtain ⟨_, _, _, _, _, _, _, _, _, rfl, _⟩ := h; rfl; done) | (obtain ⟨_, _, _, _, _, _, _, _, _, _, rfl, _⟩ := h; rfl; done) | (obtain ⟨_, _, _, _, _, _, _, _, _, _, _, rfl, _⟩ := h; rfl; done) | (obtain ⟨_, _, _, _, _, _, _, _, _, _, _, _, rfl, _⟩ := h; rfl; done) | (obtain ⟨_, _, _, _, _, _, _, _, _, _, _, _, _, rfl, _⟩ := h; rfl; done) | (rcases h with h | h <;> first | (obtain ⟨rfl, _⟩ := h; rfl; done) | (obtain ⟨_, rfl, _⟩ := h; rfl; done) | (obtain ⟨_, _, rfl, _⟩ := h; rfl; done) | (obtain ⟨_, _, _, rfl, _⟩ := h; rfl; done) | (obtain ⟨_, _, _, _, rfl, _⟩ := h; rfl; done) | (obtain ⟨_, _, _, _, _, rfl, _⟩ := h; rfl; done) | (obtain ⟨_, _, _, _, _, _, rfl, _⟩ := h; rfl; done) | (obtain ⟨_, _, _, _, _, _, _, rfl, _⟩ := h; rfl; done) | (obtain ⟨_, _, _, _, _, _, _, _, rfl, _⟩ := h; rfl; done) | (obtain ⟨_, _, _, _, _, _, _, _, _, rfl, _⟩ := h; rfl; done) | (obtain ⟨_, _, _, _, _, _, _, _, _, _, rfl, _⟩ := h; rfl; done) | (obtain ⟨_, _, _, _, _, _, _, _, _, _, _, rfl, _⟩ := h; rfl; done) | (obtain ⟨_, _, _, _, _, _, _, _, _, _, _, _, rfl, _⟩ := h; rfl; done) | (obtain ⟨_, _, _, _, _, _, _, _, _, _, _, _, _, rfl, _⟩ := h; rfl; done))
theorem ok28 : DefOk Γ gl F28 gls exs (top 46) (Γ 229) := ⟨N28, ["above", "under", "x", "y"], sx_has_height, sc28, chk28, fun x K f fd F => F.bindsN fun _ _ _ _ _ _ us hl => (match us, hl with | [_, _, _, _], _ => rfl), fun ds g Q E h => len28 ds g Q E h, fun ds g Q E h => by rw [startD_len (N := N28) (M := ns_has_height) rfl]; exact pure_has_height rfl rfl rfl h⟩
abbrev N29 : List Str := ["places", "heights", "width", "part", "above", "under", "one", "left", "x", "y", "at", "z"]
theorem chk29 : knS sx_quotient_through_v3 (ckOf N29 (defScope (top 47)) F29 gls exs) (defBody (top 47)) = true := by decide +kernel
theorem sc29 : FnScope N29 ["places", "heights", "width"] (defScope (top 47)) := ⟨rfl, rfl, rfl, by decide +kernel, rfl, by decide +kernel, by decide +kernel⟩
theorem len29 (ds : List D) (g : G) (Q : QD) (E : XD) (h : Γ 397 ds g Q E) : ds.length = 3 := by first | (obtain ⟨rfl, _⟩ := h; rfl; done) | (obtain ⟨_, rfl, _⟩ := h; rfl; done) | (obtain ⟨_, _, rfl, _⟩ := h; rfl; done) | (obtain ⟨_, _, _, rfl, _⟩ := h; rfl; done) | (obtain ⟨_, _, _, _, rfl, _⟩ := h; rfl; done) | (obtain ⟨_, _, _, _, _, rfl, _⟩ := h; rfl; done) | (obtain ⟨_, _, _, _, _, _, rfl, _⟩ := h; rfl; done) | (obtain ⟨_, _, _, _, _, _, _, rfl, _⟩ := h; rfl; done) | (obtain ⟨_, _, _, _, _, _, _, _, rfl, _⟩ := h; rfl; done) | (obtain ⟨_, _, _, _, _, _, _, _, _, rfl, _⟩ := h; rfl; done) | (obtain ⟨_, _, _, _, _, _, _, _, _, _, rfl, _⟩ := h; rfl; done) | (obtain ⟨_, _, _, _, _, _, _, _, _, _, _, rfl, _⟩ := h; rfl; done) | (obtain ⟨_, _, _, _, _, _, _, _, _, _, _, _, rfl, _⟩ := h; rfl; done) | (obtain ⟨_, _, _, _, _, _, _, _, _, _, _, _, _, rfl, _⟩ := h; rfl; done) | (rcases h with h | h <;> first | (obtain ⟨rfl, _⟩ := h; rfl; done) | (obtain ⟨_, rfl, _⟩ := h; rfl; done) | (obtain ⟨_, _, rfl, _⟩ := h; rfl; done) | (obtain ⟨_, _, _, rfl, _⟩ := h; rfl; done) | (obtain ⟨_, _, _, _, rfl, _⟩ := h; rfl; done) | (obtain ⟨_, _, _, _, _, rfl, _⟩ := h; rfl; done) | (obtain ⟨_, _, _, _, _, _, rfl, _⟩ := h; rfl; done) | (obtain ⟨_, _, _, _, _, _, _, rfl, _⟩ := h; rfl; done) | (obtain ⟨_, _, _, _, _, _, _, _, rfl, _⟩ := h; rfl; done) | (obtain ⟨_, _, _, _, _, _, _, _, _, rfl, _⟩ := h; rfl; done) | (obtain ⟨_, _, _, _, _, _, _, _, _, _, rfl, _⟩ := h; rfl; done) | (obtain ⟨_, _, _, _, _, _, _, _, _, _, _, rfl, _⟩ := h; rfl; done) | (obtain ⟨_, _, _, _, _, _, _, _, _, _, _, _, rfl, _⟩ := h; rfl; done) | (obtain ⟨_, _, _, _, _, _, _, _, _, _, _, _, _, rfl, _⟩ := h; rfl; done))
theorem ok29 : DefOk Γ gl F29 gls exs (top 47) (Γ 397) := ⟨N29, ["places", "heights", "width"], sx_quotient_through_v3, sc29, chk29, fun x K f fd F => F.bindsN fun _ _ _ _ _ _ us hl => (match us, hl with | [_, _, _], _ => rfl), fun ds g Q E h => len29 ds g Q E h, fun ds g Q E h => by rw [startD_len (N := N29) (M := ns_quotient_through_v3) rfl]; exact pure_quotient_through_v3 rfl rfl rfl rfl rfl rfl rfl rfl rfl h⟩
abbrev N30 : List Str := ["_law_script", "_law_k", "_law_cell"]
theorem chk30 : knS sx_law_pen (ckOf N30 (defScope (top 49)) F30 gls exs) (defBody (top 49)) = true := by decide +kernel
theorem sc30 : FnScope N30 ["_law_script", "_law_k"] (defScope (top 49)) := ⟨rfl, rfl, rfl, by decide +kernel, rfl, by decide +kernel, by decide +kernel⟩
theorem len30 (ds : List D) (g : G) (Q : QD) (E : XD) (h : Γ 3 ds g Q E) : ds.length = 2 := by first | (obtain ⟨rfl, _⟩ := h; rfl; done) | (obtain ⟨_, rfl, _⟩ := h; rfl; done) | (obtain ⟨_, _, rfl, _⟩ := h; rfl; done) | (obtain ⟨_, _, _, rfl, _⟩ := h; rfl; done) | (obtain ⟨_, _, _, _, rfl, _⟩ := h; rfl; done) | (obtain ⟨_, _, _, _, _, rfl, _⟩ := h; rfl; done) | (obtain ⟨_, _, _, _, _, _, rfl, _⟩ := h; rfl; done) | (obtain ⟨_, _, _, _, _, _, _, rfl, _⟩ := h; rfl; done) | (obtain ⟨_, _, _, _, _, _, _, _, rfl, _⟩ := h; rfl; done) | (obtain ⟨_, _, _, _, _, _, _, _, _, rfl, _⟩ := h; rfl; done) | (obtain ⟨_, _, _, _, _, _, _, _, _, _, rfl, _⟩ := h; rfl; done) | (obtain ⟨_, _, _, _, _, _, _, _, _, _, _, rfl, _⟩ := h; rfl; done) | (obtain ⟨_, _, _, _, _, _, _, _, _, _, _, _, rfl, _⟩ := h; rfl; done) | (obtain ⟨_, _, _, _, _, _, _, _, _, _, _, _, _, rfl, _⟩ := h; rfl; done) | (rcases h with h | h <;> first | (obtain ⟨rfl, _⟩ := h; rfl; done) | (obtain ⟨_, rfl, _⟩ := h; rfl; done) | (obtain ⟨_, _, rfl, _⟩ := h; rfl; done) | (obtain ⟨_, _, _, rfl, _⟩ := h; rfl; done) | (obtain ⟨_, _, _, _, rfl, _⟩ := h; rfl; done) | (obtain ⟨_, _, _, _, _, rfl, _⟩ := h; rfl; done) | (obtain ⟨_, _, _, _, _, _, rfl, _⟩ := h; rfl; done) | (obtain ⟨_, _, _, _, _, _, _, rfl, _⟩ := h; rfl; done) | (obtain ⟨_, _, _, _, _, _, _, _, rfl, _⟩ := h; rfl; done) | (obtain ⟨_, _, _, _, _, _, _, _, _, rfl, _⟩ := h; rfl; done) | (obtain ⟨_, _, _, _, _, _, _, _, _, _, rfl, _⟩ := h; rfl; done) | (obtain ⟨_, _, _, _, _, _, _, _, _, _, _, rfl, _⟩ := h; rfl; done) | (obtain ⟨_, _, _, _, _, _, _, _, _, _, _, _, rfl, _⟩ := h; rfl; done) | (obtain ⟨_, _, _, _, _, _, _, _, _, _, _, _, _, rfl, _⟩ := h; rfl; done))
theorem ok30 : DefOk Γ gl F30 gls exs (top 49) (Γ 3) := ⟨N30, ["_law_script", "_law_k"], sx_law_pen, sc30, chk30, fun x K f fd F => F.bindsN fun _ _ _ _ _ _ us hl => (match us, hl with | [_, _], _ => rfl), fun ds g Q E h => len30 ds g Q E h, fun ds g Q E h => by rw [startD_len (N := N30) (M := ns_law_pen) rfl]; exact pure_law_pen h⟩
abbrev N31 : List Str := ["_law_pen_here", "_law_many", "_law_number_here", "_law_drawn"]
theorem chk31 : knS sx_law_draw (ckOf N31 (defScope (top 50)) F31 gls exs) (defBody (top 50)) = true := by decide +kernel
theorem sc31 : FnScope N31 ["_law_pen_here", "_law_many"] (defScope (top 50)) := ⟨rfl, rfl, rfl, by decide +kernel, rfl, by decide +kernel, by decide +kernel⟩
theorem len31 (ds : List D) (g : G) (Q : QD) (E : XD) (h : Γ 4 ds g Q E) : ds.length = 2 := by first | (obtain ⟨rfl, _⟩ := h; rfl; done) | (obtain ⟨_, rfl, _⟩ := h; rfl; done) | (obtain ⟨_, _, rfl, _⟩ := h; rfl; done) | (obtain ⟨_, _, _, rfl, _⟩ := h; rfl; done) | (obtain ⟨_, _, _, _, rfl, _⟩ := h; rfl; done) | (obtain ⟨_, _, _, _, _, rfl, _⟩ := h; rfl; done) | (obtain ⟨_, _, _, _, _, _, rfl, _⟩ := h; rfl; done) | (obtain ⟨_, _, _, _, _, _, _, rfl, _⟩ := h; rfl; done) | (obtain ⟨_, _, _, _, _, _, _, _, rfl, _⟩ := h; rfl; done) | (obtain ⟨_, _, _, _, _, _, _, _, _, rfl, _⟩ := h; rfl; done) | (obtain ⟨_, _, _, _, _, _, _, _, _, _, rfl, _⟩ := h; rfl; done) | (obtain ⟨_, _, _, _, _, _, _, _, _, _, _, rfl, _⟩ := h; rfl; done) | (obtain ⟨_, _, _, _, _, _, _, _, _, _, _, _, rfl, _⟩ := h; rfl; done) | (obtain ⟨_, _, _, _, _, _, _, _, _, _, _, _, _, rfl, _⟩ := h; rfl; done) | (rcases h with h | h <;> first | (obtain ⟨rfl, _⟩ := h; rfl; done) | (obtain ⟨_, rfl, _⟩ := h; rfl; done) | (obtain ⟨_, _, rfl, _⟩ := h; rfl; done) | (obtain ⟨_, _, _, rfl, _⟩ := h; rfl; done) | (obtain ⟨_, _, _, _, rfl, _⟩ := h; rfl; done) | (obtain ⟨_, _, _, _, _, rfl, _⟩ := h; rfl; done) | (obtain ⟨_, _, _, _, _, _, rfl, _⟩ := h; rfl; done) | (obtain ⟨_, _, _, _, _, _, _, rfl, _⟩ := h; rfl; done) | (obtain ⟨_, _, _, _, _, _, _, _, rfl, _⟩ := h; rfl; done) | (obtain ⟨_, _, _, _, _, _, _, _, _, rfl, _⟩ := h; rfl; done) | (obtain ⟨_, _, _, _, _, _, _, _, _, _, rfl, _⟩ := h; rfl; done) | (obtain ⟨_, _, _, _, _, _, _, _, _, _, _, rfl, _⟩ := h; rfl; done) | (obtain ⟨_, _, _, _, _, _, _, _, _, _, _, _, rfl, _⟩ := h; rfl; done) | (obtain ⟨_, _, _, _, _, _, _, _, _, _, _, _, _, rfl, _⟩ := h; rfl; done))
theorem ok31 : DefOk Γ gl F31 gls exs (top 50) (Γ 4) := ⟨N31, ["_law_pen_here", "_law_many"], sx_law_draw, sc31, chk31, fun x K f fd F => F.bindsN fun _ _ _ _ _ _ us hl => (match us, hl with | [_, _], _ => rfl), fun ds g Q E h => len31 ds g Q E h, fun ds g Q E h => by rw [startD_len (N := N31) (M := ns_law_draw) rfl]; exact pure_law_draw h⟩
abbrev N32 : List Str := ["_law_top", "_law_bottom", "_law_one", "_law_other"]
theorem chk32 : knS sx_law_lowest (ckOf N32 (defScope (top 51)) F32 gls exs) (defBody (top 51)) = true := by decide +kernel
theorem sc32 : FnScope N32 ["_law_top", "_law_bottom"] (defScope (top 51)) := ⟨rfl, rfl, rfl, by decide +kernel, rfl, by decide +kernel, by decide +kernel⟩
theorem len32 (ds : List D) (g : G) (Q : QD) (E : XD) (h : Γ 5 ds g Q E) : ds.length = 2 := by first | (obtain ⟨rfl, _⟩ := h; rfl; done) | (obtain ⟨_, rfl, _⟩ := h; rfl; done) | (obtain ⟨_, _, rfl, _⟩ := h; rfl; done) | (obtain ⟨_, _, _, rfl, _⟩ := h; rfl; done) | (obtain ⟨_, _, _, _, rfl, _⟩ := h; rfl; done) | (obtain ⟨_, _, _, _, _, rfl, _⟩ := h; rfl; done) | (obtain ⟨_, _, _, _, _, _, rfl, _⟩ := h; rfl; done) | (obtain ⟨_, _, _, _, _, _, _, rfl, _⟩ := h; rfl; done) | (obtain ⟨_, _, _, _, _, _, _, _, rfl, _⟩ := h; rfl; done) | (obtain ⟨_, _, _, _, _, _, _, _, _, rfl, _⟩ := h; rfl; done) | (obtain ⟨_, _, _, _, _, _, _, _, _, _, rfl, _⟩ := h; rfl; done) | (obtain ⟨_, _, _, _, _, _, _, _, _, _, _, rfl, _⟩ := h; rfl; done) | (obtain ⟨_, _, _, _, _, _, _, _, _, _, _, _, rfl, _⟩ := h; rfl; done) | (obtain ⟨_, _, _, _, _, _, _, _, _, _, _, _, _, rfl, _⟩ := h; rfl; done) | (rcases h with h | h <;> first | (obtain ⟨rfl, _⟩ := h; rfl; done) | (obtain ⟨_, rfl, _⟩ := h; rfl; done) | (obtain ⟨_, _, rfl, _⟩ := h; rfl; done) | (obtain ⟨_, _, _, rfl, _⟩ := h; rfl; done) | (obtain ⟨_, _, _, _, rfl, _⟩ := h; rfl; done) | (obtain ⟨_, _, _, _, _, rfl, _⟩ := h; rfl; done) | (obtain ⟨_, _, _, _, _, _, rfl, _⟩ := h; rfl; done) | (obtain ⟨_, _, _, _, _, _, _, rfl, _⟩ := h; rfl; done) | (obtain ⟨_, _, _, _, _, _, _, _, rfl, _⟩ := h; rfl; done) | (obtain ⟨_, _, _, _, _, _, _, _, _, rfl, _⟩ := h; rfl; done) | (obtain ⟨_, _, _, _, _, _, _, _, _, _, rfl, _⟩ := h; rfl; done) | (obtain ⟨_, _, _, _, _, _, _, _, _, _, _, rfl, _⟩ := h; rfl; done) | (obtain ⟨_, _, _, _, _, _, _, _, _, _, _, _, rfl, _⟩ := h; rfl; done) | (obtain ⟨_, _, _, _, _, _, _, _, _, _, _, _, _, rfl, _⟩ := h; rfl; done))
theorem ok32 : DefOk Γ gl F32 gls exs (top 51) (Γ 5) := ⟨N32, ["_law_top", "_law_bottom"], sx_law_lowest, sc32, chk32, fun x K f fd F => F.bindsN fun _ _ _ _ _ _ us hl => (match us, hl with | [_, _], _ => rfl), fun ds g Q E h => len32 ds g Q E h, fun ds g Q E h => by rw [startD_len (N := N32) (M := ns_law_lowest) rfl]; exact pure_law_lowest h⟩
abbrev N33 : List Str := ["_law_a", "_law_b"]
theorem chk33 : knS sx_law_plus (ckOf N33 (defScope (top 52)) F33 gls exs) (defBody (top 52)) = true := by decide +kernel
theorem sc33 : FnScope N33 ["_law_a", "_law_b"] (defScope (top 52)) := ⟨rfl, rfl, rfl, by decide +kernel, rfl, by decide +kernel, by decide +kernel⟩
theorem len33 (ds : List D) (g : G) (Q : QD) (E : XD) (h : Γ 25 ds g Q E) : ds.length = 2 := by first | (obtain ⟨rfl, _⟩ := h; rfl; done) | (obtain ⟨_, rfl, _⟩ := h; rfl; done) | (obtain ⟨_, _, rfl, _⟩ := h; rfl; done) | (obtain ⟨_, _, _, rfl, _⟩ := h; rfl; done) | (obtain ⟨_, _, _, _, rfl, _⟩ := h; rfl; done) | (obtain ⟨_, _, _, _, _, rfl, _⟩ := h; rfl; done) | (obtain ⟨_, _, _, _, _, _, rfl, _⟩ := h; rfl; done) | (obtain ⟨_, _, _, _, _, _, _, rfl, _⟩ := h; rfl; done) | (obtain ⟨_, _, _, _, _, _, _, _, rfl, _⟩ := h; rfl; done) | (obtain ⟨_, _, _, _, _, _, _, _, _, rfl, _⟩ := h; rfl; done) | (obtain ⟨_, _, _, _, _, _, _, _, _, _, rfl, _⟩ := h; rfl; done) | (obtain ⟨_, _, _, _, _, _, _, _, _, _, _, rfl, _⟩ := h; rfl; done) | (obtain ⟨_, _, _, _, _, _, _, _, _, _, _, _, rfl, _⟩ := h; rfl; done) | (obtain ⟨_, _, _, _, _, _, _, _, _, _, _, _, _, rfl, _⟩ := h; rfl; done) | (rcases h with h | h <;> first | (obtain ⟨rfl, _⟩ := h; rfl; done) | (obtain ⟨_, rfl, _⟩ := h; rfl; done) | (obtain ⟨_, _, rfl, _⟩ := h; rfl; done) | (obtain ⟨_, _, _, rfl, _⟩ := h; rfl; done) | (obtain ⟨_, _, _, _, rfl, _⟩ := h; rfl; done) | (obtain ⟨_, _, _, _, _, rfl, _⟩ := h; rfl; done) | (obtain ⟨_, _, _, _, _, _, rfl, _⟩ := h; rfl; done) | (obtain ⟨_, _, _, _, _, _, _, rfl, _⟩ := h; rfl; done) | (obtain ⟨_, _, _, _, _, _, _, _, rfl, _⟩ := h; rfl; done) | (obtain ⟨_, _, _, _, _, _, _, _, _, rfl, _⟩ := h; rfl; done) | (obtain ⟨_, _, _, _, _, _, _, _, _, _, rfl, _⟩ := h; rfl; done) | (obtain ⟨_, _, _, _, _, _, _, _, _, _, _, rfl, _⟩ := h; rfl; done) | (obtain ⟨_, _, _, _, _, _, _, _, _, _, _, _, rfl, _⟩ := h; rfl; done) | (obtain ⟨_, _, _, _, _, _, _, _, _, _, _, _, _, rfl, _⟩ := h; rfl; done))
theorem ok33 : DefOk Γ gl F33 gls exs (top 52) (Γ 25) := ⟨N33, ["_law_a", "_law_b"], sx_law_plus, sc33, chk33, fun x K f fd F => F.bindsN fun _ _ _ _ _ _ us hl => (match us, hl with | [_, _], _ => rfl), fun ds g Q E h => len33 ds g Q E h, fun ds g Q E h => by rw [startD_len (N := N33) (M := ns_law_plus) rfl]; exact pure_law_plus rfl h⟩
abbrev N34 : List Str := ["_law_a", "_law_b"]
theorem chk34 : knS sx_law_minus (ckOf N34 (defScope (top 53)) F34 gls exs) (defBody (top 53)) = true := by decide +kernel
theorem sc34 : FnScope N34 ["_law_a", "_law_b"] (defScope (top 53)) := ⟨rfl, rfl, rfl, by decide +kernel, rfl, by decide +kernel, by decide +kernel⟩
theorem len34 (ds : List D) (g : G) (Q : QD) (E : XD) (h : Γ 35 ds g Q E) : ds.length = 2 := by first | (obtain ⟨rfl, _⟩ := h; rfl; done) | (obtain ⟨_, rfl, _⟩ := h; rfl; done) | (obtain ⟨_, _, rfl, _⟩ := h; rfl; done) | (obtain ⟨_, _, _, rfl, _⟩ := h; rfl; done) | (obtain ⟨_, _, _, _, rfl, _⟩ := h; rfl; done) | (obtain ⟨_, _, _, _, _, rfl, _⟩ := h; rfl; done) | (obtain ⟨_, _, _, _, _, _, rfl, _⟩ := h; rfl; done) | (obtain ⟨_, _, _, _, _, _, _, rfl, _⟩ := h; rfl; done) | (obtain ⟨_, _, _, _, _, _, _, _, rfl, _⟩ := h; rfl; done) | (obtain ⟨_, _, _, _, _, _, _, _, _, rfl, _⟩ := h; rfl; done) | (obtain ⟨_, _, _, _, _, _, _, _, _, _, rfl, _⟩ := h; rfl; done) | (obtain ⟨_, _, _, _, _, _, _, _, _, _, _, rfl, _⟩ := h; rfl; done) | (obtain ⟨_, _, _, _, _, _, _, _, _, _, _, _, rfl, _⟩ := h; rfl; done) | (obtain ⟨_, _, _, _, _, _, _, _, _, _, _, _, _, rfl, _⟩ := h; rfl; done) | (rcases h with h | h <;> first | (obtain ⟨rfl, _⟩ := h; rfl; done) | (obtain ⟨_, rfl, _⟩ := h; rfl; done) | (obtain ⟨_, _, rfl, _⟩ := h; rfl; done) | (obtain ⟨_, _, _, rfl, _⟩ := h; rfl; done) | (obtain ⟨_, _, _, _, rfl, _⟩ := h; rfl; done) | (obtain ⟨_, _, _, _, _, rfl, _⟩ := h; rfl; done) | (obtain ⟨_, _, _, _, _, _, rfl, _⟩ := h; rfl; done) | (obtain ⟨_, _, _, _, _, _, _, rfl, _⟩ := h; rfl; done) | (obtain ⟨_, _, _, _, _, _, _, _, rfl, _⟩ := h; rfl; done) | (obtain ⟨_, _, _, _, _, _, _, _, _, rfl, _⟩ := h; rfl; done) | (obtain ⟨_, _, _, _, _, _, _, _, _, _, rfl, _⟩ := h; rfl; done) | (obtain ⟨_, _, _, _, _, _, _, _, _, _, _, rfl, _⟩ := h; rfl; done) | (obtain ⟨_, _, _, _, _, _, _, _, _, _, _, _, rfl, _⟩ := h; rfl; done) | (obtain ⟨_, _, _, _, _, _, _, _, _, _, _, _, _, rfl, _⟩ := h; rfl; done))
theorem ok34 : DefOk Γ gl F34 gls exs (top 53) (Γ 35) := ⟨N34, ["_law_a", "_law_b"], sx_law_minus, sc34, chk34, fun x K f fd F => F.bindsN fun _ _ _ _ _ _ us hl => (match us, hl with | [_, _], _ => rfl), fun ds g Q E h => len34 ds g Q E h, fun ds g Q E h => by rw [startD_len (N := N34) (M := ns_law_minus) rfl]; exact pure_law_minus rfl h⟩
abbrev N35 : List Str := ["_law_a", "_law_b"]
theorem chk35 : knS sx_law_times (ckOf N35 (defScope (top 54)) F35 gls exs) (defBody (top 54)) = true := by decide +kernel
theorem sc35 : FnScope N35 ["_law_a", "_law_b"] (defScope (top 54)) := ⟨rfl, rfl, rfl, by decide +kernel, rfl, by decide +kernel, by decide +kernel⟩
theorem len35 (ds : List D) (g : G) (Q : QD) (E : XD) (h : Γ 26 ds g Q E) : ds.length = 2 := by first | (obtain ⟨rfl, _⟩ := h; rfl; done) | (obtain ⟨_, rfl, _⟩ := h; rfl; done) | (obtain ⟨_, _, rfl, _⟩ := h; rfl; done) | (obtain ⟨_, _, _, rfl, _⟩ := h; rfl; done) | (obtain ⟨_, _, _, _, rfl, _⟩ := h; rfl; done) | (obtain ⟨_, _, _, _, _, rfl, _⟩ := h; rfl; done) | (obtain ⟨_, _, _, _, _, _, rfl, _⟩ := h; rfl; done) | (obtain ⟨_, _, _, _, _, _, _, rfl, _⟩ := h; rfl; done) | (obtain ⟨_, _, _, _, _, _, _, _, rfl, _⟩ := h; rfl; done) | (obtain ⟨_, _, _, _, _, _, _, _, _, rfl, _⟩ := h; rfl; done) | (obtain ⟨_, _, _, _, _, _, _, _, _, _, rfl, _⟩ := h; rfl; done) | (obtain ⟨_, _, _, _, _, _, _, _, _, _, _, rfl, _⟩ := h; rfl; done) | (obtain ⟨_, _, _, _, _, _, _, _, _, _, _, _, rfl, _⟩ := h; rfl; done) | (obtain ⟨_, _, _, _, _, _, _, _, _, _, _, _, _, rfl, _⟩ := h; rfl; done) | (rcases h with h | h <;> first | (obtain ⟨rfl, _⟩ := h; rfl; done) | (obtain ⟨_, rfl, _⟩ := h; rfl; done) | (obtain ⟨_, _, rfl, _⟩ := h; rfl; done) | (obtain ⟨_, _, _, rfl, _⟩ := h; rfl; done) | (obtain ⟨_, _, _, _, rfl, _⟩ := h; rfl; done) | (obtain ⟨_, _, _, _, _, rfl, _⟩ := h; rfl; done) | (obtain ⟨_, _, _, _, _, _, rfl, _⟩ := h; rfl; done) | (obtain ⟨_, _, _, _, _, _, _, rfl, _⟩ := h; rfl; done) | (obtain ⟨_, _, _, _, _, _, _, _, rfl, _⟩ := h; rfl; done) | (obtain ⟨_, _, _, _, _, _, _, _, _, rfl, _⟩ := h; rfl; done) | (obtain ⟨_, _, _, _, _, _, _, _, _, _, rfl, _⟩ := h; rfl; done) | (obtain ⟨_, _, _, _, _, _, _, _, _, _, _, rfl, _⟩ := h; rfl; done) | (obtain ⟨_, _, _, _, _, _, _, _, _, _, _, _, rfl, _⟩ := h; rfl; done) | (obtain ⟨_, _, _, _, _, _, _, _, _, _, _, _, _, rfl, _⟩ := h; rfl; done))
theorem ok35 : DefOk Γ gl F35 gls exs (top 54) (Γ 26) := ⟨N35, ["_law_a", "_law_b"], sx_law_times, sc35, chk35, fun x K f fd F => F.bindsN fun _ _ _ _ _ _ us hl => (match us, hl with | [_, _], _ => rfl), fun ds g Q E h => len35 ds g Q E h, fun ds g Q E h => by rw [startD_len (N := N35) (M := ns_law_times) rfl]; exact pure_law_times rfl h⟩
abbrev N36 : List Str := ["_law_pen_here"]
theorem chk36 : knS sx_law_number_v2 (ckOf N36 (defScope (top 55)) F36 gls exs) (defBody (top 55)) = true := by decide +kernel
theorem sc36 : FnScope N36 ["_law_pen_here"] (defScope (top 55)) := ⟨rfl, rfl, rfl, by decide +kernel, rfl, by decide +kernel, by decide +kernel⟩
theorem len36 (ds : List D) (g : G) (Q : QD) (E : XD) (h : Γ 36 ds g Q E) : ds.length = 1 := by first | (obtain ⟨rfl, _⟩ := h; rfl; done) | (obtain ⟨_, rfl, _⟩ := h; rfl; done) | (obtain ⟨_, _, rfl, _⟩ := h; rfl; done) | (obtain ⟨_, _, _, rfl, _⟩ := h; rfl; done) | (obtain ⟨_, _, _, _, rfl, _⟩ := h; rfl; done) | (obtain ⟨_, _, _, _, _, rfl, _⟩ := h; rfl; done) | (obtain ⟨_, _, _, _, _, _, rfl, _⟩ := h; rfl; done) | (obtain ⟨_, _, _, _, _, _, _, rfl, _⟩ := h; rfl; done) | (obtain ⟨_, _, _, _, _, _, _, _, rfl, _⟩ := h; rfl; done) | (obtain ⟨_, _, _, _, _, _, _, _, _, rfl, _⟩ := h; rfl; done) | (obtain ⟨_, _, _, _, _, _, _, _, _, _, rfl, _⟩ := h; rfl; done) | (obtain ⟨_, _, _, _, _, _, _, _, _, _, _, rfl, _⟩ := h; rfl; done) | (obtain ⟨_, _, _, _, _, _, _, _, _, _, _, _, rfl, _⟩ := h; rfl; done) | (obtain ⟨_, _, _, _, _, _, _, _, _, _, _, _, _, rfl, _⟩ := h; rfl; done) | (rcases h with h | h <;> first | (obtain ⟨rfl, _⟩ := h; rfl; done) | (obtain ⟨_, rfl, _⟩ := h; rfl; done) | (obtain ⟨_, _, rfl, _⟩ := h; rfl; done) | (obtain ⟨_, _, _, rfl, _⟩ := h; rfl; done) | (obtain ⟨_, _, _, _, rfl, _⟩ := h; rfl; done) | (obtain ⟨_, _, _, _, _, rfl, _⟩ := h; rfl; done) | (obtain ⟨_, _, _, _, _, _, rfl, _⟩ := h; rfl; done) | (obtain ⟨_, _, _, _, _, _, _, rfl, _⟩ := h; rfl; done) | (obtain ⟨_, _, _, _, _, _, _, _, rfl, _⟩ := h; rfl; done) | (obtain ⟨_, _, _, _, _, _, _, _, _, rfl, _⟩ := h; rfl; done) | (obtain ⟨_, _, _, _, _, _, _, _, _, _, rfl, _⟩ := h; rfl; done) | (obtain ⟨_, _, _, _, _, _, _, _, _, _, _, rfl, _⟩ := h; rfl; done) | (obtain ⟨_, _, _, _, _, _, _, _, _, _, _, _, rfl, _⟩ := h; rfl; done) | (obtain ⟨_, _, _, _, _, _, _, _, _, _, _, _, _, rfl, _⟩ := h; rfl; done))
theorem ok36 : DefOk Γ gl F36 gls exs (top 55) (Γ 36) := ⟨N36, ["_law_pen_here"], sx_law_number_v2, sc36, chk36, fun x K f fd F => F.bindsN fun _ _ _ _ _ _ us hl => (match us, hl with | [_], _ => rfl), fun ds g Q E h => len36 ds g Q E h, fun ds g Q E h => by rw [startD_len (N := N36) (M := ns_law_number_v2) rfl]; exact pure_law_number_v2 rfl rfl h⟩
abbrev N37 : List Str := ["_law_curve", "_law_x", "_law_found", "_law_power", "_law_number_here"]
theorem chk37 : knS sx_law_at (ckOf N37 (defScope (top 56)) F37 gls exs) (defBody (top 56)) = true := by decide +kernel
theorem sc37 : FnScope N37 ["_law_curve", "_law_x"] (defScope (top 56)) := ⟨rfl, rfl, rfl, by decide +kernel, rfl, by decide +kernel, by decide +kernel⟩
theorem len37 (ds : List D) (g : G) (Q : QD) (E : XD) (h : Γ 27 ds g Q E) : ds.length = 2 := by first | (obtain ⟨rfl, _⟩ := h; rfl; done) | (obtain ⟨_, rfl, _⟩ := h; rfl; done) | (obtain ⟨_, _, rfl, _⟩ := h; rfl; done) | (obtain ⟨_, _, _, rfl, _⟩ := h; rfl; done) | (obtain ⟨_, _, _, _, rfl, _⟩ := h; rfl; done) | (obtain ⟨_, _, _, _, _, rfl, _⟩ := h; rfl; done) | (obtain ⟨_, _, _, _, _, _, rfl, _⟩ := h; rfl; done) | (obtain ⟨_, _, _, _, _, _, _, rfl, _⟩ := h; rfl; done) | (obtain ⟨_, _, _, _, _, _, _, _, rfl, _⟩ := h; rfl; done) | (obtain ⟨_, _, _, _, _, _, _, _, _, rfl, _⟩ := h; rfl; done) | (obtain ⟨_, _, _, _, _, _, _, _, _, _, rfl, _⟩ := h; rfl; done) | (obtain ⟨_, _, _, _, _, _, _, _, _, _, _, rfl, _⟩ := h; rfl; done) | (obtain ⟨_, _, _, _, _, _, _, _, _, _, _, _, rfl, _⟩ := h; rfl; done) | (obtain ⟨_, _, _, _, _, _, _, _, _, _, _, _, _, rfl, _⟩ := h; rfl; done) | (rcases h with h | h <;> first | (obtain ⟨rfl, _⟩ := h; rfl; done) | (obtain ⟨_, rfl, _⟩ := h; rfl; done) | (obtain ⟨_, _, rfl, _⟩ := h; rfl; done) | (obtain ⟨_, _, _, rfl, _⟩ := h; rfl; done) | (obtain ⟨_, _, _, _, rfl, _⟩ := h; rfl; done) | (obtain ⟨_, _, _, _, _, rfl, _⟩ := h; rfl; done) | (obtain ⟨_, _, _, _, _, _, rfl, _⟩ := h; rfl; done) | (obtain ⟨_, _, _, _, _, _, _, rfl, _⟩ := h; rfl; done) | (obtain ⟨_, _, _, _, _, _, _, _, rfl, _⟩ := h; rfl; done) | (obtain ⟨_, _, _, _, _, _, _, _, _, rfl, _⟩ := h; rfl; done) | (obtain ⟨_, _, _, _, _, _, _, _, _, _, rfl, _⟩ := h; rfl; done) | (obtain ⟨_, _, _, _, _, _, _, _, _, _, _, rfl, _⟩ := h; rfl; done) | (obtain ⟨_, _, _, _, _, _, _, _, _, _, _, _, rfl, _⟩ := h; rfl; done) | (obtain ⟨_, _, _, _, _, _, _, _, _, _, _, _, _, rfl, _⟩ := h; rfl; done))
theorem ok37 : DefOk Γ gl F37 gls exs (top 56) (Γ 27) := ⟨N37, ["_law_curve", "_law_x"], sx_law_at, sc37, chk37, fun x K f fd F => F.bindsN fun _ _ _ _ _ _ us hl => (match us, hl with | [_, _], _ => rfl), fun ds g Q E h => len37 ds g Q E h, fun ds g Q E h => by rw [startD_len (N := N37) (M := ns_law_at) rfl]; exact pure_law_at rfl rfl h⟩
abbrev N38 : List Str := ["_law_pen_here", "_law_many", "_law_found", "_law_k", "_law_x"]
theorem chk38 : knS sx_law_places (ckOf N38 (defScope (top 57)) F38 gls exs) (defBody (top 57)) = true := by decide +kernel
theorem sc38 : FnScope N38 ["_law_pen_here", "_law_many"] (defScope (top 57)) := ⟨rfl, rfl, rfl, by decide +kernel, rfl, by decide +kernel, by decide +kernel⟩
theorem len38 (ds : List D) (g : G) (Q : QD) (E : XD) (h : Γ 54 ds g Q E) : ds.length = 2 := by first | (obtain ⟨rfl, _⟩ := h; rfl; done) | (obtain ⟨_, rfl, _⟩ := h; rfl; done) | (obtain ⟨_, _, rfl, _⟩ := h; rfl; done) | (obtain ⟨_, _, _, rfl, _⟩ := h; rfl; done) | (obtain ⟨_, _, _, _, rfl, _⟩ := h; rfl; done) | (obtain ⟨_, _, _, _, _, rfl, _⟩ := h; rfl; done) | (obtain ⟨_, _, _, _, _, _, rfl, _⟩ := h; rfl; done) | (obtain ⟨_, _, _, _, _, _, _, rfl, _⟩ := h; rfl; done) | (obtain ⟨_, _, _, _, _, _, _, _, rfl, _⟩ := h; rfl; done) | (obtain ⟨_, _, _, _, _, _, _, _, _, rfl, _⟩ := h; rfl; done) | (obtain ⟨_, _, _, _, _, _, _, _, _, _, rfl, _⟩ := h; rfl; done) | (obtain ⟨_, _, _, _, _, _, _, _, _, _, _, rfl, _⟩ := h; rfl; done) | (obtain ⟨_, _, _, _, _, _, _, _, _, _, _, _, rfl, _⟩ := h; rfl; done) | (obtain ⟨_, _, _, _, _, _, _, _, _, _, _, _, _, rfl, _⟩ := h; rfl; done) | (rcases h with h | h <;> first | (obtain ⟨rfl, _⟩ := h; rfl; done) | (obtain ⟨_, rfl, _⟩ := h; rfl; done) | (obtain ⟨_, _, rfl, _⟩ := h; rfl; done) | (obtain ⟨_, _, _, rfl, _⟩ := h; rfl; done) | (obtain ⟨_, _, _, _, rfl, _⟩ := h; rfl; done) | (obtain ⟨_, _, _, _, _, rfl, _⟩ := h; rfl; done) | (obtain ⟨_, _, _, _, _, _, rfl, _⟩ := h; rfl; done) | (obtain ⟨_, _, _, _, _, _, _, rfl, _⟩ := h; rfl; done) | (obtain ⟨_, _, _, _, _, _, _, _, rfl, _⟩ := h; rfl; done) | (obtain ⟨_, _, _, _, _, _, _, _, _, rfl, _⟩ := h; rfl; done) | (obtain ⟨_, _, _, _, _, _, _, _, _, _, rfl, _⟩ := h; rfl; done) | (obtain ⟨_, _, _, _, _, _, _, _, _, _, _, rfl, _⟩ := h; rfl; done) | (obtain ⟨_, _, _, _, _, _, _, _, _, _, _, _, rfl, _⟩ := h; rfl; done) | (obtain ⟨_, _, _, _, _, _, _, _, _, _, _, _, _, rfl, _⟩ := h; rfl; done))
theorem ok38 : DefOk Γ gl F38 gls exs (top 57) (Γ 54) := ⟨N38, ["_law_pen_here", "_law_many"], sx_law_places, sc38, chk38, fun x K f fd F => F.bindsN fun _ _ _ _ _ _ us hl => (match us, hl with | [_, _], _ => rfl), fun ds g Q E h => len38 ds g Q E h, fun ds g Q E h => by rw [startD_len (N := N38) (M := ns_law_places) rfl]; exact pure_law_places rfl rfl h⟩
abbrev N39 : List Str := ["_law_script", "_law_pen_here", "_law_places_here", "_law_many", "_law_width", "_law_height", "_law_due", "_law_spot", "_law_by", "_law_heights", "_law_above", "_law_under", "_law_left", "_law_k", "_law_x"]
theorem chk39 : knS sx_law_k54_v3 (ckOf N39 (defScope (top 58)) F39 gls exs) (defBody (top 58)) = true := by decide +kernel
theorem sc39 : FnScope N39 ["_law_script"] (defScope (top 58)) := ⟨rfl, rfl, rfl, by decide +kernel, rfl, by decide +kernel, by decide +kernel⟩
theorem len39 (ds : List D) (g : G) (Q : QD) (E : XD) (h : spLaw ds g Q E) : ds.length = 1 := by first | (obtain ⟨rfl, _⟩ := h; rfl; done) | (obtain ⟨_, rfl, _⟩ := h; rfl; done) | (obtain ⟨_, _, rfl, _⟩ := h; rfl; done) | (obtain ⟨_, _, _, rfl, _⟩ := h; rfl; done) | (obtain ⟨_, _, _, _, rfl, _⟩ := h; rfl; done) | (obtain ⟨_, _, _, _, _, rfl, _⟩ := h; rfl; done) | (obtain ⟨_, _, _, _, _, _, rfl, _⟩ := h; rfl; done) | (obtain ⟨_, _, _, _, _, _, _, rfl, _⟩ := h; rfl; done) | (obtain ⟨_, _, _, _, _, _, _, _, rfl, _⟩ := h; rfl; done) | (obtain ⟨_, _, _, _, _, _, _, _, _, rfl, _⟩ := h; rfl; done) | (obtain ⟨_, _, _, _, _, _, _, _, _, _, rfl, _⟩ := h; rfl; done) | (obtain ⟨_, _, _, _, _, _, _, _, _, _, _, rfl, _⟩ := h; rfl; done) | (obtain ⟨_, _, _, _, _, _, _, _, _, _, _, _, rfl, _⟩ := h; rfl; done) | (obtain ⟨_, _, _, _, _, _, _, _, _, _, _, _, _, rfl, _⟩ := h; rfl; done) | (rcases h with h | h <;> first | (obtain ⟨rfl, _⟩ := h; rfl; done) | (obtain ⟨_, rfl, _⟩ := h; rfl; done) | (obtain ⟨_, _, rfl, _⟩ := h; rfl; done) | (obtain ⟨_, _, _, rfl, _⟩ := h; rfl; done) | (obtain ⟨_, _, _, _, rfl, _⟩ := h; rfl; done) | (obtain ⟨_, _, _, _, _, rfl, _⟩ := h; rfl; done) | (obtain ⟨_, _, _, _, _, _, rfl, _⟩ := h; rfl; done) | (obtain ⟨_, _, _, _, _, _, _, rfl, _⟩ := h; rfl; done) | (obtain ⟨_, _, _, _, _, _, _, _, rfl, _⟩ := h; rfl; done) | (obtain ⟨_, _, _, _, _, _, _, _, _, rfl, _⟩ := h; rfl; done) | (obtain ⟨_, _, _, _, _, _, _, _, _, _, rfl, _⟩ := h; rfl; done) | (obtain ⟨_, _, _, _, _, _, _, _, _, _, _, rfl, _⟩ := h; rfl; done) | (obtain ⟨_, _, _, _, _, _, _, _, _, _, _, _, rfl, _⟩ := h; rfl; done) | (obtain ⟨_, _, _, _, _, _, _, _, _, _, _, _, _, rfl, _⟩ := h; rfl; done))
theorem ok39 : DefOk Γ gl F39 gls exs (top 58) (spLaw) := ⟨N39, ["_law_script"], sx_law_k54_v3, sc39, chk39, fun x K f fd F => F.bindsN fun _ _ _ _ _ _ us hl => (match us, hl with | [_], _ => rfl), fun ds g Q E h => len39 ds g Q E h, fun ds g Q E h => by rw [startD_len (N := N39) (M := ns_law_k54_v3) rfl]; exact pure_law_k54_v3 rfl rfl rfl rfl rfl rfl h⟩
def D0 : He.DefD := ⟨("shared_part", none), "shared_part", "shared_part", defArgs (top 9), defBody (top 9), defScope (top 9), [], []⟩
def D1 : He.DefD := ⟨("lowest", none), "lowest", "lowest", defArgs (top 10), defBody (top 10), defScope (top 10), [], []⟩
def D2 : He.DefD := ⟨("plus", none), "plus", "plus", defArgs (top 11), defBody (top 11), defScope (top 11), [], []⟩
def D3 : He.DefD := ⟨("minus", none), "minus", "minus", defArgs (top 12), defBody (top 12), defScope (top 12), [], []⟩
def D4 : He.DefD := ⟨("times", none), "times", "times", defArgs (top 13), defBody (top 13), defScope (top 13), [], []⟩
def D5 : He.DefD := ⟨("over", none), "over", "over", defArgs (top 14), defBody (top 14), defScope (top 14), [], []⟩
def D6 : He.DefD := ⟨("is_less", none), "is_less", "is_less", defArgs (top 15), defBody (top 15), defScope (top 15), [], []⟩
def D7 : He.DefD := ⟨("curve_of", none), "curve_of", "curve_of", defArgs (top 17), defBody (top 17), defScope (top 17), [], []⟩
def D8 : He.DefD := ⟨("height_at", none), "height_at", "height_at", defArgs (top 18), defBody (top 18), defScope (top 18), [], []⟩
def D9 : He.DefD := ⟨("number_at", none), "number_at", "number_at", defArgs (top 19), defBody (top 19), defScope (top 19), [], []⟩
def D10 : He.DefD := ⟨("added", none), "added", "added", defArgs (top 20), defBody (top 20), defScope (top 20), [], []⟩
def D11 : He.DefD := ⟨("lessened", none), "lessened", "lessened", defArgs (top 21), defBody (top 21), defScope (top 21), [], []⟩
def D12 : He.DefD := ⟨("scaled", none), "scaled", "scaled", defArgs (top 22), defBody (top 22), defScope (top 22), [], []⟩
def D13 : He.DefD := ⟨("multiplied", none), "multiplied", "multiplied", defArgs (top 23), defBody (top 23), defScope (top 23), [], []⟩
def D14 : He.DefD := ⟨("divided", none), "divided", "divided", defArgs (top 25), defBody (top 25), defScope (top 25), [], []⟩
def D15 : He.DefD := ⟨("with_last_one", none), "with_last_one", "with_last_one", defArgs (top 26), defBody (top 26), defScope (top 26), [], []⟩
def D16 : He.DefD := ⟨("common_part", none), "common_part", "common_part", defArgs (top 27), defBody (top 27), defScope (top 27), [], []⟩
def D17 : He.DefD := ⟨("told_in", none), "told_in", "told_in", defArgs (top 29), defBody (top 29), defScope (top 29), [], []⟩
def D18 : He.DefD := ⟨("first_row", none), "first_row", "first_row", defArgs (top 33), defBody (top 33), defScope (top 33), [], []⟩
def D19 : He.DefD := ⟨("next_row", none), "next_row", "next_row", defArgs (top 34), defBody (top 34), defScope (top 34), [], []⟩
def D20 : He.DefD := ⟨("table_of", none), "table_of", "table_of", defArgs (top 35), defBody (top 35), defScope (top 35), [], []⟩
def D21 : He.DefD := ⟨("steps_of", none), "steps_of", "steps_of", defArgs (top 36), defBody (top 36), defScope (top 36), [], []⟩
def D22 : He.DefD := ⟨("by_steps", none), "by_steps", "by_steps", defArgs (top 37), defBody (top 37), defScope (top 37), [], []⟩
def D23 : He.DefD := ⟨("curve_through", none), "curve_through", "curve_through", defArgs (top 38), defBody (top 38), defScope (top 38), [], []⟩
def D24 : He.DefD := ⟨("ask_places", none), "ask_places", "ask_places", defArgs (top 41), defBody (top 41), defScope (top 41), [], []⟩
def D25 : He.DefD := ⟨("ask_told", none), "ask_told", "ask_told", defArgs (top 42), defBody (top 42), defScope (top 42), [], []⟩
def D26 : He.DefD := ⟨("nought_at", none), "nought_at", "nought_at", defArgs (top 43), defBody (top 43), defScope (top 43), [], []⟩
def D27 : He.DefD := ⟨("pair_for", none), "pair_for", "pair_for", defArgs (top 44), defBody (top 44), defScope (top 44), [], []⟩
def D28 : He.DefD := ⟨("has_height", none), "has_height", "has_height", defArgs (top 46), defBody (top 46), defScope (top 46), [], []⟩
def D29 : He.DefD := ⟨("quotient_through", none), "quotient_through", "quotient_through", defArgs (top 47), defBody (top 47), defScope (top 47), [], []⟩
def D30 : He.DefD := ⟨("_law_pen", none), "_law_pen", "_law_pen", defArgs (top 49), defBody (top 49), defScope (top 49), [], []⟩
def D31 : He.DefD := ⟨("_law_draw", none), "_law_draw", "_law_draw", defArgs (top 50), defBody (top 50), defScope (top 50), [], []⟩
def D32 : He.DefD := ⟨("_law_lowest", none), "_law_lowest", "_law_lowest", defArgs (top 51), defBody (top 51), defScope (top 51), [], []⟩
def D33 : He.DefD := ⟨("_law_plus", none), "_law_plus", "_law_plus", defArgs (top 52), defBody (top 52), defScope (top 52), [], []⟩
def D34 : He.DefD := ⟨("_law_minus", none), "_law_minus", "_law_minus", defArgs (top 53), defBody (top 53), defScope (top 53), [], []⟩
def D35 : He.DefD := ⟨("_law_times", none), "_law_times", "_law_times", defArgs (top 54), defBody (top 54), defScope (top 54), [], []⟩
def D36 : He.DefD := ⟨("_law_number", none), "_law_number", "_law_number", defArgs (top 55), defBody (top 55), defScope (top 55), [], []⟩
def D37 : He.DefD := ⟨("_law_at", none), "_law_at", "_law_at", defArgs (top 56), defBody (top 56), defScope (top 56), [], []⟩
def D38 : He.DefD := ⟨("_law_places", none), "_law_places", "_law_places", defArgs (top 57), defBody (top 57), defScope (top 57), [], []⟩
def D39 : He.DefD := ⟨("law", none), "law", "law", defArgs (top 58), defBody (top 58), defScope (top 58), [], []⟩
def fn : List He.DefD := [D0, D1, D2, D3, D4, D5, D6, D7, D8, D9, D10, D11, D12, D13, D14, D15, D16, D17, D18, D19, D20, D21, D22, D23, D24, D25, D26, D27, D28, D29, D30, D31, D32, D33, D34, D35, D36, D37, D38, D39]
def fa : List He.Fa := bltNames.map (fun x => He.Fa.free (Str.ofString x)) ++ [.glo "shared_part", .glo "lowest", .glo "plus", .glo "minus", .glo "times", .glo "over", .glo "is_less", .glo "curve_of", .glo "height_at", .glo "number_at", .glo "added", .glo "lessened", .glo "scaled", .glo "multiplied", .glo "divided", .glo "with_last_one", .glo "common_part", .glo "told_in", .glo "first_row", .glo "next_row", .glo "table_of", .glo "steps_of", .glo "by_steps", .glo "curve_through", .glo "ask_places", .glo "ask_told", .glo "nought_at", .glo "pair_for", .glo "has_height", .glo "quotient_through", .glo "_law_pen", .glo "_law_draw", .glo "_law_lowest", .glo "_law_plus", .glo "_law_minus", .glo "_law_times", .glo "_law_number", .glo "_law_at", .glo "_law_places", .glo "law", .glo "NoNumber", .exc "NoNumber", .glo "NoCurve", .exc "NoCurve", .glo "NoPoints", .exc "NoPoints", .glo "TooFew", .exc "TooFew"]
def tb : List (Str × D) := gls.map fun p => (p.2, gl p.1)
abbrev R : PySem.W.OpenRow := PySem.W.OpenLaw.row PySem.Challenge.rw_onecurve_k54_quotients_of_one_height
abbrev hk : PySem.W.Hook := hookP 4 fa fn tb exs
def ob (s : PySem.W.SharedT) : AlP := obsPG 4 fa fn tb exs (HandSHeadRun.getT s)
theorem ob_eq (s : PySem.W.SharedT) : ob s = hk.obs s.abs := obsPG_eq (HandSHeadRun.getT_eq s)
theorem run (w : World) : HandSHeadRun.RunEq R (PySem.W.view R.prog [58]) hk ob 4000 [("shared_part" : PySem.Str), ("lowest" : PySem.Str), ("plus" : PySem.Str), ("minus" : PySem.Str), ("times" : PySem.Str), ("over" : PySem.Str), ("is_less" : PySem.Str), ("curve_of" : PySem.Str), ("height_at" : PySem.Str), ("number_at" : PySem.Str), ("added" : PySem.Str), ("lessened" : PySem.Str), ("scaled" : PySem.Str), ("multiplied" : PySem.Str), ("divided" : PySem.Str), ("with_last_one" : PySem.Str), ("common_part" : PySem.Str), ("told_in" : PySem.Str), ("first_row" : PySem.Str), ("next_row" : PySem.Str), ("table_of" : PySem.Str), ("steps_of" : PySem.Str), ("by_steps" : PySem.Str), ("curve_through" : PySem.Str), ("ask_places" : PySem.Str), ("ask_told" : PySem.Str), ("nought_at" : PySem.Str), ("pair_for" : PySem.Str), ("has_height" : PySem.Str), ("quotient_through" : PySem.Str), ("_law_pen" : PySem.Str), ("_law_draw" : PySem.Str), ("_law_lowest" : PySem.Str), ("_law_plus" : PySem.Str), ("_law_minus" : PySem.Str), ("_law_times" : PySem.Str), ("_law_number" : PySem.Str), ("_law_at" : PySem.Str), ("_law_places" : PySem.Str), ("NOUGHT_numbers" : PySem.Str), ("ONE_numbers" : PySem.Str), ("NOUGHT_steps" : PySem.Str), ("ONE_steps" : PySem.Str), ("MOST_PLACES" : PySem.Str), ("CurveError" : PySem.Str), ("NoNumber" : PySem.Str), ("NoCurve" : PySem.Str), ("NoPoints" : PySem.Str), ("TooFew" : PySem.Str)] w := by
  intro os
  kernel_rfl
theorem facts {P : Program} {w : World} {K : PySem.W.Frag} {h : Heap} {mg : Str → Option Value} {f : Addr} (ht : P.given.tree = none) (X : K.In h) (G : h.Ns mainGlobals mg) (S : h.NoSeer) (hfa : mg ("law" : Str) = some (.ref f)) (c : SaysP fa fn tb exs K) :
    ∃ fd : FuncData, (∀ (s : Shared) (v : Value), BindsTo s fd ⟨[v], []⟩ [("_law_script", v)]) ∧ ∀ base : Heap, K.In base → base.Ns mainGlobals mg → FnOk P w K mg base (L2N.CX P w) 80 f fd ["_law_script"] (liftSp K (fun n => He.ga K (Str.ofString n.nm)) spLaw) := by
  obtain ⟨fd0, H0⟩ := c.d.def_ 0 (d := D0) rfl
  obtain ⟨fd1, H1⟩ := c.d.def_ 1 (d := D1) rfl
  obtain ⟨fd2, H2⟩ := c.d.def_ 2 (d := D2) rfl
  obtain ⟨fd3, H3⟩ := c.d.def_ 3 (d := D3) rfl
  obtain ⟨fd4, H4⟩ := c.d.def_ 4 (d := D4) rfl
  obtain ⟨fd5, H5⟩ := c.d.def_ 5 (d := D5) rfl
  obtain ⟨fd6, H6⟩ := c.d.def_ 6 (d := D6) rfl
  obtain ⟨fd7, H7⟩ := c.d.def_ 7 (d := D7) rfl
  obtain ⟨fd8, H8⟩ := c.d.def_ 8 (d := D8) rfl
  obtain ⟨fd9, H9⟩ := c.d.def_ 9 (d := D9) rfl
  obtain ⟨fd10, H10⟩ := c.d.def_ 10 (d := D10) rfl
  obtain ⟨fd11, H11⟩ := c.d.def_ 11 (d := D11) rfl
  obtain ⟨fd12, H12⟩ := c.d.def_ 12 (d := D12) rfl
  obtain ⟨fd13, H13⟩ := c.d.def_ 13 (d := D13) rfl
  obtain ⟨fd14, H14⟩ := c.d.def_ 14 (d := D14) rfl
  obtain ⟨fd15, H15⟩ := c.d.def_ 15 (d := D15) rfl
  obtain ⟨fd16, H16⟩ := c.d.def_ 16 (d := D16) rfl
  obtain ⟨fd17, H17⟩ := c.d.def_ 17 (d := D17) rfl
  obtain ⟨fd18, H18⟩ := c.d.def_ 18 (d := D18) rfl
  obtain ⟨fd19, H19⟩ := c.d.def_ 19 (d := D19) rfl
  obtain ⟨fd20, H20⟩ := c.d.def_ 20 (d := D20) rfl
  obtain ⟨fd21, H21⟩ := c.d.def_ 21 (d := D21) rfl
  obtain ⟨fd22, H22⟩ := c.d.def_ 22 (d := D22) rfl
  obtain ⟨fd23, H23⟩ := c.d.def_ 23 (d := D23) rfl
  obtain ⟨fd24, H24⟩ := c.d.def_ 24 (d := D24) rfl
  obtain ⟨fd25, H25⟩ := c.d.def_ 25 (d := D25) rfl
  obtain ⟨fd26, H26⟩ := c.d.def_ 26 (d := D26) rfl
  obtain ⟨fd27, H27⟩ := c.d.def_ 27 (d := D27) rfl
  obtain ⟨fd28, H28⟩ := c.d.def_ 28 (d := D28) rfl
  obtain ⟨fd29, H29⟩ := c.d.def_ 29 (d := D29) rfl
  obtain ⟨fd30, H30⟩ := c.d.def_ 30 (d := D30) rfl
  obtain ⟨fd31, H31⟩ := c.d.def_ 31 (d := D31) rfl
  obtain ⟨fd32, H32⟩ := c.d.def_ 32 (d := D32) rfl
  obtain ⟨fd33, H33⟩ := c.d.def_ 33 (d := D33) rfl
  obtain ⟨fd34, H34⟩ := c.d.def_ 34 (d := D34) rfl
  obtain ⟨fd35, H35⟩ := c.d.def_ 35 (d := D35) rfl
  obtain ⟨fd36, H36⟩ := c.d.def_ 36 (d := D36) rfl
  obtain ⟨fd37, H37⟩ := c.d.def_ 37 (d := D37) rfl
  obtain ⟨fd38, H38⟩ := c.d.def_ 38 (d := D38) rfl
  obtain ⟨fd39, H39⟩ := c.d.def_ 39 (d := D39) rfl
  have e := hfa.symm.trans (He.glo_ok X G (c.d.fact 57 (f := .glo "law") rfl))
  cases e
  have b := FunD.bindsA (ps := ["_law_script"]) H39 fun _ _ _ _ _ _ us hl => (match us, hl with | [_], _ => rfl)
  refine ⟨fd39, fun s v => b s [v] rfl, fun base _ _ => ?_⟩
  have M0 : ModF P w K mg base (fun n => He.ga K (Str.ofString n.nm)) Γ gl F0 gls exs 40 := by
    refine mod0 (fa := fa) (fn := fn) (tb := tb) X G S c ht rfl (List.prefix_append _ _) fun n hn => ?_
    simp only [exs, List.mem_cons, List.not_mem_nil, or_false] at hn
    rcases hn with rfl | rfl | rfl | rfl
    · exact ⟨List.mem_of_getElem? (i := 58) rfl, List.mem_of_getElem? (i := 59) rfl⟩
    · exact ⟨List.mem_of_getElem? (i := 60) rfl, List.mem_of_getElem? (i := 61) rfl⟩
    · exact ⟨List.mem_of_getElem? (i := 62) rfl, List.mem_of_getElem? (i := 63) rfl⟩
    · exact ⟨List.mem_of_getElem? (i := 64) rfl, List.mem_of_getElem? (i := 65) rfl⟩
  have M1 : ModF P w K mg base (fun n => He.ga K (Str.ofString n.nm)) Γ gl F1 gls exs 41 := chain 0 (x := "shared_part") (f := He.ga K "shared_part") M0 rfl (show FnP K "shared_part" (top 9) (He.ga K "shared_part") fd0 from H0) (He.glo_ok X G (c.d.fact 18 (f := .glo "shared_part") rfl)) ok0
  have M2 : ModF P w K mg base (fun n => He.ga K (Str.ofString n.nm)) Γ gl F2 gls exs 42 := chain 1 (x := "lowest") (f := He.ga K "lowest") M1 rfl (show FnP K "lowest" (top 10) (He.ga K "lowest") fd1 from H1) (He.glo_ok X G (c.d.fact 19 (f := .glo "lowest") rfl)) ok1
  have M3 : ModF P w K mg base (fun n => He.ga K (Str.ofString n.nm)) Γ gl F3 gls exs 43 := chain 11 (x := "plus") (f := He.ga K "plus") M2 rfl (show FnP K "plus" (top 11) (He.ga K "plus") fd2 from H2) (He.glo_ok X G (c.d.fact 20 (f := .glo "plus") rfl)) ok2
  have M4 : ModF P w K mg base (fun n => He.ga K (Str.ofString n.nm)) Γ gl F4 gls exs 44 := chain 12 (x := "minus") (f := He.ga K "minus") M3 rfl (show FnP K "minus" (top 12) (He.ga K "minus") fd3 from H3) (He.glo_ok X G (c.d.fact 21 (f := .glo "minus") rfl)) ok3
  have M5 : ModF P w K mg base (fun n => He.ga K (Str.ofString n.nm)) Γ gl F5 gls exs 45 := chain 13 (x := "times") (f := He.ga K "times") M4 rfl (show FnP K "times" (top 13) (He.ga K "times") fd4 from H4) (He.glo_ok X G (c.d.fact 22 (f := .glo "times") rfl)) ok4
  have M6 : ModF P w K mg base (fun n => He.ga K (Str.ofString n.nm)) Γ gl F6 gls exs 46 := chain 14 (x := "over") (f := He.ga K "over") M5 rfl (show FnP K "over" (top 14) (He.ga K "over") fd5 from H5) (He.glo_ok X G (c.d.fact 23 (f := .glo "over") rfl)) ok5
  have M7 : ModF P w K mg base (fun n => He.ga K (Str.ofString n.nm)) Γ gl F7 gls exs 47 := chain 15 (x := "is_less") (f := He.ga K "is_less") M6 rfl (show FnP K "is_less" (top 15) (He.ga K "is_less") fd6 from H6) (He.glo_ok X G (c.d.fact 24 (f := .glo "is_less") rfl)) ok6
  have M8 : ModF P w K mg base (fun n => He.ga K (Str.ofString n.nm)) Γ gl F8 gls exs 48 := chain 23 (x := "curve_of") (f := He.ga K "curve_of") M7 rfl (show FnP K "curve_of" (top 17) (He.ga K "curve_of") fd7 from H7) (He.glo_ok X G (c.d.fact 25 (f := .glo "curve_of") rfl)) ok7
  have M9 : ModF P w K mg base (fun n => He.ga K (Str.ofString n.nm)) Γ gl F9 gls exs 49 := chain 24 (x := "height_at") (f := He.ga K "height_at") M8 rfl (show FnP K "height_at" (top 18) (He.ga K "height_at") fd8 from H8) (He.glo_ok X G (c.d.fact 26 (f := .glo "height_at") rfl)) ok8
  have M10 : ModF P w K mg base (fun n => He.ga K (Str.ofString n.nm)) Γ gl F10 gls exs 50 := chain 30 (x := "number_at") (f := He.ga K "number_at") M9 rfl (show FnP K "number_at" (top 19) (He.ga K "number_at") fd9 from H9) (He.glo_ok X G (c.d.fact 27 (f := .glo "number_at") rfl)) ok9
  have M11 : ModF P w K mg base (fun n => He.ga K (Str.ofString n.nm)) Γ gl F11 gls exs 51 := chain 31 (x := "added") (f := He.ga K "added") M10 rfl (show FnP K "added" (top 20) (He.ga K "added") fd10 from H10) (He.glo_ok X G (c.d.fact 28 (f := .glo "added") rfl)) ok10
  have M12 : ModF P w K mg base (fun n => He.ga K (Str.ofString n.nm)) Γ gl F12 gls exs 52 := chain 32 (x := "lessened") (f := He.ga K "lessened") M11 rfl (show FnP K "lessened" (top 21) (He.ga K "lessened") fd11 from H11) (He.glo_ok X G (c.d.fact 29 (f := .glo "lessened") rfl)) ok11
  have M13 : ModF P w K mg base (fun n => He.ga K (Str.ofString n.nm)) Γ gl F13 gls exs 53 := chain 33 (x := "scaled") (f := He.ga K "scaled") M12 rfl (show FnP K "scaled" (top 22) (He.ga K "scaled") fd12 from H12) (He.glo_ok X G (c.d.fact 30 (f := .glo "scaled") rfl)) ok12
  have M14 : ModF P w K mg base (fun n => He.ga K (Str.ofString n.nm)) Γ gl F14 gls exs 54 := chain 34 (x := "multiplied") (f := He.ga K "multiplied") M13 rfl (show FnP K "multiplied" (top 23) (He.ga K "multiplied") fd13 from H13) (He.glo_ok X G (c.d.fact 31 (f := .glo "multiplied") rfl)) ok13
  have M15 : ModF P w K mg base (fun n => He.ga K (Str.ofString n.nm)) Γ gl F15 gls exs 55 := chain 44 (x := "divided") (f := He.ga K "divided") M14 rfl (show FnP K "divided" (top 25) (He.ga K "divided") fd14 from H14) (He.glo_ok X G (c.d.fact 32 (f := .glo "divided") rfl)) ok14
  have M16 : ModF P w K mg base (fun n => He.ga K (Str.ofString n.nm)) Γ gl F16 gls exs 56 := chain 49 (x := "with_last_one") (f := He.ga K "with_last_one") M15 rfl (show FnP K "with_last_one" (top 26) (He.ga K "with_last_one") fd15 from H15) (He.glo_ok X G (c.d.fact 33 (f := .glo "with_last_one") rfl)) ok15
  have M17 : ModF P w K mg base (fun n => He.ga K (Str.ofString n.nm)) Γ gl F17 gls exs 57 := chain 50 (x := "common_part") (f := He.ga K "common_part") M16 rfl (show FnP K "common_part" (top 27) (He.ga K "common_part") fd16 from H16) (He.glo_ok X G (c.d.fact 34 (f := .glo "common_part") rfl)) ok16
  have M18 : ModF P w K mg base (fun n => He.ga K (Str.ofString n.nm)) Γ gl F18 gls exs 58 := chain 69 (x := "told_in") (f := He.ga K "told_in") M17 rfl (show FnP K "told_in" (top 29) (He.ga K "told_in") fd17 from H17) (He.glo_ok X G (c.d.fact 35 (f := .glo "told_in") rfl)) ok17
  have M19 : ModF P w K mg base (fun n => He.ga K (Str.ofString n.nm)) Γ gl F19 gls exs 59 := chain 82 (x := "first_row") (f := He.ga K "first_row") M18 rfl (show FnP K "first_row" (top 33) (He.ga K "first_row") fd18 from H18) (He.glo_ok X G (c.d.fact 36 (f := .glo "first_row") rfl)) ok18
  have M20 : ModF P w K mg base (fun n => He.ga K (Str.ofString n.nm)) Γ gl F20 gls exs 60 := chain 83 (x := "next_row") (f := He.ga K "next_row") M19 rfl (show FnP K "next_row" (top 34) (He.ga K "next_row") fd19 from H19) (He.glo_ok X G (c.d.fact 37 (f := .glo "next_row") rfl)) ok19
  have M21 : ModF P w K mg base (fun n => He.ga K (Str.ofString n.nm)) Γ gl F21 gls exs 61 := chain 84 (x := "table_of") (f := He.ga K "table_of") M20 rfl (show FnP K "table_of" (top 35) (He.ga K "table_of") fd20 from H20) (He.glo_ok X G (c.d.fact 38 (f := .glo "table_of") rfl)) ok20
  have M22 : ModF P w K mg base (fun n => He.ga K (Str.ofString n.nm)) Γ gl F22 gls exs 62 := chain 85 (x := "steps_of") (f := He.ga K "steps_of") M21 rfl (show FnP K "steps_of" (top 36) (He.ga K "steps_of") fd21 from H21) (He.glo_ok X G (c.d.fact 39 (f := .glo "steps_of") rfl)) ok21
  have M23 : ModF P w K mg base (fun n => He.ga K (Str.ofString n.nm)) Γ gl F23 gls exs 63 := chain 94 (x := "by_steps") (f := He.ga K "by_steps") M22 rfl (show FnP K "by_steps" (top 37) (He.ga K "by_steps") fd22 from H22) (He.glo_ok X G (c.d.fact 40 (f := .glo "by_steps") rfl)) ok22
  have M24 : ModF P w K mg base (fun n => He.ga K (Str.ofString n.nm)) Γ gl F24 gls exs 64 := chain 97 (x := "curve_through") (f := He.ga K "curve_through") M23 rfl (show FnP K "curve_through" (top 38) (He.ga K "curve_through") fd23 from H23) (He.glo_ok X G (c.d.fact 41 (f := .glo "curve_through") rfl)) ok23
  have M25 : ModF P w K mg base (fun n => He.ga K (Str.ofString n.nm)) Γ gl F25 gls exs 65 := chain 353 (x := "ask_places") (f := He.ga K "ask_places") M24 rfl (show FnP K "ask_places" (top 41) (He.ga K "ask_places") fd24 from H24) (He.glo_ok X G (c.d.fact 42 (f := .glo "ask_places") rfl)) ok24
  have M26 : ModF P w K mg base (fun n => He.ga K (Str.ofString n.nm)) Γ gl F26 gls exs 66 := chain 354 (x := "ask_told") (f := He.ga K "ask_told") M25 rfl (show FnP K "ask_told" (top 42) (He.ga K "ask_told") fd25 from H25) (He.glo_ok X G (c.d.fact 43 (f := .glo "ask_told") rfl)) ok25
  have M27 : ModF P w K mg base (fun n => He.ga K (Str.ofString n.nm)) Γ gl F27 gls exs 67 := chain 218 (x := "nought_at") (f := He.ga K "nought_at") M26 rfl (show FnP K "nought_at" (top 43) (He.ga K "nought_at") fd26 from H26) (He.glo_ok X G (c.d.fact 44 (f := .glo "nought_at") rfl)) ok26
  have M28 : ModF P w K mg base (fun n => He.ga K (Str.ofString n.nm)) Γ gl F28 gls exs 68 := chain 393 (x := "pair_for") (f := He.ga K "pair_for") M27 rfl (show FnP K "pair_for" (top 44) (He.ga K "pair_for") fd27 from H27) (He.glo_ok X G (c.d.fact 45 (f := .glo "pair_for") rfl)) ok27
  have M29 : ModF P w K mg base (fun n => He.ga K (Str.ofString n.nm)) Γ gl F29 gls exs 69 := chain 229 (x := "has_height") (f := He.ga K "has_height") M28 rfl (show FnP K "has_height" (top 46) (He.ga K "has_height") fd28 from H28) (He.glo_ok X G (c.d.fact 46 (f := .glo "has_height") rfl)) ok28
  have M30 : ModF P w K mg base (fun n => He.ga K (Str.ofString n.nm)) Γ gl F30 gls exs 70 := chain 397 (x := "quotient_through") (f := He.ga K "quotient_through") M29 rfl (show FnP K "quotient_through" (top 47) (He.ga K "quotient_through") fd29 from H29) (He.glo_ok X G (c.d.fact 47 (f := .glo "quotient_through") rfl)) ok29
  have M31 : ModF P w K mg base (fun n => He.ga K (Str.ofString n.nm)) Γ gl F31 gls exs 71 := chain 3 (x := "_law_pen") (f := He.ga K "_law_pen") M30 rfl (show FnP K "_law_pen" (top 49) (He.ga K "_law_pen") fd30 from H30) (He.glo_ok X G (c.d.fact 48 (f := .glo "_law_pen") rfl)) ok30
  have M32 : ModF P w K mg base (fun n => He.ga K (Str.ofString n.nm)) Γ gl F32 gls exs 72 := chain 4 (x := "_law_draw") (f := He.ga K "_law_draw") M31 rfl (show FnP K "_law_draw" (top 50) (He.ga K "_law_draw") fd31 from H31) (He.glo_ok X G (c.d.fact 49 (f := .glo "_law_draw") rfl)) ok31
  have M33 : ModF P w K mg base (fun n => He.ga K (Str.ofString n.nm)) Γ gl F33 gls exs 73 := chain 5 (x := "_law_lowest") (f := He.ga K "_law_lowest") M32 rfl (show FnP K "_law_lowest" (top 51) (He.ga K "_law_lowest") fd32 from H32) (He.glo_ok X G (c.d.fact 50 (f := .glo "_law_lowest") rfl)) ok32
  have M34 : ModF P w K mg base (fun n => He.ga K (Str.ofString n.nm)) Γ gl F34 gls exs 74 := chain 25 (x := "_law_plus") (f := He.ga K "_law_plus") M33 rfl (show FnP K "_law_plus" (top 52) (He.ga K "_law_plus") fd33 from H33) (He.glo_ok X G (c.d.fact 51 (f := .glo "_law_plus") rfl)) ok33
  have M35 : ModF P w K mg base (fun n => He.ga K (Str.ofString n.nm)) Γ gl F35 gls exs 75 := chain 35 (x := "_law_minus") (f := He.ga K "_law_minus") M34 rfl (show FnP K "_law_minus" (top 53) (He.ga K "_law_minus") fd34 from H34) (He.glo_ok X G (c.d.fact 52 (f := .glo "_law_minus") rfl)) ok34
  have M36 : ModF P w K mg base (fun n => He.ga K (Str.ofString n.nm)) Γ gl F36 gls exs 76 := chain 26 (x := "_law_times") (f := He.ga K "_law_times") M35 rfl (show FnP K "_law_times" (top 54) (He.ga K "_law_times") fd35 from H35) (He.glo_ok X G (c.d.fact 53 (f := .glo "_law_times") rfl)) ok35
  have M37 : ModF P w K mg base (fun n => He.ga K (Str.ofString n.nm)) Γ gl F37 gls exs 77 := chain 36 (x := "_law_number") (f := He.ga K "_law_number") M36 rfl (show FnP K "_law_number" (top 55) (He.ga K "_law_number") fd36 from H36) (He.glo_ok X G (c.d.fact 54 (f := .glo "_law_number") rfl)) ok36
  have M38 : ModF P w K mg base (fun n => He.ga K (Str.ofString n.nm)) Γ gl F38 gls exs 78 := chain 27 (x := "_law_at") (f := He.ga K "_law_at") M37 rfl (show FnP K "_law_at" (top 56) (He.ga K "_law_at") fd37 from H37) (He.glo_ok X G (c.d.fact 55 (f := .glo "_law_at") rfl)) ok37
  have M39 : ModF P w K mg base (fun n => He.ga K (Str.ofString n.nm)) Γ gl F39 gls exs 79 := chain 54 (x := "_law_places") (f := He.ga K "_law_places") M38 rfl (show FnP K "_law_places" (top 57) (He.ga K "_law_places") fd38 from H38) (He.glo_ok X G (c.d.fact 56 (f := .glo "_law_places") rfl)) ok38
  exact ok_def M39 (by decide) (show FnP K "law" (top 58) (He.ga K "law") fd39 from H39) sc39 chk39 len39 fun ds g Q E h => by rw [startD_len (N := N39) (M := ns_law_k54_v3) rfl]; exact pure_law_k54_v3 rfl rfl rfl rfl rfl rfl h
end PK54
open PySem PySem.W PySem.Calls PyProof.Rows
theorem PySem.Challenge.cw_onecurve_k54_quotients_of_one_height_holds : PySem.Challenge.rw_onecurve_k54_quotients_of_one_height.Holds := by
  w_on; o_law
  refine HandSHeadRun.head_any (r := OpenLaw.row PySem.Challenge.rw_onecurve_k54_quotients_of_one_height) (q := view (OpenLaw.row PySem.Challenge.rw_onecurve_k54_quotients_of_one_height).prog [58]) (H := PK54.hk) (ob := PK54.ob) (M := 4000) (loose := [("shared_part" : PySem.Str), ("lowest" : PySem.Str), ("plus" : PySem.Str), ("minus" : PySem.Str), ("times" : PySem.Str), ("over" : PySem.Str), ("is_less" : PySem.Str), ("curve_of" : PySem.Str), ("height_at" : PySem.Str), ("number_at" : PySem.Str), ("added" : PySem.Str), ("lessened" : PySem.Str), ("scaled" : PySem.Str), ("multiplied" : PySem.Str), ("divided" : PySem.Str), ("with_last_one" : PySem.Str), ("common_part" : PySem.Str), ("told_in" : PySem.Str), ("first_row" : PySem.Str), ("next_row" : PySem.Str), ("table_of" : PySem.Str), ("steps_of" : PySem.Str), ("by_steps" : PySem.Str), ("curve_through" : PySem.Str), ("ask_places" : PySem.Str), ("ask_told" : PySem.Str), ("nought_at" : PySem.Str), ("pair_for" : PySem.Str), ("has_height" : PySem.Str), ("quotient_through" : PySem.Str), ("_law_pen" : PySem.Str), ("_law_draw" : PySem.Str), ("_law_lowest" : PySem.Str), ("_law_plus" : PySem.Str), ("_law_minus" : PySem.Str), ("_law_times" : PySem.Str), ("_law_number" : PySem.Str), ("_law_at" : PySem.Str), ("_law_places" : PySem.Str), ("NOUGHT_numbers" : PySem.Str), ("ONE_numbers" : PySem.Str), ("NOUGHT_steps" : PySem.Str), ("ONE_steps" : PySem.Str), ("MOST_PLACES" : PySem.Str), ("CurveError" : PySem.Str), ("NoNumber" : PySem.Str), ("NoCurve" : PySem.Str), ("NoPoints" : PySem.Str), ("TooFew" : PySem.Str)]) (d := HandSHeadRun.topDef (OpenLaw.row PySem.Challenge.rw_onecurve_k54_quotients_of_one_height).prog 58) (kwd := []) PK54.ob_eq
    (by kernel_rfl) (fun s => by kernel_rfl) PK54.run (by kernel_rfl) (by kernel_rfl) (by kernel_rfl) (by rfl) (by first | assumption | decide +kernel) (by decide +kernel) ⟨rfl, rfl, rfl, rfl, rfl, by decide +kernel⟩ ?hw ?hc
  case hw => w_witness2
  case hc =>
    refine PP.walk_P (l := PySem.Challenge.rw_onecurve_k54_quotients_of_one_height) (n := 63) (k := 80) (x := "_law_script") rfl (by decide +kernel) (by kernel_rfl) ⟨rfl, by decide, by decide⟩ (by kernel_rfl) ?F
    intro w mg fa h Y G hmg0 S
    obtain ⟨K, KX, c⟩ := Y
    have hmg : mg ("law" : PySem.Str) = some (.ref fa) := by
      have e : (HandSHeadRun.topDef (OpenLaw.row PySem.Challenge.rw_onecurve_k54_quotients_of_one_height).prog 58).name = ("law" : PySem.Str) := by kernel_rfl
      rw [← e]
      exact hmg0
    obtain ⟨fd, hb, hF⟩ := PK54.facts (P := (PySem.Challenge.rw_onecurve_k54_quotients_of_one_height).prog) (w := w) rfl KX G S hmg c
    exact ⟨K, fd, _, KX, hb, fun H a ns hl hbits hO hS => PP.law_end hl hbits hO hS, hF⟩

