import PyProof.Rows.All
import HandS.Lambda
import Wide.All
import OpenK.AllK
import Wide.FinOn
import HandS.ForMost
import HandS.Exc
import HandS.ExcOwn
import HandS.TryOnly
import HandS.WordsExc
import HandS.Wide
import HandS.Deep
import HandS.TupAny
import HandS.Rev
import HandS.Zip
import HandS.IsInst
import HandS.Defaults
import HandS.ExcIs
import HandS.ExcCtx
import HandS.HotCalls
import HandS.Dict
import HandS.Iter
import HandS.Conv
import HandS.TupMul
import HandS.More
import KE.GoesMore
import HandS.Ends
import HandS.HeadHook2
import HandS.HeadEnd
import HandS.EndTab
import KE.GoesEnum
import KE.GoesZip
import KE.KDictZip
import HandS.Comp
import PyProof.Rows.TupIter
import HandS.CallRecv
import PyProof.StrBlock2
import HandS.Nested
import HandS.TupSets
import HandS.Style
import KE.KStateDown
import HandS.Head0
import HandS.Head1
import HandS.Head2
import HandS.HeadHook1
import HandS.EndBits
import KE.KNestM
import HandS.HeadHook3
import PySem.Challenge.RW_onecurve_k05_curves_reckoned
set_option Elab.async false
set_option linter.all false
set_option maxRecDepth 100000
namespace PP
open PySem PySem.Spec PyProof.Rows L2
def TabL : List (Addr × Addr × Str) := [(177, 173, "_law_right.<locals>.<lambda>")]
end PP
namespace PP
open PySem PySem.Spec PyProof.Rows L2
inductive Ex where
  | curve | number | ncurve | npoints | many | npoint | stretch | deep | few | text | row
  deriving DecidableEq
def Ex.nm : Ex → String
  | .curve => "CurveError"
  | .number => "NoNumber"
  | .ncurve => "NoCurve"
  | .npoints => "NoPoints"
  | .many => "TooMany"
  | .npoint => "NoPoint"
  | .stretch => "NoStretch"
  | .deep => "TooDeep"
  | .few => "TooFew"
  | .text => "NoText"
  | .row => "NoRow"
def Ex.all : List Ex := [.curve, .number, .ncurve, .npoints, .many, .npoint, .stretch, .deep, .few, .text, .row]
theorem Ex.mem_all (n : Ex) : n ∈ Ex.all := by cases n <;> decide
def Ex.sub (n m : Ex) : Bool := decide (n = m) || decide (m = .curve)
inductive D where
  | non | bl (b : Bool) | int (i : Int) | str (s : Str) | tup (xs : List D) | ref (a : Addr) | scr (ns : List Int) | exc (n : Ex) | emp | dct (c : Addr) | dfz (ks : List D) | obj (c : Addr)
abbrev G := Addr → Option (List D)
def G.up (g : G) (a : Addr) (xs : List D) : G := fun b => if b = a then some xs else g b
def G.del (g : G) (a : Addr) : G := fun b => if b = a then none else g b
abbrev Env := List (Option D)
abbrev QD := D → G → Prop
abbrev XD := Ex → G → Prop
def Per : HO → Prop
  | .tup _ => True
  | .frz _ _ => True
  | _ => False
def TbOk (H : Hp) : Prop := ∀ p ∈ TabL, LamX.TabS H p.2.1 p.2.2
def TK (H H' : Hp) : Prop := (∀ a u, Per u → H a = some u → H' a = some u) ∧ (TbOk H → TbOk H')
theorem TK.refl (H : Hp) : TK H H := ⟨fun _ _ _ h => h, fun h => h⟩
theorem TK.trans {H H1 H2 : Hp} (a : TK H H1) (b : TK H1 H2) : TK H H2 := ⟨fun c u p h => b.1 c u p (a.1 c u p h), fun h => b.2 (a.2 h)⟩
theorem tabS_but {H H' : Hp} {p : Addr} (n1 : ∀ ps, H p ≠ some (.tbl ps)) (n2 : ∀ q, H p ≠ some (LamX.CodeO p q)) (e : ∀ b o, b ≠ p → H b = some o → H' b = some o) {P : Addr} {q : Str} (t : LamX.TabS H P q) : LamX.TabS H' P q := by
  obtain ⟨ps, h1, h2, h3⟩ := t
  refine ⟨ps, e _ _ (fun z => n1 ps (z ▸ h1)) h1, h2, fun pos cv hc => ?_⟩
  obtain ⟨c, e1, e2⟩ := h3 pos cv hc
  exact ⟨c, e1, e _ _ (fun z => n2 q (z ▸ e2)) e2⟩
theorem TK.new {H : Hp} {p : Addr} {o : HO} (h : H p = none) : TK H (upd H p o) := ⟨fun c u _ e => by
  rw [upd_ne (ne_of_none e h)]; exact e, fun t z hz => tabS_but (p := p) (fun ps z => by rw [h] at z; cases z) (fun q z => by rw [h] at z; cases z) (fun b o n e => by rw [upd_ne n]; exact e) (t z hz)⟩
theorem TK.set {H : Hp} {p : Addr} {xs : List V} {o : HO} (h : H p = some (.lst xs)) : TK H (upd H p o) := ⟨fun c u q e => by
  rw [upd_ne]; exact e
  intro z; subst z; rw [h] at e; cases e; exact q, fun t z hz => tabS_but (p := p) (fun ps z => by rw [h] at z; cases z) (fun q z => by rw [h] at z; unfold LamX.CodeO at z; cases z) (fun b o n e => by rw [upd_ne n]; exact e) (t z hz)⟩
theorem TbOk.keep {H H' : Hp} (k : TK H H') (h : TbOk H) : TbOk H' := k.2 h
def TupP (K : PySem.W.Frag) (H : Hp) (a : Addr) (xs : List V) : Prop := H a = some (.tup xs) ∨
  ∃ (o : Obj) (its : Array Value) (n : Nat), K.lookup a = some o ∧ o.cls = .type "tuple" ∧ o.data = .seq its n ∧ its.size ≤ sizeLine ∧ Vals xs its.toList
theorem TupP.sq {K H a xs} (h : TupP K H a xs) : SqT K H a xs := by
  rcases h with h | h
  · exact .inl (.inl h)
  · exact .inr h
theorem TupP.keep {K H H' a xs} (k : TK H H') (h : TupP K H a xs) : TupP K H' a xs := by
  rcases h with h | h
  · exact .inl (k.1 _ _ trivial h)
  · exact .inr h
def ScrP (K : PySem.W.Frag) (H : Hp) (a : Addr) (xs : List V) : Prop := (∃ o, H a = some (.frz o (.lst xs))) ∨
  ∃ (o : Obj) (its : Array Value) (n : Nat), K.lookup a = some o ∧ o.cls = .type "list" ∧ o.dict = none ∧ o.data = .seq its n ∧ its.size ≤ sizeLine ∧ Vals xs its.toList
theorem ScrP.sq {K H a xs} (h : ScrP K H a xs) : SqL K H a xs := by
  rcases h with ⟨o, h⟩ | h
  · exact .inl (.inr ⟨o, h⟩)
  · exact .inr h
theorem ScrP.keep {K H H' a xs} (k : TK H H') (h : ScrP K H a xs) : ScrP K H' a xs := by
  rcases h with ⟨o, h⟩ | h
  · exact .inl ⟨o, k.1 _ _ trivial h⟩
  · exact .inr h
def ExNs (K : PySem.W.Frag) (n : Ex) (c : Addr) : Prop := PySem.W.nsIn K mainGlobals (Str.ofString n.nm) = some (some (.ref c))
structure ExK (K : PySem.W.Frag) (n : Ex) (c : Addr) : Prop where
  exc : ExcC K c
  kit : ∀ m c', ExNs K m c' → PySem.W.kitOne K (.ref c) (.ref c') = some (n.sub m)
  exm : ∀ m c', ExNs K m c' → PySem.W.exmOne K (.ref c) (.ref c') = some (n.sub m)
  val : PySem.W.kitOne K (.ref c) (.type "ValueError") = some true
abbrev excU : HO := .ext fun _ => True
def ExcP (K : PySem.W.Frag) (H : Hp) (n : Ex) (a : Addr) : Prop := ∃ (o : Obj) (u : HO) (c : Addr), H a = some (.frz o u) ∧ o.cls = .ref c ∧ o.dict = none ∧ (∃ vs, o.data = .fields vs ∧ vs[2]? = some .none) ∧ ExNs K n c ∧ ExK K n c
theorem ExcP.keep {K H H' n a} (k : TK H H') (h : ExcP K H n a) : ExcP K H' n a := by
  obtain ⟨o, u, c, e, r⟩ := h
  exact ⟨o, u, c, k.1 _ _ trivial e, r⟩
def keyD (k : List L2.Key) : D := .tup (k.map fun x => match x with
  | .inl i => .int i
  | .inr s => .str s)
abbrev DX := List (List L2.Key × Addr × Value)
def DictRaw (a : Addr) (xs : DX) (h : Heap) : Prop := (a == sysModules) = false ∧ ∃ o es ep, h.get? a = some o ∧ o.ExactDict ∧ o.data = .dict es ep ∧ (∀ (P : Program) (w : World), es.toList = xs.map (entryOfKey (tupleKind (mixKind P w)))) ∧ (xs.map (·.1)).Nodup
abbrev dictO (a : Addr) (xs : DX) : HO := .ext (DictRaw a xs)
def KeysOk (K : PySem.W.Frag) (H : Hp) (xs : DX) : Prop := ∀ x ∈ xs, TupP K H x.2.1 (x.1.map kV) ∧ ∀ k ∈ x.1, ∃ i : Int, k = .inl i
theorem KeysOk.keep {K : PySem.W.Frag} {H H' : Hp} {xs : DX} (k : TK H H') (h : KeysOk K H xs) : KeysOk K H' xs := fun x hx => ⟨(h x hx).1.keep k, (h x hx).2⟩
mutual
def Rep (K : PySem.W.Frag) (H : Hp) : D → V → Prop
  | .non, v => v = .non
  | .bl b, v => v = .bl b
  | .int i, v => v = .int i
  | .str s, v => v = .str s
  | .ref c, v => c % 2 = 0 ∧ v = .ref (c / 2)
  | .dct c, v => c % 4 = 1 ∧ v = .ref (c / 4)
  | .obj c, v => c % 4 = 3 ∧ v = .ref (c / 4)
  | .dfz ks, v => ∃ (a : Addr) (o : Obj) (xs : DX), v = .ref a ∧ H a = some (.frz o (dictO a xs)) ∧ KeysOk K H xs ∧ ks = xs.map fun x => keyD x.1
  | .scr ns, v => ∃ a, v = .ref a ∧ ScrP K H a (ns.map V.int)
  | .exc n, v => ∃ a, v = .ref a ∧ ExcP K H n a
  | .emp, v => ∃ a o kvs, v = .ref a ∧ H a = some (.frz o (.dK kvs))
  | .tup ds, v => ∃ a vs, v = .ref a ∧ TupP K H a vs ∧ RepL K H ds vs
def RepL (K : PySem.W.Frag) (H : Hp) : List D → List V → Prop
  | [], vs => vs = []
  | d :: ds, vs => ∃ v r, vs = v :: r ∧ Rep K H d v ∧ RepL K H ds r
end
section
variable {K : PySem.W.Frag} {H H' : Hp}
mutual
theorem Rep.keep (k : TK H H') : ∀ {d : D} {v : V}, Rep K H d v → Rep K H' d v
  | .non, v, h => h
  | .bl b, v, h => h
  | .int i, v, h => h
  | .str s, v, h => h
  | .ref a, v, h => h
  | .dct a, v, h => h
  | .obj a, v, h => h
  | .dfz ks, v, ⟨a, o, xs, e, h, q, e2⟩ => ⟨a, o, xs, e, k.1 _ _ trivial h, q.keep k, e2⟩
  | .scr ns, v, ⟨a, e, h⟩ => ⟨a, e, h.keep k⟩
  | .exc n, v, ⟨a, e, h⟩ => ⟨a, e, h.keep k⟩
  | .emp, v, ⟨a, o, kvs, e, h⟩ => ⟨a, o, kvs, e, k.1 _ _ trivial h⟩
  | .tup ds, v, ⟨a, vs, e, t, h⟩ => ⟨a, vs, e, t.keep k, RepL.keep k h⟩
theorem RepL.keep (k : TK H H') : ∀ {ds : List D} {vs : List V}, RepL K H ds vs → RepL K H' ds vs
  | [], vs, h => h
  | d :: ds, vs, ⟨v, r, e, h, t⟩ => ⟨v, r, e, Rep.keep k h, RepL.keep k t⟩
end
theorem RepL.length : ∀ {ds : List D} {vs : List V}, RepL K H ds vs → vs.length = ds.length
  | [], vs, h => by subst h; rfl
  | d :: ds, vs, ⟨v, r, e, _, t⟩ => by subst e; simp [RepL.length t]
theorem RepL.get : ∀ {ds : List D} {vs : List V} {i : Nat} {d : D}, RepL K H ds vs → ds[i]? = some d → ∃ v, vs[i]? = some v ∧ Rep K H d v
  | [], vs, i, d, h, e => by simp at e
  | x :: ds, vs, 0, d, ⟨v, r, e, h, t⟩, q => by
    simp at q; subst q; subst e; exact ⟨v, by simp, h⟩
  | x :: ds, vs, i+1, d, ⟨v, r, e, h, t⟩, q => by
    subst e
    obtain ⟨w, e1, h1⟩ := RepL.get (i := i) (d := d) t (by simpa using q)
    exact ⟨w, by simpa using e1, h1⟩
theorem RepL.getv : ∀ {ds : List D} {vs : List V} {i : Nat} {v : V}, RepL K H ds vs → vs[i]? = some v → ∃ d, ds[i]? = some d ∧ Rep K H d v
  | [], vs, i, d, h, e => by subst h; simp at e
  | x :: ds, vs, 0, w, ⟨v, r, e, h, t⟩, q => by
    subst e; simp at q; subst q; exact ⟨x, by simp, h⟩
  | x :: ds, vs, i+1, w, ⟨v, r, e, h, t⟩, q => by
    subst e
    obtain ⟨w, e1, h1⟩ := RepL.getv (i := i) (v := w) t (by simpa using q)
    exact ⟨w, by simpa using e1, h1⟩
theorem RepL.app : ∀ {ds es : List D} {vs ws : List V}, RepL K H ds vs → RepL K H es ws → RepL K H (ds ++ es) (vs ++ ws)
  | [], es, vs, ws, h, q => by subst h; exact q
  | d :: ds, es, vs, ws, ⟨v, r, e, h, t⟩, q => by subst e; exact ⟨v, r ++ ws, rfl, h, t.app q⟩
theorem RepL.take : ∀ {ds : List D} {vs : List V} (n : Nat), RepL K H ds vs → RepL K H (ds.take n) (vs.take n)
  | ds, vs, 0, _ => by simp [RepL]
  | [], vs, n+1, h => by subst h; simp [RepL]
  | d :: ds, vs, n+1, ⟨v, r, e, h, t⟩ => by subst e; exact ⟨v, r.take n, rfl, h, t.take n⟩
theorem RepL.drop : ∀ {ds : List D} {vs : List V} (n : Nat), RepL K H ds vs → RepL K H (ds.drop n) (vs.drop n)
  | ds, vs, 0, h => h
  | [], vs, n+1, h => by subst h; simp [RepL]
  | d :: ds, vs, n+1, ⟨v, r, e, h, t⟩ => by subst e; exact t.drop n
theorem RepL.set {d : D} {v : V} (q : Rep K H d v) : ∀ {ds : List D} {vs : List V} (i : Nat), RepL K H ds vs → RepL K H (ds.set i d) (vs.set i v)
  | [], vs, i, h => by subst h; simp [RepL]
  | x :: ds, vs, 0, ⟨w, r, e, h, t⟩ => by subst e; exact ⟨v, r, rfl, q, t⟩
  | x :: ds, vs, i+1, ⟨w, r, e, h, t⟩ => by subst e; exact ⟨w, r.set i v, rfl, h, t.set q i⟩
theorem RepL.one {d : D} {v : V} (q : Rep K H d v) : RepL K H [d] [v] := ⟨v, [], rfl, q, rfl⟩
theorem RepL.rev : ∀ {ds : List D} {vs : List V}, RepL K H ds vs → RepL K H ds.reverse vs.reverse
  | [], vs, h => by subst h; simp [RepL]
  | d :: ds, vs, ⟨v, r, e, h, t⟩ => by
    subst e; simp only [List.reverse_cons]; exact t.rev.app (.one h)
abbrev clsN : Str := "Desk"
abbrev atrN : Str := "points"
def DeskC (K : PySem.W.Frag) (C : Addr) : Prop := PySem.W.nsIn K mainGlobals clsN = some (some (.ref C))
def FldOk (K : PySem.W.Frag) (H : Hp) (ds : List D) (fs : List (Str × V)) : Prop := (ds = [] ∧ fs = []) ∨ ∃ d v, ds = [d] ∧ fs = [(atrN, v)] ∧ Rep K H d v
theorem FldOk.keep {K : PySem.W.Frag} {H H' : Hp} {ds : List D} {fs : List (Str × V)} (k : TK H H') (h : FldOk K H ds fs) : FldOk K H' ds fs := by
  rcases h with h | ⟨d, v, h1, h2, h3⟩
  · exact .inl h
  · exact .inr ⟨d, v, h1, h2, h3.keep k⟩
def Holds (K : PySem.W.Frag) (H : Hp) (c : Addr) (ds : List D) : Prop := (c % 2 = 0 ∧ ∃ vs, H (c / 2) = some (.lst vs) ∧ RepL K H ds vs) ∨ (c % 4 = 1 ∧ ∃ xs, H (c / 4) = some (dictO (c / 4) xs) ∧ KeysOk K H xs ∧ ds = xs.map fun x => keyD x.1) ∨
  (c % 4 = 3 ∧ ∃ C dx fs, H (c / 4) = some (.ins C dx fs) ∧ DeskC K C ∧ FldOk K H ds fs)
theorem mod_odd {c : Addr} (h : c % 4 = 1 ∨ c % 4 = 3) : c % 2 ≠ 0 := by
  have : ∀ c : Nat, (c % 4 = 1 ∨ c % 4 = 3) → c % 2 ≠ 0 := fun c _ => by omega
  exact this c h
def RepG (K : PySem.W.Frag) (H : Hp) (g : G) : Prop := ∀ c ds, g c = some ds → Holds K H c ds
theorem RepG.lst {g : G} (h : RepG K H g) {c : Addr} {ds : List D} (hc : c % 2 = 0) (e : g c = some ds) : ∃ vs, H (c / 2) = some (.lst vs) ∧ RepL K H ds vs := by
  rcases h c ds e with ⟨_, r⟩ | ⟨z, _⟩ | ⟨z, _⟩
  · exact r
  · exact absurd hc (mod_odd (.inl z))
  · exact absurd hc (mod_odd (.inr z))
theorem RepG.dct {g : G} (h : RepG K H g) {c : Addr} {ds : List D} (hc : c % 4 = 1) (e : g c = some ds) : ∃ xs, H (c / 4) = some (dictO (c / 4) xs) ∧ KeysOk K H xs ∧ ds = xs.map fun x => keyD x.1 := by
  rcases h c ds e with ⟨z, _⟩ | ⟨_, r⟩ | ⟨z, _⟩
  · exact absurd z (mod_odd (.inl hc))
  · exact r
  · rw [hc] at z; cases z
theorem RepG.obj {g : G} (h : RepG K H g) {c : Addr} {ds : List D} (hc : c % 4 = 3) (e : g c = some ds) : ∃ C dx fs, H (c / 4) = some (.ins C dx fs) ∧ DeskC K C ∧ FldOk K H ds fs := by
  rcases h c ds e with ⟨z, _⟩ | ⟨z, _⟩ | ⟨_, r⟩
  · exact absurd z (mod_odd (.inr hc))
  · rw [hc] at z; cases z
  · exact r
theorem half_inj {a c : Addr} (h1 : a % 2 = 0) (h2 : c % 2 = 0) (h : a / 2 = c / 2) : a = c := by
  have : ∀ a c : Nat, a % 2 = 0 → c % 2 = 0 → a / 2 = c / 2 → a = c := fun a c _ _ _ => by omega
  exact this a c h1 h2 h
theorem quart_inj {a c : Addr} {r : Nat} (h1 : a % 4 = r) (h2 : c % 4 = r) (h : a / 4 = c / 4) : a = c := by
  have : ∀ a c r : Nat, a % 4 = r → c % 4 = r → a / 4 = c / 4 → a = c := fun a c r _ _ _ => by omega
  exact this a c r h1 h2 h
theorem code2 (p : Addr) : (2 * p) % 2 = 0 ∧ (2 * p) / 2 = p := by
  have : ∀ p : Nat, (2 * p) % 2 = 0 ∧ (2 * p) / 2 = p := fun p => by omega
  exact this p
theorem code4 (p : Addr) : (4 * p + 1) % 4 = 1 ∧ (4 * p + 1) / 4 = p ∧ (4 * p + 3) % 4 = 3 ∧ (4 * p + 3) / 4 = p := by
  have : ∀ p : Nat, (4 * p + 1) % 4 = 1 ∧ (4 * p + 1) / 4 = p ∧ (4 * p + 3) % 4 = 3 ∧ (4 * p + 3) / 4 = p := fun p => by omega
  exact this p
theorem rep_ref {p : Addr} : Rep K H (.ref (2 * p)) (.ref p) := ⟨(code2 p).1, by rw [(code2 p).2]⟩
theorem rep_dct {p : Addr} : Rep K H (.dct (4 * p + 1)) (.ref p) := ⟨(code4 p).1, by rw [(code4 p).2.1]⟩
theorem rep_obj {p : Addr} : Rep K H (.obj (4 * p + 3)) (.ref p) := ⟨(code4 p).2.2.1, by rw [(code4 p).2.2.2]⟩
theorem RepG.noneL {g : G} (h : RepG K H g) {c : Addr} (hc : c % 2 = 0) (n : ∀ vs, H (c / 2) ≠ some (.lst vs)) : g c = Option.none := by
  cases e : g c with
  | none => rfl
  | some xs => obtain ⟨vs, q, _⟩ := h.lst hc e; exact absurd q (n vs)
theorem RepG.none {g : G} (h : RepG K H g) {p : Addr} (n : H p = Option.none) : g (2 * p) = Option.none := h.noneL (code2 p).1 (fun vs z => by rw [(code2 p).2, n] at z; cases z)
theorem RepG.noneD {g : G} (h : RepG K H g) {p : Addr} (n : H p = Option.none) : g (4 * p + 1) = Option.none := by
  cases e : g (4 * p + 1) with
  | none => rfl
  | some xs => obtain ⟨vs, q, _⟩ := h.dct (code4 p).1 e; rw [(code4 p).2.1, n] at q; cases q
theorem RepG.noneO {g : G} (h : RepG K H g) {p : Addr} (n : H p = Option.none) : g (4 * p + 3) = Option.none := by
  cases e : g (4 * p + 3) with
  | none => rfl
  | some xs => obtain ⟨C, dx, fs, q, _⟩ := h.obj (code4 p).2.2.1 e; rw [(code4 p).2.2.2, n] at q; cases q
theorem Holds.other {p c : Addr} {o : HO} {ds : List D} (k : TK H (upd H p o)) (h : Holds K H c ds) (h1 : c % 2 = 0 → c / 2 ≠ p) (h2 : c % 4 = 1 → c / 4 ≠ p) (h3 : c % 4 = 3 → c / 4 ≠ p) : Holds K (upd H p o) c ds := by
  rcases h with ⟨y, ws, q, r⟩ | ⟨y, ws, q, r⟩ | ⟨y, C, dx, fs, q, r1, r2⟩
  · exact .inl ⟨y, ws, by rw [upd_ne (h1 y)]; exact q, r.keep k⟩
  · exact .inr (.inl ⟨y, ws, by rw [upd_ne (h2 y)]; exact q, r.1.keep k, r.2⟩)
  · exact .inr (.inr ⟨y, C, dx, fs, by rw [upd_ne (h3 y)]; exact q, r1, r2.keep k⟩)
theorem RepG.tup {g : G} (h : RepG K H g) {p : Addr} {o : HO} (n : H p = Option.none) : RepG K (upd H p o) g := fun a ds e => by
  have hh := h a ds e
  rcases id hh with ⟨z, vs, q, r⟩ | ⟨z, vs, q, r⟩ | ⟨z, C, dx, fs, q, r⟩
  · exact hh.other (.new n) (fun _ => ne_of_none q n) (fun w => absurd z (mod_odd (.inl w))) (fun w => absurd z (mod_odd (.inr w)))
  · exact hh.other (.new n) (fun w => absurd w (mod_odd (.inl z))) (fun _ => ne_of_none q n) (fun w => by rw [z] at w; cases w)
  · exact hh.other (.new n) (fun w => absurd w (mod_odd (.inr z))) (fun w => by rw [z] at w; cases w) (fun _ => ne_of_none q n)
theorem RepG.new {g : G} (h : RepG K H g) {p : Addr} {ds : List D} {vs : List V} (n : H p = Option.none) (r : RepL K H ds vs) : RepG K (upd H p (.lst vs)) (g.up (2 * p) ds) := fun a es e => by
  unfold G.up at e
  split at e
  · rename_i z; subst z; cases e; exact .inl ⟨(code2 p).1, vs, by rw [(code2 p).2]; exact upd_same, r.keep (.new n)⟩
  · exact (h.tup n) a es e
theorem RepG.put {g : G} (h : RepG K H g) {c : Addr} {xs : List V} {ds : List D} {vs : List V} (hc : c % 2 = 0) (n : H (c / 2) = some (.lst xs)) (r : RepL K H ds vs) : RepG K (upd H (c / 2) (.lst vs)) (g.up c ds) := fun a es e => by
  unfold G.up at e
  split at e
  · rename_i z; subst z; cases e; exact .inl ⟨hc, vs, upd_same, r.keep (.set n)⟩
  · rename_i z
    refine (h a es e).other (.set n) (fun y w => z (half_inj y hc w)) (fun y w => ?_) fun y w => ?_
    · obtain ⟨xs, q, _⟩ := h.dct y e
      rw [w, n] at q; cases q
    · obtain ⟨_, _, _, q, _⟩ := h.obj y e
      rw [w, n] at q; cases q
theorem RepG.putE {g : G} (h : RepG K H g) {p : Addr} {xs : List V} {ds : List D} {vs : List V} (n : H p = some (.lst xs)) (r : RepL K H ds vs) : RepG K (upd H p (.lst vs)) (g.up (2 * p) ds) := by
  have := h.put (c := 2 * p) (code2 p).1 (by rw [(code2 p).2]; exact n) r
  rwa [(code2 p).2] at this
theorem RepG.lstE {g : G} (h : RepG K H g) {p : Addr} {ds : List D} (e : g (2 * p) = some ds) : ∃ vs, H p = some (.lst vs) ∧ RepL K H ds vs := by
  have := h.lst (code2 p).1 e
  rwa [(code2 p).2] at this
def RepE (K : PySem.W.Frag) (H : Hp) (env : Env) (σ : List (Option V)) : Prop := env.length = σ.length ∧ (∀ (i : Nat) (d : D), env[i]? = some (some d) → ∃ v : V, σ[i]? = some (some v) ∧ Rep K H d v) ∧ TbOk H
theorem RepE.keep {env : Env} {σ : List (Option V)} (k : TK H H') (h : RepE K H env σ) : RepE K H' env σ := ⟨h.1, fun i d e => by
  obtain ⟨v, a, b⟩ := h.2.1 i d e
  exact ⟨v, a, b.keep k⟩, h.2.2.keep k⟩
theorem RepE.set {env : Env} {σ : List (Option V)} {i : Nat} {d : D} {v : V} (h : RepE K H env σ) (r : Rep K H d v) : RepE K H (env.set i (some d)) (σ.set i (some v)) := by
  refine ⟨by simp [h.1], fun j e q => ?_, h.2.2⟩
  by_cases hij : i = j
  · subst hij
    by_cases hl : i < env.length
    · rw [List.getElem?_set_self hl] at q
      cases q
      exact ⟨v, by rw [List.getElem?_set_self (by rw [← h.1]; exact hl)], r⟩
    · rw [List.getElem?_eq_none (by simpa using hl)] at q; cases q
  · rw [List.getElem?_set_ne hij] at q
    obtain ⟨w, a, b⟩ := h.2.1 j e q
    exact ⟨w, by rw [List.getElem?_set_ne hij]; exact a, b⟩
theorem RepE.wipe {env : Env} {σ : List (Option V)} (h : RepE K H env σ) (vs : List Nat) : RepE K H (vs.foldr (fun v e => e.set v Option.none) env) (wipe σ vs) := by
  induction vs with
  | nil => exact h
  | cons v vs ih =>
    show RepE K H ((vs.foldr (fun v e => e.set v Option.none) env).set v Option.none) ((L2.wipe σ vs).set v Option.none)
    refine ⟨by simp [ih.1], fun j e q => ?_, ih.2.2⟩
    by_cases hij : v = j
    · subst hij
      by_cases hl : v < (vs.foldr (fun v e => e.set v Option.none) env).length
      · rw [List.getElem?_set_self hl] at q; cases q
      · rw [List.getElem?_eq_none (by simpa using hl)] at q; cases q
    · rw [List.getElem?_set_ne hij] at q
      obtain ⟨w, a, b⟩ := ih.2.1 j e q
      exact ⟨w, by rw [List.getElem?_set_ne hij]; exact a, b⟩
end
end PP
namespace PP
open PySem PySem.Spec PyProof.Rows L2
theorem raw_stable {a : Addr} {xs : DX} {h1 h2 : Heap} (r : DictRaw a xs h1) (k : ∀ o, h1.get? a = some o → h2.get? a = some o) : DictRaw a xs h2 := by
  obtain ⟨d, o, es, ep, e, q⟩ := r
  exact ⟨d, o, es, ep, k o e, q⟩
theorem raw_ok {P : Program} {w : World} {H : Hp} {h : Heap} {a : Addr} {xs : DX} (r : DictRaw a xs h) : ObjOk P w H h a (dictO a xs) := ⟨r, (let ⟨_, o, _, _, e, _⟩ := r; ⟨o, e⟩), fun h1 h2 r k => raw_stable r k⟩
section
variable {X : Cx} {pins : List (Addr × Obj)} {σ : L2.St} {H : Hp} {s : Shared} {pos : Pos} {a b : Addr} {xs : DX} {ks : List Key}
theorem pe_dict0 : PE X (.Dict [] [] pos) (fun _ H Q => ∀ p, H p = none → Q (.ref p) (upd H p (dictO p []))) := ⟨fun pins s σ H Q I h =>
  wpAny_Dict_empty ⟨.ref s.heap.objs.size, _, I.laid (a := s.heap.objs.size) (o := dictO s.heap.objs.size []) (t' := s.toks) (fun _ _ q => Heap.get?_push_of_some _ q) (Nat.le_refl _)
    (raw_ok ⟨beq_eq_false_iff_ne.mpr (Ne.symm (Nat.ne_of_lt I.big)), _, #[], 0, Heap.get?_push_size _ rfl, ⟨rfl, rfl, rfl⟩, rfl, fun _ _ => rfl, List.nodup_nil⟩), rfl, h _ (I.hok.fresh (Nat.le_refl _))⟩⟩
theorem key_is (I : Inv X pins σ H s) (t : TupP X.K H b (ks.map kV)) : (tupleKind (mixKind X.prog X.w)).is s.heap ks b := by
  rcases t with e | ⟨o, its, n, e, c, d, _, r⟩
  · exact key_of I.hok e
  · exact ⟨o, its, n, I.kIn _ _ e, c, d, by simpa using items_are r⟩
theorem dict_h (I : Inv X pins σ H s) (e : H a = some (dictO a xs)) (k : KeysOk X.K H xs) : (a == sysModules) = false ∧ s.heap.DictOfH (tupleKind (mixKind X.prog X.w)) a xs := by
  obtain ⟨⟨z, o, es, ep, h1, h2, h3, h4, h5⟩, _, _⟩ := (show ObjOk X.prog X.w H s.heap a (dictO a xs) from I.hok a _ e)
  exact ⟨z, o, es, ep, h1, h2, h3, h4 _ _, fun x hx => key_is I (k x hx).1, h5⟩
theorem dict_notIn {A : Around} {E : Value → Shared → Prop} {Q : Value → Shared → Prop} (hu : A.units + 1 < cLine) (I : Inv X pins σ H s) (e : H a = some (dictO a xs)) (k : KeysOk X.K H xs) (t : TupP X.K H b (ks.map kV))
    (h : ∀ s', Inv X pins σ H s' → Q (.bool (!(atKey xs ks).isSome)) s') : wpAny (model X.prog X.w) A (compareOp .NotIn (.ref b) (.ref a)) Q E s := by
  obtain ⟨hd, dd⟩ := dict_h I e k
  exact wpAny_notIn_heap (tupleKind_room_in1 hu) (key_is I t) hd dd (h _ (I.tok _))
theorem entry_same {P P' : Program} {w w' : World} {x : List Key × Addr × Value} (h : ∀ k ∈ x.1, ∃ i : Int, k = .inl i) : entryOfKey (tupleKind (mixKind P w)) x = entryOfKey (tupleKind (mixKind P' w')) x := by
  have e : x.1.map (keyH w) = x.1.map (keyH w') := List.map_congr_left fun k hk => by
    obtain ⟨i, rfl⟩ := h k hk
    rfl
  unfold entryOfKey
  congr 1
  show tupleKeyHash (mixKind P w) x.1 = tupleKeyHash (mixKind P' w') x.1
  unfold tupleKeyHash
  show _ = _
  first
  | (simp only [show (mixKind P w).hash = keyH w from rfl, show (mixKind P' w').hash = keyH w' from rfl, e])
  | skip
theorem dict_set {A : Around} {E : Value → Shared → Prop} {Q : Unit → Shared → Prop} {r : Value} {v : V} (hu : A.units + 1 < cLine) (hz : xs.length ≤ sizeLine) (I : Inv X pins σ H s) (e : H a = some (dictO a xs)) (k : KeysOk X.K H xs) (t : TupP X.K H b (ks.map kV)) (hi : ∀ k ∈ ks, ∃ i : Int, k = .inl i)
    (h : ∀ s', Inv X pins σ (upd H a (dictO a (storedH xs ks b r))) s' → Q () s') : wpAny (model X.prog X.w) A (setItem (.ref a) (.ref b) r) Q E s := by
  obtain ⟨hd, dd⟩ := dict_h I e k
  refine wpAny_setItem_heap (hsz := hz) (tupleKind_room_in1 hu) (key_is I t) dd fun h' dd' hs => h _ ?_
  obtain ⟨q, es, ep, hq, h2, h3, h4, _, h5⟩ := dd'
  have hints : ∀ x ∈ storedH xs ks b r, ∀ k ∈ x.1, ∃ i : Int, k = .inl i := fun x hx => by
    unfold storedH at hx
    split at hx
    · obtain ⟨y, hy, rfl⟩ := List.mem_map.mp hx
      unfold putAt
      split <;> exact (k y hy).2
    · rcases List.mem_append.mp hx with hx | hx
      · exact (k x hx).2
      · rw [List.mem_singleton.mp hx]; exact hi
  refine d_write I (by rw [e]; exact True.intro) hs ⟨q, hq⟩ (raw_ok ⟨hd, q, es, ep, hq, h2, h3, fun P w => ?_, h5⟩)
  rw [h4]
  exact List.map_congr_left fun x hx => entry_same (hints x hx)
end
def tD (ns : List Int) : D := .tup (ns.map D.int)
def tK (ns : List Int) : List L2.Key := ns.map Sum.inl
theorem keyD_tK (ns : List Int) : keyD (tK ns) = tD ns := by
  unfold keyD tK tD
  rw [List.map_map]
  rfl
theorem keyD_inj : ∀ {ns : List Int} {k : List L2.Key}, tD ns = keyD k → k = tK ns := by
  intro ns k h
  unfold tD keyD at h
  injection h with h
  induction ns generalizing k with
  | nil =>
    cases k with
    | nil => rfl
    | cons x k => cases h
  | cons n ns ih =>
    cases k with
    | nil => cases h
    | cons x k =>
      rw [List.map_cons, List.map_cons] at h
      injection h with h1 h2
      cases x with
      | inl i => injection h1 with h1; subst h1; rw [ih h2]; rfl
      | inr s => cases h1
theorem at_mem {xs : DX} {ns : List Int} : (atKey xs (tK ns)).isSome = true ↔ tD ns ∈ xs.map fun x => keyD x.1 := by
  unfold atKey
  rw [Option.isSome_map, List.find?_isSome]
  constructor
  · rintro ⟨x, hx, e⟩
    exact List.mem_map.mpr ⟨x, hx, by rw [of_decide_eq_true e, keyD_tK]⟩
  · intro h
    obtain ⟨x, hx, e⟩ := List.mem_map.mp h
    exact ⟨x, hx, decide_eq_true (keyD_inj e.symm)⟩
theorem stored_map {xs : DX} {ns : List Int} {b : Addr} {v : Value} : (storedH xs (tK ns) b v).map (fun x => keyD x.1) = if (atKey xs (tK ns)).isSome = true then xs.map (fun x => keyD x.1) else xs.map (fun x => keyD x.1) ++ [tD ns] := by
  unfold storedH
  split
  · rw [List.map_map]
    refine List.map_congr_left fun x _ => ?_
    show keyD (putAt _ _ x).1 = _
    unfold putAt
    split <;> rfl
  · rw [List.map_append, List.map_singleton, keyD_tK]
theorem keys_rep {K : PySem.W.Frag} {H : Hp} : ∀ {ns : List Int} {vs : List V}, RepL K H (ns.map D.int) vs → vs = (tK ns).map kV
  | [], vs, h => h
  | n :: ns, vs, ⟨v, r, e, h, t⟩ => by
    subst e
    rw [keys_rep t, show v = V.int n from h]
    rfl
theorem not_code {H : Hp} {p : Addr} {xs : DX} {q : Str} (hx : ∃ h, DictRaw p xs h) (h : H p = some (dictO p xs)) : H p ≠ some (LamX.CodeO p q) := fun z => by
  rw [h] at z
  unfold LamX.CodeO at z
  injection z with z
  injection z with z
  obtain ⟨hp, r⟩ := hx
  have r2 := r
  rw [z] at r2
  obtain ⟨oc, vs, t, e1, e2, _⟩ := r2
  obtain ⟨_, o, es, ep, e3, _, e4, _⟩ := r
  rw [e3] at e1
  cases e1
  rw [e4] at e2
  cases e2
theorem TK.setX {H : Hp} {p : Addr} {xs : DX} {o : HO} (hx : ∃ h, DictRaw p xs h) (h : H p = some (dictO p xs)) : TK H (upd H p o) := ⟨fun c u q e => by
  rw [upd_ne]; exact e
  intro z; subst z; rw [h] at e; cases e; exact q, fun t z hz => tabS_but (p := p) (fun ps z => by rw [h] at z; cases z) (fun q => not_code hx h) (fun b o n e => by rw [upd_ne n]; exact e) (t z hz)⟩
theorem KeysOk.stored {K : PySem.W.Frag} {H : Hp} {xs : DX} {ns : List Int} {b : Addr} {r : Value} (k : KeysOk K H xs) (t : TupP K H b ((tK ns).map kV)) : KeysOk K H (storedH xs (tK ns) b r) := fun x hx => by
  unfold storedH at hx
  split at hx
  · obtain ⟨y, hy, rfl⟩ := List.mem_map.mp hx
    unfold putAt
    split <;> exact k y hy
  · rcases List.mem_append.mp hx with hx | hx
    · exact k x hx
    · rw [List.mem_singleton.mp hx]
      refine ⟨t, fun z hz => ?_⟩
      obtain ⟨i, _, rfl⟩ := List.mem_map.mp hz
      exact ⟨i, rfl⟩
theorem RepG.putD {K : PySem.W.Frag} {H : Hp} {g : G} (h : RepG K H g) {c : Addr} {xs xs' : DX} (hc : c % 4 = 1) (hx : ∃ h, DictRaw (c / 4) xs h) (n : H (c / 4) = some (dictO (c / 4) xs)) (k : KeysOk K H xs') : RepG K (upd H (c / 4) (dictO (c / 4) xs')) (g.up c (xs'.map fun x => keyD x.1)) := fun a es e => by
  unfold G.up at e
  split at e
  · rename_i z; subst z; cases e; exact .inr (.inl ⟨hc, xs', upd_same, k.keep (.setX hx n), rfl⟩)
  · rename_i z
    refine (h a es e).other (.setX hx n) (fun y w => ?_) (fun y w => z (quart_inj y hc w)) fun y w => ?_
    · obtain ⟨xs, q, _⟩ := h.lst y e
      rw [w, n] at q; cases q
    · obtain ⟨_, _, _, q, _⟩ := h.obj y e
      rw [w, n] at q; cases q
theorem RepG.newD {K : PySem.W.Frag} {H : Hp} {g : G} (h : RepG K H g) {p : Addr} (n : H p = Option.none) : RepG K (upd H p (dictO p [])) (g.up (4 * p + 1) []) := fun a es e => by
  unfold G.up at e
  split at e
  · rename_i z; subst z; cases e
    exact .inr (.inl ⟨(code4 p).1, [], by rw [(code4 p).2.1]; exact upd_same, (fun x hx => by cases hx), rfl⟩)
  · exact (h.tup n) a es e
theorem RepG.frzD {K : PySem.W.Frag} {H : Hp} {g : G} (h : RepG K H g) {c : Addr} {xs : DX} {o : Obj} (hc : c % 4 = 1) (hx : ∃ h, DictRaw (c / 4) xs h) (n : H (c / 4) = some (dictO (c / 4) xs)) : RepG K (upd H (c / 4) (.frz o (dictO (c / 4) xs))) (g.del c) := fun a es e => by
  unfold G.del at e
  split at e
  · cases e
  · rename_i z
    refine (h a es e).other (.setX hx n) (fun y w => ?_) (fun y w => z (quart_inj y hc w)) fun y w => ?_
    · obtain ⟨xs, q, _⟩ := h.lst y e
      rw [w, n] at q; cases q
    · obtain ⟨_, _, _, q, _⟩ := h.obj y e
      rw [w, n] at q; cases q
section
variable {X : Cx} {pins : List (Addr × Obj)} {σ : L2.St} {H : Hp} {s : Shared} {d : Addr} {o : Obj} {xs : DX}
theorem frzR (I : Inv X pins σ H s) (h : H d = some (.frz o (dictO d xs))) : (d == sysModules) = false ∧ s.heap.get? d = some o ∧ o.ExactDict ∧ ∃ es ep, o.data = .dict es ep ∧ es.toList = xs.map (entryOfKey (tupleKind (mixKind X.prog X.w))) := by
  obtain ⟨hd, ⟨z, o', es, ep, h1, h2, h3, h4, h5⟩, _, _⟩ := (show ObjOk X.prog X.w H s.heap d (.frz o (dictO d xs)) from I.hok d _ h)
  rw [hd] at h1
  cases h1
  exact ⟨z, hd, h2, es, ep, h3, h4 _ _⟩
def Itf (d : Addr) (o : Obj) (xs : DX) : It :=
  ⟨fun i H => H d = some (.frz o (dictO d xs)) ∧ i < xs.length, fun i H x H' => H' = H ∧ ∃ y, xs[i]? = some y ∧ x = .ref y.2.1, fun i H => H d = some (.frz o (dictO d xs)) ∧ xs.length ≤ i⟩
theorem turn_frz {P : Program} {w : World} {K : PySem.W.Frag} {tg : Expr} {es : Array DictEntry} {ep : Nat} (it : Addr) (hod : o.data = .dict es ep) : Turn P w K tg (Itf d o xs) [it] it (fun i h => h.IsKeyIter it d i xs.length ep) where
  mem := by simp
  obj := fun i h st b hb => by
    have e : b = it := by simpa using hb
    subst e
    obtain ⟨oi, e, c, dd⟩ := st
    exact ⟨oi, e, fun v z => by rw [dd] at z; cases z⟩
  keep := fun i h h' st k => st.at fun oi e => k it (by simp) oi e
  item := by
    intro X hP hw hK hc i pins s σ H E I hf st hg
    subst hP hw hK
    obtain ⟨hd, hi⟩ := hg
    obtain ⟨f0, f1, f2, f3, f4, f5⟩ := hf it (by simp)
    obtain ⟨hs, hgd, hx, es', ep', hdt, he⟩ := frzR I hd
    obtain ⟨rfl, rfl⟩ := dict_ep hod hdt
    have hsz := size_of_entries he
    obtain ⟨y, hy⟩ : ∃ p, xs[i]? = some p := ⟨xs[i], List.getElem?_eq_getElem hi⟩
    have hen := entry_at he i
    rw [hy] at hen
    refine next_key_item st hgd hdt hsz hen fun h' st' sb => ?_
    have I1 : Inv X pins σ H { s with heap := h' } := I.turned (t' := s.toks) (fun b ob hb e => (sb.2 b hb).trans e) f0 f1 f3 f4 f5
    obtain ⟨oi, e, c, dd⟩ := id st'
    exact ⟨_, rfl, go_of (s := { s with heap := h' }) e c dd (by decide) ⟨.ref y.2.1, H, I1, rfl, ⟨rfl, y, hy, rfl⟩, st', fun b hb => (hf b hb).1⟩⟩
  done := by
    intro X hP hw hK hc i pins s σ H E I hf st hg
    subst hP hw hK
    obtain ⟨hd, hi⟩ := hg
    obtain ⟨f0, f1, f2, f3, f4, f5⟩ := hf it (by simp)
    obtain ⟨hs, hgd, hx, es', ep', hdt, he⟩ := frzR I hd
    obtain ⟨rfl, rfl⟩ := dict_ep hod hdt
    exact next_key_end (I.ok.hd hc) st hgd hdt (size_of_entries he) hi fun h' eb => ⟨rfl, I.turned (t' := s.toks) (fun b ob hb e => eb b ob hb e) f0 f1 f3 f4 f5⟩
  self := fun A i s Q E st h => by
    refine wpAny_pyIter_slot st.typeIs F.slot_dict_keyiterator_iter (wpAny_call_entry F.slot_dict_keyiterator_iter st.typeIs F.entry_dict_keyiterator_iter ?_ (F.args_dict_keyiterator_iter_1 _))
    show wpAny _ _ (ret (.ref it)) _ _ s
    exact wpAny_pure ⟨_, rfl, "dict_keyiterator", _, st.typeIs, F.slot_dict_keyiterator_next.lookup, h⟩
theorem call_list_frz (hc : X.calm = true) : CallR X (.type "list") (fun vs H Q => ∃ d o xs, vs = [V.ref d] ∧ H d = some (.frz o (dictO d xs)) ∧ xs.length ≤ sizeLine ∧ ∀ p, H p = none → Q (.ref p) (upd H p (.lst (xs.map fun x => V.ref x.2.1)))) := by
  intro pins s σ H vs us Q I r h
  obtain ⟨d, o, ks, rfl, hd, hl, q⟩ := h
  obtain ⟨u, rfl, rx⟩ := r.one
  cases rx
  obtain ⟨hs, ho, hx, es, ep, hdt, he⟩ := frzR I hd
  have l1 : es.size = ks.length := size_of_entries he
  refine PySem.W.kdl_call (kdl_raw hs hx hdt) (I.ok.hd hc) ho (by omega) fun h' tk acc' c' kp e it => ?_
  have ea : acc'.toList = ks.map fun x => Value.ref x.2.1 := by
    have hl : acc'.toList.length = ks.length := by rw [Array.length_toList, it.1]; exact l1
    apply List.ext_getElem?
    intro j
    rw [List.getElem?_map]
    cases hj : acc'.toList[j]? with
    | none =>
      have h1 := List.getElem?_eq_none_iff.mp hj
      rw [List.getElem?_eq_none (by omega)]
      all_goals rfl
    | some v =>
      obtain ⟨en, hen, hv⟩ := it.2 j v (by rw [← Array.getElem?_toList]; exact hj)
      have qe := entry_at he j
      rw [hen] at qe
      cases hb : ks[j]? with
      | none =>
        rw [hb] at qe
        exact nomatch (show some en = none from qe)
      | some b =>
        rw [hb] at qe
        have e2 : en = entryOfKey (tupleKind (mixKind X.prog X.w)) b := Option.some.inj qe
        rw [hv, e2]
        all_goals rfl
  have eb : acc'.toList = (ks.map fun x => x.2.1).map Value.ref := by rw [ea, List.map_map]; all_goals rfl
  have rv : Vals ((ks.map fun x => x.2.1).map V.ref) acc'.toList := by rw [eb]; exact vals_refs _
  have em : (ks.map fun x => V.ref x.2.1) = (ks.map fun x => x.2.1).map V.ref := by rw [List.map_map]; all_goals rfl
  have hz : ((ks.map fun x => x.2.1).map V.ref).length ≤ sizeLine := by rw [List.length_map, List.length_map]; omega
  refine ⟨.ref s.heap.objs.size, _, I.laid (t' := tk) (o := .lst ((ks.map fun x => x.2.1).map V.ref)) kp (Nat.le_refl _) ?_, rfl, by rw [← em]; exact q _ (I.hok.fresh (Nat.le_refl _))⟩
  exact ⟨hz, acc'.toList, c', rv, by rw [Array.toArray_toList]; exact e⟩
end
theorem key_rep {K : PySem.W.Frag} {H : Hp} : ∀ {k : List L2.Key}, (∀ x ∈ k, ∃ i : Int, x = .inl i) → RepL K H (k.map fun x => match x with | .inl i => D.int i | .inr s => .str s) (k.map kV)
  | [], _ => rfl
  | x :: k, h => by
    obtain ⟨i, rfl⟩ := h x List.mem_cons_self
    exact ⟨.int i, _, rfl, rfl, key_rep fun y hy => h y (List.mem_cons_of_mem _ hy)⟩
theorem keyD_rep {K : PySem.W.Frag} {H : Hp} {x : List L2.Key × Addr × Value} (h : TupP K H x.2.1 (x.1.map kV) ∧ ∀ k ∈ x.1, ∃ i : Int, k = .inl i) : Rep K H (keyD x.1) (.ref x.2.1) := ⟨_, _, rfl, h.1, key_rep h.2⟩
theorem keysD_rep {K : PySem.W.Frag} {H : Hp} : ∀ {xs : DX}, KeysOk K H xs → RepL K H (xs.map fun x => keyD x.1) (xs.map fun x => V.ref x.2.1)
  | [], _ => rfl
  | x :: xs, h => ⟨.ref x.2.1, _, rfl, keyD_rep (h x List.mem_cons_self), keysD_rep fun y hy => h y (List.mem_cons_of_mem _ hy)⟩
def rSetD (K : PySem.W.Frag) : V → V → V → Hp → (Hp → Prop) → Prop := fun o i v H Q => ∃ (a b : Addr) (xs : DX) (ns : List Int), o = .ref a ∧ i = .ref b ∧ H a = some (dictO a xs) ∧ KeysOk K H xs ∧ TupP K H b ((tK ns).map kV) ∧ xs.length ≤ sizeLine ∧ ((∃ h, DictRaw a xs h) → ∀ r, Q (upd H a (dictO a (storedH xs (tK ns) b r))))
theorem set_dict {X : Cx} (hu : X.A.units + 1 < cLine) : PSet X (rSetD X.K) := by
  intro pins s σ H o i v ov iv u Q I ro ri rv h
  obtain ⟨a, b, xs, ns, rfl, rfl, h1, h2, h3, h4, q⟩ := h
  cases ro
  cases ri
  have hx : ∃ h, DictRaw a xs h := ⟨s.heap, (show ObjOk X.prog X.w H s.heap a (dictO a xs) from I.hok a _ h1).1⟩
  exact dict_set (r := u) (v := v) hu h4 I h1 h2 h3 (fun k hk => by
    obtain ⟨i, _, rfl⟩ := List.mem_map.mp hk
    exact ⟨i, rfl⟩) fun s' I' => ⟨_, I', q hx u⟩
theorem set_both {X : Cx} (hu : X.A.units + 1 < cLine) : PSet X (fun o i v H Q => rSetL o i v H Q ∨ rSetD X.K o i v H Q) := by
  intro pins s σ H o i v ov iv u Q I ro ri rv h
  rcases h with h | h
  · exact set_list pins s σ H o i v ov iv u Q I ro ri rv h
  · exact set_dict hu pins s σ H o i v ov iv u Q I ro ri rv h
end PP
namespace PP
open PySem PySem.Spec PyProof.Rows L2
abbrev DTE := XD → Env → G → QD → Prop
abbrev DTA := XD → Env → G → (List D → G → Prop) → Prop
abbrev DTT := XD → Env → G → (Bool → G → Prop) → Prop
section
variable (K : PySem.W.Frag) (C : Ex → Addr)
def clos (H : Hp) (Qd : QD) (Q : VK) : Prop := ∀ d g v H', Qd d g → TK H H' → RepG K H' g → Rep K H' d v → Q v H'
def closA (H : Hp) (Qd : List D → G → Prop) (Q : List V → Hp → Prop) : Prop := ∀ d g v H', Qd d g → TK H H' → RepG K H' g → RepL K H' d v → Q v H'
def closT (H : Hp) (Qd : Bool → G → Prop) (Q : Bool → Hp → Prop) : Prop := ∀ b g H', Qd b g → TK H H' → RepG K H' g → Q b H'
def closX (H : Hp) (Xd : XD) (E : XK) : Prop := ∀ n g H', Xd n g → TK H H' → RepG K H' g → E (.ref (C n)) none H'
def up (W : WX) (t : DTE) : TE := fun σ H Q => ∃ (env : Env) (g : G) (Xd : XD) (Qd : QD), RepE K H env σ ∧ RepG K H g ∧ t Xd env g Qd ∧ clos K H Qd Q ∧ closX K C H Xd (fun c d H' => W c d σ H')
def upA (W : WX) (t : DTA) : TA := fun σ H Q => ∃ (env : Env) (g : G) (Xd : XD) (Qd : List D → G → Prop), RepE K H env σ ∧ RepG K H g ∧ t Xd env g Qd ∧ closA K H Qd Q ∧ closX K C H Xd (fun c d H' => W c d σ H')
def upT (W : WX) (t : DTT) : TT := fun σ H Q => ∃ (env : Env) (g : G) (Xd : XD) (Qd : Bool → G → Prop), RepE K H env σ ∧ RepG K H g ∧ t Xd env g Qd ∧ closT K H Qd Q ∧ closX K C H Xd (fun c d H' => W c d σ H')
end
section
variable {K : PySem.W.Frag} {C : Ex → Addr} {H H1 : Hp}
theorem clos.at {Qd : QD} {Q : VK} (k : TK H H1) (c : clos K H Qd Q) : clos K H1 Qd Q := fun d g v H' q t r1 r2 => c d g v H' q (k.trans t) r1 r2
theorem closA.at {Qd : List D → G → Prop} {Q} (k : TK H H1) (c : closA K H Qd Q) : closA K H1 Qd Q := fun d g v H' q t r1 r2 => c d g v H' q (k.trans t) r1 r2
theorem closT.at {Qd : Bool → G → Prop} {Q} (k : TK H H1) (c : closT K H Qd Q) : closT K H1 Qd Q := fun d g H' q t r1 => c d g H' q (k.trans t) r1
theorem closX.at {Xd : XD} {E : XK} (k : TK H H1) (c : closX K C H Xd E) : closX K C H1 Xd E := fun n g H' q t r => c n g H' q (k.trans t) r
end
section
variable {X : Cx}
theorem pe_imp {e : Expr} {t t' : TE} (h : PE X e t) (f : ∀ σ H Q, t' σ H Q → t σ H Q) : PE X e t' := ⟨fun pins s σ H Q I q => h.run pins s σ H Q I (f σ H Q q)⟩
theorem pa_imp {e : List Expr} {t t' : TA} (h : PA X e t) (f : ∀ σ H Q, t' σ H Q → t σ H Q) : PA X e t' := ⟨fun pos pins s σ H Q I q => h.run pos pins s σ H Q I (f σ H Q q)⟩
theorem pt_imp {e : Expr} {t t' : TT} (h : PT X e t) (f : ∀ σ H Q, t' σ H Q → t σ H Q) : PT X e t' := ⟨fun pins s σ H Q I q => h.run pins s σ H Q I (f σ H Q q)⟩
theorem pw_imp {e : Expr} {t t' : TT} (h : PW X e t) (f : ∀ σ H Q, t' σ H Q → t σ H Q) : PW X e t' := ⟨fun wh pins s σ H Q I q => h.run wh pins s σ H Q I (f σ H Q q)⟩
theorem ps_imp {e : Stmt} {t t' : TS} (h : PS X e t) (f : ∀ D σ H, t' D σ H → t D σ H) : PS X e t' := ⟨fun pins s σ H D I q => h.run pins s σ H D I (f D σ H q)⟩
theorem pss_imp {e : List Stmt} {t t' : TS} (h : PSs X e t) (f : ∀ D σ H, t' D σ H → t D σ H) : PSs X e t' := ⟨fun pins s σ H D I q => h.run pins s σ H D I (f D σ H q)⟩
end
def dVar (i : Nat) : DTE := fun _ env g Q => match env[i]? with | some (some d) => Q d g | _ => False
def dC (d : D) : DTE := fun _ _ g Q => Q d g
def dBin (r : D → D → G → QD → Prop) (ta tb : DTE) : DTE := fun X env g Q => ta X env g fun x g1 => tb X env g1 fun y g2 => r x y g2 Q
def dUn (r : D → G → QD → Prop) (ta : DTE) : DTE := fun X env g Q => ta X env g fun x g1 => r x g1 Q
def dNil : DTA := fun _ _ g Q => Q [] g
def dCons (ta : DTE) (tb : DTA) : DTA := fun X env g Q => ta X env g fun x g1 => tb X env g1 fun xs g2 => Q (x :: xs) g2
def dTup (t : DTA) : DTE := fun X env g Q => t X env g fun xs g1 => xs.length ≤ sizeLine ∧ Q (.tup xs) g1
def dLst (t : DTA) : DTE := fun X env g Q => t X env g fun xs g1 => xs.length ≤ sizeLine ∧ ∀ p, g1 p = none → Q (.ref p) (g1.up p xs)
def rUp (K : PySem.W.Frag) (r : D → D → G → QD → Prop) : R2 := fun x y H Q => ∃ d1 d2 g Qd, Rep K H d1 x ∧ Rep K H d2 y ∧ RepG K H g ∧ r d1 d2 g Qd ∧ clos K H Qd Q
section
variable {X : Cx} {C : Ex → Addr} {W : WX} {a b e : Expr} {es : List Expr} {pos : Pos} {ta tb : DTE} {tA : DTA}
theorem d_var {i : Nat} {x : Str} (hN : X.N[i]? = some x) (hv : Vis X.env.scope x) (hd : (x == ("__debug__" : Str)) = false) (hcd : (x == ("__classdict__" : Str)) = false) : PE X (.Name x pos) (up X.K C W (dVar i)) := by
  refine pe_imp (pe_var hN hv hd hcd) fun σ H Q ⟨env, g, Xd, Qd, re, rg, t, cl, cx⟩ => ?_
  unfold dVar at t
  split at t
  · rename_i d e
    obtain ⟨v, e1, r⟩ := re.2.1 i d e
    exact ⟨v, e1, cl _ _ _ _ t (.refl _) rg r⟩
  · exact t.elim
theorem d_const {d : D} {v : V} (h : PE X e (tC v)) (r : ∀ H, Rep X.K H d v) : PE X e (up X.K C W (dC d)) :=
  pe_imp h fun σ H Q ⟨env, g, Xd, Qd, re, rg, t, cl, cx⟩ => cl _ _ _ _ t (.refl _) rg (r H)
theorem d_op {f : Value → Value → Sem Value} {r : D → D → G → QD → Prop} {op : Operator} (ho : OpR X (binaryOp op) (rUp X.K r)) (ha : PE X a (up X.K C W ta)) (hb : PE X b (up X.K C W tb)) : PE X (.BinOp a op b pos) (up X.K C W (dBin r ta tb)) := by
  refine pe_imp (pe_op ho ha hb) fun σ H Q ⟨env, g, Xd, Qd, re, rg, t, cl, cx⟩ => ?_
  refine ⟨env, g, Xd, _, re, rg, t, fun d1 g1 v H1 q k1 r1 rv => ?_, cx⟩
  refine ⟨env, g1, Xd, _, re.keep k1, r1, q, fun d2 g2 u H2 q2 k2 r2 ru => ?_, cx.at k1⟩
  exact ⟨d1, d2, g2, Qd, rv.keep k2, ru, r2, q2, cl.at (k1.trans k2)⟩
theorem d_cmp {r : D → D → G → QD → Prop} {op : CmpOp} (ho : OpR X (compareOp op) (rUp X.K r)) (ha : PE X a (up X.K C W ta)) (hb : PE X b (up X.K C W tb)) (hm : behindInMarks op b = false) : PE X (.Compare a [op] [b] pos) (up X.K C W (dBin r ta tb)) := by
  refine pe_imp (pe_cmpR ho ha hb hm) fun σ H Q ⟨env, g, Xd, Qd, re, rg, t, cl, cx⟩ => ?_
  refine ⟨env, g, Xd, _, re, rg, t, fun d1 g1 v H1 q k1 r1 rv => ?_, cx⟩
  refine ⟨env, g1, Xd, _, re.keep k1, r1, q, fun d2 g2 u H2 q2 k2 r2 ru => ?_, cx.at k1⟩
  exact ⟨d1, d2, g2, Qd, rv.keep k2, ru, r2, q2, cl.at (k1.trans k2)⟩
theorem d_nil : PA X [] (upA X.K C W dNil) := pa_imp pa_nil fun σ H Q ⟨env, g, Xd, Qd, re, rg, t, cl, cx⟩ => cl _ _ _ _ t (.refl _) rg rfl
theorem d_cons (ha : PE X e (up X.K C W ta)) (hb : PA X es (upA X.K C W tA)) (hs : starEach (e :: es) X.env = (false, eval e X.env) :: starEach es X.env) : PA X (e :: es) (upA X.K C W (dCons ta tA)) := by
  refine pa_imp (pa_cons ha hb hs) fun σ H Q ⟨env, g, Xd, Qd, re, rg, t, cl, cx⟩ => ?_
  refine ⟨env, g, Xd, _, re, rg, t, fun d1 g1 v H1 q k1 r1 rv => ?_, cx⟩
  refine ⟨env, g1, Xd, _, re.keep k1, r1, q, fun d2 g2 u H2 q2 k2 r2 ru => ?_, cx.at k1⟩
  exact cl _ _ _ _ q2 (k1.trans k2) r2 ⟨v, u, rfl, rv.keep k2, ru⟩
theorem d_tup {x1} (h : PA X es (upA X.K C W tA)) : PE X (.Tuple es x1 pos) (up X.K C W (dTup tA)) := by
  refine pe_imp (pe_tup h) fun σ H Q ⟨env, g, Xd, Qd, re, rg, t, cl, cx⟩ => ?_
  refine ⟨env, g, Xd, _, re, rg, t, fun ds g1 vs H1 ⟨z, q⟩ k1 r1 rv => ?_, cx⟩
  refine ⟨by rw [rv.length]; exact z, fun p hp => ?_⟩
  exact cl _ _ _ _ q (k1.trans (.new hp)) (r1.tup hp) ⟨p, vs, rfl, .inl upd_same, rv.keep (.new hp)⟩
theorem d_lst (h : PA X es (upA X.K C W tA)) : PE X (.List es pos) (up X.K C W (dLst tA)) := by
  refine pe_imp (pe_lst h) fun σ H Q ⟨env, g, Xd, Qd, re, rg, t, cl, cx⟩ => ?_
  refine ⟨env, g, Xd, _, re, rg, t, fun ds g1 vs H1 ⟨z, q⟩ k1 r1 rv => ?_, cx⟩
  refine ⟨by rw [rv.length]; exact z, fun p hp => ?_⟩
  exact cl _ _ _ _ (q _ (r1.none hp)) (k1.trans (.new hp)) (r1.new hp rv) rep_ref
end
def MulOk (i j : Int) : Prop := i.natAbs.log2 + j.natAbs.log2 < 100000000
theorem MulOk.ok {i j : Int} (h : MulOk i j) : IntMulOk i j := by
  have b : ∀ x : Int, Builtin.Int.intBits x ≤ x.natAbs.log2 + 1 := fun x => by
    unfold Builtin.Int.intBits
    split <;> omega
  have h1 := b i
  have h2 := b j
  unfold MulOk at h
  have e : bitsLine = 134217728 := by decide
  unfold IntMulOk
  intro z
  rw [Bool.and_eq_true] at z
  have z2 := z.2
  unfold Builtin.Int.intTooBig at z2
  have z3 := of_decide_eq_true z2
  rw [e] at z3
  omega
def dAdd : D → D → G → QD → Prop
  | .int i, .int j => fun g Q => Q (.int (i + j)) g
  | .str s, .str t => fun g Q => s.length + t.length ≤ sizeLine ∧ Q (.str (s ++ t)) g
  | .tup xs, .tup ys => fun g Q => xs.length + ys.length ≤ sizeLine ∧ Q (.tup (xs ++ ys)) g
  | .ref a, .ref b => fun g Q => match g a, g b with
    | some xs, some ys => xs.length + ys.length ≤ sizeLine ∧ ∀ p, g p = none → Q (.ref p) (g.up p (xs ++ ys))
    | _, _ => False
  | _, _ => fun _ _ => False
def dSub : D → D → G → QD → Prop
  | .int i, .int j => fun g Q => Q (.int (i - j)) g
  | _, _ => fun _ _ => False
def repD (k : Int) (xs : List D) : List D := (List.replicate k.toNat xs).flatten
def dMul : D → D → G → QD → Prop
  | .int i, .int j => fun g Q => MulOk i j ∧ Q (.int (i * j)) g
  | .ref a, .int k => fun g Q => match g a with
    | some xs => -(2 ^ 63) ≤ k ∧ k < 2 ^ 63 ∧ xs.length * k.toNat ≤ sizeLine ∧ ∀ p, g p = none → Q (.ref p) (g.up p (repD k xs))
    | none => False
  | .tup xs, .int k => fun g Q => xs ≠ [] ∧ 0 ≤ k ∧ k ≤ 1000 ∧ xs.length ≤ 1000 ∧ Q (.tup (repD k xs)) g
  | _, _ => fun _ _ => False
theorem tuple_mul1 (l : Addr) (items : Array Value) (n : Nat) (dd : Option Addr) (sl : Array (Option Value)) (u : Tok) :
    Meets (Builtin.«tuple.__mul__» ⟨[.ref l, .int 1 u], []⟩) (fun _ R s => s.heap.get? l = some { cls := .type "tuple", dict := dd, data := .seq items n, slots := sl } ∧ R (.ok (.ret (Value.ref l))) s) :=
  .of_wp fun prog w A R s h => by
    obtain ⟨hp, g, d, tk, os⟩ := s
    obtain ⟨hl, h⟩ := h
    have f1 := AutoSeq1.idx_int
    have c0 : (decide ((1 : Int) < -(2 ^ 63)) || decide ((1 : Int) ≥ 2 ^ 63)) = false := by decide
    have c1 : (items.isEmpty || (1 : Int) == 1) = true := by simp
    wp_walk using wpAny_loadPart' hl
    exact ⟨_, rfl, h⟩
theorem op_rep1 {X : Cx} : OpR X (binaryOp .Mult) (fun x y H Q => ∃ l xs, x = .ref l ∧ y = .int 1 ∧ SqT X.K H l xs ∧ Q (.ref l) H) := by
  intro pins s σ H x y v u Q I rx ry h
  obtain ⟨l, xs, rfl, rfl, hT, q⟩ := h
  cases rx
  obtain ⟨t, rfl⟩ := ry
  obtain ⟨its, r, ⟨⟨cls, dd, data, sl⟩, ho, hc, n, hd⟩, hs⟩ := I.tuple hT
  simp only at hc hd
  subst hc hd
  refine wpAny_binaryOp_repeat_ref (T := "tuple") (U := "int") (by decide) ⟨_, ho, rfl⟩ (fun s' => typeIs_int s' 1 t) noFill_tuple_mul F.fills_int_mul F.slot_int_rmul repeat_tuple F.slot_int_index.lookup
    (call_meets F.slot_int_rmul (typeIs_int s 1 t) F.entry_int_rmul (F.args_int_rmul_2 _ _) (int_rmul_tuple 1 t l its.toArray n dd sl)
      ⟨ho, rfl, ⟨_, ho, rfl⟩, call_meets F.slot_tuple_mul ⟨_, ho, rfl⟩ F.entry_tuple_mul (F.args_tuple_mul_2 _ _) (tuple_mul1 l its.toArray n dd sl t) ⟨ho, ?_⟩⟩)
  exact ⟨.ref l, H, I, rfl, q⟩
theorem tuple_mul0 (l : Addr) (items : Array Value) (n : Nat) (dd : Option Addr) (sl : Array (Option Value)) (u : Tok) (c1 : (items.isEmpty || (0 : Int) == 1) = false) :
    Meets (Builtin.«tuple.__mul__» ⟨[.ref l, .int 0 u], []⟩) (fun _ R s => s.heap.get? l = some { cls := .type "tuple", dict := dd, data := .seq items n, slots := sl } ∧
      R (.ok (.ret (Value.ref s.heap.objs.size))) { s with heap := s.heap.push { cls := Value.type "tuple", data := Data.seq #[] }, toks := s.toks }) :=
  .of_wp fun prog w A R s h => by
    obtain ⟨hp, g, d, tk, os⟩ := s
    obtain ⟨hl, h⟩ := h
    have f1 := AutoSeq1.idx_int
    have c0 : (decide ((0 : Int) < -(2 ^ 63)) || decide ((0 : Int) ≥ 2 ^ 63)) = false := by decide
    have c2 : (decide ((0 : Int) ≤ 0) || items.isEmpty) = true := by simp
    wp_walk using wpAny_loadPart' hl
    repeat (first
      | (refine wpAny_ite_false (decide_eq_false (by rw [c1]; exact Bool.false_ne_true)) ?_; wp_walk using wpAny_loadPart' hl)
      | (refine wpAny_ite_true (decide_eq_true (by rw [c2])) ?_; wp_walk using wpAny_loadPart' hl))
    exact ⟨_, rfl, h⟩
theorem op_rep0 {X : Cx} : OpR X (binaryOp .Mult) (fun x y H Q => ∃ l xs, x = .ref l ∧ y = .int 0 ∧ SqT X.K H l xs ∧ xs ≠ [] ∧ ∀ p, H p = none → Q (.ref p) (upd H p (.tup []))) := by
  intro pins s σ H x y v u Q I rx ry h
  obtain ⟨l, xs, rfl, rfl, hT, hne, q⟩ := h
  cases rx
  obtain ⟨t, rfl⟩ := ry
  obtain ⟨its, r, ⟨⟨cls, dd, data, sl⟩, ho, hc, n, hd⟩, hs⟩ := I.tuple hT
  simp only at hc hd
  subst hc hd
  have hle : its.length = xs.length := r.length.symm
  have c1 : (its.toArray.isEmpty || (0 : Int) == 1) = false := by
    cases its with
    | nil => exact absurd (List.eq_nil_of_length_eq_zero hle.symm) hne
    | cons a b => rfl
  refine wpAny_binaryOp_repeat_ref (T := "tuple") (U := "int") (by decide) ⟨_, ho, rfl⟩ (fun s' => typeIs_int s' 0 t) noFill_tuple_mul F.fills_int_mul F.slot_int_rmul repeat_tuple F.slot_int_index.lookup
    (call_meets F.slot_int_rmul (typeIs_int s 0 t) F.entry_int_rmul (F.args_int_rmul_2 _ _) (int_rmul_tuple 0 t l its.toArray n dd sl)
      ⟨ho, rfl, ⟨_, ho, rfl⟩, call_meets F.slot_tuple_mul ⟨_, ho, rfl⟩ F.entry_tuple_mul (F.args_tuple_mul_2 _ _) (tuple_mul0 l its.toArray n dd sl t c1) ⟨ho, ?_⟩⟩)
  refine ⟨.ref s.heap.objs.size, _, I.laid (t' := s.toks) (o := .tup []) (fun b ob q => Heap.get?_push_of_some _ q) (Nat.le_refl _) ?_, rfl, q _ (I.hok.fresh (Nat.le_refl _))⟩
  exact ⟨Nat.zero_le _, [], .nil, IsTup.new _ _⟩
def dPow : D → D → G → QD → Prop
  | .int i, .int j => fun g Q => (0 ≤ j ∧ j ≤ 1000000 ∧ i.natAbs < 2 ^ 64) ∧ Q (.int (i ^ j.toNat)) g
  | _, _ => fun _ _ => False
def dMod : D → D → G → QD → Prop
  | .int i, .int j => fun g Q => j ≠ 0 ∧ Q (.int (i.fmod j)) g
  | _, _ => fun _ _ => False
def dLt : D → D → G → QD → Prop
  | .int i, .int j => fun g Q => Q (.bl (decide (i < j))) g
  | _, _ => fun _ _ => False
def dLe : D → D → G → QD → Prop
  | .int i, .int j => fun g Q => Q (.bl (decide (i ≤ j))) g
  | _, _ => fun _ _ => False
def dGt : D → D → G → QD → Prop
  | .int i, .int j => fun g Q => Q (.bl (decide (j < i))) g
  | _, _ => fun _ _ => False
def dGe : D → D → G → QD → Prop
  | .int i, .int j => fun g Q => Q (.bl (decide (j ≤ i))) g
  | _, _ => fun _ _ => False
section
variable {X : Cx}
theorem o_int {f : Value → Value → Sem Value} {P : Int → Int → Prop} {k : Int → Int → D} {kv : Int → Int → V} (h : OpR X f (rI P kv)) (hk : ∀ i j H, Rep X.K H (k i j) (kv i j)) : OpR X f (rUp X.K (fun x y => match x, y with | .int i, .int j => fun g Q => P i j ∧ Q (k i j) g | _, _ => fun _ _ => False)) := by
  intro pins s σ H x y v u Q I rx ry ⟨d1, d2, g, Qd, r1, r2, rg, r, cl⟩
  dsimp only at r
  split at r
  · rename_i i j
    have e1 : x = V.int i := r1
    have e2 : y = V.int j := r2
    exact h pins s σ H x y v u Q I rx ry ⟨i, j, e1, e2, r.1, cl _ _ _ _ r.2 (.refl _) rg (hk i j H)⟩
  · exact r.elim
theorem o_int0 {f : Value → Value → Sem Value} {k : Int → Int → D} {kv : Int → Int → V} (h : OpR X f (rI0 kv)) (hk : ∀ i j H, Rep X.K H (k i j) (kv i j)) : OpR X f (rUp X.K (fun x y => match x, y with | .int i, .int j => fun g Q => Q (k i j) g | _, _ => fun _ _ => False)) := by
  intro pins s σ H x y v u Q I rx ry ⟨d1, d2, g, Qd, r1, r2, rg, r, cl⟩
  dsimp only at r
  split at r
  · rename_i i j
    have e1 : x = V.int i := r1
    have e2 : y = V.int j := r2
    exact h pins s σ H x y v u Q I rx ry ⟨i, j, e1, e2, cl _ _ _ _ r (.refl _) rg (hk i j H)⟩
  · exact r.elim
theorem opr_imp {f : Value → Value → Sem Value} {r r' : R2} (h : OpR X f r) (k : ∀ x y H Q, r' x y H Q → r x y H Q) : OpR X f r' := fun pins s σ H x y v u Q I rx ry q => h pins s σ H x y v u Q I rx ry (k _ _ _ _ q)
theorem o_sub : OpR X (binaryOp .Sub) (rUp X.K dSub) := opr_imp (o_int0 (k := fun i j => .int (i - j)) op_sub fun _ _ _ => rfl) fun x y H Q ⟨d1, d2, g, Qd, r1, r2, rg, r, cl⟩ => ⟨d1, d2, g, Qd, r1, r2, rg, by unfold dSub at r; split at r <;> first | exact r | exact False.elim r, cl⟩
theorem o_lt : OpR X (compareOp .Lt) (rUp X.K dLt) := opr_imp (o_int0 (k := fun i j => .bl (decide (i < j))) op_lt fun _ _ _ => rfl) fun x y H Q ⟨d1, d2, g, Qd, r1, r2, rg, r, cl⟩ => ⟨d1, d2, g, Qd, r1, r2, rg, by unfold dLt at r; split at r <;> first | exact r | exact False.elim r, cl⟩
theorem o_le : OpR X (compareOp .LtE) (rUp X.K dLe) := opr_imp (o_int0 (k := fun i j => .bl (decide (i ≤ j))) op_le fun _ _ _ => rfl) fun x y H Q ⟨d1, d2, g, Qd, r1, r2, rg, r, cl⟩ => ⟨d1, d2, g, Qd, r1, r2, rg, by unfold dLe at r; split at r <;> first | exact r | exact False.elim r, cl⟩
theorem o_gt : OpR X (compareOp .Gt) (rUp X.K dGt) := opr_imp (o_int0 (k := fun i j => .bl (decide (j < i))) op_gt fun _ _ _ => rfl) fun x y H Q ⟨d1, d2, g, Qd, r1, r2, rg, r, cl⟩ => ⟨d1, d2, g, Qd, r1, r2, rg, by unfold dGt at r; split at r <;> first | exact r | exact False.elim r, cl⟩
theorem o_ge : OpR X (compareOp .GtE) (rUp X.K dGe) := opr_imp (o_int0 (k := fun i j => .bl (decide (j ≤ i))) op_ge fun _ _ _ => rfl) fun x y H Q ⟨d1, d2, g, Qd, r1, r2, rg, r, cl⟩ => ⟨d1, d2, g, Qd, r1, r2, rg, by unfold dGe at r; split at r <;> first | exact r | exact False.elim r, cl⟩
theorem o_mod : OpR X (binaryOp .Mod) (rUp X.K dMod) := opr_imp (o_int (P := fun _ j => j ≠ 0) (k := fun i j => .int (i.fmod j)) op_modN fun _ _ _ => rfl) fun x y H Q ⟨d1, d2, g, Qd, r1, r2, rg, r, cl⟩ => ⟨d1, d2, g, Qd, r1, r2, rg, by unfold dMod at r; split at r <;> first | exact r | exact False.elim r, cl⟩
theorem o_pow : OpR X (binaryOp .Pow) (rUp X.K dPow) := opr_imp (o_int (P := CPow) (k := fun i j => .int (i ^ j.toNat)) op_pow fun _ _ _ => rfl) fun x y H Q ⟨d1, d2, g, Qd, r1, r2, rg, r, cl⟩ => ⟨d1, d2, g, Qd, r1, r2, rg, by unfold dPow at r; split at r <;> first | exact r | exact False.elim r, cl⟩
theorem op_mulB : OpR X (binaryOp .Mult) (rI MulOk fun i j => .int (i * j)) := opI fun _ _ _ _ _ _ _ hc q => mul_int q hc.ok
theorem o_mul : OpR X (binaryOp .Mult) (rUp X.K dMul) := by
  intro pins s σ H x y v u Q I rx ry ⟨d1, d2, g, Qd, r1, r2, rg, r, cl⟩
  unfold dMul at r
  split at r
  · rename_i i j
    have e1 : x = V.int i := r1
    have e2 : y = V.int j := r2
    exact op_mulB pins s σ H x y v u Q I rx ry ⟨i, j, e1, e2, r.1, cl _ _ _ _ r.2 (.refl _) rg rfl⟩
  · rename_i a k
    obtain ⟨ha, e1⟩ := r1
    have e2 : y = V.int k := r2
    split at r
    · rename_i xs e
      obtain ⟨vs, hq, rl⟩ := rg.lst ha e
      obtain ⟨k1, k2, k3, q⟩ := r
      refine op_rep pins s σ H x y v u Q I rx ry ⟨_, k, vs, e1, e2, hq, k1, k2, by rw [rl.length]; exact k3, fun p hp => ?_⟩
      refine cl _ _ _ _ (q _ (rg.none hp)) (.new hp) (rg.new hp ?_) rep_ref
      unfold repD
      induction k.toNat with
      | zero => simp [RepL]
      | succ n ih => simp only [List.replicate_succ, List.flatten_cons]; exact rl.app ih
    · exact r.elim
  · rename_i xs k
    have e2 : y = V.int k := r2
    obtain ⟨p, vs, e1, t, rl⟩ := r1
    obtain ⟨hne, k1, k2, k3, q⟩ := r
    by_cases hk : k = 1
    · subst hk
      refine op_rep1 pins s σ H x y v u Q I rx ry ⟨p, vs, e1, e2, t.sq, ?_⟩
      refine cl _ _ _ _ q (.refl _) rg ⟨p, vs, rfl, t, ?_⟩
      have e : repD 1 xs = xs := by simp [repD]
      rw [e]
      exact rl
    · have hvs : vs ≠ [] := fun z => by
        subst z
        cases xs with
        | nil => exact hne rfl
        | cons a b => obtain ⟨_, _, e, _⟩ := rl; cases e
      by_cases hk0 : k = 0
      · subst hk0
        refine op_rep0 pins s σ H x y v u Q I rx ry ⟨p, vs, e1, e2, t.sq, hvs, fun p' hp => ?_⟩
        exact cl _ _ _ _ q (.new hp) (rg.tup hp) ⟨p', [], rfl, .inl upd_same, rfl⟩
      refine op_repT pins s σ H x y v u Q I rx ry ⟨p, k, vs, e1, e2, t.sq, hvs, by omega, k2, by rw [rl.length]; exact k3, fun p' hp => ?_⟩
      refine cl _ _ _ _ q (.new hp) (rg.tup hp) ⟨p', _, rfl, .inl upd_same, ?_⟩
      have rl2 := rl.keep (.new (o := .tup (List.replicate k.toNat vs).flatten) hp)
      generalize upd H p' _ = H2 at rl2 ⊢
      unfold repD
      generalize k.toNat = m
      induction m with
      | zero => simp [RepL]
      | succ n ih => simp only [List.replicate_succ, List.flatten_cons]; exact rl2.app ih
  · exact r.elim
theorem o_add : OpR X (binaryOp .Add) (rUp X.K dAdd) := by
  intro pins s σ H x y v u Q I rx ry ⟨d1, d2, g, Qd, r1, r2, rg, r, cl⟩
  unfold dAdd at r
  split at r
  · rename_i i j
    have e1 : x = V.int i := r1
    have e2 : y = V.int j := r2
    exact op_add pins s σ H x y v u Q I rx ry ⟨i, j, e1, e2, cl _ _ _ _ r (.refl _) rg rfl⟩
  · rename_i i j
    have e1 : x = V.str i := r1
    have e2 : y = V.str j := r2
    exact op_add_str pins s σ H x y v u Q I rx ry ⟨i, j, e1, e2, r.1, cl _ _ _ _ r.2 (.refl _) rg rfl⟩
  · rename_i xs ys
    obtain ⟨p, vs, e1, t1, l1⟩ := r1
    obtain ⟨q, ws, e2, t2, l2⟩ := r2
    refine op_catA pins s σ H x y v u Q I rx ry ⟨p, q, vs, ws, e1, e2, t1.sq, t2.sq, by rw [l1.length, l2.length]; exact r.1, fun z => ?_, fun _ z => ?_, fun _ _ o ho => ?_⟩
    · subst z
      refine cl _ _ _ _ r.2 (.refl _) rg ?_
      exact ⟨q, ws, rfl, t2, l1.app l2⟩
    · subst z
      refine cl _ _ _ _ r.2 (.refl _) rg ⟨p, vs, rfl, t1, ?_⟩
      simpa using l1.app l2
    · exact cl _ _ _ _ r.2 (.new ho) (rg.tup ho) ⟨o, vs ++ ws, rfl, .inl upd_same, (l1.app l2).keep (.new ho)⟩
  · rename_i a b
    obtain ⟨ha, e1⟩ := r1
    obtain ⟨hb, e2⟩ := r2
    split at r
    · rename_i xs ys h1 h2
      obtain ⟨vs, q1, l1⟩ := rg.lst ha h1
      obtain ⟨ws, q2, l2⟩ := rg.lst hb h2
      refine op_cat pins s σ H x y v u Q I rx ry ⟨_, _, vs, ws, e1, e2, q1, q2, by rw [l1.length, l2.length]; exact r.1, fun p hp => ?_⟩
      exact cl _ _ _ _ (r.2 _ (rg.none hp)) (.new hp) (rg.new hp (l1.app l2)) rep_ref
    · exact r.elim
  · exact r.elim
end
end PP
namespace PP
open PySem PySem.Spec PyProof.Rows L2
structure Stk (X : Cx) : Prop where
  seer : X.base.NoSeer
  tree : X.prog.given.tree = none
  room : Room 40 X.A
  stk : ∃ env l, X.stack = env :: l ∧ env.scope.isGenerator = false ∧ env.scope.isCoroutine = false ∧ env.builtins = builtinsNs ∧ env.globals = mainGlobals
def dFdiv : D → D → G → QD → Prop
  | .int i, .int j => fun g Q => j ≠ 0 ∧ Q (.int (i.fdiv j)) g
  | _, _ => fun _ _ => False
theorem o_fdiv {X : Cx} (S : Stk X) : OpR X (binaryOp .FloorDiv) (rUp X.K dFdiv) := by
  intro pins s σ H x y v u Q I rx ry ⟨d1, d2, g, Qd, r1, r2, rg, r, cl⟩
  unfold dFdiv at r
  split at r
  · rename_i i j
    have e1 : x = V.int i := r1
    have e2 : y = V.int j := r2
    subst e1 e2
    obtain ⟨t, rfl⟩ := rx
    obtain ⟨t', rfl⟩ := ry
    obtain ⟨env, l, hs, h1, h2, h3, h4⟩ := S.stk
    refine floordiv_int r.1 ⟨.int (i.fdiv j), H, I.tok _, ⟨_, rfl⟩, cl _ _ _ _ r.2 (.refl _) rg rfl⟩ (.inr (PylongRoom.of I.nolimit ?_ ?_))
    · have := S.room.dp
      show X.A.depth + 100 < recursionLimit
      omega
    · exact SeerAt.of (S.seer.keeps I.bk) S.tree (by rw [I.ok.frames, hs]) h1 h2 h3 h4
  · exact r.elim
mutual
def pyW (f : Addr → Option PyData) : D → Option PyData
  | .non => some .none
  | .bl b => some (.bool b)
  | .int i => some (.int i)
  | .str s => some (.str s)
  | .ref a => f a
  | .scr _ => none
  | .exc _ => none
  | .emp => none
  | .dct _ => none
  | .dfz _ => none
  | .obj _ => none
  | .tup ds => match pyWL f ds with | some xs => some (.tuple xs) | none => none
def pyWL (f : Addr → Option PyData) : List D → Option (List PyData)
  | [] => some []
  | d :: ds => match pyW f d, pyWL f ds with | some x, some xs => some (x :: xs) | _, _ => none
end
def pyN : Nat → G → Addr → Option PyData
  | 0, _, _ => none
  | n + 1, g, a => match g a with
    | some ds => match pyWL (pyN n g) ds with | some xs => some (.list xs) | none => none
    | none => none
def py (g : G) (d : D) : Option PyData := pyW (pyN 4 g) d
section
variable {K : PySem.W.Frag} {H : Hp}
mutual
theorem pyW_dp {f : Addr → Option PyData} (hf : ∀ a p, a % 2 = 0 → f a = some p → Dp K H (.ref (a / 2)) p) : ∀ {d : D} {v : V} {p : PyData}, pyW f d = some p → Rep K H d v → Dp K H v p
  | .non, v, p, e, h => by cases (show v = .non from h); cases e; exact .non
  | .bl b, v, p, e, h => by cases (show v = .bl b from h); cases e; exact .bl b
  | .int b, v, p, e, h => by cases (show v = .int b from h); cases e; exact .int b
  | .str b, v, p, e, h => by cases (show v = .str b from h); cases e; exact .str b
  | .ref b, v, p, e, h => by
    obtain ⟨hb, h⟩ := h
    subst h
    exact hf _ _ hb e
  | .dct b, v, p, e, h => by cases e
  | .dfz b, v, p, e, h => by cases e
  | .obj b, v, p, e, h => by cases e
  | .scr b, v, p, e, h => by cases e
  | .exc b, v, p, e, h => by cases e
  | .emp, v, p, e, h => by cases e
  | .tup ds, v, p, e, ⟨a, vs, e1, t, r⟩ => by
    unfold pyW at e
    split at e
    · rename_i xs q
      cases e; subst e1
      exact .tup t.sq (pyWL_dp hf q r)
    · cases e
theorem pyWL_dp {f : Addr → Option PyData} (hf : ∀ a p, a % 2 = 0 → f a = some p → Dp K H (.ref (a / 2)) p) : ∀ {d : List D} {v : List V} {p : List PyData}, pyWL f d = some p → RepL K H d v → DpAll K H v p
  | [], v, p, e, h => by cases (show v = [] from h); cases e; exact .nil
  | d :: ds, v, p, e, ⟨w, r, e1, h, t⟩ => by
    unfold pyWL at e
    split at e
    · rename_i x xs q1 q2
      cases e; subst e1
      exact .cons (pyW_dp hf q1 h) (pyWL_dp hf q2 t)
    · cases e
end
theorem pyN_dp {g : G} (rg : RepG K H g) : ∀ (n : Nat) (a : Addr) (p : PyData), a % 2 = 0 → pyN n g a = some p → Dp K H (.ref (a / 2)) p
  | 0, a, p, _, e => by cases e
  | n + 1, a, p, ha, e => by
    unfold pyN at e
    split at e
    · rename_i ds q
      split at e
      · rename_i xs q2
        cases e
        obtain ⟨vs, h, r⟩ := rg.lst ha q
        exact .lst (.of h) (pyWL_dp (pyN_dp rg n) q2 r)
      · cases e
    · cases e
theorem py_dp {g : G} (rg : RepG K H g) {d : D} {v : V} {p : PyData} (e : py g d = some p) (r : Rep K H d v) : Dp K H v p := pyW_dp (pyN_dp rg 4) e r
end
def dEqB (n : Bool) : D → D → G → QD → Prop
  | .int i, .int j => fun g Q => Q (.bl (n != decide (i = j))) g
  | .str i, .str j => fun g Q => Q (.bl (n != decide (i = j))) g
  | .bl i, .bl j => fun g Q => Q (.bl (n != decide (i = j))) g
  | x, y => fun g Q => match py g x, py g y with
    | some p, some q => SeqAt.shaped p = true ∧ SeqAt.shaped q = true ∧ Q (.bl (n != PyData.eqv p q)) g
    | _, _ => False
section
variable {X : Cx}
theorem o_eq (hu : X.A.units + 64 < cLine) : OpR X (compareOp .Eq) (rUp X.K (dEqB false)) := by
  intro pins s σ H x y v u Q I rx ry ⟨d1, d2, g, Qd, r1, r2, rg, r, cl⟩
  unfold dEqB at r
  split at r
  · rename_i i j
    have e1 : x = V.int i := r1
    have e2 : y = V.int j := r2
    subst e1 e2
    refine op_eq pins s σ H _ _ v u Q I rx ry ⟨rfl, ?_⟩
    have e : decide (V.int i = V.int j) = (false != decide (i = j)) := by simp
    rw [e]
    exact cl _ _ _ _ r (.refl _) rg rfl
  · rename_i i j
    have e1 : x = V.str i := r1
    have e2 : y = V.str j := r2
    subst e1 e2
    refine op_eq pins s σ H _ _ v u Q I rx ry ⟨rfl, ?_⟩
    have e : decide (V.str i = V.str j) = (false != decide (i = j)) := by simp
    rw [e]
    exact cl _ _ _ _ r (.refl _) rg rfl
  · rename_i i j
    have e1 : x = V.bl i := r1
    have e2 : y = V.bl j := r2
    subst e1 e2
    refine op_eq pins s σ H _ _ v u Q I rx ry ⟨rfl, ?_⟩
    have e : decide (V.bl i = V.bl j) = (false != decide (i = j)) := by simp
    rw [e]
    exact cl _ _ _ _ r (.refl _) rg rfl
  · split at r
    · rename_i p q e1 e2
      refine op_eqD hu pins s σ H x y v u Q I rx ry ⟨p, q, py_dp rg e1 r1, py_dp rg e2 r2, r.1, r.2.1, ?_⟩
      have e : PyData.eqv p q = (false != PyData.eqv p q) := by simp
      rw [e]
      exact cl _ _ _ _ r.2.2 (.refl _) rg rfl
    · exact r.elim
theorem o_ne (hu : X.A.units + 64 < cLine) : OpR X (compareOp .NotEq) (rUp X.K (dEqB true)) := by
  intro pins s σ H x y v u Q I rx ry ⟨d1, d2, g, Qd, r1, r2, rg, r, cl⟩
  unfold dEqB at r
  split at r
  · rename_i i j
    have e1 : x = V.int i := r1
    have e2 : y = V.int j := r2
    subst e1 e2
    refine op_ne pins s σ H _ _ v u Q I rx ry ⟨rfl, ?_⟩
    have e : (!decide (V.int i = V.int j)) = (true != decide (i = j)) := by simp
    rw [e]
    exact cl _ _ _ _ r (.refl _) rg rfl
  · rename_i i j
    have e1 : x = V.str i := r1
    have e2 : y = V.str j := r2
    subst e1 e2
    refine op_ne pins s σ H _ _ v u Q I rx ry ⟨rfl, ?_⟩
    have e : (!decide (V.str i = V.str j)) = (true != decide (i = j)) := by simp
    rw [e]
    exact cl _ _ _ _ r (.refl _) rg rfl
  · rename_i i j
    have e1 : x = V.bl i := r1
    have e2 : y = V.bl j := r2
    subst e1 e2
    refine op_ne pins s σ H _ _ v u Q I rx ry ⟨rfl, ?_⟩
    have e : (!decide (V.bl i = V.bl j)) = (true != decide (i = j)) := by simp
    rw [e]
    exact cl _ _ _ _ r (.refl _) rg rfl
  · split at r
    · rename_i p q e1 e2
      refine op_neD hu pins s σ H x y v u Q I rx ry ⟨p, q, py_dp rg e1 r1, py_dp rg e2 r2, r.1, r.2.1, ?_⟩
      have e : (!PyData.eqv p q) = (true != PyData.eqv p q) := by simp
      rw [e]
      exact cl _ _ _ _ r.2.2 (.refl _) rg rfl
    · exact r.elim
end
def isNonD : D → Bool
  | .non => true
  | _ => false
def dIsN (n : Bool) : D → D → G → QD → Prop
  | x, .non => fun g Q => Q (.bl (n != isNonD x)) g
  | .bl a, .bl b => fun g Q => Q (.bl (n != decide (a = b))) g
  | _, _ => fun _ _ => False
theorem op_is_bl {X : Cx} : OpR X (compareOp .Is) (fun x y H Q => ∃ m n, x = .bl m ∧ y = .bl n ∧ Q (.bl (decide (m = n))) H) := by
  intro pins s σ H x y v u Q I rx ry h
  obtain ⟨m, n, rfl, rfl, q⟩ := h
  cases (show v = Value.bool m from rx)
  cases (show u = Value.bool n from ry)
  by_cases e : m = n
  · subst e
    exact wpAny_is_self rfl ⟨.bl true, H, I, rfl, by simpa using q⟩
  · exact wpAny_is_other rfl (fun z => e (Value.bool.inj z)) ⟨.bl false, H, I, rfl, by simpa [e] using q⟩
theorem op_isNot_bl {X : Cx} : OpR X (compareOp .IsNot) (fun x y H Q => ∃ m n, x = .bl m ∧ y = .bl n ∧ Q (.bl (!decide (m = n))) H) := by
  intro pins s σ H x y v u Q I rx ry h
  obtain ⟨m, n, rfl, rfl, q⟩ := h
  cases (show v = Value.bool m from rx)
  cases (show u = Value.bool n from ry)
  by_cases e : m = n
  · subst e
    exact wpAny_isNot_self rfl ⟨.bl false, H, I, rfl, by simpa using q⟩
  · exact wpAny_isNot_other rfl (fun z => e (Value.bool.inj z)) ⟨.bl true, H, I, rfl, by simpa [e] using q⟩
section
variable {X : Cx}
theorem isNonD_rep {K H x v} (r : Rep K H x v) : decide (v = V.non) = isNonD x := by
  cases x with
  | non => cases (show v = .non from r); rfl
  | bl b => cases (show v = .bl b from r); rfl
  | int b => cases (show v = .int b from r); rfl
  | str b => cases (show v = .str b from r); rfl
  | ref b => obtain ⟨_, rfl⟩ := r; rfl
  | dct b => obtain ⟨_, rfl⟩ := r; rfl
  | dfz b => obtain ⟨a, _, _, rfl, _⟩ := r; rfl
  | obj b => obtain ⟨_, rfl⟩ := r; rfl
  | scr b => obtain ⟨a, rfl, _⟩ := r; rfl
  | exc b => obtain ⟨a, rfl, _⟩ := r; rfl
  | emp => obtain ⟨a, _, _, rfl, _⟩ := r; rfl
  | tup b => obtain ⟨a, _, rfl, _⟩ := r; rfl
theorem o_isN : OpR X (compareOp .Is) (rUp X.K (dIsN false)) := by
  intro pins s σ H x y v u Q I rx ry ⟨d1, d2, g, Qd, r1, r2, rg, r, cl⟩
  unfold dIsN at r
  split at r
  · have e2 : y = V.non := r2
    subst e2
    refine op_isN pins s σ H _ _ v u Q I rx ry ⟨rfl, ?_⟩
    rw [isNonD_rep r1]
    have e : isNonD d1 = (false != isNonD d1) := by simp
    rw [e]
    exact cl _ _ _ _ r (.refl _) rg rfl
  · rename_i a b
    refine op_is_bl pins s σ H _ _ v u Q I rx ry ⟨a, b, r1, r2, cl _ _ _ _ r (.refl _) rg ?_⟩
    show _ = V.bl _
    simp
  · exact r.elim
theorem o_notN : OpR X (compareOp .IsNot) (rUp X.K (dIsN true)) := by
  intro pins s σ H x y v u Q I rx ry ⟨d1, d2, g, Qd, r1, r2, rg, r, cl⟩
  unfold dIsN at r
  split at r
  · have e2 : y = V.non := r2
    subst e2
    refine op_notN pins s σ H _ _ v u Q I rx ry ⟨rfl, ?_⟩
    rw [isNonD_rep r1]
    have e : (!isNonD d1) = (true != isNonD d1) := by simp
    rw [e]
    exact cl _ _ _ _ r (.refl _) rg rfl
  · rename_i a b
    refine op_isNot_bl pins s σ H _ _ v u Q I rx ry ⟨a, b, r1, r2, cl _ _ _ _ r (.refl _) rg ?_⟩
    show _ = V.bl _
    simp
  · exact r.elim
end
theorem fbn (b : Bool) : (false != b) = b := by cases b <;> rfl
theorem tbn (b : Bool) : (true != b) = !b := by cases b <;> rfl
def flatD : D → Bool
  | .non => true
  | .bl _ => true
  | .int _ => true
  | .str _ => true
  | _ => false
def feq : D → D → Bool
  | .non, .non => true
  | .bl a, .bl b => a == b
  | .bl a, .int b => (if a then 1 else 0) == b
  | .int a, .bl b => a == (if b then 1 else 0)
  | .int a, .int b => a == b
  | .str a, .str b => a == b
  | _, _ => false
def memPy (d : PyData) (ds : List PyData) : Bool := ds.any fun z => PyData.eqv z d
def dIn (n : Bool) : D → D → G → QD → Prop
  | .str s, .str z => fun g Q => match s.cps.toList with
    | [c] => Q (.bl (n != decide (c ∈ z.cps.toList))) g
    | _ => False
  | x, .tup ys => fun g Q => flatD x = true ∧ ys.all flatD = true ∧ Q (.bl (n != ys.any fun y => feq y x)) g
  | x, .ref a => fun g Q => match py g x, pyN 4 g a with
    | some p, some (.list qs) => SeqAt.shaped p = true ∧ SeqAt.shaped (.list qs) = true ∧ Q (.bl (n != memPy p qs)) g
    | _, _ => False
  | .tup xs, .dct c => fun g Q => n = true ∧ (∃ ns : List Int, xs = ns.map D.int) ∧ ∃ ks, g c = some ks ∧ ∀ b : Bool, (b = true ↔ D.tup xs ∉ ks) → Q (.bl b) g
  | _, _ => fun _ _ => False
section
variable {K : PySem.W.Frag} {H : Hp}
theorem flat_rep {x : D} {v : V} (r : Rep K H x v) (f : flatD x = true) : flatV v = true := by
  cases x with
  | non => cases (show v = .non from r); rfl
  | bl b => cases (show v = .bl b from r); rfl
  | int b => cases (show v = .int b from r); rfl
  | str b => cases (show v = .str b from r); rfl
  | _ => cases f
theorem feq_rep {x y : D} {v w : V} (r : Rep K H x v) (q : Rep K H y w) (f : flatD x = true) (k : flatD y = true) : eqV w v = feq y x := by
  cases x with
  | non => cases (show v = .non from r); cases y with
    | non => cases (show w = .non from q); rfl
    | bl b => cases (show w = .bl b from q); rfl
    | int b => cases (show w = .int b from q); rfl
    | str b => cases (show w = .str b from q); rfl
    | _ => cases k
  | bl b => cases (show v = .bl b from r); cases y with
    | non => cases (show w = .non from q); rfl
    | bl b => cases (show w = .bl b from q); rfl
    | int b => cases (show w = .int b from q); rfl
    | str b => cases (show w = .str b from q); rfl
    | _ => cases k
  | int b => cases (show v = .int b from r); cases y with
    | non => cases (show w = .non from q); rfl
    | bl b => cases (show w = .bl b from q); rfl
    | int b => cases (show w = .int b from q); rfl
    | str b => cases (show w = .str b from q); rfl
    | _ => cases k
  | str b => cases (show v = .str b from r); cases y with
    | non => cases (show w = .non from q); rfl
    | bl b => cases (show w = .bl b from q); rfl
    | int b => cases (show w = .int b from q); rfl
    | str b => cases (show w = .str b from q); rfl
    | _ => cases k
  | _ => cases f
theorem any_rep {x : D} {v : V} (r : Rep K H x v) (f : flatD x = true) : ∀ {ys : List D} {vs : List V}, RepL K H ys vs → ys.all flatD = true → vs.all flatV = true ∧ inV v vs = ys.any fun y => feq y x
  | [], vs, h, _ => by cases (show vs = [] from h); exact ⟨rfl, rfl⟩
  | y :: ys, vs, ⟨w, t, e, h, l⟩, k => by
    subst e
    simp only [List.all_cons, Bool.and_eq_true] at k
    obtain ⟨a, b⟩ := any_rep r f l k.2
    refine ⟨by simp [flat_rep h k.1, a], ?_⟩
    show ((eqV w v) || inV v t) = _
    rw [b, feq_rep r h f k.1, List.any_cons]
end
section
variable {X : Cx}
theorem o_in (hu : X.A.units + 65 < cLine) : OpR X (compareOp .In) (rUp X.K (dIn false)) := by
  intro pins s σ H x y v u Q I rx ry ⟨d1, d2, g, Qd, r1, r2, rg, r, cl⟩
  unfold dIn at r
  split at r
  · rename_i a z
    have e1 : x = V.str a := r1
    have e2 : y = V.str z := r2
    subst e1 e2
    split at r
    · rename_i c e
      have e3 : a = ⟨#[c]⟩ := by
        obtain ⟨cps⟩ := a
        congr
        apply Array.ext'
        simpa using e
      subst e3
      refine op_in_sign pins s σ H _ _ v u Q I rx ry ⟨c, z, rfl, rfl, ?_⟩
      have e : decide (c ∈ z.cps.toList) = (false != decide (c ∈ z.cps.toList)) := by simp
      rw [e]
      exact cl _ _ _ _ r (.refl _) rg rfl
    · exact r.elim
  · obtain ⟨p, vs, e, t, l⟩ := r2
    obtain ⟨k1, k2, q⟩ := r
    obtain ⟨a, b⟩ := any_rep r1 k1 l k2
    refine op_in_seq pins s σ H x y v u Q I rx ry ⟨p, vs, e, .inr t.sq, flat_rep r1 k1, a, ?_⟩
    rw [if_neg Bool.false_ne_true, b]
    rw [fbn] at q
    exact cl _ _ _ _ q (.refl _) rg rfl
  · rename_i a
    split at r
    · rename_i p qs e1 e2
      obtain ⟨ha, e3⟩ := r2
      subst e3
      refine op_inD hu pins s σ H x _ v u Q I rx ry ⟨p, qs, py_dp rg e1 r1, pyN_dp rg 4 a _ ha e2, r.1, r.2.1, ?_⟩
      have e : (qs.any fun z => PyData.eqv z p) = (false != memPy p qs) := by simp [memPy]
      rw [e]
      exact cl _ _ _ _ r.2.2 (.refl _) rg rfl
    · exact r.elim
  · exact absurd r.1 (by decide)
  · exact r.elim
theorem o_notIn (hu : X.A.units + 65 < cLine) : OpR X (compareOp .NotIn) (rUp X.K (dIn true)) := by
  intro pins s σ H x y v u Q I rx ry ⟨d1, d2, g, Qd, r1, r2, rg, r, cl⟩
  unfold dIn at r
  split at r
  · rename_i a z
    have e1 : x = V.str a := r1
    have e2 : y = V.str z := r2
    subst e1 e2
    split at r
    · rename_i c e
      have e3 : a = ⟨#[c]⟩ := by
        obtain ⟨cps⟩ := a
        congr
        apply Array.ext'
        simpa using e
      subst e3
      refine op_notIn_sign pins s σ H _ _ v u Q I rx ry ⟨c, z, rfl, rfl, ?_⟩
      have e : (!decide (c ∈ z.cps.toList)) = (true != decide (c ∈ z.cps.toList)) := by simp
      rw [e]
      exact cl _ _ _ _ r (.refl _) rg rfl
    · exact r.elim
  · obtain ⟨p, vs, e, t, l⟩ := r2
    obtain ⟨k1, k2, q⟩ := r
    obtain ⟨a, b⟩ := any_rep r1 k1 l k2
    refine op_notIn_seq pins s σ H x y v u Q I rx ry ⟨p, vs, e, .inr t.sq, flat_rep r1 k1, a, ?_⟩
    rw [if_pos rfl, b]
    rw [tbn] at q
    exact cl _ _ _ _ q (.refl _) rg rfl
  · rename_i a
    split at r
    · rename_i p qs e1 e2
      obtain ⟨ha, e3⟩ := r2
      subst e3
      refine op_notInD hu pins s σ H x _ v u Q I rx ry ⟨p, qs, py_dp rg e1 r1, pyN_dp rg 4 a _ ha e2, r.1, r.2.1, ?_⟩
      have e : (!qs.any fun z => PyData.eqv z p) = (true != memPy p qs) := by simp [memPy]
      rw [e]
      exact cl _ _ _ _ r.2.2 (.refl _) rg rfl
    · exact r.elim
  · rename_i xs c
    obtain ⟨-, ⟨ns, rfl⟩, ks, e, q⟩ := r
    obtain ⟨p, vs, rfl, t, l⟩ := r1
    obtain ⟨hc, rfl⟩ := r2
    obtain ⟨dx, h1, h2, rfl⟩ := rg.dct hc e
    cases (show v = Value.ref p from rx)
    cases (show u = Value.ref (c / 4) from ry)
    rw [keys_rep l] at t
    refine dict_notIn (by omega) I h1 h2 t fun s' I' => ?_
    refine ⟨.bl (!(atKey dx (tK ns)).isSome), H, I', rfl, ?_⟩
    refine cl _ _ _ _ (q _ ?_) (.refl _) rg rfl
    have z := at_mem (xs := dx) (ns := ns)
    show _ ↔ ¬ tD ns ∈ _
    rw [← z]
    cases (atKey dx (tK ns)).isSome <;> simp
  · exact r.elim
end
end PP
namespace PP
open PySem PySem.Spec PyProof.Rows L2
def cut {α : Type} (xs : List α) (lo hi : Option Int) : List α := (xs.drop (HT.sIx xs.length 0 lo)).take (HT.sIx xs.length xs.length hi - HT.sIx xs.length 0 lo)
def dIx : D → D → G → QD → Prop
  | .tup xs, .int i => fun g Q => match atI xs i with | some d => Q d g | none => False
  | .scr ns, .int i => fun g Q => match atI ns i with | some n => Q (.int n) g | none => False
  | .ref a, .int i => fun g Q => match g a with | some xs => (match atI xs i with | some d => Q d g | none => False) | none => False
  | .str z, .int i => fun g Q => z.length ≤ sizeLine ∧ match atI z.cps.toList i with | some c => Q (.str ⟨#[c]⟩) g | none => False
  | _, _ => fun _ _ => False
def dSl : D → Option Int → Option Int → G → QD → Prop
  | .tup xs, lo, hi => fun g Q => Q (.tup (cut xs lo hi)) g
  | .ref a, lo, hi => fun g Q => match g a with | some xs => ∀ p, g p = none → Q (.ref p) (g.up p (cut xs lo hi)) | none => False
  | .str z, lo, hi => fun g Q => z.length ≤ sizeLine ∧ Q (.str (cutS z lo hi)) g
  | _, _, _ => fun _ _ => False
section
variable {K : PySem.W.Frag} {H : Hp}
theorem RepL.atI {ds : List D} {vs : List V} {i : Int} {d : D} (r : RepL K H ds vs) (e : L2.atI ds i = some d) : ∃ v, L2.atI vs i = some v ∧ Rep K H d v := by
  unfold L2.atI at e ⊢
  rw [r.length]
  cases q : ixN ds.length i with
  | none => rw [q] at e; cases e
  | some j => rw [q] at e; exact r.get e
theorem RepL.cut {ds : List D} {vs : List V} (r : RepL K H ds vs) (lo hi : Option Int) : RepL K H (PP.cut ds lo hi) (cutV vs lo hi) := by
  unfold PP.cut cutV
  rw [r.length]
  exact (r.drop _).take _
end
section
variable {X : Cx} {C : Ex → Addr} {W : WX} {a b e : Expr} {es : List Expr} {pos : Pos} {ta tb : DTE} {tA : DTA}
theorem ix_imp {r r' : R2} (h : IxR X r) (k : ∀ x y H Q, r' x y H Q → r x y H Q) : IxR X r' := fun v1 v2 pins s σ H x y v u Q I rx ry q => h v1 v2 pins s σ H x y v u Q I rx ry (k _ _ _ _ q)
theorem o_ix : IxR X (rUp X.K dIx) := ix_imp ix_seq fun x y H Q ⟨d1, d2, g, Qd, r1, r2, rg, r, cl⟩ => by
  unfold dIx at r
  split at r
  · rename_i xs i
    obtain ⟨p, vs, e, t, l⟩ := r1
    split at r
    · rename_i d q
      obtain ⟨v, e1, rv⟩ := l.atI q
      exact .inr (.inl ⟨p, vs, i, v, e, r2, t.sq, e1, cl _ _ _ _ r (.refl _) rg rv⟩)
    · exact r.elim
  · rename_i ns i
    obtain ⟨p, e, t⟩ := r1
    split at r
    · rename_i n q
      refine .inl ⟨p, _, i, .int n, e, r2, t.sq, ?_, cl _ _ _ _ r (.refl _) rg rfl⟩
      unfold L2.atI at q ⊢
      rw [List.length_map]
      cases z : ixN ns.length i with
      | none => rw [z] at q; cases q
      | some j =>
        rw [z] at q
        have q' : ns[j]? = some n := q
        show (ns.map V.int)[j]? = _
        rw [List.getElem?_map, q'] <;> rfl
    · exact r.elim
  · rename_i p i
    obtain ⟨hc, e⟩ := r1
    split at r
    · rename_i xs q
      split at r
      · rename_i d q2
        obtain ⟨vs, h, l⟩ := rg.lst hc q
        obtain ⟨v, e1, rv⟩ := l.atI q2
        exact .inl ⟨_, vs, i, v, e, r2, .of h, e1, cl _ _ _ _ r (.refl _) rg rv⟩
      · exact r.elim
    · exact r.elim
  · rename_i z i
    obtain ⟨hz, r⟩ := r
    split at r
    · rename_i c q
      exact .inr (.inr ⟨z, i, c, r1, r2, hz, q, cl _ _ _ _ r (.refl _) rg rfl⟩)
    · exact r.elim
  · exact r.elim
theorem d_ix (ha : PE X a (up X.K C W ta)) (hb : PE X b (up X.K C W tb)) (hs : PlainIx b) : PE X (.Subscript a b pos) (up X.K C W (dBin dIx ta tb)) := by
  refine pe_imp (pe_ix o_ix ha hb hs) fun σ H Q ⟨env, g, Xd, Qd, re, rg, t, cl, cx⟩ => ?_
  refine ⟨env, g, Xd, _, re, rg, t, fun d1 g1 v H1 q k1 r1 rv => ?_, cx⟩
  refine ⟨env, g1, Xd, _, re.keep k1, r1, q, fun d2 g2 u H2 q2 k2 r2 ru => ?_, cx.at k1⟩
  exact ⟨d1, d2, g2, Qd, rv.keep k2, ru, r2, q2, cl.at (k1.trans k2)⟩
abbrev DTO := XD → Env → G → (Option Int → G → Prop) → Prop
def closO (K : PySem.W.Frag) (H : Hp) (Qd : Option Int → G → Prop) (Q : Option Int → Hp → Prop) : Prop := ∀ b g H', Qd b g → TK H H' → RepG K H' g → Q b H'
def upO (K : PySem.W.Frag) (C : Ex → Addr) (W : WX) (t : DTO) : TO := fun σ H Q => ∃ (env : Env) (g : G) (Xd : XD) (Qd : Option Int → G → Prop), RepE K H env σ ∧ RepG K H g ∧ t Xd env g Qd ∧ closO K H Qd Q ∧ closX K C H Xd (fun c d H' => W c d σ H')
def dNoPart : DTO := fun _ _ g Q => Q none g
def dPart (t : DTE) : DTO := fun X env g Q => t X env g fun d g1 => match d with | .int i => Q (some i) g1 | _ => False
theorem po_imp {e : Option Expr} {t t' : TO} (h : PO X e t) (f : ∀ σ H Q, t' σ H Q → t σ H Q) : PO X e t' := ⟨fun pins s σ H Q I q => h.run pins s σ H Q I (f σ H Q q)⟩
theorem d_noPart : PO X none (upO X.K C W dNoPart) := po_imp po_none fun σ H Q ⟨env, g, Xd, Qd, re, rg, t, cl, cx⟩ => cl _ _ _ t (.refl _) rg
theorem d_part (h : PE X e (up X.K C W ta)) : PO X (some e) (upO X.K C W (dPart ta)) := by
  refine po_imp (po_some h) fun σ H Q ⟨env, g, Xd, Qd, re, rg, t, cl, cx⟩ => ?_
  refine ⟨env, g, Xd, _, re, rg, t, fun d1 g1 v H1 q k1 r1 rv => ?_, cx⟩
  dsimp only at q
  split at q
  · rename_i i
    exact ⟨i, rv, cl _ _ _ q k1 r1⟩
  · exact q.elim
def dSlc (te : DTE) (tl th : DTO) : DTE := fun X env g Q => te X env g fun d g1 => tl X env g1 fun lo g2 => th X env g2 fun hi g3 => dSl d lo hi g3 Q
theorem d_slc {lo hi : Option Expr} {tl th : DTO} {p2} (he : PE X e (up X.K C W ta)) (hl : PO X lo (upO X.K C W tl)) (hu : PO X hi (upO X.K C W th)) : PE X (.Subscript e (.Slice lo hi none p2) pos) (up X.K C W (dSlc ta tl th)) := by
  refine pe_imp (pe_slice (SlR.or sl_tupA (SlR.or sl_list sl_str)) he hl hu) fun σ H Q ⟨env, g, Xd, Qd, re, rg, t, cl, cx⟩ => ?_
  refine ⟨env, g, Xd, _, re, rg, t, fun d1 g1 v H1 q k1 r1 rv => ?_, cx⟩
  refine ⟨env, g1, Xd, _, re.keep k1, r1, q, fun l g2 H2 q2 k2 r2 => ?_, cx.at k1⟩
  refine ⟨env, g2, Xd, _, (re.keep k1).keep k2, r2, q2, fun h g3 H3 q3 k3 r3 => ?_, (cx.at k1).at k2⟩
  have kk := (k1.trans k2).trans k3
  have rv := (rv.keep k2).keep k3
  change dSl d1 l h g3 Qd at q3
  unfold dSl at q3
  split at q3
  · obtain ⟨p, vs, e, tt, ll⟩ := rv
    refine .inl ⟨p, vs, e, tt.sq, fun z => ?_, fun _ o ho => ?_⟩
    · refine cl _ _ _ _ q3 kk r3 ⟨p, vs, rfl, tt, ?_⟩
      have ec : cutV vs l h = vs := by
        unfold cutV
        rw [z.1, z.2]
        simp
      have := ll.cut l h
      rw [ec] at this
      exact this
    · exact cl _ _ _ _ q3 (kk.trans (.new ho)) (r3.tup ho) ⟨o, _, rfl, .inl upd_same, (ll.cut l h).keep (.new ho)⟩
  · split at q3
    · rename_i xs e
      obtain ⟨hc, rv⟩ := rv
      obtain ⟨vs, hh, ll⟩ := r3.lst hc e
      refine .inr (.inl ⟨_, vs, rv, .of hh, fun p hp => ?_⟩)
      exact cl _ _ _ _ (q3 _ (r3.none hp)) (kk.trans (.new hp)) (r3.new hp (ll.cut l h)) rep_ref
    · exact q3.elim
  · exact .inr (.inr ⟨_, rv, q3.1, cl _ _ _ _ q3.2 kk r3 rfl⟩)
  · exact q3.elim
def rUpC (K : PySem.W.Frag) (r : List D → G → QD → Prop) : List V → Hp → VK → Prop := fun vs H Q => ∃ ds g Qd, RepL K H ds vs ∧ RepG K H g ∧ r ds g Qd ∧ clos K H Qd Q
def dCB (r : List D → G → QD → Prop) (t : DTA) : DTE := fun X env g Q => t X env g fun ds g1 => r ds g1 Q
theorem cb_up {r : List D → G → QD → Prop} {σ H Q} (h : up X.K C W (dCB r tA) σ H Q) : tCB (rUpC X.K r) (upA X.K C W tA) σ H Q := by
  obtain ⟨env, g, Xd, Qd, re, rg, t, cl, cx⟩ := h
  exact ⟨env, g, Xd, _, re, rg, t, fun ds g1 vs H1 q k1 r1 rv => ⟨ds, g1, Qd, rv, r1, q, cl.at k1⟩, cx⟩
theorem cr_imp {f : Value} {r r' : List V → Hp → VK → Prop} (h : CallR X f r) (k : ∀ x H Q, r' x H Q → r x H Q) : CallR X f r' := fun pins s σ H x v Q I rx q => h pins s σ H x v Q I rx (k _ _ _ q)
def dLen : List D → G → QD → Prop
  | [.tup xs] => fun g Q => Q (.int xs.length) g
  | [.scr xs] => fun g Q => Q (.int xs.length) g
  | [.ref a] => fun g Q => match g a with | some xs => Q (.int xs.length) g | none => False
  | [.str z] => fun g Q => z.length ≤ sizeLine ∧ Q (.int z.length) g
  | _ => fun _ _ => False
theorem rl1 {K H} {d : D} {vs : List V} (r : RepL K H [d] vs) : ∃ v, vs = [v] ∧ Rep K H d v := by
  obtain ⟨v, t, e, h, q⟩ := r
  cases (show t = [] from q)
  exact ⟨v, e, h⟩
theorem rl2 {K H} {d d' : D} {vs : List V} (r : RepL K H [d, d'] vs) : ∃ v w, vs = [v, w] ∧ Rep K H d v ∧ Rep K H d' w := by
  obtain ⟨v, t, e, h, q⟩ := r
  obtain ⟨w, rfl, h2⟩ := rl1 q
  exact ⟨v, w, e, h, h2⟩
theorem c_len : CallR X (.builtin "len") (rUpC X.K dLen) := cr_imp call_len fun x H Q ⟨ds, g, Qd, rl, rg, r, cl⟩ => by
  unfold dLen at r
  split at r
  · obtain ⟨v, rfl, p, vs, rfl, t, l⟩ := rl1 rl
    exact ⟨_, _, rfl, .inr ⟨vs, t.sq, rfl⟩, by rw [l.length]; exact cl _ _ _ _ r (.refl _) rg rfl⟩
  · obtain ⟨v, rfl, p, rfl, t⟩ := rl1 rl
    exact ⟨_, _, rfl, .inl ⟨_, t.sq, rfl⟩, by rw [List.length_map]; exact cl _ _ _ _ r (.refl _) rg rfl⟩
  · obtain ⟨v, rfl, h⟩ := rl1 rl
    obtain ⟨hc, rfl⟩ := h
    split at r
    · rename_i a xs e
      obtain ⟨vs, hh, l⟩ := rg.lst hc e
      exact ⟨_, _, rfl, .inl ⟨vs, .of hh, rfl⟩, by rw [l.length]; exact cl _ _ _ _ r (.refl _) rg rfl⟩
    · exact r.elim
  · obtain ⟨v, rfl, h⟩ := rl1 rl
    cases h
    exact ⟨_, _, rfl, ⟨r.1, rfl⟩, cl _ _ _ _ r.2 (.refl _) rg rfl⟩
  · exact r.elim
def dAbs : List D → G → QD → Prop
  | [.int i] => fun g Q => Q (.int (i.natAbs : Int)) g
  | _ => fun _ _ => False
theorem c_abs : CallR X (.builtin "abs") (rUpC X.K dAbs) := cr_imp call_abs fun x H Q ⟨ds, g, Qd, rl, rg, r, cl⟩ => by
  unfold dAbs at r
  split at r
  · rename_i i
    obtain ⟨v, rfl, h⟩ := rl1 rl
    cases h
    refine ⟨i, rfl, cl _ _ _ _ r (.refl _) rg ?_⟩
    show V.int _ = V.int _
    congr 1
    split <;> omega
  · exact r.elim
def intsD : List D → Option (List Int)
  | [] => some []
  | .int i :: ds => (intsD ds).map (i :: ·)
  | _ :: _ => none
def boolsD : List D → Option (List Bool)
  | [] => some []
  | .bl i :: ds => (boolsD ds).map (i :: ·)
  | _ :: _ => none
theorem intsD_rep {K H} : ∀ {ds : List D} {vs : List V} {ns : List Int}, RepL K H ds vs → intsD ds = some ns → vs = ns.map V.int
  | [], vs, ns, r, e => by cases e; exact r
  | .int i :: ds, vs, ns, ⟨v, t, e1, h, q⟩, e => by
    unfold intsD at e
    cases z : intsD ds with
    | none => rw [z] at e; cases e
    | some ms => rw [z] at e; cases e; subst e1; rw [intsD_rep q z, show v = V.int i from h] <;> rfl
  | .non :: ds, vs, ns, r, e => by cases e
  | .bl _ :: ds, vs, ns, r, e => by cases e
  | .str _ :: ds, vs, ns, r, e => by cases e
  | .tup _ :: ds, vs, ns, r, e => by cases e
  | .ref _ :: ds, vs, ns, r, e => by cases e
  | .scr _ :: ds, vs, ns, r, e => by cases e
  | .exc _ :: ds, vs, ns, r, e => by cases e
  | .emp :: ds, vs, ns, r, e => by cases e
  | .dct _ :: ds, vs, ns, r, e => by cases e
  | .dfz _ :: ds, vs, ns, r, e => by cases e
  | .obj _ :: ds, vs, ns, r, e => by cases e
theorem boolsD_rep {K H} : ∀ {ds : List D} {vs : List V} {ns : List Bool}, RepL K H ds vs → boolsD ds = some ns → vs = ns.map V.bl
  | [], vs, ns, r, e => by cases e; exact r
  | .bl i :: ds, vs, ns, ⟨v, t, e1, h, q⟩, e => by
    unfold boolsD at e
    cases z : boolsD ds with
    | none => rw [z] at e; cases e
    | some ms => rw [z] at e; cases e; subst e1; rw [boolsD_rep q z, show v = V.bl i from h] <;> rfl
  | .non :: ds, vs, ns, r, e => by cases e
  | .int _ :: ds, vs, ns, r, e => by cases e
  | .str _ :: ds, vs, ns, r, e => by cases e
  | .tup _ :: ds, vs, ns, r, e => by cases e
  | .ref _ :: ds, vs, ns, r, e => by cases e
  | .scr _ :: ds, vs, ns, r, e => by cases e
  | .exc _ :: ds, vs, ns, r, e => by cases e
  | .emp :: ds, vs, ns, r, e => by cases e
  | .dct _ :: ds, vs, ns, r, e => by cases e
  | .dfz _ :: ds, vs, ns, r, e => by cases e
  | .obj _ :: ds, vs, ns, r, e => by cases e
def dMax : List D → G → QD → Prop
  | [.int i, .int j] => fun g Q => Q (.int (max i j)) g
  | [.ref a] => fun g Q => match g a with | some xs => (match intsD xs with | some ns => 0 < ns.length ∧ ∀ m, m ∈ ns → (∀ y, y ∈ ns → y ≤ m) → Q (.int m) g | none => False) | none => False
  | _ => fun _ _ => False
theorem c_max (hc : X.calm = true) : CallR X (.builtin "max") (rUpC X.K dMax) := cr_imp (CallR.or (call_max2 hc) (cr_max hc)) fun x H Q ⟨ds, g, Qd, rl, rg, r, cl⟩ => by
  unfold dMax at r
  split at r
  · rename_i i j
    obtain ⟨v, w, rfl, h, h2⟩ := rl2 rl
    cases h; cases h2
    refine .inl ⟨i, j, rfl, cl _ _ _ _ r (.refl _) rg ?_⟩
    show V.int _ = V.int _
    congr 1
    split <;> omega
  · obtain ⟨v, rfl, h⟩ := rl1 rl
    obtain ⟨hc, rfl⟩ := h
    split at r
    · rename_i xs e
      split at r
      · rename_i ns e2
        obtain ⟨vs, hh, l⟩ := rg.lst hc e
        have := intsD_rep l e2
        subst this
        exact .inr ⟨_, ns, rfl, .of hh, r.1, fun m h1 h2 => cl _ _ _ _ (r.2 m h1 h2) (.refl _) rg rfl⟩
      · exact r.elim
    · exact r.elim
  · exact r.elim
def dMin : List D → G → QD → Prop
  | [.int i, .int j] => fun g Q => Q (.int (min i j)) g
  | _ => fun _ _ => False
theorem c_min (hc : X.calm = true) : CallR X (.builtin "min") (rUpC X.K dMin) := cr_imp (call_min2 hc) fun x H Q ⟨ds, g, Qd, rl, rg, r, cl⟩ => by
  unfold dMin at r
  split at r
  · rename_i i j
    obtain ⟨v, w, rfl, h, h2⟩ := rl2 rl
    cases h; cases h2
    refine ⟨i, j, rfl, cl _ _ _ _ r (.refl _) rg ?_⟩
    show V.int _ = V.int _
    congr 1
    split <;> omega
  · exact r.elim
def dInt : List D → G → QD → Prop
  | [.int i] => fun g Q => Q (.int i) g
  | [.bl k] => fun g Q => Q (.int (if k then 1 else 0)) g
  | [.str a] => fun g Q => match PySem.intText? a with | some n => a.length ≤ 640 ∧ Q (.int n) g | none => False
  | _ => fun _ _ => False
theorem c_int : CallR X (.type "int") (rUpC X.K dInt) := cr_imp (CallR.or call_int1 call_int_str) fun x H Q ⟨ds, g, Qd, rl, rg, r, cl⟩ => by
  unfold dInt at r
  split at r
  · obtain ⟨v, rfl, h⟩ := rl1 rl
    cases h
    exact .inl (.inl ⟨_, rfl, cl _ _ _ _ r (.refl _) rg rfl⟩)
  · obtain ⟨v, rfl, h⟩ := rl1 rl
    cases h
    exact .inl (.inr ⟨_, rfl, cl _ _ _ _ r (.refl _) rg rfl⟩)
  · obtain ⟨v, rfl, h⟩ := rl1 rl
    obtain ⟨hc, rfl⟩ := h
    split at r
    · rename_i n e
      exact .inr ⟨_, n, rfl, e, r.1, cl _ _ _ _ r.2 (.refl _) rg rfl⟩
    · exact r.elim
  · exact r.elim
def dStr : List D → G → QD → Prop
  | [.int i] => fun g Q => i.natAbs.log2 < 1920 ∧ Q (.str (toString i)) g
  | _ => fun _ _ => False
theorem c_str : CallR X (.type "str") (rUpC X.K dStr) := cr_imp call_str_int fun x H Q ⟨ds, g, Qd, rl, rg, r, cl⟩ => by
  unfold dStr at r
  split at r
  · obtain ⟨v, rfl, h⟩ := rl1 rl
    cases h
    exact ⟨_, rfl, r.1, cl _ _ _ _ r.2 (.refl _) rg rfl⟩
  · exact r.elim
def dSum : List D → G → QD → Prop
  | [.ref a] => fun g Q => match g a with | some xs => (match intsD xs with | some ns => Q (.int ns.sum) g | none => False) | none => False
  | _ => fun _ _ => False
theorem c_sum (hc : X.calm = true) : CallR X (.builtin "sum") (rUpC X.K dSum) := cr_imp (cr_sum hc) fun x H Q ⟨ds, g, Qd, rl, rg, r, cl⟩ => by
  unfold dSum at r
  split at r
  · obtain ⟨v, rfl, h⟩ := rl1 rl
    obtain ⟨hc, rfl⟩ := h
    split at r
    · rename_i xs e
      split at r
      · rename_i ns e2
        obtain ⟨vs, hh, l⟩ := rg.lst hc e
        have := intsD_rep l e2
        subst this
        exact ⟨_, ns, rfl, .of hh, cl _ _ _ _ r (.refl _) rg rfl⟩
      · exact r.elim
    · exact r.elim
  · exact r.elim
def dAll : List D → G → QD → Prop
  | [.ref a] => fun g Q => match g a with | some xs => (match boolsD xs with | some ns => Q (.bl (ns.all id)) g | none => False) | none => False
  | _ => fun _ _ => False
theorem c_all (hc : X.calm = true) : CallR X (.builtin "all") (rUpC X.K dAll) := cr_imp (cr_all hc) fun x H Q ⟨ds, g, Qd, rl, rg, r, cl⟩ => by
  unfold dAll at r
  split at r
  · obtain ⟨v, rfl, h⟩ := rl1 rl
    obtain ⟨hc, rfl⟩ := h
    split at r
    · rename_i xs e
      split at r
      · rename_i ns e2
        obtain ⟨vs, hh, l⟩ := rg.lst hc e
        have := boolsD_rep l e2
        subst this
        exact ⟨_, ns, rfl, .of hh, cl _ _ _ _ r (.refl _) rg rfl⟩
      · exact r.elim
    · exact r.elim
  · exact r.elim
def dList : List D → G → QD → Prop
  | [.ref a] => fun g Q => match g a with | some xs => ∀ p, g p = none → Q (.ref p) (g.up p xs) | none => False
  | [.tup xs] => fun g Q => ∀ p, g p = none → Q (.ref p) (g.up p xs)
  | [.dfz xs] => fun g Q => xs.length ≤ sizeLine ∧ ∀ p, g p = none → Q (.ref p) (g.up p xs)
  | _ => fun _ _ => False
theorem c_list (hc : X.calm = true) : CallR X (.type "list") (rUpC X.K dList) := cr_imp (CallR.or call_list_of (call_list_frz hc)) fun x H Q ⟨ds, g, Qd, rl, rg, r, cl⟩ => by
  unfold dList at r
  split at r
  · obtain ⟨v, rfl, h⟩ := rl1 rl
    obtain ⟨hc, rfl⟩ := h
    split at r
    · rename_i xs e
      obtain ⟨vs, hh, l⟩ := rg.lst hc e
      exact .inl ⟨_, vs, rfl, .inl (.of hh), fun p hp => cl _ _ _ _ (r _ (rg.none hp)) (.new hp) (rg.new hp l) rep_ref⟩
    · exact r.elim
  · obtain ⟨v, rfl, p, vs, rfl, t, l⟩ := rl1 rl
    exact .inl ⟨_, vs, rfl, .inr t.sq, fun p hp => cl _ _ _ _ (r _ (rg.none hp)) (.new hp) (rg.new hp l) rep_ref⟩
  · obtain ⟨v, rfl, a, o, ks, rfl, hh, hk, rfl⟩ := rl1 rl
    exact .inr ⟨a, o, ks, rfl, hh, by simpa using r.1, fun p hp => cl _ _ _ _ (r.2 _ (rg.none hp)) (.new hp) (rg.new hp (keysD_rep hk)) rep_ref⟩
  · exact r.elim
def dTuple : List D → G → QD → Prop
  | [.ref a] => fun g Q => match g a with | some xs => Q (.tup xs) g | none => False
  | [.tup xs] => fun g Q => Q (.tup xs) g
  | _ => fun _ _ => False
theorem c_tuple : CallR X (.type "tuple") (rUpC X.K dTuple) := cr_imp call_tuple_of fun x H Q ⟨ds, g, Qd, rl, rg, r, cl⟩ => by
  unfold dTuple at r
  split at r
  · obtain ⟨v, rfl, h⟩ := rl1 rl
    obtain ⟨hc, rfl⟩ := h
    split at r
    · rename_i xs e
      obtain ⟨vs, hh, l⟩ := rg.lst hc e
      exact ⟨_, vs, rfl, .inl ⟨.of hh, fun p hp => cl _ _ _ _ r (.new hp) (rg.tup hp) ⟨p, vs, rfl, .inl upd_same, l.keep (.new hp)⟩⟩⟩
    · exact r.elim
  · obtain ⟨v, rfl, p, vs, rfl, t, l⟩ := rl1 rl
    exact ⟨_, vs, rfl, .inr ⟨t.sq, cl _ _ _ _ r (.refl _) rg ⟨p, vs, rfl, t, l⟩⟩⟩
  · exact r.elim
inductive Ty where
  | int | bool | str | list | tuple
  deriving DecidableEq
def Ty.nm : Ty → String
  | .int => "int"
  | .bool => "bool"
  | .str => "str"
  | .list => "list"
  | .tuple => "tuple"
def tyD : D → Option Ty
  | .non => none
  | .bl _ => some .bool
  | .int _ => some .int
  | .str _ => some .str
  | .tup _ => some .tuple
  | .ref _ => some .list
  | .scr _ => some .list
  | .exc _ => none
  | .emp => none
  | .dct _ => none
  | .dfz _ => none
  | .obj _ => none
def isTyO (t : Ty) : Option Ty → Bool
  | none => false
  | some .bool => decide (t = .bool) || decide (t = .int)
  | some u => decide (t = u)
def isTy (t : Ty) (d : D) : Bool := isTyO t (tyD d)
def knownD (g : G) : D → Prop
  | .ref a => (g a).isSome = true
  | .exc _ => False
  | .dct _ => False
  | .dfz _ => False
  | .obj _ => False
  | _ => True
def dIsi (ts : List Ty) : D → G → QD → Prop := fun d g Q => knownD g d ∧ Q (.bl (ts.any fun t => isTy t d)) g
def tyO : Option Ty → Value
  | none => .type "NoneType"
  | some t => .type t.nm
def tyV' : D → Value
  | .emp => .type "dict"
  | d => tyO (tyD d)
theorem tyx_of {H : Hp} {d : D} {v : V} {g : G} (rg : RepG X.K H g) (r : Rep X.K H d v) (k : knownD g d) : TyX X.K H v (tyV' d) := by
  cases d with
  | non => cases (show v = .non from r); exact .base .non
  | bl b => cases (show v = .bl b from r); exact .base (.bl b)
  | int b => cases (show v = .int b from r); exact .base (.int b)
  | str b => cases (show v = .str b from r); exact .base (.str b)
  | ref b =>
    obtain ⟨hc, rfl⟩ := r
    have k' : (g b).isSome = true := k
    obtain ⟨xs, e⟩ := Option.isSome_iff_exists.mp k'
    obtain ⟨vs, h, _⟩ := rg.lst hc e
    exact .base (.lst h)
  | scr b =>
    obtain ⟨a, rfl, ⟨o, h⟩ | ⟨o, its, n, h1, h2, _⟩⟩ := r
    · exact .base (.frz h)
    · exact .kList h1 h2
  | exc b => exact False.elim k
  | dct b => exact False.elim k
  | dfz b => exact False.elim k
  | obj b => exact False.elim k
  | emp =>
    obtain ⟨a, o, _, rfl, h⟩ := r
    exact .fDict h
  | tup b =>
    obtain ⟨a, vs, rfl, h | ⟨o, its, n, h1, h2, _⟩, _⟩ := r
    · exact .base (.tup h)
    · exact .kTuple h1 h2
theorem kit_all (t : Ty) (d : D) (K : PySem.W.Frag) : PySem.W.kitOne K (tyV' d) (.type t.nm) = some (isTy t d) := by
  have old : PySem.W.kitOne K (tyO (tyD d)) (.type t.nm) = some (isTy t d) := by
    unfold isTy
    generalize tyD d = o
    rcases o with _ | o
    · cases t <;> exact kit_ty (by decide +kernel)
    · cases o <;> cases t <;> exact kit_ty (by decide +kernel)
  cases d with
  | emp => cases t <;> exact kit_ty (by decide +kernel)
  | _ => exact old
theorem kit_any (K : PySem.W.Frag) (d : D) : ∀ ts : List Ty, PySem.W.kitAny K (tyV' d) (ts.map fun t => .type t.nm) = some (ts.any fun t => isTy t d)
  | [] => rfl
  | t :: ts => by
    simp only [List.map_cons, List.any_cons]
    unfold PySem.W.kitAny
    rw [kit_all t d K]
    cases isTy t d with
    | true => rfl
    | false => exact kit_any K d ts
end
end PP
namespace PP
open PySem PySem.Spec PyProof.Rows L2
abbrev DTI := XD → Env → G → (List D → (G → Prop) → G → Prop) → Prop
structure ItOk (K : PySem.W.Frag) (J : It) (H0 : Hp) (items : List D) (stay : G → Prop) : Prop where
  go : ∀ (i : Nat) (g : G) (H : Hp), i < items.length → TK H0 H → RepG K H g → stay g → J.go i H
  yld : ∀ (i : Nat) (g : G) (H : Hp) (x : V) (H' : Hp), i < items.length → TK H0 H → RepG K H g → stay g → J.yld i H x H' → ∃ d, items[i]? = some d ∧ Rep K H' d x ∧ TK H H' ∧ RepG K H' g
  stop : ∀ (i : Nat) (g : G) (H : Hp), items.length ≤ i → i ≤ items.length → TK H0 H → RepG K H g → stay g → J.stop i H
def upI (K : PySem.W.Frag) (C : Ex → Addr) (W : WX) (t : DTI) : TI := fun σ H R => ∃ (env : Env) (g : G) (Xd : XD) (Rd : List D → (G → Prop) → G → Prop), RepE K H env σ ∧ RepG K H g ∧ t Xd env g Rd ∧
  (∀ items stay g' J H', Rd items stay g' → TK H H' → RepG K H' g' → ItOk K J H' items stay → R J H') ∧ closX K C H Xd (fun c d H' => W c d σ H')
theorem pi_imp {X : Cx} {tg e : Expr} {t t' : TI} (h : PI X tg e t) (f : ∀ σ H Q, t' σ H Q → t σ H Q) : PI X tg e t' := ⟨fun pins s σ H Q I q => h.run pins s σ H Q I (f σ H Q q)⟩
def dOver : D → G → (List D → (G → Prop) → G → Prop) → Prop
  | .ref a => fun g R => match g a with | some xs => R xs (fun g' => g' a = some xs) g | none => False
  | .tup xs => fun g R => R xs (fun _ => True) g
  | .str z => fun g R => R (z.cps.toList.map fun c => D.str ⟨#[c]⟩) (fun _ => True) g
  | .dfz ks => fun g R => R ks (fun _ => True) g
  | _ => fun _ _ => False
def iAny (K : PySem.W.Frag) (tl : TE) : TI := fun σ H R => tl σ H fun x H1 => (∃ a xs, x = .ref a ∧ SqL K H1 a xs ∧ R (Itl K a) H1) ∨ (∃ a xs, x = .ref a ∧ SqT K H1 a xs ∧ R (Itt K a) H1) ∨ (∃ z, x = .str z ∧ R (Its z) H1) ∨ ∃ a o xs, x = .ref a ∧ H1 a = some (.frz o (dictO a xs)) ∧ R (Itf a o xs) H1
theorem itl_ok {K : PySem.W.Frag} {H0 : Hp} {a : Addr} {xs : List D} (hc : a % 2 = 0) : ItOk K (Itl K (a / 2)) H0 xs (fun g => g a = some xs) where
  go := fun i g H hi k r st => by
    obtain ⟨vs, h, l⟩ := r.lst hc st
    have hv : i < vs.length := by rw [l.length]; exact hi
    exact ⟨vs, vs[i], .of h, by simp [hv]⟩
  yld := fun i g H x H' hi k r st y => by
    obtain ⟨e, y⟩ := y
    subst e
    obtain ⟨vs, h, l⟩ := r.lst hc st
    obtain ⟨d, e1, rd⟩ := l.getv (y vs (.of h))
    exact ⟨d, e1, rd, .refl _, r⟩
  stop := fun i g H hi hi2 k r st => by
    obtain ⟨vs, h, l⟩ := r.lst hc st
    exact ⟨vs, .of h, by rw [l.length]; exact hi⟩
theorem itt_ok {K : PySem.W.Frag} {H0 : Hp} {a : Addr} {xs : List D} {vs : List V} (t : TupP K H0 a vs) (l : RepL K H0 xs vs) : ItOk K (Itt K a) H0 xs (fun _ => True) where
  go := fun i g H hi k r st => by
    have hv : i < vs.length := by rw [l.length]; exact hi
    exact ⟨vs, vs[i], (t.keep k).sq, by simp [hv]⟩
  yld := fun i g H x H' hi k r st y => by
    obtain ⟨e, y⟩ := y
    subst e
    obtain ⟨d, e1, rd⟩ := l.getv (y vs (t.keep k).sq)
    exact ⟨d, e1, rd.keep k, .refl _, r⟩
  stop := fun i g H hi hi2 k r st => ⟨vs, (t.keep k).sq, by rw [l.length]; exact hi⟩
theorem its_ok {K : PySem.W.Frag} {H0 : Hp} {z : Str} : ItOk K (Its z) H0 (z.cps.toList.map fun c => D.str ⟨#[c]⟩) (fun _ => True) where
  go := fun i g H hi k r st => by
    show i < z.cps.size
    simpa using hi
  yld := fun i g H x H' hi k r st y => by
    obtain ⟨e, c, hc, ex⟩ := y
    subst e ex
    refine ⟨.str ⟨#[c]⟩, ?_, rfl, .refl _, r⟩
    rw [List.getElem?_map]
    rw [← Array.getElem?_toList] at hc
    rw [hc] <;> rfl
  stop := fun i g H hi hi2 k r st => by
    show z.cps.size ≤ i
    simpa using hi
theorem itf_ok {K : PySem.W.Frag} {H0 : Hp} {a : Addr} {o : Obj} {xs : DX} (h : H0 a = some (.frz o (dictO a xs))) (kk : KeysOk K H0 xs) : ItOk K (Itf a o xs) H0 (xs.map fun x => keyD x.1) (fun _ => True) where
  go := fun i g H hi k r st => ⟨k.1 _ _ trivial h, by simpa using hi⟩
  yld := fun i g H x H' hi k r st y => by
    obtain ⟨e, y, hy, ex⟩ := y
    subst e ex
    exact ⟨keyD y.1, by rw [List.getElem?_map, hy] <;> rfl, keyD_rep (kk.keep k y (List.mem_of_getElem? hy)), .refl _, r⟩
  stop := fun i g H hi hi2 k r st => ⟨k.1 _ _ trivial h, by simpa using hi⟩
section
variable {X : Cx} {C : Ex → Addr} {W : WX} {tg e : Expr} {pos p : Pos} {ta : DTE} {tA : DTA}
theorem pi_any {tl : TE} (hl : PE X e tl) : PI X tg e (iAny X.K tl) := by
  refine ⟨fun pins s σ H R I h => thn (hl.run pins s σ H _ I h) fun v s1 ⟨x, H1, I1, r1, q1⟩ => ?_⟩
  rcases q1 with ⟨a, xs, ex, hq, q⟩ | ⟨a, xs, ex, hq, q⟩ | ⟨z, ex, q⟩ | ⟨a, o, xs, ex, hq, q⟩
  · subst ex; cases r1
    obtain ⟨its, _, pl, _⟩ := I1.list hq
    exact wpAny_pyIter_list pl.isList (pi_one (tk := s1.toks) I1 _ (turn_list a _) ⟨_, Heap.get?_push_size _ rfl, rfl, rfl⟩ q)
  · subst ex; cases r1
    obtain ⟨its, _, pl, _⟩ := I1.tuple hq
    exact wpAny_pyIter_tuple pl (pi_one (tk := s1.toks) I1 _ (turn_tuple a _) ⟨_, Heap.get?_push_size _ rfl, rfl, rfl⟩ q)
  · subst ex
    obtain ⟨t, rfl⟩ := r1
    by_cases hz : z.cps.all (· < 128) = true
    · exact wpAny_pyIter_ascii hz (pi_one (tk := s1.toks) I1 _ (turn_str _ z t _ (.inl rfl)) ⟨_, Heap.get?_push_size _ rfl, rfl, rfl⟩ q)
    · exact wpAny_pyIter_wide (by simpa using hz) (pi_one (tk := s1.toks) I1 _ (turn_str _ z t _ (.inr rfl)) ⟨_, Heap.get?_push_size _ rfl, rfl, rfl⟩ q)
  · subst ex; cases r1
    obtain ⟨hs, ho, hx, es, ep, hdt, he⟩ := frzR I1 hq
    refine iter_keys hs ho hx hdt (pi_one (tk := s1.toks) I1 _ (turn_frz (d := a) (o := o) (xs := xs) _ hdt) ⟨_, Heap.get?_push_size _ rfl, rfl, ?_⟩ q)
    rw [size_of_entries he]; rfl
def dIAny (te : DTE) : DTI := fun X env g R => te X env g fun d g1 => dOver d g1 R
theorem d_iAny (h : PE X e (up X.K C W ta)) : PI X tg e (upI X.K C W (dIAny ta)) := by
  refine pi_imp (pi_any h) fun σ H R ⟨env, g, Xd, Rd, re, rg, t, cl, cx⟩ => ?_
  refine ⟨env, g, Xd, _, re, rg, t, fun d g1 v H1 q k r rv => ?_, cx⟩
  dsimp only at q
  unfold dOver at q
  split at q
  · rename_i a
    split at q
    · rename_i xs e
      obtain ⟨hc, rv⟩ := rv
      obtain ⟨vs, hh, l⟩ := r.lst hc e
      exact .inl ⟨_, vs, rv, .of hh, cl _ _ _ _ _ q k r (itl_ok hc)⟩
    · exact q.elim
  · obtain ⟨a, vs, e, t, l⟩ := rv
    exact .inr (.inl ⟨a, vs, e, t.sq, cl _ _ _ _ _ q k r (itt_ok t l)⟩)
  · exact .inr (.inr (.inl ⟨_, rv, cl _ _ _ _ _ q k r its_ok⟩))
  · obtain ⟨a, o, xs, e, h, kk, rfl⟩ := rv
    exact .inr (.inr (.inr ⟨a, o, xs, e, h, cl _ _ _ _ _ q k r (itf_ok h kk)⟩))
  · exact q.elim
def rangeD (lo : Int) (n : Nat) : List D := (List.range n).map fun (i : Nat) => D.int (lo + i)
theorem itr_ok {K : PySem.W.Frag} {H0 : Hp} {lo : Int} {n : Nat} : ItOk K (Itr lo n) H0 (rangeD lo n) (fun _ => True) where
  go := fun i g H hi k r st => by
    show i < n
    simpa [rangeD] using hi
  yld := fun i g H x H' hi k r st y => by
    obtain ⟨e, ex⟩ := y
    subst e ex
    have hi' : i < n := by simpa [rangeD] using hi
    exact ⟨.int (lo + i), by simp [rangeD, hi'], rfl, .refl _, r⟩
  stop := fun i g H hi hi2 k r st => by
    show n ≤ i
    simpa [rangeD] using hi
def dRange1 : D → G → (List D → (G → Prop) → G → Prop) → Prop
  | .int j => fun g R => (-(2 ^ 62) ≤ j ∧ j < 2 ^ 62) ∧ R (rangeD 0 j.toNat) (fun _ => True) g
  | _ => fun _ _ => False
def dRange2 : D → D → G → (List D → (G → Prop) → G → Prop) → Prop
  | .int i, .int j => fun g R => (-(2 ^ 62) ≤ i ∧ i < 2 ^ 62 ∧ -(2 ^ 62) ≤ j ∧ j < 2 ^ 62) ∧ R (rangeD i (j - i).toNat) (fun _ => True) g
  | _, _ => fun _ _ => False
def dI1 (r : D → G → (List D → (G → Prop) → G → Prop) → Prop) (ta : DTE) : DTI := fun X env g R => ta X env g fun d g1 => r d g1 R
def dI2 (r : D → D → G → (List D → (G → Prop) → G → Prop) → Prop) (ta tb : DTE) : DTI := fun X env g R => ta X env g fun d g1 => tb X env g1 fun d2 g2 => r d d2 g2 R
variable {a b : Expr} {tb : DTE}
theorem d_range1 (hg : Gl X "range") (hm : X.mg "range" = none) (ha : PE X a (up X.K C W ta)) (hs : starEach [a] X.env = [(false, eval a X.env)]) : PI X tg (.Call (.Name "range" p) [a] [] pos) (upI X.K C W (dI1 dRange1 ta)) := by
  refine pi_imp (pi_range1 hg hm (pa_cons ha pa_nil hs) hs) fun σ H R ⟨env, g, Xd, Rd, re, rg, t, cl, cx⟩ => ?_
  refine ⟨env, g, Xd, _, re, rg, t, fun d g1 v H1 q k r rv => ?_, cx⟩
  dsimp only at q
  unfold dRange1 at q
  split at q
  · cases (show v = .int _ from rv)
    exact ⟨_, rfl, q.1.1, q.1.2, cl _ _ _ _ _ q.2 k r itr_ok⟩
  · exact q.elim
theorem d_range2 (hg : Gl X "range") (hm : X.mg "range" = none) (ha : PE X a (up X.K C W ta)) (hb : PE X b (up X.K C W tb)) (hs : starEach [a, b] X.env = [(false, eval a X.env), (false, eval b X.env)]) (hs2 : starEach [b] X.env = [(false, eval b X.env)]) :
    PI X tg (.Call (.Name "range" p) [a, b] [] pos) (upI X.K C W (dI2 dRange2 ta tb)) := by
  refine pi_imp (pi_range2 hg hm (pa_cons ha (pa_cons hb pa_nil hs2) (by rw [hs, hs2])) hs hs2) fun σ H R ⟨env, g, Xd, Rd, re, rg, t, cl, cx⟩ => ?_
  refine ⟨env, g, Xd, _, re, rg, t, fun d g1 v H1 q k r rv => ?_, cx⟩
  refine ⟨env, g1, Xd, _, re.keep k, r, q, fun d2 g2 v2 H2 q2 k2 r2 rv2 => ?_, cx.at k⟩
  dsimp only at q2
  unfold dRange2 at q2
  split at q2
  · cases (show v = .int _ from rv)
    cases (show v2 = .int _ from rv2)
    exact ⟨_, _, rfl, q2.1, cl _ _ _ _ _ q2.2 (k.trans k2) r2 itr_ok⟩
  · exact q2.elim
def dRev : D → G → (List D → (G → Prop) → G → Prop) → Prop
  | .ref a => fun g R => match g a with | some xs => R xs.reverse (fun g' => g' a = some xs) g | none => False
  | .tup xs => fun g R => R xs.reverse (fun _ => True) g
  | _ => fun _ _ => False
theorem rev_at {α : Type} {xs : List α} {i : Nat} (hi : i < xs.length) : xs[xs.length - 1 - i]? = xs.reverse[i]? := by
  rw [List.getElem?_reverse hi]
theorem itv_ok {K : PySem.W.Frag} {H0 : Hp} {a : Addr} {xs : List D} (hc : a % 2 = 0) : ItOk K (Itv K (a / 2) xs.length) H0 xs.reverse (fun g => g a = some xs) where
  go := fun i g H hi k r st => by
    obtain ⟨vs, h, l⟩ := r.lst hc st
    have hi' : i < xs.length := by simpa using hi
    have hv : xs.length - 1 - i < vs.length := by rw [l.length]; omega
    exact ⟨hi', vs, vs[xs.length - 1 - i], .of h, by simp [hv]⟩
  yld := fun i g H x H' hi k r st y => by
    obtain ⟨e, y⟩ := y
    subst e
    obtain ⟨vs, h, l⟩ := r.lst hc st
    obtain ⟨d, e1, rd⟩ := l.getv (y vs (.of h))
    rw [rev_at (by simpa using hi)] at e1
    exact ⟨d, e1, rd, .refl _, r⟩
  stop := fun i g H hi hi2 k r st => by
    show xs.length ≤ i
    simpa using hi
theorem itvT_ok {K : PySem.W.Frag} {H0 : Hp} {a : Addr} {xs : List D} {vs : List V} (t : TupP K H0 a vs) (l : RepL K H0 xs vs) : ItOk K (RT.ItvT K a xs.length) H0 xs.reverse (fun _ => True) where
  go := fun i g H hi k r st => by
    have hi' : i < xs.length := by simpa using hi
    have hv : xs.length - 1 - i < vs.length := by rw [l.length]; omega
    exact ⟨hi', vs, vs[xs.length - 1 - i], (t.keep k).sq, by simp [hv]⟩
  yld := fun i g H x H' hi k r st y => by
    obtain ⟨e, y⟩ := y
    subst e
    obtain ⟨d, e1, rd⟩ := l.getv (y vs (t.keep k).sq)
    rw [rev_at (by simpa using hi)] at e1
    exact ⟨d, e1, rd.keep k, .refl _, r⟩
  stop := fun i g H hi hi2 k r st => by
    show xs.length ≤ i
    simpa using hi
theorem d_rev (hg : Gl X "reversed") (hm : X.mg "reversed" = none) (ha : PE X a (up X.K C W ta)) (hs : starEach [a] X.env = (false, eval a X.env) :: starEach [] X.env) : PI X tg (.Call (.Name "reversed" p) [a] [] pos) (upI X.K C W (dI1 dRev ta)) := by
  refine pi_imp (RT.pi_revA hg hm ha hs) fun σ H R ⟨env, g, Xd, Rd, re, rg, t, cl, cx⟩ => ?_
  refine ⟨env, g, Xd, _, re, rg, t, fun d g1 v H1 q k r rv => ?_, cx⟩
  dsimp only at q
  unfold dRev at q
  split at q
  · split at q
    · rename_i xs e
      obtain ⟨hc, rv⟩ := rv
      obtain ⟨vs, hh, l⟩ := r.lst hc e
      refine ⟨_, vs, rv, .inl ⟨.of hh, ?_⟩⟩
      rw [l.length]
      exact cl _ _ _ _ _ q k r (itv_ok hc)
    · exact q.elim
  · obtain ⟨a, vs, e, t, l⟩ := rv
    refine ⟨a, vs, e, .inr ⟨t.sq, ?_⟩⟩
    rw [l.length]
    exact cl _ _ _ _ _ q k r (itvT_ok t l)
  · exact q.elim
def zipD (xs ys : List D) : List D := List.zipWith (fun x y => D.tup [x, y]) xs ys
theorem itz_ok {K : PySem.W.Frag} {H0 : Hp} {a b : Addr} {xs ys : List D} (hc : a % 2 = 0) (hc2 : b % 2 = 0) : ItOk K (Itz K (a / 2) (b / 2)) H0 (zipD xs ys) (fun g => g a = some xs ∧ g b = some ys) where
  go := fun i g H hi k r st => by
    obtain ⟨vs, h, l⟩ := r.lst hc st.1
    obtain ⟨ws, h2, l2⟩ := r.lst hc2 st.2
    have hi' : i < xs.length ∧ i < ys.length := by simp [zipD] at hi; omega
    have hv : i < vs.length := by rw [l.length]; omega
    have hw : i < ws.length := by rw [l2.length]; omega
    exact ⟨vs, ws, vs[i], ws[i], .of h, .of h2, by simp [hv], by simp [hw]⟩
  yld := fun i g H x H' hi k r st y => by
    obtain ⟨vs, h, l⟩ := r.lst hc st.1
    obtain ⟨ws, h2, l2⟩ := r.lst hc2 st.2
    obtain ⟨T, u, w, ex, hT, eH, y1, y2⟩ := y
    obtain ⟨d, e1, rd⟩ := l.getv (y1 vs (.of h))
    obtain ⟨d', e2, rd'⟩ := l2.getv (y2 ws (.of h2))
    subst ex eH
    refine ⟨.tup [d, d'], ?_, ⟨T, [u, w], rfl, .inl upd_same, ⟨u, [w], rfl, rd.keep (.new hT), ⟨w, [], rfl, rd'.keep (.new hT), rfl⟩⟩⟩, .new hT, r.tup hT⟩
    simp [zipD, List.getElem?_zipWith, e1, e2]
  stop := fun i g H hi hi2 k r st => by
    obtain ⟨vs, h, l⟩ := r.lst hc st.1
    obtain ⟨ws, h2, l2⟩ := r.lst hc2 st.2
    refine ⟨vs, ws, .of h, .of h2, ?_⟩
    rw [l.length, l2.length]
    simp [zipD] at hi
    omega
theorem itzT_ok {K : PySem.W.Frag} {H0 : Hp} {a b : Addr} {xs ys : List D} {vs ws : List V} (t : TupP K H0 a vs) (l : RepL K H0 xs vs) (t2 : TupP K H0 b ws) (l2 : RepL K H0 ys ws) : ItOk K (RZ.ItzT K a b) H0 (zipD xs ys) (fun _ => True) where
  go := fun i g H hi k r st => by
    have hi' : i < xs.length ∧ i < ys.length := by simp [zipD] at hi; omega
    have hv : i < vs.length := by rw [l.length]; omega
    have hw : i < ws.length := by rw [l2.length]; omega
    exact ⟨vs, ws, vs[i], ws[i], (t.keep k).sq, (t2.keep k).sq, by simp [hv], by simp [hw]⟩
  yld := fun i g H x H' hi k r st y => by
    obtain ⟨T, u, w, ex, hT, eH, y1, y2⟩ := y
    obtain ⟨d, e1, rd⟩ := l.getv (y1 vs (t.keep k).sq)
    obtain ⟨d', e2, rd'⟩ := l2.getv (y2 ws (t2.keep k).sq)
    subst ex eH
    have k' := k.trans (TK.new (o := .tup [u, w]) hT)
    refine ⟨.tup [d, d'], ?_, ⟨T, [u, w], rfl, .inl upd_same, ⟨u, [w], rfl, rd.keep k', ⟨w, [], rfl, rd'.keep k', rfl⟩⟩⟩, .new hT, r.tup hT⟩
    simp [zipD, List.getElem?_zipWith, e1, e2]
  stop := fun i g H hi hi2 k r st => by
    refine ⟨vs, ws, (t.keep k).sq, (t2.keep k).sq, ?_⟩
    rw [l.length, l2.length]
    simp [zipD] at hi
    omega
def dZip : D → D → G → (List D → (G → Prop) → G → Prop) → Prop
  | .ref a, .ref b => fun g R => match g a, g b with | some xs, some ys => R (zipD xs ys) (fun g' => g' a = some xs ∧ g' b = some ys) g | _, _ => False
  | .tup xs, .tup ys => fun g R => R (zipD xs ys) (fun _ => True) g
  | _, _ => fun _ _ => False
theorem d_zip {elts : List Expr} {kk : Nat} {tpos : Pos} (hg : Gl X "zip") (hm : X.mg "zip" = none) (ha : PE X a (up X.K C W ta)) (hb : PE X b (up X.K C W tb)) (hs : starEach [a, b] X.env = [(false, eval a X.env), (false, eval b X.env)]) (hs2 : starEach [b] X.env = [(false, eval b X.env)]) :
    PI X (.Tuple elts kk tpos) (.Call (.Name "zip" p) [a, b] [] pos) (upI X.K C W (dI2 dZip ta tb)) := by
  refine pi_imp (RZ.pi_zipA hg hm (pa_cons ha (pa_cons hb pa_nil hs2) (by rw [hs, hs2])) (by rw [hs, hs2]) (by rw [hs2]; rfl)) fun σ H R ⟨env, g, Xd, Rd, re, rg, t, cl, cx⟩ => ?_
  refine ⟨env, g, Xd, _, re, rg, t, fun d g1 v H1 q k r rv => ?_, cx⟩
  refine ⟨env, g1, Xd, _, re.keep k, r, q, fun d2 g2 v2 H2 q2 k2 r2 rv2 => ?_, cx.at k⟩
  dsimp only at q2
  unfold dZip at q2
  have kk := k.trans k2
  split at q2
  · obtain ⟨hc, rfl⟩ := rv
    obtain ⟨hc2, rfl⟩ := rv2
    split at q2
    · rename_i xs ys e1 e2
      obtain ⟨vs, h1, l1⟩ := r2.lst hc e1
      obtain ⟨ws, h2, l2⟩ := r2.lst hc2 e2
      exact ⟨_, _, vs, ws, rfl, .inl ⟨.of h1, .of h2, cl _ _ _ _ _ q2 kk r2 (itz_ok hc hc2)⟩⟩
    · exact q2.elim
  · obtain ⟨a1, vs, e1, t1, l1⟩ := rv.keep k2
    obtain ⟨a2, ws, e2, t2, l2⟩ := rv2
    subst e1 e2
    exact ⟨_, _, vs, ws, rfl, .inr ⟨t1.sq, t2.sq, cl _ _ _ _ _ q2 kk r2 (itzT_ok t1 l1 t2 l2)⟩⟩
  · exact q2.elim
end
end PP
namespace PP
open PySem PySem.Spec PyProof.Rows L2
structure DEnds where
  nx : Env → G → Prop
  rt : QD
  ex : Ex → Env → G → Prop
abbrev DTS := DEnds → Env → G → Prop
def DEnds.at (E : DEnds) (env : Env) : XD := fun n g => E.ex n env g
section
variable (K : PySem.W.Frag) (C : Ex → Addr)
def closN (H : Hp) (N : Env → G → Prop) (n : List (Option V) → Hp → Prop) : Prop := ∀ env g σ H', N env g → TK H H' → RepE K H' env σ → RepG K H' g → n σ H'
def closXE (H : Hp) (x : Ex → Env → G → Prop) (W : WX) : Prop := ∀ n env g σ H', x n env g → TK H H' → RepE K H' env σ → RepG K H' g → W (.ref (C n)) none σ H'
def upS (W : WX) (t : DTS) : TS := fun D σ H => ∃ (env : Env) (g : G) (E : DEnds), RepE K H env σ ∧ RepG K H g ∧ t E env g ∧ closN K H E.nx D.nx ∧ clos K H E.rt D.rt ∧ closXE K C H E.ex W
end
section
variable {K : PySem.W.Frag} {C : Ex → Addr} {H H1 : Hp} {W : WX}
theorem closN.at {N n} (k : TK H H1) (c : closN K H N n) : closN K H1 N n := fun env g σ H' q t r1 r2 => c env g σ H' q (k.trans t) r1 r2
theorem closXE.at {N} (k : TK H H1) (c : closXE K C H N W) : closXE K C H1 N W := fun m env g σ H' q t r1 r2 => c m env g σ H' q (k.trans t) r1 r2
theorem closXE.e {x : Ex → Env → G → Prop} {env : Env} {σ : List (Option V)} (re : RepE K H env σ) (c : closXE K C H x W) : closX K C H (fun n g => x n env g) (fun c d H' => W c d σ H') := fun n g H' q k r => c n env g σ H' q k (re.keep k) r
end
def dNop : DTS := fun E env g => E.nx env g
def dSeq (t u : DTS) : DTS := fun E env g => t { E with nx := fun env' g' => u E env' g' } env g
def dExpr (te : DTE) : DTS := fun E env g => te (E.at env) env g fun _ g1 => E.nx env g1
def dRet (te : DTE) : DTS := fun E env g => te (E.at env) env g E.rt
def dRetN : DTS := fun E _ g => E.rt .non g
def dIf (tc : DTT) (t u : DTS) : DTS := fun E env g => tc (E.at env) env g fun b g1 => if b = true then t E env g1 else u E env g1
def setAll : Env → List Nat → List D → Env
  | env, i :: is, d :: ds => setAll (env.set i (some d)) is ds
  | env, _, _ => env
inductive TgD where
  | n (i : Nat)
  | t (is : List Nat)
def gD : TgD → D → Env → G → (Env → G → Prop) → Prop
  | .n i, d, env, g, N => N (env.set i (some d)) g
  | .t is, .tup ds, env, g, N => ds.length = is.length ∧ N (setAll env is ds) g
  | .t is, .ref a, env, g, N => match g a with | some ds => ds.length = is.length ∧ N (setAll env is ds) g | none => False
  | _, _, _, _, _ => False
def setV : List (Option V) → List Nat → List V → List (Option V)
  | σ, i :: is, v :: vs => setV (σ.set i (some v)) is vs
  | σ, _, _ => σ
def TgD.slots : TgD → List Nat
  | .n i => [i]
  | .t is => is
def closG (K : PySem.W.Frag) (tg : TgD) (σ : List (Option V)) (H : Hp) (N : Env → G → Prop) (n : List (Option V) → Hp → Prop) : Prop := ∀ env g σ' H', N env g → TK H H' → RepE K H' env σ' → RepG K H' g → (∃ vs, σ' = setV σ tg.slots vs) → n σ' H'
def gUp (K : PySem.W.Frag) (tg : TgD) : TG := fun v σ H Q => ∃ d env g N, Rep K H d v ∧ RepE K H env σ ∧ RepG K H g ∧ gD tg d env g N ∧ closG K tg σ H N Q
theorem closN.g {K : PySem.W.Frag} {tg : TgD} {σ : List (Option V)} {H : Hp} {N n} (h : closN K H N n) : closG K tg σ H N n := fun env g σ' H' q k r1 r2 _ => h env g σ' H' q k r1 r2
def dAsg (tg : TgD) (te : DTE) : DTS := fun E env g => te (E.at env) env g fun d g1 => gD tg d env g1 E.nx
def dPar (i j : Nat) (ta tb : DTE) : DTS := fun E env g => ta (E.at env) env g fun d g1 => tb (E.at env) env g1 fun d2 g2 => E.nx ((env.set i (some d)).set j (some d2)) g2
def dSet : D → D → D → G → (G → Prop) → Prop
  | .ref a, .int k, v, g, N => match g a with | some xs => (match ixN xs.length k with | some j => N (g.up a (xs.set j v)) | none => False) | none => False
  | .dct c, .tup xs, _, g, N => ∃ (ns : List Int) (ks : List D), xs = ns.map D.int ∧ g c = some ks ∧ ks.length ≤ sizeLine ∧ ∀ ks', (tD ns ∈ ks → ks' = ks) → (tD ns ∉ ks → ks' = ks ++ [tD ns]) → N (g.up c ks')
  | _, _, _, _, _ => False
def dPut (to ti te : DTE) : DTS := fun E env g => te (E.at env) env g fun v g1 => to (E.at env) env g1 fun o g2 => ti (E.at env) env g2 fun i g3 => dSet o i v g3 fun g4 => E.nx env g4
def whileD (tc : DTT) (tb : DTS) (E : DEnds) (W : Nat → Env → G → Prop) : Prop := ∀ m env g, W m env g → tc (E.at env) env g fun b g1 => if b = true then tb { E with nx := fun env' g' => ∃ m', m' < m ∧ W m' env' g' } env g1 else E.nx env g1
def dWhile (tc : DTT) (tb : DTS) : DTS := fun E env g => ∃ W : Nat → Env → G → Prop, (∃ m, W m env g) ∧ whileD tc tb E W
def forD (stay : G → Prop) (body : D → Env → G → (Env → G → Prop) → Prop) (fin : Env → G → Prop) : List D → Env → G → Prop
  | [], env, g => stay g ∧ fin env g
  | x :: xs, env, g => stay g ∧ body x env g fun env' g' => forD stay body fin xs env' g'
def dFor (ti : DTI) (tg : TgD) (tb : DTS) : DTS := fun E env g => ti (E.at env) env g fun items stay g1 => forD stay (fun x env g N => gD tg x env g fun env1 g1 => tb { E with nx := N } env1 g1) E.nx items env g1
section
variable {X : Cx} {C : Ex → Addr} {W : WX} {st : Stmt} {sts rest : List Stmt} {e a b : Expr} {pos : Pos} {t u : DTS} {te ta tb to ti : DTE} {tc : DTT}
theorem s_nil : PSs X [] (upS X.K C W dNop) := pss_imp pss_nil fun D σ H ⟨env, g, E, re, rg, t, cn, cr, cx⟩ => cn _ _ _ _ t (.refl _) re rg
theorem s_cons (h1 : PS X st (upS X.K C W t)) (h2 : PSs X rest (upS X.K C W u)) : PSs X (st :: rest) (upS X.K C W (dSeq t u)) := by
  refine pss_imp (pss_cons h1 h2) fun D σ H ⟨env, g, E, re, rg, q, cn, cr, cx⟩ => ?_
  refine ⟨env, g, { E with nx := fun env' g' => u E env' g' }, re, rg, q, fun env1 g1 σ1 H1 q1 k r1 r2 => ?_, cr, cx⟩
  exact ⟨env1, g1, E, r1, r2, q1, cn.at k, cr.at k, cx.at k⟩
theorem s_expr (h : PE X e (up X.K C W te)) (hs : swapsWith e none pos.line X.env = pure false) : PS X (.Expr e pos) (upS X.K C W (dExpr te)) := by
  refine ps_imp (ps_expr h hs) fun D σ H ⟨env, g, E, re, rg, q, cn, cr, cx⟩ => ?_
  exact ⟨env, g, _, _, re, rg, q, fun d g1 v H1 q1 k r rv => cn _ _ _ _ q1 k (re.keep k) r, cx.e re⟩
theorem s_ret (h : PE X e (up X.K C W te)) : PS X (.Return (some e) pos) (upS X.K C W (dRet te)) := by
  refine ps_imp (ps_ret h) fun D σ H ⟨env, g, E, re, rg, q, cn, cr, cx⟩ => ?_
  exact ⟨env, g, _, _, re, rg, q, cr, cx.e re⟩
theorem s_retN : PS X (.Return none pos) (upS X.K C W dRetN) := ps_imp ps_retN fun D σ H ⟨env, g, E, re, rg, q, cn, cr, cx⟩ => cr _ _ _ _ q (.refl _) rg rfl
theorem s_if (hc : PT X e (upT X.K C W tc)) (h1 : PSs X sts (upS X.K C W t)) (h2 : PSs X rest (upS X.K C W u)) : PS X (.If e sts rest pos) (upS X.K C W (dIf tc t u)) := by
  refine ps_imp (ps_if hc h1 h2) fun D σ H ⟨env, g, E, re, rg, q, cn, cr, cx⟩ => ?_
  refine ⟨env, g, _, _, re, rg, q, fun b g1 H1 q1 k r => ?_, cx.e re⟩
  cases b with
  | true => rw [if_pos rfl] at q1 ⊢; exact ⟨env, g1, E, re.keep k, r, q1, cn.at k, cr.at k, cx.at k⟩
  | false => rw [if_neg Bool.false_ne_true] at q1 ⊢; exact ⟨env, g1, E, re.keep k, r, q1, cn.at k, cr.at k, cx.at k⟩
theorem pg_imp {tg : Expr} {t t' : TG} (h : PG X tg t) (f : ∀ v σ H Q, t' v σ H Q → t v σ H Q) : PG X tg t' := ⟨fun pins s σ H v u Q I r q => h.run pins s σ H v u Q I r (f v σ H Q q)⟩
theorem g_name {i : Nat} {x : Str} (hN : X.N.Nodup) (hi : X.N[i]? = some x) (hx : Loc X.env.scope x) (hf : X.fn x = true ∨ X.env.scope.names.lookup x = some .local) : PG X (.Name x pos) (gUp X.K (.n i)) :=
  pg_imp (pg_name hN hi hx hf) fun v σ H Q ⟨d, env, g, N, rv, re, rg, q, cl⟩ => cl _ _ _ _ q (.refl _) (re.set rv) rg ⟨[v], rfl⟩
def gNames (is : List Nat) : TGs := fun vs σ H Q => vs.length = is.length ∧ Q (setV σ is vs) H
theorem pgs_imp {ts : List Expr} {t t' : TGs} (h : PGs X ts t) (f : ∀ v σ H Q, t' v σ H Q → t v σ H Q) : PGs X ts t' := ⟨fun pins s σ H v u Q I r q => h.run pins s σ H v u Q I r (f v σ H Q q)⟩
theorem gs_nil : PGs X [] (gNames []) := pgs_imp pgs_nil fun vs σ H Q ⟨h, q⟩ => by
  cases vs with
  | nil => exact ⟨rfl, q⟩
  | cons v vs => cases h
theorem gs_cons {i : Nat} {is : List Nat} {x : Str} {es : List Expr} {p : Pos} (h1 : PG X (.Name x p) (gName i)) (h2 : PGs X es (gNames is)) (hs : (assignEach (.Name x p :: es) X.env).map (·.2) = assign (.Name x p) X.env :: (assignEach es X.env).map (·.2)) : PGs X (.Name x p :: es) (gNames (i :: is)) :=
  pgs_imp (pgs_cons h1 h2 hs) fun vs σ H Q ⟨h, q⟩ => by
    cases vs with
    | nil => cases h
    | cons v vs => exact ⟨v, vs, rfl, by simpa using h, q⟩
theorem setAll_rep {K : PySem.W.Frag} {H : Hp} : ∀ {is : List Nat} {ds : List D} {vs : List V} {env : Env} {σ : List (Option V)}, RepE K H env σ → RepL K H ds vs → RepE K H (setAll env is ds) (setV σ is vs)
  | [], ds, vs, env, σ, h, r => by simpa [setAll, setV] using h
  | i :: is, [], vs, env, σ, h, r => by cases (show vs = [] from r); simpa [setAll, setV] using h
  | i :: is, d :: ds, vs, env, σ, h, ⟨v, t, e, rv, rl⟩ => by
    subst e
    show RepE K H (setAll (env.set i (some d)) is ds) (setV (σ.set i (some v)) is t)
    exact setAll_rep (h.set rv) rl
theorem PG.or {tg : Expr} {t t' : TG} (h : PG X tg t) (h' : PG X tg t') : PG X tg (fun v σ H Q => t v σ H Q ∨ t' v σ H Q) := ⟨fun pins s σ H v u Q I r q => q.elim (h.run pins s σ H v u Q I r) (h'.run pins s σ H v u Q I r)⟩
theorem g_tup {es : List Expr} {k : Nat} {is : List Nat} (hc : X.calm = true) (h : PGs X es (gNames is)) (hn : (assignEach es X.env).length = is.length) (hst : (assignEach es X.env).findIdx? (·.1) = none) : PG X (.Tuple es k pos) (gUp X.K (.t is)) := by
  refine pg_imp (PG.or (pg_tup hc h hn hst) (pg_lst hc h hn hst)) fun v σ H Q ⟨d, env, g, N, rv, re, rg, q, cl⟩ => ?_
  unfold gD at q
  split at q
  · rename_i z; cases z
  · rename_i z
    cases z
    obtain ⟨a, vs, e, t, l⟩ := rv
    exact .inl ⟨a, vs, e, t.sq, by rw [l.length]; exact q.1, by rw [l.length]; exact q.1, cl _ _ _ _ q.2 (.refl _) (setAll_rep re l) rg ⟨_, rfl⟩⟩
  · rename_i z
    cases z
    split at q
    · rename_i ds e
      obtain ⟨hc0, rv⟩ := rv
      obtain ⟨vs, h, l⟩ := rg.lst hc0 e
      exact .inr ⟨_, vs, rv, .of h, by rw [l.length]; exact q.1, by rw [l.length]; exact q.1, cl _ _ _ _ q.2 (.refl _) (setAll_rep re l) rg ⟨_, rfl⟩⟩
    · exact q.elim
  · exact q.elim
theorem s_asg {tg : Expr} {tgd : TgD} (h : PE X e (up X.K C W te)) (hg : PG X tg (gUp X.K tgd)) (hs : swapsWithSole [tg] e pos.line X.env = pure false) (hw : swappedStores [tg] e X.env = pure none) (h1 : (assignEach [tg] X.env).map (·.2) = [assign tg X.env]) : PS X (.Assign [tg] e pos) (upS X.K C W (dAsg tgd te)) := by
  refine ps_imp (ps_asg h hg hs hw h1) fun D σ H ⟨env, g, E, re, rg, q, cn, cr, cx⟩ => ?_
  refine ⟨env, g, _, _, re, rg, q, fun d g1 v H1 q1 k r rv => ?_, cx.e re⟩
  exact ⟨d, env, g1, E.nx, rv, re.keep k, r, q1, (cn.at k).g⟩
theorem s_set {i : Nat} {x : Str} {p : Pos} (hN : X.N.Nodup) (hi : X.N[i]? = some x) (hx : Loc X.env.scope x) (h : PE X e (up X.K C W te)) (hs : swapsWith e (some (.Name x p)) pos.line X.env = pure false) (hf : X.fn x = true ∨ X.env.scope.names.lookup x = some .local) : PS X (.Assign [.Name x p] e pos) (upS X.K C W (dAsg (.n i) te)) := by
  refine ps_imp (ps_set hN hi hx h hs hf) fun D σ H ⟨env, g, E, re, rg, q, cn, cr, cx⟩ => ?_
  refine ⟨env, g, _, _, re, rg, q, fun d g1 v H1 q1 k r rv => ?_, cx.e re⟩
  exact cn _ _ _ _ q1 k ((re.keep k).set rv) r
theorem s_par {i j : Nat} {x y : Str} {px py pt : Pos} {kt k2 pt2} (hc : X.calm = true) (hN : X.N.Nodup) (hi : X.N[i]? = some x) (hj : X.N[j]? = some y) (hij : i ≠ j)
    (hx : X.env.scope.names.lookup x = some .local) (hy : X.env.scope.names.lookup y = some .local) (ha : PE X a (up X.K C W ta)) (hb : PE X b (up X.K C W tb)) (ka : starEach [a, b] X.env = (false, eval a X.env) :: starEach [b] X.env) (kb : starEach [b] X.env = (false, eval b X.env) :: starEach [] X.env)
    (hw : swappedStores [.Tuple [.Name x px, .Name y py] kt pt] (.Tuple [a, b] k2 pt2) X.env = pure (some [x, y]))
    (hs : swapsWithSole [.Tuple [.Name x px, .Name y py] kt pt] (.Tuple [a, b] k2 pt2) pos.line X.env = pure false) : PS X (.Assign [.Tuple [.Name x px, .Name y py] kt pt] (.Tuple [a, b] k2 pt2) pos) (upS X.K C W (dPar i j ta tb)) := by
  refine ps_imp (ps_par hc hN hi hj hij hx hy (pa_cons ha (pa_cons hb pa_nil kb) ka) hw hs) fun D σ H ⟨env, g, E, re, rg, q, cn, cr, cx⟩ => ?_
  refine ⟨env, g, _, _, re, rg, q, fun d g1 v H1 q1 k r rv => ?_, cx.e re⟩
  refine ⟨env, g1, _, _, re.keep k, r, q1, fun d2 g2 v2 H2 q2 k2 r2 rv2 => ?_, (cx.at k).e (re.keep k)⟩
  exact ⟨v, v2, rfl, cn _ _ _ _ q2 (k.trans k2) (((re.keep (k.trans k2)).set (rv.keep k2)).set rv2) r2⟩
theorem s_sub {tp : Pos} (hu : X.A.units + 1 < cLine) (ho : PE X a (up X.K C W to)) (hi : PE X b (up X.K C W ti)) (h : PE X e (up X.K C W te))
    (ha : ∀ v, assign (.Subscript a b tp) X.env v = (do
      let ov ← holding [v] (eval a X.env)
      let iv ← holding [v, ov] (eval b X.env)
      standAt tp
      holding [v, ov, iv] (setItem ov iv v)
      release [v, ov, iv] []))
    (hs : swapsWithSole [.Subscript a b tp] e pos.line X.env = pure false) (hw : swappedStores [.Subscript a b tp] e X.env = pure none) (h1 : (assignEach [.Subscript a b tp] X.env).map (·.2) = [assign (.Subscript a b tp) X.env]) : PS X (.Assign [.Subscript a b tp] e pos) (upS X.K C W (dPut to ti te)) := by
  refine ps_imp (ps_asg h (pg_sub ho hi (set_both hu) ha) hs hw h1) fun D σ H ⟨env, g, E, re, rg, q, cn, cr, cx⟩ => ?_
  refine ⟨env, g, _, _, re, rg, q, fun d g1 v H1 q1 k r rv => ?_, cx.e re⟩
  refine ⟨env, g1, _, _, re.keep k, r, q1, fun o g2 ov H2 q2 k2 r2 ro => ?_, (cx.at k).e (re.keep k)⟩
  refine ⟨env, g2, _, _, (re.keep k).keep k2, r2, q2, fun i g3 iv H3 q3 k3 r3 ri => ?_, ((cx.at k).at k2).e ((re.keep k).keep k2)⟩
  have q3 : dSet o i d g3 (fun g4 => E.nx env g4) := q3
  unfold dSet at q3
  split at q3
  · rename_i p kk
    split at q3
    · rename_i xs e1
      split at q3
      · rename_i j e2
        obtain ⟨hc0, ro⟩ := ro
        obtain ⟨vs, hh, l⟩ := r3.lst hc0 e1
        refine .inl ⟨_, vs, _, j, ro, ri, hh, by rw [l.length]; exact e2, ?_⟩
        have kk := (k.trans k2).trans k3
        exact cn _ _ _ _ q3 (kk.trans (.set hh)) (re.keep (kk.trans (.set hh))) (r3.put hc0 hh (l.set (rv.keep (k2.trans k3)) j))
      · exact q3.elim
    · exact q3.elim
  · rename_i c xs
    obtain ⟨ns, ks, rfl, e, hl, q⟩ := q3
    obtain ⟨hc0, ro⟩ := ro
    obtain ⟨p, vs, ri, t, l⟩ := ri
    obtain ⟨dx, h1, h2, rfl⟩ := r3.dct hc0 e
    rw [keys_rep l] at t
    refine .inr ⟨_, p, dx, ns, ro, ri, h1, h2, t, by simpa using hl, fun hx r => ?_⟩
    have kk := (k.trans k2).trans k3
    have mem := at_mem (xs := dx) (ns := ns)
    have em := stored_map (xs := dx) (ns := ns) (b := p) (v := r)
    exact cn _ _ _ _ (q ((storedH dx (tK ns) p r).map fun x => keyD x.1) (fun z => by rw [em, if_pos (mem.mpr z)]) (fun z => by rw [em, if_neg fun w => z (mem.mp w)])) (kk.trans (.setX hx h1)) (re.keep (kk.trans (.setX hx h1))) (r3.putD hc0 hx h1 (h2.stored t))
  · exact q3.elim
theorem s_while {body : List Stmt} (hp : PassesOwn (model X.prog X.w) X.A X.env X.xe) (hc : PT X e (upT X.K C W tc)) (hb : PSs X body (upS X.K C W t)) : PS X (.While e body [] pos) (upS X.K C W (dWhile tc t)) := by
  refine ps_imp (ps_while hp hc hb) fun D σ H ⟨env, g, E, re, rg, ⟨I, ⟨m0, i0⟩, turn⟩, cn, cr, cx⟩ => ?_
  refine ⟨fun m σ1 H1 => TK H H1 ∧ ∃ env1 g1, RepE X.K H1 env1 σ1 ∧ RepG X.K H1 g1 ∧ I m env1 g1, ⟨m0, .refl _, env, g, re, rg, i0⟩, ?_⟩
  rintro m σ1 H1 ⟨k, env1, g1, re1, rg1, i1⟩
  refine ⟨env1, g1, _, _, re1, rg1, turn m env1 g1 i1, fun b g2 H2 q2 k2 r2 => ?_, (cx.at k).e re1⟩
  cases b with
  | true =>
    rw [if_pos rfl] at q2 ⊢
    refine ⟨fun σ' H' => ∃ m', m' < m ∧ TK H H' ∧ ∃ env1 g1, RepE X.K H' env1 σ' ∧ RepG X.K H' g1 ∧ I m' env1 g1, fun σ' H' ⟨m', h, z⟩ => ⟨m', h, z⟩, env1, g2, _, re1.keep k2, r2, q2, fun env3 g3 σ3 H3 ⟨m', hm, q3⟩ k3 r3 r3' => ?_, cr.at (k.trans k2), cx.at (k.trans k2)⟩
    exact ⟨m', hm, (k.trans k2).trans k3, env3, g3, r3, r3', q3⟩
  | false =>
    rw [if_neg Bool.false_ne_true] at q2 ⊢
    exact cn _ _ _ _ q2 (k.trans k2) (re1.keep k2) r2
theorem s_for {tg iter : Expr} {body : List Stmt} {ti : DTI} {tgd : TgD} (hp : PassesOwn (model X.prog X.w) X.A X.env X.xe) (hc : X.calm = true) (hi : PI X tg iter (upI X.K C W ti)) (hg : PG X tg (gUp X.K tgd)) (hb : PSs X body (upS X.K C W t))
    (hs : ∀ x, foldedSetIterable iter X.env x = pure x) : PS X (.For tg iter body [] pos) (upS X.K C W (dFor ti tgd t)) := by
  refine ps_imp (ps_for hp hc hi hg hb hs) fun D σ H ⟨env, g, E, re, rg, q, cn, cr, cx⟩ => ?_
  refine ⟨env, g, _, _, re, rg, q, fun items stay g1 J H1 q1 k r ok => ?_, cx.e re⟩
  refine ⟨fun i m σ2 H2 => m = items.length - i ∧ i ≤ items.length ∧ TK H1 H2 ∧ ∃ env2 g2, RepE X.K H2 env2 σ2 ∧ RepG X.K H2 g2 ∧ forD stay (fun x env g N => gD tgd x env g fun env1 g1 => t { E with nx := N } env1 g1) E.nx (items.drop i) env2 g2,
    ⟨items.length, rfl, Nat.zero_le _, .refl _, env, g1, re.keep k, r, q1⟩, ?_⟩
  rintro i m σ2 H2 ⟨rfl, hle, k2, env2, g2, re2, rg2, q2⟩
  by_cases hlt : i < items.length
  · have hd : items.drop i = items[i] :: items.drop (i + 1) := List.drop_eq_getElem_cons hlt
    rw [hd] at q2
    obtain ⟨st, q2⟩ := q2
    refine .inr ⟨ok.go i g2 H2 hlt k2 rg2 st, fun σ' H' => TK H1 H' ∧ ∃ env2 g2, RepE X.K H' env2 σ' ∧ RepG X.K H' g2 ∧ forD stay (fun x env g N => gD tgd x env g fun env1 g1 => t { E with nx := N } env1 g1) E.nx (items.drop (i + 1)) env2 g2,
      fun σ' H' z => ⟨items.length - (i + 1), by omega, rfl, hlt, z⟩, fun x H' y => ?_⟩
    obtain ⟨d, e1, rd, k3, rg3⟩ := ok.yld i g2 H2 x H' hlt k2 rg2 st y
    have e2 : items[i] = d := by
      rw [List.getElem?_eq_getElem hlt] at e1
      exact Option.some.inj e1
    rw [e2] at q2
    refine ⟨d, env2, g2, _, rd, re2.keep k3, rg3, q2, fun env3 g3 σ3 H3 q3 k4 re3 rg4 _ => ?_⟩
    have kk := (k2.trans k3).trans k4
    refine ⟨env3, g3, _, re3, rg4, q3, fun env5 g5 σ5 H5 q5 k5 re5 rg5 => ?_, cr.at (k.trans kk), cx.at (k.trans kk)⟩
    exact ⟨kk.trans k5, env5, g5, re5, rg5, q5⟩
  · have hd : items.drop i = [] := List.drop_eq_nil_of_le (by omega)
    rw [hd] at q2
    obtain ⟨st, q2⟩ := q2
    exact .inl ⟨ok.stop i g2 H2 (by omega) hle k2 rg2 st, cn _ _ _ _ q2 (k.trans k2) re2 rg2⟩
end
end PP
namespace PP
open PySem PySem.Spec PyProof.Rows L2
def dTst (te : DTE) : DTT := fun X env g Q => te X env g fun d g1 => match d with | .bl b => Q b g1 | _ => False
def dAndT (ta tb : DTT) : DTT := fun X env g Q => ta X env g fun b g1 => if b = true then tb X env g1 Q else Q false g1
def dOrT (ta tb : DTT) : DTT := fun X env g Q => ta X env g fun b g1 => if b = true then Q true g1 else tb X env g1 Q
def dNotT (ta : DTT) : DTT := fun X env g Q => ta X env g fun b g1 => Q (!b) g1
def dYes : DTT := fun _ _ g Q => Q true g
def dAnd (ta tb : DTE) : DTE := fun X env g Q => ta X env g fun d g1 => match d with | .bl b => if b = true then tb X env g1 Q else Q (.bl false) g1 | _ => False
def dOr (ta tb : DTE) : DTE := fun X env g Q => ta X env g fun d g1 => match d with | .bl b => if b = true then Q (.bl true) g1 else tb X env g1 Q | _ => False
def dNot (ta : DTE) : DTE := fun X env g Q => ta X env g fun d g1 => match d with | .bl b => Q (.bl (!b)) g1 | _ => False
def dNeg : D → G → QD → Prop
  | .int i => fun g Q => Q (.int (-i)) g
  | _ => fun _ _ => False
def dChain (r r' : D → D → G → QD → Prop) (ta tb tc : DTE) : DTE := fun X env g Q => ta X env g fun x g1 => tb X env g1 fun y g2 => r x y g2 fun z g3 => match z with
  | .bl k => if k = true then tc X env g3 fun w g4 => r' y w g4 Q else Q (.bl false) g3
  | _ => False
section
variable {X : Cx} {C : Ex → Addr} {W : WX} {e a b c : Expr} {es rest : List Expr} {pos : Pos} {ta tb tc : DTE} {qa qb : DTT} {tA : DTA}
theorem t_val (h : PE X e (up X.K C W ta)) (he : ∀ whole, isTrue e X.env whole = (do let v ← whole; standAt e.pos; holding [v] (truthy v))) : PT X e (upT X.K C W (dTst ta)) := by
  refine pt_imp (pt_val h he) fun σ H Q ⟨env, g, Xd, Qd, re, rg, t, cl, cx⟩ => ?_
  refine ⟨env, g, Xd, _, re, rg, t, fun d g1 v H1 q k r rv => ?_, cx⟩
  dsimp only at q
  split at q
  · exact ⟨_, rv, cl _ _ _ q k r⟩
  · exact q.elim
theorem t_and1 (h : PT X a (upT X.K C W qa)) : PW X (.BoolOp .And [a] pos) (upT X.K C W qa) := pw_and1 h
theorem t_or1 (h : PT X a (upT X.K C W qa)) : PW X (.BoolOp .Or [a] pos) (upT X.K C W qa) := pw_or1 h
theorem t_and (h : PT X a (upT X.K C W qa)) (h2 : PW X (.BoolOp .And (b :: rest) pos) (upT X.K C W qb)) : PW X (.BoolOp .And (a :: b :: rest) pos) (upT X.K C W (dAndT qa qb)) := by
  refine pw_imp (pw_and h h2) fun σ H Q ⟨env, g, Xd, Qd, re, rg, t, cl, cx⟩ => ?_
  refine ⟨env, g, Xd, _, re, rg, t, fun b g1 H1 q k r => ?_, cx⟩
  cases b with
  | true => rw [if_pos rfl] at q ⊢; exact ⟨env, g1, Xd, _, re.keep k, r, q, cl.at k, cx.at k⟩
  | false => rw [if_neg Bool.false_ne_true] at q ⊢; exact cl _ _ _ q k r
theorem t_or (h : PT X a (upT X.K C W qa)) (h2 : PW X (.BoolOp .Or (b :: rest) pos) (upT X.K C W qb)) : PW X (.BoolOp .Or (a :: b :: rest) pos) (upT X.K C W (dOrT qa qb)) := by
  refine pw_imp (pw_or h h2) fun σ H Q ⟨env, g, Xd, Qd, re, rg, t, cl, cx⟩ => ?_
  refine ⟨env, g, Xd, _, re, rg, t, fun b g1 H1 q k r => ?_, cx⟩
  cases b with
  | true => rw [if_pos rfl] at q ⊢; exact cl _ _ _ q k r
  | false => rw [if_neg Bool.false_ne_true] at q ⊢; exact ⟨env, g1, Xd, _, re.keep k, r, q, cl.at k, cx.at k⟩
theorem t_not (h : PT X a (upT X.K C W qa)) : PT X (.UnaryOp .Not a pos) (upT X.K C W (dNotT qa)) := by
  refine pt_imp (pt_not h) fun σ H Q ⟨env, g, Xd, Qd, re, rg, t, cl, cx⟩ => ?_
  exact ⟨env, g, Xd, _, re, rg, t, fun b g1 H1 q k r => cl _ _ _ q k r, cx⟩
theorem t_cmp {r : D → D → G → QD → Prop} {op : CmpOp} (ho : OpR X (compareOp op) (rUp X.K r)) (ha : PE X a (up X.K C W ta)) (hb : PE X b (up X.K C W tb)) (hm : behindInMarks op b = false) : PT X (.Compare a [op] [b] pos) (upT X.K C W (dTst (dBin r ta tb))) := by
  refine pt_imp (pt_cmpR ho ha hb hm) fun σ H Q ⟨env, g, Xd, Qd, re, rg, t, cl, cx⟩ => ?_
  refine ⟨env, g, Xd, _, re, rg, t, fun d1 g1 v H1 q k1 r1 rv => ?_, cx⟩
  refine ⟨env, g1, Xd, _, re.keep k1, r1, q, fun d2 g2 u H2 q2 k2 r2 ru => ?_, cx.at k1⟩
  refine ⟨d1, d2, g2, _, rv.keep k2, ru, r2, q2, fun d3 g3 w H3 q3 k3 r3 rw' => ?_⟩
  split at q3
  · exact ⟨_, rw', cl _ _ _ q3 ((k1.trans k2).trans k3) r3⟩
  · exact q3.elim
theorem v_one {op} (h : PE X a (up X.K C W ta)) : PE X (.BoolOp op [a] pos) (up X.K C W ta) := pe_one h
theorem v_and (h : PE X a (up X.K C W ta)) (h2 : PE X (.BoolOp .And (b :: rest) pos) (up X.K C W tb)) : PE X (.BoolOp .And (a :: b :: rest) pos) (up X.K C W (dAnd ta tb)) := by
  refine pe_imp (pe_and h h2) fun σ H Q ⟨env, g, Xd, Qd, re, rg, t, cl, cx⟩ => ?_
  refine ⟨env, g, Xd, _, re, rg, t, fun d g1 v H1 q k r rv => ?_, cx⟩
  dsimp only at q
  split at q
  · rename_i b
    refine ⟨b, rv, ?_⟩
    cases b with
    | true => rw [if_pos rfl] at q ⊢; exact ⟨env, g1, Xd, _, re.keep k, r, q, cl.at k, cx.at k⟩
    | false => rw [if_neg Bool.false_ne_true] at q ⊢; exact cl _ _ _ _ q k r rfl
  · exact q.elim
theorem v_or (h : PE X a (up X.K C W ta)) (h2 : PE X (.BoolOp .Or (b :: rest) pos) (up X.K C W tb)) : PE X (.BoolOp .Or (a :: b :: rest) pos) (up X.K C W (dOr ta tb)) := by
  refine pe_imp (pe_or h h2) fun σ H Q ⟨env, g, Xd, Qd, re, rg, t, cl, cx⟩ => ?_
  refine ⟨env, g, Xd, _, re, rg, t, fun d g1 v H1 q k r rv => ?_, cx⟩
  dsimp only at q
  split at q
  · rename_i b
    refine ⟨b, rv, ?_⟩
    cases b with
    | true => rw [if_pos rfl] at q ⊢; exact cl _ _ _ _ q k r rfl
    | false => rw [if_neg Bool.false_ne_true] at q ⊢; exact ⟨env, g1, Xd, _, re.keep k, r, q, cl.at k, cx.at k⟩
  · exact q.elim
theorem v_not (h : PE X a (up X.K C W ta)) : PE X (.UnaryOp .Not a pos) (up X.K C W (dNot ta)) := by
  refine pe_imp (pe_not h) fun σ H Q ⟨env, g, Xd, Qd, re, rg, t, cl, cx⟩ => ?_
  refine ⟨env, g, Xd, _, re, rg, t, fun d g1 v H1 q k r rv => ?_, cx⟩
  dsimp only at q
  split at q
  · rename_i b
    exact ⟨b, rv, cl _ _ _ _ q k r rfl⟩
  · exact q.elim
theorem v_neg (h : PE X a (up X.K C W ta)) : PE X (.UnaryOp .USub a pos) (up X.K C W (dUn dNeg ta)) := by
  refine pe_imp (pe_un un_neg h) fun σ H Q ⟨env, g, Xd, Qd, re, rg, t, cl, cx⟩ => ?_
  refine ⟨env, g, Xd, _, re, rg, t, fun d g1 v H1 q k r rv => ?_, cx⟩
  have q : dNeg d g1 Qd := q
  unfold dNeg at q
  split at q
  · exact ⟨_, rv, cl _ _ _ _ q k r rfl⟩
  · exact q.elim
theorem v_chain {r r' : D → D → G → QD → Prop} {op op' : CmpOp} (ho : OpR X (compareOp op) (rUp X.K r)) (ho' : OpR X (compareOp op') (rUp X.K r')) (ha : PE X a (up X.K C W ta)) (hb : PE X b (up X.K C W tb)) (hc : PE X c (up X.K C W tc)) (hm : lastMarks [op, op'] [b, c] = false) :
    PE X (.Compare a [op, op'] [b, c] pos) (up X.K C W (dChain r r' ta tb tc)) := by
  refine pe_imp (pe_chain ho ho' ha hb hc hm) fun σ H Q ⟨env, g, Xd, Qd, re, rg, t, cl, cx⟩ => ?_
  refine ⟨env, g, Xd, _, re, rg, t, fun d1 g1 v H1 q k1 r1 rv => ?_, cx⟩
  refine ⟨env, g1, Xd, _, re.keep k1, r1, q, fun d2 g2 u H2 q2 k2 r2 ru => ?_, cx.at k1⟩
  refine ⟨d1, d2, g2, _, rv.keep k2, ru, r2, q2, fun d3 g3 w H3 q3 k3 r3 rw' => ?_⟩
  have kk := (k1.trans k2).trans k3
  split at q3
  · rename_i k
    refine ⟨k, rw', ?_⟩
    cases k with
    | true =>
      rw [if_pos rfl] at q3 ⊢
      refine ⟨env, g3, Xd, _, re.keep kk, r3, q3, fun d4 g4 z H4 q4 k4 r4 rz => ?_, cx.at kk⟩
      exact ⟨d2, d4, g4, Qd, (ru.keep k3).keep k4, rz, r4, q4, cl.at (kk.trans k4)⟩
    | false => rw [if_neg Bool.false_ne_true] at q3 ⊢; exact cl _ _ _ _ q3 kk r3 rfl
  · exact q3.elim
end
def wipeD (env : Env) (vs : List Nat) : Env := vs.foldr (fun v e => e.set v none) env
def compD (stay : G → Prop) (p : Addr) (body : D → G → (Option D → G → Prop) → Prop) (fin : G → Prop) : List D → List D → G → Prop
  | [], _, g => stay g ∧ fin g
  | x :: xs, acc, g => stay g ∧ body x g fun o g' => match o with
    | some d => g' p = some acc ∧ compD stay p body fin xs (acc ++ [d]) (g'.up p (acc ++ [d]))
    | none => g' p = some acc ∧ compD stay p body fin xs acc g'
def compB (tg : TgD) (env : Env) (tt : DTT) (te : DTE) : D → G → (Option D → G → Prop) → Prop := fun x g k => gD tg x env g fun env2 g2 => tt (fun _ _ => False) env2 g2 fun b g3 => if b = true then te (fun _ _ => False) env2 g3 fun d g4 => k (some d) g4 else k none g3
def dComp (ti : DTI) (tg : TgD) (own : List Nat) (tt : DTT) (te : DTE) : DTE := fun X env g Q => ti X env g fun items stay g1 => items.length ≤ sizeLine ∧ ∀ p, g1 p = none → compD stay p (compB tg (wipeD env own) tt te) (Q (.ref p)) items [] (g1.up p [])
def W0 : WX := fun _ _ _ _ => False
theorem wipe_in {σ : List (Option V)} {i : Nat} : ∀ {vs : List Nat}, i ∈ vs → i < σ.length → (wipe σ vs)[i]? = some none
  | [], h, _ => by cases h
  | v :: vs, h, hl => by
    unfold wipe
    by_cases hi : v = i
    · subst hi
      rw [List.getElem?_set_self (by rw [wipe_length]; exact hl)]
    · rw [List.getElem?_set_ne hi]
      rcases List.mem_cons.mp h with z | z
      · exact absurd z.symm hi
      · exact wipe_in z hl
theorem wipe_eq {σ σ' : List (Option V)} {vs : List Nat} (hl : σ.length = σ'.length) (h : ∀ i, i ∉ vs → σ[i]? = σ'[i]?) : wipe σ vs = wipe σ' vs := by
  apply List.ext_getElem?
  intro i
  by_cases hi : i ∈ vs
  · by_cases hb : i < σ.length
    · rw [wipe_in hi hb, wipe_in hi (by omega)]
    · rw [List.getElem?_eq_none (by rw [wipe_length]; omega), List.getElem?_eq_none (by rw [wipe_length]; omega)]
  · rw [wipe_out hi, wipe_out hi]
    exact h i hi
theorem setV_length : ∀ {is : List Nat} {ws : List V} {σ : List (Option V)}, (setV σ is ws).length = σ.length
  | [], ws, σ => by simp [setV]
  | i :: is, [], σ => by simp [setV]
  | i :: is, w :: ws, σ => by show (setV (σ.set i (some w)) is ws).length = _; rw [setV_length, List.length_set]
theorem setV_out : ∀ {is : List Nat} {ws : List V} {σ : List (Option V)} {j : Nat}, j ∉ is → (setV σ is ws)[j]? = σ[j]?
  | [], ws, σ, j, h => by simp [setV]
  | i :: is, [], σ, j, h => by simp [setV]
  | i :: is, w :: ws, σ, j, h => by
    simp only [List.mem_cons, not_or] at h
    show (setV (σ.set i (some w)) is ws)[j]? = _
    rw [setV_out h.2, List.getElem?_set_ne (Ne.symm h.1)]
theorem wipe_set {σ : List (Option V)} {vs is : List Nat} {ws : List V} (h : ∀ i ∈ is, i ∈ vs) : wipe (setV (wipe σ vs) is ws) vs = wipe σ vs :=
  wipe_eq (by rw [setV_length, wipe_length]) fun i hi => by
    rw [setV_out (fun z => hi (h i z)), wipe_out hi]
theorem lc_up {K : PySem.W.Frag} {C : Ex → Addr} {W : WX} {ti : DTI} {tg : TgD} {own : List Nat} {tt : DTT} {te : DTE} {σ H Q} (hsub : ∀ i ∈ tg.slots, i ∈ own) (h : up K C W (dComp ti tg own tt te) σ H Q) :
    tLc (upI K C W ti) (gUp K tg) (upT K C W0 tt) (up K C W0 te) own σ H Q := by
  obtain ⟨env, g, Xd, Qd, re, rg, t, cl, cx⟩ := h
  refine ⟨env, g, Xd, _, re, rg, t, fun items stay g1 J H1 q k r ok p hp => ?_, cx⟩
  obtain ⟨hsz, q⟩ := q
  have q := q (2 * p) (r.none hp)
  have kp : TK H1 (upd H1 p (.lst [])) := .new hp
  refine ⟨fun i m H2 => m = items.length - i ∧ i ≤ items.length ∧ TK H1 H2 ∧ ∃ acc g2, acc.length ≤ i ∧ RepG K H2 g2 ∧ g2 (2 * p) = some acc ∧ compD stay (2 * p) (compB tg (wipeD env own) tt te) (Qd (.ref (2 * p))) (items.drop i) acc g2,
    ⟨items.length, rfl, Nat.zero_le _, kp, [], g1.up (2 * p) [], Nat.le_refl _, r.new hp rfl, by simp [G.up], q⟩, ?_⟩
  rintro i m H2 ⟨rfl, hle, k2, acc, g2, hacc, rg2, hgp, q2⟩
  by_cases hlt : i < items.length
  · have hd : items.drop i = items[i] :: items.drop (i + 1) := List.drop_eq_getElem_cons hlt
    rw [hd] at q2
    obtain ⟨st, q2⟩ := q2
    refine .inr ⟨ok.go i g2 H2 hlt k2 rg2 st, fun H' => TK H1 H' ∧ ∃ acc g2, acc.length ≤ i + 1 ∧ RepG K H' g2 ∧ g2 (2 * p) = some acc ∧ compD stay (2 * p) (compB tg (wipeD env own) tt te) (Qd (.ref (2 * p))) (items.drop (i + 1)) acc g2, fun H' z => ⟨items.length - (i + 1), by omega, rfl, hlt, z⟩, fun x H' y => ?_⟩
    obtain ⟨d, e1, rd, k3, rg3⟩ := ok.yld i g2 H2 x H' hlt k2 rg2 st y
    have e2 : items[i] = d := by
      rw [List.getElem?_eq_getElem hlt] at e1
      exact Option.some.inj e1
    rw [e2] at q2
    have reW : RepE K H' (wipeD env own) (wipe σ own) := (re.keep ((k.trans k2).trans k3)).wipe own
    refine ⟨d, _, g2, _, rd, reW, rg3, q2, fun env3 g3 σ3 H3 q3 k4 re3 rg4 ⟨ws, eσ⟩ => ?_⟩
    refine ⟨by rw [eσ]; exact wipe_set hsub, ?_⟩
    refine ⟨env3, g3, _, _, re3, rg4, q3, fun b g5 H5 q5 k5 r5 => ?_, fun n g' H' z => z.elim⟩
    cases b with
    | true =>
      rw [if_pos rfl] at q5 ⊢
      refine ⟨env3, g5, _, _, re3.keep k5, r5, q5, fun d6 g6 v6 H6 q6 k6 r6 rv6 => ?_, fun n g' H' z => z.elim⟩
      obtain ⟨h6, q6⟩ := q6
      obtain ⟨vs, hv, rl⟩ := r6.lstE h6
      have kk := (((k2.trans k3).trans k4).trans k5).trans k6
      refine ⟨vs, hv, ?_, ?_⟩
      · rw [rl.length]
        omega
      · exact ⟨kk.trans (.set hv), acc ++ [d6], _, by simp; omega, r6.putE hv (rl.app (.one rv6)), by simp [G.up], q6⟩
    | false =>
      rw [if_neg Bool.false_ne_true] at q5 ⊢
      exact ⟨((k2.trans k3).trans k4).trans k5, acc, g5, by omega, r5, q5.1, q5.2⟩
  · have hd : items.drop i = [] := List.drop_eq_nil_of_le (by omega)
    rw [hd] at q2
    obtain ⟨st, q2⟩ := q2
    exact .inl ⟨ok.stop i g2 H2 (by omega) hle k2 rg2 st, cl _ _ _ _ q2 (k.trans k2) rg2 rep_ref⟩
section
variable {X : Cx} {C : Ex → Addr} {W : WX} {elt tg iter : Expr} {ifs : List Expr} {scope : Scope} {own : List (Str × Nat)} {pos : Pos} {ti : DTI} {tgd : TgD} {tt : DTT} {te : DTE}
theorem d_comp (hc : X.calm = true) (hN : X.N.Nodup) (hi : PI X tg iter (upI X.K C W ti)) (ok : BlkOk X.N X.env.scope scope own)
    (hg : ∀ (s : Shared) (H : Hp) (A : Addr) (cl : List (Str × Addr)) (fp : List Addr), PG (X.blk s H scope (compEnvC scope cl A X.env) fp) tg (gUp X.K tgd))
    (ht : ∀ (s : Shared) (H : Hp) (A : Addr) (cl : List (Str × Addr)) (fp : List Addr), PTs (X.blk s H scope (compEnvC scope cl A X.env) fp) ifs (upT X.K C W0 tt))
    (he : ∀ (s : Shared) (H : Hp) (A : Addr) (cl : List (Str × Addr)) (fp : List Addr), PE (X.blk s H scope (compEnvC scope cl A X.env) fp) elt (up X.K C W0 te))
    (hs : ∀ x, foldedSetIterable iter X.env x = pure x) (hsub : ∀ i ∈ tgd.slots, i ∈ own.map (·.2)) :
    PE X (.ListComp elt [⟨tg, iter, ifs, 0⟩] scope pos) (up X.K C W (dComp ti tgd (own.map (·.2)) tt te)) :=
  pe_imp (pe_lc hc hN hi ok hg ht he hs) fun σ H Q h => lc_up hsub h
theorem s_setLc {i : Nat} {y : Str} {py spos : Pos} (hc : X.calm = true) (hN : X.N.Nodup) (hy : X.N[i]? = some y) (hyl : X.env.scope.names.lookup y = some .local)
    (hsw : swapsWith (.ListComp elt [⟨tg, iter, ifs, 0⟩] scope pos) (some (.Name y py)) spos.line X.env = pure true) (hi : PI X tg iter (upI X.K C W ti)) (ok : BlkOk X.N X.env.scope scope own)
    (hg : ∀ (s : Shared) (H : Hp) (A : Addr) (cl : List (Str × Addr)) (fp : List Addr), PG (X.blk s H scope (compEnvC scope cl A X.env) fp) tg (gUp X.K tgd))
    (ht : ∀ (s : Shared) (H : Hp) (A : Addr) (cl : List (Str × Addr)) (fp : List Addr), PTs (X.blk s H scope (compEnvC scope cl A X.env) fp) ifs (upT X.K C W0 tt))
    (he : ∀ (s : Shared) (H : Hp) (A : Addr) (cl : List (Str × Addr)) (fp : List Addr), PE (X.blk s H scope (compEnvC scope cl A X.env) fp) elt (up X.K C W0 te))
    (hs : ∀ x, foldedSetIterable iter X.env x = pure x) (hsub : ∀ i ∈ tgd.slots, i ∈ own.map (·.2)) :
    PS X (.Assign [.Name y py] (.ListComp elt [⟨tg, iter, ifs, 0⟩] scope pos) spos) (upS X.K C W (dAsg (.n i) (dComp ti tgd (own.map (·.2)) tt te))) := by
  refine ps_imp (ps_setLc hc hN hy hyl hsw hi ok hg ht he hs) fun D σ H ⟨env, g, E, re, rg, q, cn, cr, cx⟩ => ?_
  refine lc_up (Q := fun x H1 => gName i x σ H1 D.nx) hsub ⟨env, g, _, _, re, rg, q, fun d g1 v H1 q1 k r rv => ?_, cx.e re⟩
  exact cn _ _ _ _ q1 k ((re.keep k).set rv) r
end
abbrev SpD := List D → G → QD → XD → Prop
def liftSp (K : PySem.W.Frag) (C : Ex → Addr) (sp : SpD) : Sp := fun vs H Q E => ∃ ds g Qd Xd, RepL K H ds vs ∧ RepG K H g ∧ sp ds g Qd Xd ∧ clos K H Qd Q ∧ closX K C H Xd E ∧ TbOk H
def dCall (sp : SpD) (t : DTA) : DTE := fun X env g Q => t X env g fun ds g1 => sp ds g1 Q X
section
variable {X : Cx} {C : Ex → Addr} {W : WX} {e : Expr} {es : List Expr} {pos p : Pos} {tA : DTA} {sp : SpD} {x : Str}
structure FnAt (X : Cx) (C : Ex → Addr) (x : Str) (ps : List Str) (sp : SpD) : Prop where
  ex : ∃ (f : Addr) (fd : FuncData) (k : Nat), X.mg x = some (.ref f) ∧ PySem.W.keepIn X.K (.ref f) = true ∧ Binds X.K fd ps [] ∧ FnOk X.prog X.w X.K X.mg X.base (L2N.CX X.prog X.w) k f fd ps (liftSp X.K C sp) ∧ Room k X.A
theorem d_call {ps : List Str} (F : FnAt X C x ps sp) (tk : L2N.Takes X W) (hg : Gl X x) (ha : PA X (e :: es) (upA X.K C W tA)) (hdb : (x == ("__debug__" : Str)) = false) (he : starEach (e :: es) X.env = (false, eval e X.env) :: starEach es X.env) (hpl : (backTo pos (starEach es X.env)).any (·.1) = false) :
    PE X (.Call (.Name x p) (e :: es) [] pos) (up X.K C W (dCall sp tA)) := by
  obtain ⟨f, fd, k, hm, hk, hb, FO, hr⟩ := F.ex
  refine pe_imp (pe_callS FO hr hg hm hk hb (fun σ => L2N.passAt tk σ) ha hdb he hpl) fun σ H Q ⟨env, g, Xd, Qd, re, rg, t, cl, cx⟩ => ?_
  refine ⟨env, g, Xd, _, re, rg, t, fun ds g1 vs H1 q k1 r1 rv => ?_, cx⟩
  exact ⟨ds, g1, Qd, Xd, rv, r1, q, cl.at k1, cx.at k1, re.2.2.keep k1⟩
theorem d_callB {r : List D → G → QD → Prop} {id : String} (hc : CallR X (.builtin id) (rUpC X.K r)) (hg : Gl X x) (hm : X.mg x = none) (hv : bootBuiltins x = some (.builtin id)) (ha : PA X (e :: es) (upA X.K C W tA)) (hn : x ≠ "__name__") (hdb : (x == ("__debug__" : Str)) = false)
    (he : starEach (e :: es) X.env = (false, eval e X.env) :: starEach es X.env) (hpl : (backTo pos (starEach es X.env)).any (·.1) = false) : PE X (.Call (.Name x p) (e :: es) [] pos) (up X.K C W (dCB r tA)) :=
  pe_imp (pe_callB hc hg hm hv ha hn hdb he hpl) fun σ H Q h => cb_up h
theorem d_callTy {r : List D → G → QD → Prop} {T : String} (hc : CallR X (.type T) (rUpC X.K r)) (hg : Gl X x) (hm : X.mg x = none) (hv : bootBuiltins x = some (.type T)) (ha : PA X (e :: es) (upA X.K C W tA)) (hn : x ≠ "__name__") (hdb : (x == ("__debug__" : Str)) = false)
    (he : starEach (e :: es) X.env = (false, eval e X.env) :: starEach es X.env) (hpl : (backTo pos (starEach es X.env)).any (·.1) = false) : PE X (.Call (.Name x p) (e :: es) [] pos) (up X.K C W (dCB r tA)) :=
  pe_imp (pe_callTy hc hg hm hv ha hn hdb he hpl) fun σ H Q h => cb_up h
end
end PP
namespace PP
open PySem PySem.Spec PyProof.Rows L2
def rUpM (K : PySem.W.Frag) (r : D → List D → G → QD → Prop) : V → List V → Hp → VK → Prop := fun x vs H Q => ∃ d ds g Qd, Rep K H d x ∧ RepL K H ds vs ∧ RepG K H g ∧ r d ds g Qd ∧ clos K H Qd Q
inductive Rc where
  | list | str
def Rc.nm : Rc → String
  | .list => "list"
  | .str => "str"
def recv : Rc → D → G → Prop
  | .list, .ref a, g => (g a).isSome = true
  | .str, .str _, _ => True
  | _, _, _ => False
def dMt (T : Rc) (r : D → List D → G → QD → Prop) (to : DTE) (tA : DTA) : DTE := fun X env g Q => to X env g fun d g1 => recv T d g1 ∧ tA X env g1 fun ds g2 => r d ds g2 Q
section
variable {X : Cx} {C : Ex → Addr} {W : WX} {o e : Expr} {es : List Expr} {to : DTE} {tA : DTA} {r : D → List D → G → QD → Prop} {name : Str} {apos cpos : Pos} {T : Rc} {id : String}
theorem recv_ty {K : PySem.W.Frag} {H : Hp} {d : D} {g : G} {v : V} (h : recv T d g) (rv : Rep K H d v) (rg : RepG K H g) : tyV K T.nm v H := by
  unfold recv at h
  split at h
  · obtain ⟨hc, rfl⟩ := rv
    obtain ⟨xs, e⟩ := Option.isSome_iff_exists.mp h
    obtain ⟨vs, hh, _⟩ := rg.lst hc e
    exact .inl ⟨rfl, vs, .of hh⟩
  · cases (show v = .str _ from rv)
    rfl
  · exact h.elim
theorem d_bm (pa : PlainAttrs T.nm) (slot : Slot T.nm name id) (hty : typeOf (.builtin id) = pure (.type "method_descriptor")) (hm : MtR X id (rUpM X.K r)) (ho : PE X o (up X.K C W to)) (ha : PA X (e :: es) (upA X.K C W tA))
    (hbase : attributeBase o name X.env (eval o X.env) = eval o X.env)
    (hfew : ((backTo cpos (starEach (e :: es) X.env)).all (fun x => !x.1) && (backToKw cpos (keywordEach [] X.env)).all (fun x => x.1.isSome)
      && decide ((e :: es).length + ([] : List Keyword).length + (if ([] : List Keyword).isEmpty then 0 else 1) < 30)) = true)
    (hline : (apos.endLine == cpos.line) = true) (hs : starEach (e :: es) X.env = (false, eval e X.env) :: starEach es X.env) (hplain : (backTo cpos (starEach es X.env)).any (·.1) = false) :
    PE X (.Call (.Attribute o name apos) (e :: es) [] cpos) (up X.K C W (dMt T r to tA)) := by
  refine pe_imp (pe_bm pa slot hty hm ho ha hbase hfew hline hs hplain) fun σ H Q ⟨env, g, Xd, Qd, re, rg, t, cl, cx⟩ => ?_
  refine ⟨env, g, Xd, _, re, rg, t, fun d g1 v H1 q k1 r1 rv => ⟨recv_ty q.1 rv r1, ?_⟩, cx⟩
  refine ⟨env, g1, Xd, _, re.keep k1, r1, q.2, fun ds g2 vs H2 q2 k2 r2 rl => ?_, cx.at k1⟩
  exact ⟨d, ds, g2, Qd, rv.keep k2, rl, r2, q2, cl.at (k1.trans k2)⟩
theorem d_bm0 (pa : PlainAttrs T.nm) (slot : Slot T.nm name id) (hty : typeOf (.builtin id) = pure (.type "method_descriptor")) (hm : MtR X id (rUpM X.K r)) (ho : PE X o (up X.K C W to))
    (hbase : attributeBase o name X.env (eval o X.env) = eval o X.env) (hline : (apos.endLine == cpos.line) = true) :
    PE X (.Call (.Attribute o name apos) [] [] cpos) (up X.K C W (dMt T r to dNil)) := by
  refine pe_imp (pe_bm0 pa slot hty hm ho hbase hline) fun σ H Q ⟨env, g, Xd, Qd, re, rg, t, cl, cx⟩ => ?_
  refine ⟨env, g, Xd, _, re, rg, t, fun d g1 v H1 q k1 r1 rv => ⟨recv_ty q.1 rv r1, ?_⟩, cx⟩
  exact ⟨d, [], g1, Qd, rv, rfl, r1, q.2, cl.at k1⟩
theorem mt_imp {id : String} {r r' : V → List V → Hp → VK → Prop} (h : MtR X id r) (k : ∀ x xs H Q, r' x xs H Q → r x xs H Q) : MtR X id r' := fun pins s σ H x xs v us Q I rx rl q => h pins s σ H x xs v us Q I rx rl (k _ _ _ _ q)
end
def mAppend : D → List D → G → QD → Prop
  | .ref l, [y] => fun g Q => match g l with | some xs => xs.length < sizeLine ∧ Q .non (g.up l (xs ++ [y])) | none => False
  | _, _ => fun _ _ => False
def mPop : D → List D → G → QD → Prop
  | .ref l, [] => fun g Q => match g l with | some xs => (match xs[xs.length - 1]? with | some y => Q y (g.up l xs.dropLast) | none => False) | none => False
  | _, _ => fun _ _ => False
def mPopAt : D → List D → G → QD → Prop
  | .ref l, [.int i] => fun g Q => match g l with | some xs => -(2 ^ 63) ≤ i ∧ i < 2 ^ 63 ∧ (match seqIndex? i xs.length with | some k => (match xs[k]? with | some y => Q y (g.up l (xs.eraseIdx k)) | none => False) | none => False) | none => False
  | _, _ => fun _ _ => False
def mExtend : D → List D → G → QD → Prop
  | .ref l, [.ref b] => fun g Q => match g l, g b with | some xs, some ys => xs.length + ys.length ≤ sizeLine ∧ Q .non (g.up l (xs ++ ys)) | _, _ => False
  | _, _ => fun _ _ => False
def mClear : D → List D → G → QD → Prop
  | .ref l, [] => fun g Q => match g l with | some _ => Q .non (g.up l []) | none => False
  | _, _ => fun _ _ => False
def mReverse : D → List D → G → QD → Prop
  | .ref l, [] => fun g Q => match g l with | some xs => Q .non (g.up l xs.reverse) | none => False
  | _, _ => fun _ _ => False
def mInsert : D → List D → G → QD → Prop
  | .ref l, [.int i, y] => fun g Q => match g l with | some xs => xs.length < sizeLine ∧ 0 ≤ i ∧ i < 2 ^ 63 ∧ Q .non (g.up l (xs.take i.toNat ++ [y] ++ xs.drop i.toNat)) | none => False
  | _, _ => fun _ _ => False
def mIndex : D → List D → G → QD → Prop
  | .ref l, [y] => fun g Q => match pyN 4 g l, py g y with
    | some (.list qs), some p => SeqAt.shaped (.list qs) = true ∧ SeqAt.shaped p = true ∧ (match qs.findIdx? (fun z => PyData.eqv z p) with | some j => Q (.int (j : Nat)) g | none => False)
    | _, _ => False
  | _, _ => fun _ _ => False
def strsD : List D → Option (List Str)
  | [] => some []
  | .str i :: ds => (strsD ds).map (i :: ·)
  | _ :: _ => none
theorem strsD_rep {K H} : ∀ {ds : List D} {vs : List V} {ns : List Str}, RepL K H ds vs → strsD ds = some ns → vs = ns.map V.str
  | [], vs, ns, r, e => by cases e; exact r
  | .str i :: ds, vs, ns, ⟨v, t, e1, h, q⟩, e => by
    unfold strsD at e
    cases z : strsD ds with
    | none => rw [z] at e; cases e
    | some ms => rw [z] at e; cases e; subst e1; rw [strsD_rep q z, show v = V.str i from h] <;> rfl
  | .non :: ds, vs, ns, r, e => by cases e
  | .bl _ :: ds, vs, ns, r, e => by cases e
  | .int _ :: ds, vs, ns, r, e => by cases e
  | .tup _ :: ds, vs, ns, r, e => by cases e
  | .ref _ :: ds, vs, ns, r, e => by cases e
  | .scr _ :: ds, vs, ns, r, e => by cases e
  | .exc _ :: ds, vs, ns, r, e => by cases e
  | .emp :: ds, vs, ns, r, e => by cases e
  | .dct _ :: ds, vs, ns, r, e => by cases e
  | .dfz _ :: ds, vs, ns, r, e => by cases e
  | .obj _ :: ds, vs, ns, r, e => by cases e
theorem strs_rep {K H} : ∀ (ss : List Str), RepL K H (ss.map D.str) (ss.map V.str)
  | [] => rfl
  | s :: ss => ⟨.str s, ss.map V.str, rfl, rfl, strs_rep ss⟩
def mSplit : D → List D → G → QD → Prop
  | .str a, [.str b] => fun g Q => (b.length == 0) = false ∧ a.length + 2 ≤ sizeLine ∧ ∀ p, g p = none → Q (.ref p) (g.up p ((Txt.split a b).map D.str))
  | _, _ => fun _ _ => False
def mJoin : D → List D → G → QD → Prop
  | .str a, [.ref p] => fun g Q => match g p with | some xs => (match strsD xs with | some ys => (ys.map (·.length)).sum + ys.length * a.length ≤ 16777216 ∧ Q (.str (Txt.join a ys)) g | none => False) | none => False
  | _, _ => fun _ _ => False
section
variable {X : Cx}
theorem m_append : MtR X "list.append" (rUpM X.K mAppend) := mt_imp mt_append fun x vs H Q ⟨d, ds, g, Qd, rv, rl, rg, r, cl⟩ => by
  unfold mAppend at r
  split at r
  · obtain ⟨w, rfl, rw'⟩ := rl1 rl
    split at r
    · rename_i xs e
      obtain ⟨hc, rv⟩ := rv
      obtain ⟨us, hh, l⟩ := rg.lst hc e
      exact ⟨_, us, w, rv, rfl, hh, by rw [l.length]; exact r.1, cl _ _ _ _ r.2 (.set hh) (rg.put hc hh (l.app (.one rw'))) rfl⟩
    · exact r.elim
  · exact r.elim
theorem m_pop : MtR X "list.pop" (rUpM X.K mPop) := mt_imp mt_pop fun x vs H Q ⟨d, ds, g, Qd, rv, rl, rg, r, cl⟩ => by
  unfold mPop at r
  split at r
  · cases (show vs = [] from rl)
    split at r
    · rename_i xs e
      split at r
      · rename_i y e2
        obtain ⟨hc, rv⟩ := rv
        obtain ⟨us, hh, l⟩ := rg.lst hc e
        obtain ⟨w, e3, rw'⟩ := l.get e2
        rw [← l.length] at e3
        refine ⟨_, us, w, rv, rfl, hh, e3, cl _ _ _ _ r (.set hh) (rg.put hc hh ?_) (rw'.keep (.set hh))⟩
        rw [List.dropLast_eq_take, List.dropLast_eq_take, l.length]
        exact l.take _
      · exact r.elim
    · exact r.elim
  · exact r.elim
theorem m_popAt : MtR X "list.pop" (rUpM X.K mPopAt) := mt_imp mt_popAt fun x vs H Q ⟨d, ds, g, Qd, rv, rl, rg, r, cl⟩ => by
  unfold mPopAt at r
  split at r
  · obtain ⟨w, rfl, rw'⟩ := rl1 rl
    cases rw'
    split at r
    · rename_i xs e
      obtain ⟨h1, h2, r⟩ := r
      split at r
      · rename_i k e1
        split at r
        · rename_i y e2
          obtain ⟨hc, rv⟩ := rv
          obtain ⟨us, hh, l⟩ := rg.lst hc e
          obtain ⟨w, e3, rw'⟩ := l.get e2
          refine ⟨_, us, _, k, w, rv, rfl, hh, h1, h2, by rw [l.length]; exact e1, e3, cl _ _ _ _ r (.set hh) (rg.put hc hh ?_) (rw'.keep (.set hh))⟩
          rw [List.eraseIdx_eq_take_drop_succ, List.eraseIdx_eq_take_drop_succ]
          exact (l.take _).app (l.drop _)
        · exact r.elim
      · exact r.elim
    · exact r.elim
  · exact r.elim
theorem m_extend : MtR X "list.extend" (rUpM X.K mExtend) := mt_imp mt_extend fun x vs H Q ⟨d, ds, g, Qd, rv, rl, rg, r, cl⟩ => by
  unfold mExtend at r
  split at r
  · obtain ⟨w, rfl, rw'⟩ := rl1 rl
    obtain ⟨hc2, rfl⟩ := rw'
    split at r
    · rename_i xs ys e e2
      obtain ⟨hc, rv⟩ := rv
      obtain ⟨us, hh, l⟩ := rg.lst hc e
      obtain ⟨ws, hh2, l2⟩ := rg.lst hc2 e2
      exact ⟨_, _, us, ws, rv, rfl, hh, hh2, by rw [l.length, l2.length]; exact r.1, cl _ _ _ _ r.2 (.set hh) (rg.put hc hh (l.app l2)) rfl⟩
    · exact r.elim
  · exact r.elim
theorem m_clear : MtR X "list.clear" (rUpM X.K mClear) := mt_imp mt_clear fun x vs H Q ⟨d, ds, g, Qd, rv, rl, rg, r, cl⟩ => by
  unfold mClear at r
  split at r
  · cases (show vs = [] from rl)
    split at r
    · rename_i xs e
      obtain ⟨hc, rv⟩ := rv
      obtain ⟨us, hh, l⟩ := rg.lst hc e
      exact ⟨_, us, rv, rfl, hh, cl _ _ _ _ r (.set hh) (rg.put hc hh rfl) rfl⟩
    · exact r.elim
  · exact r.elim
theorem m_reverse : MtR X "list.reverse" (rUpM X.K mReverse) := mt_imp mt_reverse fun x vs H Q ⟨d, ds, g, Qd, rv, rl, rg, r, cl⟩ => by
  unfold mReverse at r
  split at r
  · cases (show vs = [] from rl)
    split at r
    · rename_i xs e
      obtain ⟨hc, rv⟩ := rv
      obtain ⟨us, hh, l⟩ := rg.lst hc e
      exact ⟨_, us, rv, rfl, hh, cl _ _ _ _ r (.set hh) (rg.put hc hh l.rev) rfl⟩
    · exact r.elim
  · exact r.elim
theorem m_insert : MtR X "list.insert" (rUpM X.K mInsert) := mt_imp mt_insert fun x vs H Q ⟨d, ds, g, Qd, rv, rl, rg, r, cl⟩ => by
  unfold mInsert at r
  split at r
  · obtain ⟨w, u, rfl, rw', ru⟩ := rl2 rl
    cases rw'
    split at r
    · rename_i xs e
      obtain ⟨hc, rv⟩ := rv
      obtain ⟨us, hh, l⟩ := rg.lst hc e
      exact ⟨_, us, _, u, rv, rfl, hh, by rw [l.length]; exact r.1, r.2.1, r.2.2.1, cl _ _ _ _ r.2.2.2 (.set hh) (rg.put hc hh (((l.take _).app (.one ru)).app (l.drop _))) rfl⟩
    · exact r.elim
  · exact r.elim
theorem m_index (hu : X.A.units + 65 < cLine) : MtR X "list.index" (rUpM X.K mIndex) := mt_imp (mt_indexD hu) fun x vs H Q ⟨d, ds, g, Qd, rv, rl, rg, r, cl⟩ => by
  unfold mIndex at r
  split at r
  · obtain ⟨w, rfl, rw'⟩ := rl1 rl
    obtain ⟨hc, rfl⟩ := rv
    split at r
    · rename_i qs p e1 e2
      obtain ⟨h1, h2, r⟩ := r
      split at r
      · rename_i j e3
        obtain ⟨hj, hq, hm⟩ := List.findIdx?_eq_some_iff_getElem.mp e3
        refine ⟨_, w, p, qs, j, qs[j], rfl, rfl, pyN_dp rg 4 _ _ hc e1, py_dp rg e2 rw', h1, h2, by simp [hj], hq, fun m z hlt hz => ?_, cl _ _ _ _ r (.refl _) rg rfl⟩
        have := hm m hlt
        have hmz : qs[m] = z := by
          rw [List.getElem?_eq_getElem (by omega)] at hz
          exact Option.some.inj hz
        rw [hmz] at this
        simpa using this
      · exact r.elim
    · exact r.elim
  · exact r.elim
theorem m_split : MtR X "str.split" (rUpM X.K mSplit) := mt_imp mt_split fun x vs H Q ⟨d, ds, g, Qd, rv, rl, rg, r, cl⟩ => by
  unfold mSplit at r
  split at r
  · obtain ⟨w, rfl, rw'⟩ := rl1 rl
    cases rw'
    exact ⟨_, _, rv, rfl, r.1, r.2.1, fun p hp => cl _ _ _ _ (r.2.2 _ (rg.none hp)) (.new hp) (rg.new hp (strs_rep _)) rep_ref⟩
  · exact r.elim
theorem m_join : MtR X "str.join" (rUpM X.K mJoin) := mt_imp mt_join fun x vs H Q ⟨d, ds, g, Qd, rv, rl, rg, r, cl⟩ => by
  unfold mJoin at r
  split at r
  · obtain ⟨w, rfl, rw'⟩ := rl1 rl
    obtain ⟨hc, rfl⟩ := rw'
    split at r
    · rename_i xs e
      split at r
      · rename_i ys e2
        obtain ⟨us, hh, l⟩ := rg.lst hc e
        have := strsD_rep l e2
        subst this
        exact ⟨_, _, ys, rv, rfl, .inl (.of hh), r.1, cl _ _ _ _ r.2 (.refl _) rg rfl⟩
      · exact r.elim
    · exact r.elim
  · exact r.elim
end
end PP
namespace PP
open PySem PySem.Spec PyProof.Rows L2
section
variable {X : Cx} {C : Ex → Addr} {W : WX} {e : Expr} {pos p p1 p2 : Pos} {te : DTE}
theorem d_isi1 {t : Ty} {x : Str} (hg : Gl X "isinstance") (hm : X.mg "isinstance" = none) (h : PE X e (up X.K C W te)) (hg2 : Gl X x) (hm2 : X.mg x = none) (hv : bootBuiltins x = some (.type t.nm)) (hn : x ≠ "__name__") (hdb : (x == ("__debug__" : Str)) = false)
    (hs : starEach [e, .Name x p1] X.env = (false, eval e X.env) :: starEach [.Name x p1] X.env) (hpl : (backTo pos (starEach [.Name x p1] X.env)).any (·.1) = false) :
    PE X (.Call (.Name "isinstance" p) [e, .Name x p1] [] pos) (up X.K C W (dUn (dIsi [t]) te)) := by
  refine pe_imp (pe_callB call_isi hg hm (by decide +kernel) (pa_cons h (pa_cons (pe_bltn (v := .ty t.nm) hg2 hm2 hv rfl hn hdb) pa_nil rfl) hs) (by decide) (by decide) hs hpl) fun σ H Q ⟨env, g, Xd, Qd, re, rg, q, cl, cx⟩ => ?_
  refine ⟨env, g, Xd, _, re, rg, q, fun d g1 v H1 q1 k r rv => ?_, cx⟩
  have q1 : dIsi [t] d g1 Qd := q1
  refine ⟨v, .ty t.nm, tyV' d, .type t.nm, isTy t d, rfl, .ty _, tyx_of r rv q1.1, kit_all t d X.K, ?_⟩
  have := q1.2
  simp only [List.any_cons, List.any_nil, Bool.or_false] at this
  exact cl _ _ _ _ this k r rfl
theorem cls_all (ts : List Ty) : Paired ClsV (ts.map fun t => V.ty t.nm) (ts.map fun t => Value.type t.nm) := by
  induction ts with
  | nil => exact .nil
  | cons t ts ih => exact .cons (.ty _) ih
def tTys : List Ty → TA
  | [] => tNil
  | t :: ts => tCons (tC (.ty t.nm)) (tTys ts)
theorem tTys_run {σ : List (Option V)} {H : Hp} {Q : List V → Hp → Prop} : ∀ {ts : List Ty}, Q (ts.map fun t => V.ty t.nm) H → tTys ts σ H Q
  | [], h => h
  | t :: ts, h => by
    show tTys ts σ H fun xs H2 => Q (V.ty t.nm :: xs) H2
    exact tTys_run (ts := ts) h
theorem d_isiT {ts : List Ty} {es : List Expr} {k : Nat} {tp : Pos} (hg : Gl X "isinstance") (hm : X.mg "isinstance" = none) (h : PE X e (up X.K C W te)) (hts : PA X es (tTys ts)) (hl : ts.length ≤ sizeLine)
    (hs : starEach [e, .Tuple es k tp] X.env = (false, eval e X.env) :: starEach [.Tuple es k tp] X.env) (hpl : (backTo pos (starEach [.Tuple es k tp] X.env)).any (·.1) = false) :
    PE X (.Call (.Name "isinstance" p) [e, .Tuple es k tp] [] pos) (up X.K C W (dUn (dIsi ts) te)) := by
  refine pe_imp (pe_callB call_isiT hg hm (by decide +kernel) (pa_cons h (pa_cons (pe_tup hts) pa_nil rfl) hs) (by decide) (by decide) hs hpl) fun σ H Q ⟨env, g, Xd, Qd, re, rg, q, cl, cx⟩ => ?_
  refine ⟨env, g, Xd, _, re, rg, q, fun d g1 v H1 q1 k r rv => ?_, cx⟩
  have q1 : dIsi ts d g1 Qd := q1
  refine tTys_run ⟨by simpa using hl, fun o ho => ?_⟩
  refine ⟨v, o, _, tyV' d, _, ts.any fun t => isTy t d, rfl, upd_same, cls_all ts, tyx_of (r.tup ho) (rv.keep (.new ho)) q1.1, kit_any X.K d ts, ?_⟩
  exact cl _ _ _ _ q1.2 (k.trans (.new ho)) (r.tup ho) rfl
structure ExAt (X : Cx) (C : Ex → Addr) (n : Ex) : Prop where
  mg : X.mg n.nm = some (.ref (C n))
  keep : PySem.W.keepIn X.K (.ref (C n)) = true
  own : ∃ bm, ExcBaseFacts "ValueError" "ValueError.__new__" "ValueError.__init__" bm ∧ PySem.W.excIn X.K (C n) bm "ValueError.__new__" = true
  raises : Raises X (.ref (C n))
def dRaise (n : Ex) : DTS := fun E env g => E.ex n env g
theorem s_raise {n : Ex} {m : Str} {j : Nat} {p3 : Pos} (hc : X.calm = true) (tk : L2N.Takes X W) (F : ExAt X C n) (hg : Gl X n.nm) (hdb : (Str.ofString n.nm == ("__debug__" : Str)) = false) : PS X (.Raise (some (.Call (.Name n.nm p) [.Constant (.str m) j p2] [] p3)) none pos) (upS X.K C W (dRaise n)) := by
  obtain ⟨bm, hF, hq⟩ := F.own
  exact ps_imp (L2N.ps_raise hc tk (L2N.pmk_own hF hq F.mg F.keep F.raises hg hdb)) fun D σ H ⟨env, g, E, re, rg, q, cn, cr, cx⟩ => cx _ _ _ _ _ q (.refl _) re rg
end
end PP
namespace PP
open PySem PySem.Spec PyProof.Rows L2
abbrev enO (it : Addr) : Obj := { cls := .type "enumerate", data := .fields #[.none, .bool false, .ref it, rawInt 0, .none, .none] }
set_option maxHeartbeats 1000000 in
theorem en_new {v : Value} {o : Obj} {P : Heap → Prop} (B : Begins v o P) : Meets (Builtin.«enumerate.__new__» ⟨[.type "enumerate", v], []⟩) (fun _ R s => P s.heap ∧ R (.ok (.ret (.ref (s.heap.push o).objs.size))) { s with heap := (s.heap.push o).push (enO s.heap.objs.size) }) :=
  .of_wp fun pr ww AA R s ⟨h1, h⟩ => by
    obtain ⟨hp, g, d, tk, os⟩ := s
    have hsub := sub_enumerate
    have q1 : ∀ {A' : Around} {E Q : Value → Shared → Prop}, Q (.ref hp.objs.size) ⟨hp.push o, g, d, tk, os⟩ → wpAny (model pr ww) A' (pyIter v) Q E ⟨hp, g, d, tk, os⟩ := fun q => B.iter pr ww _ _ ⟨hp, g, d, tk, os⟩ _ h1 q
    wp_walk using q1
    refine wpAny_stack_any (fun st => wpAny_pure ?_)
    split
    · rename_i c _ _ _ _ _
      cases (c == Value.type "enumerate") <;> (wp_walk using q1; exact ⟨_, rfl, h⟩)
    · wp_walk using q1
      exact ⟨_, rfl, h⟩
theorem en_call {prog : Program} {w : World} {A : Around} {E : Value → Shared → Prop} {s : Shared} {v : Value} {o : Obj} {P : Heap → Prop} {Q : Value → Shared → Prop} (B : Begins v o P) (h1 : P s.heap)
    (h : ∀ h', IsEnum h' (s.heap.objs.size + 1) s.heap.objs.size 0 .none → h'.get? s.heap.objs.size = some o → (∀ b u, s.heap.get? b = some u → h'.get? b = some u) → Q (.ref (s.heap.objs.size + 1)) { s with heap := h' }) :
    wpAny (model prog w) A (call (.type "enumerate") [v]) Q E s := by
  refine callType_new F.called_enumerate (by decide) (F.typeCall_enumerate_1 _) (F.newCall_enumerate_1 _) (fun obj => F.args_object_init_2 obj _) F.entry_enumerate_new (en_new B) ⟨h1, ?_⟩
  have hz : (s.heap.push o).objs.size = s.heap.objs.size + 1 := Heap.size_push ..
  show _ ∧ _
  rw [hz]
  have he : IsEnum ((s.heap.push o).push (enO s.heap.objs.size)) (s.heap.objs.size + 1) s.heap.objs.size 0 .none := by
    have q := Heap.get?_push_size (s.heap.push o) (o := enO s.heap.objs.size) rfl
    rw [hz] at q
    exact q
  exact ⟨⟨_, he, rfl⟩, h _ he (Heap.get?_push_of_some _ (Heap.get?_push_size _ B.free)) fun b u x => Heap.get?_push_of_some _ (Heap.get?_push_of_some _ x)⟩
def IteT (K : PySem.W.Frag) (a : Addr) : It :=
  ⟨fun i H => ∃ (xs : List V) (x : V), SqT K H a xs ∧ xs[i]? = some x, fun i H v H' => ∃ T x, v = .ref T ∧ H T = none ∧ H' = upd H T (.tup [.int (i : Nat), x]) ∧ ∀ xs, SqT K H a xs → xs[i]? = some x, fun i H => ∃ xs : List V, SqT K H a xs ∧ xs.length = i⟩
theorem turn_enumT {P : Program} {w : World} {K : PySem.W.Frag} {elts : List Expr} {kk : Nat} {tpos : Pos} (a e it : Addr) (hai : a < it) (hae : a < e) :
    Turn P w K (.Tuple elts kk tpos) (IteT K a) [e, it] e (fun i h => (∃ old, IsEnum h e it ((i : Nat) : Int) old) ∧ h.IsTupleIter it a i ∧ e ≠ it) where
  mem := by simp
  obj := fun i h st b hb => by
    obtain ⟨⟨old, he⟩, ⟨o, ho, hc, hd⟩, _⟩ := st
    rcases (by simpa using hb : b = e ∨ b = it) with rfl | rfl
    · exact ⟨_, he, fun v q => nomatch q⟩
    · exact ⟨o, ho, fun v q => by rw [hd] at q; cases q⟩
  keep := fun i h h' st k => let ⟨⟨old, he⟩, hi, hne⟩ := st; ⟨⟨old, k e (by simp) _ he⟩, hi.at fun o q => k it (by simp) o q, hne⟩
  item := by
    intro X hP hw hK hc i pins s σ H E I hf st hg
    subst hP hw hK
    obtain ⟨⟨old, he⟩, hit, hne⟩ := st
    obtain ⟨xs, x, hq, hx⟩ := hg
    obtain ⟨its, rv, p, hz⟩ := I.tuple hq
    obtain ⟨u, hu, ru⟩ := rv.get hx
    have hel : e < s.heap.objs.size := Heap.lt_size he
    have hil : it < s.heap.objs.size := by obtain ⟨_, q, _⟩ := hit; exact Heap.lt_size q
    have D := Draws.tuple (prog := X.prog) (w := X.w) (A := X.A.in1) (I.ok.hd hc) it a (Nat.ne_of_lt hai) its.toArray
    have hlt : i < its.toArray.size := by
      rw [List.size_toArray]
      exact (List.getElem?_eq_some_iff.mp hu).1
    refine wpAny_pyNext_enum_itemD D he ⟨hit, p⟩ hlt hne ?_ fun x' h' tk hx' ho st' hT hsz hk => ?_
    · intro hm
      rcases (by simpa using hm : e = it ∨ e = a) with z | z
      · exact hne z
      · exact absurd z (Nat.ne_of_gt hae)
    have ex : x' = u := by
      have z : its[i]? = some x' := by simpa using hx'
      rw [hu] at z
      exact (Option.some.inj z).symm
    subst ex
    refine ⟨_, rfl, wpAny_letOwnedTupleGo_enum (s := { s with heap := h', toks := tk + 1 }) ho fun h'' he' sb => ?_⟩
    have hT2 : h''.get? s.heap.objs.size = some { cls := .type "tuple", data := .seq #[.int i tk, x'] } := (sb.2 _ (Nat.ne_of_gt hel)).trans hT
    have new : ObjOk X.prog X.w (upd H s.heap.objs.size (.tup [.int (i : Nat), x])) h'' s.heap.objs.size (.tup [.int (i : Nat), x]) :=
      ⟨by show 2 ≤ sizeLine; decide, [.int i tk, x'], .cons ⟨_, rfl⟩ (.cons ru .nil), ⟨_, hT2, rfl, _, rfl⟩⟩
    have I1 : Inv X pins σ (upd H s.heap.objs.size (.tup [.int (i : Nat), x])) { s with heap := h'', toks := tk + 1 } :=
      I.turnedNew (ch := [e, it]) (fun b ob hb q => (sb.2 b (fun z => hb (by simp [z]))).trans (hk b ob (fun z => hb (by simp [z])) (fun z => hb (by simp [z])) q)) hf (Nat.le_refl _) new
    refine ⟨.ref s.heap.objs.size, _, I1, rfl, ⟨_, x, rfl, I.hok.fresh (Nat.le_refl _), rfl, fun ys hy => by rw [I.tuple_inj hy hq]; exact hx⟩, ⟨⟨x', ?_⟩, st'.1.at fun o q => (sb.2 it (Ne.symm hne)).trans q, hne⟩, fun b hb => ?_⟩
    · have e1 : ((i + 1 : Nat) : Int) = (i : Int) + 1 := by omega
      rw [e1]
      exact he'
    · have hb' : b < s.heap.objs.size := by
        rcases (by simpa using hb : b = e ∨ b = it) with rfl | rfl
        · exact hel
        · exact hil
      rw [upd_ne (Nat.ne_of_lt hb')]
      exact (hf b hb).1
  done := by
    intro X hP hw hK hc i pins s σ H E I hf st hg
    subst hP hw hK
    obtain ⟨⟨old, he⟩, hit, hne⟩ := st
    obtain ⟨xs, hq, hx⟩ := hg
    obtain ⟨its, rv, p, hz⟩ := I.tuple hq
    obtain ⟨f0, f1, f2, f3, f4, f5⟩ := hf it (by simp)
    have hl := rv.length
    have D := Draws.tuple (prog := X.prog) (w := X.w) (A := X.A.in1) (I.ok.hd hc) it a (Nat.ne_of_lt hai) its.toArray
    have hsz : its.toArray.size = i := by rw [List.size_toArray]; omega
    rw [hsz] at D
    exact wpAny_pyNext_enum_endD D he ⟨hit, p⟩ fun h' eb => ⟨rfl, I.turned (t' := s.toks) (fun b o hb q => eb b o hb q) f0 f1 f3 f4 f5⟩
  self := fun A i s Q E st h => let ⟨⟨_, he⟩, _⟩ := st; wpAny_pyIter_enum he h
def iEnumA (K : PySem.W.Frag) (ta : TE) : TI := fun σ H R => ta σ H fun v H1 => (∃ a xs, v = .ref a ∧ SqL K H1 a xs ∧ R (Ite K a) H1) ∨ ∃ a xs, v = .ref a ∧ SqT K H1 a xs ∧ R (IteT K a) H1
section
variable {X : Cx} {C : Ex → Addr} {W : WX} {e : Expr} {pos p tpos : Pos} {elts : List Expr} {kk : Nat} {te : DTE}
theorem pi_enumA {ta : TE} (hg : Gl X "enumerate") (hm : X.mg "enumerate" = none) (ha : PE X e ta) (hs : starEach [e] X.env = [(false, eval e X.env)]) : PI X (.Tuple elts kk tpos) (.Call (.Name "enumerate" p) [e] [] pos) (iEnumA X.K ta) := by
  refine ⟨fun pins s σ H R I h => ?_⟩
  have hA : PA X [e] (tCons ta tNil) := pa_cons ha pa_nil hs
  refine Call_ (ld_blt I hg hm boot_enumerate (PyProof.Rows.callWith_type1 (thn (hA.run pos pins s σ H (fun vs H1 => ∃ v, vs = [v] ∧ ((∃ a xs, v = .ref a ∧ SqL X.K H1 a xs ∧ R (Ite X.K a) H1) ∨ ∃ a xs, v = .ref a ∧ SqT X.K H1 a xs ∧ R (IteT X.K a) H1)) I ?_) fun us s1 ⟨vs, H1, I1, r1, v, ev, q1⟩ => ?_) hs rfl))
  · refine pe_enumK ha h
  · subst ev
    cases r1 with
    | cons r rr =>
      cases rr
      have fin : ∀ {a : Addr} {o : Obj} {J : It} {tn : Nat → Heap → Prop} {PP : Heap → Prop} {u : Value}, Begins u o PP → PP s1.heap → R J H1 → Turn X.prog X.w X.K (.Tuple elts kk tpos) J [s1.heap.objs.size + 1, s1.heap.objs.size] (s1.heap.objs.size + 1) tn →
          (∀ h', IsEnum h' (s1.heap.objs.size + 1) s1.heap.objs.size 0 .none → h'.get? s1.heap.objs.size = some o → tn 0 h') → wpAny (model X.prog X.w) X.A (call (.type "enumerate") [u]) (fun v s2 => wpAny (model X.prog X.w) X.A (pyIter v) (PIE X pins σ (.Tuple elts kk tpos) R) X.xe s2) X.xe s1 := by
        intro a o J tn PP u B h1 q T hst
        refine en_call B h1 fun h' he hit hk => wpAny_pyIter_enum he ?_
        have I2 : Inv X pins σ H1 { s1 with heap := h' } := I1.kept (t' := s1.toks) hk
        refine ⟨s1.heap.objs.size + 1, [s1.heap.objs.size + 1, s1.heap.objs.size], _, _, H1, rfl, I2, T, hst h' he hit, fun b hb => ?_, q⟩
        have hle : s1.heap.objs.size ≤ b := by
          rcases (by simpa using hb : b = s1.heap.objs.size + 1 ∨ b = s1.heap.objs.size) with rfl | rfl
          · exact Nat.le_add_right _ _
          · exact Nat.le_refl _
        exact I1.fpOk hle (I1.hok.fresh hle)
      rcases q1 with ⟨a, xs, ex, hq, q⟩ | ⟨a, xs, ex, hq, q⟩
      · subst ex
        cases r
        obtain ⟨its, rv, pl, hz⟩ := I1.list hq
        exact fin (a := a) (begins_list a its.toArray) pl.isList q (turn_enum a _ _) fun h' he hit => ⟨⟨_, he⟩, ⟨_, hit, rfl, rfl⟩, Nat.succ_ne_self _⟩
      · subst ex
        cases r
        obtain ⟨its, rv, pl, hz⟩ := I1.tuple hq
        have hlt : a < s1.heap.objs.size := pl.lt
        exact fin (a := a) (begins_tuple a its.toArray) pl q (turn_enumT a _ _ hlt (Nat.lt_succ_of_lt hlt)) fun h' he hit => ⟨⟨_, he⟩, ⟨_, hit, rfl, rfl⟩, Nat.succ_ne_self _⟩
where
  pe_enumK {ta : TE} {σ : L2.St} {H : Hp} {R : It → Hp → Prop} (ha : PE X e ta) (h : iEnumA X.K ta σ H R) : tCons ta tNil σ H (fun vs H1 => ∃ v, vs = [v] ∧ ((∃ a xs, v = .ref a ∧ SqL X.K H1 a xs ∧ R (Ite X.K a) H1) ∨ ∃ a xs, v = .ref a ∧ SqT X.K H1 a xs ∧ R (IteT X.K a) H1)) := by
    have e : (fun (x : V) (H1 : Hp) => ∃ v, x :: [] = [v] ∧ ((∃ a xs, v = .ref a ∧ SqL X.K H1 a xs ∧ R (Ite X.K a) H1) ∨ ∃ a xs, v = .ref a ∧ SqT X.K H1 a xs ∧ R (IteT X.K a) H1)) =
        fun (v : V) (H1 : Hp) => ((∃ a xs, v = .ref a ∧ SqL X.K H1 a xs ∧ R (Ite X.K a) H1) ∨ ∃ a xs, v = .ref a ∧ SqT X.K H1 a xs ∧ R (IteT X.K a) H1) := by
      funext x H1
      apply propext
      constructor
      · rintro ⟨v, e, q⟩
        cases e
        exact q
      · intro q
        exact ⟨x, rfl, q⟩
    have h2 : ta σ H (fun (x : V) (H1 : Hp) => ∃ v, x :: [] = [v] ∧ ((∃ a xs, v = .ref a ∧ SqL X.K H1 a xs ∧ R (Ite X.K a) H1) ∨ ∃ a xs, v = .ref a ∧ SqT X.K H1 a xs ∧ R (IteT X.K a) H1)) := by
      rw [e]
      exact h
    exact h2
def enumD (xs : List D) : List D := xs.mapIdx fun i x => D.tup [.int (i : Nat), x]
theorem ite_ok {K : PySem.W.Frag} {H0 : Hp} {a : Addr} {xs : List D} (hc : a % 2 = 0) : ItOk K (Ite K (a / 2)) H0 (enumD xs) (fun g => g a = some xs) where
  go := fun i g H hi k r st => by
    obtain ⟨vs, h, l⟩ := r.lst hc st
    have hv : i < vs.length := by rw [l.length]; simpa [enumD] using hi
    exact ⟨vs, vs[i], .of h, by simp [hv]⟩
  yld := fun i g H x H' hi k r st y => by
    obtain ⟨vs, h, l⟩ := r.lst hc st
    obtain ⟨T, u, ex, hT, eH, y⟩ := y
    obtain ⟨d, e1, rd⟩ := l.getv (y vs (.of h))
    subst ex eH
    exact ⟨.tup [.int (i : Nat), d], by simp [enumD, e1], ⟨T, [.int (i : Nat), u], rfl, .inl upd_same, ⟨_, [u], rfl, rfl, ⟨u, [], rfl, rd.keep (.new hT), rfl⟩⟩⟩, .new hT, r.tup hT⟩
  stop := fun i g H hi hi2 k r st => by
    obtain ⟨vs, h, l⟩ := r.lst hc st
    exact ⟨vs, .of h, by rw [l.length]; simpa [enumD] using hi⟩
theorem iteT_ok {K : PySem.W.Frag} {H0 : Hp} {a : Addr} {xs : List D} {vs : List V} (t : TupP K H0 a vs) (l : RepL K H0 xs vs) : ItOk K (IteT K a) H0 (enumD xs) (fun _ => True) where
  go := fun i g H hi k r st => by
    have hv : i < vs.length := by rw [l.length]; simpa [enumD] using hi
    exact ⟨vs, vs[i], (t.keep k).sq, by simp [hv]⟩
  yld := fun i g H x H' hi k r st y => by
    obtain ⟨T, u, ex, hT, eH, y⟩ := y
    obtain ⟨d, e1, rd⟩ := l.getv (y vs (t.keep k).sq)
    subst ex eH
    have k' := k.trans (TK.new (o := .tup [.int (i : Nat), u]) hT)
    exact ⟨.tup [.int (i : Nat), d], by simp [enumD, e1], ⟨T, [.int (i : Nat), u], rfl, .inl upd_same, ⟨_, [u], rfl, rfl, ⟨u, [], rfl, rd.keep k', rfl⟩⟩⟩, .new hT, r.tup hT⟩
  stop := fun i g H hi hi2 k r st => by
    refine ⟨vs, (t.keep k).sq, ?_⟩
    rw [l.length]
    simp [enumD] at hi hi2
    omega
def dEnum : D → G → (List D → (G → Prop) → G → Prop) → Prop
  | .ref a => fun g R => match g a with | some xs => R (enumD xs) (fun g' => g' a = some xs) g | none => False
  | .tup xs => fun g R => R (enumD xs) (fun _ => True) g
  | _ => fun _ _ => False
theorem d_enum (hg : Gl X "enumerate") (hm : X.mg "enumerate" = none) (ha : PE X e (up X.K C W te)) (hs : starEach [e] X.env = [(false, eval e X.env)]) : PI X (.Tuple elts kk tpos) (.Call (.Name "enumerate" p) [e] [] pos) (upI X.K C W (dI1 dEnum te)) := by
  refine pi_imp (pi_enumA hg hm ha hs) fun σ H R ⟨env, g, Xd, Rd, re, rg, t, cl, cx⟩ => ?_
  refine ⟨env, g, Xd, _, re, rg, t, fun d g1 v H1 q k r rv => ?_, cx⟩
  dsimp only at q
  unfold dEnum at q
  split at q
  · split at q
    · rename_i xs e
      obtain ⟨hc, rv⟩ := rv
      obtain ⟨vs, hh, l⟩ := r.lst hc e
      exact .inl ⟨_, vs, rv, .of hh, cl _ _ _ _ _ q k r (ite_ok hc)⟩
    · exact q.elim
  · obtain ⟨a, vs, e, t, l⟩ := rv
    exact .inr ⟨a, vs, e, t.sq, cl _ _ _ _ _ q k r (iteT_ok t l)⟩
  · exact q.elim
end
end PP
namespace PP
open PySem PySem.Spec PyProof.Rows L2
section
variable {X : Cx} {pins : List (Addr × Obj)} {σ : L2.St} {H : Hp} {s : Shared} {a : Addr}
theorem inv_freeze (I : Inv X pins σ H s) {oe : Obj} {vs : Array Value} (ha : s.heap.get? a = some oe) (hd : oe.data = .fields vs) (na : H a = none) (nL : a ≠ X.env.locals)
    (n0 : ∀ b o, X.s_0.heap.get? b = some o → b ≠ a) (np : ∀ p ∈ X.pn ++ pins, p.1 ≠ a) : Inv X pins σ (upd H a (.frz oe excU)) s := by
  have ot : ∀ b u, H b = some u → b ≠ a := fun b u e => ne_of_none e na
  refine ⟨I.ok, I.os, I.bare, ⟨I.base.keep, I.base.slot, fun b o e n hx => ?_, I.base.there, fun b xs e => ?_, fun b o u e => ?_, fun b ps e => ?_⟩, I.loc, I.cell, ?_, fun x c e => ?_, fun p hp => ?_, fun b ob e => ?_, I.len⟩
  · rw [upd_ne (n0 b o e)]; exact I.base.free b o e n hx
  · have z := I.base.tups b xs e
    rw [upd_ne (ot _ _ z)]; exact z
  · have z := I.base.frzs b o u e
    rw [upd_ne (ot _ _ z)]; exact z
  · obtain ⟨m, z⟩ := I.base.tbls b ps e
    exact ⟨m, by rw [upd_ne (ot _ _ z)]; exact z⟩
  · rw [upd_ne (Ne.symm nL)]; exact I.free
  · rw [upd_ne]
    · exact I.freeC x c e
    · intro z
      subst z
      obtain ⟨v, o, h1, h2⟩ := I.cell x c e
      rw [ha] at h1
      cases h1
      rw [hd] at h2
      cases h2
  · obtain ⟨h1, h2, h3, h4, h5⟩ := I.pin p hp
    exact ⟨h1, by rw [upd_ne (np p hp)]; exact h2, h3, h4, h5⟩
  · by_cases hb : b = a
    · subst hb
      rw [upd_same] at e
      cases e
      exact ⟨ha, trivial, ⟨_, ha⟩, fun _ _ _ _ => trivial⟩
    · rw [upd_ne hb] at e
      exact (I.hok b ob e).stay (fun _ _ _ q => q) (fun c q => by rw [upd_ne (ot _ _ q)]; exact q) fun c xs q => by rw [upd_ne (ot _ _ q)]; exact q
theorem inv_suite (I : Inv X pins σ H s) : Inv (X.suite a (X.pn ++ pins)) [] σ H s :=
  ⟨I.ok.suite _ _, I.os, I.bare, I.base, I.loc, I.cell, I.free, I.freeC, fun p hp => I.pin p (by rw [List.append_nil] at hp; exact hp), I.hok, I.len⟩
theorem inv_unsuite {pn' : List (Addr × Obj)} (I : Inv (X.suite a (X.pn ++ pins)) pn' σ H s) (ok : X.Ok) : Inv X pins σ H s :=
  ⟨ok, I.os, I.bare, I.base, I.loc, I.cell, I.free, I.freeC, fun p hp => I.pin p (List.mem_append_left _ hp), I.hok, I.len⟩
end
def wFz (K : PySem.W.Frag) (c : Value) (i : Nat) (ts : Addr → TS) (Wout : WX) (D : Ends) : WX := fun cls d σ H =>
  ∃ b, PySem.W.exmOne K cls c = some b ∧ (b = true → ∀ a oe, H a = none → oe.cls = cls → oe.dict = d → (∃ vs, oe.data = .fields vs ∧ vs[2]? = some .none) →
      ts a { nx := fun σ' H' => D.nx (σ'.set i none) H', rt := D.rt, bk := fun σ' H' => D.bk (σ'.set i none) H', ct := fun σ' H' => D.ct (σ'.set i none) H' } (σ.set i (some (.ref a))) (upd H a (.frz oe excU))) ∧
    (b = false → Wout cls d σ H)
section
variable {X : Cx} {x n : Str} {c : Value} {i : Nat} {body suite : List Stmt} {b₀ : Stmt} {np pos pos' : Pos} {tb : WX → TS} {ts : Addr → TS} {Wout : WX}
theorem ps_try_fz (hs : X.stack = X.env :: X.outer) (hf : X.env.frame = some X.env.locals) (hex : X.ex = []) (hN : X.N.Nodup) (hi : X.N[i]? = some n) (hln : X.env.kindOf n = some .local) (hc : Names X x c) (tk : L2N.Takes X Wout)
    (hb : ∀ (W : WX) (pn : List (Addr × Obj)) (xe : Value → Shared → Prop), L2N.Takes (X.tr pn xe) W → PassesOwn (model X.prog X.w) X.A X.env xe → PSs (X.tr pn xe) body (tb W))
    (hsu : ∀ (a : Addr) (pn : List (Addr × Obj)), PSs (X.suite a pn) (b₀ :: suite) (ts a)) :
    PS X (.Try body [.ExceptHandler (some (.Name x np)) (some n) (b₀ :: suite) pos'] [] [] pos) (fun D σ H => tb (wFz X.K c i ts Wout D) D σ H) := by
  refine ⟨fun pins s σ H D I h => ?_⟩
  have ok := I.ok
  have hfr : X.A.frames = some (X.env :: X.outer) := by rw [ok.frames, hs]
  have hloc : Loc X.env.scope n := .inl hln
  refine wpAny_Try_except ?_
  refine wpAny_mono ((hb (wFz X.K c i ts Wout D) (X.pn ++ pins) (fun e s₁ => wpAny (model X.prog X.w) X.A (noteFrame e X.env) (fun _ s₂ => wpAny (model X.prog X.w) X.A (setFlight e none) (fun _ s₃ =>
    wpAny (model X.prog X.w) X.A (handleBy e X.env [.ExceptHandler (some (.Name x np)) (some n) (b₀ :: suite) pos']) (SP X pins D) X.xe s₃) X.xe s₂) X.xe s₁) (fun u s' xx => ?_) PassesOwn.looking).run [] s σ H D (I.toTry _) h) (fun f s1 hsp => ?_) (fun e s1 he => he)
  · obtain ⟨a, B, sI, pins', σ', H', cls, d, rfl, J', nb, up, sky, na, os, ag, b, hb1, hyes, hno⟩ := xx
    have J : Inv X pins σ' H' sI := J'.ofTry ok
    have sky' : Sky B (X.env :: X.outer) a (L2N.Zn cls d) X.env.locals s'.heap := by rw [← hs]; exact sky
    show wpAny (model X.prog X.w) X.A (noteFrame (.ref a) X.env) _ _ _
    refine L2N.Sky.land L2N.Zn.steady hfr hf sky' fun h3 fl3 up3 => ?_
    have J3 : Inv X pins σ' H' { s' with heap := h3 } := J.landed nb fl3.1 (up.trans up3) os ag
    obtain ⟨oe3, vs3, he3, hz3, hd3⟩ := fl3.there
    have notFr : ∀ {h : Heap} {o : Obj} {vs : Array Value}, h.FunFrames B (X.env :: X.outer) → h.get? a = some o → o.data = .fields vs → a ∉ frs (X.env :: X.outer) := fun {h o vs} ff e dd hm => by
      obtain ⟨_, o', e', hnf⟩ := ff.mem hm
      rw [e] at e'; cases e'
      exact hnf _ dd
    have nfr := notFr fl3.2.2.1 he3 hd3
    have nL : a ≠ X.env.locals := fun z => nfr (List.mem_filterMap.mpr ⟨X.env, List.mem_cons_self, by rw [hf, z]⟩)
    have nB : ∀ b o, sI.heap.get? b = some o → b ≠ a := fun b o e z => by
      subst z
      have q := nb b o e (by rw [show X.stack = X.env :: X.outer from hs]; exact nfr)
      rw [fl3.2.1] at q
      cases q
    have n0 : ∀ b o, X.s_0.heap.get? b = some o → b ≠ a := fun b o e => by
      obtain ⟨o', q⟩ := J.base.there b o e (by rw [hex]; simp)
      exact nB b o' q
    have np' : ∀ p ∈ X.pn ++ pins, p.1 ≠ a := fun p hp => nB _ _ (J.pin p hp).1
    have S3 : Inv (X.suite a (X.pn ++ pins)) [] σ' H' { s' with heap := h3 } := inv_suite J3
    refine wpAny_handleBy_cons (codeAny_handlers_test ?_) (by intro q; cases q)
    have LT : PySem.W.Looks (model X.prog X.w) h3 (typeOf (.ref a)) cls := fun A Q E s k q => wpAny_typeOf_ref (k _ _ he3) (by rw [hz3.1]; exact q)
    have LM := PySem.W.exm_one (M := model X.prog X.w) (J3.kIn) LT hb1
    have test : ∀ {Q : Value → Shared → Prop} {E : Value → Shared → Prop}, Q c { s' with heap := h3 } → wpAny (model X.prog X.w) (X.A.mark (some (.ref a))) (eval (.Name x np) X.env) Q E { s' with heap := h3 } := fun {Q E} q => by
      obtain ⟨hg, hdbg, hm | ⟨hm, hv, hnn⟩⟩ := hc
      · exact ld_glob (X := X.suite a (X.pn ++ pins)) S3 hg hm q hdbg
      · exact ld_blt (X := X.suite a (X.pn ++ pins)) S3 hg hm hv q hnn hdbg
    refine test (LM.here ?_)
    cases b with
    | true =>
      refine codeAny_handlers_suite_as ?_
      refine HandSPX.lands_againZ fl3 fun h4 fl4 up4 => ?_
      have J4 : Inv X pins σ' H' { s' with heap := h4 } := J.landed nb fl4.1 ((up.trans up3).trans up4) os ag
      obtain ⟨oe4, vs4, he4, hz4, hd4⟩ := fl4.there
      have S4 := inv_suite (a := a) (inv_freeze J4 he4 hd4 na nL n0 np')
      refine store_ok (X := X.suite a (X.pn ++ pins)) (v := .ref a) S4 hN hi hloc rfl (fun s5 S5 => ?_) (.inr hln)
      refine wpAny_mono ((hsu a (X.pn ++ pins)).run [] s5 _ _ _ S5 (hyes rfl a oe4 na hz4.1 hz4.2.1 ⟨_, hd4, hz4.2.2 vs4 hd4⟩)) (fun f s6 hsp => ?_) (fun _ _ z => False.elim z)
      have end_ : ∀ {σ6 : L2.St} {H6 : Hp} {Q : Shared → Prop}, Inv (X.suite a (X.pn ++ pins)) [] σ6 H6 s6 → (∀ s7, Inv X pins (σ6.set i none) H6 s7 → Q s7) →
          wpAny (model X.prog X.w) X.A (do bindName X.env n .none; unbindBehindTheSuite X.env n pos') (fun _ s7 => Q s7) X.xe s6 := fun {σ6 H6 Q} S6 hq => gone_ok (inv_unsuite S6 ok) hN hi hln hq
      cases f with
      | next =>
        obtain ⟨σ6, H6, S6, q6⟩ := hsp
        exact end_ S6 fun s7 J7 => ⟨_, _, J7, q6⟩
      | brk =>
        obtain ⟨σ6, H6, S6, q6⟩ := hsp
        exact end_ S6 fun s7 J7 => ⟨_, _, J7, q6⟩
      | cont =>
        obtain ⟨σ6, H6, S6, q6⟩ := hsp
        exact end_ S6 fun s7 J7 => ⟨_, _, J7, q6⟩
      | ret u =>
        obtain ⟨v6, σ6, H6, S6, r6, q6⟩ := hsp
        exact end_ S6 fun s7 J7 => ⟨_, _, _, J7, r6, q6⟩
    | false =>
      show wpAny _ X.A (handleBy (.ref a) X.env []) _ _ _
      refine wpAny_handleBy_nil ?_
      obtain ⟨k1, k2, k3, oe, vs, T, oT, ts', he, hz, hd, h1, hr⟩ := id fl3
      unfold PySem.passOn
      refine wpAny_bind (wpAny_field he hd h1 ?_)
      rw [if_neg (show ¬ ((Value.ref T == Value.none) = true) from by simp)]
      have fin : wpAny (model X.prog X.w) X.A (setFlight (.ref a) X.env.frame) (fun _ s4 => wpAny (model X.prog X.w) X.A (throw (.ref a) : Sem Flow) (SP X pins D) X.xe s4) X.xe { s' with heap := h3 } := by
        rw [hf]
        refine HandSPX.setFlight_upZ fl3 fun h4 hh4 up4 => wpAny_throw (tk _ _ ?_)
        exact ⟨a, B, sI, pins, σ', H', cls, d, rfl, J, nb, (up.trans up3).trans up4, .inr (.inr (by rw [hs]; exact hh4)), na, os, ag, hno rfl⟩
      first
        | exact wpAny_bind (wpAny_pure (wpAny_bind fin))
        | exact wpAny_bind fin
  · cases f with
    | next =>
      obtain ⟨σ', H', J', q⟩ := hsp
      exact wpAny_execs_nil ⟨σ', H', J'.ofTry ok, q⟩
    | brk =>
      obtain ⟨σ', H', J', q⟩ := hsp
      exact ⟨σ', H', J'.ofTry ok, q⟩
    | cont =>
      obtain ⟨σ', H', J', q⟩ := hsp
      exact ⟨σ', H', J'.ofTry ok, q⟩
    | ret u =>
      obtain ⟨v, σ', H', J', r, q⟩ := hsp
      exact ⟨v, σ', H', J'.ofTry ok, r, q⟩
end
def rIsF (K : PySem.W.Frag) : List V → Hp → VK → Prop := fun xs H Q => ∃ (a : Addr) (n : Ex) (c : V) (cv : Value) (b : Bool), xs = [.ref a, c] ∧ ExcP K H n a ∧ ClsV c cv ∧ (∀ c', ExNs K n c' → ExK K n c' → PySem.W.kitOne K (.ref c') cv = some b) ∧ Q (.bl b) H
def rIsFT (K : PySem.W.Frag) : List V → Hp → VK → Prop := fun xs H Q => ∃ (a tp : Addr) (n : Ex) (cs : List V) (us : List Value) (b : Bool), xs = [.ref a, .ref tp] ∧ H tp = some (.tup cs) ∧ ExcP K H n a ∧ Paired ClsV cs us ∧ (∀ c', ExNs K n c' → ExK K n c' → PySem.W.kitAny K (.ref c') us = some b) ∧ Q (.bl b) H
section
variable {X : Cx}
theorem inst_of {pins : List (Addr × Obj)} {σ : L2.St} {H : Hp} {s : Shared} {n : Ex} {a : Addr} (I : Inv X pins σ H s) (h : ExcP X.K H n a) : ∃ (o : Obj) (c : Addr), PySem.W.InstAt s.heap a o c none ∧ ExNs X.K n c ∧ ExK X.K n c := by
  obtain ⟨o, u, c, h1, h2, h3, ⟨vs, h4, _⟩, h5, h6⟩ := h
  obtain ⟨oc, od, oda, osl⟩ := o
  dsimp only at h2 h3 h4
  subst h2 h3 h4
  exact ⟨_, c, ⟨(I.hok a _ h1).1, rfl, rfl, trivial⟩, h5, h6⟩
theorem call_isF : CallR X (.builtin "isinstance") (rIsF X.K) := by
  intro pins s σ H xs us Q I r h
  obtain ⟨a, n, c, cv, b, rfl, e, k, kt, q⟩ := h
  obtain ⟨u1, u2, rfl, r1, r2⟩ := vals2 r
  cases (show u1 = Value.ref a from r1)
  have e2 := k.eq r2
  subst e2
  obtain ⟨o, c', J, ns, ck⟩ := inst_of I e
  have C := ck.exc
  exact PySem.W.kia_one (PySem.W.handS_kitx_exc C.hg C.hk C.hs C.hd C.ha C.hn C.ht C.hm) I.kIn J (kt c' ns ck) (fun z => nomatch z) fun tk => ⟨.bl b, H, I.tok tk, rfl, q⟩
theorem call_isFT : CallR X (.builtin "isinstance") (rIsFT X.K) := by
  intro pins s σ H xs us Q I r h
  obtain ⟨a, tp, n, cs, ws, b, rfl, hT, e, k, kt, q⟩ := h
  obtain ⟨u1, u2, rfl, r1, r2⟩ := vals2 r
  cases (show u1 = Value.ref a from r1)
  cases (show u2 = Value.ref tp from r2)
  obtain ⟨o', c', J, ns, ck⟩ := inst_of I e
  have C := ck.exc
  obtain ⟨_, its, rv, o, h1, h2, n, h3⟩ := (show ObjOk X.prog X.w H s.heap tp (.tup cs) from I.hok tp _ hT)
  have e3 := ClsV.all k rv
  subst e3
  obtain ⟨oc, od, dt, sl⟩ := o
  simp only at h2 h3
  subst h2 h3
  exact PySem.W.kia_tup (PySem.W.handS_kitx_exc C.hg C.hk C.hs C.hd C.ha C.hn C.ht C.hm) I.kIn J h1 (kt c' ns ck) (fun z => nomatch z) fun tk => ⟨.bl b, H, I.tok tk, rfl, q⟩
end
end PP
namespace PP
open PySem PySem.Spec PyProof.Rows L2
structure ExN (K : PySem.W.Frag) (mg : Str → Option Value) (C : Ex → Addr) (n : Ex) : Prop where
  mg : mg n.nm = some (.ref (C n))
  ns : ExNs K n (C n)
  k : ExK K n (C n)
def xnm : Option Ex → String
  | none => "ValueError"
  | some m => m.nm
def xsub (n : Ex) : Option Ex → Bool
  | none => true
  | some m => n.sub m
def vX (C : Ex → Addr) : Option Ex → V
  | none => .ty "ValueError"
  | some m => .ref (C m)
def uX (C : Ex → Addr) : Option Ex → Value
  | none => .type "ValueError"
  | some m => .ref (C m)
theorem cls_X (C : Ex → Addr) (t : Option Ex) : ClsV (vX C t) (uX C t) := by
  cases t with
  | none => exact .ty _
  | some m => exact .own _
theorem cls_Xs (C : Ex → Addr) : ∀ ts : List (Option Ex), Paired ClsV (ts.map (vX C)) (ts.map (uX C))
  | [] => .nil
  | t :: ts => .cons (cls_X C t) (cls_Xs C ts)
theorem kit_X {K : PySem.W.Frag} {C : Ex → Addr} {n : Ex} {c : Addr} (k : ExK K n c) {t : Option Ex} (h : ∀ m, t = some m → ExNs K m (C m)) : PySem.W.kitOne K (.ref c) (uX C t) = some (xsub n t) := by
  cases t with
  | none => exact k.val
  | some m => exact k.kit m _ (h m rfl)
theorem kit_Xs {K : PySem.W.Frag} {C : Ex → Addr} {n : Ex} {c : Addr} (k : ExK K n c) : ∀ {ts : List (Option Ex)}, (∀ t ∈ ts, ∀ m, t = some m → ExNs K m (C m)) → PySem.W.kitAny K (.ref c) (ts.map (uX C)) = some (ts.any (xsub n))
  | [], _ => rfl
  | t :: ts, h => by
    simp only [List.map_cons, List.any_cons]
    unfold PySem.W.kitAny
    rw [kit_X k (h t List.mem_cons_self)]
    cases xsub n t with
    | true => rfl
    | false => exact kit_Xs k fun u hu => h u (List.mem_cons_of_mem _ hu)
def dIsx (ts : List (Option Ex)) : D → G → QD → Prop := fun d g Q => match d with
  | .exc n => Q (.bl (ts.any (xsub n))) g
  | _ => False
def tXs (C : Ex → Addr) : List (Option Ex) → TA
  | [] => tNil
  | t :: ts => tCons (tC (vX C t)) (tXs C ts)
theorem tXs_run {C : Ex → Addr} {σ : List (Option V)} {H : Hp} {Q : List V → Hp → Prop} : ∀ {ts : List (Option Ex)}, Q (ts.map (vX C)) H → tXs C ts σ H Q
  | [], h => h
  | t :: ts, h => by
    show tXs C ts σ H fun xs H2 => Q (vX C t :: xs) H2
    exact tXs_run (ts := ts) h
section
variable {X : Cx} {C : Ex → Addr} {W : WX} {e : Expr} {pos p p1 p2 : Pos} {te : DTE}
theorem d_isx1 {t : Option Ex} {x : Str} (hg : Gl X "isinstance") (hm : X.mg "isinstance" = none) (h : PE X e (up X.K C W te)) (hx : PE X (.Name x p1) (tC (vX C t))) (ht : ∀ m, t = some m → ExNs X.K m (C m))
    (hs : starEach [e, .Name x p1] X.env = (false, eval e X.env) :: starEach [.Name x p1] X.env) (hpl : (backTo pos (starEach [.Name x p1] X.env)).any (·.1) = false) :
    PE X (.Call (.Name "isinstance" p) [e, .Name x p1] [] pos) (up X.K C W (dUn (dIsx [t]) te)) := by
  refine pe_imp (pe_callB call_isF hg hm (by decide +kernel) (pa_cons h (pa_cons hx pa_nil rfl) hs) (by decide) (by decide) hs hpl) fun σ H Q ⟨env, g, Xd, Qd, re, rg, q, cl, cx⟩ => ?_
  refine ⟨env, g, Xd, _, re, rg, q, fun d g1 v H1 q1 k r rv => ?_, cx⟩
  cases d with
  | exc n =>
    have q1 : Qd (.bl ([t].any (xsub n))) g1 := q1
    obtain ⟨a, rfl, hP⟩ := rv
    simp only [List.any_cons, List.any_nil, Bool.or_false] at q1
    exact ⟨a, n, vX C t, uX C t, xsub n t, rfl, hP, cls_X C t, fun c' _ kk => kit_X kk ht, cl _ _ _ _ q1 k r rfl⟩
  | _ => exact False.elim q1
theorem d_isxT {ts : List (Option Ex)} {es : List Expr} {k : Nat} {tp : Pos} (hg : Gl X "isinstance") (hm : X.mg "isinstance" = none) (h : PE X e (up X.K C W te)) (hts : PA X es (tXs C ts)) (ht : ∀ t ∈ ts, ∀ m, t = some m → ExNs X.K m (C m)) (hl : ts.length ≤ sizeLine)
    (hs : starEach [e, .Tuple es k tp] X.env = (false, eval e X.env) :: starEach [.Tuple es k tp] X.env) (hpl : (backTo pos (starEach [.Tuple es k tp] X.env)).any (·.1) = false) :
    PE X (.Call (.Name "isinstance" p) [e, .Tuple es k tp] [] pos) (up X.K C W (dUn (dIsx ts) te)) := by
  refine pe_imp (pe_callB call_isFT hg hm (by decide +kernel) (pa_cons h (pa_cons (pe_tup hts) pa_nil rfl) hs) (by decide) (by decide) hs hpl) fun σ H Q ⟨env, g, Xd, Qd, re, rg, q, cl, cx⟩ => ?_
  refine ⟨env, g, Xd, _, re, rg, q, fun d g1 v H1 q1 k r rv => ?_, cx⟩
  cases d with
  | exc n =>
    have q1 : Qd (.bl (ts.any (xsub n))) g1 := q1
    obtain ⟨a, rfl, hP⟩ := rv
    refine tXs_run ⟨by simpa using hl, fun o ho => ?_⟩
    exact ⟨a, o, n, _, _, ts.any (xsub n), rfl, upd_same, hP.keep (.new ho), cls_Xs C ts, fun c' _ kk => kit_Xs kk ht, cl _ _ _ _ q1 (k.trans (.new ho)) (r.tup ho) rfl⟩
  | _ => exact False.elim q1
def dTry (ns : List Ex) (x : Ex) (i : Nat) (t u : DTS) : DTS := fun E env g =>
  t { E with ex := fun n env' g' => n ∈ ns ∧ (n.sub x = true → u { nx := fun e g'' => E.nx (e.set i none) g'', rt := E.rt, ex := fun _ _ _ => False } (env'.set i (some (.exc n))) g') ∧ (n.sub x = false → E.ex n env' g') } env g
theorem d_try {ns : List Ex} {x : Ex} {i : Nat} {n : Str} {t u : DTS} {body suite : List Stmt} {b₀ : Stmt} {np pos' : Pos} (hs : X.stack = X.env :: X.outer) (hf : X.env.frame = some X.env.locals) (hex : X.ex = []) (hN : X.N.Nodup) (hi : X.N[i]? = some n) (hln : X.env.kindOf n = some .local)
    (hx : ExN X.K X.mg C x) (hg : Gl X x.nm) (hdb : (Str.ofString x.nm == ("__debug__" : Str)) = false) (hns : ∀ n ∈ ns, ExN X.K X.mg C n) (tk : L2N.Takes X W)
    (hb : ∀ (W' : WX) (pn : List (Addr × Obj)) (xe : Value → Shared → Prop), L2N.Takes (X.tr pn xe) W' → PassesOwn (model X.prog X.w) X.A X.env xe → PSs (X.tr pn xe) body (upS X.K C W' t))
    (hsu : ∀ (a : Addr) (pn : List (Addr × Obj)), PSs (X.suite a pn) (b₀ :: suite) (upS X.K C W0 u)) :
    PS X (.Try body [.ExceptHandler (some (.Name x.nm np)) (some n) (b₀ :: suite) pos'] [] [] pos) (upS X.K C W (dTry ns x i t u)) := by
  refine ps_imp (ps_try_fz (tb := fun W' => upS X.K C W' t) (ts := fun _ => upS X.K C W0 u) hs hf hex hN hi hln (c := .ref (C x)) ⟨hg, hdb, .inl hx.mg⟩ tk hb hsu) fun D σ H ⟨env, g, E, re, rg, q, cn, cr, cx⟩ => ?_
  refine ⟨env, g, _, re, rg, q, cn, cr, fun m env' g' σ' H' ⟨hm, h1, h2⟩ k re' rg' => ?_⟩
  have N := hns m hm
  refine ⟨m.sub x, N.k.exm x _ hx.ns, fun hb a oe na hc hd hf => ?_, fun hb => cx _ _ _ _ _ (h2 hb) k re' rg'⟩
  have kn := TK.new (o := .frz oe excU) na
  have rep : Rep X.K (upd H' a (.frz oe excU)) (.exc m) (.ref a) := ⟨a, rfl, oe, excU, C m, upd_same, hc, hd, hf, N.ns, N.k⟩
  refine ⟨_, g', _, (re'.keep kn).set rep, rg'.tup na, h1 hb, fun e2 g2 σ2 H2 q2 k2 r1 r2 => ?_, (cr.at k).at kn, fun _ _ _ _ _ z => z.elim⟩
  have w := RepE.wipe r1 [i]
  exact cn _ _ _ _ q2 ((k.trans kn).trans k2) w r2
end
end PP
namespace PP
open PySem PySem.Spec PyProof.Rows L2
abbrev noXK : XK := fun _ _ _ => False
def wdA : Ex → Str
  | .number => "number"
  | .npoints => "points"
  | .few => "few"
  | _ => "other"
def toldA : Str := "told"
theorem ext_per {H H' : Hp} (e : LamX.ExtN H H') (t : TbOk H') : TK H H' :=
  ⟨fun a u p h => e a u h (fun ps z => by rw [z] at p; exact p), fun _ => t⟩
theorem ext_repG {K : PySem.W.Frag} {H H' : Hp} {g : G} (e : LamX.ExtN H H') (t : TbOk H') (r : RepG K H g) : RepG K H' g := fun a ds h => by
  rcases r a ds h with ⟨z, vs, h1, h2⟩ | ⟨z, vs, h1, h2⟩ | ⟨z, C, dx, fs, h1, h2, h3⟩
  · exact .inl ⟨z, vs, e _ _ h1 (fun ps z => by cases z), h2.keep (ext_per e t)⟩
  · exact .inr (.inl ⟨z, vs, e _ _ h1 (fun ps z => by cases z), h2.1.keep (ext_per e t), h2.2⟩)
  · exact .inr (.inr ⟨z, C, dx, fs, e _ _ h1 (fun ps z => by cases z), h2, h3.keep (ext_per e t)⟩)
abbrev lamC (X : Cx) (A : Around) (outer : List PySem.Env) (s : Shared) (H : Hp) (E : XK) (scope : Scope) (f c' : Addr) : Cx :=
  (LamX.lamCx X A outer s H E scope f c').tr [] fun e s' => wpAny (model X.prog X.w) (A.deeper (LamX.lamEnv X scope s.heap.objs.size f c')) (leaving (LamX.lamEnv X scope s.heap.objs.size f c') e) (fun _ s'' => L2N.CX X.prog X.w outer H s E e s'') (fun e' s'' => L2N.CX X.prog X.w outer H s E e' s'') s'
abbrev askC (P : Program) (w : World) (K : PySem.W.Frag) (mg : Str → Option Value) (base : Heap) (N : List Str) (x : Str) (sg : Scope) (g : Addr) (cd : Value) (A : Around) (outer : List PySem.Env) (s : Shared) (H : Hp) : Cx :=
  cxOf (L2N.CX P w) P w K mg base N x sg g cd A outer s H noXK
section
variable {X : Cx} {pins : List (Addr × Obj)} {σ : L2.St} {H : Hp} {s : Shared}
theorem pe_asked {Ng : List Str} {x : Str} {sg : Scope} {g f c' : Addr} {cdg pm ctv : Value} {params : Arguments} {body : Expr} {scope : Scope} {k i : Nat} {a : Str} {pn : List (Addr × Obj)} {xe : Value → Shared → Prop} {W : WX} {tb : XK → TE} {p1 p2 : Pos}
    (I : Inv X pins σ H s) (L : LamX.LamS X.env.scope scope) (hf : s.heap.get? f = some (PySem.W.kla_obj "<lambda>" (X.env.qual ++ "<lambda>") params body scope (cloFrom X.env.cells scope.names []) pm c' ctv)) (hfn : H f = none) (hfr : f ∉ frs X.stack)
    (hbind : bindArgs (PySem.W.kla_fn "<lambda>" (X.env.qual ++ "<lambda>") params body scope (cloFrom X.env.cells scope.names []) pm (.ref c') ctv) ⟨[], []⟩ = pure [])
    (tk : L2N.Takes ((askC X.prog X.w X.K X.mg X.base Ng x sg g cdg X.A X.stack s H).tr pn xe) W) (hr : Room (k + 1) (X.A.deeper (envOfC x sg s.heap.objs.size g cdg)))
    (hbody : ∀ (A : Around) (outer : List PySem.Env) (s : Shared) (H : Hp) (E : XK), Room k (A.deeper (LamX.lamEnv X scope s.heap.objs.size f c')) → PE (lamC X A outer s H E scope f c') body (tb E))
    (hN : Ng[i]? = some a) (hv : Vis sg a) (hd : (a == ("__debug__" : Str)) = false) (hcd : (a == ("__classdict__" : Str)) = false) :
    PE ((askC X.prog X.w X.K X.mg X.base Ng x sg g cdg X.A X.stack s H).tr pn xe) (.Call (.Name a p1) [] [] p2)
      (fun σZ HZ Q => σZ[i]? = some (some (.ref f)) ∧ HZ c' = some (LamX.CodeO c' (X.env.qual ++ "<lambda>")) ∧ ∃ E : XK, (∀ cls d H', E cls d H' → W cls d σZ H') ∧ tb E σ HZ Q) := by
  refine ⟨fun pZ sZ σZ HZ Q IZ h => ?_⟩
  obtain ⟨hs, hc, E, hE, ht⟩ := h
  refine wpAny_Call_Name_kw (thn ((pe_var (pos := p1) (i := i) hN hv hd hcd).run pZ sZ σZ HZ (fun v H1 => v = .ref f ∧ H1 = HZ) IZ ⟨.ref f, hs, rfl, rfl⟩) fun u s1 ⟨v, H1, I1, r1, e1, e2⟩ => ?_)
  subst e1
  subst e2
  obtain rfl : u = Value.ref f := r1
  have of1 : s1.heap.get? f = some (PySem.W.kla_obj "<lambda>" (X.env.qual ++ "<lambda>") params body scope (cloFrom X.env.cells scope.names []) pm c' ctv) := I1.base.keep f _ hf hfn hfr (fun z => nomatch (show f ∈ ([] : List Addr) from z))
  refine PySem.W.callWith_F0 ⟨_, _, _, _, of1⟩ ?_
  obtain ⟨⟨oc, vs, t, hoc, hdc, hvc⟩, _, _⟩ := I1.hok c' _ hc
  have run : codeAny (model X.prog X.w) (X.A.deeper (envOfC x sg s.heap.objs.size g cdg)) (.call (.ref f) ⟨[], []⟩) (CR (L2N.CX X.prog X.w) (envOfC x sg s.heap.objs.size g cdg :: X.stack) X.prog X.w H1 s1 Q E) s1 := by
    refine PySem.W.kla_callFunE hr.depth of1 rfl L.co L.gen rfl ⟨c', oc, vs, t, rfl, hoc, hdc, hvc⟩ ?_
    rw [hbind]
    refine wpAny_pure (wpAny_newFunctionEnv (fun y hy => (L.own y hy).2) (fun y hy => absurd hy (by simp)) (fun h₁ hns hsb => ⟨I1.nolimit.fresh _ hsb, ?_⟩) L.kind)
    show codeAny _ _ (.expr body (LamX.lamEnv X scope s1.heap.objs.size f c')) _ _
    have kp : ∀ b o, s1.heap.get? b = some o → h₁.get? b = some o := fun b o e => hsb.extBut b o (Nat.ne_of_lt (Heap.lt_size e)) (Heap.get?_push_of_some _ e)
    have J0 := LamX.lam_start2 (E := E) (f := f) (c' := c') (tk := s1.toks + ([] : List (Str × Value)).length) I L I1.env0 hr.hd (show Un (frs X.stack) [] H H1 s.heap s1.heap from I1.base) hns kp
    have J : Inv (lamC X (X.A.deeper (envOfC x sg s.heap.objs.size g cdg)) (envOfC x sg s.heap.objs.size g cdg :: X.stack) s1 H1 E scope f c') [] σ H1 { s1 with heap := h₁, toks := s1.toks + ([] : List (Str × Value)).length } := J0.toTry _
    refine PySem.W.kla_codeExpr (wpAny_mono ((hbody _ _ s1 H1 E (hr.deeper _)).run [] _ _ H1 Q J ht) (fun v s' hq => ?_) fun e s' hq => hq)
    obtain ⟨w', H', J', rv, q⟩ := hq
    exact ⟨w', H', J'.os, J'.bare, J'.base, J'.hok, rv, q⟩
  refine wpAny_call (codeAny_mono run fun r s' hq => ?_)
  cases r with
  | error e => exact tk e s' (L2N.XE.of_call I1 hE hq)
  | ok fl =>
    cases fl with
    | ret u => exact I1.after hq
    | next => exact False.elim hq
    | brk => exact False.elim hq
    | cont => exact False.elim hq
end
def askT (K : PySem.W.Frag) (C : Ex → Addr) (ns : List Ex) (wd : Ex → Str) (toldS : Str) (tl : XK → Hp → VK → Prop) (H : Hp) (Q : VK) : Prop :=
  ∃ Q1 : Str → G → Prop, (∀ z g H', Q1 z g → TK H H' → RepG K H' g → Q (.str z) H') ∧
    ∀ (E' : XK) (Q' : VK), (∀ n g H', n ∈ ns → TK H H' → RepG K H' g → Q1 (wd n) g → E' (.ref (C n)) none H') → (∀ v g H', TK H H' → RepG K H' g → Q1 toldS g → Q' v H') → tl E' H Q'
def Asks (P : Program) (w : World) (K : PySem.W.Frag) (mg : Str → Option Value) (base : Heap) (C : Ex → Addr) (ns : List Ex) (wd : Ex → Str) (toldS : Str) (N : List Str) (x : Str) (sg : Scope) (g : Addr) (cd : Value) (bg : List Stmt) (a : Str) : Prop :=
  ∀ (A : Around) (outer : List PySem.Env) (f c' : Addr) (q : Str) (s : Shared) (H : Hp) (Q : VK) (tl : XK → Hp → VK → Prop), Room 40 (A.deeper (envOfC x sg s.heap.objs.size g cd)) → TbOk H →
    (∀ (W : WX) (pn : List (Addr × Obj)) (xe : Value → Shared → Prop) (p1 p2 : Pos), L2N.Takes ((askC P w K mg base N x sg g cd A outer s H).tr pn xe) W →
      PE ((askC P w K mg base N x sg g cd A outer s H).tr pn xe) (.Call (.Name a p1) [] [] p2) (fun σZ HZ Q => σZ[0]? = some (some (.ref f)) ∧ HZ c' = some (LamX.CodeO c' q) ∧ ∃ E : XK, (∀ cls d H', E cls d H' → W cls d σZ H') ∧ tl E HZ Q)) →
    H c' = some (LamX.CodeO c' q) → askT K C ns wd toldS tl H Q →
    ∃ t, PSs (askC P w K mg base N x sg g cd A outer s H) bg t ∧ t { nx := fun _ H' => Q .non H', rt := Q } (L2.start N [.ref f]) H
structure AskF (P : Program) (w : World) (K : PySem.W.Frag) (mg : Str → Option Value) (base : Heap) (C : Ex → Addr) (ns : List Ex) (wd : Ex → Str) (toldS : Str) (x : Str) : Prop where
  ex : ∃ (g : Addr) (pg : Arguments) (bg : List Stmt) (sg : Scope) (dV kV doc pm cdv ct oc : Value) (an od : Option Addr) (osl : Array (Option Value)) (N : List Str) (a : Str),
    mg x = some (.ref g) ∧ PySem.W.keepIn K (.ref g) = true ∧ K.lookup g = some ⟨oc, od, .func (PySem.W.fnOf x x pg bg sg dV kV doc pm an cdv ct), osl⟩ ∧ PySem.W.codeIn K cdv x = true ∧ Binds K (PySem.W.fnOf x x pg bg sg dV kV doc pm an cdv ct) [a] [] ∧ FnScope N [a] sg ∧ N[0]? = some a ∧ Vis sg a ∧
    (a == ("__debug__" : Str)) = false ∧ (a == ("__classdict__" : Str)) = false ∧ (Mod K mg base → Asks P w K mg base C ns wd toldS N x sg g cdv bg a)
def dLamr (ns : List Ex) (wd : Ex → Str) (toldS : Str) (t : DTE) : DTE := fun _ env g Q => t (fun n g1 => n ∈ ns ∧ Q (.str (wd n)) g1) env g fun _ g1 => Q (.str toldS) g1
structure LamM (X : Cx) : Prop where
  ex : ∃ c P : Addr, X.env.code = .ref c ∧ (c, P, X.env.qual ++ "<lambda>") ∈ TabL ∧ (∀ p ∈ TabL, p.2.1 = P → p.2.2 = X.env.qual ++ "<lambda>") ∧ LamX.TabB X.base X.mg c P
section
variable {X : Cx} {C : Ex → Addr} {W : WX}
theorem d_lamr {k : Nat} {ns ns' : List Ex} {wd : Ex → Str} {toldS x : Str} {params : Arguments} {body : Expr} {scope : Scope} {t : DTE} {p lpos pos : Pos} (hsub : ∀ n ∈ ns', n ∈ ns) (M : LamM X) (F : AskF X.prog X.w X.K X.mg X.base C ns wd toldS x) (hk0 : 40 ≤ k) (hr : Room (k + 2) X.A) (hg : Gl X x) (hdb : (x == ("__debug__" : Str)) = false)
    (L : LamX.LamS X.env.scope scope) (hdef : defaultsOf params X.env = ([], [])) (hbind : ∀ (q : Str) (cl : List (Str × Addr)) (pm cv ctv : Value), bindArgs (PySem.W.kla_fn "<lambda>" q params body scope cl pm cv ctv) ⟨[], []⟩ = pure [])
    (hbody : ∀ (A : Around) (outer : List PySem.Env) (s : Shared) (H : Hp) (E : XK) (f c' : Addr), Room k (A.deeper (LamX.lamEnv X scope s.heap.objs.size f c')) → PE (lamC X A outer s H E scope f c') body (up X.K C (fun cls d _ H' => E cls d H') t)) :
    PE X (.Call (.Name x p) [.Lambda params body scope lpos] [] pos) (up X.K C W (dLamr ns' wd toldS t)) := by
  obtain ⟨c, P, hcode, hmT, hu, TB⟩ := M.ex
  obtain ⟨g, pg, bg, sg, dV, kV, doc, pm, cdv, ct, oc, an, od, osl, N, a, hm, hk, lk, hcg, hb, Sg, hN, hva, hd, hcd, hG⟩ := F.ex
  refine ⟨fun pins s σ H Q I ⟨env, g0, Xd, Qd, re, rg, ht, cl, cx⟩ => ?_⟩
  refine wpAny_Call_Name_kw (ld_glob I hg hm ?_ hdb)
  refine PySem.W.callWith_K (h₀ := X.base) I.ok.mod.kin hk ?_ (by rfl) (by rfl)
  show wpAny _ _ (spliced ((false, eval (.Lambda params body scope lpos) X.env) :: backTo pos (starEach [] X.env))) _ _ s
  have hT : LamX.Tabs (TabL.map (·.2)) H := fun p hp => by
    obtain ⟨z, hz, e⟩ := List.mem_map.mp hp
    rw [← e]
    exact re.2.2 z hz
  refine Calls.spliced_cons (LamX.lam_make2 (T := TabL.map (·.2)) I TB hcode (List.mem_map.mpr ⟨_, hmT, rfl⟩) (fun p hp e => by
    obtain ⟨z, hz, e2⟩ := List.mem_map.mp hp
    rw [← e2] at e ⊢
    exact hu z hz e) hT hdef (L.has I.ok) fun f c' pm' ctv H1 s' I1 eN T1 hf hfn hfr hco => ?_)
  refine Calls.spliced_nil ⟨I1.kIn, ?_⟩
  have t1 : TbOk H1 := fun z hz => T1 z.2 (List.mem_map.mpr ⟨z, hz, rfl⟩)
  have k1 := ext_per eN t1
  have run : codeAny (model X.prog X.w) X.A (.call (.ref g) ⟨[.ref f], []⟩) (CR (L2N.CX X.prog X.w) X.stack X.prog X.w H1 s' Q noXK) s' := by
    refine LamX.run_ofS (N := N) (ps := [a]) (us := [.ref f]) (vs := [.ref f]) lk hcg Sg hr I1.env0 (hb s' [.ref f] I1.kIn rfl) (.cons rfl .nil) rfl fun hr' => ?_
    refine hG I.ok.mod X.A X.stack f c' (X.env.qual ++ "<lambda>") s' H1 Q (fun E H' Q' => up X.K C (fun cls d _ H' => E cls d H') t σ H' Q') (hr'.mono (by omega)) t1 (fun W pn xe p1 p2 tk => ?_) hco ?_
    · exact pe_asked (tb := fun E => up X.K C (fun cls d _ H' => E cls d H') t) I1 L hf hfn hfr (hbind _ _ _ _ _) tk hr' (fun A outer s H E hr2 => hbody A outer s H E f c' hr2) hN hva hd hcd
    · refine ⟨fun z g => Qd (.str z) g, fun z g H' q k r => cl _ _ _ _ q (k1.trans k) r rfl, fun E' Q' hE hQ => ⟨env, g0, _, _, re.keep k1, ext_repG eN t1 rg, ht, fun d g2 v H2 q k r _ => hQ v g2 H2 k r q, fun n g2 H2 q k r => hE n g2 H2 (hsub _ q.1) k r q.2⟩⟩
  refine wpAny_call (codeAny_mono run fun r s2 hq => ?_)
  cases r with
  | error e =>
    obtain ⟨_, _, _, _, _, _, _, _, _, _, _, _, z⟩ := hq
    exact z.elim
  | ok fl =>
    cases fl with
    | ret u => exact I1.after hq
    | next => exact False.elim hq
    | brk => exact False.elim hq
    | cont => exact False.elim hq
end
end PP
namespace PP
open PySem PySem.Spec PyProof.Rows L2
section
variable {X : Cx} {C : Ex → Addr} {W : WX} {pos p : Pos} {sp : SpD} {x : Str}
theorem d_call0 {ps : List Str} (F : FnAt X C x ps sp) (tk : L2N.Takes X W) (hg : Gl X x) (hdb : (x == ("__debug__" : Str)) = false) :
    PE X (.Call (.Name x p) [] [] pos) (up X.K C W (dCall sp dNil)) := by
  obtain ⟨f, fd, k, hm, hk, hb, FO, hr⟩ := F.ex
  refine ⟨fun pins s σ H Q I h => ?_⟩
  obtain ⟨env, g, Xd, Qd, re, rg, t, cl, cx⟩ := h
  refine wpAny_Call_Name_kw (ld_glob I hg hm ?_ hdb)
  exact PySem.W.callWith_K0 I.kIn hk (run_fnS (us := []) FO hr hb (L2N.passAt tk σ) I .nil ⟨[], g, Qd, Xd, rfl, rg, t, cl, cx, re.2.2⟩)
end
def Itz3 (K : PySem.W.Frag) (a b c : Addr) : It :=
  ⟨fun i H => ∃ (xs ys zs : List V) (x y z : V), SqL K H a xs ∧ SqL K H b ys ∧ SqL K H c zs ∧ xs[i]? = some x ∧ ys[i]? = some y ∧ zs[i]? = some z,
    fun i H v H' => ∃ T x y z, v = .ref T ∧ H T = none ∧ H' = upd H T (.tup [x, y, z]) ∧ (∀ xs, SqL K H a xs → xs[i]? = some x) ∧ (∀ ys, SqL K H b ys → ys[i]? = some y) ∧ ∀ zs, SqL K H c zs → zs[i]? = some z,
    fun i H => ∃ xs ys zs : List V, SqL K H a xs ∧ SqL K H b ys ∧ SqL K H c zs ∧ i ≤ xs.length ∧ i ≤ ys.length ∧ i ≤ zs.length ∧ (i = xs.length ∨ i = ys.length ∨ i = zs.length)⟩
theorem list_ne_iter {h : Heap} {a i l : Addr} {its : Array Value} {k : Nat} (p : h.IsList a its) (q : h.IsListIter i l k) : a ≠ i := fun e => by
  subst e
  obtain ⟨o1, e1, c1, _⟩ := p
  obtain ⟨o2, e2, c2, _⟩ := q
  rw [e1] at e2
  cases e2
  rw [c1] at c2
  exact absurd c2 (by simp)
theorem turn_zip3 {P : Program} {w : World} {K : PySem.W.Frag} {elts : List Expr} {kk : Nat} {tpos : Pos} {a b c z TI TO i1 i2 i3 : Addr} (D : ZipSep3 z TI TO i1 i2 i3 [i1, a] [i2, b] [i3, c]) :
    Turn P w K (.Tuple elts kk tpos) (Itz3 K a b c) [z, TI, TO, i1, i2, i3] z (fun i h => IsZip h z TI TO .none ∧ IsTupOf3 h TI (.ref i1) (.ref i2) (.ref i3) ∧ (∃ x y w, IsTupOf3 h TO x y w) ∧ h.IsListIter i1 a i ∧ h.IsListIter i2 b i ∧ h.IsListIter i3 c i) where
  mem := by simp
  obj := fun i h st d hc => by
    obtain ⟨hz, hTI, ⟨x, y, w, hTO⟩, ⟨o1, e1, _, d1⟩, ⟨o2, e2, _, d2⟩, ⟨o3, e3, _, d3⟩⟩ := st
    have e' : d = z ∨ d = TI ∨ d = TO ∨ d = i1 ∨ d = i2 ∨ d = i3 := by simpa using hc
    rcases e' with q | q | q | q | q | q
    · rw [q]; exact ⟨_, hz, fun v q => nomatch q⟩
    · rw [q]; exact ⟨_, hTI, fun v q => nomatch q⟩
    · rw [q]; exact ⟨_, hTO, fun v q => nomatch q⟩
    · rw [q]; exact ⟨o1, e1, fun v q => by rw [d1] at q; cases q⟩
    · rw [q]; exact ⟨o2, e2, fun v q => by rw [d2] at q; cases q⟩
    · rw [q]; exact ⟨o3, e3, fun v q => by rw [d3] at q; cases q⟩
  keep := fun i h h' st k => by
    obtain ⟨hz, hTI, ⟨x, y, w, hTO⟩, h1, h2, h3⟩ := st
    exact ⟨k z (by simp) _ hz, k TI (by simp) _ hTI, ⟨x, y, w, k TO (by simp) _ hTO⟩, h1.at fun o q => k i1 (by simp) o q, h2.at fun o q => k i2 (by simp) o q, h3.at fun o q => k i3 (by simp) o q⟩
  item := by
    intro X hP hw hK hc i pins s σ H E I hf st hg
    subst hP hw hK
    obtain ⟨hz, hTI, ⟨x0, y0, w0, hTO⟩, h1, h2, h3⟩ := st
    obtain ⟨xs, ys, zs, x, y, w, hqx, hqy, hqz, hx, hy, hw⟩ := hg
    obtain ⟨its, rv, p, _⟩ := I.list hqx
    obtain ⟨its2, rv2, p2, _⟩ := I.list hqy
    obtain ⟨its3, rv3, p3, _⟩ := I.list hqz
    obtain ⟨u, hu, ru⟩ := rv.get hx
    obtain ⟨u2, hu2, ru2⟩ := rv2.get hy
    obtain ⟨u3, hu3, ru3⟩ := rv3.get hw
    have hzl : z < s.heap.objs.size := Heap.lt_size hz
    have hh := I.ok.hd hc
    have n1 : a ≠ i1 := list_ne_iter p.isList h1
    have n2 : b ≠ i2 := list_ne_iter p2.isList h2
    have n3 : c ≠ i3 := list_ne_iter p3.isList h3
    have D1 := Draws.list (prog := X.prog) (w := X.w) (A := X.A.in1) hh i1 a n1 its.toArray
    have D2 := Draws.list (prog := X.prog) (w := X.w) (A := X.A.in1) hh i2 b n2 its2.toArray
    have D3 := Draws.list (prog := X.prog) (w := X.w) (A := X.A.in1) hh i3 c n3 its3.toArray
    have l1 : i < its.toArray.size := by have := List.getElem?_eq_some_iff.mp hu; obtain ⟨q, _⟩ := this; simpa using q
    have l2 : i < its2.toArray.size := by have := List.getElem?_eq_some_iff.mp hu2; obtain ⟨q, _⟩ := this; simpa using q
    have l3 : i < its3.toArray.size := by have := List.getElem?_eq_some_iff.mp hu3; obtain ⟨q, _⟩ := this; simpa using q
    refine wpAny_pyNext_zipD3_item D D1 D2 D3 hz hTI hTO ⟨h1, p.isList⟩ ⟨h2, p2.isList⟩ ⟨h3, p3.isList⟩ l1 l2 l3 fun v1 v2 v3 h' tk P1 P2 P3 z' TO' d1 d2 d3 hT hsz hk => ?_
    have e1 : v1 = u := by have P1 : its.toArray[i]? = some v1 := P1; rw [List.getElem?_toArray, hu] at P1; exact (Option.some.inj P1).symm
    have e2 : v2 = u2 := by have P2 : its2.toArray[i]? = some v2 := P2; rw [List.getElem?_toArray, hu2] at P2; exact (Option.some.inj P2).symm
    have e3 : v3 = u3 := by have P3 : its3.toArray[i]? = some v3 := P3; rw [List.getElem?_toArray, hu3] at P3; exact (Option.some.inj P3).symm
    subst e1 e2 e3
    refine ⟨_, rfl, wpAny_letOwnedTupleGo_zip (s := { s with heap := h', toks := tk }) z' fun h'' z'' sb => ?_⟩
    have hT2 : h''.get? s.heap.objs.size = some { cls := .type "tuple", data := .seq #[v1, v2, v3] } := (sb.2 _ (Nat.ne_of_gt hzl)).trans hT
    have new : ObjOk X.prog X.w (upd H s.heap.objs.size (.tup [x, y, w])) h'' s.heap.objs.size (.tup [x, y, w]) :=
      ⟨by show 3 ≤ sizeLine; decide, [v1, v2, v3], .cons ru (.cons ru2 (.cons ru3 .nil)), ⟨_, hT2, rfl, _, rfl⟩⟩
    have I1 : Inv X pins σ (upd H s.heap.objs.size (.tup [x, y, w])) { s with heap := h'', toks := tk } :=
      I.turnedNew (t' := tk) (ch := [z, TI, TO, i1, i2, i3]) (fun c o hb q => (sb.2 c (fun q' => hb (by simp [q']))).trans (hk c o (fun q' => hb (by simp [q'])) (fun q' => hb (by simp [q'])) (fun q' => hb (by simp [q'])) (fun q' => hb (by simp [q'])) (fun q' => hb (by simp [q'])) q)) hf (Nat.le_refl _) new
    refine ⟨.ref s.heap.objs.size, _, I1, rfl, ⟨_, x, y, w, rfl, I.hok.fresh (Nat.le_refl _), rfl, fun l hl => by rw [I.list_inj hl hqx]; exact hx, fun l hl => by rw [I.list_inj hl hqy]; exact hy, fun l hl => by rw [I.list_inj hl hqz]; exact hw⟩, ⟨z'', ?_, ⟨v1, v2, v3, ?_⟩, ?_, ?_, ?_⟩, fun c hcm => ?_⟩
    · exact (sb.2 _ D.TIz).trans (hk _ _ D.TIz D.TITO D.TIi1 D.TIi2 D.TIi3 hTI)
    · exact (sb.2 _ D.TOz).trans TO'
    · exact d1.1.at fun o q => (sb.2 _ D.zi1.symm).trans q
    · exact d2.1.at fun o q => (sb.2 _ D.zi2.symm).trans q
    · exact d3.1.at fun o q => (sb.2 _ D.zi3.symm).trans q
    · have hlt : c < s.heap.objs.size := by
        have e' : c = z ∨ c = TI ∨ c = TO ∨ c = i1 ∨ c = i2 ∨ c = i3 := by simpa using hcm
        rcases e' with q | q | q | q | q | q
        · rw [q]; exact hzl
        · rw [q]; exact Heap.lt_size hTI
        · rw [q]; exact Heap.lt_size hTO
        · rw [q]; obtain ⟨_, e1, _⟩ := h1; exact Heap.lt_size e1
        · rw [q]; obtain ⟨_, e2, _⟩ := h2; exact Heap.lt_size e2
        · rw [q]; obtain ⟨_, e3, _⟩ := h3; exact Heap.lt_size e3
      rw [upd_ne (Nat.ne_of_lt hlt)]
      exact (hf c hcm).1
  done := by
    intro X hP hw hK hc i pins s σ H E I hf st hg
    subst hP hw hK
    obtain ⟨hz, hTI, ⟨x0, y0, w0, hTO⟩, h1, h2, h3⟩ := st
    obtain ⟨xs, ys, zs, hqx, hqy, hqz, m1, m2, m3, hend⟩ := hg
    obtain ⟨its, rv, p, _⟩ := I.list hqx
    obtain ⟨its2, rv2, p2, _⟩ := I.list hqy
    obtain ⟨its3, rv3, p3, _⟩ := I.list hqz
    have l1 := rv.length
    have l2 := rv2.length
    have l3 := rv3.length
    have hh := I.ok.hd hc
    have n1 : a ≠ i1 := list_ne_iter p.isList h1
    have n2 : b ≠ i2 := list_ne_iter p2.isList h2
    have n3 : c ≠ i3 := list_ne_iter p3.isList h3
    have D1 := Draws.list (prog := X.prog) (w := X.w) (A := X.A.in1) hh i1 a n1 its.toArray
    have D2 := Draws.list (prog := X.prog) (w := X.w) (A := X.A.in1) hh i2 b n2 its2.toArray
    have D3 := Draws.list (prog := X.prog) (w := X.w) (A := X.A.in1) hh i3 c n3 its3.toArray
    exact wpAny_pyNext_zipD3_end D D1 D2 D3 hz hTI hTO ⟨h1, p.isList⟩ ⟨h2, p2.isList⟩ ⟨h3, p3.isList⟩ (by simp; omega) (by simp; omega) (by simp; omega) (by simp; omega) fun h' tk hk => ⟨rfl, I.turnedL (t' := tk) (ch := [z, TI, TO, i1, i2, i3]) (fun c o hb q =>
      hk c o (fun q' => hb (by simp [q'])) (fun q' => hb (by simp [q'])) (fun q' => hb (by simp [q'])) (fun q' => hb (by simp [q'])) (fun q' => hb (by simp [q'])) q) hf⟩
  self := fun A i s Q E st h => wpAny_pyIter_zip st.1 h
def iZip3 (K : PySem.W.Frag) (ta : TA) : TI := fun σ H R => ta σ H fun vs H1 => ∃ a b c xs ys zs, vs = [.ref a, .ref b, .ref c] ∧ SqL K H1 a xs ∧ SqL K H1 b ys ∧ SqL K H1 c zs ∧ R (Itz3 K a b c) H1
theorem pi_zip3 {X : Cx} {e e2 e3 : Expr} {ta : TA} {p pos tpos : Pos} {elts : List Expr} {kk : Nat} (hg : Gl X "zip") (hm : X.mg "zip" = none) (ha : PA X [e, e2, e3] ta)
    (hs : starEach [e, e2, e3] X.env = (false, eval e X.env) :: starEach [e2, e3] X.env := by rfl) (hpl : (backTo pos (starEach [e2, e3] X.env)).any (·.1) = false := by rfl) :
    PI X (.Tuple elts kk tpos) (.Call (.Name "zip" p) [e, e2, e3] [] pos) (iZip3 X.K ta) := by
  refine ⟨fun pins s σ H R I h => ?_⟩
  refine Call_ (ld_blt I hg hm PyProof.Rows.boot_zip (PyProof.Rows.callWith_type1 (thn (ha.run pos pins s σ H _ I h) fun us s1 ⟨vs, H1, I1, r1, q1⟩ => ?_) hs hpl))
  obtain ⟨a, b, c, xs, ys, zs, ex, hqx, hqy, hqz, q⟩ := q1
  subst ex
  cases r1 with
  | cons r rr =>
    cases rr with
    | cons r' rr =>
      cases rr with
      | cons r'' rr =>
        cases rr
        cases r
        cases r'
        cases r''
        obtain ⟨its, rv, p1, _⟩ := I1.list hqx
        obtain ⟨its2, rv2, p2, _⟩ := I1.list hqy
        obtain ⟨its3, rv3, p3, _⟩ := I1.list hqz
        have la : a < s1.heap.objs.size := p1.lt
        have lb : b < s1.heap.objs.size := p2.lt
        have lc : c < s1.heap.objs.size := p3.lt
        refine zip_begins3 (begins_list a its.toArray) (begins_list b its2.toArray) (begins_list c its3.toArray) p1.isList p2.isList p3.isList fun h' hz hTI hTO h1 h2 h3 hsz hk => wpAny_pyIter_zip hz ?_
        have I2 : Inv X pins σ H1 { s1 with heap := h' } := I1.kept (t' := s1.toks) hk
        have D : ZipSep3 (s1.heap.objs.size + 5) (s1.heap.objs.size + 3) (s1.heap.objs.size + 4) s1.heap.objs.size (s1.heap.objs.size + 1) (s1.heap.objs.size + 2) [s1.heap.objs.size, a] [s1.heap.objs.size + 1, b] [s1.heap.objs.size + 2, c] :=
          zip_sep3 (fp1 := [a]) (fp2 := [b]) (fp3 := [c]) (by simpa using la) (by simpa using lb) (by simpa using lc)
        refine ⟨s1.heap.objs.size + 5, [s1.heap.objs.size + 5, s1.heap.objs.size + 3, s1.heap.objs.size + 4, s1.heap.objs.size, s1.heap.objs.size + 1, s1.heap.objs.size + 2], _, _, H1, rfl, I2, turn_zip3 D, ⟨hz, hTI, ⟨_, _, _, hTO⟩, ⟨_, h1, rfl, rfl⟩, ⟨_, h2, rfl, rfl⟩, ⟨_, h3, rfl, rfl⟩⟩, fun d hcm => ?_, q⟩
        have e' : d = s1.heap.objs.size + 5 ∨ d = s1.heap.objs.size + 3 ∨ d = s1.heap.objs.size + 4 ∨ d = s1.heap.objs.size ∨ d = s1.heap.objs.size + 1 ∨ d = s1.heap.objs.size + 2 := by simpa using hcm
        have hle : s1.heap.objs.size ≤ d := by rcases e' with z | z | z | z | z | z <;> (rw [z]; first | exact Nat.le_refl _ | exact Nat.le_add_right _ _)
        exact I1.fpOk hle (I1.hok.fresh hle)
def zip3D (xs ys zs : List D) : List D := List.zipWith (fun x yz => D.tup [x, yz.1, yz.2]) xs (List.zip ys zs)
theorem itz3_ok {K : PySem.W.Frag} {H0 : Hp} {a b c : Addr} {xs ys zs : List D} (hc1 : a % 2 = 0) (hc2 : b % 2 = 0) (hc3 : c % 2 = 0) : ItOk K (Itz3 K (a / 2) (b / 2) (c / 2)) H0 (zip3D xs ys zs) (fun g => g a = some xs ∧ g b = some ys ∧ g c = some zs) where
  go := fun i g H hi k r st => by
    obtain ⟨vs, h, l⟩ := r.lst hc1 st.1
    obtain ⟨ws, h2, l2⟩ := r.lst hc2 st.2.1
    obtain ⟨us, h3, l3⟩ := r.lst hc3 st.2.2
    have hi' : i < xs.length ∧ i < ys.length ∧ i < zs.length := by simp [zip3D] at hi; omega
    have hv : i < vs.length := by rw [l.length]; omega
    have hw : i < ws.length := by rw [l2.length]; omega
    have hu : i < us.length := by rw [l3.length]; omega
    exact ⟨vs, ws, us, vs[i], ws[i], us[i], .of h, .of h2, .of h3, by simp [hv], by simp [hw], by simp [hu]⟩
  yld := fun i g H x H' hi k r st y => by
    obtain ⟨vs, h, l⟩ := r.lst hc1 st.1
    obtain ⟨ws, h2, l2⟩ := r.lst hc2 st.2.1
    obtain ⟨us, h3, l3⟩ := r.lst hc3 st.2.2
    obtain ⟨T, u, w, t, ex, hT, eH, y1, y2, y3⟩ := y
    obtain ⟨d, e1, rd⟩ := l.getv (y1 vs (.of h))
    obtain ⟨d', e2, rd'⟩ := l2.getv (y2 ws (.of h2))
    obtain ⟨d'', e3, rd''⟩ := l3.getv (y3 us (.of h3))
    subst ex eH
    refine ⟨.tup [d, d', d''], ?_, ⟨T, [u, w, t], rfl, .inl upd_same, ⟨u, [w, t], rfl, rd.keep (.new hT), ⟨w, [t], rfl, rd'.keep (.new hT), ⟨t, [], rfl, rd''.keep (.new hT), rfl⟩⟩⟩⟩, .new hT, r.tup hT⟩
    have e4 : (List.zip ys zs)[i]? = some (d', d'') := by rw [List.getElem?_zip_eq_some]; exact ⟨e2, e3⟩
    simp [zip3D, List.getElem?_zipWith, e1, e4]
  stop := fun i g H hi hi2 k r st => by
    obtain ⟨vs, h, l⟩ := r.lst hc1 st.1
    obtain ⟨ws, h2, l2⟩ := r.lst hc2 st.2.1
    obtain ⟨us, h3, l3⟩ := r.lst hc3 st.2.2
    refine ⟨vs, ws, us, .of h, .of h2, .of h3, ?_⟩
    rw [l.length, l2.length, l3.length]
    simp [zip3D] at hi hi2
    omega
def dZip3 : D → D → D → G → (List D → (G → Prop) → G → Prop) → Prop
  | .ref a, .ref b, .ref c => fun g R => match g a, g b, g c with | some xs, some ys, some zs => R (zip3D xs ys zs) (fun g' => g' a = some xs ∧ g' b = some ys ∧ g' c = some zs) g | _, _, _ => False
  | _, _, _ => fun _ _ => False
def dI3 (r : D → D → D → G → (List D → (G → Prop) → G → Prop) → Prop) (ta tb tc : DTE) : DTI := fun X env g R => ta X env g fun d g1 => tb X env g1 fun d2 g2 => tc X env g2 fun d3 g3 => r d d2 d3 g3 R
section
variable {X : Cx} {C : Ex → Addr} {W : WX} {a b c : Expr} {ta tb tc : DTE} {p pos : Pos}
theorem d_zip3 {elts : List Expr} {kk : Nat} {tpos : Pos} (hg : Gl X "zip") (hm : X.mg "zip" = none) (ha : PE X a (up X.K C W ta)) (hb : PE X b (up X.K C W tb)) (hc : PE X c (up X.K C W tc)) (hs : starEach [a, b, c] X.env = (false, eval a X.env) :: starEach [b, c] X.env) (hs2 : starEach [b, c] X.env = (false, eval b X.env) :: starEach [c] X.env) (hs3 : starEach [c] X.env = [(false, eval c X.env)]) :
    PI X (.Tuple elts kk tpos) (.Call (.Name "zip" p) [a, b, c] [] pos) (upI X.K C W (dI3 dZip3 ta tb tc)) := by
  refine pi_imp (pi_zip3 hg hm (pa_cons ha (pa_cons hb (pa_cons hc pa_nil hs3) (by rw [hs2])) (by rw [hs])) (by rw [hs]) (by rw [hs2, hs3]; rfl)) fun σ H R ⟨env, g, Xd, Rd, re, rg, t, cl, cx⟩ => ?_
  refine ⟨env, g, Xd, _, re, rg, t, fun d g1 v H1 q k r rv => ?_, cx⟩
  refine ⟨env, g1, Xd, _, re.keep k, r, q, fun d2 g2 v2 H2 q2 k2 r2 rv2 => ?_, cx.at k⟩
  refine ⟨env, g2, Xd, _, (re.keep k).keep k2, r2, q2, fun d3 g3 v3 H3 q3 k3 r3 rv3 => ?_, (cx.at k).at k2⟩
  dsimp only at q3
  unfold dZip3 at q3
  have kk := (k.trans k2).trans k3
  split at q3
  · obtain ⟨hc1, rfl⟩ := rv
    obtain ⟨hc2, rfl⟩ := rv2
    obtain ⟨hc3, rfl⟩ := rv3
    split at q3
    · rename_i xs ys zs e1 e2 e3
      obtain ⟨vs, h1, l1⟩ := r3.lst hc1 e1
      obtain ⟨ws, h2, l2⟩ := r3.lst hc2 e2
      obtain ⟨us, h3, l3⟩ := r3.lst hc3 e3
      exact ⟨_, _, _, vs, ws, us, rfl, .of h1, .of h2, .of h3, cl _ _ _ _ _ q3 kk r3 (itz3_ok hc1 hc2 hc3)⟩
    · exact q3.elim
  · exact q3.elim
end
end PP
set_option maxHeartbeats 2000000
namespace PP
open PySem PySem.Spec PyProof.Rows L2
theorem adj_rev (n : Nat) : Builtin.Slice.sliceAdjust none none (-1) (n : Int) = ((n : Int) - 1, -1) := rfl
theorem places_rev (n : Nat) : Builtin.Slice.slicePlaces ((n : Int) - 1) (-1) (-1) = n := by
  unfold Builtin.Slice.slicePlaces
  rw [if_neg (by decide)]
  by_cases h : (n : Int) - 1 > -1
  · rw [if_pos h, show (-(-1) : Int) = 1 by decide, Int.ediv_one]; omega
  · rw [if_neg h]; omega
theorem pick_rev (xs : Array Value) : ((List.range xs.size).filterMap fun (m : Nat) => xs[((xs.size : Int) - 1 + (m : Int) * -1).toNat]?).toArray = xs.toList.reverse.toArray := by
  congr 1
  have key : ∀ k, k ≤ xs.size → (List.range k).filterMap (fun (m : Nat) => xs[((xs.size : Int) - 1 + (m : Int) * -1).toNat]?) = xs.toList.reverse.take k := by
    intro k
    induction k with
    | zero => intro _; rfl
    | succ k ih =>
      intro hk
      have h2 : ((xs.size : Int) - 1 + (k : Int) * -1).toNat = xs.size - 1 - k := by omega
      have h3 : xs.size - 1 - k < xs.size := by omega
      have h4 : k < xs.toList.reverse.length := by simp; omega
      rw [List.range_succ, List.filterMap_append, ih (by omega), List.take_succ_eq_append_getElem h4]
      congr 1
      simp only [List.filterMap_cons, List.filterMap_nil]
      rw [h2, Array.getElem?_eq_getElem h3]
      simp [List.getElem_reverse]
  rw [key xs.size (Nat.le_refl _), List.take_of_length_le (by simp)]
section
variable {prog : Program} {w : World} {A : Around} {E : Value → Shared → Prop} {s : Shared}
theorem slice_rev {sl : Addr} {vl vu vs : Value} {n : Nat} {Q : Int × Int × Nat → Shared → Prop} (hs : s.heap.IsSliceOf sl vl vu vs) (pl : IsPart vl none) (pu : IsPart vu none) (ps : IsPart vs (some (-1)))
    (h : Q ((n : Int) - 1, -1, n) s) : wpAny (model prog w) A (Builtin.Slice.sliceApplied (.ref sl) (pure (n : Int))) Q E s := by
  obtain ⟨os, hos, hcs, hds⟩ := id hs
  unfold Builtin.Slice.sliceApplied Builtin.Slice.sliceFields
  refine wpAny_bind (wpAny_bind (wpAny_field hos hds (x := vl) rfl (wpAny_bind (wpAny_field hos hds (x := vu) rfl (wpAny_bind (wpAny_field hos hds (x := vs) rfl (wpAny_pure ?_)))))))
  refine wpAny_bind (HT.slicePart_ ps ?_)
  show wpAny _ _ (if ((-1 : Int) == 0) = true then _ else _) _ _ s
  rw [if_neg (by decide)]
  refine wpAny_bind (HT.slicePart_ pl (wpAny_bind (HT.slicePart_ pu (wpAny_bind (wpAny_pure ?_)))))
  show wpAny _ _ (match Builtin.Slice.sliceAdjust none none (-1) (n : Int) with | (lo, hi) => pure (lo, (-1 : Int), Builtin.Slice.slicePlaces lo hi (-1))) _ _ s
  rw [adj_rev n]
  show wpAny _ _ (pure ((n : Int) - 1, (-1 : Int), Builtin.Slice.slicePlaces ((n : Int) - 1) (-1) (-1))) _ _ s
  rw [places_rev]
  exact wpAny_pure h
theorem getItem_tuple_rev {t sl : Addr} {items : Array Value} {vl vu vs : Value} {Q : Value → Shared → Prop} (ht : IsTup s.heap t items) (hs : s.heap.IsSliceOf sl vl vu vs) (pl : IsPart vl none) (pu : IsPart vu none) (ps : IsPart vs (some (-1)))
    (h : Q (.ref s.heap.objs.size) { s with heap := s.heap.push { cls := .type "tuple", data := .seq items.toList.reverse.toArray } })
    (hsz : items.size ≤ sizeLine) : wpAny (model prog w) A (getItem (.ref t) (.ref sl)) Q E s := by
  have htake : sizeOk (.seq items.toList.reverse.toArray) := by
    show items.toList.reverse.toArray.size ≤ sizeLine
    rw [List.size_toArray, List.length_reverse, Array.length_toList]
    exact hsz
  obtain ⟨os, hos, hcs, hds⟩ := id hs
  have hTs : s.TypeIs (.ref sl) "slice" := ⟨os, hos, hcs⟩
  unfold getItem
  try with_reducible refine wpAny_holding ?_
  first | refine wpAny_bind (wpAny_pure ?_) | skip
  refine wpAny_bind (wpAny_sequenceKey ht.typeIs (by decide) ?_)
  refine wpAny_bind (wpAny_callSpecial?_slot (name := Str.ofString "__getitem__") ht.typeIs PyProof.Rows.slot_tuple_getitem
    (wpAny_call_entry PyProof.Rows.slot_tuple_getitem ht.typeIs entry_tuple_getitem ?_ (args_tuple_getitem _ _)))
  show wpAny _ _ (Builtin.Tuple.tupleItemsOf (.ref t) >>= _) _ _ s
  refine wpAny_bind (tupleItemsOf_ ht ?_)
  refine wpAny_bind (wpAny_typeOf hTs ?_)
  rw [if_pos (by decide)]
  refine wpAny_bind (slice_rev hs pl pu ps ?_)
  have hno : ¬ ((((items.size : Int) - 1) == 0 && (-1 : Int) == 1 && items.size == items.size) = true) := by
    rw [show ((-1 : Int) == 1) = false from rfl, Bool.and_false, Bool.false_and]
    exact Bool.false_ne_true
  show wpAny _ _ (if (((items.size : Int) - 1) == 0 && (-1 : Int) == 1 && items.size == items.size) = true then _ else _) _ _ s
  rw [if_neg hno, pick_rev]
  first
    | exact wpAny_bind (m := Builtin.Tuple.tupleExact _) (wpAny_newObj_type (wpAny_pure ⟨_, rfl, wpAny_pure h⟩) htake)
    | exact wpAny_bind (m := Builtin.Tuple.tupleExact _) (wpAny_newObj_type (wpAny_bind (wpAny_pure (wpAny_pure ⟨_, rfl, wpAny_pure h⟩))) htake)
    | exact wpAny_bind (wpAny_bind (m := Builtin.Tuple.tupleExact _) (wpAny_newObj_type (wpAny_pure (wpAny_pure ⟨_, rfl, wpAny_pure h⟩)) htake))
    | exact wpAny_bind (wpAny_bind (m := Builtin.Tuple.tupleExact _) (wpAny_newObj_type (wpAny_pure ⟨_, rfl, wpAny_pure h⟩) htake))
end
section
variable {X : Cx} {C : Ex → Addr} {W : WX}
def tRevT (K : PySem.W.Frag) (te : TE) : TE := fun σ H Q => te σ H fun x H1 => ∃ a xs, x = .ref a ∧ ((SqL K H1 a xs ∧ ∀ p, H1 p = none → Q (.ref p) (upd H1 p (.lst xs.reverse))) ∨ (SqT K H1 a xs ∧ ∀ p, H1 p = none → Q (.ref p) (upd H1 p (.tup xs.reverse))))
theorem pe_rev {e : Expr} {te : TE} {k : Nat} {p1 p2 p3 pos : Pos} (he : PE X e te) : PE X (.Subscript e (.Slice none none (some (.UnaryOp .USub (.Constant (.int 1) k p1) p2)) p3) pos) (tRevT X.K te) := by
  refine ⟨fun pins s σ H Q I h => ?_⟩
  refine Subscript_ (thn (he.run pins s σ H _ I h) fun v s1 ⟨x, H1, I1, r1, q1⟩ => ?_)
  obtain ⟨a, xs, ex, hx⟩ := q1
  subst ex
  cases r1
  have hst : PO X (some (.UnaryOp .USub (.Constant (.int 1) k p1) p2)) (tPart (tUn (rU fun i => .int (-i)) (tC (.int 1)))) := po_some (pe_un un_neg pe_int)
  refine wpAny_Slice (thn (po_none.run pins s1 σ H1 (fun o H2 => o = none ∧ H2 = H1) I1 ⟨rfl, rfl⟩) fun vl s2 ⟨l, H2, I2, pl, el, e2⟩ => ?_)
  subst el e2
  refine thn (po_none.run pins s2 σ H2 (fun o H3 => o = none ∧ H3 = H2) I2 ⟨rfl, rfl⟩) fun vu s3 ⟨u, H3, I3, pu, eu, e3⟩ => ?_
  subst eu e3
  refine thn (hst.run pins s3 σ H3 (fun o H4 => o = some (-1) ∧ H4 = H3) I3 ⟨1, rfl, -1, rfl, rfl, rfl⟩) fun vs s4 ⟨o, H4, I4, ps, eo, e4⟩ => ?_
  subst eo e4
  have I5 : Inv X pins σ H4 { s4 with heap := s4.heap.push { cls := .type "slice", data := .fields #[vl, vu, vs] } } := I4.kept (t' := s4.toks) fun b ob q => Heap.get?_push_of_some _ q
  show wpAny (model X.prog X.w) X.A (subscriptTail e (.Slice none none (some (.UnaryOp .USub (.Constant (.int 1) k p1) p2)) p3) (.ref a) (.ref s4.heap.objs.size)) (EP X pins σ Q) X.xe { s4 with heap := s4.heap.push { cls := .type "slice", data := .fields #[vl, vu, vs] } }
  rcases hx with ⟨hx, q⟩ | ⟨hx, q⟩
  · obtain ⟨its, r, ht, hz⟩ := I5.list hx
    have hlen := r.length
    refine tail_any (ops := [.ref a, .ref s4.heap.objs.size]) ht.isList.typeIs (PySem.slot_list_getitem.lookup) ?_ (by with_unfolding_all rfl)
    refine wpAny_getItem_list_slice ht.isList (Heap.IsSliceOf.new _ vl vu vs) pl pu ps (by decide) ?_ (by rw [List.size_toArray]; omega)
    rw [PySem.W.krv_pick]
    refine ⟨.ref _, _, I5.laid (t' := s4.toks) (o := .lst xs.reverse) (fun b ob q => Heap.get?_push_of_some _ q) (Nat.le_refl _) ?_, rfl, q _ (I5.hok.fresh (Nat.le_refl _))⟩
    exact ⟨by rw [List.length_reverse]; exact hz, _, 0, r.reverse, Heap.get?_push_size _ rfl⟩
  · obtain ⟨its, r, ht, hz⟩ := I5.tuple hx
    have hlen := r.length
    refine tail_any (ops := [.ref a, .ref s4.heap.objs.size]) ht.typeIs (PyProof.Rows.slot_tuple_getitem.lookup) ?_ (by with_unfolding_all rfl)
    refine getItem_tuple_rev ht (Heap.IsSliceOf.new _ vl vu vs) pl pu ps ?_ (by rw [List.size_toArray]; omega)
    refine ⟨.ref _, _, I5.laid (t' := s4.toks) (o := .tup xs.reverse) (fun b ob q => Heap.get?_push_of_some _ q) (Nat.le_refl _) ?_, rfl, q _ (I5.hok.fresh (Nat.le_refl _))⟩
    exact ⟨by rw [List.length_reverse]; exact hz, _, r.reverse, ⟨_, Heap.get?_push_size _ rfl, rfl, _, rfl⟩⟩
end
section
variable {X : Cx} {C : Ex → Addr} {W : WX} {a b c : Expr} {pos : Pos} {ta tb tc : DTE}
theorem t_chain {r r' : D → D → G → QD → Prop} {op op' : CmpOp} (ho : OpR X (compareOp op) (rUp X.K r)) (ho' : OpR X (compareOp op') (rUp X.K r')) (ha : PE X a (up X.K C W ta)) (hb : PE X b (up X.K C W tb)) (hc : PE X c (up X.K C W tc)) (hm : lastMarks [op, op'] [b, c] = false) :
    PT X (.Compare a [op, op'] [b, c] pos) (upT X.K C W (dTst (dChain r r' ta tb tc))) := by
  refine pt_imp (pt_chain ho ho' ha hb hc hm) fun σ H Q ⟨env, g, Xd, Qd, re, rg, t, cl, cx⟩ => ?_
  refine ⟨env, g, Xd, _, re, rg, t, fun d1 g1 v H1 q k1 r1 rv => ?_, cx⟩
  refine ⟨env, g1, Xd, _, re.keep k1, r1, q, fun d2 g2 u H2 q2 k2 r2 ru => ?_, cx.at k1⟩
  refine ⟨d1, d2, g2, _, rv.keep k2, ru, r2, q2, fun d3 g3 w H3 q3 k3 r3 rw' => ?_⟩
  have kk := (k1.trans k2).trans k3
  split at q3
  · rename_i k
    refine ⟨k, rw', ?_⟩
    cases k with
    | true =>
      rw [if_pos rfl] at q3 ⊢
      refine ⟨env, g3, Xd, _, re.keep kk, r3, q3, fun d4 g4 z H4 q4 k4 r4 rz => ?_, cx.at kk⟩
      refine ⟨d2, d4, g4, _, (ru.keep k3).keep k4, rz, r4, q4, fun d5 g5 w5 H5 q5 k5 r5 rw5 => ?_⟩
      split at q5
      · exact ⟨_, rw5, cl _ _ _ q5 ((kk.trans k4).trans k5) r5⟩
      · exact q5.elim
    | false => rw [if_neg Bool.false_ne_true] at q3 ⊢; exact ⟨_, rfl, cl _ _ _ q3 kk r3⟩
  · exact q3.elim
end
end PP
set_option maxHeartbeats 2000000
namespace PP
open PySem PySem.Spec PyProof.Rows L2
inductive Grown : Hp → Hp → Prop
  | refl (H : Hp) : Grown H H
  | step {H H' : Hp} {T : Addr} {xs : List V} : Grown H H' → H' T = none → Grown H (upd H' T (.tup xs))
theorem Grown.tk {H H' : Hp} (g : Grown H H') : TK H H' := by
  induction g with
  | refl => exact .refl _
  | step _ h ih => exact ih.trans (.new h)
theorem Grown.rep {K : PySem.W.Frag} {H H' : Hp} (g : Grown H H') {e : G} (r : RepG K H e) : RepG K H' e := by
  induction g with
  | refl => exact r
  | step _ h ih => exact ih.tup h
theorem Grown.at {H H' : Hp} (g : Grown H H') {b : Addr} {o : HO} (e : H b = some o) : H' b = some o := by
  induction g with
  | refl => exact e
  | step _ h ih => rw [upd_ne (ne_of_none ih h)]; exact ih
abbrev ZSt (z TI TO i1 i2 l1 l2 S : Addr) (xs ys : Array Value) (i : Nat) (h : Heap) : Prop :=
  IsPair h TI (.ref i1) (.ref i2) ∧ h.IsListIter i1 l1 i ∧ h.IsListIter i2 l2 i ∧ h.IsList l1 xs ∧ h.IsList l2 ys ∧
    ((IsZip h z TI TO .none ∧ ∃ a b, IsPair h TO a b) ∨ ∃ T f oT, IsZipHeld h z TI TO T f ∧ h.get? T = some oT ∧ T ≠ z ∧ T ≠ i1 ∧ T ≠ i2 ∧ T ≠ S)
section
variable {prog : Program} {w : World} {A : Around} {E : Value → Shared → Prop} {s : Shared} {z TI TO i1 i2 l1 l2 S : Addr} {xs ys : Array Value} {i : Nat}
theorem zst_frame {h h' : Heap} (st : ZSt z TI TO i1 i2 l1 l2 S xs ys i h) (hS : S ∉ [z, TI, TO, i1, i2, l1, l2]) (hk : ∀ b o, b ≠ S → h.get? b = some o → h'.get? b = some o) : ZSt z TI TO i1 i2 l1 l2 S xs ys i h' := by
  simp only [List.mem_cons, List.not_mem_nil, or_false, not_or] at hS
  obtain ⟨dz, dTI, dTO, di1, di2, dl1, dl2⟩ := hS
  obtain ⟨hTI, h1, h2, hl1, hl2, hz⟩ := st
  refine ⟨hk _ _ (Ne.symm dTI) hTI, h1.at fun o e => hk _ o (Ne.symm di1) e, h2.at fun o e => hk _ o (Ne.symm di2) e, hl1.at fun o e => hk _ o (Ne.symm dl1) e, hl2.at fun o e => hk _ o (Ne.symm dl2) e, ?_⟩
  rcases hz with ⟨hz, a, b, hTO⟩ | ⟨T, f, oT, hz, hT, r1, r2, r3, r4⟩
  · exact .inl ⟨hk _ _ (Ne.symm dz) hz, a, b, hk _ _ (Ne.symm dTO) hTO⟩
  · exact .inr ⟨T, f, oT, hk _ _ (Ne.symm dz) hz, hk _ _ r4 hT, r1, r2, r3, r4⟩
theorem zst_item (D : ZipApart z TI TO i1 i2 l1 l2) (st : ZSt z TI TO i1 i2 l1 l2 S xs ys i s.heap) (hS : S < s.heap.objs.size) (hix : i < xs.size) (hiy : i < ys.size) {Q : Option Value → Shared → Prop}
    (hQ : ∀ h' x y, xs[i]? = some x → ys[i]? = some y → ZSt z TI TO i1 i2 l1 l2 S xs ys (i + 1) h' → IsPair h' s.heap.objs.size x y → h'.objs.size = s.heap.objs.size + 1 → (∀ c o, c ∉ [z, TI, TO, i1, i2] → s.heap.get? c = some o → h'.get? c = some o) → Q (some (.ref s.heap.objs.size)) { s with heap := h' }) :
    wpAny (model prog w) A (pyNext (.ref z)) Q E s := by
  obtain ⟨hTI, h1, h2, hl1, hl2, hz⟩ := st
  have ex := Array.getElem?_eq_getElem hix
  have ey := Array.getElem?_eq_getElem hiy
  have lt : ∀ {c o}, s.heap.get? c = some o → s.heap.objs.size ≠ c := fun e => Nat.ne_of_gt (Heap.lt_size e)
  have n1 : s.heap.objs.size ≠ i1 := let ⟨_, e, _⟩ := h1; lt e
  have n2 : s.heap.objs.size ≠ i2 := let ⟨_, e, _⟩ := h2; lt e
  rcases hz with ⟨hz, a, b, hTO⟩ | ⟨T, f, oT, hz, hT, r1, r2, r3, r4⟩
  · refine wpAny_pyNext_zip_item D hz hTI hTO h1 h2 hl1 hl2 ex ey fun h' a1 a2 a3 a4 a5 a6 hk => ?_
    exact hQ h' _ _ ex ey
      ⟨hk _ _ D.TIz D.TITO D.TIi1 D.TIi2 hTI, a3, a4, hl1.at fun o e => hk _ o D.l1z D.l1TO D.l1i1 D.l1i2 e, hl2.at fun o e => hk _ o D.l2z D.l2TO D.l2i1 D.l2i2 e,
        .inr ⟨s.heap.objs.size, false, _, a1, a5, lt hz, n1, n2, Nat.ne_of_gt hS⟩⟩ a5 a6
      fun c o hc e => hk c o (fun x => hc (by simp [x])) (fun x => hc (by simp [x])) (fun x => hc (by simp [x])) (fun x => hc (by simp [x])) e
  · refine wpAny_pyNext_zip_item_held D hz hT hTI h1 h2 hl1 hl2 ex ey fun h' a1 a3 a4 a5 a6 hk => ?_
    exact hQ h' _ _ ex ey
      ⟨hk _ _ D.TIz D.TIi1 D.TIi2 hTI, a3, a4, hl1.at fun o e => hk _ o D.l1z D.l1i1 D.l1i2 e, hl2.at fun o e => hk _ o D.l2z D.l2i1 D.l2i2 e,
        .inr ⟨T, true, oT, a1, hk _ _ r1 r2 r3 hT, r1, r2, r3, r4⟩⟩ a5 a6
      fun c o hc e => hk c o (fun x => hc (by simp [x])) (fun x => hc (by simp [x])) (fun x => hc (by simp [x])) e
theorem zst_done (hh : A.handled = none) (D : ZipApart z TI TO i1 i2 l1 l2) (st : ZSt z TI TO i1 i2 l1 l2 S xs ys i s.heap) (hi : i = min xs.size ys.size) {Q : Option Value → Shared → Prop}
    (hQ : ∀ h', (∀ c o, c ∉ [z, TI, TO, i1, i2] → s.heap.get? c = some o → h'.get? c = some o) → Q none { s with heap := h' }) : wpAny (model prog w) A (pyNext (.ref z)) Q E s := by
  obtain ⟨hTI, h1, h2, hl1, hl2, hz⟩ := st
  have hend : xs[i]? = none ∨ ys[i]? = none := by
    rw [hi]
    rcases Nat.le_total xs.size ys.size with h | h
    · exact .inl (Array.getElem?_eq_none (by rw [Nat.min_eq_left h]; exact Nat.le_refl _))
    · exact .inr (Array.getElem?_eq_none (by rw [Nat.min_eq_right h]; exact Nat.le_refl _))
  rcases hz with ⟨hz, a, b, hTO⟩ | ⟨T, f, oT, hz, hT, r1, r2, r3, r4⟩
  · exact wpAny_pyNext_zip_end hh D hz hTI hTO h1 h2 hl1 hl2 hend fun h' hk => hQ h' fun c o hc e => hk c o (fun x => hc (by simp [x])) (fun x => hc (by simp [x])) (fun x => hc (by simp [x])) (fun x => hc (by simp [x])) e
  · exact wpAny_pyNext_zip_end_held hh D hz hT hTI h1 h2 hl1 hl2 hend fun h' hk => hQ h' fun c o hc e => hk c o (fun x => hc (by simp [x])) (fun x => hc (by simp [x])) (fun x => hc (by simp [x])) e
end
def Made (xs ys : List V) (H : Hp) (ts : List Addr) : Prop := ∀ (j : Nat) (T : Addr), ts[j]? = some T → ∃ x y, xs[j]? = some x ∧ ys[j]? = some y ∧ H T = some (.tup [x, y])
theorem Made.snoc {xs ys : List V} {H : Hp} {ts : List Addr} {T : Addr} {x y : V} (m : Made xs ys H ts) (hx : xs[ts.length]? = some x) (hy : ys[ts.length]? = some y) (hT : H T = none) : Made xs ys (upd H T (.tup [x, y])) (ts ++ [T]) := fun j U e => by
  rw [List.getElem?_append] at e
  split at e
  · obtain ⟨x', y', a, b, c⟩ := m j U e
    exact ⟨x', y', a, b, by rw [upd_ne (ne_of_none c hT)]; exact c⟩
  · rw [List.getElem?_singleton] at e
    split at e
    · cases e
      have : j = ts.length := by omega
      subst this
      exact ⟨x, y, hx, hy, upd_same⟩
    · cases e
section
variable {X : Cx} {pins : List (Addr × Obj)} {σ : L2.St} {z TI TO i1 i2 a b S : Addr} {its its2 : List Value} {xs ys : List V} {n : Nat} {res : Value} {R : Result → Shared → Prop} {H : Hp}
theorem extend_zip (D : ZipApart z TI TO i1 i2 a b) (rv : Vals xs its) (rv2 : Vals ys its2) (hS : S ∉ [z, TI, TO, i1, i2, a, b]) (hn : n = min its.length its2.length) (hz : n ≤ sizeLine) {b0 : Nat} (hb0 : ∀ b ∈ [z, TI, TO, i1, i2, S], b < b0)
    (hR : ∀ s' H' ts c', Inv X pins σ H' s' → Grown H H' → (∀ b ∈ [z, TI, TO, i1, i2, S], FpOk X pins H' b) → ts.length = n → Made xs ys H' ts → s'.heap.get? S = some { cls := .type "list", dict := none, data := .seq (ts.map Value.ref).toArray c', slots := #[] } → R (.ok (.ret res)) s') :
    ∀ (k i : Nat) (A : Around) (s : Shared) (H' : Hp) (ts : List Addr) (acc : Array Value) (c : Nat), n - i = k → i ≤ n → A.handled = none → Inv X pins σ H' s → Grown H H' → (∀ b ∈ [z, TI, TO, i1, i2, S], FpOk X pins H' b) → ts.length = i → Made xs ys H' ts → ZSt z TI TO i1 i2 a b S its.toArray its2.toArray i s.heap → acc = (ts.map Value.ref).toArray →
      s.heap.get? S = some { cls := .type "list", dict := none, data := .seq acc c, slots := #[] } → b0 ≤ s.heap.objs.size → codeAny (model X.prog X.w) A (.builtin "list.extend.loop" ⟨[.ref S, .ref z, res], []⟩) R s := by
  have hS' := hS
  simp only [List.mem_cons, List.not_mem_nil, or_false, not_or] at hS'
  obtain ⟨dz, dTI, dTO, di1, di2, dl1, dl2⟩ := hS'
  have hSw : S ∉ [z, TI, TO, i1, i2] := by simp only [List.mem_cons, List.not_mem_nil, or_false, not_or]; exact ⟨dz, dTI, dTO, di1, di2⟩
  have sub : ∀ {b}, b ∉ [z, TI, TO, i1, i2, S] → b ∉ [z, TI, TO, i1, i2] := fun {b} h h2 => h (by simp only [List.mem_cons, List.not_mem_nil, or_false] at h2 ⊢; rcases h2 with h | h | h | h | h <;> simp [h])
  intro k
  induction k with
  | zero =>
    intro i A s H' ts acc c hk hi hh I gr hf hl hm st hacc hSg hb
    have hin : i = n := by omega
    refine codeAny_builtin F.entry_extend_loop ?_
    rw [Around.under_plainId F.plain_extend_loop _]
    show wpAny _ A.in1 (pyNext (.ref z) >>= _) _ _ s
    refine wpAny_bind (zst_done (A := A.in1) hh D st (by rw [hin, hn, List.size_toArray, List.size_toArray]) fun h' hk => ?_)
    have I1 : Inv X pins σ H' { s with heap := h' } := I.turnedL (t' := s.toks) (ch := [z, TI, TO, i1, i2, S]) (fun c o hb q => hk c o (sub hb) q) hf
    exact wpAny_pure (hR _ H' ts c I1 gr hf (by omega) hm (by rw [← hacc]; exact hk S _ hSw hSg))
  | succ k ih =>
    intro i A s H' ts acc c hk hi hh I gr hf hl hm st hacc hSg hb
    have hlt : i < n := by omega
    have hSl : S < s.heap.objs.size := Heap.lt_size hSg
    refine codeAny_builtin F.entry_extend_loop ?_
    rw [Around.under_plainId F.plain_extend_loop _]
    show wpAny _ A.in1 (pyNext (.ref z) >>= _) _ _ s
    refine wpAny_bind (zst_item (A := A.in1) D st hSl (by rw [List.size_toArray]; omega) (by rw [List.size_toArray]; omega) fun h' u v hu hv st' hp hsz' hk => ?_)
    have hSg' := hk S _ hSw hSg
    rw [List.getElem?_toArray] at hu hv
    have l1 := rv.length
    have l2 := rv2.length
    obtain ⟨x, hx⟩ : ∃ x, xs[i]? = some x := ⟨xs[i]'(by omega), List.getElem?_eq_getElem (by omega)⟩
    obtain ⟨y, hy⟩ : ∃ y, ys[i]? = some y := ⟨ys[i]'(by omega), List.getElem?_eq_getElem (by omega)⟩
    obtain ⟨u', hu', rx⟩ := rv.get hx
    obtain ⟨v', hv', ry⟩ := rv2.get hy
    rw [hu'] at hu; cases hu
    rw [hv'] at hv; cases hv
    have hfr : H' s.heap.objs.size = none := I.hok.fresh (Nat.le_refl _)
    show wpAny _ A.in1 (updateSeq S (·.push (.ref s.heap.objs.size)) >>= _) _ _ _
    have hup : ∀ c o, c ≠ S → h'.get? c = some o → (h'.update S (Obj.mapSeq (·.push (.ref s.heap.objs.size)))).get? c = some o := fun c o hc e => (Heap.get?_update_other _ _ (Ne.symm hc)).trans e
    have hsz : acc.size = i := by rw [hacc, List.size_toArray, List.length_map, hl]
    have new : ObjOk X.prog X.w (upd H' s.heap.objs.size (.tup [x, y])) (h'.update S (Obj.mapSeq (·.push (.ref s.heap.objs.size)))) s.heap.objs.size (.tup [x, y]) :=
      ⟨by show 2 ≤ sizeLine; decide, [u, v], .cons rx (.cons ry .nil), ⟨_, hup _ _ (Nat.ne_of_gt hSl) hp, rfl, _, rfl⟩⟩
    have I1 : Inv X pins σ (upd H' s.heap.objs.size (.tup [x, y])) { s with heap := h'.update S (Obj.mapSeq (·.push (.ref s.heap.objs.size))) } :=
      I.turnedNew (t' := s.toks) (ch := [z, TI, TO, i1, i2, S]) (fun c o hb q => hup c o (fun e => hb (by simp [e])) (hk c o (sub hb) q)) hf (Nat.le_refl _) new
    have hf1 : ∀ b ∈ [z, TI, TO, i1, i2, S], FpOk X pins (upd H' s.heap.objs.size (.tup [x, y])) b := fun b hb' => by
      have q := hf b hb'
      refine ⟨?_, q.2⟩
      rw [upd_ne (Nat.ne_of_lt (Nat.lt_of_lt_of_le (hb0 _ hb') hb))]
      exact q.1
    refine wpAny_bind ?_
    refine wpAny_updateSeq hSg' rfl (wpAny_pure ⟨plainId_quiet F.plain_extend_loop _, ih (i + 1) A _ _ (ts ++ [s.heap.objs.size]) (acc.push (.ref s.heap.objs.size)) _ (by omega) hlt hh I1 (gr.step hfr) hf1 (by simp [hl]) (hm.snoc (by rw [hl]; exact hx) (by rw [hl]; exact hy) hfr) (zst_frame st' hS fun c o hc e => hup c o hc e) (by rw [hacc]; simp) (Heap.get?_update_self _ hSg' rfl) (by show b0 ≤ (h'.update S _).objs.size; rw [(Heap.SameBut.update ..).1, hsz']; omega)⟩)
      (by rw [hsz]; omega) (by show (acc.push _).size ≤ sizeLine + 1; rw [Array.size_push, hsz]; omega)
theorem zip_no_len : typeLookup (.type "zip") "__len__" = pure none := by rw [typeLookup_type, builtinLookup_eq_fast]; kernel_rfl
theorem zip_no_hint : typeLookup (.type "zip") "__length_hint__" = pure none := by rw [typeLookup_type, builtinLookup_eq_fast]; kernel_rfl
theorem collect_zip {A : Around} {s : Shared} {E : Value → Shared → Prop} {Q : List Value → Shared → Prop} (D : ZipApart z TI TO i1 i2 a b) (rv : Vals xs its) (rv2 : Vals ys its2) (hn : n = min its.length its2.length) (hz : n ≤ sizeLine) (hh : A.handled = none) (I : Inv X pins σ H s)
    (hf : ∀ b ∈ [z, TI, TO, i1, i2], FpOk X pins H b) (hlt : ∀ c ∈ [z, TI, TO, i1, i2, a, b], c < s.heap.objs.size)
    (h0 : IsPair s.heap TI (.ref i1) (.ref i2) ∧ s.heap.IsListIter i1 a 0 ∧ s.heap.IsListIter i2 b 0 ∧ s.heap.IsList a its.toArray ∧ s.heap.IsList b its2.toArray ∧ IsZip s.heap z TI TO .none ∧ ∃ a b, IsPair s.heap TO a b)
    (hQ : ∀ s' H' ts, Inv X pins σ H' s' → Grown H H' → ts.length = n → Made xs ys H' ts → Q (ts.map Value.ref) s') : wpAny (model X.prog X.w) A (collect (.ref z)) Q E s := by
  obtain ⟨g1, g2, g3, g4, g5, g6, ta, tb, g7⟩ := h0
  have hS : s.heap.objs.size ∉ [z, TI, TO, i1, i2, a, b] := fun hm => Nat.lt_irrefl _ (hlt _ hm)
  have hSz : s.heap.objs.size ≠ z := fun e => hS (by simp [e])
  have hfS : FpOk X pins H s.heap.objs.size := I.fpOk (Nat.le_refl _) (I.hok.fresh (Nat.le_refl _))
  unfold collect
  refine wpAny_bind (wpAny_runValue (codeAny_builtin F.entry_proto_collect ?_))
  rw [Around.under_plainId F.plain_proto_collect _]
  show wpAny _ A.in1 (newList [] >>= fun l => again (.builtin "list.__iadd__" ⟨[l, .ref z], []⟩)) _ _ s
  refine wpAny_bind (wpAny_newObj_type ?_)
  refine wpAny_pure ⟨plainId_quiet F.plain_list_iadd _, codeAny_builtin F.entry_list_iadd ?_⟩
  rw [Around.under_plainId F.plain_list_iadd _]
  have hS₁ : (s.heap.push { cls := .type "list", data := .seq ([] : List Value).toArray }).get? s.heap.objs.size = some { cls := .type "list", data := .seq ([] : List Value).toArray } := Heap.get?_push_size _ rfl
  have k1 : ∀ b o, s.heap.get? b = some o → (s.heap.push { cls := .type "list", data := .seq ([] : List Value).toArray }).get? b = some o := fun b o e => Heap.get?_push_of_some _ e
  have hT : ({ s with heap := s.heap.push { cls := .type "list", data := .seq ([] : List Value).toArray } } : Shared).TypeIs (.ref z) "zip" := ⟨_, k1 _ _ g6, rfl⟩
  show wpAny _ A.in1 (Builtin.List.listExtendWith (.ref s.heap.objs.size) (.ref z) (.ref s.heap.objs.size)) _ _ _
  unfold Builtin.List.listExtendWith
  refine wpAny_bind (wpAny_typeOf hT ?_)
  have h1 : Builtin.List.listSameRef (.ref s.heap.objs.size) (.ref z) = false := by simp [Builtin.List.listSameRef, hSz]
  have h2 : (Value.type "zip" == Value.type "list") = false := by decide
  have h3 : (Value.type "zip" == Value.type "tuple") = false := by decide
  simp only [h1, h2, h3, Bool.or_false, Bool.false_eq_true, if_false]
  refine wpAny_bind (wpAny_pyIter_zip (s := { s with heap := s.heap.push { cls := .type "list", data := .seq ([] : List Value).toArray } }) (k1 _ _ g6) ?_)
  refine wpAny_bind (wpAny_holding ?_)
  unfold Builtin.List.listLengthHint
  refine wpAny_bind (wpAny_specialOf hT zip_no_len ?_)
  show wpAny _ A.in1 (specialOf (Value.ref z) (Str.ofString "__length_hint__") >>= _) _ _ _
  refine wpAny_bind (wpAny_specialOf hT zip_no_hint ?_)
  refine wpAny_pure ?_
  show wpAny _ A.in1 (rule "list.extend.makes-room" >>= fun _ => Builtin.List.listTouch (.ref s.heap.objs.size) >>= fun _ =>
    again (.builtin "list.extend.loop" ⟨[.ref s.heap.objs.size, .ref z, .ref s.heap.objs.size], []⟩)) _ _ _
  refine wpAny_bind (wpAny_rule ?_)
  refine wpAny_bind ?_
  show wpAny _ A.in1 (updateSeq s.heap.objs.size (·.push .none) >>= fun _ => updateSeq s.heap.objs.size (·.pop)) _ _ _
  refine wpAny_bind (wpAny_updateSeq hS₁ rfl ?_)
  have hS₂ := Heap.get?_update_self (Obj.mapSeq (·.push Value.none)) hS₁ rfl
  refine wpAny_updateSeq hS₂ rfl ?_
  have hS₃ := Heap.get?_update_self (Obj.mapSeq (·.pop)) hS₂ rfl
  have oth : ∀ b o, b ≠ s.heap.objs.size → s.heap.get? b = some o →
      (((s.heap.push { cls := .type "list", data := .seq ([] : List Value).toArray }).update s.heap.objs.size (Obj.mapSeq (·.push Value.none))).update s.heap.objs.size (Obj.mapSeq (·.pop))).get? b = some o :=
    fun b o hb e => (Heap.get?_update_other _ _ (Ne.symm hb)).trans ((Heap.get?_update_other _ _ (Ne.symm hb)).trans (k1 b o e))
  have ne : ∀ {c}, c ∈ [z, TI, TO, i1, i2, a, b] → c ≠ s.heap.objs.size := fun hc e => hS (e ▸ hc)
  have I1 : Inv X pins σ H { s with heap := ((s.heap.push { cls := .type "list", data := .seq ([] : List Value).toArray }).update s.heap.objs.size (Obj.mapSeq (·.push Value.none))).update s.heap.objs.size (Obj.mapSeq (·.pop)) } :=
    I.turnedL (t' := s.toks) (ch := [s.heap.objs.size]) (fun b o hb e => oth b o (fun q => hb (by simp [q])) e) (fun b hb => by rw [List.mem_singleton.mp hb]; exact hfS)
  have st : ZSt z TI TO i1 i2 a b s.heap.objs.size its.toArray its2.toArray 0 (((s.heap.push { cls := .type "list", data := .seq ([] : List Value).toArray }).update s.heap.objs.size (Obj.mapSeq (·.push Value.none))).update s.heap.objs.size (Obj.mapSeq (·.pop))) :=
    ⟨oth _ _ (ne (by simp)) g1, g2.at fun o e => oth _ o (ne (by simp)) e, g3.at fun o e => oth _ o (ne (by simp)) e, g4.at fun o e => oth _ o (ne (by simp)) e, g5.at fun o e => oth _ o (ne (by simp)) e, .inl ⟨oth _ _ (ne (by simp)) g6, ta, tb, oth _ _ (ne (by simp)) g7⟩⟩
  have hszz : (((s.heap.push { cls := .type "list", data := .seq ([] : List Value).toArray }).update s.heap.objs.size (Obj.mapSeq (·.push Value.none))).update s.heap.objs.size (Obj.mapSeq (·.pop))).objs.size = s.heap.objs.size + 1 := by
    rw [(Heap.SameBut.update ..).1, (Heap.SameBut.update ..).1, Heap.size_push]
  refine wpAny_pure ⟨plainId_quiet F.plain_extend_loop _, extend_zip (X := X) (pins := pins) (σ := σ) (H := H) (n := n) (b0 := s.heap.objs.size + 1) D rv rv2 hS hn hz (fun c hc => ?_) (fun s' H' ts c' I' gr _ hl hm hSg => ?_) n 0 A _ H [] #[] _ rfl (Nat.zero_le _) hh I1 (.refl _) (fun c hc => ?_) rfl (fun j T e => by simp at e) st rfl hS₃ (Nat.le_of_eq hszz.symm)⟩
  · simp only [List.mem_cons, List.not_mem_nil, or_false] at hc
    rcases hc with rfl | rfl | rfl | rfl | rfl | rfl
    all_goals first | exact Nat.lt_succ_self _ | exact Nat.lt_succ_of_lt (hlt _ (by simp))
  · show wpAny _ A (load s.heap.objs.size >>= _) _ _ s'
    refine wpAny_bind (wpAny_load hSg ?_)
    refine wpAny_pure ?_
    have := hQ s' H' ts I' gr hl hm
    simpa using this
  · simp only [List.mem_cons, List.not_mem_nil, or_false] at hc
    rcases hc with rfl | rfl | rfl | rfl | rfl | rfl
    all_goals first | exact hfS | exact hf _ (by simp)
theorem call_tuple_zip {A : Around} {s : Shared} {E : Value → Shared → Prop} {Q : Value → Shared → Prop} (D : ZipApart z TI TO i1 i2 a b) (rv : Vals xs its) (rv2 : Vals ys its2) (hn : n = min its.length its2.length) (hz : n ≤ sizeLine) (hh : A.handled = none) (I : Inv X pins σ H s)
    (hf : ∀ b ∈ [z, TI, TO, i1, i2], FpOk X pins H b) (hlt : ∀ c ∈ [z, TI, TO, i1, i2, a, b], c < s.heap.objs.size)
    (h0 : IsPair s.heap TI (.ref i1) (.ref i2) ∧ s.heap.IsListIter i1 a 0 ∧ s.heap.IsListIter i2 b 0 ∧ s.heap.IsList a its.toArray ∧ s.heap.IsList b its2.toArray ∧ IsZip s.heap z TI TO .none ∧ ∃ a b, IsPair s.heap TO a b)
    (hQ : ∀ s' H' ts, Inv X pins σ H' s' → Grown H H' → ts.length = n → Made xs ys H' ts → Q (.ref s'.heap.objs.size) { s' with heap := s'.heap.push { cls := .type "tuple", data := .seq (ts.map Value.ref).toArray } }) :
    wpAny (model X.prog X.w) A (call (.type "tuple") [.ref z]) Q E s := by
  have code : codeAny (model X.prog X.w) A.in1 (.call (.builtin "tuple.__new__") ⟨[.type "tuple", .ref z], []⟩) (wants (fun obj s₁ => s₁.TypeIs obj "tuple" ∧ Q obj s₁) E) s := by
    refine codeAny_of_tree ?_
    show wpAny _ A.in1.in1 (do checkBuiltinCall "tuple.__new__" ⟨[.type "tuple", .ref z], []⟩; again (.builtin "tuple.__new__" ⟨[.type "tuple", .ref z], []⟩)) _ _ s
    refine wpAny_bind (wpAny_of_eq (F.newCall_tuple_1 _) (wpAny_pure ⟨plainId_quiet F.plain_tuple_new _, codeAny_builtin F.entry_tuple_new ?_⟩))
    rw [Around.under_plainId F.plain_tuple_new _]
    have hsub := sub_tuple_self
    have hinit := init_tuple_lookup
    have hmh := madeHere_tuple
    have hTI : s.TypeIs (.ref z) "zip" := ⟨_, h0.2.2.2.2.2.1, rfl⟩
    have hh1 : A.in1.in1.handled = none := hh
    wp_walk using wpAny_typeOf hTI, collect_zip (A := A.in1.in1) D rv rv2 hn hz hh1 I hf hlt h0
    intro s' H' ts I' gr hl hm
    show wpAny _ _ (Builtin.Tuple.tupleExact (ts.map Value.ref).toArray >>= fun v => ret v) _ _ _
    unfold Builtin.Tuple.tupleExact
    refine wpAny_bind (wpAny_newObj_type ?_ (by show (ts.map Value.ref).toArray.size ≤ sizeLine; rw [List.size_toArray, List.length_map, hl]; exact hz))
    exact wpAny_pure ⟨⟨_, Heap.get?_push_size _ rfl, rfl⟩, hQ s' H' ts I' gr hl hm⟩
  refine callType_codes (Q₁ := fun obj s₁ => s₁.TypeIs obj "tuple" ∧ Q obj s₁) F.called_tuple (F.typeCall_tuple_1 _) F.entry_object_init code fun obj s₁ h₁ => ?_
  exact ⟨h₁.1, F.args_object_init_2 obj _, object_init_meets F.called_tuple.init.lookup F.called_tuple.made (by decide) X.prog X.w A.in1 _ s₁ ⟨h₁.1, rfl, h₁.2⟩⟩
end
def tTupZip (K : PySem.W.Frag) (ta : TA) : TE := fun σ H Q => ta σ H fun vs H1 => ∃ a b xs ys, vs = [.ref a, .ref b] ∧ SqL K H1 a xs ∧ SqL K H1 b ys ∧
  ∀ H2 ts q, Grown H1 H2 → ts.length = min xs.length ys.length → Made xs ys H2 ts → H2 q = none → Q (.ref q) (upd H2 q (.tup (ts.map V.ref)))
theorem vals_refs : ∀ ts : List Addr, Vals (ts.map V.ref) (ts.map Value.ref)
  | [] => .nil
  | _ :: ts => .cons rfl (vals_refs ts)
section
variable {X : Cx} {C : Ex → Addr} {W : WX} {e e2 : Expr} {ta tb : DTE} {p p2 pos pos2 : Pos}
theorem pe_tupZip {t : TA} (hc : X.calm = true) (hg : Gl X "tuple") (hm : X.mg "tuple" = none) (hg2 : Gl X "zip") (hm2 : X.mg "zip" = none) (ha : PA X [e, e2] t)
    (hs : starEach [e, e2] X.env = (false, eval e X.env) :: starEach [e2] X.env) (hpl : (backTo pos2 (starEach [e2] X.env)).any (·.1) = false)
    (hs2 : starEach [.Call (.Name "zip" p2) [e, e2] [] pos2] X.env = (false, eval (.Call (.Name "zip" p2) [e, e2] [] pos2) X.env) :: starEach [] X.env) :
    PE X (.Call (.Name "tuple" p) [.Call (.Name "zip" p2) [e, e2] [] pos2] [] pos) (tTupZip X.K t) := by
  refine ⟨fun pins s σ H Q I h => ?_⟩
  refine Call_ (ld_blt I hg hm boot_tuple (PyProof.Rows.callWith_type1 (args_cons (Call_ (ld_blt I hg2 hm2 PyProof.Rows.boot_zip (PyProof.Rows.callWith_type1 (thn (ha.run pos2 pins s σ H _ I h) fun us s1 ⟨vs, H1, I1, r1, q1⟩ => ?_) hs hpl))) hs2) hs2 rfl))
  obtain ⟨a, b, xs, ys, ex, hqx, hqy, q⟩ := q1
  subst ex
  cases r1 with
  | cons r rr =>
    cases rr with
    | cons r' rr =>
      cases rr
      cases r
      cases r'
      obtain ⟨its, rv, p1, hz1⟩ := I1.list hqx
      obtain ⟨its2, rv2, p2, _⟩ := I1.list hqy
      have l1 := rv.length
      have l2 := rv2.length
      have fresh5 : ∀ c, c ∈ [s1.heap.objs.size + 4, s1.heap.objs.size + 2, s1.heap.objs.size + 3, s1.heap.objs.size, s1.heap.objs.size + 1] → FpOk X pins H1 c := fun c hcm => by
        have e' : c = s1.heap.objs.size + 4 ∨ c = s1.heap.objs.size + 2 ∨ c = s1.heap.objs.size + 3 ∨ c = s1.heap.objs.size ∨ c = s1.heap.objs.size + 1 := by simpa using hcm
        have hle : s1.heap.objs.size ≤ c := by omega
        exact I1.fpOk hle (I1.hok.fresh hle)
      refine call_zip_2 p1.isList p2.isList fun h' hz hTI hTO h1 h2 hsz hk => args_nil ?_
      have I2 : Inv X pins σ H1 { s1 with heap := h' } := I1.kept (t' := s1.toks) hk
      have hla := p1.lt
      have hlb := p2.lt
      refine call_tuple_zip (s := { s1 with heap := h' }) (X := X) (pins := pins) (σ := σ) (H := H1) (n := min its.length its2.length) (PySem.W.ktu_apart s1.heap.objs.size a b p1.lt p2.lt) rv rv2 rfl (by omega) (I1.ok.hd hc) I2 fresh5 (fun c hcm => ?_)
        ⟨hTI, h1, h2, p1.isList.at fun o e => hk _ o e, p2.isList.at fun o e => hk _ o e, hz, _, _, hTO⟩ fun s' H' ts I' gr hl hm' => ?_
      · simp only [List.mem_cons, List.not_mem_nil, or_false] at hcm
        show c < h'.objs.size
        rw [hsz]
        rcases hcm with h | h | h | h | h | h | h
        · rw [h]; exact Nat.lt_succ_self _
        · rw [h]; exact Nat.add_lt_add_left (by decide) _
        · rw [h]; exact Nat.add_lt_add_left (by decide) _
        · rw [h]; exact Nat.lt_add_of_pos_right (by decide)
        · rw [h]; exact Nat.add_lt_add_left (by decide) _
        · rw [h]; exact Nat.lt_of_lt_of_le hla (Nat.le_add_right _ _)
        · rw [h]; exact Nat.lt_of_lt_of_le hlb (Nat.le_add_right _ _)
      · have hfr := I'.hok.fresh (Nat.le_refl s'.heap.objs.size)
        refine ⟨.ref _, _, I'.laid (t' := s'.toks) (o := .tup (ts.map V.ref)) (fun b ob q => Heap.get?_push_of_some _ q) (Nat.le_refl _) ?_, rfl, q H' ts _ gr (by omega) hm' hfr⟩
        exact ⟨by rw [List.length_map, hl]; omega, _, vals_refs ts, ⟨_, Heap.get?_push_size _ rfl, rfl, _, rfl⟩⟩
def dTupZ : D → D → G → QD → Prop
  | .ref a, .ref b => fun g Q => match g a, g b with | some xs, some ys => Q (.tup (zipD xs ys)) g | _, _ => False
  | _, _ => fun _ _ => False
theorem made_rep {K : PySem.W.Frag} {H H2 : Hp} {ds es : List D} {xs ys : List V} (k : TK H H2) (r : RepL K H ds xs) (r2 : RepL K H es ys) : ∀ {ts : List Addr}, ts.length = min xs.length ys.length → Made xs ys H2 ts → RepL K H2 (zipD ds es) (ts.map V.ref) := by
  intro ts
  induction ts generalizing ds es xs ys with
  | nil =>
    intro hl _
    have e : ds = [] ∨ es = [] := by
      have := r.length
      have := r2.length
      simp only [List.length_nil] at hl
      rcases Nat.eq_zero_or_pos ds.length with h | h
      · exact .inl (List.length_eq_zero_iff.mp h)
      · exact .inr (List.length_eq_zero_iff.mp (by omega))
    rcases e with rfl | rfl
    · rfl
    · cases ds <;> rfl
  | cons T ts ih =>
    intro hl hm
    obtain ⟨x, y, hx, hy, hT⟩ := hm 0 T rfl
    cases xs with
    | nil => cases hx
    | cons x' xs =>
      cases ys with
      | nil => cases hy
      | cons y' ys =>
        simp only [List.getElem?_cons_zero, Option.some.injEq] at hx hy
        subst hx hy
        cases ds with
        | nil => cases (show _ = [] from r)
        | cons d ds =>
          cases es with
          | nil => cases (show _ = [] from r2)
          | cons e es =>
            obtain ⟨v, q, e1, h1, t1⟩ := r
            obtain ⟨v2, q2, e2, h2, t2⟩ := r2
            cases e1
            cases e2
            refine ⟨.ref T, ts.map V.ref, rfl, ⟨T, [x', y'], rfl, .inl hT, ⟨x', [y'], rfl, h1.keep k, ⟨y', [], rfl, h2.keep k, rfl⟩⟩⟩, ih t1 t2 (by simp only [List.length_cons] at hl; omega) fun j U e => ?_⟩
            obtain ⟨x, y, a1, a2, a3⟩ := hm (j + 1) U (by simpa using e)
            exact ⟨x, y, by simpa using a1, by simpa using a2, a3⟩
theorem d_tupZ (hc : X.calm = true) (hg : Gl X "tuple") (hm : X.mg "tuple" = none) (hg2 : Gl X "zip") (hm2 : X.mg "zip" = none) (ha : PE X e (up X.K C W ta)) (hb : PE X e2 (up X.K C W tb))
    (hs : starEach [e, e2] X.env = (false, eval e X.env) :: starEach [e2] X.env) (hs3 : starEach [e2] X.env = [(false, eval e2 X.env)]) (hpl : (backTo pos2 (starEach [e2] X.env)).any (·.1) = false)
    (hs2 : starEach [.Call (.Name "zip" p2) [e, e2] [] pos2] X.env = (false, eval (.Call (.Name "zip" p2) [e, e2] [] pos2) X.env) :: starEach [] X.env) :
    PE X (.Call (.Name "tuple" p) [.Call (.Name "zip" p2) [e, e2] [] pos2] [] pos) (up X.K C W (dBin dTupZ ta tb)) := by
  refine pe_imp (pe_tupZip hc hg hm hg2 hm2 (pa_cons ha (pa_cons hb pa_nil hs3) hs) hs hpl hs2) fun σ H Q ⟨env, g, Xd, Qd, re, rg, t, cl, cx⟩ => ?_
  refine ⟨env, g, Xd, _, re, rg, t, fun d g1 v H1 q k r rv => ?_, cx⟩
  refine ⟨env, g1, Xd, _, re.keep k, r, q, fun d2 g2 v2 H2 q2 k2 r2 rv2 => ?_, cx.at k⟩
  dsimp only at q2
  unfold dTupZ at q2
  have kk := k.trans k2
  split at q2
  · obtain ⟨hc1, rfl⟩ := rv
    obtain ⟨hc2, rfl⟩ := rv2
    split at q2
    · rename_i xs ys e1 e2
      obtain ⟨vs, h1, l1⟩ := r2.lst hc1 e1
      obtain ⟨ws, h2, l2⟩ := r2.lst hc2 e2
      refine ⟨_, _, vs, ws, rfl, .of h1, .of h2, fun H3 ts q gr hl hm hq => ?_⟩
      have k3 := gr.tk
      exact cl _ _ _ _ q2 ((kk.trans k3).trans (.new hq)) ((gr.rep r2).tup hq) ⟨q, ts.map V.ref, rfl, .inl upd_same, (made_rep k3 l1 l2 hl hm).keep (.new hq)⟩
    · exact q2.elim
  · exact q2.elim
end
def dEmp : DTE := fun _ _ g Q => Q .emp g
section
variable {X : Cx} {C : Ex → Addr} {W : WX} {pos : Pos}
theorem pe_dnewF : PE X (.Dict [] [] pos) (fun _ H Q => ∀ p o, H p = none → Q (.ref p) (upd H p (.frz o (.dK [])))) := ⟨fun pins s σ H Q I h =>
  wpAny_Dict_empty ⟨.ref s.heap.objs.size, _, I.laid (a := s.heap.objs.size) (o := .frz { cls := .type "dict", data := .dict #[] } (.dK [])) (t' := s.toks) (fun _ _ q => Heap.get?_push_of_some _ q) (Nat.le_refl _) ⟨Heap.get?_push_size _ rfl, dk_empty s.heap I.big⟩, rfl, h _ _ (I.hok.fresh (Nat.le_refl _))⟩⟩
theorem d_dic : PE X (.Dict [] [] pos) (up X.K C W dEmp) := pe_imp pe_dnewF fun σ H Q ⟨env, g, Xd, Qd, re, rg, q, cl, cx⟩ p o hp => cl _ _ _ _ q (TK.new hp) (rg.tup hp) ⟨p, o, [], rfl, upd_same⟩
def dDnew : DTE := fun _ _ g Q => ∀ c, g c = none → Q (.dct c) (g.up c [])
theorem d_dnew : PE X (.Dict [] [] pos) (up X.K C W dDnew) := pe_imp pe_dict0 fun σ H Q ⟨env, g, Xd, Qd, re, rg, q, cl, cx⟩ p hp => cl _ _ _ _ (q _ (rg.noneD hp)) (TK.new hp) (rg.newD hp) rep_dct
theorem pe_vfz {x : Str} {i : Nat} (hN : X.N[i]? = some x) (hv : Vis X.env.scope x) (hd : (x == ("__debug__" : Str)) = false) (hcd : (x == ("__classdict__" : Str)) = false) :
    PE X (.Name x pos) (fun σ H Q => ∃ a xs, σ[i]? = some (some (.ref a)) ∧ H a = some (dictO a xs) ∧ ((∃ h, DictRaw a xs h) → ∀ o, Q (.ref a) (upd H a (.frz o (dictO a xs))))) := by
  refine ⟨fun pins s σ H Q I h => ?_⟩
  obtain ⟨a, xs, e, hh, q⟩ := h
  refine thn ((pe_var (pos := pos) hN hv hd hcd).run pins s σ H (fun v H1 => v = .ref a ∧ H1 = H) I ⟨_, e, rfl, rfl⟩) fun u s1 ⟨x, H1, I1, r1, ex, eH⟩ => ?_
  subst ex eH
  obtain ⟨od, I2⟩ := I1.lock (d := a) hh trivial
  exact ⟨.ref a, _, I2, r1, q ⟨s1.heap, (show ObjOk X.prog X.w _ s1.heap a (dictO a xs) from I1.hok a _ hh).1⟩ od⟩
def dVfz (i : Nat) : DTE := fun _ env g Q => match env[i]? with
  | some (some (.dct c)) => (match g c with | some ks => Q (.dfz ks) (g.del c) | none => False)
  | _ => False
theorem d_vfz {x : Str} {i : Nat} (hN : X.N[i]? = some x) (hv : Vis X.env.scope x) (hd : (x == ("__debug__" : Str)) = false) (hcd : (x == ("__classdict__" : Str)) = false) : PE X (.Name x pos) (up X.K C W (dVfz i)) :=
  pe_imp (pe_vfz hN hv hd hcd) fun σ H Q ⟨env, g, Xd, Qd, re, rg, q, cl, cx⟩ => by
    unfold dVfz at q
    split at q
    · rename_i c e
      split at q
      · rename_i ks e2
        obtain ⟨v, a, hc, rfl⟩ := re.2.1 i _ e
        obtain ⟨xs, h1, h2, rfl⟩ := rg.dct hc e2
        refine ⟨_, xs, a, h1, fun hx o => ?_⟩
        have k := TK.setX (o := .frz o (dictO (c / 4) xs)) hx h1
        exact cl _ _ _ _ q k (rg.frzD hc hx h1) ⟨_, o, xs, rfl, upd_same, h2.keep k, rfl⟩
      · exact q.elim
    · exact q.elim
theorem pe_dic1 {x : Str} {i j : Nat} {k : Int} {p1 p2 : Pos} (hN : X.N[i]? = some x) (hv : Vis X.env.scope x) (hd : (x == ("__debug__" : Str)) = false) (hcd : (x == ("__classdict__" : Str)) = false) :
    PE X (.Dict [some (.Constant (.int k) j p1)] [.Name x p2] pos) (fun σ H Q => (∃ v, σ[i]? = some (some v)) ∧ ∀ p o kvs, H p = none → Q (.ref p) (upd H p (.frz o (.dK kvs)))) := by
  refine ⟨fun pins s σ H Q I h => ?_⟩
  obtain ⟨⟨v, hv2⟩, h⟩ := h
  refine thn ((pe_disp (pps_cons (pe_int (i := k) (j := j) (pos := p1)) (pe_var (pos := p2) hN hv hd hcd) pps_nil) rfl rfl (by simp) (by simp)).run pins s σ H (fun v H1 => ∃ p H2 kvs, v = .ref p ∧ H1 = upd H2 p (.dK kvs) ∧ ∀ o kvs, Q (.ref p) (upd H2 p (.frz o (.dK kvs)))) I fun p hp => ?_) fun u s1 ⟨x, H1, I1, r1, p, H2, kvs, ex, eH, q⟩ => ?_
  · exact ⟨v, hv2, upd_same, [(.inl k, v)], rfl, by simp, p, upd H p (.dK []), _, rfl, rfl, fun o kvs => by rw [upd_upd]; exact h p o kvs hp⟩
  · subst ex eH
    obtain ⟨od, I2⟩ := I1.lock (d := p) upd_same trivial
    rw [upd_upd] at I2
    exact ⟨.ref p, _, I2, r1, q od kvs⟩
def dDic1 (i : Nat) : DTE := fun _ env g Q => match env[i]? with
  | some (some _) => Q .emp g
  | _ => False
theorem d_dic1 {x : Str} {i j : Nat} {k : Int} {p1 p2 : Pos} (hN : X.N[i]? = some x) (hv : Vis X.env.scope x) (hd : (x == ("__debug__" : Str)) = false) (hcd : (x == ("__classdict__" : Str)) = false) :
    PE X (.Dict [some (.Constant (.int k) j p1)] [.Name x p2] pos) (up X.K C W (dDic1 i)) := pe_imp (pe_dic1 hN hv hd hcd) fun σ H Q ⟨env, g, Xd, Qd, re, rg, q, cl, cx⟩ => by
  unfold dDic1 at q
  split at q
  · rename_i d e
    obtain ⟨v, a, _⟩ := re.2.1 i d e
    exact ⟨⟨v, a⟩, fun p o kvs hp => cl _ _ _ _ q (TK.new hp) (rg.tup hp) ⟨p, o, kvs, rfl, upd_same⟩⟩
  · exact q.elim
end
end PP
set_option maxHeartbeats 2000000
namespace PP
open PySem PySem.Spec PyProof.Rows L2
theorem pick_one (items : Array Value) : slicePick items none none (some 1) = items := by
  exact (show slicePick items none none (some 1) = slicePick items none none none from rfl).trans (slicePick_all items)
section
variable {X : Cx} {C : Ex → Addr} {W : WX}
def tStep (K : PySem.W.Frag) (te ts : TE) : TE := fun σ H Q => te σ H fun x H1 => ts σ H1 fun z H2 => ∃ i, z = .int i ∧ ∃ a xs, x = .ref a ∧ SqL K H2 a xs ∧ ((i = 1 ∧ ∀ p, H2 p = none → Q (.ref p) (upd H2 p (.lst xs))) ∨ (i = -1 ∧ ∀ p, H2 p = none → Q (.ref p) (upd H2 p (.lst xs.reverse))))
theorem pe_step {e es : Expr} {te ts : TE} {p3 pos : Pos} (he : PE X e te) (hs : PE X es ts) : PE X (.Subscript e (.Slice none none (some es) p3) pos) (tStep X.K te ts) := by
  refine ⟨fun pins s σ H Q I h => ?_⟩
  refine Subscript_ (thn (he.run pins s σ H _ I h) fun v s1 ⟨x, H1, I1, r1, q1⟩ => ?_)
  refine wpAny_Slice (thn (po_none.run pins s1 σ H1 (fun o H2 => o = none ∧ H2 = H1) I1 ⟨rfl, rfl⟩) fun vl s2 ⟨l, H2, I2, pl, el, e2⟩ => ?_)
  subst el e2
  refine thn (po_none.run pins s2 σ H2 (fun o H3 => o = none ∧ H3 = H2) I2 ⟨rfl, rfl⟩) fun vu s3 ⟨u, H3, I3, pu, eu, e3⟩ => ?_
  subst eu e3
  have hst : PO X (some es) (tPart ts) := po_some hs
  refine thn (hst.run pins s3 σ H3 (fun o H2 => ∃ i, o = some i ∧ ∃ a xs, x = .ref a ∧ SqL X.K H2 a xs ∧ ((i = 1 ∧ ∀ p, H2 p = none → Q (.ref p) (upd H2 p (.lst xs))) ∨ (i = -1 ∧ ∀ p, H2 p = none → Q (.ref p) (upd H2 p (.lst xs.reverse))))) I3 ?_) fun vs s4 ⟨o, H4, I4, ps, i, eo, a, xs, ex, hx, q⟩ => ?_
  · exact (show ts σ H3 _ from by simpa only [Option.some.injEq, exists_eq_left'] using q1)
  subst eo ex
  cases r1
  have I5 : Inv X pins σ H4 { s4 with heap := s4.heap.push { cls := .type "slice", data := .fields #[vl, vu, vs] } } := I4.kept (t' := s4.toks) fun b ob q => Heap.get?_push_of_some _ q
  obtain ⟨its, r, ht, hz⟩ := I5.list hx
  have hlen := r.length
  have hi0 : some i ≠ some (0 : Int) := by
    rcases q with ⟨rfl, _⟩ | ⟨rfl, _⟩ <;> decide
  show wpAny (model X.prog X.w) X.A (subscriptTail e (.Slice none none (some es) p3) (.ref a) (.ref s4.heap.objs.size)) (EP X pins σ Q) X.xe { s4 with heap := s4.heap.push { cls := .type "slice", data := .fields #[vl, vu, vs] } }
  refine tail_any (ops := [.ref a, .ref s4.heap.objs.size]) ht.isList.typeIs (PySem.slot_list_getitem.lookup) ?_ (by with_unfolding_all rfl)
  refine wpAny_getItem_list_slice ht.isList (Heap.IsSliceOf.new _ vl vu vs) pl pu ps hi0 ?_ (by rw [List.size_toArray]; omega)
  rcases q with ⟨rfl, q⟩ | ⟨rfl, q⟩
  · rw [pick_one]
    refine ⟨.ref _, _, I5.laid (t' := s4.toks) (o := .lst xs) (fun b ob q => Heap.get?_push_of_some _ q) (Nat.le_refl _) ?_, rfl, q _ (I5.hok.fresh (Nat.le_refl _))⟩
    exact ⟨hz, _, 0, r, Heap.get?_push_size _ rfl⟩
  · rw [PySem.W.krv_pick]
    refine ⟨.ref _, _, I5.laid (t' := s4.toks) (o := .lst xs.reverse) (fun b ob q => Heap.get?_push_of_some _ q) (Nat.le_refl _) ?_, rfl, q _ (I5.hok.fresh (Nat.le_refl _))⟩
    exact ⟨by rw [List.length_reverse]; exact hz, _, 0, r.reverse, Heap.get?_push_size _ rfl⟩
def dStp (te ts : DTE) : DTE := fun X env g Q => te X env g fun d g1 => ts X env g1 fun z g2 => match d, z with
  | .ref a, .int i => (match g2 a with | some xs => (i = 1 ∨ i = -1) ∧ ∀ p, g2 p = none → Q (.ref p) (g2.up p (if i = 1 then xs else xs.reverse)) | none => False)
  | _, _ => False
theorem d_stp {e es : Expr} {ta tb : DTE} {p3 pos : Pos} (ha : PE X e (up X.K C W ta)) (hb : PE X es (up X.K C W tb)) : PE X (.Subscript e (.Slice none none (some es) p3) pos) (up X.K C W (dStp ta tb)) := by
  refine pe_imp (pe_step ha hb) fun σ H Q ⟨env, g, Xd, Qd, re, rg, t, cl, cx⟩ => ?_
  refine ⟨env, g, Xd, _, re, rg, t, fun d g1 v H1 q k r rv => ?_, cx⟩
  refine ⟨env, g1, Xd, _, re.keep k, r, q, fun z g2 u H2 q2 k2 r2 ru => ?_, cx.at k⟩
  dsimp only at q2
  split at q2
  · rename_i a i
    obtain ⟨hc, hv⟩ := rv
    have hu : u = .int i := ru
    split at q2
    · rename_i xs e
      obtain ⟨vs, hvs, rl⟩ := r2.lst hc e
      obtain ⟨hi, q2⟩ := q2
      refine ⟨i, hu, _, vs, hv, .inl (.inl hvs), ?_⟩
      rcases hi with rfl | rfl
      · refine .inl ⟨rfl, fun p hp => ?_⟩
        have q3 := q2 _ (r2.none hp)
        rw [if_pos rfl] at q3
        exact cl _ _ _ _ q3 ((k.trans k2).trans (.new hp)) (r2.new hp rl) rep_ref
      · refine .inr ⟨rfl, fun p hp => ?_⟩
        have q3 := q2 _ (r2.none hp)
        rw [if_neg (by decide)] at q3
        exact cl _ _ _ _ q3 ((k.trans k2).trans (.new hp)) (r2.new hp rl.rev) rep_ref
    · exact q2.elim
  · exact q2.elim
end
end PP
set_option maxHeartbeats 2000000
namespace PP
open PySem PySem.Spec PyProof.Rows L2
structure Fro (A : Around) (H : Hp) (a : Addr) : Prop where
  hd : A.handled = some (.ref a)
  ex : ∃ (oe : Obj) (vs : Array Value), H a = some (.frz oe excU) ∧ oe.data = .fields vs ∧ vs[2]? = some .none
def HotF (X : Cx) : Prop := ∃ a, Fro X.A X.H_0 a
section
variable {X : Cx} {pins : List (Addr × Obj)} {σ : L2.St} {H : Hp} {s : Shared}
theorem Fro.at {a : Addr} (f : Fro X.A H a) (I : Inv X pins σ H s) : HotX.HotAt X.A a s.heap := by
  obtain ⟨oe, vs, e, d, c⟩ := f.ex
  exact ⟨f.hd, oe, vs, (I.hok a _ e).1, d, c⟩
theorem Fro.ne {a b : Addr} {A : Around} (f : Fro A H a) (h : H b = none) : a ≠ b := fun z => by
  obtain ⟨oe, vs, e, _⟩ := f.ex
  rw [z, h] at e
  cases e
end
section
variable {X : Cx} {C : Ex → Addr} {W : WX} {tg e : Expr}
def dOverL : D → G → (List D → (G → Prop) → G → Prop) → Prop
  | .ref a => fun g R => match g a with | some xs => R xs (fun g' => g' a = some xs) g | none => False
  | _ => fun _ _ => False
def dILst (te : DTE) : DTI := fun X env g R => te X env g fun d g1 => dOverL d g1 R
theorem d_iLst {ta : DTE} (h : PE X e (up X.K C W ta)) : PI X tg e (upI X.K C W (dILst ta)) := by
  refine pi_imp (pi_any h) fun σ H R ⟨env, g, Xd, Rd, re, rg, t, cl, cx⟩ => ?_
  refine ⟨env, g, Xd, _, re, rg, t, fun d g1 v H1 q k r rv => ?_, cx⟩
  dsimp only at q
  unfold dOverL at q
  split at q
  · split at q
    · rename_i xs e
      obtain ⟨hc0, rv⟩ := rv
      obtain ⟨vs, hh, l⟩ := r.lst hc0 e
      exact .inl ⟨_, vs, rv, .of hh, cl _ _ _ _ _ q k r (itl_ok hc0)⟩
    · exact q.elim
  · exact q.elim
end
structure FnHF (P : Program) (w : World) (K : PySem.W.Frag) (mg : Str → Option Value) (base : Heap) (k : Nat) (f : Addr) (fd : FuncData) (ps : List Str) (sp : Sp) : Prop where
  len : ∀ vs H Q E, sp vs H Q E → vs.length = ps.length
  run : ∀ (A : Around) (outer : List PySem.Env) (s : Shared) (H : Hp) (args : Args) (us : List Value) (vs : List V) (Q : VK) (a : Addr), L2H.RoomH k A → Fro A H a → Env0 P w K mg base A outer s H → BindsTo s fd args (ps.zip us) → Vals vs us → sp vs H Q (fun _ _ _ => False) →
    codeAny (model P w) A (.call (.ref f) args) (CR (L2N.CX P w) outer P w H s Q (fun _ _ _ => False)) s
section
variable {X : Cx} {k : Nat} {f : Addr} {fd : FuncData} {ps : List Str} {sp : Sp} {x : Str} {q pos : Pos} {e : Expr} {es : List Expr} {t : TA}
theorem peF_call (F : FnHF X.prog X.w X.K X.mg X.base k f fd ps sp) (hr : L2H.RoomH k X.A) (hg : Gl X x) (hm : X.mg x = some (.ref f)) (hk : PySem.W.keepIn X.K (.ref f) = true) (hb : Binds X.K fd ps []) (ha : PA X (e :: es) t)
    (hdb : (x == ("__debug__" : Str)) = false) (he : starEach (e :: es) X.env = (false, eval e X.env) :: starEach es X.env) (hpl : (backTo pos (starEach es X.env)).any (·.1) = false) :
    PE X (.Call (.Name x q) (e :: es) [] pos) (fun σ H Q => t σ H fun vs H1 => (∃ a, Fro X.A H1 a) ∧ sp vs H1 Q fun _ _ _ => False) := ⟨fun pins s σ H Q I h => by
  refine wpAny_Call_Name_kw (ld_glob I hg hm ?_ hdb)
  refine PySem.W.callWith_K (h₀ := X.base) I.ok.mod.kin hk (thn (ha.run pos pins s σ H _ I h) fun us s1 ⟨vs, H1, I1, r, ⟨a, fr⟩, q1⟩ => ⟨I1.kIn, ?_⟩) he hpl
  have hl : us.length = ps.length := by rw [← r.length]; exact F.len _ _ _ _ q1
  have b := hb s1 us I1.kIn (by rw [List.append_nil]; exact hl)
  rw [List.append_nil] at b
  refine wpAny_call (codeAny_mono (F.run X.A X.stack s1 H1 ⟨us, []⟩ us vs Q a hr fr I1.env0 b r q1) fun r s' hq => ?_)
  cases r with
  | error e =>
    obtain ⟨_, _, _, _, _, _, _, _, _, _, _, _, z⟩ := hq
    exact z.elim
  | ok fl =>
    cases fl with
    | ret u => exact I1.after hq
    | next => exact hq.elim
    | brk => exact hq.elim
    | cont => exact hq.elim⟩
end
end PP
namespace PP
open PySem PySem.Spec PyProof.Rows L2
theorem DeskC.inj {K : PySem.W.Frag} {C C' : Addr} (h : DeskC K C) (h' : DeskC K C') : C = C' := by
  have e := h.symm.trans h'
  cases e
  rfl
theorem TK.ins {H : Hp} {p C dx : Addr} {fs : List (Str × V)} {o : HO} (h : H p = some (.ins C dx fs)) : TK H (upd H p o) := ⟨fun c u q e => by
  rw [upd_ne]; exact e
  intro z; subst z; rw [h] at e; cases e; exact q, fun t z hz => tabS_but (p := p) (fun ps z => by rw [h] at z; cases z) (fun q z => by rw [h] at z; unfold LamX.CodeO at z; cases z) (fun b o n e => by rw [upd_ne n]; exact e) (t z hz)⟩
section
variable {K : PySem.W.Frag} {H : Hp} {g : G}
theorem RepG.putO (h : RepG K H g) {c C dx : Addr} {fs fs' : List (Str × V)} {ds : List D} (hc : c % 4 = 3) (e : H (c / 4) = some (.ins C dx fs)) (d : DeskC K C) (r : FldOk K H ds fs') : RepG K (upd H (c / 4) (.ins C dx fs')) (g.up c ds) := fun a es q => by
  unfold G.up at q
  split at q
  · rename_i z; subst z; cases q; exact .inr (.inr ⟨hc, C, dx, fs', upd_same, d, r.keep (.ins e)⟩)
  · rename_i z
    refine (h a es q).other (.ins e) (fun y w => ?_) (fun y w => ?_) fun y w => z (quart_inj y hc w)
    · obtain ⟨vs, q, _⟩ := h.lst y q
      rw [w, e] at q; cases q
    · obtain ⟨xs, q, _⟩ := h.dct y q
      rw [w, e] at q; cases q
theorem RepG.newO (h : RepG K H g) {x dx C : Addr} (hx : H x = Option.none) (hd : H dx = Option.none) (ne : dx ≠ x) (d : DeskC K C) : RepG K (upd (upd H dx (.own x)) x (.ins C dx [])) (g.up (4 * x + 3) []) := fun a es q => by
  have hx' : upd H dx (.own x) x = Option.none := by rw [upd_ne (fun z => ne z.symm)]; exact hx
  unfold G.up at q
  split at q
  · rename_i z; subst z; cases q; exact .inr (.inr ⟨(code4 x).2.2.1, C, dx, [], by rw [(code4 x).2.2.2]; exact upd_same, d, .inl ⟨rfl, rfl⟩⟩)
  · exact ((h.tup hd).tup hx') a es q
end
def dFld (t : DTE) : DTE := fun X env g Q => t X env g fun d g1 => match d with
  | .obj c => (match g1 c with
    | some [x] => Q x g1
    | _ => False)
  | _ => False
def dMeth (sp : SpD) (to : DTE) (tA : DTA) : DTE := fun X env g Q => to X env g fun d g1 => (match d with
  | .obj c => (g1 c).isSome = true
  | _ => False) ∧ tA X env g1 fun ds g2 => sp (d :: ds) g2 Q X
def dMake (sp : SpD) (tA : DTA) : DTE := fun X env g Q => tA X env g fun ds g1 => ∀ c, g1 c = none → sp (.obj c :: ds) (g1.up c []) (fun v g2 => v = .non ∧ Q (.obj c) g2) X
def dFset (to te : DTE) : DTS := fun E env g => te (E.at env) env g fun v g1 => to (E.at env) env g1 fun d g2 => match d with
  | .obj c => (g2 c).isSome = true ∧ E.nx env (g2.up c [v])
  | _ => False
structure FldAt (X : Cx) : Prop where
  ok : ∀ C0, DeskC X.K C0 → Cls X.K C0 ∧ NoAttr X.K C0 atrN
structure MthAt (X : Cx) (C : Ex → Addr) (m : Str) (sp : SpD) : Prop where
  ex : ∃ (C0 f : Addr) (fd : FuncData) (ps : List Str) (k : Nat), DeskC X.K C0 ∧ Cls X.K C0 ∧ Meth X.K C0 m f ∧ Binds X.K fd ps [] ∧ FnOk X.prog X.w X.K X.mg X.base (L2N.CX X.prog X.w) k f fd ps (liftSp X.K C sp) ∧ Room k X.A
structure MkAt (X : Cx) (C : Ex → Addr) (sp : SpD) : Prop where
  ex : ∃ (C0 f : Addr) (fd : FuncData) (ps : List Str) (k : Nat), DeskC X.K C0 ∧ X.mg clsN = some (.ref C0) ∧ Mk X.K C0 f ∧ Binds X.K fd ps [] ∧ FnOk X.prog X.w X.K X.mg X.base (L2N.CX X.prog X.w) k f fd ps (liftSp X.K C sp) ∧ Room (k + 1) X.A
section
variable {X : Cx} {C : Ex → Addr} {W : WX} {o e : Expr} {es : List Expr} {to te : DTE} {tA : DTA} {sp : SpD} {pos apos p : Pos} {m : Str}
theorem d_fld (F : FldAt X) (ho : PE X o (up X.K C W to)) (hb : attributeBase o atrN X.env (eval o X.env) = eval o X.env) : PE X (.Attribute o atrN pos) (up X.K C W (dFld to)) := by
  refine pe_imp (pe_fld ho hb) fun σ H Q ⟨env, g, Xd, Qd, re, rg, t, cl, cx⟩ => ?_
  refine ⟨env, g, Xd, _, re, rg, t, fun d g1 v H1 q k r rv => ?_, cx⟩
  cases d with
  | obj c =>
    obtain ⟨hc, rfl⟩ := rv
    cases e : g1 c with
    | none => simp only [e] at q
    | some ds =>
      simp only [e] at q
      obtain ⟨C0, dx, fs, h1, h2, h3⟩ := r.obj hc e
      rcases h3 with ⟨rfl, _⟩ | ⟨x, u, rfl, rfl, hr⟩
      · exact q.elim
      · obtain ⟨c1, c2⟩ := F.ok _ h2
        exact ⟨_, C0, dx, _, u, rfl, h1, c1, c2, by simp [List.lookup], cl _ _ _ _ q k r hr⟩
  | _ => exact q.elim
theorem s_fset (F : FldAt X) (ho : PE X o (up X.K C W to)) (he : PE X e (up X.K C W te)) (hs : swapsWith e (some (.Attribute o atrN apos)) pos.line X.env = pure false) : PS X (.Assign [.Attribute o atrN apos] e pos) (upS X.K C W (dFset to te)) := by
  refine ps_imp (ps_fld ho he hs) fun D σ H ⟨env, g, E, re, rg, q, cn, cr, cx⟩ => ?_
  refine ⟨env, g, _, _, re, rg, q, fun y g1 vy H1 q1 k1 r1 ry => ?_, cx.e re⟩
  refine ⟨env, g1, _, _, re.keep k1, r1, q1, fun d g2 vd H2 q2 k2 r2 rd => ?_, (cx.at k1).e (re.keep k1)⟩
  cases d with
  | obj c =>
    obtain ⟨hc, rfl⟩ := rd
    obtain ⟨hsome, q2⟩ := q2
    obtain ⟨ds, eds⟩ := Option.isSome_iff_exists.mp hsome
    obtain ⟨C0, dx, fs, h1, h2, h3⟩ := r2.obj hc eds
    obtain ⟨c1, c2⟩ := F.ok _ h2
    have ry2 := ry.keep k2
    have hfl : fs.length < 1000 ∧ putF atrN vy fs = [(atrN, vy)] := by
      rcases h3 with ⟨_, rfl⟩ | ⟨x, u, _, rfl, _⟩
      · exact ⟨by decide, by simp [putF]⟩
      · exact ⟨by simp, by simp [putF]⟩
    refine ⟨_, C0, dx, fs, rfl, h1, c1, c2, hfl.1, ?_⟩
    rw [hfl.2]
    exact cn _ _ _ _ q2 ((k1.trans k2).trans (.ins h1)) ((re.keep (k1.trans k2)).keep (.ins h1)) (r2.putO hc h1 h2 (.inr ⟨y, vy, rfl, rfl, ry2⟩))
  | _ => exact q2.elim
theorem ht_of {env : PySem.Env} (hb : attributeBase o m env (eval o env) = eval o env) (hf : methodCallForm (es.length + ([] : List Keyword).length) (backTo pos (starEach es env)) (backToKw pos (keywordEach [] env)) = true) (hl : (apos.endLine == pos.line) = true) :
    eval (.Call (.Attribute o m apos) es [] pos) env = (do
      let ov ← eval o env
      standAt apos.atName
      let (f, first) ← holding [ov] (getMethod ov m (do return (← importBound o env).getD true))
      callWith pos f first (backTo pos (starEach es env)) (backToKw pos (keywordEach [] env))) := by
  refine mcall_of hb fun ov => ?_
  have hp : methodCallPos true o env apos pos = pure pos := by
    unfold methodCallPos
    rw [hl]
    rfl
  unfold methodCall
  rw [hf, hp]
  rfl
def tMethSD (C0 : Addr) (m : Str) (sp : Sp) (E : L2.St → XK) (ta : TE) (t : TA) : TE := fun σ H Q => ta σ H fun x H1 => ∃ a dx fs, x = .ref a ∧ H1 a = some (.ins C0 dx fs) ∧ fs.lookup m = none ∧ t σ H1 fun vs H2 => sp (x :: vs) H2 Q (E σ)
theorem pe_methSD {CX : CXT} {k : Nat} {C0 f : Addr} {fd : FuncData} {ps : List Str} {sp : Sp} {E : L2.St → XK} {ta : TE} {t : TA} {pl : Sem Bool} (he : PE X o ta) (c : Cls X.K C0) (hm : Meth X.K C0 m f) (F : FnOk X.prog X.w X.K X.mg X.base CX k f fd ps sp) (hr : Room k X.A) (hb : Binds X.K fd ps [])
    (hx : ∀ σ, PassesAt CX X σ (E σ)) (ha : PA X (e :: es) t) (hst : starEach (e :: es) X.env = (false, eval e X.env) :: starEach es X.env) (hpl : (backTo pos (starEach es X.env)).any (·.1) = false)
    (ht : eval (.Call (.Attribute o m apos) (e :: es) [] pos) X.env = (do
      let ov ← eval o X.env
      standAt apos.atName
      let (f, first) ← holding [ov] (getMethod ov m pl)
      callWith pos f first (backTo pos (starEach (e :: es) X.env)) (backToKw pos (keywordEach [] X.env)))) :
    PE X (.Call (.Attribute o m apos) (e :: es) [] pos) (tMethSD C0 m sp E ta t) := by
  refine ⟨fun pins s σ H Q I h => ?_⟩
  refine PySem.W.methodCall_KW (pl := pl) (thn (he.run pins s σ H _ I h) fun u s1 ⟨x, H1, I1, rx, a, dx, fs, ex, ea, l, q⟩ => ?_) ht
  subst ex
  obtain rfl : u = Value.ref a := rx
  refine getmeth_ok I1 ea c hm l ?_
  refine PySem.W.callWith_K (first := [.ref a]) (h₀ := X.base) I.ok.mod.kin hm.kp (thn (ha.run pos pins s1 σ H1 _ I1 q) fun us s2 ⟨vs, H2, I2, r, q2⟩ => ⟨I2.kIn, ?_⟩) hst hpl
  exact run_fnS (us := .ref a :: us) (vs := .ref a :: vs) F hr hb (hx σ) I2 (.cons rfl r) q2
theorem pe_methSD0 {CX : CXT} {k : Nat} {C0 f : Addr} {fd : FuncData} {ps : List Str} {sp : Sp} {E : L2.St → XK} {ta : TE} {pl : Sem Bool} (he : PE X o ta) (c : Cls X.K C0) (hm : Meth X.K C0 m f) (F : FnOk X.prog X.w X.K X.mg X.base CX k f fd ps sp) (hr : Room k X.A) (hb : Binds X.K fd ps [])
    (hx : ∀ σ, PassesAt CX X σ (E σ))
    (ht : eval (.Call (.Attribute o m apos) [] [] pos) X.env = (do
      let ov ← eval o X.env
      standAt apos.atName
      let (f, first) ← holding [ov] (getMethod ov m pl)
      callWith pos f first (backTo pos (starEach [] X.env)) (backToKw pos (keywordEach [] X.env)))) :
    PE X (.Call (.Attribute o m apos) [] [] pos) (tMethSD C0 m sp E ta tNil) := by
  refine ⟨fun pins s σ H Q I h => ?_⟩
  refine PySem.W.methodCall_KW (pl := pl) (thn (he.run pins s σ H _ I h) fun u s1 ⟨x, H1, I1, rx, a, dx, fs, ex, ea, l, q⟩ => ?_) ht
  subst ex
  obtain rfl : u = Value.ref a := rx
  refine getmeth_ok I1 ea c hm l ?_
  exact PySem.W.callWith_K0 (first := [.ref a]) I1.kIn hm.kp (run_fnS (us := [.ref a]) (vs := [.ref a]) F hr hb (hx σ) I1 (.cons rfl .nil) q)
theorem fld_look {K : PySem.W.Frag} {H : Hp} {ds : List D} {fs : List (Str × V)} (h : FldOk K H ds fs) (hm : m ≠ atrN) : fs.lookup m = none := by
  rcases h with ⟨_, rfl⟩ | ⟨_, u, _, rfl, _⟩
  · rfl
  · have : (m == atrN) = false := by simpa using hm
    simp [List.lookup, this]
theorem meth_up {C0 : Addr} {σ : L2.St} {H : Hp} {Q : VK} (hm : m ≠ atrN) (dc : DeskC X.K C0) (h : up X.K C W (dMeth sp to tA) σ H Q) : tMethSD C0 m (liftSp X.K C sp) (fun σ c d H' => W c d σ H') (up X.K C W to) (upA X.K C W tA) σ H Q := by
  obtain ⟨env, g, Xd, Qd, re, rg, t, cl, cx⟩ := h
  refine ⟨env, g, Xd, _, re, rg, t, fun d g1 v H1 ⟨q0, q⟩ k r rv => ?_, cx⟩
  cases d with
  | obj c =>
    obtain ⟨hc, rfl⟩ := rv
    obtain ⟨ds, eds⟩ := Option.isSome_iff_exists.mp q0
    obtain ⟨C1, dx, fs, h1, h2, h3⟩ := r.obj hc eds
    obtain rfl := h2.inj dc
    refine ⟨_, dx, fs, rfl, h1, fld_look h3 hm, env, g1, Xd, _, re.keep k, r, q, fun ds g2 vs H2 q2 k2 r2 rl => ?_, cx.at k⟩
    exact ⟨.obj c :: ds, g2, Qd, Xd, ⟨_, _, rfl, ⟨hc, rfl⟩, rl⟩, r2, q2, cl.at (k.trans k2), cx.at (k.trans k2), re.2.2.keep (k.trans k2)⟩
  | _ => exact q0.elim
theorem d_meth (M : MthAt X C m sp) (tk : L2N.Takes X W) (hm : m ≠ atrN) (ho : PE X o (up X.K C W to)) (ha : PA X (e :: es) (upA X.K C W tA)) (hb : attributeBase o m X.env (eval o X.env) = eval o X.env) (hf : methodCallForm ((e :: es).length + ([] : List Keyword).length) (backTo pos (starEach (e :: es) X.env)) (backToKw pos (keywordEach [] X.env)) = true)
    (hl : (apos.endLine == pos.line) = true) (hst : starEach (e :: es) X.env = (false, eval e X.env) :: starEach es X.env) (hpl : (backTo pos (starEach es X.env)).any (·.1) = false) : PE X (.Call (.Attribute o m apos) (e :: es) [] pos) (up X.K C W (dMeth sp to tA)) := by
  obtain ⟨C0, f, fd, ps, k, dc, cc, me, bi, FO, hr⟩ := M.ex
  exact pe_imp (pe_methSD ho cc me FO hr bi (fun σ => L2N.passAt tk σ) ha hst hpl (ht_of hb hf hl)) fun σ H Q h => meth_up hm dc h
theorem d_meth0 (M : MthAt X C m sp) (tk : L2N.Takes X W) (hm : m ≠ atrN) (ho : PE X o (up X.K C W to)) (hb : attributeBase o m X.env (eval o X.env) = eval o X.env)
    (hl : (apos.endLine == pos.line) = true) : PE X (.Call (.Attribute o m apos) [] [] pos) (up X.K C W (dMeth sp to dNil)) := by
  obtain ⟨C0, f, fd, ps, k, dc, cc, me, bi, FO, hr⟩ := M.ex
  refine pe_imp (pe_methSD0 ho cc me FO hr bi (fun σ => L2N.passAt tk σ) (ht_of hb rfl hl)) fun σ H Q h => ?_
  obtain ⟨env, g, Xd, Qd, re, rg, t, cl, cx⟩ := h
  refine ⟨env, g, Xd, _, re, rg, t, fun d g1 v H1 ⟨q0, q⟩ k r rv => ?_, cx⟩
  cases d with
  | obj c =>
    obtain ⟨hc, rfl⟩ := rv
    obtain ⟨ds, eds⟩ := Option.isSome_iff_exists.mp q0
    obtain ⟨C1, dx, fs, h1, h2, h3⟩ := r.obj hc eds
    obtain rfl := h2.inj dc
    exact ⟨_, dx, fs, rfl, h1, fld_look h3 hm, ⟨[.obj c], g1, Qd, Xd, ⟨_, _, rfl, ⟨hc, rfl⟩, rfl⟩, r, q, cl.at k, cx.at k, re.2.2.keep k⟩⟩
  | _ => exact q0.elim
def tMakeSD (C0 : Addr) (sp : Sp) (E : L2.St → XK) (t : TA) : TE := fun σ H Q => t σ H fun vs H1 => ∀ x dx, H1 x = none → H1 dx = none → dx ≠ x →
  sp (.ref x :: vs) (upd (upd H1 dx (.own x)) x (.ins C0 dx [])) (fun v H2 => v = .non ∧ Q (.ref x) H2) (E σ)
theorem run_makeS {CX : CXT} {k : Nat} {C0 f : Addr} {fd : FuncData} {ps : List Str} {sp : Sp} {E : L2.St → XK} {pins : List (Addr × Obj)} {σ : L2.St} {H : Hp} {s : Shared} {Q : VK} {us : List Value} {vs : List V} (M : Mk X.K C0 f) (F : FnOk X.prog X.w X.K X.mg X.base CX k f fd ps sp) (hr : Room (k + 1) X.A) (hb : Binds X.K fd ps [])
    (hx : PassesAt CX X σ (E σ)) (I : Inv X pins σ H s) (r : Vals vs us)
    (h : ∀ x dx, H x = none → H dx = none → dx ≠ x → sp (.ref x :: vs) (upd (upd H dx (.own x)) x (.ins C0 dx [])) (fun v H2 => v = .non ∧ Q (.ref x) H2) (E σ)) :
    wpAny (model X.prog X.w) X.A (call (.ref C0) us) (EP X pins σ Q) X.xe s := by
  have hq := h (s.heap.objs.size + 1) s.heap.objs.size (I.hok.fresh (Nat.le_succ _)) (I.hok.fresh (Nat.le_refl _)) (Nat.ne_of_lt (Nat.lt_succ_self _))
  have I2 := Inv.made (C := C0) I
  have r2 : Vals (V.ref (s.heap.objs.size + 1) :: vs) (Value.ref (s.heap.objs.size + 1) :: us) := .cons rfl r
  have hl : (Value.ref (s.heap.objs.size + 1) :: us ++ []).length = ps.length := by
    rw [List.append_nil]
    have e := r2.length
    rw [F.len _ _ _ _ hq] at e
    exact e.symm
  have bb := hb _ (Value.ref (s.heap.objs.size + 1) :: us) I2.kIn hl
  rw [List.append_nil] at bb
  refine wpAny_call (make_map (f := f) I.kIn M.makes M.init (beq_iff_eq.mp M.fn) (codeAny_mono (F.run _ X.stack _ _ ⟨Value.ref (s.heap.objs.size + 1) :: us, []⟩ (Value.ref (s.heap.objs.size + 1) :: us) _ _ (E σ) (hr.make C0 us [])
    (I2.env0.make C0 us []) bb r2 hq) fun r s' hq' => ?_))
  cases r with
  | error e => exact hx pins _ _ e s' I2 hq'
  | ok fl =>
    cases fl with
    | ret u =>
      obtain ⟨v, H', I3, rv, ev, q3⟩ := I2.after hq'
      subst ev
      exact ⟨rv, ⟨V.ref (s.heap.objs.size + 1), H', I3, rfl, q3⟩⟩
    | next => exact False.elim hq'
    | brk => exact False.elim hq'
    | cont => exact False.elim hq'
theorem d_make (M : MkAt X C sp) (tk : L2N.Takes X W) (hg : Gl X clsN) (ha : PA X (e :: es) (upA X.K C W tA)) (hst : starEach (e :: es) X.env = (false, eval e X.env) :: starEach es X.env) (hpl : (backTo pos (starEach es X.env)).any (·.1) = false) :
    PE X (.Call (.Name clsN p) (e :: es) [] pos) (up X.K C W (dMake sp tA)) := by
  obtain ⟨C0, f, fd, ps, k, dc, hm, mk, bi, FO, hr⟩ := M.ex
  have base : PE X (.Call (.Name clsN p) (e :: es) [] pos) (tMakeSD C0 (liftSp X.K C sp) (fun σ c d H' => W c d σ H') (upA X.K C W tA)) := by
    refine ⟨fun pins s σ H Q I h => ?_⟩
    refine wpAny_Call_Name_kw (ld_glob I hg hm ?_ (by decide))
    refine PySem.W.callWith_K (h₀ := X.base) I.ok.mod.kin mk.kp (thn (ha.run pos pins s σ H _ I h) fun us s1 ⟨vs, H1, I1, r, q⟩ => ⟨I1.kIn, ?_⟩) hst hpl
    exact run_makeS mk FO hr bi (L2N.passAt tk σ) I1 r q
  refine pe_imp base fun σ H Q ⟨env, g, Xd, Qd, re, rg, t, cl, cx⟩ => ?_
  refine ⟨env, g, Xd, _, re, rg, t, fun ds g1 vs H1 q k1 r1 rl x dx hx hd ne => ?_, cx⟩
  have hx' : upd H1 dx (.own x) x = none := by rw [upd_ne (fun z => ne z.symm)]; exact hx
  have k2 : TK H1 (upd (upd H1 dx (.own x)) x (.ins C0 dx [])) := (TK.new hd).trans (.new hx')
  refine ⟨.obj (4 * x + 3) :: ds, g1.up (4 * x + 3) [], _, Xd, ⟨_, _, rfl, rep_obj, rl.keep k2⟩, r1.newO hx hd ne dc, q _ (r1.noneO hx), fun d g2 v H2 ⟨e1, q2⟩ k3 r3 rv => ?_, cx.at (k1.trans k2), re.2.2.keep (k1.trans k2)⟩
  subst e1
  exact ⟨rv, cl _ _ _ _ q2 ((k1.trans k2).trans k3) r3 rep_obj⟩
end
end PP
namespace PP
open PySem PySem.Spec PyProof.Rows L2
def ItzS (K : PySem.W.Frag) (a : Addr) (z : Str) : It :=
  ⟨fun i H => ∃ (xs : List V) (x : V), SqL K H a xs ∧ xs[i]? = some x ∧ i < z.cps.size,
    fun i H v H' => ∃ T x c, v = .ref T ∧ H T = none ∧ H' = upd H T (.tup [x, .str ⟨#[c]⟩]) ∧ (∀ xs, SqL K H a xs → xs[i]? = some x) ∧ z.cps[i]? = some c,
    fun i H => ∃ xs : List V, SqL K H a xs ∧ i ≤ xs.length ∧ i ≤ z.cps.size ∧ (i = xs.length ∨ i = z.cps.size)⟩
theorem turn_zipS {P : Program} {w : World} {K : PySem.W.Frag} {elts : List Expr} {kk : Nat} {tpos : Pos} {a z TI TO i1 i2 : Addr} {s0 : Str} {t : Tok} (D : ZipSep2 z TI TO i1 i2 [i1, a] [i2]) :
    Turn P w K (.Tuple elts kk tpos) (ItzS K a s0) [z, TI, TO, i1, i2] z (fun i h => IsZip h z TI TO .none ∧ IsTupOf2 h TI (.ref i1) (.ref i2) ∧ (∃ x y, IsTupOf2 h TO x y) ∧ h.IsListIter i1 a i ∧ h.IsStrIter i2 (strIterType s0) s0 t i) where
  mem := by simp
  obj := fun i h st d hc => by
    obtain ⟨hz, hTI, ⟨x, y, hTO⟩, ⟨o1, e1, _, d1⟩, ⟨o2, e2, _, d2⟩⟩ := st
    have e' : d = z ∨ d = TI ∨ d = TO ∨ d = i1 ∨ d = i2 := by simpa using hc
    rcases e' with q | q | q | q | q
    · rw [q]; exact ⟨_, hz, fun v q => nomatch q⟩
    · rw [q]; exact ⟨_, hTI, fun v q => nomatch q⟩
    · rw [q]; exact ⟨_, hTO, fun v q => nomatch q⟩
    · rw [q]; exact ⟨o1, e1, fun v q => by rw [d1] at q; cases q⟩
    · rw [q]; exact ⟨o2, e2, fun v q => by rw [d2] at q; cases q⟩
  keep := fun i h h' st k => by
    obtain ⟨hz, hTI, ⟨x, y, hTO⟩, h1, o2, ho2, r2⟩ := st
    exact ⟨k z (by simp) _ hz, k TI (by simp) _ hTI, ⟨x, y, k TO (by simp) _ hTO⟩, h1.at fun o q => k i1 (by simp) o q, ⟨o2, k i2 (by simp) o2 ho2, r2⟩⟩
  item := by
    intro X hP hw hK hc i pins s σ H E I hf st hg
    subst hP hw hK
    obtain ⟨hz, hTI, ⟨x0, y0, hTO⟩, h1, h2⟩ := st
    obtain ⟨xs, x, hqx, hx, hlt⟩ := hg
    obtain ⟨its, rv, p, _⟩ := I.list hqx
    obtain ⟨u, hu, ru⟩ := rv.get hx
    have hzl : z < s.heap.objs.size := Heap.lt_size hz
    have hh := I.ok.hd hc
    have n1 : a ≠ i1 := fun e => by
      subst e
      obtain ⟨o1, e1, c1, _⟩ := p.isList
      obtain ⟨o2, e2, c2, _⟩ := h1
      rw [e1] at e2
      cases e2
      rw [c1] at c2
      exact absurd c2 (by simp)
    have D1 := Draws.list (prog := X.prog) (w := X.w) (A := X.A.in1) hh i1 a n1 its.toArray
    have D2 := Draws.text (prog := X.prog) (w := X.w) (A := X.A.in1) hh i2 s0 t
    have l1 : i < its.toArray.size := by have := List.getElem?_eq_some_iff.mp hu; obtain ⟨q, _⟩ := this; simpa using q
    refine wpAny_pyNext_zipD2_item D D1 D2 hz hTI hTO ⟨h1, p.isList⟩ h2 l1 hlt fun v1 v2 h' tk P1 P2 z' TO' d1 d2 hT hsz hk => ?_
    have e1 : v1 = u := by have P1 : its.toArray[i]? = some v1 := P1; rw [List.getElem?_toArray, hu] at P1; exact (Option.some.inj P1).symm
    subst e1
    obtain ⟨c, tu, hc2, rfl⟩ := P2
    refine ⟨_, rfl, wpAny_letOwnedTupleGo_zip (s := { s with heap := h', toks := tk }) z' fun h'' z'' sb => ?_⟩
    have hT2 : h''.get? s.heap.objs.size = some { cls := .type "tuple", data := .seq #[v1, .str ⟨#[c]⟩ tu] } := (sb.2 _ (Nat.ne_of_gt hzl)).trans hT
    have new : ObjOk X.prog X.w (upd H s.heap.objs.size (.tup [x, .str ⟨#[c]⟩])) h'' s.heap.objs.size (.tup [x, .str ⟨#[c]⟩]) :=
      ⟨by show 2 ≤ sizeLine; decide, [v1, .str ⟨#[c]⟩ tu], .cons ru (.cons ⟨_, rfl⟩ .nil), ⟨_, hT2, rfl, _, rfl⟩⟩
    have I1 : Inv X pins σ (upd H s.heap.objs.size (.tup [x, .str ⟨#[c]⟩])) { s with heap := h'', toks := tk } :=
      I.turnedNew (t' := tk) (ch := [z, TI, TO, i1, i2]) (fun c o hb q => (sb.2 c (fun q' => hb (by simp [q']))).trans (hk c o (fun q' => hb (by simp [q'])) (fun q' => hb (by simp [q'])) (fun q' => hb (by simp [q'])) (fun q' => hb (by simp [q'])) q)) hf (Nat.le_refl _) new
    refine ⟨.ref s.heap.objs.size, _, I1, rfl, ⟨_, x, c, rfl, I.hok.fresh (Nat.le_refl _), rfl, fun l hl => by rw [I.list_inj hl hqx]; exact hx, hc2⟩, ⟨z'', ?_, ⟨v1, .str ⟨#[c]⟩ tu, ?_⟩, ?_, ?_⟩, fun c hcm => ?_⟩
    · exact (sb.2 _ D.TIz).trans (hk _ _ D.TIz D.TITO D.TIi1 D.TIi2 hTI)
    · exact (sb.2 _ D.TOz).trans TO'
    · exact d1.1.at fun o q => (sb.2 _ D.zi1.symm).trans q
    · obtain ⟨o2, ho2, r2⟩ := d2
      exact ⟨o2, (sb.2 _ D.zi2.symm).trans ho2, r2⟩
    · have hlt : c < s.heap.objs.size := by
        have e' : c = z ∨ c = TI ∨ c = TO ∨ c = i1 ∨ c = i2 := by simpa using hcm
        rcases e' with q | q | q | q | q
        · rw [q]; exact hzl
        · rw [q]; exact Heap.lt_size hTI
        · rw [q]; exact Heap.lt_size hTO
        · rw [q]; obtain ⟨_, e1, _⟩ := h1; exact Heap.lt_size e1
        · rw [q]; obtain ⟨_, e2, _⟩ := h2; exact Heap.lt_size e2
      rw [upd_ne (Nat.ne_of_lt hlt)]
      exact (hf c hcm).1
  done := by
    intro X hP hw hK hc i pins s σ H E I hf st hg
    subst hP hw hK
    obtain ⟨hz, hTI, ⟨x0, y0, hTO⟩, h1, h2⟩ := st
    obtain ⟨xs, hqx, m1, m2, hend⟩ := hg
    obtain ⟨its, rv, p, _⟩ := I.list hqx
    have l1 := rv.length
    have hh := I.ok.hd hc
    have n1 : a ≠ i1 := fun e => by
      subst e
      obtain ⟨o1, e1, c1, _⟩ := p.isList
      obtain ⟨o2, e2, c2, _⟩ := h1
      rw [e1] at e2
      cases e2
      rw [c1] at c2
      exact absurd c2 (by simp)
    have D1 := Draws.list (prog := X.prog) (w := X.w) (A := X.A.in1) hh i1 a n1 its.toArray
    have D2 := Draws.text (prog := X.prog) (w := X.w) (A := X.A.in1) hh i2 s0 t
    exact wpAny_pyNext_zipD2_end D D1 D2 hz hTI hTO ⟨h1, p.isList⟩ h2 (by simp; omega) m2 (by simp; omega) fun h' tk hk => ⟨rfl, I.turnedL (t' := tk) (ch := [z, TI, TO, i1, i2]) (fun c o hb q =>
      hk c o (fun q' => hb (by simp [q'])) (fun q' => hb (by simp [q'])) (fun q' => hb (by simp [q'])) (fun q' => hb (by simp [q'])) q) hf⟩
  self := fun A i s Q E st h => wpAny_pyIter_zip st.1 h
def iZipS (K : PySem.W.Frag) (ta : TA) : TI := fun σ H R => ta σ H fun vs H1 => ∃ a xs z, vs = [.ref a, .str z] ∧ SqL K H1 a xs ∧ R (ItzS K a z) H1
theorem pi_zipS {X : Cx} {e e2 : Expr} {ta : TA} {p pos tpos : Pos} {elts : List Expr} {kk : Nat} (hg : Gl X "zip") (hm : X.mg "zip" = none) (ha : PA X [e, e2] ta)
    (hs : starEach [e, e2] X.env = (false, eval e X.env) :: starEach [e2] X.env := by rfl) (hpl : (backTo pos (starEach [e2] X.env)).any (·.1) = false := by rfl) :
    PI X (.Tuple elts kk tpos) (.Call (.Name "zip" p) [e, e2] [] pos) (iZipS X.K ta) := by
  refine ⟨fun pins s σ H R I h => ?_⟩
  refine Call_ (ld_blt I hg hm PyProof.Rows.boot_zip (PyProof.Rows.callWith_type1 (thn (ha.run pos pins s σ H _ I h) fun us s1 ⟨vs, H1, I1, r1, q1⟩ => ?_) hs hpl))
  obtain ⟨a, xs, z, ex, hqx, q⟩ := q1
  subst ex
  cases r1 with
  | cons r rr =>
    cases rr with
    | cons r' rr =>
      cases rr
      cases r
      obtain ⟨t, rfl⟩ := r'
      obtain ⟨its, rv, p1, _⟩ := I1.list hqx
      have la : a < s1.heap.objs.size := p1.lt
      refine zip_begins2 (begins_list a its.toArray) (begins_text z t) p1.isList trivial fun h' hz hTI hTO h1 h2 hsz hk => wpAny_pyIter_zip hz ?_
      have I2 : Inv X pins σ H1 { s1 with heap := h' } := I1.kept (t' := s1.toks) hk
      have D : ZipSep2 (s1.heap.objs.size + 4) (s1.heap.objs.size + 2) (s1.heap.objs.size + 3) s1.heap.objs.size (s1.heap.objs.size + 1) [s1.heap.objs.size, a] [s1.heap.objs.size + 1] :=
        zip_sep2 (fp1 := [a]) (fp2 := []) (by simpa using la) (by simp)
      refine ⟨s1.heap.objs.size + 4, [s1.heap.objs.size + 4, s1.heap.objs.size + 2, s1.heap.objs.size + 3, s1.heap.objs.size, s1.heap.objs.size + 1], _, _, H1, rfl, I2, turn_zipS (t := t) D, ⟨hz, hTI, ⟨_, _, hTO⟩, ⟨_, h1, rfl, rfl⟩, ⟨_, h2, rfl, rfl⟩⟩, fun d hcm => ?_, q⟩
      have e' : d = s1.heap.objs.size + 4 ∨ d = s1.heap.objs.size + 2 ∨ d = s1.heap.objs.size + 3 ∨ d = s1.heap.objs.size ∨ d = s1.heap.objs.size + 1 := by simpa using hcm
      have hle : s1.heap.objs.size ≤ d := by rcases e' with z | z | z | z | z <;> (rw [z]; first | exact Nat.le_refl _ | exact Nat.le_add_right _ _)
      exact I1.fpOk hle (I1.hok.fresh hle)
def strD (z : Str) : List D := z.cps.toList.map fun c => D.str ⟨#[c]⟩
theorem itzS_ok {K : PySem.W.Frag} {H0 : Hp} {a : Addr} {xs : List D} {z : Str} (hc : a % 2 = 0) : ItOk K (ItzS K (a / 2) z) H0 (zipD xs (strD z)) (fun g => g a = some xs) where
  go := fun i g H hi k r st => by
    obtain ⟨vs, h, l⟩ := r.lst hc st
    have hi' : i < xs.length ∧ i < z.cps.size := by simp [zipD, strD] at hi; omega
    have hv : i < vs.length := by rw [l.length]; omega
    exact ⟨vs, vs[i], .of h, by simp [hv], hi'.2⟩
  yld := fun i g H x H' hi k r st y => by
    obtain ⟨vs, h, l⟩ := r.lst hc st
    obtain ⟨T, u, c, ex, hT, eH, y1, y2⟩ := y
    obtain ⟨d, e1, rd⟩ := l.getv (y1 vs (.of h))
    subst ex eH
    refine ⟨.tup [d, .str ⟨#[c]⟩], ?_, ⟨T, [u, .str ⟨#[c]⟩], rfl, .inl upd_same, ⟨u, [.str ⟨#[c]⟩], rfl, rd.keep (.new hT), ⟨_, [], rfl, rfl, rfl⟩⟩⟩, .new hT, r.tup hT⟩
    have e2 : (strD z)[i]? = some (D.str ⟨#[c]⟩) := by simp [strD, y2]
    simp [zipD, List.getElem?_zipWith, e1, e2]
  stop := fun i g H hi hi2 k r st => by
    obtain ⟨vs, h, l⟩ := r.lst hc st
    refine ⟨vs, .of h, ?_⟩
    rw [l.length]
    simp [zipD, strD] at hi hi2
    omega
def dZipS : D → D → G → (List D → (G → Prop) → G → Prop) → Prop
  | .ref a, .str z => fun g R => match g a with | some xs => R (zipD xs (strD z)) (fun g' => g' a = some xs) g | _ => False
  | _, _ => fun _ _ => False
section
variable {X : Cx} {C : Ex → Addr} {W : WX} {a b : Expr} {ta tb : DTE} {p pos : Pos}
theorem d_zipS {elts : List Expr} {kk : Nat} {tpos : Pos} (hg : Gl X "zip") (hm : X.mg "zip" = none) (ha : PE X a (up X.K C W ta)) (hb : PE X b (up X.K C W tb)) (hs : starEach [a, b] X.env = [(false, eval a X.env), (false, eval b X.env)]) (hs2 : starEach [b] X.env = [(false, eval b X.env)]) :
    PI X (.Tuple elts kk tpos) (.Call (.Name "zip" p) [a, b] [] pos) (upI X.K C W (dI2 dZipS ta tb)) := by
  refine pi_imp (pi_zipS hg hm (pa_cons ha (pa_cons hb pa_nil hs2) (by rw [hs, hs2])) (by rw [hs, hs2]) (by rw [hs2]; rfl)) fun σ H R ⟨env, g, Xd, Rd, re, rg, t, cl, cx⟩ => ?_
  refine ⟨env, g, Xd, _, re, rg, t, fun d g1 v H1 q k r rv => ?_, cx⟩
  refine ⟨env, g1, Xd, _, re.keep k, r, q, fun d2 g2 v2 H2 q2 k2 r2 rv2 => ?_, cx.at k⟩
  dsimp only at q2
  unfold dZipS at q2
  have kk := k.trans k2
  split at q2
  · obtain ⟨hc, rfl⟩ := rv
    have rv2 : v2 = .str _ := rv2
    subst rv2
    split at q2
    · rename_i xs e1
      obtain ⟨vs, h1, l1⟩ := r2.lst hc e1
      exact ⟨_, vs, _, rfl, .of h1, cl _ _ _ _ _ q2 kk r2 (itzS_ok hc)⟩
    · exact q2.elim
  · exact q2.elim
end
def gdS (kvs : List (String × Int)) : List (Str × Int) := kvs.map fun p => (Str.ofString p.1, p.2)
structure GdAt (X : Cx) (x : Str) (kvs : List (String × Int)) : Prop where
  ex : ∃ (a : Addr) (es : Array DictEntry) (n : Nat), X.mg x = some (.ref a) ∧ KDict X.K X.w a es n ∧ ∀ z : Str, (∃ i t, (z, i) ∈ gdS kvs ∧ PySem.W.nsIn X.K a z = some (some (.int i t))) ∨ (z ∉ (gdS kvs).map (·.1) ∧ PySem.W.nsIn X.K a z = some none)
def dGin (kvs : List (String × Int)) (ta : DTE) : DTE := fun X env g Q => ta X env g fun d g1 => match d with
  | .str z => Q (.bl (decide (z ∈ (gdS kvs).map (·.1)))) g1
  | _ => False
def dGix (kvs : List (String × Int)) (tb : DTE) : DTE := fun X env g Q => tb X env g fun d g1 => match d with
  | .str z => z ∈ (gdS kvs).map (·.1) ∧ ∀ i, (z, i) ∈ gdS kvs → Q (.int i) g1
  | _ => False
section
variable {X : Cx} {C : Ex → Addr} {W : WX} {e : Expr} {te : DTE} {p pos : Pos} {x : Str} {kvs : List (String × Int)}
theorem d_gin (F : GdAt X x kvs) (hg : Gl X x) (hd : (x == ("__debug__" : Str)) = false) (he : PE X e (up X.K C W te)) : PE X (.Compare e [.In] [.Name x p] pos) (up X.K C W (dGin kvs te)) := by
  obtain ⟨a, es, n, hm, KD, hz⟩ := F.ex
  have hgl : PE X (.Name x p) (tC (.ref a)) := pe_glob hg hm (show RelV (.ref a) (.ref a) from rfl) hd
  refine pe_imp (pe_cmpR (op_in_kd KD) he hgl rfl) fun σ H Q ⟨env, g, Xd, Qd, re, rg, t, cl, cx⟩ => ?_
  refine ⟨env, g, Xd, _, re, rg, t, fun d g1 v H1 q k r rv => ?_, cx⟩
  cases d with
  | str z =>
    have rv : v = .str z := rv
    subst rv
    refine ?_
    rcases hz z with ⟨i, t, h1, h2⟩ | ⟨h1, h2⟩
    · refine ⟨z, some (.int i t), rfl, rfl, h2, ?_⟩
      have e : decide (z ∈ (gdS kvs).map (·.1)) = true := by
        rw [decide_eq_true_iff]
        exact List.mem_map.mpr ⟨_, h1, rfl⟩
      have q : Qd (.bl (decide (z ∈ (gdS kvs).map (·.1)))) g1 := q
      rw [e] at q
      exact cl _ _ _ _ q k r rfl
    · refine ⟨z, none, rfl, rfl, h2, ?_⟩
      have e : decide (z ∈ (gdS kvs).map (·.1)) = false := by
        rw [decide_eq_false_iff_not]
        exact h1
      have q : Qd (.bl (decide (z ∈ (gdS kvs).map (·.1)))) g1 := q
      rw [e] at q
      exact cl _ _ _ _ q k r rfl
  | _ => exact q.elim
theorem t_gin (F : GdAt X x kvs) (hg : Gl X x) (hd : (x == ("__debug__" : Str)) = false) (he : PE X e (up X.K C W te)) : PT X (.Compare e [.In] [.Name x p] pos) (upT X.K C W (dTst (dGin kvs te))) := by
  obtain ⟨a, es, n, hm, KD, hz⟩ := F.ex
  have hgl : PE X (.Name x p) (tC (.ref a)) := pe_glob hg hm (show RelV (.ref a) (.ref a) from rfl) hd
  refine pt_imp (pt_cmpR (op_in_kd KD) he hgl rfl) fun σ H Q ⟨env, g, Xd, Qd, re, rg, t, cl, cx⟩ => ?_
  refine ⟨env, g, Xd, _, re, rg, t, fun d g1 v H1 q k r rv => ?_, cx⟩
  cases d with
  | str z =>
    have rv : v = .str z := rv
    subst rv
    rcases hz z with ⟨i, t, h1, h2⟩ | ⟨h1, h2⟩
    · refine ⟨z, some (.int i t), rfl, rfl, h2, ?_⟩
      have e : decide (z ∈ (gdS kvs).map (·.1)) = true := by
        rw [decide_eq_true_iff]
        exact List.mem_map.mpr ⟨_, h1, rfl⟩
      have q : Qd (decide (z ∈ (gdS kvs).map (·.1))) g1 := q
      rw [e] at q
      exact ⟨true, rfl, cl _ _ _ q k r⟩
    · refine ⟨z, none, rfl, rfl, h2, ?_⟩
      have e : decide (z ∈ (gdS kvs).map (·.1)) = false := by
        rw [decide_eq_false_iff_not]
        exact h1
      have q : Qd (decide (z ∈ (gdS kvs).map (·.1))) g1 := q
      rw [e] at q
      exact ⟨false, rfl, cl _ _ _ q k r⟩
  | _ => exact q.elim
theorem d_gix (F : GdAt X x kvs) (hg : Gl X x) (hd : (x == ("__debug__" : Str)) = false) (he : PE X e (up X.K C W te)) (hs : PlainIx e) : PE X (.Subscript (.Name x p) e pos) (up X.K C W (dGix kvs te)) := by
  obtain ⟨a, es, n, hm, KD, hz⟩ := F.ex
  have hgl : PE X (.Name x p) (tC (.ref a)) := pe_glob hg hm (show RelV (.ref a) (.ref a) from rfl) hd
  refine pe_imp (pe_ix ix_kdict hgl he hs) fun σ H Q ⟨env, g, Xd, Qd, re, rg, t, cl, cx⟩ => ?_
  refine ⟨env, g, Xd, _, re, rg, t, fun d g1 v H1 q k r rv => ?_, cx⟩
  cases d with
  | str z =>
    have rv : v = .str z := rv
    subst rv
    obtain ⟨q1, q2⟩ := q
    rcases hz z with ⟨i, t, h1, h2⟩ | ⟨h1, h2⟩
    · exact ⟨a, z, .int i, rfl, rfl, ⟨es, n, _, KD.at_, KD.lit, h2, ⟨_, rfl⟩⟩, cl _ _ _ _ (q2 i h1) k r rfl⟩
    · exact absurd q1 h1
  | _ => exact q.elim
end
structure DskAt (ms : List (Nat × Str)) (mk : Option Nat) (ob : Bool) (gds : List (Str × List (String × Int))) (Γ : Nat → SpD) (C : Ex → Addr) (X : Cx) : Prop where
  fld : ob = true → FldAt X
  mth : ∀ i m, ms.lookup i = some m → MthAt X C m (Γ i)
  mkd : ∀ i, mk = some i → MkAt X C (Γ i)
  gds : ∀ x kvs, (x, kvs) ∈ gds → GdAt X x kvs
theorem DskAt.same {ms : List (Nat × Str)} {mk : Option Nat} {ob : Bool} {gds : List (Str × List (String × Int))} {Γ : Nat → SpD} {C : Ex → Addr} {X X' : Cx} (D : DskAt ms mk ob gds Γ C X) (h1 : X'.prog = X.prog) (h2 : X'.w = X.w) (h3 : X'.K = X.K) (h4 : X'.mg = X.mg) (h5 : X'.base = X.base)
    (hr : ∀ k, Room k X.A → Room k X'.A) : DskAt ms mk ob gds Γ C X' where
  fld := fun h => ⟨by rw [h3]; exact (D.fld h).ok⟩
  mth := fun i m h => by
    obtain ⟨C0, f, fd, ps, k, a, b, c, d, e, r⟩ := (D.mth i m h).ex
    exact ⟨C0, f, fd, ps, k, by rw [h3]; exact a, by rw [h3]; exact b, by rw [h3]; exact c, by rw [h3]; exact d, by rw [h1, h2, h3, h4, h5]; exact e, hr _ r⟩
  mkd := fun i h => by
    obtain ⟨C0, f, fd, ps, k, a, b, c, d, e, r⟩ := (D.mkd i h).ex
    exact ⟨C0, f, fd, ps, k, by rw [h3]; exact a, by rw [h4]; exact b, by rw [h3]; exact c, by rw [h3]; exact d, by rw [h1, h2, h3, h4, h5]; exact e, hr _ r⟩
  gds := fun x kvs h => by
    obtain ⟨a, es, n, b, c, d⟩ := (D.gds x kvs h).ex
    exact ⟨a, es, n, by rw [h4]; exact b, by rw [h3, h2]; exact c, by rw [h3]; exact d⟩
theorem DskAt.nil {Γ : Nat → SpD} {C : Ex → Addr} {X : Cx} : DskAt [] none false [] Γ C X := ⟨fun h => (by cases h), fun _ _ h => (by cases h), fun _ h => (by cases h), fun _ _ h => (by cases h)⟩
end PP
namespace PP
open PySem PySem.Spec PyProof.Rows L2
def wNn (K : PySem.W.Frag) (c : Value) (ts : TS) (Wout : WX) (D : Ends) : WX := fun cls d σ H =>
  ∃ b, PySem.W.exmOne K cls c = some b ∧ (b = true → ts D σ H) ∧ (b = false → Wout cls d σ H)
section
variable {X : Cx} {x : Str} {c : Value} {body suite : List Stmt} {b₀ : Stmt} {np pos pos' : Pos} {tb : WX → TS} {ts : TS} {Wout : WX}
theorem ps_try_nn (hs : X.stack = X.env :: X.outer) (hf : X.env.frame = some X.env.locals) (hc : Names X x c) (tk : L2N.Takes X Wout)
    (hb : ∀ (W : WX) (pn : List (Addr × Obj)) (xe : Value → Shared → Prop), L2N.Takes (X.tr pn xe) W → PassesOwn (model X.prog X.w) X.A X.env xe → PSs (X.tr pn xe) body (tb W))
    (hsu : ∀ (a : Addr) (pn : List (Addr × Obj)), PSs (X.suite a pn) (b₀ :: suite) ts) :
    PS X (.Try body [.ExceptHandler (some (.Name x np)) none (b₀ :: suite) pos'] [] [] pos) (fun D σ H => tb (wNn X.K c ts Wout D) D σ H) := by
  refine ⟨fun pins s σ H D I h => ?_⟩
  have ok := I.ok
  have hfr : X.A.frames = some (X.env :: X.outer) := by rw [ok.frames, hs]
  refine wpAny_Try_except ?_
  refine wpAny_mono ((hb (wNn X.K c ts Wout D) (X.pn ++ pins) (fun e s₁ => wpAny (model X.prog X.w) X.A (noteFrame e X.env) (fun _ s₂ => wpAny (model X.prog X.w) X.A (setFlight e none) (fun _ s₃ =>
    wpAny (model X.prog X.w) X.A (handleBy e X.env [.ExceptHandler (some (.Name x np)) none (b₀ :: suite) pos']) (SP X pins D) X.xe s₃) X.xe s₂) X.xe s₁) (fun u s' xx => ?_) PassesOwn.looking).run [] s σ H D (I.toTry _) h) (fun f s1 hsp => ?_) (fun e s1 he => he)
  · obtain ⟨a, B, sI, pins', σ', H', cls, d, rfl, J', nb, up, sky, na, os, ag, b, hb1, hyes, hno⟩ := xx
    have J : Inv X pins σ' H' sI := J'.ofTry ok
    have sky' : Sky B (X.env :: X.outer) a (L2N.Zn cls d) X.env.locals s'.heap := by rw [← hs]; exact sky
    show wpAny (model X.prog X.w) X.A (noteFrame (.ref a) X.env) _ _ _
    refine L2N.Sky.land L2N.Zn.steady hfr hf sky' fun h3 fl3 up3 => ?_
    have J3 : Inv X pins σ' H' { s' with heap := h3 } := J.landed nb fl3.1 (up.trans up3) os ag
    obtain ⟨oe3, vs3, he3, hz3, hd3⟩ := fl3.there
    have S3 : Inv (X.suite a (X.pn ++ pins)) [] σ' H' { s' with heap := h3 } := inv_suite J3
    refine wpAny_handleBy_cons (codeAny_handlers_test ?_) (by intro q; cases q)
    have LT : PySem.W.Looks (model X.prog X.w) h3 (typeOf (.ref a)) cls := fun A Q E s k q => wpAny_typeOf_ref (k _ _ he3) (by rw [hz3.1]; exact q)
    have LM := PySem.W.exm_one (M := model X.prog X.w) (J3.kIn) LT hb1
    have test : ∀ {Q : Value → Shared → Prop} {E : Value → Shared → Prop}, Q c { s' with heap := h3 } → wpAny (model X.prog X.w) (X.A.mark (some (.ref a))) (eval (.Name x np) X.env) Q E { s' with heap := h3 } := fun {Q E} q => by
      obtain ⟨hg, hdbg, hm | ⟨hm, hv, hnn⟩⟩ := hc
      · exact ld_glob (X := X.suite a (X.pn ++ pins)) S3 hg hm q hdbg
      · exact ld_blt (X := X.suite a (X.pn ++ pins)) S3 hg hm hv q hnn hdbg
    refine test (LM.here ?_)
    cases b with
    | true =>
      refine codeAny_handlers_suite ?_
      refine HandSPX.lands_againZ fl3 fun h4 fl4 up4 => ?_
      have J4 : Inv X pins σ' H' { s' with heap := h4 } := J.landed nb fl4.1 ((up.trans up3).trans up4) os ag
      have S4 : Inv (X.suite a (X.pn ++ pins)) [] σ' H' { s' with heap := h4 } := inv_suite J4
      refine wpAny_mono ((hsu a (X.pn ++ pins)).run [] _ _ _ _ S4 (hyes rfl)) (fun f s6 hsp => ?_) (fun _ _ z => False.elim z)
      cases f with
      | next =>
        obtain ⟨σ6, H6, S6, q6⟩ := hsp
        exact ⟨_, _, inv_unsuite S6 ok, q6⟩
      | brk =>
        obtain ⟨σ6, H6, S6, q6⟩ := hsp
        exact ⟨_, _, inv_unsuite S6 ok, q6⟩
      | cont =>
        obtain ⟨σ6, H6, S6, q6⟩ := hsp
        exact ⟨_, _, inv_unsuite S6 ok, q6⟩
      | ret u =>
        obtain ⟨v6, σ6, H6, S6, r6, q6⟩ := hsp
        exact ⟨_, _, _, inv_unsuite S6 ok, r6, q6⟩
    | false =>
      show wpAny _ X.A (handleBy (.ref a) X.env []) _ _ _
      refine wpAny_handleBy_nil ?_
      obtain ⟨k1, k2, k3, oe, vs, T, oT, ts', he, hz, hd, h1, hr⟩ := id fl3
      unfold PySem.passOn
      refine wpAny_bind (wpAny_field he hd h1 ?_)
      rw [if_neg (show ¬ ((Value.ref T == Value.none) = true) from by simp)]
      have fin : wpAny (model X.prog X.w) X.A (setFlight (.ref a) X.env.frame) (fun _ s4 => wpAny (model X.prog X.w) X.A (throw (.ref a) : Sem Flow) (SP X pins D) X.xe s4) X.xe { s' with heap := h3 } := by
        rw [hf]
        refine HandSPX.setFlight_upZ fl3 fun h4 hh4 up4 => wpAny_throw (tk _ _ ?_)
        exact ⟨a, B, sI, pins, σ', H', cls, d, rfl, J, nb, (up.trans up3).trans up4, .inr (.inr (by rw [hs]; exact hh4)), na, os, ag, hno rfl⟩
      first
        | exact wpAny_bind (wpAny_pure (wpAny_bind fin))
        | exact wpAny_bind fin
  · cases f with
    | next =>
      obtain ⟨σ', H', J', q⟩ := hsp
      exact wpAny_execs_nil ⟨σ', H', J'.ofTry ok, q⟩
    | brk =>
      obtain ⟨σ', H', J', q⟩ := hsp
      exact ⟨σ', H', J'.ofTry ok, q⟩
    | cont =>
      obtain ⟨σ', H', J', q⟩ := hsp
      exact ⟨σ', H', J'.ofTry ok, q⟩
    | ret u =>
      obtain ⟨v, σ', H', J', r, q⟩ := hsp
      exact ⟨v, σ', H', J'.ofTry ok, r, q⟩
end
def dTryn (ns : List Ex) (x : Ex) (j : Nat) (d : D) (t : DTS) : DTS := fun E env g =>
  t { E with ex := fun n env' g' => n ∈ ns ∧ (n.sub x = true → E.nx (env'.set j (some d)) g') ∧ (n.sub x = false → E.ex n env' g') } env g
def dTryu (ns : List Ex) (x : Ex) (t : DTS) : DTS := fun E env g =>
  t { E with ex := fun n env' g' => n ∈ ns ∧ n.sub x = false ∧ E.ex n env' g' } env g
def conD : Option Bool → D
  | none => .non
  | some b => .bl b
def conE : Option Bool → Expr → Bool
  | none, .Constant .none _ _ => true
  | some b, .Constant (.bool c) _ _ => decide (b = c)
  | _, _ => false
section
variable {X : Cx} {C : Ex → Addr} {W : WX} {pos : Pos}
theorem con_e {d : Option Bool} {e : Expr} (h : conE d e = true) : PE X e (up X.K C W (dC (conD d))) := by
  unfold conE at h
  split at h
  · exact d_const pe_non fun _ => rfl
  · have e := of_decide_eq_true h
    subst e
    exact d_const pe_bl fun _ => rfl
  · cases h
theorem d_tryn {ns : List Ex} {x : Ex} {j : Nat} {z : Str} {d : Option Bool} {e : Expr} {t : DTS} {body : List Stmt} {np pos' zp sp : Pos} (hs : X.stack = X.env :: X.outer) (hf : X.env.frame = some X.env.locals) (hN : X.N.Nodup)
    (hx : ExN X.K X.mg C x) (hg : Gl X x.nm) (hdb : (Str.ofString x.nm == ("__debug__" : Str)) = false) (hns : ∀ n ∈ ns, ExN X.K X.mg C n) (tk : L2N.Takes X W)
    (hb : ∀ (W' : WX) (pn : List (Addr × Obj)) (xe : Value → Shared → Prop), L2N.Takes (X.tr pn xe) W' → PassesOwn (model X.prog X.w) X.A X.env xe → PSs (X.tr pn xe) body (upS X.K C W' t))
    (hj : X.N[j]? = some z) (hlz : X.env.scope.names.lookup z = some .local) (he : conE d e = true) :
    PS X (.Try body [.ExceptHandler (some (.Name x.nm np)) none [.Assign [.Name z zp] e sp] pos'] [] [] pos) (upS X.K C W (dTryn ns x j (conD d) t)) := by
  have hsu : ∀ (a : Addr) (pn : List (Addr × Obj)), PSs (X.suite a pn) [.Assign [.Name z zp] e sp] (upS X.K C W (dSeq (dAsg (.n j) (dC (conD d))) dNop)) := fun a pn => by
    have hce : PE (X.suite a pn) e (up X.K C W (dC (conD d))) := con_e (X := X.suite a pn) he
    refine s_cons (X := X.suite a pn) (s_set (X := X.suite a pn) hN hj (.inl hlz) hce ?_ (.inr hlz)) s_nil
    unfold conE at he
    split at he <;> first | rfl | cases he
  refine ps_imp (ps_try_nn (tb := fun W' => upS X.K C W' t) hs hf (c := .ref (C x)) ⟨hg, hdb, .inl hx.mg⟩ tk hb hsu) fun D σ H ⟨env, g, E, re, rg, q, cn, cr, cx⟩ => ?_
  refine ⟨env, g, _, re, rg, q, cn, cr, fun m env' g' σ' H' ⟨hm, h1, h2⟩ k re' rg' => ?_⟩
  have N := hns m hm
  refine ⟨m.sub x, N.k.exm x _ hx.ns, fun hb => ?_, fun hb => cx _ _ _ _ _ (h2 hb) k re' rg'⟩
  exact ⟨env', g', { nx := E.nx, rt := E.rt, ex := E.ex }, re', rg', h1 hb, cn.at k, cr.at k, cx.at k⟩
theorem d_tryu {ns : List Ex} {x : Ex} {t : DTS} {body suite : List Stmt} {b₀ : Stmt} {np pos' : Pos} (hs : X.stack = X.env :: X.outer) (hf : X.env.frame = some X.env.locals)
    (hx : ExN X.K X.mg C x) (hg : Gl X x.nm) (hdb : (Str.ofString x.nm == ("__debug__" : Str)) = false) (hns : ∀ n ∈ ns, ExN X.K X.mg C n) (tk : L2N.Takes X W)
    (hb : ∀ (W' : WX) (pn : List (Addr × Obj)) (xe : Value → Shared → Prop), L2N.Takes (X.tr pn xe) W' → PassesOwn (model X.prog X.w) X.A X.env xe → PSs (X.tr pn xe) body (upS X.K C W' t)) :
    PS X (.Try body [.ExceptHandler (some (.Name x.nm np)) none (b₀ :: suite) pos'] [] [] pos) (upS X.K C W (dTryu ns x t)) := by
  refine ps_imp (ps_try_nn (tb := fun W' => upS X.K C W' t) (ts := fun _ _ _ => False) hs hf (c := .ref (C x)) ⟨hg, hdb, .inl hx.mg⟩ tk hb fun a pn => ⟨fun pins s σ H D I h => h.elim⟩) fun D σ H ⟨env, g, E, re, rg, q, cn, cr, cx⟩ => ?_
  refine ⟨env, g, _, re, rg, q, cn, cr, fun m env' g' σ' H' ⟨hm, h1, h2⟩ k re' rg' => ?_⟩
  have N := hns m hm
  exact ⟨m.sub x, N.k.exm x _ hx.ns, ⟨fun hb => (by rw [h1] at hb; cases hb), fun _ => cx _ _ _ _ _ h2 k re' rg'⟩⟩
end
def dRep : D → D → G → QD → Prop
  | .str s, .int k => fun g Q => 0 ≤ k ∧ k ≤ 1000 ∧ s.length ≤ 1000 ∧ Q (.str (Txt.mul s k)) g
  | _, _ => fun _ _ => False
theorem o_rep {X : Cx} : OpR X (binaryOp .Mult) (rUp X.K dRep) := by
  intro pins s σ H x y v u Q I rx ry ⟨d1, d2, g, Qd, r1, r2, rg, r, cl⟩
  unfold dRep at r
  split at r
  · rename_i z k
    obtain ⟨h1, h2, h3, q⟩ := r
    have e1 : x = V.str z := r1
    have e2 : y = V.int k := r2
    subst e1 e2
    obtain ⟨t, rfl⟩ := rx
    obtain ⟨t', rfl⟩ := ry
    have hok : PySem.MulOk z k := by
      have a1 : (decide (k < -(2 ^ 63 : Int)) || decide (k ≥ 2 ^ 63)) = false := by
        rw [Bool.or_eq_false_iff, decide_eq_false_iff_not, decide_eq_false_iff_not]
        omega
      have hk : (k.toNat : Int) = k := Int.toNat_of_nonneg h1
      have hz : z.length * k.toNat ≤ 1000000 := by
        have : k.toNat ≤ 1000 := by omega
        exact Nat.mul_le_mul h3 this
      refine ⟨a1, fun n1 _ => ?_, fun n1 _ => ?_⟩
      · have : (2 ^ 63 - 1 : Int) / k ≥ 1000 := by
          have hk0 : 0 < k := by omega
          rw [ge_iff_le, Int.le_ediv_iff_mul_le hk0]
          omega
        omega
      · unfold Builtin.Str.tooLong
        rw [decide_eq_false_iff_not, sizeLine_eq]
        omega
    exact SB.mul hok fun t' k' => ⟨.str (Txt.mul z k), H, I.tok _, ⟨_, rfl⟩, cl _ _ _ _ q (.refl _) rg rfl⟩
  · exact r.elim
end PP
set_option maxHeartbeats 2000000
namespace PP
open PySem PySem.Spec PyProof.Rows L2
structure LamO (h : Heap) (H : Hp) (fs : List Addr) (q : Str) (params : Arguments) (body : Expr) (scope : Scope) (cl : List (Str × Addr)) (P f : Addr) : Prop where
  obj : ∃ (pm ctv : Value) (d : Addr) (lp : Pos) (tab : Array Value), h.get? f = some (PySem.W.kla_obj "<lambda>" q params body scope cl pm d ctv) ∧ H P = some (.tbl tab) ∧ codeAmong lp tab.toList = some (.ref d)
  new : H f = none
  nof : f ∉ fs
section
variable {X : Cx} {pins : List (Addr × Obj)} {σ : L2.St} {H : Hp} {s : Shared}
theorem lam_made {c P : Addr} {params : Arguments} {body : Expr} {scope : Scope} {pos : Pos} {E Q : Value → Shared → Prop} (I : Inv X pins σ H s) (TB : LamX.TabB X.base X.mg c P) (hcode : X.env.code = .ref c)
    (hm : (c, P, X.env.qual ++ "<lambda>") ∈ TabL) (hu : ∀ p ∈ TabL, p.2.1 = P → p.2.2 = X.env.qual ++ "<lambda>") (hT : TbOk H) (hdef : defaultsOf params X.env = ([], [])) (hfree : ∀ y ∈ scope.names, y.2 = .free → ∃ c, X.env.cells.lookup y.1 = some c)
    (k : ∀ (f : Addr) (H1 : Hp) (s1 : Shared), Inv X pins σ H1 s1 → LamX.ExtN H H1 → TbOk H1 → LamO s1.heap H1 (frs X.stack) (X.env.qual ++ "<lambda>") params body scope (cloFrom X.env.cells scope.names []) P f → Q (.ref f) s1) :
    wpAny (model X.prog X.w) X.A (eval (.Lambda params body scope pos) X.env) Q E s := by
  obtain ⟨tab, eP, tri, told⟩ := hT _ hm
  have gP : s.heap.get? P = some { cls := .none, data := .fields tab } := I.hok P _ eP
  have bmP := TB.bm.keeps I.bk
  have far : ∀ a, s.heap.objs.size ≤ a → a ∉ frs X.stack := fun a ha z => by
    rcases List.mem_cons.mp (I.stkSub _ z) with e | e
    · exact absurd (e ▸ I.lt) (Nat.not_lt.mpr ha)
    · exact absurd e (I.nofs ha)
  refine PySem.W.kla_eval hdef ?_
  cases hit : codeAmong pos tab.toList with
  | some v =>
    obtain ⟨d, rfl, hd⟩ := told pos v hit
    refine PySem.W.kla_makeFunctionHit (mg := X.mg) (ps := tab) (closure_ok hfree) I.ok.glob (I.mod.glob.keeps I.bk) hcode (TB.code.keeps I.bk) gP tri hit bmP fun tv h2 tk2 kp ge => ?_
    refine k h2.objs.size H _ (I.kept fun b o e => Heap.get?_push_of_some _ (kp b o e)) (.refl H) hT ⟨⟨_, tv, d, pos, tab, Heap.get?_push_size _ rfl, eP, hit⟩, I.hok.fresh ge, far _ ge⟩
  | none =>
    refine PySem.W.kla_makeFunction (mg := X.mg) (ps := tab) (closure_ok hfree) I.ok.glob (I.mod.glob.keeps I.bk) hcode (TB.code.keeps I.bk) gP tri hit TB.gP bmP fun d tv h2 tk2 ext ge lt rec at2 => ?_
    obtain ⟨d2, ob, vs, t, ed, hob, hdt, hvs⟩ := rec
    cases ed
    have le2 : s.heap.objs.size ≤ h2.objs.size := Nat.le_of_lt (Nat.lt_of_le_of_lt ge lt)
    have new1 : H d = none := I.hok.fresh ge
    have I1 := LamX.inv_table (t' := tk2) (more := #[rawInt pos.line, rawInt pos.col, .ref d]) (h' := h2.push (PySem.W.kla_obj "<lambda>" (X.env.qual ++ "<lambda>") params body scope (cloFrom X.env.cells scope.names []) ((X.mg "__name__").getD .none) d tv)) I eP
      (fun b o hb e => Heap.get?_push_of_some _ (ext b o hb e)) (Heap.get?_push_of_some _ at2) ge ⟨ob, vs, t, Heap.get?_push_of_some _ hob, hdt, hvs⟩
    generalize hK : upd (upd H P (.tbl (tab ++ #[rawInt pos.line, rawInt pos.col, .ref d]))) d (LamX.CodeO d (X.env.qual ++ "<lambda>")) = K1 at I1
    have atD : K1 d = some (LamX.CodeO d (X.env.qual ++ "<lambda>")) := by rw [← hK]; exact upd_same
    have atP : K1 P = some (.tbl (tab ++ #[rawInt pos.line, rawInt pos.col, .ref d])) := by rw [← hK, upd_ne (ne_of_none eP new1)]; exact upd_same
    have others : ∀ b, b ≠ P → b ≠ d → K1 b = H b := fun b n1 n2 => by rw [← hK, upd_ne n2, upd_ne n1]
    have grow : LamX.ExtN H K1 := fun b o e n => by
      rw [others b (fun z => n tab (Option.some.inj (e.symm.trans (z ▸ eP)))) (fun z => by rw [z, new1] at e; cases e)]
      exact e
    have eL : (tab ++ #[rawInt pos.line, rawInt pos.col, .ref d]).toList = tab.toList ++ [rawInt pos.line, rawInt pos.col, .ref d] := by simp
    refine k h2.objs.size K1 _ I1 grow (fun p hp => ?_) ⟨⟨_, tv, d, pos, _, Heap.get?_push_size _ rfl, atP, by rw [eL]; exact PySem.codeAmong_snoc _ tri hit⟩, ?_, far _ le2⟩
    · by_cases hb : p.2.1 = P
      · rw [hu p hp hb, hb]
        refine ⟨_, atP, by rw [eL]; exact PySem.TriplesOk_snoc _ _ _ _ tri, fun p2 v hv => ?_⟩
        rw [eL] at hv
        rcases LamX.among_app _ tri hv with z | z
        · obtain ⟨d0, e1, e2⟩ := told p2 v z
          exact ⟨d0, e1, grow _ _ e2 LamX.codeO_ne⟩
        · exact ⟨d, z, atD⟩
      · obtain ⟨tab2, a1, a2, a3⟩ := hT p hp
        refine ⟨tab2, ?_, a2, fun p2 v hv => ?_⟩
        · rw [others _ hb (fun z => by rw [z, new1] at a1; cases a1)]
          exact a1
        · obtain ⟨d0, e1, e2⟩ := a3 p2 v hv
          exact ⟨d0, e1, grow _ _ e2 LamX.codeO_ne⟩
    · rw [others _ (Nat.ne_of_gt (Nat.lt_of_lt_of_le (Heap.lt_size gP) le2)) (Nat.ne_of_gt lt)]
      exact I.hok.fresh le2
end
theorem cells_still {X : Cx} {pins : List (Addr × Obj)} {σ : L2.St} {H : Hp} {s : Shared} {cl : List (Str × Addr)} {fr : List Str} {ws : List (Option V)} (C : NdefX.CellsAt cl fr ws X.s_0.heap X.H_0) (he : X.ex = []) (I : Inv X pins σ H s) : NdefX.CellsAt cl fr ws s.heap H := by
  have nx : ∀ c : Addr, c ∉ X.ex := fun c z => by rw [he] at z; cases z
  have kp : ∀ c v, X.H_0 c = none → X.s_0.heap.IsCell c v → s.heap.IsCell c v := fun c v n ⟨o, ho, hd⟩ => by
    obtain ⟨sl, q⟩ := I.base.any ho n (nx c)
    exact ⟨_, q, hd⟩
  refine ⟨C.len, fun y c e => ?_, C.inj, fun i y e => ?_⟩
  · obtain ⟨n, v, z⟩ := C.all y c e
    refine ⟨?_, v, kp c v n z⟩
    obtain ⟨o, ho, _⟩ := z
    exact I.base.free c o ho n (nx c)
  · obtain ⟨c, hc, hv⟩ := C.has i y e
    refine ⟨c, hc, fun v ev => ?_⟩
    obtain ⟨u, r, z⟩ := hv v ev
    exact ⟨u, r, kp c _ (C.all y c hc).1 z⟩
theorem among_more {pos : Pos} {c : Value} (more : List Value) : ∀ l : List Value, codeAmong pos l = some c → codeAmong pos (l ++ more) = some c := by
  intro l
  fun_induction codeAmong pos l with
  | case1 a t b u x rest h => intro e; cases e; rw [List.cons_append, List.cons_append, List.cons_append, codeAmong, if_pos h]
  | case2 a t b u x rest h ih => intro e; rw [List.cons_append, List.cons_append, List.cons_append, codeAmong, if_neg h]; exact ih e
  | case3 l h => intro e; cases e
abbrev lamF (q : Str) (params : Arguments) (scope : Scope) (cl : List (Str × Addr)) (d : Addr) : NdefX.NF := ⟨"<lambda>", q, params, [], scope, cl, d⟩
theorem tk_of {fs ex : List Addr} {H H' : Hp} {h h' : Heap} (u : Un fs ex H H' h h') (t : TbOk H') : TK H H' := by
  refine ⟨fun a o p e => ?_, fun _ => t⟩
  cases o with
  | tup xs => exact u.tups a xs e
  | frz o z => exact u.frzs a o z e
  | _ => cases p
section
variable {Y : Cx} {pins : List (Addr × Obj)} {σ : L2.St} {HZ : Hp} {s1 : Shared}
theorem lam_run {N fr : List Str} {x q : Str} {c P f : Addr} {k : Nat} {params : Arguments} {body : Expr} {scope : Scope} {cl : List (Str × Addr)} {ws : List (Option V)} {tb : TE} {v : V} {u : Value} {Q : VK} (I : Inv Y pins σ HZ s1) (he : Y.ex = []) (O : LamO Y.s_0.heap Y.H_0 Y.fs q params body scope cl P f) (hm : (c, P, q) ∈ TabL) (hT : TbOk HZ)
    (C0 : NdefX.CellsAt cl fr ws Y.s_0.heap Y.H_0) (S : NdefX.NScope N [x] fr scope) (hb : ∀ (q : Str) (cl : List (Str × Addr)) (pm cv ctv u : Value), bindArgs (PySem.W.kla_fn "<lambda>" q params body scope cl pm cv ctv) ⟨[u], []⟩ = pure [(x, u)]) (hr : Room (k + 1) Y.A)
    (hbody : ∀ d : Addr, Room k (Y.A.deeper (NdefX.envF (lamF q params scope cl d) f s1.heap.objs.size)) → PE (NdefX.ncx (L2N.CX Y.prog Y.w) Y.prog Y.w Y.K Y.mg Y.base N (lamF q params scope cl d) f Y.A Y.stack s1 HZ noXK) body tb) (rv : RelV v u) (ht : tb (NdefX.startF N [v] ws) HZ Q) :
    codeAny (model Y.prog Y.w) Y.A (.call (.ref f) ⟨[u], []⟩) (CR (L2N.CX Y.prog Y.w) Y.stack Y.prog Y.w HZ s1 Q noXK) s1 := by
  obtain ⟨⟨pm, ctv, d, lp, tab, ho, hP, hcd⟩, hn, hf⟩ := O
  have of1 : s1.heap.get? f = some (PySem.W.kla_obj "<lambda>" q params body scope cl pm d ctv) := I.base.keep f _ ho hn hf (fun z => by rw [he] at z; cases z)
  have C1 := cells_still C0 he I
  obtain ⟨more, hP1⟩ := I.base.tbls P tab hP
  have hrec : s1.heap.CodeRec (.ref d) q := by
    obtain ⟨tab2, a1, _, a3⟩ := hT _ hm
    have a1 : HZ P = some (.tbl tab2) := a1
    rw [hP1] at a1
    cases a1
    obtain ⟨d0, e1, e2⟩ := a3 lp (.ref d) (by rw [Array.toList_append]; exact among_more _ _ hcd)
    cases e1
    exact NdefX.codeO_at I.hok e2
  refine PySem.W.kla_callFunE hr.depth of1 rfl S.co S.gen rfl hrec ?_
  rw [hb]
  refine wpAny_pure (wpAny_newFunctionEnv S.nocell (fun ⟨n, _⟩ hy => ?_) (fun h₁ hns hsb => ⟨I.nolimit.fresh _ hsb, ?_⟩) S.kind)
  · rw [show n = x from congrArg Prod.fst (List.mem_singleton.mp hy)]
    exact S.par x (List.mem_singleton.mpr rfl)
  show codeAny _ _ (.expr body (NdefX.envF (lamF q params scope cl d) f s1.heap.objs.size)) _ _
  have kp : ∀ b o, s1.heap.get? b = some o → h₁.get? b = some o := fun b o e => hsb.extBut b o (Nat.ne_of_lt (Heap.lt_size e)) (Heap.get?_push_of_some _ e)
  have J := NdefX.inv_startN (CX := L2N.CX Y.prog Y.w) (N := N) (F := lamF q params scope cl d) (f := f) (E := noXK) (tk := s1.toks + 1) S hr.hd I.env0 (vs := [v]) (ps := [x]) rfl (.cons rv .nil) C1 hns kp
  refine PySem.W.kla_codeExpr (wpAny_mono ((hbody d (hr.deeper _)).run [] _ _ HZ Q J ht) (fun w s2 hq => ?_) fun e s2 hq => hq)
  obtain ⟨w', H2, J2, r2, q2⟩ := hq
  exact ⟨w', H2, J2.os, J2.bare, J2.base, J2.hok, r2, q2⟩
end
def lamL (t : DTE) (caps : Env) : D → G → QD → Prop := fun d g Q => t (fun _ _ => False) (some d :: caps) g Q
def askS (f : Addr) (L : D → G → QD → Prop) : SpD := fun ds g Q _ => ds = [.ref (2 * f)] ∨ ∃ d, ds = [.ref (2 * f), d] ∧ L d g Q
def dAsk (sp : SpD) (j : Nat) (te : DTE) : DTE := fun X env g Q => ∃ a, env[j]? = some (some (.ref a)) ∧ sp [.ref a] g (fun _ _ => True) (fun _ _ => True) ∧ te X env g fun d g1 => sp [.ref a, d] g1 Q X
structure LamAt (Y : Cx) (C : Ex → Addr) (f : Addr) (L : D → G → QD → Prop) : Prop where
  fn : ∀ (pins : List (Addr × Obj)) (σ : L2.St) (H : Hp) (s1 : Shared), Inv Y pins σ H s1 → PySem.W.FnAt f s1.heap
  ask : ∀ (pins : List (Addr × Obj)) (σ : L2.St) (H : Hp) (s1 : Shared) (v : V) (u : Value) (d : D) (g : G) (Q : VK) (Qd : QD), Inv Y pins σ H s1 → TbOk H → RelV v u → Rep Y.K H d v → RepG Y.K H g → L d g Qd → clos Y.K H Qd Q →
    codeAny (model Y.prog Y.w) Y.A (.call (.ref f) ⟨[u], []⟩) (CR (L2N.CX Y.prog Y.w) Y.stack Y.prog Y.w H s1 Q noXK) s1
structure CapsOk (K : PySem.W.Frag) (H : Hp) (caps : Env) (ws : List (Option V)) : Prop where
  len : caps.length = ws.length
  at_ : ∀ (i : Nat) (d : D), caps[i]? = some (some d) → ∃ v, ws[i]? = some (some v) ∧ Rep K H d v
section
variable {Y : Cx} {C : Ex → Addr}
theorem lamAt_of {fr : List Str} {x q : Str} {c P f : Addr} {k : Nat} {params : Arguments} {body : Expr} {scope : Scope} {cl : List (Str × Addr)} {ws : List (Option V)} {caps : Env} {t : DTE} (he : Y.ex = []) (O : LamO Y.s_0.heap Y.H_0 Y.fs q params body scope cl P f) (hm : (c, P, q) ∈ TabL)
    (C0 : NdefX.CellsAt cl fr ws Y.s_0.heap Y.H_0) (S : NdefX.NScope (x :: fr) [x] fr scope) (hb : ∀ (q : Str) (cl : List (Str × Addr)) (pm cv ctv u : Value), bindArgs (PySem.W.kla_fn "<lambda>" q params body scope cl pm cv ctv) ⟨[u], []⟩ = pure [(x, u)]) (hr : Room (k + 1) Y.A) (cp : CapsOk Y.K Y.H_0 caps ws)
    (hbody : ∀ (d : Addr) (s1 : Shared) (HZ : Hp), Room k (Y.A.deeper (NdefX.envF (lamF q params scope cl d) f s1.heap.objs.size)) → PE (NdefX.ncx (L2N.CX Y.prog Y.w) Y.prog Y.w Y.K Y.mg Y.base (x :: fr) (lamF q params scope cl d) f Y.A Y.stack s1 HZ noXK) body (up Y.K C (fun _ _ _ _ => False) t)) : LamAt Y C f (lamL t caps) where
  fn := fun pins σ H s1 I => by
    obtain ⟨⟨pm, ctv, d, lp, tab, ho, hP, hcd⟩, hn, hf⟩ := O
    exact ⟨_, _, _, _, I.base.keep f _ ho hn hf (fun z => by rw [he] at z; cases z)⟩
  ask := fun pins σ H s1 v u d g Q Qd I hT rv rd rg hL cl' => by
    refine lam_run I he O hm hT C0 S hb hr (fun d2 hr2 => hbody d2 s1 H hr2) rv ⟨some d :: caps, g, fun _ _ => False, Qd, ⟨?_, fun i e hi => ?_, hT⟩, rg, hL, cl', fun n g' H' z => z.elim⟩
    · have := C0.len
      have := cp.len
      unfold NdefX.startF
      simp only [List.length_cons, List.length_append, List.length_map, List.length_nil, List.length_replicate]
      omega
    · unfold NdefX.startF
      cases i with
      | zero => cases hi; exact ⟨v, rfl, rd⟩
      | succ i =>
        have hi : caps[i]? = some (some e) := hi
        obtain ⟨w, hw, rw_⟩ := cp.at_ i e hi
        have hlt : i < ws.length := by
          rcases Nat.lt_or_ge i ws.length with z | z
          · exact z
          · rw [List.getElem?_eq_none z] at hw; cases hw
        refine ⟨w, ?_, rw_.keep (tk_of I.base hT)⟩
        show (ws ++ _)[i]? = _
        rw [List.getElem?_append_left hlt]
        exact hw
theorem d_ask {W : WX} {f : Addr} {L : D → G → QD → Prop} {x : Str} {j : Nat} {e : Expr} {te : DTE} {p pos : Pos} (A : LamAt Y C f L) (hN : Y.N[j]? = some x) (hv : Vis Y.env.scope x) (hd : (x == ("__debug__" : Str)) = false) (hcd : (x == ("__classdict__" : Str)) = false)
    (he : PE Y e (up Y.K C W te)) (hs : starEach [e] Y.env = (false, eval e Y.env) :: starEach [] Y.env) : PE Y (.Call (.Name x p) [e] [] pos) (up Y.K C W (dAsk (askS f L) j te)) := by
  refine ⟨fun pins s σ H Q I ⟨env, g, Xd, Qd, re, rg, ⟨a, ha, hs0, ht⟩, cl, cx⟩ => ?_⟩
  have ea : a = 2 * f := by
    rcases hs0 with z | ⟨_, z, _⟩
    · cases z; rfl
    · cases z
  subst ea
  obtain ⟨v0, hσ, r0⟩ := re.2.1 j _ ha
  obtain ⟨_, r0⟩ := r0
  have r0 : v0 = .ref f := by rw [r0, Nat.mul_div_cancel_left f (by decide : 0 < 2)]
  subst r0
  refine wpAny_Call_Name_kw (thn ((pe_var (pos := p) hN hv hd hcd).run pins s σ H (fun v H1 => v = .ref f ∧ H1 = H) I ⟨.ref f, hσ, rfl, rfl⟩) fun u s1 ⟨v, H1, I1, r1, e1, e2⟩ => ?_)
  subst e1
  subst e2
  obtain rfl : u = Value.ref f := r1
  refine PySem.W.callWith_F (first := []) (A.fn _ _ _ _ I1) ?_ hs (by rfl)
  rw [hs]
  show wpAny _ _ (spliced ((false, eval e Y.env) :: backTo pos (starEach [] Y.env))) _ _ s1
  refine Calls.spliced_cons (thn (he.run pins s1 σ H1 (fun v H2 => ∃ d g2, TbOk H2 ∧ Rep Y.K H2 d v ∧ RepG Y.K H2 g2 ∧ L d g2 Qd ∧ clos Y.K H2 Qd Q) I1 ⟨env, g, Xd, _, re, rg, ht, fun d g2 v H2 q k r rd => ?_, cx⟩) fun u s2 ⟨v, H2, I2, rv, d, g2, q1, q2, q3, q4, q5⟩ => ?_)
  · rcases q with z | ⟨d', z, q⟩
    · cases z
    · cases z
      exact ⟨d, g2, re.2.2.keep k, rd, r, q, cl.at k⟩
  · refine Calls.spliced_nil ⟨A.fn _ _ _ _ I2, ?_⟩
    show wpAny _ _ (call (.ref f) [u]) _ _ _
    refine wpAny_call (codeAny_mono (A.ask pins σ H2 s2 v u d g2 Q Qd I2 q1 rv q2 q3 q4 q5) fun r s3 hq => ?_)
    cases r with
    | error e =>
      obtain ⟨_, _, _, _, _, _, _, _, _, _, _, _, z⟩ := hq
      exact z.elim
    | ok fl =>
      cases fl with
      | ret u => exact I2.after hq
      | next => exact False.elim hq
      | brk => exact False.elim hq
      | cont => exact False.elim hq
end
def Asks3 (P : Program) (w : World) (K : PySem.W.Frag) (mg : Str → Option Value) (base : Heap) (C : Ex → Addr) (k : Nat) (S : (D → G → QD → Prop) → SpD) (N : List Str) (x : Str) (sg : Scope) (g : Addr) (cd : Value) (bg : List Stmt) : Prop :=
  ∀ (A : Around) (outer : List PySem.Env) (f : Addr) (L : D → G → QD → Prop) (s : Shared) (H : Hp) (Q : VK) (d1 d2 : D) (v1 v2 : V) (gg : G) (Qd : QD), Room k (A.deeper (envOfC x sg s.heap.objs.size g cd)) → TbOk H → Rep K H d1 v1 → Rep K H d2 v2 → RepG K H gg →
    (∀ (pn : List (Addr × Obj)) (xe : Value → Shared → Prop), LamAt ((askC P w K mg base N x sg g cd A outer s H).tr pn xe) C f L) → S L [d1, d2, .ref (2 * f)] gg Qd (fun _ _ => False) → clos K H Qd Q →
    ∃ t, PSs (askC P w K mg base N x sg g cd A outer s H) bg t ∧ t { nx := fun _ H' => Q .non H', rt := Q } (L2.start N [v1, v2, .ref f]) H
structure AskG (P : Program) (w : World) (K : PySem.W.Frag) (mg : Str → Option Value) (base : Heap) (C : Ex → Addr) (k : Nat) (S : (D → G → QD → Prop) → SpD) (x : Str) : Prop where
  ex : ∃ (g : Addr) (pg : Arguments) (bg : List Stmt) (sg : Scope) (dV kV doc pm cdv ct oc : Value) (an od : Option Addr) (osl : Array (Option Value)) (N ps : List Str),
    mg x = some (.ref g) ∧ PySem.W.keepIn K (.ref g) = true ∧ K.lookup g = some ⟨oc, od, .func (PySem.W.fnOf x x pg bg sg dV kV doc pm an cdv ct), osl⟩ ∧ PySem.W.codeIn K cdv x = true ∧ Binds K (PySem.W.fnOf x x pg bg sg dV kV doc pm an cdv ct) ps [] ∧ ps.length = 3 ∧ FnScope N ps sg ∧ (Mod K mg base → Asks3 P w K mg base C k S N x sg g cdv bg)
def dLamq (S : (D → G → QD → Prop) → SpD) (js : List Nat) (ta tb t : DTE) : DTE := fun Xd env g Q => ta Xd env g fun d1 g1 => tb Xd env g1 fun d2 g2 => ∀ a, S (lamL t (js.map fun j => (env[j]?).getD none)) [d1, d2, .ref a] g2 Q (fun _ _ => False)
section
variable {X : Cx} {C : Ex → Addr} {W : WX}
theorem d_lamq {k : Nat} {S : (D → G → QD → Prop) → SpD} {x px : Str} {fr : List Str} {js : List Nat} {params : Arguments} {body : Expr} {scope : Scope} {e1 e2 : Expr} {t1 t2 t : DTE} {p lpos pos : Pos} (M : LamM X) (F : AskG X.prog X.w X.K X.mg X.base C k S x) (hr : Room (k + 2) X.A) (hg : Gl X x) (hdb : (x == ("__debug__" : Str)) = false) (hex : X.ex = [])
    (NS : NdefX.NScope (px :: fr) [px] fr scope) (hfree : ∀ y ∈ scope.names, y.2 = .free → X.env.scope.names.lookup y.1 = some .cell ∨ X.env.scope.names.lookup y.1 = some .free) (hfr : ∀ y ∈ fr, (y, NameKind.free) ∈ scope.names) (hjs : js.map (fun j => X.N[j]?) = fr.map some)
    (hdef : defaultsOf params X.env = ([], [])) (hb : ∀ (q : Str) (cl : List (Str × Addr)) (pm cv ctv u : Value), bindArgs (PySem.W.kla_fn "<lambda>" q params body scope cl pm cv ctv) ⟨[u], []⟩ = pure [(px, u)])
    (he1 : PE X e1 (up X.K C W t1)) (he2 : PE X e2 (up X.K C W t2)) (hs1 : starEach [e1, e2, .Lambda params body scope lpos] X.env = (false, eval e1 X.env) :: starEach [e2, .Lambda params body scope lpos] X.env) (hs2 : starEach [e2, .Lambda params body scope lpos] X.env = (false, eval e2 X.env) :: starEach [.Lambda params body scope lpos] X.env)
    (hpl : (backTo pos (starEach [e2, .Lambda params body scope lpos] X.env)).any (·.1) = false)
    (hbody : ∀ (A : Around) (outer : List PySem.Env) (f d : Addr) (cl : List (Str × Addr)) (q : Str) (s1 : Shared) (HZ : Hp), Room k (A.deeper (NdefX.envF (lamF q params scope cl d) f s1.heap.objs.size)) → PE (NdefX.ncx (L2N.CX X.prog X.w) X.prog X.w X.K X.mg X.base (px :: fr) (lamF q params scope cl d) f A outer s1 HZ noXK) body (up X.K C (fun _ _ _ _ => False) t)) :
    PE X (.Call (.Name x p) [e1, e2, .Lambda params body scope lpos] [] pos) (up X.K C W (dLamq S js t1 t2 t)) := by
  obtain ⟨c, P, hcode, hmT, hu, TB⟩ := M.ex
  obtain ⟨g, pg, bg, sg, dV, kV, doc, pm, cdv, ct, oc, an, od, osl, N, ps, hm, hk, lk, hcg, hbd, hps, Sg, hG⟩ := F.ex
  refine ⟨fun pins s σ H Q I ⟨env, g0, Xd, Qd, re, rg, ht, cl, cx⟩ => ?_⟩
  refine wpAny_Call_Name_kw (ld_glob I hg hm ?_ hdb)
  refine PySem.W.callWith_K (h₀ := X.base) (first := []) I.ok.mod.kin hk ?_ hs1 hpl
  rw [hs1]
  show wpAny _ _ (spliced ((false, eval e1 X.env) :: backTo pos (starEach [e2, .Lambda params body scope lpos] X.env))) _ _ s
  refine Calls.spliced_cons (thn (he1.run pins s σ H (fun v H1 => ∃ d1 g1, TK H H1 ∧ Rep X.K H1 d1 v ∧ RepG X.K H1 g1 ∧ t2 Xd env g1 fun d2 g2 => ∀ a, S (lamL t (js.map fun j => (env[j]?).getD none)) [d1, d2, .ref a] g2 Qd (fun _ _ => False)) I
    ⟨env, g0, Xd, _, re, rg, ht, fun d1 g1 v H1 q k1 r1 rd => ⟨d1, g1, k1, rd, r1, q⟩, cx⟩) fun u1 s1 ⟨v1, H1, I1, rv1, d1, g1, k1, rd1, rg1, ht1⟩ => ?_)
  rw [hs2]
  show wpAny _ _ (spliced ((false, eval e2 X.env) :: backTo pos (starEach [.Lambda params body scope lpos] X.env))) _ _ s1
  refine Calls.spliced_cons (thn (he2.run pins s1 σ H1 (fun v H2 => ∃ d2 g2, TK H1 H2 ∧ Rep X.K H2 d2 v ∧ RepG X.K H2 g2 ∧ ∀ a, S (lamL t (js.map fun j => (env[j]?).getD none)) [d1, d2, .ref a] g2 Qd (fun _ _ => False)) I1
    ⟨env, g1, Xd, _, re.keep k1, rg1, ht1, fun d2 g2 v H2 q k2 r2 rd => ⟨d2, g2, k2, rd, r2, q⟩, cx.at k1⟩) fun u2 s2 ⟨v2, H2, I2, rv2, d2, g2, k2, rd2, rg2, ht2⟩ => ?_)
  show wpAny _ _ (spliced ((false, eval (.Lambda params body scope lpos) X.env) :: backTo pos (starEach [] X.env))) _ _ s2
  have tb2 : TbOk H2 := re.2.2.keep (k1.trans k2)
  have hfr2 : ∀ y ∈ scope.names, y.2 = .free → ∃ c, X.env.cells.lookup y.1 = some c := fun y hy e => (hfree y hy e).elim (fun z => I2.ok.has _ (.inl z)) fun z => I2.ok.has _ (.inr z)
  refine Calls.spliced_cons (lam_made I2 TB hcode hmT hu tb2 hdef hfr2 fun f H3 s3 I3 eN tb3 O => ?_)
  refine Calls.spliced_nil ⟨I3.kIn, ?_⟩
  have k3 : TK H2 H3 := ext_per eN tb3
  have k03 : TK H H3 := (k1.trans k2).trans k3
  have CA := NdefX.cells_of I3 (NdefX.Caps.made I3.ok hfree hfr hjs)
  have rE : RepE X.K H3 env σ := re.keep k03
  have cp : CapsOk X.K H3 (js.map fun j => (env[j]?).getD none) (js.map (NdefX.slotAt σ)) := by
    refine ⟨by simp, fun i d hi => ?_⟩
    rw [List.getElem?_map] at hi
    cases hj : js[i]? with
    | none => rw [hj] at hi; cases hi
    | some j =>
      rw [hj] at hi
      cases hej : env[j]? with
      | none =>
        have hi : some ((env[j]?).getD none) = some (some d) := hi
        rw [hej] at hi; cases hi
      | some o =>
        have hi : some ((env[j]?).getD none) = some (some d) := hi
        rw [hej] at hi
        have e3 : o = some d := Option.some.inj hi
        subst e3
        obtain ⟨v, hv, r⟩ := rE.2.1 j d hej
        exact ⟨v, by rw [List.getElem?_map, hj]; exact congrArg some (NdefX.slotAt_of hv), r⟩
  have run : codeAny (model X.prog X.w) X.A (.call (.ref g) ⟨[u1, u2, .ref f], []⟩) (CR (L2N.CX X.prog X.w) X.stack X.prog X.w H3 s3 Q noXK) s3 := by
    refine LamX.run_ofS (N := N) (ps := ps) (us := [u1, u2, .ref f]) (vs := [v1, v2, .ref f]) lk hcg Sg hr I3.env0 (hbd s3 [u1, u2, .ref f] I3.kIn (by simp [hps])) (.cons rv1 (.cons rv2 (.cons rfl .nil))) (by simp [hps]) fun hr' => ?_
    refine hG I3.ok.mod X.A X.stack f _ s3 H3 Q d1 d2 v1 v2 g2 Qd (hr'.mono (Nat.le_succ k)) tb3 (rd1.keep (k2.trans k3)) (rd2.keep k3) (ext_repG eN tb3 rg2) (fun pn xe => ?_) (ht2 (2 * f)) (cl.at k03)
    exact lamAt_of (fr := fr) (x := px) (k := k) rfl O hmT CA NS hb hr' cp fun d s4 HZ hr2 => hbody _ _ f d _ _ s4 HZ hr2
  refine wpAny_call (codeAny_mono run fun r s4 hq => ?_)
  cases r with
  | error e =>
    obtain ⟨_, _, _, _, _, _, _, _, _, _, _, _, z⟩ := hq
    exact z.elim
  | ok fl =>
    cases fl with
    | ret u => exact I3.after hq
    | next => exact False.elim hq
    | brk => exact False.elim hq
    | cont => exact False.elim hq
end
end PP
namespace PP
open PySem PySem.Spec PyProof.Rows L2
inductive Op where
  | add | sub | mul | fdiv | mod | pow
def Op.rd : Op → D → D → G → QD → Prop
  | .add => dAdd
  | .sub => dSub
  | .mul => dMul
  | .fdiv => dFdiv
  | .mod => dMod
  | .pow => dPow
def Op.py : Op → Operator
  | .add => .Add
  | .sub => .Sub
  | .mul => .Mult
  | .fdiv => .FloorDiv
  | .mod => .Mod
  | .pow => .Pow
inductive Cm where
  | eq | ne | lt | le | gt | ge | is_ | isn | in_ | nin
def Cm.rd : Cm → D → D → G → QD → Prop
  | .eq => dEqB false
  | .ne => dEqB true
  | .lt => dLt
  | .le => dLe
  | .gt => dGt
  | .ge => dGe
  | .is_ => dIsN false
  | .isn => dIsN true
  | .in_ => dIn false
  | .nin => dIn true
def Cm.py : Cm → CmpOp
  | .eq => .Eq
  | .ne => .NotEq
  | .lt => .Lt
  | .le => .LtE
  | .gt => .Gt
  | .ge => .GtE
  | .is_ => .Is
  | .isn => .IsNot
  | .in_ => .In
  | .nin => .NotIn
inductive Bl where
  | len | abs | max | min | int | str | sum | all | list | tuple
def Bl.rd : Bl → List D → G → QD → Prop
  | .len => dLen
  | .abs => dAbs
  | .max => dMax
  | .min => dMin
  | .int => dInt
  | .str => dStr
  | .sum => dSum
  | .all => dAll
  | .list => dList
  | .tuple => dTuple
def Bl.nm : Bl → String
  | .len => "len"
  | .abs => "abs"
  | .max => "max"
  | .min => "min"
  | .int => "int"
  | .str => "str"
  | .sum => "sum"
  | .all => "all"
  | .list => "list"
  | .tuple => "tuple"
inductive Mt where
  | append | pop | popAt | extend | clear | reverse | insert | index | split | join
def Mt.rd : Mt → D → List D → G → QD → Prop
  | .append => mAppend
  | .pop => mPop
  | .popAt => mPopAt
  | .extend => mExtend
  | .clear => mClear
  | .reverse => mReverse
  | .insert => mInsert
  | .index => mIndex
  | .split => mSplit
  | .join => mJoin
def Mt.nm : Mt → String
  | .append => "append"
  | .pop => "pop"
  | .popAt => "pop"
  | .extend => "extend"
  | .clear => "clear"
  | .reverse => "reverse"
  | .insert => "insert"
  | .index => "index"
  | .split => "split"
  | .join => "join"
def Mt.rc : Mt → Rc
  | .split => .str
  | .join => .str
  | _ => .list
def Mt.none : Mt → Bool
  | .pop => true
  | .clear => true
  | .reverse => true
  | _ => false
def dLset (t : DTE) : DTE := fun X env g Q => t X env g fun d g1 => match d with
  | .ref a => (match g1 a with
    | some xs => xs.length < 64 ∧ ∃ kss : List (List Int), xs = kss.map (fun k => D.tup (k.map D.int)) ∧ ∀ L : List (List Int), L.Nodup → (∀ k ∈ L, k ∈ kss) → (∀ k ∈ kss, k ∈ L) → Q (.int (L.length : Nat)) g1
    | none => False)
  | _ => False
def dSrev (t : DTE) : DTE := fun X env g Q => t X env g fun d g1 => match d with
  | .ref a => (match g1 a with
    | some xs => ∀ p, g1 p = none → Q (.ref p) (g1.up p xs.reverse)
    | none => False)
  | .tup xs => Q (.tup xs.reverse) g1
  | _ => False
inductive PX where
  | v (i : Nat) | int (i : Int) | bl (b : Bool) | non | str (s : String) | glo (k : Nat)
  | bin (o : Op) (a b : PX) | cmp (o : Cm) (a b : PX) | chain (o p : Cm) (a b c : PX)
  | not (a : PX) | neg (a : PX) | and (a b : PX) | or (a b : PX)
  | ix (a b : PX) | slc (a lo hi : PX)
  | tup (as : PX) | lst (as : PX) | nil | cons (a r : PX)
  | call (f : Nat) (as : PX) | blt (b : Bl) (as : PX) | mt (m : Mt) (o as : PX)
  | isi (ts : List Ty) (a : PX)
  | comp (own : List Nat) (tg : TgD) (it tst e : PX)
  | over (a : PX) | range1 (a : PX) | range2 (a b : PX) | rev (a : PX) | zip (a b : PX) | enum (a : PX) | zip3 (a b d : PX)
  | yes | hole | lset (a : PX) | srev (a : PX)
  | isx (ts : List (Option Ex)) (a : PX) | tupz (a b : PX) | overL (a : PX) | dic | dic1 (k : Int) (i : Nat) | dnew | vfz (i : Nat) | stp (a b : PX) | lamr (ns : List Ex) (a : PX)
  | fld (a : PX) | meth (f : Nat) (o as : PX) | mk (f : Nat) (as : PX) | gin (kvs : List (String × Int)) (a : PX) | gix (kvs : List (String × Int)) (a : PX) | rep (a b : PX) | zips (a b : PX)
  | ask (i j : Nat) (a : PX) | lamq (js : List Nat) (a b e : PX)
def isSoS (Γ : Nat → SpD) (L : D → G → QD → Prop) : SpD := fun ds g Q _ => ∃ (xs : List D) (m : Nat) (a : Addr) (h : Int → D), ds = [.tup xs, .int (m : Int), .ref a] ∧ xs.length ≤ m ∧ m ≤ 100 ∧ (∀ (j : Int) (g : G) (F : QD), F (.bl false) g → dEqB true (h j) (h j) g F) ∧
  (∀ (F : QD) (E : XD), F (.bl true) g → Γ 28 [.tup xs] g F E) ∧
  (∀ (k : Nat) (g2 : G) (F : QD) (E : XD), k ≤ m → F (h ((k : Int) - (m : Int).fdiv 2)) g2 → Γ 27 [.tup xs, .tup [.int ((k : Int) - (m : Int).fdiv 2), .int 1]] g2 F E) ∧
  (∀ (k : Nat) (g2 : G) (F : QD), k ≤ m → F (h ((k : Int) - (m : Int).fdiv 2)) g2 → L (.int ((k : Int) - (m : Int).fdiv 2)) g2 F) ∧ Q (.bl true) g
structure Mn where
  e : DTE := fun _ _ _ _ => False
  t : DTT := fun _ _ _ _ => False
  a : DTA := fun _ _ _ _ => False
  i : DTI := fun _ _ _ _ => False
  o : DTO := fun _ _ _ _ => False
def Mn.of (e : DTE) : Mn := { e := e, t := dTst e, o := dPart e, i := dIAny e }
def mn (Γ : Nat → SpD) (gl : Nat → D) : PX → Mn
  | .v i => .of (dVar i)
  | .int i => .of (dC (.int i))
  | .bl b => .of (dC (.bl b))
  | .non => .of (dC .non)
  | .str s => .of (dC (.str s))
  | .glo k => .of (dC (gl k))
  | .bin o a b => .of (dBin o.rd (mn Γ gl a).e (mn Γ gl b).e)
  | .cmp o a b => .of (dBin o.rd (mn Γ gl a).e (mn Γ gl b).e)
  | .chain o p a b c => .of (dChain o.rd p.rd (mn Γ gl a).e (mn Γ gl b).e (mn Γ gl c).e)
  | .not a => { Mn.of (dNot (mn Γ gl a).e) with t := dNotT (mn Γ gl a).t }
  | .neg a => .of (dUn dNeg (mn Γ gl a).e)
  | .and a b => { Mn.of (dAnd (mn Γ gl a).e (mn Γ gl b).e) with t := dAndT (mn Γ gl a).t (mn Γ gl b).t }
  | .or a b => { Mn.of (dOr (mn Γ gl a).e (mn Γ gl b).e) with t := dOrT (mn Γ gl a).t (mn Γ gl b).t }
  | .ix a b => .of (dBin dIx (mn Γ gl a).e (mn Γ gl b).e)
  | .slc a lo hi => .of (dSlc (mn Γ gl a).e (mn Γ gl lo).o (mn Γ gl hi).o)
  | .tup as => .of (dTup (mn Γ gl as).a)
  | .lst as => .of (dLst (mn Γ gl as).a)
  | .nil => { a := dNil }
  | .cons a r => { a := dCons (mn Γ gl a).e (mn Γ gl r).a }
  | .call f as => .of (dCall (Γ f) (mn Γ gl as).a)
  | .blt b as => .of (dCB b.rd (mn Γ gl as).a)
  | .mt m o as => .of (dMt m.rc m.rd (mn Γ gl o).e (mn Γ gl as).a)
  | .isi ts a => .of (dUn (dIsi ts) (mn Γ gl a).e)
  | .comp own tg it tst e => .of (dComp (mn Γ gl it).i tg own (mn Γ gl tst).t (mn Γ gl e).e)
  | .over a => { i := dIAny (mn Γ gl a).e }
  | .range1 a => { i := dI1 dRange1 (mn Γ gl a).e }
  | .range2 a b => { i := dI2 dRange2 (mn Γ gl a).e (mn Γ gl b).e }
  | .rev a => { i := dI1 dRev (mn Γ gl a).e }
  | .zip a b => { i := dI2 dZip (mn Γ gl a).e (mn Γ gl b).e }
  | .enum a => { i := dI1 dEnum (mn Γ gl a).e }
  | .zip3 a b d => { i := dI3 dZip3 (mn Γ gl a).e (mn Γ gl b).e (mn Γ gl d).e }
  | .yes => { t := dYes }
  | .hole => { o := dNoPart }
  | .lset a => .of (dLset (mn Γ gl a).e)
  | .srev a => .of (dSrev (mn Γ gl a).e)
  | .isx ts a => .of (dUn (dIsx ts) (mn Γ gl a).e)
  | .tupz a b => .of (dBin dTupZ (mn Γ gl a).e (mn Γ gl b).e)
  | .overL a => { i := dILst (mn Γ gl a).e }
  | .dic => .of dEmp
  | .dnew => .of dDnew
  | .vfz i => .of (dVfz i)
  | .dic1 _ i => .of (dDic1 i)
  | .stp a b => .of (dStp (mn Γ gl a).e (mn Γ gl b).e)
  | .lamr ns a => .of (dLamr ns wdA toldA (mn Γ gl a).e)
  | .fld a => .of (dFld (mn Γ gl a).e)
  | .meth f o as => .of (dMeth (Γ f) (mn Γ gl o).e (mn Γ gl as).a)
  | .mk f as => .of (dMake (Γ f) (mn Γ gl as).a)
  | .gin kvs a => { e := dGin kvs (mn Γ gl a).e, t := dTst (dGin kvs (mn Γ gl a).e) }
  | .gix kvs a => .of (dGix kvs (mn Γ gl a).e)
  | .rep a b => .of (dBin dRep (mn Γ gl a).e (mn Γ gl b).e)
  | .zips a b => { i := dI2 dZipS (mn Γ gl a).e (mn Γ gl b).e }
  | .ask i j a => .of (dAsk (Γ i) j (mn Γ gl a).e)
  | .lamq js a b e => .of (dLamq (isSoS Γ) js (mn Γ gl a).e (mn Γ gl b).e (mn Γ gl e).e)
inductive Lk where
  | r (x : Str) | q (x : Str) | a (f : Nat) (x : Str) (j : Nat)
  deriving DecidableEq
structure Ck where
  N : List Str
  sc : Scope
  fn : Str → Bool
  fns : List (Nat × Str)
  gls : List (Nat × Str)
  exs : List Ex
  hot : List (Nat × Str) := []
  lam : Option Lk := none
  mths : List (Nat × Str) := []
  mkd : Option Nat := none
  obj : Bool := false
  gds : List (Str × List (String × Int)) := []
def Ck.vis (c : Ck) (x : Str) : Bool := (match c.sc.names.lookup x with | some .local => true | some .cell => true | some .free => true | _ => false) && !(x == ("__debug__" : Str)) && !(x == ("__classdict__" : Str))
def Ck.gl (c : Ck) (x : Str) : Bool := (match c.sc.names.lookup x with | some .globalImplicit => true | _ => false) && !(x == ("__debug__" : Str))
def Ck.tgt (c : Ck) (i : Nat) (x : Str) : Bool := decide (c.N[i]? = some x) && ((match c.sc.names.lookup x with | some .local => true | some .cell => c.fn x | _ => false))
def Ck.loc (c : Ck) (x : Str) : Bool := match c.sc.names.lookup x with | some .local => true | _ => false
def Ck.blk (c : Ck) (scope : Scope) : Ck := { c with sc := relS scope c.sc, fn := fun x => scope.names.lookup x == some .cell, lam := none }
def Ck.lm (c : Ck) (scope : Scope) : Ck := { c with sc := scope, fn := fun _ => false, lam := none, mths := [], mkd := none, obj := false, gds := [] }
def Ck.lmq (c : Ck) (N : List Str) (scope : Scope) : Ck := { c with N := N, sc := scope, fn := fun _ => false, lam := none, mths := [], mkd := none, obj := false, gds := [] }
def oneArg : Arguments → Option Str
  | ⟨[], [⟨n, none, _⟩], none, [], [], none, []⟩ => if n = ("_law_x" : Str) then some "_law_x" else none
  | _ => none
def noArgs : Arguments → Bool
  | ⟨[], [], none, [], [], none, []⟩ => true
  | _ => false
def noStar : Expr → Bool
  | .Starred _ _ => false
  | _ => true
def noSet : Expr → Bool
  | .Set _ _ _ => false
  | _ => true
def noComp : Expr → Bool
  | .ListComp _ _ _ _ => false
  | .SetComp _ _ _ _ => false
  | .DictComp _ _ _ _ _ => false
  | _ => true
def recOk : Expr → Bool
  | .Name _ _ => true
  | .Constant _ _ _ => true
  | .Subscript _ _ _ => true
  | _ => false
def recM : Expr → Bool
  | .Call _ (_ :: _) _ _ => true
  | e => recOk e
def tstOk : Expr → Bool
  | .Name _ _ => true
  | .Call _ _ _ _ => true
  | .Subscript _ _ _ => true
  | .Constant _ _ _ => true
  | _ => false
def tyNames : List Ty → List Expr → Bool
  | [], [] => true
  | t :: ts, .Name x _ :: es => decide (x = Str.ofString t.nm) && tyNames ts es
  | _, _ => false
def xOk (c : Ck) : Option Ex → Bool
  | none => true
  | some m => c.exs.contains m
def xNames (c : Ck) : List (Option Ex) → List Expr → Bool
  | [], [] => true
  | t :: ts, .Name x _ :: es => decide (x = Str.ofString (xnm t)) && c.gl x && xOk c t && xNames c ts es
  | _, _ => false
def tgtsOk (c : Ck) : List Nat → List Expr → Bool
  | [], [] => true
  | i :: is, .Name x _ :: es => c.tgt i x && tgtsOk c is es
  | _, _ => false
def tgOk (c : Ck) : TgD → Expr → Bool
  | .n i, .Name x _ => c.tgt i x
  | .t is, .Tuple es _ _ => tgtsOk c is es
  | _, _ => false
def isTupE : Expr → Bool
  | .Tuple _ _ _ => true
  | _ => false
def bltNames : List String := ["len", "abs", "max", "min", "int", "str", "sum", "all", "list", "tuple", "isinstance", "range", "reversed", "zip", "enumerate", "bool", "set", "ValueError"]
structure Kn where
  e : Ck → Expr → Bool := fun _ _ => false
  t : Ck → Expr → Bool := fun _ _ => false
  w : Ck → BoolOp → List Expr → Bool := fun _ _ _ => false
  ve : Ck → BoolOp → List Expr → Bool := fun _ _ _ => false
  a : Ck → List Expr → Bool := fun _ _ => false
  i : Ck → Expr → Expr → Bool := fun _ _ _ => false
  o : Ck → Option Expr → Bool := fun _ _ => false
def one (k : Expr → Bool) : List Expr → Bool
  | [e] => k e
  | _ => false
def opt (k : Expr → Bool) : Option Expr → Bool
  | some e => k e
  | none => false
def two (k : Expr → Bool) (l : List Expr → Bool) : List Expr → Bool
  | x :: y :: r => k x && l (y :: r)
  | _ => false
def bop (o : BoolOp) (l : List Expr → Bool) : Expr → Bool
  | .BoolOp op es _ => decide (op = o) && l es
  | _ => false
def uop (o : UnaryOp) (k : Expr → Bool) : Expr → Bool
  | .UnaryOp op x _ => decide (op = o) && k x
  | _ => false
def cmpK (o : Cm) (ka kb : Expr → Bool) : Expr → Bool
  | .Compare x [op] [y] _ => decide (op = o.py) && !behindInMarks op y && ka x && kb y
  | _ => false
def chainK (o p : Cm) (ka kb kd : Expr → Bool) : Expr → Bool
  | .Compare x [op, op'] [y, z] _ => decide (op = o.py) && decide (op' = p.py) && !lastMarks [op, op'] [y, z] && ka x && kb y && kd z
  | _ => false
def Kn.of (k : Ck → Expr → Bool) : Kn where
  e := k
  t := fun c e => k c e && tstOk e
  w := fun c _ es => one (fun e => k c e && tstOk e) es
  ve := fun c _ es => one (k c) es
  o := fun c e => opt (k c) e
def ginK (c : Ck) (kvs : List (String × Int)) (k : Expr → Bool) : Expr → Bool
  | .Compare e [op] [.Name x _] _ => decide (op = .In) && c.gl x && c.gds.contains (x, kvs) && k e
  | _ => false
def kn : PX → Kn
  | .v i => .of fun c e => match e with | .Name x _ => c.vis x && decide (c.N[i]? = some x) | _ => false
  | .int i => .of fun c e => match e with | .Constant (.int j) _ _ => decide (i = j) | _ => false
  | .bl b => .of fun c e => match e with | .Constant (.bool j) _ _ => decide (b = j) | _ => false
  | .non => .of fun c e => match e with | .Constant .none _ _ => true | _ => false
  | .str s => .of fun c e => match e with | .Constant (.str z) _ _ => decide (z = Str.ofString s) | _ => false
  | .glo k => .of fun c e => match e with | .Name x _ => c.gl x && c.gls.contains (k, x) | _ => false
  | .bin o a b => .of fun c e => match e with | .BinOp x op y _ => decide (op = o.py) && (kn a).e c x && (kn b).e c y | _ => false
  | .cmp o a b =>
    { Kn.of (fun c => cmpK o ((kn a).e c) ((kn b).e c)) with
      t := fun c => cmpK o ((kn a).e c) ((kn b).e c)
      w := fun c _ es => one (cmpK o ((kn a).e c) ((kn b).e c)) es }
  | .chain o p a b d => { Kn.of (fun c => chainK o p ((kn a).e c) ((kn b).e c) ((kn d).e c)) with
      t := fun c => chainK o p ((kn a).e c) ((kn b).e c) ((kn d).e c)
      w := fun c _ es => one (chainK o p ((kn a).e c) ((kn b).e c) ((kn d).e c)) es }
  | .not a => { Kn.of (fun c => uop .Not ((kn a).e c)) with
      t := fun c => uop .Not ((kn a).t c)
      w := fun c _ es => one (uop .Not ((kn a).t c)) es }
  | .neg a => .of fun c => uop .USub ((kn a).e c)
  | .and a b => {
      e := fun c => bop .And (two ((kn a).e c) ((kn b).ve c .And)),
      t := fun c => bop .And (two ((kn a).t c) ((kn b).w c .And)),
      w := fun c op es => one (bop .And (two ((kn a).t c) ((kn b).w c .And))) es || (decide (op = .And) && two ((kn a).t c) ((kn b).w c .And) es),
      ve := fun c op es => one (bop .And (two ((kn a).e c) ((kn b).ve c .And))) es || (decide (op = .And) && two ((kn a).e c) ((kn b).ve c .And) es),
      o := fun c => opt (bop .And (two ((kn a).e c) ((kn b).ve c .And))) }
  | .or a b => {
      e := fun c => bop .Or (two ((kn a).e c) ((kn b).ve c .Or)),
      t := fun c => bop .Or (two ((kn a).t c) ((kn b).w c .Or)),
      w := fun c op es => one (bop .Or (two ((kn a).t c) ((kn b).w c .Or))) es || (decide (op = .Or) && two ((kn a).t c) ((kn b).w c .Or) es),
      ve := fun c op es => one (bop .Or (two ((kn a).e c) ((kn b).ve c .Or))) es || (decide (op = .Or) && two ((kn a).e c) ((kn b).ve c .Or) es),
      o := fun c => opt (bop .Or (two ((kn a).e c) ((kn b).ve c .Or))) }
  | .ix a b => .of fun c e => match e with | .Subscript x y _ => (match y with | .Slice _ _ _ _ => false | _ => true) && (kn a).e c x && (kn b).e c y | _ => false
  | .slc a lo hi => .of fun c e => match e with | .Subscript x (.Slice l h none _) _ => (kn a).e c x && (kn lo).o c l && (kn hi).o c h | _ => false
  | .tup as => .of fun c e => match e with | .Tuple es _ _ => (kn as).a c es | _ => false
  | .lst as => .of fun c e => match e with | .List es _ => (kn as).a c es | _ => false
  | .nil => { a := fun c es => match es with | [] => true | _ => false }
  | .cons a r => { a := fun c es => match es with | e :: es => noStar e && (kn a).e c e && (kn r).a c es | _ => false }
  | .call f as => .of fun c e => match e with
    | .Call (.Name x _) (e :: es) [] _ => c.gl x && decide (c.fns.lookup f = some x) && noStar e && es.all noStar && (kn as).a c (e :: es)
    | .Call (.Name x _) [] [] _ => c.gl x && decide (c.fns.lookup f = some x) && (match as with | .nil => true | _ => false)
    | _ => false
  | .blt b as => .of fun c e => match e with | .Call (.Name x _) (e :: es) [] _ => c.gl x && decide (x = Str.ofString b.nm) && noStar e && es.all noStar && (kn as).a c (e :: es) | _ => false
  | .mt m o as => .of fun c e => match e with
    | .Call (.Attribute x n ap) [] [] cp => m.none && decide (n = Str.ofString m.nm) && recOk x && (ap.endLine == cp.line) && (kn o).e c x && (match as with | .nil => true | _ => false)
    | .Call (.Attribute x n ap) (e :: es) [] cp => !m.none && decide (n = Str.ofString m.nm) && recOk x && (ap.endLine == cp.line) && noStar e && es.all noStar && decide ((e :: es).length < 29) && (kn o).e c x && (kn as).a c (e :: es)
    | _ => false
  | .isi ts a => .of fun c e => match e with
    | .Call (.Name x _) [e, .Name y _] [] _ => c.gl x && decide (x = Str.ofString "isinstance") && noStar e && c.gl y && (match ts with | [t] => decide (y = Str.ofString t.nm) | _ => false) && (kn a).e c e
    | .Call (.Name x _) [e, .Tuple es _ _] [] _ => c.gl x && decide (x = Str.ofString "isinstance") && noStar e && decide (ts.length < 20) && tyNames ts es && (ts.all fun t => c.gl (Str.ofString t.nm)) && (kn a).e c e
    | _ => false
  | .comp own tg it tst e => .of fun c x => match x with
    | .ListComp elt [⟨tgE, iter, ifs, 0⟩] scope _ => blkC c.N c.sc scope (own.map fun i => (c.N.getD i "", i)) && (tg.slots.all fun i => own.contains i) && tgOk (c.blk scope) tg tgE && noSet iter && (kn it).i c tgE iter && (kn e).e (c.blk scope) elt &&
      (match tst, ifs with | .yes, [] => true | .yes, _ => false | _, [y] => (kn tst).t (c.blk scope) y | _, _ => false)
    | _ => false
  | .over a => { i := fun c _ e => (kn a).e c e }
  | .overL a => { i := fun c _ e => (kn a).e c e }
  | .dic => .of fun c x => match x with | .Dict [] [] _ => true | _ => false
  | .dnew => .of fun c x => match x with | .Dict [] [] _ => true | _ => false
  | .vfz i => .of fun c e => match e with | .Name x _ => c.vis x && decide (c.N[i]? = some x) | _ => false
  | .dic1 k i => .of fun c x => match x with | .Dict [some (.Constant (.int j) _ _)] [.Name y _] _ => decide (k = j) && (c.vis y && decide (c.N[i]? = some y)) | _ => false
  | .stp a b => .of fun c e => match e with
    | .Subscript x (.Slice none none (some y) _) _ => (kn a).e c x && (kn b).e c y
    | _ => false
  | .lamr ns a => .of fun c e => match e with
    | .Call (.Name x _) [.Lambda params body scope _] [] _ => decide (c.lam = some (.r x)) && (ns.all fun n => c.exs.contains n) && c.gl x && LamX.lamSB c.sc scope && noArgs params && (kn a).e (c.lm scope) body
    | _ => false
  | .ask i j a => .of fun c e => match e with
    | .Call (.Name x _) [y] [] _ => decide (c.lam = some (.a i x j)) && c.vis x && decide (c.N[j]? = some x) && noStar y && (kn a).e c y
    | _ => false
  | .lamq js a b t => .of fun c e => match e with
    | .Call (.Name x _) [y, z, .Lambda params body scope _] [] _ => (match oneArg params with
      | some px => decide (c.lam = some (.q x)) && c.gl x && noStar y && noStar z && NdefX.nscB (px :: js.map fun j => c.N.getD j "") [px] (js.map fun j => c.N.getD j "") scope && NdefX.ndefB c.sc scope (js.map fun j => c.N.getD j "") && js.all (fun j => decide (j < c.N.length)) &&
        (kn a).e c y && (kn b).e c z && (kn t).e (c.lmq (px :: js.map fun j => c.N.getD j "") scope) body
      | none => false)
    | _ => false
  | .fld a => .of fun c e => match e with
    | .Attribute x n _ => c.obj && decide (n = atrN) && recOk x && (kn a).e c x
    | _ => false
  | .meth f o as => .of fun c e => match e with
    | .Call (.Attribute x n ap) [] [] cp => decide (c.mths.lookup f = some n) && decide (n ≠ atrN) && recM x && (ap.endLine == cp.line) && (kn o).e c x && (match as with | .nil => true | _ => false)
    | .Call (.Attribute x n ap) (e :: es) [] cp => decide (c.mths.lookup f = some n) && decide (n ≠ atrN) && recM x && (ap.endLine == cp.line) && noStar e && es.all noStar && decide ((e :: es).length < 29) && (kn o).e c x && (kn as).a c (e :: es)
    | _ => false
  | .mk f as => .of fun c e => match e with
    | .Call (.Name x _) (e :: es) [] _ => c.gl x && decide (x = clsN) && decide (c.mkd = some f) && noStar e && es.all noStar && (kn as).a c (e :: es)
    | _ => false
  | .gin kvs a => { e := fun c e => ginK c kvs ((kn a).e c) e, t := fun c e => ginK c kvs ((kn a).e c) e }
  | .gix kvs a => .of fun c e => match e with
    | .Subscript (.Name x _) y _ => c.gl x && c.gds.contains (x, kvs) && (match y with | .Slice _ _ _ _ => false | _ => true) && (kn a).e c y
    | _ => false
  | .rep a b => .of fun c e => match e with | .BinOp x op y _ => decide (op = .Mult) && (kn a).e c x && (kn b).e c y | _ => false
  | .zips a b => { i := fun c tg e => match e with | .Call (.Name x _) [y, z] [] _ => isTupE tg && c.gl x && decide (x = Str.ofString "zip") && noStar y && noStar z && (kn a).e c y && (kn b).e c z | _ => false }
  | .range1 a => { i := fun c _ e => match e with | .Call (.Name x _) [y] [] _ => c.gl x && decide (x = Str.ofString "range") && noStar y && (kn a).e c y | _ => false }
  | .range2 a b => { i := fun c _ e => match e with | .Call (.Name x _) [y, z] [] _ => c.gl x && decide (x = Str.ofString "range") && noStar y && noStar z && (kn a).e c y && (kn b).e c z | _ => false }
  | .rev a => { i := fun c _ e => match e with | .Call (.Name x _) [y] [] _ => c.gl x && decide (x = Str.ofString "reversed") && noStar y && (kn a).e c y | _ => false }
  | .zip a b => { i := fun c tg e => match e with | .Call (.Name x _) [y, z] [] _ => isTupE tg && c.gl x && decide (x = Str.ofString "zip") && noStar y && noStar z && (kn a).e c y && (kn b).e c z | _ => false }
  | .enum a => { i := fun c tg e => match e with | .Call (.Name x _) [y] [] _ => isTupE tg && c.gl x && decide (x = Str.ofString "enumerate") && noStar y && (kn a).e c y | _ => false }
  | .zip3 a b d => { i := fun c tg e => match e with | .Call (.Name x _) [y, z, w] [] _ => isTupE tg && c.gl x && decide (x = Str.ofString "zip") && noStar y && noStar z && noStar w && (kn a).e c y && (kn b).e c z && (kn d).e c w | _ => false }
  | .yes => {}
  | .hole => { o := fun c e => e.isNone }
  | .lset a => .of fun c e => match e with
    | .Call (.Name x _) [.Call (.Name y _) [z] [] _] [] _ => c.gl x && decide (x = Str.ofString "len") && c.gl y && decide (y = Str.ofString "set") && noStar z && (kn a).e c z
    | _ => false
  | .srev a => .of fun c e => match e with
    | .Subscript x (.Slice none none (some (.UnaryOp .USub (.Constant (.int 1) _ _) _)) _) _ => (kn a).e c x
    | _ => false
  | .tupz a b => .of fun c e => match e with
    | .Call (.Name x _) [.Call (.Name y _) [z, w] [] _] [] _ => c.gl x && decide (x = Str.ofString "tuple") && c.gl y && decide (y = Str.ofString "zip") && noStar z && noStar w && (kn a).e c z && (kn b).e c w
    | _ => false
  | .isx ts a => .of fun c e => match e with
    | .Call (.Name x _) [e, .Name y _] [] _ => c.gl x && decide (x = Str.ofString "isinstance") && noStar e && (match ts with | [t] => decide (y = Str.ofString (xnm t)) && c.gl y && xOk c t | _ => false) && (kn a).e c e
    | .Call (.Name x _) [e, .Tuple es _ _] [] _ => c.gl x && decide (x = Str.ofString "isinstance") && noStar e && decide (ts.length < 20) && xNames c ts es && (kn a).e c e
    | _ => false
end PP
namespace PP
open PySem PySem.Spec PyProof.Rows L2
theorem takes0N {X : Cx} : L2N.Takes X (fun _ _ _ _ => False) := fun u s' x => by
  obtain ⟨_, _, _, _, _, _, _, _, _, _, _, _, _, _, _, _, w⟩ := x
  exact w.elim
def LamIs (c : Ck) (Γ : Nat → SpD) (C : Ex → Addr) (X : Cx) : Lk → Prop
  | .r x => AskF X.prog X.w X.K X.mg X.base C c.exs wdA toldA x ∧ LamM X ∧ ∃ k, 40 ≤ k ∧ Room (k + 2) X.A ∧ ∀ i y, c.fns.lookup i = some y → ∃ ps f fd, X.mg y = some (.ref f) ∧ PySem.W.keepIn X.K (.ref f) = true ∧ Binds X.K fd ps [] ∧ FnOk X.prog X.w X.K X.mg X.base (L2N.CX X.prog X.w) k f fd ps (liftSp X.K C (Γ i))
  | .q x => LamM X ∧ X.ex = [] ∧ ∃ k, 40 ≤ k ∧ Room (k + 2) X.A ∧ AskG X.prog X.w X.K X.mg X.base C k (isSoS Γ) x ∧ ∀ i y, c.fns.lookup i = some y → ∃ ps f fd, X.mg y = some (.ref f) ∧ PySem.W.keepIn X.K (.ref f) = true ∧ Binds X.K fd ps [] ∧ FnOk X.prog X.w X.K X.mg X.base (L2N.CX X.prog X.w) k f fd ps (liftSp X.K C (Γ i))
  | .a i _ _ => ∃ (f : Addr) (L : D → G → QD → Prop), Γ i = askS f L ∧ ∀ (pn : List (Addr × Obj)) (xe : Value → Shared → Prop), LamAt (X.tr pn xe) C f L
structure Ctx (c : Ck) (Γ : Nat → SpD) (gl : Nat → D) (C : Ex → Addr) (W : WX) (X : Cx) : Prop where
  N : X.N = c.N
  nd : X.N.Nodup
  sc : X.env.scope = c.sc
  calm : X.calm = true
  stk : Stk X
  hfn : ∀ x, c.fn x = true → X.fn x = true
  fns : ∀ i x, c.fns.lookup i = some x → ∃ ps, FnAt X C x ps (Γ i)
  gls : ∀ i x, (i, x) ∈ c.gls → ∃ u v, X.mg x = some u ∧ RelV v u ∧ ∀ H, Rep X.K H (gl i) v
  free : ∀ x ∈ bltNames, X.mg (Str.ofString x) = none
  exn : ∀ n ∈ c.exs, ExN X.K X.mg C n
  tk : L2N.Takes X W
  lam : ∀ z, c.lam = some z → LamIs c Γ C X z
  dsk : DskAt c.mths c.mkd c.obj c.gds Γ C X
structure Snd (Γ : Nat → SpD) (gl : Nat → D) (C : Ex → Addr) (px : PX) : Prop where
  e : ∀ (c : Ck) (X : Cx) (W : WX) (x : Expr), Ctx c Γ gl C W X → (kn px).e c x = true → PE X x (up X.K C W (mn Γ gl px).e)
  t : ∀ (c : Ck) (X : Cx) (W : WX) (x : Expr), Ctx c Γ gl C W X → (kn px).t c x = true → PT X x (upT X.K C W (mn Γ gl px).t)
  w : ∀ (c : Ck) (X : Cx) (W : WX) (op : BoolOp) (es : List Expr) (pos : Pos), Ctx c Γ gl C W X → (kn px).w c op es = true → PW X (.BoolOp op es pos) (upT X.K C W (mn Γ gl px).t)
  ve : ∀ (c : Ck) (X : Cx) (W : WX) (op : BoolOp) (es : List Expr) (pos : Pos), Ctx c Γ gl C W X → (kn px).ve c op es = true → PE X (.BoolOp op es pos) (up X.K C W (mn Γ gl px).e)
  a : ∀ (c : Ck) (X : Cx) (W : WX) (es : List Expr), Ctx c Γ gl C W X → (kn px).a c es = true → PA X es (upA X.K C W (mn Γ gl px).a)
  i : ∀ (c : Ck) (X : Cx) (W : WX) (tg x : Expr), Ctx c Γ gl C W X → (kn px).i c tg x = true → PI X tg x (upI X.K C W (mn Γ gl px).i)
  o : ∀ (c : Ck) (X : Cx) (W : WX) (x : Option Expr), Ctx c Γ gl C W X → (kn px).o c x = true → PO X x (upO X.K C W (mn Γ gl px).o)
theorem star_of {e : Expr} {es : List Expr} {env : PySem.Env} (h : noStar e = true) : starEach (e :: es) env = (false, eval e env) :: starEach es env := by
  cases e <;> first | rfl | cases h
theorem tst_of {e : Expr} {env : PySem.Env} (h : tstOk e = true) : ∀ whole, isTrue e env whole = (do let v ← whole; standAt e.pos; holding [v] (truthy v)) := by
  intro whole
  cases e <;> first | rfl | cases h
theorem set_of {e : Expr} {env : PySem.Env} (h : noSet e = true) : ∀ x, foldedSetIterable e env x = pure x := by
  intro x
  cases e <;> first | rfl | cases h
theorem rec_of {e : Expr} {n : Str} {env : PySem.Env} (h : recOk e = true) : attributeBase e n env (eval e env) = eval e env := by
  cases e <;> first | rfl | cases h
theorem recM_of {e : Expr} {n : Str} {env : PySem.Env} (h : recM e = true) : attributeBase e n env (eval e env) = eval e env := by
  unfold recM at h
  split at h
  · rename_i f _ _ _ _
    cases f <;> rfl
  · exact rec_of h
theorem plain_star : ∀ {es : List Expr} {env : PySem.Env} {pos : Pos}, es.all noStar = true → (backTo pos (starEach es env)).any (·.1) = false := by
  intro es env pos h
  have k : ∀ {es : List Expr}, es.all noStar = true → (starEach es env).any (·.1) = false := by
    intro es
    induction es with
    | nil => intro _; rfl
    | cons e es ih =>
      intro h
      simp only [List.all_cons, Bool.and_eq_true] at h
      rw [star_of h.1]
      simp [ih h.2]
  have q := k h
  rw [List.any_eq_false] at q ⊢
  intro x hx
  unfold backTo at hx
  obtain ⟨y, hy, e⟩ := List.mem_map.mp hx
  subst e
  exact q y hy
section
variable {Γ : Nat → SpD} {gl : Nat → D} {C : Ex → Addr} {c : Ck} {X : Cx} {W : WX}
theorem Ctx.glb {x : Str} (K : Ctx c Γ gl C W X) (h : c.gl x = true) : Gl X x ∧ (x == ("__debug__" : Str)) = false := by
  unfold Ck.gl at h
  simp only [Bool.and_eq_true] at h
  obtain ⟨h1, h2⟩ := h
  refine ⟨?_, by simpa using h2⟩
  show X.env.scope.names.lookup x = _
  rw [K.sc]
  split at h1
  · assumption
  · cases h1
theorem Ctx.tgt {i : Nat} {x : Str} (K : Ctx c Γ gl C W X) (h : c.tgt i x = true) : X.N[i]? = some x ∧ L2.Loc X.env.scope x ∧ (X.fn x = true ∨ X.env.scope.names.lookup x = some .local) := by
  unfold Ck.tgt at h
  simp only [Bool.and_eq_true, decide_eq_true_eq] at h
  obtain ⟨h1, h2⟩ := h
  refine ⟨by rw [K.N]; exact h1, ?_, ?_⟩
  · unfold L2.Loc
    rw [K.sc]
    split at h2
    · exact .inl (by assumption)
    · exact .inr (by assumption)
    · cases h2
  · rw [K.sc]
    split at h2
    · exact .inr (by assumption)
    · exact .inl (K.hfn _ h2)
    · cases h2
theorem Ctx.hu (K : Ctx c Γ gl C W X) : X.A.units + 65 < cLine := by
  have := K.stk.room.un
  omega
theorem Ctx.free1 (K : Ctx c Γ gl C W X) {x : String} (h : x ∈ bltNames) : X.mg (Str.ofString x) = none := K.free x h
theorem tg_of {tg : TgD} {e : Expr} (K : Ctx c Γ gl C W X) (h : tgOk c tg e = true) : PG X e (gUp X.K tg) := by
  unfold tgOk at h
  split at h
  · obtain ⟨h1, h2, h3⟩ := K.tgt h
    exact g_name K.nd h1 h2 h3
  · rename_i is es _ _
    have k : ∀ (is : List Nat) (es : List Expr), tgtsOk c is es = true → PGs X es (gNames is) ∧ (assignEach es X.env).length = is.length ∧ (assignEach es X.env).findIdx? (·.1) = none := by
      intro is
      induction is with
      | nil =>
        intro es h
        cases es with
        | nil => exact ⟨gs_nil, rfl, rfl⟩
        | cons e es => cases h
      | cons i is ih =>
        intro es h
        cases es with
        | nil => cases h
        | cons e es =>
          cases e with
          | Name x p =>
            have h : (c.tgt i x && tgtsOk c is es) = true := h
            simp only [Bool.and_eq_true] at h
            obtain ⟨h1, h2, h3⟩ := K.tgt h.1
            obtain ⟨k1, k2, k3⟩ := ih es h.2
            refine ⟨gs_cons (pg_name K.nd h1 h2 h3) k1 rfl, ?_, ?_⟩
            · show (assignEach _ X.env).length + 1 = _
              rw [k2] <;> rfl
            · show List.findIdx? _ ((false, _) :: assignEach _ X.env) = none
              rw [List.findIdx?_cons]
              simp only [Bool.false_eq_true, if_false]
              rw [k3] <;> rfl
          | _ => cases h
    obtain ⟨k1, k2, k3⟩ := k _ _ h
    exact g_tup K.calm k1 k2 k3
  · cases h
theorem o_bin (K : Ctx c Γ gl C W X) (o : Op) : OpR X (binaryOp o.py) (rUp X.K o.rd) := by
  cases o
  · exact o_add
  · exact o_sub
  · exact o_mul
  · exact o_fdiv K.stk
  · exact o_mod
  · exact o_pow
theorem o_cm (K : Ctx c Γ gl C W X) (o : Cm) : OpR X (compareOp o.py) (rUp X.K o.rd) := by
  have hu := K.hu
  have hu2 : X.A.units + 64 < cLine := by omega
  cases o
  · exact o_eq hu2
  · exact o_ne hu2
  · exact o_lt
  · exact o_le
  · exact o_gt
  · exact o_ge
  · exact o_isN
  · exact o_notN
  · exact o_in hu
  · exact o_notIn hu
end
theorem one_of {k : Expr → Bool} {es : List Expr} (h : one k es = true) : ∃ e, es = [e] ∧ k e = true := by
  unfold one at h
  split at h
  · exact ⟨_, rfl, h⟩
  · cases h
theorem opt_of {k : Expr → Bool} {es : Option Expr} (h : opt k es = true) : ∃ e, es = some e ∧ k e = true := by
  unfold opt at h
  split at h
  · exact ⟨_, rfl, h⟩
  · cases h
theorem two_of {k : Expr → Bool} {l : List Expr → Bool} {es : List Expr} (h : two k l es = true) : ∃ x y r, es = x :: y :: r ∧ k x = true ∧ l (y :: r) = true := by
  unfold two at h
  split at h
  · rw [Bool.and_eq_true] at h
    exact ⟨_, _, _, rfl, h.1, h.2⟩
  · cases h
theorem bop_of {o : BoolOp} {l : List Expr → Bool} {e : Expr} (h : bop o l e = true) : ∃ es p, e = .BoolOp o es p ∧ l es = true := by
  unfold bop at h
  split at h
  · rw [Bool.and_eq_true] at h
    have := of_decide_eq_true h.1
    subst this
    exact ⟨_, _, rfl, h.2⟩
  · cases h
theorem uop_of {o : UnaryOp} {l : Expr → Bool} {e : Expr} (h : uop o l e = true) : ∃ x p, e = .UnaryOp o x p ∧ l x = true := by
  unfold uop at h
  split at h
  · rw [Bool.and_eq_true] at h
    have := of_decide_eq_true h.1
    subst this
    exact ⟨_, _, rfl, h.2⟩
  · cases h
theorem Snd.of {Γ : Nat → SpD} {gl : Nat → D} {C : Ex → Addr} {px : PX} {k : Ck → Expr → Bool} {m : DTE} (hk : kn px = Kn.of k) (hm : mn Γ gl px = Mn.of m) (h : ∀ (c : Ck) (X : Cx) (W : WX) (x : Expr), Ctx c Γ gl C W X → k c x = true → PE X x (up X.K C W m)) : Snd Γ gl C px where
  e := fun c X W x K q => by rw [hk] at q; rw [hm]; exact h c X W x K q
  t := fun c X W x K q => by
    rw [hk] at q; rw [hm]
    have q' : (k c x && tstOk x) = true := q
    rw [Bool.and_eq_true] at q'
    exact t_val (h c X W x K q'.1) (tst_of q'.2)
  w := fun c X W op es pos K q => by
    rw [hk] at q; rw [hm]
    obtain ⟨e, rfl, q'⟩ := one_of (show one (fun e => k c e && tstOk e) es = true from q)
    rw [Bool.and_eq_true] at q'
    have z := t_val (h c X W _ K q'.1) (tst_of q'.2)
    cases op
    · exact t_and1 z
    · exact t_or1 z
  ve := fun c X W op es pos K q => by
    rw [hk] at q; rw [hm]
    obtain ⟨e, rfl, q'⟩ := one_of (show one (k c) es = true from q)
    exact v_one (h c X W _ K q')
  a := fun c X W es K q => by rw [hk] at q; cases q
  i := fun c X W tg x K q => by rw [hk] at q; cases q
  o := fun c X W x K q => by
    rw [hk] at q; rw [hm]
    obtain ⟨e, rfl, q'⟩ := opt_of (show opt (k c) x = true from q)
    exact d_part (h c X W _ K q')
theorem Ctx.blk {Γ : Nat → SpD} {gl : Nat → D} {C : Ex → Addr} {c : Ck} {X : Cx} {W : WX} (K : Ctx c Γ gl C W X) (scope : Scope) (s : Shared) (H : Hp) (A : Addr) (cl : List (Str × Addr)) (fp : List Addr) :
    Ctx (c.blk scope) Γ gl C W0 (X.blk s H scope (compEnvC scope cl A X.env) fp) where
  N := K.N
  nd := K.nd
  sc := by
    show relS scope X.env.scope = relS scope c.sc
    rw [K.sc]
  calm := K.calm
  stk := ⟨K.stk.seer, K.stk.tree, K.stk.room, K.stk.stk⟩
  hfn := fun x h => h
  fns := fun i x h => by
    obtain ⟨ps, f, fd, k, h1, h2, h3, h4, h5⟩ := K.fns i x h
    exact ⟨ps, f, fd, k, h1, h2, h3, h4, h5⟩
  lam := fun x h => by cases h
  dsk := K.dsk.same rfl rfl rfl rfl rfl fun _ h => h
  gls := K.gls
  free := K.free
  exn := K.exn
  tk := takes0N
section
variable {X : Cx}
def tLenSetT (K : PySem.W.Frag) (ta : TE) : TE := fun σ H Q => ta σ H fun x H1 => ∃ (l : Addr) (ks : List (Addr × List Int)), x = V.ref l ∧ SqL K H1 l (ks.map fun p => V.ref p.1) ∧ (∀ p ∈ ks, SqT K H1 p.1 (p.2.map V.int)) ∧ ks.length < 64 ∧
  ∀ L : List (List Int), L.Nodup → (∀ k ∈ L, k ∈ ks.map (·.2)) → (∀ k ∈ ks.map (·.2), k ∈ L) → Q (.int (L.length : Nat)) H1
theorem pe_lenSetT {a : Expr} {ta : TE} {p p2 q pos : Pos} (hc : X.calm = true) (hu : X.A.units + 64 < cLine) (hg : Gl X "len") (hm : X.mg "len" = none) (hg2 : Gl X "set") (hm2 : X.mg "set" = none) (ha : PE X a ta)
    (na : starEach [a] X.env = (false, eval a X.env) :: starEach [] X.env) : PE X (.Call (.Name "len" p) [.Call (.Name "set" p2) [a] [] q] [] pos) (tLenSetT X.K ta) := by
  refine ⟨fun pins s σ H Q I h => ?_⟩
  refine Call_ (ld_blt I hg hm PySem.boot_len ?_)
  refine PyProof.Rows.callWith_builtin1 (PyProof.Rows.args_cons ?_ rfl) rfl rfl
  refine Call_ (ld_blt I hg2 hm2 PyProof.Rows.boot_set ?_)
  refine PyProof.Rows.callWith_type1 (PyProof.Rows.args_cons (thn (ha.run pins s σ H _ I h) fun v s1 ⟨x, H1, I1, r1, q1⟩ => PyProof.Rows.args_nil ?_) na) na rfl
  obtain ⟨l, ks, rfl, hq, hk, hf, q1⟩ := q1
  cases r1
  obtain ⟨its, rv, pl, hz⟩ := I1.list hq
  refine call_set_tups (P := X.prog) (w := X.w) ks (I1.ok.hd hc) pl.isList (by simpa using refs_of_vals rv) (fun p hp => I1.isT (hk p hp)) hf (by omega) fun h' tk L es ep t R g k => ?_
  refine PyProof.Rows.args_nil ?_
  obtain ⟨o, ho, hex, hd⟩ := R.ob
  have I2 : Inv X pins σ H1 { s1 with heap := h', toks := tk } := I1.kept k
  have hs := SetTR.size (s := { s1 with heap := h', toks := tk }) R
  have hfew := R.few
  refine call_len_set ho hex hd (SetTR.fits (s := { s1 with heap := h', toks := tk }) R) (by rw [hs]; omega) ⟨.int (L.length : Nat), H1, I2.tok _, ⟨_, by rw [hs]⟩, ?_⟩
  have hl := q1 (L.map (·.2)) R.nd (fun k hk => ?_) fun k hk => ?_
  · rw [List.length_map] at hl
    exact hl
  · obtain ⟨p, hp, rfl⟩ := List.mem_map.mp hk
    exact List.mem_map.mpr ⟨p, List.mem_of_mem_take (g.sub p hp), rfl⟩
  · obtain ⟨p, hp, rfl⟩ := List.mem_map.mp hk
    exact g.all p (by rw [List.take_length]; exact hp)
end
section
variable {X : Cx} {C : Ex → Addr} {W : WX}
theorem rep_ints {K : PySem.W.Frag} {H : Hp} : ∀ {k : List Int} {vs : List V}, RepL K H (k.map D.int) vs → vs = k.map V.int
  | [], vs, h => h
  | i :: k, vs, h => by
    obtain ⟨v, r, rfl, hv, hr⟩ := h
    have hv : v = .int i := hv
    rw [hv, rep_ints hr]; rfl
theorem rep_tups {K : PySem.W.Frag} {H : Hp} : ∀ {kss : List (List Int)} {vs : List V}, RepL K H (kss.map fun k => D.tup (k.map D.int)) vs → ∃ ks : List (Addr × List Int), vs = ks.map (fun p => V.ref p.1) ∧ (∀ p ∈ ks, SqT K H p.1 (p.2.map V.int)) ∧ ks.map (·.2) = kss
  | [], vs, h => ⟨[], h, fun p hp => (by cases hp), rfl⟩
  | k :: kss, vs, h => by
    obtain ⟨v, r, rfl, hv, hr⟩ := h
    obtain ⟨a, ws, rfl, ht, hl⟩ := hv
    obtain ⟨ks, rfl, h1, h2⟩ := rep_tups hr
    have e := rep_ints hl
    subst e
    refine ⟨(a, k) :: ks, rfl, fun p hp => ?_, by rw [List.map_cons, h2]⟩
    rcases List.mem_cons.mp hp with rfl | hp
    · exact ht.sq
    · exact h1 p hp
theorem d_lset {a : Expr} {ta : DTE} {p p2 q pos : Pos} (hc : X.calm = true) (hu : X.A.units + 64 < cLine) (hg : Gl X "len") (hm : X.mg "len" = none) (hg2 : Gl X "set") (hm2 : X.mg "set" = none) (ha : PE X a (up X.K C W ta))
    (na : starEach [a] X.env = (false, eval a X.env) :: starEach [] X.env) : PE X (.Call (.Name "len" p) [.Call (.Name "set" p2) [a] [] q] [] pos) (up X.K C W (dLset ta)) := by
  refine pe_imp (pe_lenSetT hc hu hg hm hg2 hm2 ha na) fun σ H Q ⟨env, g, Xd, Qd, re, rg, t, cl, cx⟩ => ?_
  refine ⟨env, g, Xd, _, re, rg, t, fun d g1 v H1 q k r rv => ?_, cx⟩
  cases d with
  | ref b =>
    obtain ⟨hc0, hv⟩ := rv
    subst hv
    cases e : g1 b with
    | none => simp only [e] at q
    | some xs =>
      simp only [e] at q
      obtain ⟨hl, kss, rfl, q⟩ := q
      obtain ⟨vs, hvs, rl⟩ := r.lst hc0 e
      obtain ⟨ks, rfl, h1, rfl⟩ := rep_tups rl
      refine ⟨_, ks, rfl, .inl (.inl hvs), h1, by simpa using hl, fun L n1 n2 n3 => ?_⟩
      exact cl _ _ _ _ (q L n1 n2 n3) k r rfl
  | _ => exact q.elim
end
section
variable {X : Cx} {C : Ex → Addr} {W : WX}
theorem d_srev {e : Expr} {ta : DTE} {k : Nat} {p1 p2 p3 pos : Pos} (ha : PE X e (up X.K C W ta)) : PE X (.Subscript e (.Slice none none (some (.UnaryOp .USub (.Constant (.int 1) k p1) p2)) p3) pos) (up X.K C W (dSrev ta)) := by
  refine pe_imp (pe_rev ha) fun σ H Q ⟨env, g, Xd, Qd, re, rg, t, cl, cx⟩ => ?_
  refine ⟨env, g, Xd, _, re, rg, t, fun d g1 v H1 q k r rv => ?_, cx⟩
  cases d with
  | ref b =>
    obtain ⟨hc0, hv⟩ := rv
    subst hv
    cases e : g1 b with
    | none => simp only [e] at q
    | some xs =>
      simp only [e] at q
      obtain ⟨vs, hvs, rl⟩ := r.lst hc0 e
      refine ⟨_, vs, rfl, .inl ⟨.inl (.inl hvs), fun p hp => ?_⟩⟩
      exact cl _ _ _ _ (q _ (r.none hp)) (k.trans (.new hp)) (r.new hp rl.rev) rep_ref
  | tup xs =>
    obtain ⟨b, vs, hv, t, rl⟩ := rv
    subst hv
    have q : Qd (.tup xs.reverse) g1 := q
    refine ⟨b, vs, rfl, .inr ⟨t.sq, fun p hp => ?_⟩⟩
    exact cl _ _ _ _ q (k.trans (.new hp)) (r.tup hp) ⟨p, vs.reverse, rfl, .inl upd_same, (rl.keep (.new hp)).rev⟩
  | _ => exact q.elim
end
end PP
namespace PP
open PySem PySem.Spec PyProof.Rows L2
section
variable {Γ : Nat → SpD} {gl : Nat → D} {C : Ex → Addr}
theorem visq {c : Ck} {X : Cx} {W : WX} (K : Ctx c Γ gl C W X) {x : Str} (h1 : c.vis x = true) : Vis X.env.scope x ∧ (x == ("__debug__" : Str)) = false ∧ (x == ("__classdict__" : Str)) = false := by
  unfold Ck.vis at h1
  simp only [Bool.and_eq_true] at h1
  refine ⟨?_, by simpa using h1.1.2, by simpa using h1.2⟩
  unfold Vis
  rw [K.sc]
  have h3 := h1.1.1
  split at h3
  · exact .inl (by assumption)
  · exact .inr (.inl (by assumption))
  · exact .inr (.inr (by assumption))
  · cases h3
theorem nope {p : Prop} (h : false = true) : p := nomatch h
theorem c_bl {c : Ck} {X : Cx} {W : WX} (K : Ctx c Γ gl C W X) {b : Bl} {x : Str} {e : Expr} {es : List Expr} {p pos : Pos} {tA : DTA} (hx : x = Str.ofString b.nm) (hg : Gl X x) (ha : PA X (e :: es) (upA X.K C W tA)) (hdb : (x == ("__debug__" : Str)) = false)
    (he : starEach (e :: es) X.env = (false, eval e X.env) :: starEach es X.env) (hpl : (backTo pos (starEach es X.env)).any (·.1) = false) : PE X (.Call (.Name x p) (e :: es) [] pos) (up X.K C W (dCB b.rd tA)) := by
  subst hx
  have F := fun (s : String) (h : s ∈ bltNames) => K.free1 h
  cases b
  · exact d_callB c_len hg (F _ (by decide)) (by decide +kernel) ha (by decide) hdb he hpl
  · exact d_callB c_abs hg (F _ (by decide)) (by decide +kernel) ha (by decide) hdb he hpl
  · exact d_callB (c_max K.calm) hg (F _ (by decide)) (by decide +kernel) ha (by decide) hdb he hpl
  · exact d_callB (c_min K.calm) hg (F _ (by decide)) (by decide +kernel) ha (by decide) hdb he hpl
  · exact d_callTy c_int hg (F _ (by decide)) (by decide +kernel) ha (by decide) hdb he hpl
  · exact d_callTy c_str hg (F _ (by decide)) (by decide +kernel) ha (by decide) hdb he hpl
  · exact d_callB (c_sum K.calm) hg (F _ (by decide)) (by decide +kernel) ha (by decide) hdb he hpl
  · exact d_callB (c_all K.calm) hg (F _ (by decide)) (by decide +kernel) ha (by decide) hdb he hpl
  · exact d_callTy (c_list K.calm) hg (F _ (by decide)) (by decide +kernel) ha (by decide) hdb he hpl
  · exact d_callTy c_tuple hg (F _ (by decide)) (by decide +kernel) ha (by decide) hdb he hpl
theorem bm_few {e : Expr} {es : List Expr} {env : PySem.Env} {cpos : Pos} (h1 : noStar e = true) (h : es.all noStar = true) (hl : (e :: es).length < 29) :
    ((backTo cpos (starEach (e :: es) env)).all (fun x => !x.1) && (backToKw cpos (keywordEach [] env)).all (fun x => x.1.isSome)
      && decide ((e :: es).length + ([] : List Keyword).length + (if ([] : List Keyword).isEmpty then 0 else 1) < 30)) = true := by
  have k : (backTo cpos (starEach (e :: es) env)).any (·.1) = false := plain_star (es := e :: es) (by simp [h1, h])
  have k2 : (backTo cpos (starEach (e :: es) env)).all (fun x => !x.1) = true := by
    rw [List.all_eq_true]
    intro x hx
    rw [List.any_eq_false] at k
    simpa using k x hx
  rw [k2]
  have : (backToKw cpos (keywordEach [] env)).all (fun x => x.1.isSome) = true := rfl
  rw [this]
  simp only [Bool.true_and, List.length_nil, Nat.add_zero, List.isEmpty_nil, if_true, decide_eq_true_eq]
  omega
theorem m_of {c : Ck} {X : Cx} {W : WX} (K : Ctx c Γ gl C W X) {m : Mt} {x e : Expr} {es : List Expr} {n : Str} {ap cp : Pos} {to : DTE} {tA : DTA} (hm : m.none = false) (hn : n = Str.ofString m.nm) (hr : recOk x = true) (hl : (ap.endLine == cp.line) = true) (h1 : noStar e = true) (h2 : es.all noStar = true) (h3 : (e :: es).length < 29)
    (ho : PE X x (up X.K C W to)) (ha : PA X (e :: es) (upA X.K C W tA)) : PE X (.Call (.Attribute x n ap) (e :: es) [] cp) (up X.K C W (dMt m.rc m.rd to tA)) := by
  subst hn
  have B := @bm_few e es X.env cp h1 h2 h3
  have S := @star_of e es X.env h1
  have P := @plain_star es X.env cp h2
  cases m
  · exact d_bm (T := .list) F.plainAttrs_list F.slot_list_append F.type_list_append m_append ho ha (rec_of hr) B hl S P
  · cases hm
  · exact d_bm (T := .list) F.plainAttrs_list F.slot_list_pop F.type_list_pop m_popAt ho ha (rec_of hr) B hl S P
  · exact d_bm (T := .list) F.plainAttrs_list F.slot_list_extend F.type_list_extend m_extend ho ha (rec_of hr) B hl S P
  · cases hm
  · cases hm
  · exact d_bm (T := .list) F.plainAttrs_list F.slot_list_insert F.type_list_insert m_insert ho ha (rec_of hr) B hl S P
  · exact d_bm (T := .list) F.plainAttrs_list F.slot_list_index F.type_list_index (m_index K.hu) ho ha (rec_of hr) B hl S P
  · exact d_bm (T := .str) F.plainAttrs_str F.slot_str_split F.type_str_split m_split ho ha (rec_of hr) B hl S P
  · exact d_bm (T := .str) F.plainAttrs_str F.slot_str_join F.type_str_join m_join ho ha (rec_of hr) B hl S P
theorem m_of0 {X : Cx} {W : WX} {m : Mt} {x : Expr} {n : Str} {ap cp : Pos} {to : DTE} (hm : m.none = true) (hn : n = Str.ofString m.nm) (hr : recOk x = true) (hl : (ap.endLine == cp.line) = true)
    (ho : PE X x (up X.K C W to)) : PE X (.Call (.Attribute x n ap) [] [] cp) (up X.K C W (dMt m.rc m.rd to dNil)) := by
  subst hn
  cases m
  · cases hm
  · exact d_bm0 (T := .list) F.plainAttrs_list F.slot_list_pop F.type_list_pop m_pop ho (rec_of hr) hl
  · cases hm
  · cases hm
  · exact d_bm0 (T := .list) F.plainAttrs_list F.slot_list_clear F.type_list_clear m_clear ho (rec_of hr) hl
  · exact d_bm0 (T := .list) F.plainAttrs_list F.slot_list_reverse F.type_list_reverse m_reverse ho (rec_of hr) hl
  · cases hm
  · cases hm
  · cases hm
  · cases hm
theorem ty_mem (t : Ty) : t.nm ∈ bltNames := by cases t <;> decide
theorem ty_boot (t : Ty) : bootBuiltins (Str.ofString t.nm) = some (.type t.nm) := by cases t <;> decide +kernel
theorem ty_ne (t : Ty) : Str.ofString t.nm ≠ "__name__" := by cases t <;> decide
theorem tys_of {c : Ck} {X : Cx} {W : WX} (K : Ctx c Γ gl C W X) : ∀ {ts : List Ty} {es : List Expr}, tyNames ts es = true → (ts.all fun t => c.gl (Str.ofString t.nm)) = true → PA X es (tTys ts)
  | [], [], _, _ => pa_nil
  | t :: ts, .Name x p :: es, h, k => by
    have h : (decide (x = Str.ofString t.nm) && tyNames ts es) = true := h
    simp only [Bool.and_eq_true, decide_eq_true_eq] at h
    simp only [List.all_cons, Bool.and_eq_true] at k
    obtain ⟨g1, g2⟩ := K.glb k.1
    have e := h.1
    subst e
    exact pa_cons (pe_bltn (v := .ty t.nm) g1 (K.free1 (ty_mem t)) (ty_boot t) rfl (ty_ne t) g2) (tys_of K h.2 k.2) rfl
  | t :: ts, [], h, _ => by cases h
  | [], _ :: _, h, _ => by cases h
  | t :: ts, .BoolOp .. :: es, h, _ => by cases h
  | t :: ts, .NamedExpr .. :: es, h, _ => by cases h
  | t :: ts, .BinOp .. :: es, h, _ => by cases h
  | t :: ts, .UnaryOp .. :: es, h, _ => by cases h
  | t :: ts, .Lambda .. :: es, h, _ => by cases h
  | t :: ts, .IfExp .. :: es, h, _ => by cases h
  | t :: ts, .Dict .. :: es, h, _ => by cases h
  | t :: ts, .Set .. :: es, h, _ => by cases h
  | t :: ts, .ListComp .. :: es, h, _ => by cases h
  | t :: ts, .SetComp .. :: es, h, _ => by cases h
  | t :: ts, .DictComp .. :: es, h, _ => by cases h
  | t :: ts, .GeneratorExp .. :: es, h, _ => by cases h
  | t :: ts, .Await .. :: es, h, _ => by cases h
  | t :: ts, .Yield .. :: es, h, _ => by cases h
  | t :: ts, .YieldFrom .. :: es, h, _ => by cases h
  | t :: ts, .Compare .. :: es, h, _ => by cases h
  | t :: ts, .Call .. :: es, h, _ => by cases h
  | t :: ts, .FormattedValue .. :: es, h, _ => by cases h
  | t :: ts, .JoinedStr .. :: es, h, _ => by cases h
  | t :: ts, .Constant .. :: es, h, _ => by cases h
  | t :: ts, .Attribute .. :: es, h, _ => by cases h
  | t :: ts, .Subscript .. :: es, h, _ => by cases h
  | t :: ts, .Starred .. :: es, h, _ => by cases h
  | t :: ts, .List .. :: es, h, _ => by cases h
  | t :: ts, .Tuple .. :: es, h, _ => by cases h
  | t :: ts, .Slice .. :: es, h, _ => by cases h
theorem x_pe {c : Ck} {X : Cx} {W : WX} (K : Ctx c Γ gl C W X) {t : Option Ex} {x : Str} {p : Pos} (h1 : x = Str.ofString (xnm t)) (h2 : c.gl x = true) (h3 : xOk c t = true) : PE X (.Name x p) (tC (vX C t)) ∧ ∀ m, t = some m → ExNs X.K m (C m) := by
  obtain ⟨g1, g2⟩ := K.glb h2
  cases t with
  | none =>
    subst h1
    exact ⟨pe_bltn (v := .ty "ValueError") g1 (K.free1 (x := "ValueError") (by decide)) (by decide +kernel) rfl (by decide) g2, fun m e => by cases e⟩
  | some m =>
    subst h1
    have hm : m ∈ c.exs := by simpa [xOk] using h3
    exact ⟨pe_glob g1 (K.exn m hm).mg rfl g2, fun k e => by cases e; exact (K.exn m hm).ns⟩
theorem xs_pe {c : Ck} {X : Cx} {W : WX} (K : Ctx c Γ gl C W X) : ∀ {ts : List (Option Ex)} {es : List Expr}, xNames c ts es = true → PA X es (tXs C ts) ∧ ∀ t ∈ ts, ∀ m, t = some m → ExNs X.K m (C m) := by
  intro ts
  induction ts with
  | nil =>
    intro es h
    cases es with
    | nil => exact ⟨pa_nil, fun t z => by cases z⟩
    | cons e es => cases h
  | cons t ts ih =>
    intro es h
    cases es with
    | nil => cases h
    | cons e es =>
      unfold xNames at h
      split at h
      · rename_i z _; cases z
      · rename_i z1 z2
        cases z1; cases z2
        simp only [Bool.and_eq_true, decide_eq_true_eq] at h
        obtain ⟨⟨⟨h1, h2⟩, h3⟩, h4⟩ := h
        obtain ⟨a1, a2⟩ := x_pe K (p := _) h1 h2 h3
        obtain ⟨b1, b2⟩ := ih h4
        exact ⟨pa_cons a1 b1 rfl, fun u hu => by
          rcases List.mem_cons.mp hu with rfl | hu
          · exact a2
          · exact b2 u hu⟩
      · cases h
theorem sound (px : PX) : Snd Γ gl C px := by
  induction px with
  | v i =>
    refine .of rfl rfl fun c X W x K q => ?_
    split at q
    · simp only [Bool.and_eq_true, decide_eq_true_eq] at q
      obtain ⟨h1, h2⟩ := q
      unfold Ck.vis at h1
      simp only [Bool.and_eq_true] at h1
      refine d_var (by rw [K.N]; exact h2) ?_ (by simpa using h1.1.2) (by simpa using h1.2)
      unfold Vis
      rw [K.sc]
      have h3 := h1.1.1
      split at h3
      · exact .inl (by assumption)
      · exact .inr (.inl (by assumption))
      · exact .inr (.inr (by assumption))
      · cases h3
    · cases q
  | int i =>
    refine .of rfl rfl fun c X W x K q => ?_
    split at q
    · have := of_decide_eq_true q; subst this; exact d_const pe_int fun _ => rfl
    · cases q
  | bl b =>
    refine .of rfl rfl fun c X W x K q => ?_
    split at q
    · have := of_decide_eq_true q; subst this; exact d_const pe_bl fun _ => rfl
    · cases q
  | non =>
    refine .of rfl rfl fun c X W x K q => ?_
    split at q
    · exact d_const pe_non fun _ => rfl
    · cases q
  | str s =>
    refine .of rfl rfl fun c X W x K q => ?_
    split at q
    · have := of_decide_eq_true q; subst this; exact d_const pe_str fun _ => rfl
    · cases q
  | glo k =>
    refine .of rfl rfl fun c X W x K q => ?_
    split at q
    · simp only [Bool.and_eq_true, decide_eq_true_eq] at q
      obtain ⟨u, v, h1, h2, h3⟩ := K.gls k _ (by simpa using q.2)
      obtain ⟨g1, g2⟩ := K.glb q.1
      exact d_const (pe_glob g1 h1 h2 g2) h3
    · cases q
  | bin o a b iha ihb =>
    refine .of rfl rfl fun c X W x K q => ?_
    split at q
    · simp only [Bool.and_eq_true, decide_eq_true_eq] at q
      have e := q.1.1
      subst e
      exact d_op (f := binaryOp o.py) (o_bin K o) (iha.e c X W _ K q.1.2) (ihb.e c X W _ K q.2)
    · cases q
  | cmp o a b iha ihb =>
    have H : ∀ (c : Ck) (X : Cx) (W : WX) (x : Expr), Ctx c Γ gl C W X → (kn (.cmp o a b)).e c x = true → ∃ y z p, x = .Compare y [o.py] [z] p ∧ behindInMarks o.py z = false ∧ PE X y (up X.K C W (mn Γ gl a).e) ∧ PE X z (up X.K C W (mn Γ gl b).e) := fun c X W x K q => by
      have q : cmpK o ((kn a).e c) ((kn b).e c) x = true := q
      unfold cmpK at q
      split at q
      · simp only [Bool.and_eq_true, decide_eq_true_eq, Bool.not_eq_true'] at q
        have e := q.1.1.1
        subst e
        exact ⟨_, _, _, rfl, q.1.1.2, iha.e c X W _ K q.1.2, ihb.e c X W _ K q.2⟩
      · cases q
    have T : ∀ (c : Ck) (X : Cx) (W : WX) (x : Expr), Ctx c Γ gl C W X → (kn (.cmp o a b)).e c x = true → PT X x (upT X.K C W (dTst (dBin o.rd (mn Γ gl a).e (mn Γ gl b).e))) := fun c X W x K q => by
      obtain ⟨y, z, p, rfl, h1, h2, h3⟩ := H c X W x K q
      exact t_cmp (o_cm K o) h2 h3 h1
    have E : ∀ (c : Ck) (X : Cx) (W : WX) (x : Expr), Ctx c Γ gl C W X → (kn (.cmp o a b)).e c x = true → PE X x (up X.K C W (dBin o.rd (mn Γ gl a).e (mn Γ gl b).e)) := fun c X W x K q => by
      obtain ⟨y, z, p, rfl, h1, h2, h3⟩ := H c X W x K q
      exact d_cmp (o_cm K o) h2 h3 h1
    exact ⟨E, T, fun c X W op es pos K q => by
        obtain ⟨e, rfl, q'⟩ := one_of (show one ((kn (.cmp o a b)).e c) es = true from q)
        have z := T c X W _ K q'
        cases op
        · exact t_and1 z
        · exact t_or1 z,
      fun c X W op es pos K q => by
        obtain ⟨e, rfl, q'⟩ := one_of (show one ((kn (.cmp o a b)).e c) es = true from q)
        exact v_one (E c X W _ K q'),
      fun c X W es K q => nope q, fun c X W tg x K q => nope q,
      fun c X W x K q => by
        obtain ⟨e, rfl, q'⟩ := opt_of (show opt ((kn (.cmp o a b)).e c) x = true from q)
        exact d_part (E c X W _ K q')⟩
  | chain o p a b d iha ihb ihd =>
    have H : ∀ (c : Ck) (X : Cx) (W : WX) (x : Expr), Ctx c Γ gl C W X → chainK o p ((kn a).e c) ((kn b).e c) ((kn d).e c) x = true → ∃ y z u q, x = .Compare y [o.py, p.py] [z, u] q ∧ lastMarks [o.py, p.py] [z, u] = false ∧ PE X y (up X.K C W (mn Γ gl a).e) ∧ PE X z (up X.K C W (mn Γ gl b).e) ∧ PE X u (up X.K C W (mn Γ gl d).e) := fun c X W x K q => by
      unfold chainK at q
      split at q
      · simp only [Bool.and_eq_true, decide_eq_true_eq, Bool.not_eq_true'] at q
        have e := q.1.1.1.1.1
        have e2 := q.1.1.1.1.2
        subst e e2
        exact ⟨_, _, _, _, rfl, q.1.1.1.2, iha.e c X W _ K q.1.1.2, ihb.e c X W _ K q.1.2, ihd.e c X W _ K q.2⟩
      · cases q
    have T : ∀ (c : Ck) (X : Cx) (W : WX) (x : Expr), Ctx c Γ gl C W X → chainK o p ((kn a).e c) ((kn b).e c) ((kn d).e c) x = true → PT X x (upT X.K C W (dTst (dChain o.rd p.rd (mn Γ gl a).e (mn Γ gl b).e (mn Γ gl d).e))) := fun c X W x K q => by
      obtain ⟨y, z, u, q, rfl, h1, h2, h3, h4⟩ := H c X W x K q
      exact t_chain (o_cm K o) (o_cm K p) h2 h3 h4 h1
    have E : ∀ (c : Ck) (X : Cx) (W : WX) (x : Expr), Ctx c Γ gl C W X → chainK o p ((kn a).e c) ((kn b).e c) ((kn d).e c) x = true → PE X x (up X.K C W (dChain o.rd p.rd (mn Γ gl a).e (mn Γ gl b).e (mn Γ gl d).e)) := fun c X W x K q => by
      obtain ⟨y, z, u, q, rfl, h1, h2, h3, h4⟩ := H c X W x K q
      exact v_chain (o_cm K o) (o_cm K p) h2 h3 h4 h1
    exact ⟨E, T, fun c X W op es pos K q => by
        obtain ⟨e, rfl, q'⟩ := one_of (show one (chainK o p ((kn a).e c) ((kn b).e c) ((kn d).e c)) es = true from q)
        have z := T c X W _ K q'
        cases op
        · exact t_and1 z
        · exact t_or1 z,
      fun c X W op es pos K q => by
        obtain ⟨e, rfl, q'⟩ := one_of (show one (chainK o p ((kn a).e c) ((kn b).e c) ((kn d).e c)) es = true from q)
        exact v_one (E c X W _ K q'),
      fun c X W es K q => nope q, fun c X W tg x K q => nope q,
      fun c X W x K q => by
        obtain ⟨e, rfl, q'⟩ := opt_of (show opt (chainK o p ((kn a).e c) ((kn b).e c) ((kn d).e c)) x = true from q)
        exact d_part (E c X W _ K q')⟩
  | not a iha =>
    have E : ∀ (c : Ck) (X : Cx) (W : WX) (x : Expr), Ctx c Γ gl C W X → uop .Not ((kn a).e c) x = true → PE X x (up X.K C W (dNot (mn Γ gl a).e)) := fun c X W x K q => by
      obtain ⟨y, p, rfl, q'⟩ := uop_of q
      exact v_not (iha.e c X W _ K q')
    have T : ∀ (c : Ck) (X : Cx) (W : WX) (x : Expr), Ctx c Γ gl C W X → uop .Not ((kn a).t c) x = true → PT X x (upT X.K C W (dNotT (mn Γ gl a).t)) := fun c X W x K q => by
      obtain ⟨y, p, rfl, q'⟩ := uop_of q
      exact t_not (iha.t c X W _ K q')
    exact ⟨E, T, fun c X W op es pos K q => by
        obtain ⟨e, rfl, q'⟩ := one_of (show one (uop .Not ((kn a).t c)) es = true from q)
        have z := T c X W _ K q'
        cases op
        · exact t_and1 z
        · exact t_or1 z,
      fun c X W op es pos K q => by
        obtain ⟨e, rfl, q'⟩ := one_of (show one (uop .Not ((kn a).e c)) es = true from q)
        exact v_one (E c X W _ K q'),
      fun c X W es K q => nope q, fun c X W tg x K q => nope q,
      fun c X W x K q => by
        obtain ⟨e, rfl, q'⟩ := opt_of (show opt (uop .Not ((kn a).e c)) x = true from q)
        exact d_part (E c X W _ K q')⟩
  | neg a iha =>
    refine .of (k := fun c => uop .USub ((kn a).e c)) rfl rfl fun c X W x K q => ?_
    obtain ⟨y, p, rfl, q'⟩ := uop_of q
    exact v_neg (iha.e c X W _ K q')
  | and a b iha ihb =>
    have WT : ∀ (c : Ck) (X : Cx) (W : WX) (es : List Expr) (pos : Pos), Ctx c Γ gl C W X → two ((kn a).t c) ((kn b).w c .And) es = true → PW X (.BoolOp .And es pos) (upT X.K C W (dAndT (mn Γ gl a).t (mn Γ gl b).t)) := fun c X W es pos K q => by
      obtain ⟨x, y, r, rfl, h1, h2⟩ := two_of q
      exact t_and (iha.t c X W _ K h1) (ihb.w c X W .And _ pos K h2)
    have VE : ∀ (c : Ck) (X : Cx) (W : WX) (es : List Expr) (pos : Pos), Ctx c Γ gl C W X → two ((kn a).e c) ((kn b).ve c .And) es = true → PE X (.BoolOp .And es pos) (up X.K C W (dAnd (mn Γ gl a).e (mn Γ gl b).e)) := fun c X W es pos K q => by
      obtain ⟨x, y, r, rfl, h1, h2⟩ := two_of q
      exact v_and (iha.e c X W _ K h1) (ihb.ve c X W .And _ pos K h2)
    have E : ∀ (c : Ck) (X : Cx) (W : WX) (x : Expr), Ctx c Γ gl C W X → bop .And (two ((kn a).e c) ((kn b).ve c .And)) x = true → PE X x (up X.K C W (dAnd (mn Γ gl a).e (mn Γ gl b).e)) := fun c X W x K q => by
      obtain ⟨es, p, rfl, h⟩ := bop_of q
      exact VE c X W es p K h
    have T : ∀ (c : Ck) (X : Cx) (W : WX) (x : Expr), Ctx c Γ gl C W X → bop .And (two ((kn a).t c) ((kn b).w c .And)) x = true → PT X x (upT X.K C W (dAndT (mn Γ gl a).t (mn Γ gl b).t)) := fun c X W x K q => by
      obtain ⟨es, p, rfl, h⟩ := bop_of q
      exact (WT c X W es p K h).pt
    exact ⟨E, T, fun c X W op es pos K q => by
        have q : (one (bop .And (two ((kn a).t c) ((kn b).w c .And))) es || (decide (op = .And) && two ((kn a).t c) ((kn b).w c .And) es)) = true := q
        rw [Bool.or_eq_true] at q
        rcases q with q | q
        · obtain ⟨e, rfl, q'⟩ := one_of q
          have z := T c X W _ K q'
          cases op
          · exact t_and1 z
          · exact t_or1 z
        · rw [Bool.and_eq_true] at q
          have e := of_decide_eq_true q.1
          subst e
          exact WT c X W es pos K q.2,
      fun c X W op es pos K q => by
        have q : (one (bop .And (two ((kn a).e c) ((kn b).ve c .And))) es || (decide (op = .And) && two ((kn a).e c) ((kn b).ve c .And) es)) = true := q
        rw [Bool.or_eq_true] at q
        rcases q with q | q
        · obtain ⟨e, rfl, q'⟩ := one_of q
          exact v_one (E c X W _ K q')
        · rw [Bool.and_eq_true] at q
          have e := of_decide_eq_true q.1
          subst e
          exact VE c X W es pos K q.2,
      fun c X W es K q => nope q, fun c X W tg x K q => nope q,
      fun c X W x K q => by
        obtain ⟨e, rfl, q'⟩ := opt_of (show opt (bop .And (two ((kn a).e c) ((kn b).ve c .And))) x = true from q)
        exact d_part (E c X W _ K q')⟩
  | or a b iha ihb =>
    have WT : ∀ (c : Ck) (X : Cx) (W : WX) (es : List Expr) (pos : Pos), Ctx c Γ gl C W X → two ((kn a).t c) ((kn b).w c .Or) es = true → PW X (.BoolOp .Or es pos) (upT X.K C W (dOrT (mn Γ gl a).t (mn Γ gl b).t)) := fun c X W es pos K q => by
      obtain ⟨x, y, r, rfl, h1, h2⟩ := two_of q
      exact t_or (iha.t c X W _ K h1) (ihb.w c X W .Or _ pos K h2)
    have VE : ∀ (c : Ck) (X : Cx) (W : WX) (es : List Expr) (pos : Pos), Ctx c Γ gl C W X → two ((kn a).e c) ((kn b).ve c .Or) es = true → PE X (.BoolOp .Or es pos) (up X.K C W (dOr (mn Γ gl a).e (mn Γ gl b).e)) := fun c X W es pos K q => by
      obtain ⟨x, y, r, rfl, h1, h2⟩ := two_of q
      exact v_or (iha.e c X W _ K h1) (ihb.ve c X W .Or _ pos K h2)
    have E : ∀ (c : Ck) (X : Cx) (W : WX) (x : Expr), Ctx c Γ gl C W X → bop .Or (two ((kn a).e c) ((kn b).ve c .Or)) x = true → PE X x (up X.K C W (dOr (mn Γ gl a).e (mn Γ gl b).e)) := fun c X W x K q => by
      obtain ⟨es, p, rfl, h⟩ := bop_of q
      exact VE c X W es p K h
    have T : ∀ (c : Ck) (X : Cx) (W : WX) (x : Expr), Ctx c Γ gl C W X → bop .Or (two ((kn a).t c) ((kn b).w c .Or)) x = true → PT X x (upT X.K C W (dOrT (mn Γ gl a).t (mn Γ gl b).t)) := fun c X W x K q => by
      obtain ⟨es, p, rfl, h⟩ := bop_of q
      exact (WT c X W es p K h).pt
    exact ⟨E, T, fun c X W op es pos K q => by
        have q : (one (bop .Or (two ((kn a).t c) ((kn b).w c .Or))) es || (decide (op = .Or) && two ((kn a).t c) ((kn b).w c .Or) es)) = true := q
        rw [Bool.or_eq_true] at q
        rcases q with q | q
        · obtain ⟨e, rfl, q'⟩ := one_of q
          have z := T c X W _ K q'
          cases op
          · exact t_and1 z
          · exact t_or1 z
        · rw [Bool.and_eq_true] at q
          have e := of_decide_eq_true q.1
          subst e
          exact WT c X W es pos K q.2,
      fun c X W op es pos K q => by
        have q : (one (bop .Or (two ((kn a).e c) ((kn b).ve c .Or))) es || (decide (op = .Or) && two ((kn a).e c) ((kn b).ve c .Or) es)) = true := q
        rw [Bool.or_eq_true] at q
        rcases q with q | q
        · obtain ⟨e, rfl, q'⟩ := one_of q
          exact v_one (E c X W _ K q')
        · rw [Bool.and_eq_true] at q
          have e := of_decide_eq_true q.1
          subst e
          exact VE c X W es pos K q.2,
      fun c X W es K q => nope q, fun c X W tg x K q => nope q,
      fun c X W x K q => by
        obtain ⟨e, rfl, q'⟩ := opt_of (show opt (bop .Or (two ((kn a).e c) ((kn b).ve c .Or))) x = true from q)
        exact d_part (E c X W _ K q')⟩
  | ix a b iha ihb =>
    refine .of rfl rfl fun c X W x K q => ?_
    split at q
    · rename_i x y p
      simp only [Bool.and_eq_true] at q
      refine d_ix (iha.e c X W _ K q.1.2) (ihb.e c X W _ K q.2) ?_
      have h := q.1.1
      intro o i
      cases y <;> first | rfl | cases h
    · cases q
  | slc a lo hi iha ihl ihh =>
    refine .of rfl rfl fun c X W x K q => ?_
    split at q
    · simp only [Bool.and_eq_true] at q
      exact d_slc (iha.e c X W _ K q.1.1) (ihl.o c X W _ K q.1.2) (ihh.o c X W _ K q.2)
    · cases q
  | tup as ih =>
    refine .of rfl rfl fun c X W x K q => ?_
    split at q
    · exact d_tup (ih.a c X W _ K q)
    · cases q
  | lst as ih =>
    refine .of rfl rfl fun c X W x K q => ?_
    split at q
    · exact d_lst (ih.a c X W _ K q)
    · cases q
  | nil =>
    refine ⟨fun c X W x K q => nope q, fun c X W x K q => nope q, fun c X W op es pos K q => nope q, fun c X W op es pos K q => nope q, fun c X W es K q => ?_, fun c X W tg x K q => nope q, fun c X W x K q => nope q⟩
    cases es with
    | nil => exact d_nil
    | cons e es => cases q
  | cons a r iha ihr =>
    refine ⟨fun c X W x K q => nope q, fun c X W x K q => nope q, fun c X W op es pos K q => nope q, fun c X W op es pos K q => nope q, fun c X W es K q => ?_, fun c X W tg x K q => nope q, fun c X W x K q => nope q⟩
    cases es with
    | nil => cases q
    | cons e es =>
      have q : (noStar e && (kn a).e c e && (kn r).a c es) = true := q
      simp only [Bool.and_eq_true] at q
      exact d_cons (iha.e c X W _ K q.1.2) (ihr.a c X W _ K q.2) (star_of q.1.1)
  | call f as ih =>
    refine .of rfl rfl fun c X W x K q => ?_
    split at q
    · simp only [Bool.and_eq_true, decide_eq_true_eq] at q
      obtain ⟨ps, F⟩ := K.fns f _ q.1.1.1.2
      obtain ⟨g1, g2⟩ := K.glb q.1.1.1.1
      exact d_call F K.tk g1 (ih.a c X W _ K q.2) g2 (star_of q.1.1.2) (plain_star q.1.2)
    · simp only [Bool.and_eq_true, decide_eq_true_eq] at q
      obtain ⟨⟨q1, q2⟩, q3⟩ := q
      obtain ⟨ps, F⟩ := K.fns f _ q2
      obtain ⟨g1, g2⟩ := K.glb q1
      cases as with
      | nil => exact d_call0 F K.tk g1 g2
      | _ => cases q3
    · cases q
  | blt b as ih =>
    refine .of rfl rfl fun c X W x K q => ?_
    split at q
    · simp only [Bool.and_eq_true, decide_eq_true_eq] at q
      obtain ⟨g1, g2⟩ := K.glb q.1.1.1.1
      exact c_bl K q.1.1.1.2 g1 (ih.a c X W _ K q.2) g2 (star_of q.1.1.2) (plain_star q.1.2)
    · cases q
  | mt m o as iho iha =>
    refine .of rfl rfl fun c X W x K q => ?_
    split at q
    · simp only [Bool.and_eq_true, decide_eq_true_eq] at q
      have h := q.2
      cases as with
      | nil => exact m_of0 q.1.1.1.1.1 q.1.1.1.1.2 q.1.1.1.2 q.1.1.2 (iho.e c X W _ K q.1.2)
      | _ => cases h
    · simp only [Bool.and_eq_true, decide_eq_true_eq, Bool.not_eq_true'] at q
      exact m_of K q.1.1.1.1.1.1.1.1 q.1.1.1.1.1.1.1.2 q.1.1.1.1.1.1.2 q.1.1.1.1.1.2 q.1.1.1.1.2 q.1.1.1.2 q.1.1.2 (iho.e c X W _ K q.1.2) (iha.a c X W _ K q.2)
    · cases q
  | isi ts a ih =>
    refine .of rfl rfl fun c X W x K q => ?_
    split at q
    · simp only [Bool.and_eq_true, decide_eq_true_eq] at q
      obtain ⟨⟨⟨⟨⟨q1, q2⟩, q3⟩, q4⟩, q5⟩, q6⟩ := q
      split at q5
      · have e2 := of_decide_eq_true q5
        subst q2 e2
        obtain ⟨g1, g2⟩ := K.glb q1
        obtain ⟨g3, g4⟩ := K.glb q4
        exact d_isi1 g1 (K.free1 (x := "isinstance") (by decide)) (ih.e c X W _ K q6) g3 (K.free1 (ty_mem _)) (ty_boot _) (ty_ne _) g4 (star_of q3) rfl
      · cases q5
    · simp only [Bool.and_eq_true, decide_eq_true_eq] at q
      obtain ⟨⟨⟨⟨⟨⟨q1, q2⟩, q3⟩, q0⟩, q4⟩, q5⟩, q6⟩ := q
      subst q2
      obtain ⟨g1, g2⟩ := K.glb q1
      refine d_isiT g1 (K.free1 (x := "isinstance") (by decide)) (ih.e c X W _ K q6) (tys_of K q4 q5) ?_ (star_of q3) rfl
      exact Nat.le_trans (Nat.le_of_lt q0) (by decide +kernel)
    · cases q
  | isx ts a ih =>
    refine .of rfl rfl fun c X W x K q => ?_
    split at q
    · simp only [Bool.and_eq_true, decide_eq_true_eq] at q
      obtain ⟨⟨⟨⟨q1, q2⟩, q3⟩, q5⟩, q6⟩ := q
      split at q5
      · simp only [Bool.and_eq_true, decide_eq_true_eq] at q5
        obtain ⟨⟨e2, q7⟩, q8⟩ := q5
        subst q2
        obtain ⟨g1, g2⟩ := K.glb q1
        obtain ⟨a1, a2⟩ := x_pe K (p := _) e2 q7 q8
        exact d_isx1 g1 (K.free1 (x := "isinstance") (by decide)) (ih.e c X W _ K q6) a1 a2 (star_of q3) rfl
      · cases q5
    · simp only [Bool.and_eq_true, decide_eq_true_eq] at q
      obtain ⟨⟨⟨⟨⟨q1, q2⟩, q3⟩, q0⟩, q4⟩, q6⟩ := q
      subst q2
      obtain ⟨g1, g2⟩ := K.glb q1
      obtain ⟨a1, a2⟩ := xs_pe K q4
      refine d_isxT g1 (K.free1 (x := "isinstance") (by decide)) (ih.e c X W _ K q6) a1 a2 ?_ (star_of q3) rfl
      exact Nat.le_trans (Nat.le_of_lt q0) (by decide +kernel)
    · cases q
  | comp own tg it tst e ihi iht ihe =>
    refine .of rfl rfl fun c X W x K q => ?_
    split at q
    · rename_i elt tgE iter ifs scope pos
      simp only [Bool.and_eq_true] at q
      obtain ⟨⟨⟨⟨⟨⟨q1, q2⟩, q3⟩, q4⟩, q5⟩, q6⟩, q7⟩ := q
      have eo : (own.map fun i => (c.N.getD i "", i)).map (·.2) = own := by
        rw [List.map_map]
        exact List.map_id _
      have H := d_comp (X := X) (C := C) (W := W) (elt := elt) (tg := tgE) (iter := iter) (ifs := ifs) (scope := scope) (own := own.map fun i => (c.N.getD i "", i)) (pos := pos) (ti := (mn Γ gl it).i) (tgd := tg) (tt := (mn Γ gl tst).t) (te := (mn Γ gl e).e) K.calm K.nd (ihi.i c X W tgE iter K q5)
        (by rw [K.N, K.sc]; exact blkOk_by q1) (fun s H A cl fp => tg_of (K.blk scope s H A cl fp) q3) (fun s H A cl fp => ?_) (fun s H A cl fp => ihe.e _ _ W0 _ (K.blk scope s H A cl fp) q6) (set_of q4) ?_
      · rw [eo] at H
        exact H
      · split at q7
        · exact ⟨fun pins s σ H Q I ⟨env, g, Xd, Qd, re, rg, t, cl, cx⟩ => (pts_nil (X := X.blk _ _ scope (compEnvC scope _ _ X.env) _)).run pins s σ H Q I (cl _ _ _ t (.refl _) rg)⟩
        · cases q7
        · exact pts_one (iht.t _ _ W0 _ (K.blk scope s H A cl fp) q7)
        · cases q7
      · intro i hi
        rw [eo]
        have := List.all_eq_true.mp q2 i hi
        simpa using this
    · cases q
  | over a ih => exact ⟨fun c X W x K q => nope q, fun c X W x K q => nope q, fun c X W op es pos K q => nope q, fun c X W op es pos K q => nope q, fun c X W es K q => nope q, fun c X W tg x K q => d_iAny (ih.e c X W _ K q), fun c X W x K q => nope q⟩
  | overL a ih => exact ⟨fun c X W x K q => nope q, fun c X W x K q => nope q, fun c X W op es pos K q => nope q, fun c X W op es pos K q => nope q, fun c X W es K q => nope q, fun c X W tg x K q => d_iLst (ih.e c X W _ K q), fun c X W x K q => nope q⟩
  | dic =>
    refine .of rfl rfl fun c X W x K q => ?_
    split at q
    · exact d_dic
    · cases q
  | dnew =>
    refine .of rfl rfl fun c X W x K q => ?_
    split at q
    · exact d_dnew
    · cases q
  | vfz i =>
    refine .of rfl rfl fun c X W x K q => ?_
    split at q
    · simp only [Bool.and_eq_true, decide_eq_true_eq] at q
      obtain ⟨h1, h2⟩ := q
      unfold Ck.vis at h1
      simp only [Bool.and_eq_true] at h1
      refine d_vfz (by rw [K.N]; exact h2) ?_ (by simpa using h1.1.2) (by simpa using h1.2)
      unfold Vis
      rw [K.sc]
      have h3 := h1.1.1
      split at h3
      · exact .inl (by assumption)
      · exact .inr (.inl (by assumption))
      · exact .inr (.inr (by assumption))
      · cases h3
    · cases q
  | dic1 k i =>
    refine .of rfl rfl fun c X W x K q => ?_
    split at q
    · simp only [Bool.and_eq_true, decide_eq_true_eq] at q
      obtain ⟨rfl, h1, h2⟩ := q
      unfold Ck.vis at h1
      simp only [Bool.and_eq_true] at h1
      refine d_dic1 (by rw [K.N]; exact h2) ?_ (by simpa using h1.1.2) (by simpa using h1.2)
      unfold Vis
      rw [K.sc]
      have h3 := h1.1.1
      split at h3
      · exact .inl (by assumption)
      · exact .inr (.inl (by assumption))
      · exact .inr (.inr (by assumption))
      · cases h3
    · cases q
  | stp a b iha ihb =>
    refine .of rfl rfl fun c X W x K q => ?_
    split at q
    · rw [Bool.and_eq_true] at q
      exact d_stp (iha.e c X W _ K q.1) (ihb.e c X W _ K q.2)
    · cases q
  | lamr ns a ih =>
    refine .of rfl rfl fun c X W x K q => ?_
    split at q
    · rename_i scope _ _
      simp only [Bool.and_eq_true, decide_eq_true_eq] at q
      obtain ⟨⟨⟨⟨⟨q1, q2⟩, q3⟩, q4⟩, q5⟩, q6⟩ := q
      obtain ⟨F, M, k, hk, hr, hf⟩ := K.lam _ q1
      obtain ⟨g1, g2⟩ := K.glb q3
      have L := LamX.lamS_by (show LamX.lamSB X.env.scope scope = true by rw [K.sc]; exact q4)
      unfold noArgs at q5
      split at q5
      · refine d_lamr (fun n hn => by simpa using List.all_eq_true.mp q2 n hn) M F hk hr g1 g2 L rfl (fun _ _ _ _ _ => rfl) fun A outer s H E f c' hr2 => ih.e (c.lm scope) (lamC X A outer s H E scope f c') _ _ ⟨K.N, K.nd, rfl, rfl, ⟨K.stk.seer, K.stk.tree, hr2.mono hk, ⟨_, outer, rfl, L.gen, L.co, rfl, rfl⟩⟩, (fun x h => by cases h), fun i y hy => ?_, K.gls, K.free, K.exn, L2N.takes_of rfl rfl rfl rfl, (fun x h => by cases h), .nil⟩ q6
        obtain ⟨ps, f, fd, f1, f2, f3, f4⟩ := hf i y hy
        exact ⟨ps, f, fd, k, f1, f2, f3, f4, hr2⟩
      · cases q5
    · cases q
  | ask i j a ih =>
    refine .of rfl rfl fun c X W x K q => ?_
    split at q
    · simp only [Bool.and_eq_true, decide_eq_true_eq] at q
      obtain ⟨⟨⟨⟨q1, q2⟩, q3⟩, q4⟩, q5⟩ := q
      obtain ⟨f, L, h1, h2⟩ := K.lam _ q1
      obtain ⟨v1, v2, v3⟩ := visq K q2
      rw [h1]
      exact d_ask (h2 X.pn X.xe) (by rw [K.N]; exact q3) v1 v2 v3 (ih.e c X W _ K q5) (star_of q4)
    · cases q
  | lamq js a b t iha ihb iht =>
    refine .of rfl rfl fun c X W x K q => ?_
    split at q
    · rename_i params body scope _ _
      split at q
      · rename_i px hp
        simp only [Bool.and_eq_true, decide_eq_true_eq] at q
        obtain ⟨⟨⟨⟨⟨⟨⟨⟨⟨q1, q2⟩, q3⟩, q4⟩, q5⟩, q6⟩, q7⟩, q8⟩, q9⟩, q10⟩ := q
        obtain ⟨M, hex, k, hk, hr, F, hf⟩ := K.lam _ q1
        obtain ⟨g1, g2⟩ := K.glb q2
        have NS := NdefX.nscope_by q5
        have hsc : X.env.scope = c.sc := K.sc
        have hjs : js.map (fun j => X.N[j]?) = (js.map fun j => c.N.getD j "").map some := by
          rw [List.map_map]
          refine List.map_congr_left fun j hj => ?_
          have hlt : j < c.N.length := by simpa using List.all_eq_true.mp q7 j hj
          rw [K.N, Function.comp, List.getD_eq_getElem?_getD, List.getElem?_eq_getElem hlt]
          rfl
        have hdb : ∀ (q : Str) (cl : List (Str × Addr)) (pm cv ctv u : Value), bindArgs (PySem.W.kla_fn "<lambda>" q params body scope cl pm cv ctv) ⟨[u], []⟩ = pure [(px, u)] := by
          unfold oneArg at hp
          split at hp
          · split at hp
            · rename_i e
              cases hp
              subst e
              intro q cl pm cv ctv u
              rfl
            · cases hp
          · cases hp
        have hdef : defaultsOf params X.env = ([], []) := by
          unfold oneArg at hp
          split at hp
          · rfl
          · cases hp
        refine d_lamq M F hr g1 g2 hex NS (by rw [hsc]; exact NdefX.ndef_free q6) (NdefX.ndef_fr q6) hjs hdef hdb (iha.e c X W _ K q8) (ihb.e c X W _ K q9) (star_of q3) (star_of q4) (plain_star (by rw [List.all_cons, q4]; rfl)) fun A outer f d cl q s1 HZ hr2 => ?_
        refine iht.e (c.lmq (px :: js.map fun j => c.N.getD j "") scope) _ _ _ ⟨rfl, NS.nd, rfl, rfl, ⟨K.stk.seer, K.stk.tree, hr2.mono hk, ⟨_, outer, rfl, NS.gen, NS.co, rfl, rfl⟩⟩, (fun x h => by cases h), fun i y hy => ?_, K.gls, K.free, K.exn, takes0N, (fun x h => by cases h), .nil⟩ q10
        obtain ⟨ps, f, fd, f1, f2, f3, f4⟩ := hf i y hy
        exact ⟨ps, f, fd, k, f1, f2, f3, f4, hr2⟩
      · cases q
    · cases q
  | fld a ih =>
    refine .of rfl rfl fun c X W x K q => ?_
    split at q
    · simp only [Bool.and_eq_true, decide_eq_true_eq] at q
      obtain ⟨⟨⟨q1, q2⟩, q3⟩, q4⟩ := q
      subst q2
      exact d_fld (K.dsk.fld q1) (ih.e c X W _ K q4) (rec_of q3)
    · cases q
  | meth f o as iho ih =>
    refine .of rfl rfl fun c X W x K q => ?_
    split at q
    · simp only [Bool.and_eq_true, decide_eq_true_eq] at q
      obtain ⟨⟨⟨⟨⟨q1, q2⟩, q3⟩, q4⟩, q5⟩, q6⟩ := q
      cases as with
      | nil => exact d_meth0 (K.dsk.mth f _ q1) K.tk q2 (iho.e c X W _ K q5) (recM_of q3) q4
      | _ => cases q6
    · simp only [Bool.and_eq_true, decide_eq_true_eq] at q
      obtain ⟨⟨⟨⟨⟨⟨⟨⟨q1, q2⟩, q3⟩, q4⟩, q5⟩, q6⟩, q7⟩, q8⟩, q9⟩ := q
      exact d_meth (K.dsk.mth f _ q1) K.tk q2 (iho.e c X W _ K q8) (ih.a c X W _ K q9) (recM_of q3) (bm_few q5 q6 q7) q4 (star_of q5) (plain_star q6)
    · cases q
  | mk f as ih =>
    refine .of rfl rfl fun c X W x K q => ?_
    split at q
    · simp only [Bool.and_eq_true, decide_eq_true_eq] at q
      obtain ⟨⟨⟨⟨⟨q1, q2⟩, q3⟩, q4⟩, q5⟩, q6⟩ := q
      subst q2
      obtain ⟨g1, g2⟩ := K.glb q1
      exact d_make (K.dsk.mkd f q3) K.tk g1 (ih.a c X W _ K q6) (star_of q4) (plain_star q5)
    · cases q
  | gin kvs a ih =>
    have H : ∀ (c : Ck) (X : Cx) (W : WX) (x : Expr), Ctx c Γ gl C W X → ginK c kvs ((kn a).e c) x = true → ∃ y z p p2, x = .Compare y [.In] [.Name z p] p2 ∧ GdAt X z kvs ∧ Gl X z ∧ (z == ("__debug__" : Str)) = false ∧ PE X y (up X.K C W (mn Γ gl a).e) := fun c X W x K q => by
      unfold ginK at q
      split at q
      · simp only [Bool.and_eq_true, decide_eq_true_eq] at q
        obtain ⟨⟨⟨q1, q2⟩, q3⟩, q4⟩ := q
        subst q1
        obtain ⟨g1, g2⟩ := K.glb q2
        exact ⟨_, _, _, _, rfl, K.dsk.gds _ _ (by simpa using q3), g1, g2, ih.e c X W _ K q4⟩
      · cases q
    refine ⟨fun c X W x K q => ?_, fun c X W x K q => ?_, fun c X W op es pos K q => nope q, fun c X W op es pos K q => nope q, fun c X W es K q => nope q, fun c X W tg x K q => nope q, fun c X W x K q => nope q⟩
    · obtain ⟨y, z, p, p2, rfl, h1, h2, h3, h4⟩ := H c X W x K q
      exact d_gin h1 h2 h3 h4
    · obtain ⟨y, z, p, p2, rfl, h1, h2, h3, h4⟩ := H c X W x K q
      exact t_gin h1 h2 h3 h4
  | gix kvs a ih =>
    refine .of rfl rfl fun c X W x K q => ?_
    split at q
    · rename_i z p y p2
      simp only [Bool.and_eq_true] at q
      obtain ⟨⟨⟨q1, q2⟩, q3⟩, q4⟩ := q
      obtain ⟨g1, g2⟩ := K.glb q1
      refine d_gix (K.dsk.gds _ _ (by simpa using q2)) g1 g2 (ih.e c X W _ K q4) ?_
      intro o i
      cases y <;> first | rfl | cases q3
    · cases q
  | rep a b iha ihb =>
    refine .of rfl rfl fun c X W x K q => ?_
    split at q
    · simp only [Bool.and_eq_true, decide_eq_true_eq] at q
      obtain ⟨⟨q1, q2⟩, q3⟩ := q
      subst q1
      exact d_op (f := binaryOp .Mult) o_rep (iha.e c X W _ K q2) (ihb.e c X W _ K q3)
    · cases q
  | zips a b iha ihb =>
    refine ⟨fun c X W x K q => nope q, fun c X W x K q => nope q, fun c X W op es pos K q => nope q, fun c X W op es pos K q => nope q, fun c X W es K q => nope q, fun c X W tg x K q => ?_, fun c X W x K q => nope q⟩
    unfold kn at q
    dsimp only at q
    split at q
    · simp only [Bool.and_eq_true, decide_eq_true_eq] at q
      obtain ⟨⟨⟨⟨⟨⟨q0, q1⟩, q2⟩, q3⟩, q4⟩, q5⟩, q6⟩ := q
      subst q2
      obtain ⟨g1, g2⟩ := K.glb q1
      cases tg with
      | Tuple es k p => exact d_zipS g1 (K.free1 (x := "zip") (by decide)) (iha.e c X W _ K q5) (ihb.e c X W _ K q6) (by rw [star_of q3, star_of q4]; rfl) (star_of q4)
      | _ => cases q0
    · cases q
  | range1 a ih =>
    refine ⟨fun c X W x K q => nope q, fun c X W x K q => nope q, fun c X W op es pos K q => nope q, fun c X W op es pos K q => nope q, fun c X W es K q => nope q, fun c X W tg x K q => ?_, fun c X W x K q => nope q⟩
    unfold kn at q
    dsimp only at q
    split at q
    · simp only [Bool.and_eq_true, decide_eq_true_eq] at q
      have e := q.1.1.2
      subst e
      obtain ⟨g1, g2⟩ := K.glb q.1.1.1
      exact d_range1 g1 (K.free1 (x := "range") (by decide)) (ih.e c X W _ K q.2) (star_of q.1.2)
    · cases q
  | range2 a b iha ihb =>
    refine ⟨fun c X W x K q => nope q, fun c X W x K q => nope q, fun c X W op es pos K q => nope q, fun c X W op es pos K q => nope q, fun c X W es K q => nope q, fun c X W tg x K q => ?_, fun c X W x K q => nope q⟩
    unfold kn at q
    dsimp only at q
    split at q
    · simp only [Bool.and_eq_true, decide_eq_true_eq] at q
      have e := q.1.1.1.1.2
      subst e
      obtain ⟨g1, g2⟩ := K.glb q.1.1.1.1.1
      exact d_range2 g1 (K.free1 (x := "range") (by decide)) (iha.e c X W _ K q.1.2) (ihb.e c X W _ K q.2) (by rw [star_of q.1.1.1.2, star_of q.1.1.2]; rfl) (star_of q.1.1.2)
    · cases q
  | rev a ih =>
    refine ⟨fun c X W x K q => nope q, fun c X W x K q => nope q, fun c X W op es pos K q => nope q, fun c X W op es pos K q => nope q, fun c X W es K q => nope q, fun c X W tg x K q => ?_, fun c X W x K q => nope q⟩
    unfold kn at q
    dsimp only at q
    split at q
    · simp only [Bool.and_eq_true, decide_eq_true_eq] at q
      have e := q.1.1.2
      subst e
      obtain ⟨g1, g2⟩ := K.glb q.1.1.1
      exact d_rev g1 (K.free1 (x := "reversed") (by decide)) (ih.e c X W _ K q.2) (star_of q.1.2)
    · cases q
  | zip a b iha ihb =>
    refine ⟨fun c X W x K q => nope q, fun c X W x K q => nope q, fun c X W op es pos K q => nope q, fun c X W op es pos K q => nope q, fun c X W es K q => nope q, fun c X W tg x K q => ?_, fun c X W x K q => nope q⟩
    unfold kn at q
    dsimp only at q
    split at q
    · simp only [Bool.and_eq_true, decide_eq_true_eq] at q
      obtain ⟨⟨⟨⟨⟨⟨q0, q1⟩, q2⟩, q3⟩, q4⟩, q5⟩, q6⟩ := q
      subst q2
      obtain ⟨g1, g2⟩ := K.glb q1
      cases tg with
      | Tuple es k p => exact d_zip g1 (K.free1 (x := "zip") (by decide)) (iha.e c X W _ K q5) (ihb.e c X W _ K q6) (by rw [star_of q3, star_of q4]; rfl) (star_of q4)
      | _ => cases q0
    · cases q
  | enum a ih =>
    refine ⟨fun c X W x K q => nope q, fun c X W x K q => nope q, fun c X W op es pos K q => nope q, fun c X W op es pos K q => nope q, fun c X W es K q => nope q, fun c X W tg x K q => ?_, fun c X W x K q => nope q⟩
    unfold kn at q
    dsimp only at q
    split at q
    · simp only [Bool.and_eq_true, decide_eq_true_eq] at q
      obtain ⟨⟨⟨⟨q0, q1⟩, q2⟩, q3⟩, q4⟩ := q
      subst q2
      obtain ⟨g1, g2⟩ := K.glb q1
      cases tg with
      | Tuple es k p => exact d_enum g1 (K.free1 (x := "enumerate") (by decide)) (ih.e c X W _ K q4) (star_of q3)
      | _ => cases q0
    · cases q
  | zip3 a b d iha ihb ihd =>
    refine ⟨fun c X W x K q => nope q, fun c X W x K q => nope q, fun c X W op es pos K q => nope q, fun c X W op es pos K q => nope q, fun c X W es K q => nope q, fun c X W tg x K q => ?_, fun c X W x K q => nope q⟩
    unfold kn at q
    dsimp only at q
    split at q
    · simp only [Bool.and_eq_true, decide_eq_true_eq] at q
      obtain ⟨⟨⟨⟨⟨⟨⟨⟨q0, q1⟩, q2⟩, q3⟩, q4⟩, q5⟩, q6⟩, q7⟩, q8⟩ := q
      subst q2
      obtain ⟨g1, g2⟩ := K.glb q1
      cases tg with
      | Tuple es k p => exact d_zip3 g1 (K.free1 (x := "zip") (by decide)) (iha.e c X W _ K q6) (ihb.e c X W _ K q7) (ihd.e c X W _ K q8) (star_of q3) (star_of q4) (star_of q5)
      | _ => cases q0
    · cases q
  | yes => exact ⟨fun c X W x K q => nope q, fun c X W x K q => nope q, fun c X W op es pos K q => nope q, fun c X W op es pos K q => nope q, fun c X W es K q => nope q, fun c X W tg x K q => nope q, fun c X W x K q => nope q⟩
  | hole => exact ⟨fun c X W x K q => nope q, fun c X W x K q => nope q, fun c X W op es pos K q => nope q, fun c X W op es pos K q => nope q, fun c X W es K q => nope q, fun c X W tg x K q => nope q, fun c X W x K q => by
      cases x with
      | none => exact d_noPart
      | some e => cases q⟩
  | lset a ih =>
    refine .of rfl rfl fun c X W x K q => ?_
    split at q
    · simp only [Bool.and_eq_true, decide_eq_true_eq] at q
      obtain ⟨⟨⟨⟨⟨q1, q2⟩, q3⟩, q4⟩, q5⟩, q6⟩ := q
      subst q2 q4
      obtain ⟨g1, g2⟩ := K.glb q1
      obtain ⟨g3, g4⟩ := K.glb q3
      exact d_lset K.calm (by have := K.hu; omega) g1 (K.free1 (x := "len") (by decide)) g3 (K.free1 (x := "set") (by decide)) (ih.e c X W _ K q6) (star_of q5)
    · cases q
  | tupz a b iha ihb =>
    refine .of rfl rfl fun c X W x K q => ?_
    split at q
    · simp only [Bool.and_eq_true, decide_eq_true_eq] at q
      obtain ⟨⟨⟨⟨⟨⟨⟨q1, q2⟩, q3⟩, q4⟩, q5⟩, q6⟩, q7⟩, q8⟩ := q
      subst q2 q4
      obtain ⟨g1, g2⟩ := K.glb q1
      obtain ⟨g3, g4⟩ := K.glb q3
      exact d_tupZ K.calm g1 (K.free1 (x := "tuple") (by decide)) g3 (K.free1 (x := "zip") (by decide)) (iha.e c X W _ K q7) (ihb.e c X W _ K q8) (star_of q5) (star_of q6) (plain_star (by simp [q6])) rfl
    · cases q
  | srev a ih =>
    refine .of rfl rfl fun c X W x K q => ?_
    split at q
    · exact d_srev (ih.e c X W _ K q)
    · cases q
end
end PP
namespace PP
open PySem PySem.Spec PyProof.Rows L2
structure FnAtH (X : Cx) (C : Ex → Addr) (x : Str) (sp : SpD) : Prop where
  ex : ∃ (f : Addr) (fd : FuncData) (ps : List Str) (k : Nat), X.mg x = some (.ref f) ∧ PySem.W.keepIn X.K (.ref f) = true ∧ Binds X.K fd ps [] ∧ FnHF X.prog X.w X.K X.mg X.base k f fd ps (liftSp X.K C sp) ∧ L2H.RoomH k X.A
def dTryf (ns : List Ex) (x : Ex) (i j : Nat) (sp : SpD) (t : DTS) : DTS := fun E env g =>
  t { E with ex := fun n env' g' => n ∈ ns ∧ (n.sub x = true → i < env'.length ∧ sp [.exc n] g' (fun d g'' => E.nx (((env'.set i (some (.exc n))).set j (some d)).set i none) g'') (fun _ _ => False)) ∧ (n.sub x = false → E.ex n env' g') } env g
section
variable {X : Cx} {C : Ex → Addr} {W : WX} {pos : Pos}
theorem d_tryf {ns : List Ex} {x : Ex} {i j : Nat} {n z fx : Str} {t : DTS} {sp : SpD} {body : List Stmt} {np pos' zp fp ap cp sps : Pos} (hs : X.stack = X.env :: X.outer) (hf : X.env.frame = some X.env.locals) (hex : X.ex = []) (hN : X.N.Nodup) (hi : X.N[i]? = some n) (hln : X.env.kindOf n = some .local)
    (hx : ExN X.K X.mg C x) (hg : Gl X x.nm) (hdb : (Str.ofString x.nm == ("__debug__" : Str)) = false) (hns : ∀ n ∈ ns, ExN X.K X.mg C n) (tk : L2N.Takes X W)
    (hb : ∀ (W' : WX) (pn : List (Addr × Obj)) (xe : Value → Shared → Prop), L2N.Takes (X.tr pn xe) W' → PassesOwn (model X.prog X.w) X.A X.env xe → PSs (X.tr pn xe) body (upS X.K C W' t))
    (hj : X.N[j]? = some z) (hlz : X.env.scope.names.lookup z = some .local) (hv : Vis X.env.scope n) (hd1 : (n == ("__debug__" : Str)) = false) (hd2 : (n == ("__classdict__" : Str)) = false)
    (F : FnAtH X C fx sp) (hgf : Gl X fx) (hdf : (fx == ("__debug__" : Str)) = false) :
    PS X (.Try body [.ExceptHandler (some (.Name x.nm np)) (some n) [.Assign [.Name z zp] (.Call (.Name fx fp) [.Name n ap] [] cp) sps] pos'] [] [] pos) (upS X.K C W (dTryf ns x i j sp t)) := by
  obtain ⟨f, fd, ps, k, f1, f2, f3, f4, f5⟩ := F.ex
  refine ps_imp (ps_try_fz (tb := fun W' => upS X.K C W' t) (ts := fun a => tSeq (tAsg (fun σ H Q => tCons (tVar i) tNil σ H fun vs H1 => (∃ b, Fro (X.suite a []).A H1 b) ∧ liftSp X.K C sp vs H1 Q fun _ _ _ => False) (gName j)) tNext) hs hf hex hN hi hln (c := .ref (C x)) ⟨hg, hdb, .inl hx.mg⟩ tk hb fun a pn => ?_) fun D σ H ⟨env, g, E, re, rg, q, cn, cr, cx⟩ => ?_
  · refine pss_cons (X := X.suite a pn) (ps_set (X := X.suite a pn) hN hj (.inl hlz) ?_ rfl (.inr hlz)) pss_nil
    exact peF_call (X := X.suite a pn) f4 ⟨f5.dp, f5.un⟩ hgf f1 f2 f3 (pa_cons (pe_var (X := X.suite a pn) hi hv hd1 hd2) pa_nil rfl) hdf rfl rfl
  refine ⟨env, g, _, re, rg, q, cn, cr, fun m env' g' σ' H' ⟨hm, h1, h2⟩ k re' rg' => ?_⟩
  have N := hns m hm
  refine ⟨m.sub x, N.k.exm x _ hx.ns, fun hb a oe na hc hd hf => ?_, fun hb => cx _ _ _ _ _ (h2 hb) k re' rg'⟩
  have kn := TK.new (o := .frz oe excU) na
  have hf' := hf
  obtain ⟨vs, hf1, hf2⟩ := hf'
  have rep : Rep X.K (upd H' a (.frz oe excU)) (.exc m) (.ref a) := ⟨a, rfl, oe, excU, C m, upd_same, hc, hd, hf, N.ns, N.k⟩
  obtain ⟨hl, h1⟩ := h1 hb
  have hl2 : i < σ'.length := by rw [← re'.1]; exact hl
  refine ⟨V.ref a, by rw [List.getElem?_set_self hl2], ⟨a, rfl, oe, vs, upd_same, hf1, hf2⟩, ?_⟩
  refine ⟨[.exc m], g', _, _, ⟨_, _, rfl, rep, rfl⟩, rg'.tup na, h1, fun d2 g2 v2 H2 q2 k2 r1 r2 => ?_, fun _ _ _ z => z.elim, (re'.keep kn).2.2⟩
  have w0 := (((re'.keep kn).set (i := i) rep).keep k2).set (i := j) r2
  have w := RepE.wipe w0 [i]
  exact cn _ _ _ _ q2 ((k.trans kn).trans k2) w r1
end
end PP
namespace PP
open PySem PySem.Spec PyProof.Rows L2
inductive SX where
  | nil
  | asg (tg : TgD) (e : PX) (r : SX)
  | par (i j : Nat) (a b : PX) (r : SX)
  | put (o i e : PX) (r : SX)
  | expr (e : PX) (r : SX)
  | ret (e : PX) (r : SX)
  | retN (r : SX)
  | ite (c : PX) (t u r : SX)
  | whl (c : PX) (t r : SX)
  | for_ (tg : TgD) (it : PX) (t r : SX)
  | raise (n : Ex) (r : SX)
  | try_ (ns : List Ex) (x : Ex) (i j : Nat) (t r : SX)
  | tryf (ns : List Ex) (x : Ex) (i j f : Nat) (t r : SX)
  | fset (o e : PX) (r : SX)
  | tryn (ns : List Ex) (x : Ex) (j : Nat) (d : Option Bool) (t r : SX)
  | tryu (ns : List Ex) (x : Ex) (t r : SX)
def mnS (Γ : Nat → SpD) (gl : Nat → D) : SX → DTS
  | .nil => dNop
  | .asg tg e r => dSeq (dAsg tg (mn Γ gl e).e) (mnS Γ gl r)
  | .par i j a b r => dSeq (dPar i j (mn Γ gl a).e (mn Γ gl b).e) (mnS Γ gl r)
  | .put o i e r => dSeq (dPut (mn Γ gl o).e (mn Γ gl i).e (mn Γ gl e).e) (mnS Γ gl r)
  | .expr e r => dSeq (dExpr (mn Γ gl e).e) (mnS Γ gl r)
  | .ret e r => dSeq (dRet (mn Γ gl e).e) (mnS Γ gl r)
  | .retN r => dSeq dRetN (mnS Γ gl r)
  | .ite c t u r => dSeq (dIf (mn Γ gl c).t (mnS Γ gl t) (mnS Γ gl u)) (mnS Γ gl r)
  | .whl c t r => dSeq (dWhile (mn Γ gl c).t (mnS Γ gl t)) (mnS Γ gl r)
  | .for_ tg it t r => dSeq (dFor (mn Γ gl it).i tg (mnS Γ gl t)) (mnS Γ gl r)
  | .raise n r => dSeq (dRaise n) (mnS Γ gl r)
  | .try_ ns x i j t r => dSeq (dTry ns x i (mnS Γ gl t) (dSeq (dAsg (.n j) (dVar i)) dNop)) (mnS Γ gl r)
  | .tryf ns x i j f t r => dSeq (dTryf ns x i j (Γ f) (mnS Γ gl t)) (mnS Γ gl r)
  | .fset o e r => dSeq (dFset (mn Γ gl o).e (mn Γ gl e).e) (mnS Γ gl r)
  | .tryn ns x j d t r => dSeq (dTryn ns x j (conD d) (mnS Γ gl t)) (mnS Γ gl r)
  | .tryu ns x t r => dSeq (dTryu ns x (mnS Γ gl t)) (mnS Γ gl r)
def fnK (c : Ck) : Bool := match c.sc.kind with | .function => true | _ => false
def parK (c : Ck) (i j : Nat) (x y : Str) (px py : Pos) (a b : Expr) : Bool :=
  fnK c && decide (c.N[i]? = some x) && decide (c.N[j]? = some y) && decide (i ≠ j) && c.loc x && c.loc y && decide (x ≠ y) && decide (px.line = py.line) && noStar a && noStar b && !([a, b].all (foldedForSure 8)) && !([a, b].all (constantsAlone 8))
def selfK (c : Ck) (x : Str) (p : Pos) (scope : Scope) (pos : Pos) : Bool :=
  fnK c && c.loc x && (p.line == pos.line) && !(scope.names.any fun (n, k) => n == x && (k == .local || k == .cell))
def celK (c : Ck) (x : Str) : Bool := match c.sc.names.lookup x with | some .cell => true | _ => false
def compE (c : Ck) (own : List Nat) (tg : TgD) (it tst e : PX) : Expr → Bool := (kn (.comp own tg it tst e)).e c
def stoTup : Expr → Bool
  | .Tuple vs _ _ => vs.all (foldedForSure 8)
  | _ => true
def celT (c : Ck) : List Expr → Bool
  | .Name x _ :: _ => celK c x
  | _ => false
def asgK (c : Ck) (tg : TgD) (e : PX) : Expr → Expr → Bool
  | .Name x p, .ListComp elt gs scope pos => ((match tg with | .n i => decide (c.N[i]? = some x) | _ => false) && selfK c x p scope pos && (match e with | .comp own t2 it tst el => compE c own t2 it tst el (.ListComp elt gs scope pos) | _ => false))
      || (celK c x && tgOk c tg (.Name x p) && (kn e).e c (.ListComp elt gs scope pos))
  | .Name x p, v => noComp v && tgOk c tg (.Name x p) && (kn e).e c v
  | .Tuple es k p, v => (stoTup v || celT c es) && tgOk c tg (.Tuple es k p) && (kn e).e c v
  | _, _ => false
def subOk : Expr → Bool
  | .Slice _ _ _ _ => false
  | .Starred _ _ => false
  | .Tuple _ _ _ => false
  | _ => true
def knS : SX → Ck → List Stmt → Bool
  | .nil => fun c ss => ss.isEmpty
  | .asg tg e r => fun c ss => match ss with | .Assign [t] v _ :: ss => asgK c tg e t v && knS r c ss | _ => false
  | .par i j a b r => fun c ss => match ss with | .Assign [.Tuple [.Name x px, .Name y py] _ _] (.Tuple [u, v] _ _) _ :: ss => parK c i j x y px py u v && (kn a).e c u && (kn b).e c v && knS r c ss | _ => false
  | .put o i e r => fun c ss => match ss with | .Assign [.Subscript a b _] v _ :: ss => subOk b && (kn o).e c a && (kn i).e c b && (kn e).e c v && knS r c ss | _ => false
  | .expr e r => fun c ss => match ss with | .Expr v _ :: ss => noComp v && (kn e).e c v && knS r c ss | _ => false
  | .ret e r => fun c ss => match ss with | .Return (some v) _ :: ss => (kn e).e c v && knS r c ss | _ => false
  | .retN r => fun c ss => match ss with | .Return none _ :: ss => knS r c ss | _ => false
  | .ite k t u r => fun c ss => match ss with | .If v a b _ :: ss => (kn k).t c v && knS t c a && knS u c b && knS r c ss | _ => false
  | .whl k t r => fun c ss => match ss with | .While v a [] _ :: ss => (kn k).t c v && knS t c a && knS r c ss | _ => false
  | .for_ tg it t r => fun c ss => match ss with | .For x v a [] _ :: ss => noSet v && tgOk c tg x && (kn it).i c x v && knS t c a && knS r c ss | _ => false
  | .raise n r => fun c ss => match ss with | .Raise (some (.Call (.Name x _) [.Constant (.str _) _ _] [] _)) none _ :: ss => decide (x = Str.ofString n.nm) && c.gl x && c.exs.contains n && knS r c ss | _ => false
  | .try_ ns x i j t r => fun c ss => match ss with
    | .Try b [.ExceptHandler (some (.Name y _)) (some nm) [.Assign [.Name z _] (.Name z2 _) _] _] [] [] _ :: ss =>
      decide (y = Str.ofString x.nm) && c.gl y && decide (c.N[i]? = some nm) && c.loc nm && decide (z2 = nm) && c.vis nm && decide (c.N[j]? = some z) && c.loc z && (ns.all fun n => c.exs.contains n) && c.exs.contains x && knS t c b && knS r c ss
    | _ => false
  | .tryf ns x i j f t r => fun c ss => match ss with
    | .Try b [.ExceptHandler (some (.Name y _)) (some nm) [.Assign [.Name z _] (.Call (.Name fx _) [.Name z2 _] [] _) _] _] [] [] _ :: ss =>
      decide (y = Str.ofString x.nm) && c.gl y && decide (c.N[i]? = some nm) && c.loc nm && decide (z2 = nm) && c.vis nm && decide (c.N[j]? = some z) && c.loc z && (ns.all fun n => c.exs.contains n) && c.exs.contains x && knS t c b && knS r c ss && decide (c.hot.lookup f = some fx) && c.gl fx
    | _ => false
  | .fset o e r => fun c ss => match ss with | .Assign [.Attribute x n _] v _ :: ss => c.obj && decide (n = atrN) && noComp v && (kn o).e c x && (kn e).e c v && knS r c ss | _ => false
  | .tryn ns x j d t r => fun c ss => match ss with
    | .Try b [.ExceptHandler (some (.Name y _)) none [.Assign [.Name z _] e _] _] [] [] _ :: ss =>
      decide (y = Str.ofString x.nm) && c.gl y && decide (c.N[j]? = some z) && c.loc z && conE d e && (ns.all fun n => c.exs.contains n) && c.exs.contains x && knS t c b && knS r c ss
    | _ => false
  | .tryu ns x t r => fun c ss => match ss with
    | .Try b [.ExceptHandler (some (.Name y _)) none (_ :: _) _] [] [] _ :: ss =>
      decide (y = Str.ofString x.nm) && c.gl y && (ns.all fun n => c.exs.contains n) && c.exs.contains x && knS t c b && knS r c ss
    | _ => false
structure SCtx (c : Ck) (Γ : Nat → SpD) (gl : Nat → D) (C : Ex → Addr) (W : WX) (X : Cx) : Prop extends Ctx c Γ gl C W X where
  own : PassesOwn (model X.prog X.w) X.A X.env X.xe
  exs : ∀ n ∈ c.exs, ExAt X C n
  stkE : X.stack = X.env :: X.outer
  frm : X.env.frame = some X.env.locals
  ex : X.ex = []
  hot : ∀ i x, c.hot.lookup i = some x → FnAtH X C x (Γ i)
section
variable {Γ : Nat → SpD} {gl : Nat → D} {C : Ex → Addr} {c : Ck} {X : Cx} {W : WX}
theorem fn_of (K : Ctx c Γ gl C W X) (h : fnK c = true) : X.env.scope.kind = .function := by
  unfold fnK at h
  rw [K.sc]
  split at h
  · assumption
  · cases h
theorem loc_of (K : Ctx c Γ gl C W X) {x : Str} (h : c.loc x = true) : X.env.scope.names.lookup x = some .local := by
  unfold Ck.loc at h
  rw [K.sc]
  split at h
  · assumption
  · cases h
theorem par_of (K : Ctx c Γ gl C W X) {i j : Nat} {x y : Str} {px py : Pos} {a b : Expr} {kt k2 : Nat} {pt pt2 : Pos} (h : parK c i j x y px py a b = true) :
    swappedStores [.Tuple [.Name x px, .Name y py] kt pt] (.Tuple [a, b] k2 pt2) X.env = pure (some [x, y]) := by
  unfold parK at h
  simp only [Bool.and_eq_true, decide_eq_true_eq, Bool.not_eq_true'] at h
  obtain ⟨⟨⟨⟨⟨⟨⟨⟨⟨⟨⟨h1, h2⟩, h3⟩, h4⟩, h5⟩, h6⟩, h7⟩, h8⟩, h9⟩, h10⟩, h11⟩, h12⟩ := h
  have kx : X.env.kindOf x = some .local := loc_of K h5
  have ky : X.env.kindOf y = some .local := loc_of K h6
  have hb : X.env.blockKind = .function := by unfold Env.blockKind; rw [fn_of K h1]; rfl
  have s1 : ([a, b].any fun | .Starred .. => true | _ => false) = false := by
    have z : ∀ {e : Expr}, noStar e = true → (match e with | .Starred .. => true | _ => false) = false := by
      intro e h
      cases e <;> first | rfl | cases h
    simp only [List.any_cons, List.any_nil, Bool.or_false]
    rw [z h9, z h10]
    rfl
  have hxy : (x == y) = false := by simpa using h7
  have hyx : (y == x) = false := by simpa using fun e => h7 (Eq.symm e)
  have he : [x, y].eraseDups = [x, y] := by
    simp [List.eraseDups_cons, hyx]
  unfold swappedStores
  simp only [s1, hb, List.filterMap_cons, List.filterMap_nil, kx, ky, List.head?, Option.map, Option.getD, Expr.pos, h8, h11, h12, beq_self_eq_true, Bool.true_and, if_true, he, List.length_cons, List.length_nil]
  have s2 := Bool.eq_false_iff.mp s1
  refine (if_neg (by decide)).trans ((if_neg s2).trans ?_)
  rfl
theorem sw_other {e : Expr} {t : Option Expr} {l : Nat} {env : PySem.Env} (h : noComp e = true) : swapsWith e t l env = pure false := by
  cases e <;> first | rfl | cases h
theorem sws_other {e t : Expr} {l : Nat} {env : PySem.Env} (h : noComp e = true) : swapsWithSole [t] e l env = pure false := sw_other (t := some t) h
theorem sws_cell {x : Str} {p pos : Pos} {elt : Expr} {gs : List Comprehension} {scope : Scope} {l : Nat} {env : PySem.Env} (h : env.scope.names.lookup x = some .cell) : swapsWithSole [.Name x p] (.ListComp elt gs scope pos) l env = pure false := by
  have ky : env.kindOf x = some .cell := h
  show swapsWith (.ListComp elt gs scope pos) (some (.Name x p)) l env = pure false
  unfold swapsWith
  simp only [ky, Bool.and_false, Bool.false_and, show (some NameKind.cell == some NameKind.local) = false from rfl]
theorem cel_of (K : Ctx c Γ gl C W X) {x : Str} (h : celK c x = true) : X.env.scope.names.lookup x = some .cell := by
  unfold celK at h
  rw [K.sc]
  split at h
  · assumption
  · cases h
theorem sto_other {x : Str} {p : Pos} {v : Expr} {env : PySem.Env} : swappedStores [.Name x p] v env = pure none := by
  cases v <;> rfl
theorem sto_tup {es : List Expr} {k : Nat} {p : Pos} {v : Expr} {env : PySem.Env} (h : stoTup v = true) : swappedStores [.Tuple es k p] v env = pure none := by
  cases v with
  | Tuple vs k2 p2 =>
    have h : vs.all (foldedForSure 8) = true := h
    unfold swappedStores
    simp only [h, if_true]
    repeat (first | rfl | split)
  | _ => rfl
theorem fm_ne {α β : Type} {f : α → Option β} {a : α} {l : List α} (h : f a = none) : ((a :: l).filterMap f).length ≠ (a :: l).length := by
  rw [List.filterMap_cons_none h]
  have := List.length_filterMap_le f l
  rw [List.length_cons]
  omega
theorem sto_cel {x : Str} {p : Pos} {es : List Expr} {k : Nat} {pos : Pos} {v : Expr} {env : PySem.Env} (h : env.scope.names.lookup x = some .cell) : swappedStores [.Tuple (.Name x p :: es) k pos] v env = pure none := by
  have hk : (env.kindOf x == some NameKind.local) = false := by
    show (env.scope.names.lookup x == some NameKind.local) = false
    rw [h]; rfl
  cases v with
  | Tuple vs k2 p2 =>
    unfold swappedStores
    dsimp only
    split
    · rfl
    · split
      · rfl
      · split
        · rfl
        · rename_i hh
          exfalso
          simp only [Bool.or_eq_true, bne_iff_ne, ne_eq, not_or, Decidable.not_not] at hh
          refine fm_ne ?_ hh.1
          show (if (env.kindOf x == some NameKind.local && _) = true then some x else none) = none
          rw [hk, Bool.false_and]
          rfl
  | _ => rfl
theorem sto_sub {a b : Expr} {p : Pos} {v : Expr} {env : PySem.Env} : swappedStores [.Subscript a b p] v env = pure none := by
  cases v <;> rfl
theorem sw_tup {es : List Expr} {k : Nat} {p : Pos} {v : Expr} {l : Nat} {env : PySem.Env} : swapsWithSole [.Tuple es k p] v l env = pure false := by
  cases v <;> rfl
theorem sw_sub {a b : Expr} {p : Pos} {v : Expr} {l : Nat} {env : PySem.Env} : swapsWithSole [.Subscript a b p] v l env = pure false := by
  cases v <;> rfl
theorem comp_parts (K : Ctx c Γ gl C W X) {own : List Nat} {tg : TgD} {it tst e : PX} {elt : Expr} {gs : List Comprehension} {scope : Scope} {pos : Pos} (q : (kn (.comp own tg it tst e)).e c (.ListComp elt gs scope pos) = true) :
    ∃ (tgE iter : Expr) (ifs : List Expr) (ow : List (Str × Nat)), gs = [⟨tgE, iter, ifs, 0⟩] ∧ ow.map (·.2) = own ∧ PI X tgE iter (upI X.K C W (mn Γ gl it).i) ∧ BlkOk X.N X.env.scope scope ow ∧
    (∀ (s : Shared) (H : Hp) (A : Addr) (cl : List (Str × Addr)) (fp : List Addr), PG (X.blk s H scope (compEnvC scope cl A X.env) fp) tgE (gUp X.K tg)) ∧
    (∀ (s : Shared) (H : Hp) (A : Addr) (cl : List (Str × Addr)) (fp : List Addr), PTs (X.blk s H scope (compEnvC scope cl A X.env) fp) ifs (upT X.K C W0 (mn Γ gl tst).t)) ∧
    (∀ (s : Shared) (H : Hp) (A : Addr) (cl : List (Str × Addr)) (fp : List Addr), PE (X.blk s H scope (compEnvC scope cl A X.env) fp) elt (up X.K C W0 (mn Γ gl e).e)) ∧
    (∀ x, foldedSetIterable iter X.env x = pure x) ∧ ∀ i ∈ tg.slots, i ∈ ow.map (·.2) := by
  unfold kn at q
  dsimp only [Kn.of] at q
  split at q
  · rename_i elt' tgE iter ifs scope' pos' z
    cases z
    simp only [Bool.and_eq_true] at q
    obtain ⟨⟨⟨⟨⟨⟨q1, q2⟩, q3⟩, q4⟩, q5⟩, q6⟩, q7⟩ := q
    have eo : (own.map fun i => (c.N.getD i "", i)).map (·.2) = own := by
      rw [List.map_map]
      exact List.map_id _
    refine ⟨tgE, iter, ifs, own.map fun i => (c.N.getD i "", i), rfl, eo, (sound it).i c X W tgE iter K q5, (by rw [K.N, K.sc]; exact blkOk_by q1), fun s H A cl fp => tg_of (K.blk scope s H A cl fp) q3, fun s H A cl fp => ?_, fun s H A cl fp => (sound e).e _ _ W0 _ (K.blk scope s H A cl fp) q6, set_of q4, ?_⟩
    · split at q7
      · exact ⟨fun pins s σ H Q I ⟨env, g, Xd, Qd, re, rg, t, cl, cx⟩ => (pts_nil (X := X.blk _ _ scope (compEnvC scope _ _ X.env) _)).run pins s σ H Q I (cl _ _ _ t (.refl _) rg)⟩
      · cases q7
      · exact pts_one ((sound tst).t _ _ W0 _ (K.blk scope s H A cl fp) q7)
      · cases q7
    · intro i hi
      rw [eo]
      have := List.all_eq_true.mp q2 i hi
      simpa using this
  · cases q
theorem asg_of (K : Ctx c Γ gl C W X) {tg : TgD} {e : PX} {t v : Expr} {pos : Pos} (h : asgK c tg e t v = true) : PS X (.Assign [t] v pos) (upS X.K C W (dAsg tg (mn Γ gl e).e)) := by
  unfold asgK at h
  split at h
  · rename_i x p elt gs scope pos'
    simp only [Bool.and_eq_true, Bool.or_eq_true] at h
    rcases h with h | h
    case inr => exact s_asg ((sound e).e c X W _ K h.2) (tg_of K h.1.2) (sws_cell (cel_of K h.1.1)) sto_other rfl
    obtain ⟨⟨h1, h2⟩, h3⟩ := h
    split at h1
    · rename_i i
      have h1 := of_decide_eq_true h1
      split at h3
      · rename_i own t2 it tst el
        obtain ⟨tgE, iter, ifs, ow, rfl, rfl, p1, p2, p3, p4, p5, p6, p7⟩ := comp_parts K h3
        unfold selfK at h2
        simp only [Bool.and_eq_true, Bool.not_eq_true'] at h2
        obtain ⟨⟨⟨a1, a2⟩, a3⟩, a4⟩ := h2
        exact s_setLc K.calm K.nd (by rw [K.N]; exact h1) (loc_of K a2) (sw_true (fn_of K a1) (loc_of K a2) a3 a4) p1 p2 p3 p4 p5 p6 p7
      · cases h3
    · cases h1
  · simp only [Bool.and_eq_true] at h
    exact s_asg ((sound e).e c X W _ K h.2) (tg_of K h.1.2) (sws_other h.1.1) sto_other rfl
  · rename_i es k p v
    simp only [Bool.and_eq_true] at h
    refine s_asg ((sound e).e c X W _ K h.2) (tg_of K h.1.2) sw_tup ?_ rfl
    rcases (Bool.or_eq_true _ _).mp h.1.1 with h1 | h1
    · exact sto_tup h1
    · unfold celT at h1
      split at h1
      · exact sto_cel (cel_of K h1)
      · cases h1
  · cases h
theorem sub_of {a b : Expr} {p : Pos} {env : PySem.Env} (h : subOk b = true) : ∀ v, assign (.Subscript a b p) env v = (do
      let ov ← holding [v] (eval a env)
      let iv ← holding [v, ov] (eval b env)
      standAt p
      holding [v, ov, iv] (setItem ov iv v)
      release [v, ov, iv] []) := by
  intro v
  cases b <;> first | rfl | cases h
theorem SCtx.tr (K : SCtx c Γ gl C W X) {W' : WX} {pn : List (Addr × Obj)} {xe : Value → Shared → Prop} (tk : L2N.Takes (X.tr pn xe) W') (po : PassesOwn (model X.prog X.w) X.A X.env xe) : SCtx c Γ gl C W' (X.tr pn xe) where
  N := K.N
  nd := K.nd
  sc := K.sc
  calm := K.calm
  stk := ⟨K.stk.seer, K.stk.tree, K.stk.room, K.stk.stk⟩
  hfn := K.hfn
  fns := fun i x h => by
    obtain ⟨ps, f, fd, k, h1, h2, h3, h4, h5⟩ := K.fns i x h
    exact ⟨ps, f, fd, k, h1, h2, h3, h4, h5⟩
  gls := K.gls
  free := K.free
  exn := K.exn
  tk := tk
  lam := fun z h => by
    have q := K.lam z h
    cases z with
    | r x =>
      obtain ⟨a, b, c⟩ := q
      exact ⟨a, ⟨b.ex⟩, c⟩
    | q x =>
      obtain ⟨b, c⟩ := q
      exact ⟨⟨b.ex⟩, c⟩
    | a i x j =>
      obtain ⟨f, L, h1, h2⟩ := q
      exact ⟨f, L, h1, fun pn' xe' => h2 pn' xe'⟩
  dsk := K.dsk.same rfl rfl rfl rfl rfl fun _ h => h
  own := po
  exs := fun n hn => ⟨(K.exs n hn).mg, (K.exs n hn).keep, (K.exs n hn).own, (K.exs n hn).raises⟩
  stkE := K.stkE
  frm := K.frm
  ex := K.ex
  hot := fun i x h => by
    obtain ⟨f, fd, ps, k, h1, h2, h3, h4, h5⟩ := (K.hot i x h).ex
    exact ⟨f, fd, ps, k, h1, h2, h3, h4, h5⟩
theorem vis_of (K : Ctx c Γ gl C W X) {x : Str} (h1 : c.vis x = true) : Vis X.env.scope x ∧ (x == ("__debug__" : Str)) = false ∧ (x == ("__classdict__" : Str)) = false := by
  unfold Ck.vis at h1
  simp only [Bool.and_eq_true] at h1
  refine ⟨?_, by simpa using h1.1.2, by simpa using h1.2⟩
  unfold Vis
  rw [K.sc]
  have h3 := h1.1.1
  split at h3
  · exact .inl (by assumption)
  · exact .inr (.inl (by assumption))
  · exact .inr (.inr (by assumption))
  · cases h3
theorem soundS : ∀ (sx : SX) (c : Ck) (X : Cx) (W : WX) (ss : List Stmt), SCtx c Γ gl C W X → knS sx c ss = true → PSs X ss (upS X.K C W (mnS Γ gl sx)) := by
  intro sx
  induction sx with
  | nil =>
    intro c X W ss K h
    cases ss with
    | nil => exact s_nil
    | cons s ss => cases h
  | asg tg e r ih =>
    intro c X W ss K h
    unfold knS at h
    split at h
    · rw [Bool.and_eq_true] at h
      exact s_cons (asg_of K.toCtx h.1) (ih c X W _ K h.2)
    · cases h
  | par i j a b r ih =>
    intro c X W ss K h
    unfold knS at h
    split at h
    · simp only [Bool.and_eq_true] at h
      obtain ⟨⟨⟨h1, h2⟩, h3⟩, h4⟩ := h
      have hw := fun k2 pt2 kt pt => par_of (kt := kt) (pt := pt) (k2 := k2) (pt2 := pt2) K.toCtx h1
      unfold parK at h1
      simp only [Bool.and_eq_true, decide_eq_true_eq, Bool.not_eq_true'] at h1
      obtain ⟨⟨⟨⟨⟨⟨⟨⟨⟨⟨⟨a1, a2⟩, a3⟩, a4⟩, a5⟩, a6⟩, a7⟩, a8⟩, a9⟩, a10⟩, a11⟩, a12⟩ := h1
      exact s_cons (s_par K.calm K.nd (by rw [K.N]; exact a2) (by rw [K.N]; exact a3) a4 (loc_of K.toCtx a5) (loc_of K.toCtx a6) ((sound a).e c X W _ K.toCtx h2) ((sound b).e c X W _ K.toCtx h3) (star_of a9) (star_of a10) (hw _ _ _ _) sw_tup) (ih c X W _ K h4)
    · cases h
  | put o i e r ih =>
    intro c X W ss K h
    unfold knS at h
    split at h
    · simp only [Bool.and_eq_true] at h
      obtain ⟨⟨⟨⟨h1, h2⟩, h3⟩, h4⟩, h5⟩ := h
      refine s_cons (s_sub (by have := K.toCtx.hu; omega) ((sound o).e c X W _ K.toCtx h2) ((sound i).e c X W _ K.toCtx h3) ((sound e).e c X W _ K.toCtx h4) ?_ sw_sub sto_sub rfl) (ih c X W _ K h5)
      exact sub_of h1
    · cases h
  | expr e r ih =>
    intro c X W ss K h
    unfold knS at h
    split at h
    · simp only [Bool.and_eq_true] at h
      exact s_cons (s_expr ((sound e).e c X W _ K.toCtx h.1.2) (sw_other h.1.1)) (ih c X W _ K h.2)
    · cases h
  | ret e r ih =>
    intro c X W ss K h
    unfold knS at h
    split at h
    · simp only [Bool.and_eq_true] at h
      exact s_cons (s_ret ((sound e).e c X W _ K.toCtx h.1)) (ih c X W _ K h.2)
    · cases h
  | retN r ih =>
    intro c X W ss K h
    unfold knS at h
    split at h
    · exact s_cons s_retN (ih c X W _ K h)
    · cases h
  | ite k t u r ih1 ih2 ih =>
    intro c X W ss K h
    unfold knS at h
    split at h
    · simp only [Bool.and_eq_true] at h
      obtain ⟨⟨⟨h1, h2⟩, h3⟩, h4⟩ := h
      exact s_cons (s_if ((sound k).t c X W _ K.toCtx h1) (ih1 c X W _ K h2) (ih2 c X W _ K h3)) (ih c X W _ K h4)
    · cases h
  | whl k t r ih1 ih =>
    intro c X W ss K h
    unfold knS at h
    split at h
    · simp only [Bool.and_eq_true] at h
      obtain ⟨⟨h1, h2⟩, h4⟩ := h
      exact s_cons (s_while K.own ((sound k).t c X W _ K.toCtx h1) (ih1 c X W _ K h2)) (ih c X W _ K h4)
    · cases h
  | for_ tg it t r ih1 ih =>
    intro c X W ss K h
    unfold knS at h
    split at h
    · simp only [Bool.and_eq_true] at h
      obtain ⟨⟨⟨⟨h0, h1⟩, h2⟩, h3⟩, h4⟩ := h
      exact s_cons (s_for K.own K.calm ((sound it).i c X W _ _ K.toCtx h2) (tg_of K.toCtx h1) (ih1 c X W _ K h3) (set_of h0)) (ih c X W _ K h4)
    · cases h
  | raise n r ih =>
    intro c X W ss K h
    unfold knS at h
    split at h
    · simp only [Bool.and_eq_true, decide_eq_true_eq] at h
      obtain ⟨⟨⟨h0, h1⟩, h2⟩, h3⟩ := h
      subst h0
      obtain ⟨g1, g2⟩ := K.glb h1
      exact s_cons (s_raise K.calm K.tk (K.exs n (by simpa using h2)) g1 g2) (ih c X W _ K h3)
    · cases h
  | try_ ns x i j t r ih1 ih =>
    intro c X W ss K h
    unfold knS at h
    split at h
    · rename_i b y np nm z zp z2 z2p ap hp tp ss'
      simp only [Bool.and_eq_true, decide_eq_true_eq] at h
      obtain ⟨⟨⟨⟨⟨⟨⟨⟨⟨⟨⟨h1, h2⟩, h3⟩, h4⟩, h5⟩, h6⟩, h7⟩, h8⟩, h9⟩, h10⟩, h11⟩, h12⟩ := h
      subst h1 h5
      obtain ⟨g1, g2⟩ := K.glb h2
      obtain ⟨v1, v2, v3⟩ := vis_of K.toCtx h6
      have N := K.N
      refine s_cons (d_try K.stkE K.frm K.ex K.nd (by rw [N]; exact h3) (loc_of K.toCtx h4) (K.exn x (by simpa using h10)) g1 g2 (fun n hn => K.exn n (by simpa using List.all_eq_true.mp h9 n hn)) K.tk (fun W' pn xe tk po => ih1 c (X.tr pn xe) W' b (K.tr tk po) h11) fun a pn => ?_) (ih c X W _ K h12)
      exact s_cons (X := X.suite a pn) (s_set (X := X.suite a pn) K.nd (by rw [show (X.suite a pn).N = c.N from N]; exact h7) (.inl (loc_of K.toCtx h8)) (d_var (X := X.suite a pn) (by rw [show (X.suite a pn).N = c.N from N]; exact h3) v1 v2 v3) (sw_other rfl) (.inr (loc_of K.toCtx h8))) s_nil
    · cases h
  | tryf ns x i j f t r ih1 ih =>
    intro c X W ss K h
    unfold knS at h
    split at h
    · rename_i b y np nm z zp fx fp z2 z2p cp ap hp tp ss'
      simp only [Bool.and_eq_true, decide_eq_true_eq] at h
      obtain ⟨⟨⟨⟨⟨⟨⟨⟨⟨⟨⟨⟨⟨h1, h2⟩, h3⟩, h4⟩, h5⟩, h6⟩, h7⟩, h8⟩, h9⟩, h10⟩, h11⟩, h12⟩, h13⟩, h14⟩ := h
      subst h1 h5
      obtain ⟨g1, g2⟩ := K.glb h2
      obtain ⟨g3, g4⟩ := K.glb h14
      obtain ⟨v1, v2, v3⟩ := vis_of K.toCtx h6
      have N := K.N
      exact s_cons (d_tryf K.stkE K.frm K.ex K.nd (by rw [N]; exact h3) (loc_of K.toCtx h4) (K.exn x (by simpa using h10)) g1 g2 (fun n hn => K.exn n (by simpa using List.all_eq_true.mp h9 n hn)) K.tk (fun W' pn xe tk po => ih1 c (X.tr pn xe) W' b (K.tr tk po) h11) (by rw [N]; exact h7) (loc_of K.toCtx h8) v1 v2 v3 (K.hot f _ h13) g3 g4) (ih c X W _ K h12)
    · cases h
  | fset o e r ih =>
    intro c X W ss K h
    unfold knS at h
    split at h
    · simp only [Bool.and_eq_true, decide_eq_true_eq] at h
      obtain ⟨⟨⟨⟨⟨h1, h2⟩, h3⟩, h4⟩, h5⟩, h6⟩ := h
      subst h2
      exact s_cons (s_fset (K.dsk.fld h1) ((sound o).e c X W _ K.toCtx h4) ((sound e).e c X W _ K.toCtx h5) (sw_other h3)) (ih c X W _ K h6)
    · cases h
  | tryn ns x j d t r ih1 ih =>
    intro c X W ss K h
    unfold knS at h
    split at h
    · rename_i b y np z zp e sp hp tp ss'
      simp only [Bool.and_eq_true, decide_eq_true_eq] at h
      obtain ⟨⟨⟨⟨⟨⟨⟨⟨h1, h2⟩, h3⟩, h4⟩, h5⟩, h6⟩, h7⟩, h8⟩, h9⟩ := h
      subst h1
      obtain ⟨g1, g2⟩ := K.glb h2
      have N := K.N
      exact s_cons (d_tryn K.stkE K.frm K.nd (K.exn x (by simpa using h7)) g1 g2 (fun n hn => K.exn n (by simpa using List.all_eq_true.mp h6 n hn)) K.tk (fun W' pn xe tk po => ih1 c (X.tr pn xe) W' b (K.tr tk po) h8) (by rw [N]; exact h3) (loc_of K.toCtx h4) h5) (ih c X W _ K h9)
    · cases h
  | tryu ns x t r ih1 ih =>
    intro c X W ss K h
    unfold knS at h
    split at h
    · rename_i b y np s0 su hp tp ss'
      simp only [Bool.and_eq_true, decide_eq_true_eq] at h
      obtain ⟨⟨⟨⟨⟨h1, h2⟩, h3⟩, h4⟩, h5⟩, h6⟩ := h
      subst h1
      obtain ⟨g1, g2⟩ := K.glb h2
      exact s_cons (d_tryu K.stkE K.frm (K.exn x (by simpa using h4)) g1 g2 (fun n hn => K.exn n (by simpa using List.all_eq_true.mp h3 n hn)) K.tk (fun W' pn xe tk po => ih1 c (X.tr pn xe) W' b (K.tr tk po) h5)) (ih c X W _ K h6)
    · cases h
end
end PP
namespace PP
open PySem PySem.Spec PyProof.Rows L2
structure CtxV (c : Ck) (X : Cx) : Prop where
  N : X.N = c.N
  nd : X.N.Nodup
  sc : X.env.scope = c.sc
  hfn : ∀ x, c.fn x = true → X.fn x = true
structure CtxH (c : Ck) (C : Ex → Addr) (X : Cx) : Prop extends CtxV c X where
  hot : HotF X
  un : X.A.units + 65 < cLine
  free : ∀ x ∈ bltNames, X.mg (Str.ofString x) = none
  exn : ∀ n ∈ c.exs, ExN X.K X.mg C n
structure SndH (Γ : Nat → SpD) (gl : Nat → D) (C : Ex → Addr) (px : PX) : Prop where
  e : ∀ (c : Ck) (X : Cx) (W : WX) (x : Expr), CtxH c C X → (kn px).e c x = true → PE X x (up X.K C W (mn Γ gl px).e)
  t : ∀ (c : Ck) (X : Cx) (W : WX) (x : Expr), CtxH c C X → (kn px).t c x = true → PT X x (upT X.K C W (mn Γ gl px).t)
  w : ∀ (c : Ck) (X : Cx) (W : WX) (op : BoolOp) (es : List Expr) (pos : Pos), CtxH c C X → (kn px).w c op es = true → PW X (.BoolOp op es pos) (upT X.K C W (mn Γ gl px).t)
  ve : ∀ (c : Ck) (X : Cx) (W : WX) (op : BoolOp) (es : List Expr) (pos : Pos), CtxH c C X → (kn px).ve c op es = true → PE X (.BoolOp op es pos) (up X.K C W (mn Γ gl px).e)
  a : ∀ (c : Ck) (X : Cx) (W : WX) (es : List Expr), CtxH c C X → (kn px).a c es = true → PA X es (upA X.K C W (mn Γ gl px).a)
theorem SndH.of {Γ : Nat → SpD} {gl : Nat → D} {C : Ex → Addr} {px : PX} {k : Ck → Expr → Bool} {m : DTE} (hk : kn px = Kn.of k) (hm : mn Γ gl px = Mn.of m) (h : ∀ (c : Ck) (X : Cx) (W : WX) (x : Expr), CtxH c C X → k c x = true → PE X x (up X.K C W m)) : SndH Γ gl C px where
  e := fun c X W x K q => by rw [hk] at q; rw [hm]; exact h c X W x K q
  t := fun c X W x K q => by
    rw [hk] at q; rw [hm]
    have q' : (k c x && tstOk x) = true := q
    rw [Bool.and_eq_true] at q'
    exact t_val (h c X W x K q'.1) (tst_of q'.2)
  w := fun c X W op es pos K q => by
    rw [hk] at q; rw [hm]
    obtain ⟨e, rfl, q'⟩ := one_of (show one (fun e => k c e && tstOk e) es = true from q)
    rw [Bool.and_eq_true] at q'
    have z := t_val (h c X W _ K q'.1) (tst_of q'.2)
    cases op
    · exact t_and1 z
    · exact t_or1 z
  ve := fun c X W op es pos K q => by
    rw [hk] at q; rw [hm]
    obtain ⟨e, rfl, q'⟩ := one_of (show one (k c) es = true from q)
    exact v_one (h c X W _ K q')
  a := fun c X W es K q => by rw [hk] at q; cases q
section
variable {Γ : Nat → SpD} {gl : Nat → D} {C : Ex → Addr} {c : Ck} {X : Cx} {W : WX}
theorem CtxH.glb {x : Str} (K : CtxH c C X) (h : c.gl x = true) : Gl X x ∧ (x == ("__debug__" : Str)) = false := by
  unfold Ck.gl at h
  simp only [Bool.and_eq_true] at h
  obtain ⟨h1, h2⟩ := h
  refine ⟨?_, by simpa using h2⟩
  show X.env.scope.names.lookup x = _
  rw [K.sc]
  split at h1
  · assumption
  · cases h1
end
end PP
namespace PP
open PySem PySem.Spec PyProof.Rows L2
section
variable {Γ : Nat → SpD} {gl : Nat → D} {C : Ex → Addr} {c : Ck} {X : Cx} {W : WX}
theorem CtxV.blk (K : CtxV c X) (scope : Scope) (s : Shared) (H : Hp) (A : Addr) (cl : List (Str × Addr)) (fp : List Addr) :
    CtxV (c.blk scope) (X.blk s H scope (compEnvC scope cl A X.env) fp) where
  N := K.N
  nd := K.nd
  sc := by
    show relS scope X.env.scope = relS scope c.sc
    rw [K.sc]
  hfn := fun x h => h
theorem CtxV.tgt {i : Nat} {x : Str} (K : CtxV c X) (h : c.tgt i x = true) : X.N[i]? = some x ∧ L2.Loc X.env.scope x ∧ (X.fn x = true ∨ X.env.scope.names.lookup x = some .local) := by
  unfold Ck.tgt at h
  simp only [Bool.and_eq_true, decide_eq_true_eq] at h
  obtain ⟨h1, h2⟩ := h
  refine ⟨by rw [K.N]; exact h1, ?_, ?_⟩
  · unfold L2.Loc
    rw [K.sc]
    split at h2
    · exact .inl (by assumption)
    · exact .inr (by assumption)
    · cases h2
  · rw [K.sc]
    split at h2
    · exact .inr (by assumption)
    · exact .inl (K.hfn _ h2)
    · cases h2
end
end PP
namespace PP
open PySem PySem.Spec PyProof.Rows L2
def G.le (g g' : G) : Prop := ∀ a xs, g a = some xs → g' a = some xs
theorem G.le_refl (g : G) : g.le g := fun _ _ h => h
theorem G.le_trans {g g' g'' : G} (a : g.le g') (b : g'.le g'') : g.le g'' := fun _ _ h => b _ _ (a _ _ h)
theorem G.le_up {g g' : G} {p : Addr} {xs : List D} (h : g.le g') (hp : g p = none) : g.le (g'.up p xs) := fun b ys e => by
  unfold G.up
  split
  · rename_i z; subst z; rw [hp] at e; cases e
  · exact h _ _ e
theorem RepG.le {K : PySem.W.Frag} {H : Hp} {g g' : G} (h : RepG K H g') (l : g.le g') : RepG K H g := fun a ds e => h a ds (l a ds e)
def endsOf (Q : QD) (X : XD) : DEnds where
  nx := fun _ g' => ∃ g, g.le g' ∧ Q .non g
  rt := fun d g' => ∃ g, g.le g' ∧ Q d g
  ex := fun n _ g' => ∃ g, g.le g' ∧ X n g
def startD (N : List Str) (ds : List D) : Env := ds.map some ++ List.replicate (N.length - ds.length) none
theorem rep_start {K : PySem.W.Frag} {H : Hp} {N : List Str} {ds : List D} {vs : List V} (h : RepL K H ds vs) (hT : TbOk H) : RepE K H (startD N ds) (L2.start N vs) := by
  have hl := h.length
  refine ⟨by simp [startD, L2.start, hl], fun i d e => ?_, hT⟩
  unfold startD at e
  unfold L2.start
  by_cases hi : i < ds.length
  · rw [List.getElem?_append_left (by simpa using hi)] at e
    rw [List.getElem?_append_left (by simpa [hl] using hi)]
    rw [List.getElem?_map] at e ⊢
    cases q : ds[i]? with
    | none => rw [q] at e; cases e
    | some d' =>
      rw [q] at e
      cases e
      obtain ⟨v, e1, r⟩ := h.get q
      exact ⟨v, by rw [e1]; rfl, r⟩
  · rw [List.getElem?_append_right (by simpa using hi)] at e
    rw [List.getElem?_replicate] at e
    split at e <;> cases e
theorem FnOk.late {P : Program} {w : World} {K : PySem.W.Frag} {mg : Str → Option Value} {base : Heap} {CX : CXT} {k : Nat} {f : Addr} {fd : FuncData} {ps : List Str} {sp : Sp} (len : ∀ vs H Q E, sp vs H Q E → vs.length = ps.length)
    (h : Mod K mg base → FnOk P w K mg base CX k f fd ps sp) : FnOk P w K mg base CX k f fd ps sp :=
  ⟨len, fun A outer s H args us vs Q E hr e0 hb r hsp => (h e0.mod).run A outer s H args us vs Q E hr e0 hb r hsp⟩
structure Fnd (P : Program) (w : World) (K : PySem.W.Frag) (mg : Str → Option Value) (base : Heap) (C : Ex → Addr) (k : Nat) (x : Str) (sp : SpD) : Prop where
  ex : ∃ (f : Addr) (fd : FuncData) (ps : List Str), mg x = some (.ref f) ∧ PySem.W.keepIn K (.ref f) = true ∧ Binds K fd ps [] ∧ FnOk P w K mg base (L2N.CX P w) k f fd ps (liftSp K C sp)
structure ExF (K : PySem.W.Frag) (mg : Str → Option Value) (C : Ex → Addr) (n : Ex) : Prop where
  mg : mg n.nm = some (.ref (C n))
  keep : PySem.W.keepIn K (.ref (C n)) = true
  own : ∃ bm, ExcBaseFacts "ValueError" "ValueError.__new__" "ValueError.__init__" bm ∧ PySem.W.excIn K (C n) bm "ValueError.__new__" = true
  sub : PySem.W.subIn K (.ref (C n)) (.type "BaseException") = some true
  typ : PySem.W.typeIn K (.ref (C n)) = some (.type "type")
  ns : ExNs K n (C n)
  k : ExK K n (C n)
structure ModF (P : Program) (w : World) (K : PySem.W.Frag) (mg : Str → Option Value) (base : Heap) (C : Ex → Addr) (Γ : Nat → SpD) (gl : Nat → D) (fns gls : List (Nat × Str)) (exs : List Ex) (k : Nat) : Prop where
  seer : Mod K mg base → base.NoSeer
  tree : P.given.tree = none
  fns : ∀ i x, fns.lookup i = some x → Fnd P w K mg base C k x (Γ i)
  gls : ∀ i x, (i, x) ∈ gls → ∃ u v, mg x = some u ∧ RelV v u ∧ ∀ H, Rep K H (gl i) v
  free : ∀ x ∈ bltNames, mg (Str.ofString x) = none
  exs : ∀ n ∈ exs, ExF K mg C n
def ckOf (N : List Str) (sc : Scope) (fns gls : List (Nat × Str)) (exs : List Ex) : Ck := ⟨N, sc, fun _ => true, fns, gls, exs, [], none, [], none, false, []⟩
structure FndH (P : Program) (w : World) (K : PySem.W.Frag) (mg : Str → Option Value) (base : Heap) (C : Ex → Addr) (k : Nat) (x : Str) (sp : SpD) : Prop where
  ex : ∃ (f : Addr) (fd : FuncData) (ps : List Str), mg x = some (.ref f) ∧ PySem.W.keepIn K (.ref f) = true ∧ Binds K fd ps [] ∧ FnHF P w K mg base k f fd ps (liftSp K C sp)
def ckOf2 (N : List Str) (sc : Scope) (fns gls : List (Nat × Str)) (exs : List Ex) (hot : List (Nat × Str)) : Ck := { ckOf N sc fns gls exs with hot := hot }
section
variable {P : Program} {w : World} {K : PySem.W.Frag} {mg : Str → Option Value} {base : Heap} {C : Ex → Addr} {Γ : Nat → SpD} {gl : Nat → D} {fns gls : List (Nat × Str)} {exs : List Ex} {k : Nat}
theorem ok_def2 {hot : List (Nat × Str)} {x qual : Str} {params : Arguments} {body : List Stmt} {scope : Scope} {dvs : List V} {kws : List (Str × V)} {f : Addr} {fd : FuncData} {N ps : List Str} {sx : SX} {sp : SpD}
    (M : ModF P w K mg base C Γ gl fns gls exs k) (hk : 40 ≤ k) (F : FunD K x qual params body scope dvs kws f fd) (S : FnScope N ps scope) (HF : ∀ i x, hot.lookup i = some x → FndH P w K mg base C k x (Γ i)) (chk : knS sx (ckOf2 N scope fns gls exs hot) body = true)
    (len : ∀ ds g Q E, sp ds g Q E → ds.length = ps.length) (pure : ∀ ds g Q E, sp ds g Q E → mnS Γ gl sx (endsOf Q E) (startD N ds) g) : FnOk P w K mg base (L2N.CX P w) (k + 1) f fd ps (liftSp K C sp) := by
  have len' : ∀ vs H Q E, liftSp K C sp vs H Q E → vs.length = ps.length := fun vs H Q E ⟨ds, g, Qd, Xd, r, _, h, _⟩ => by rw [r.length, len _ _ _ _ h]
  refine FnOk.late len' fun hM => F.ok S len' fun cdv A outer s H vs Q E hr ⟨ds, g, Qd, Xd, r, rg, h, cl, cx, hT⟩ => ?_
  refine ⟨_, soundS (Γ := Γ) (gl := gl) (C := C) sx _ _ (fun cls d _ H => E cls d H) body ?_ chk, ?_⟩
  · refine ⟨⟨rfl, S.nd, rfl, rfl, ⟨M.seer hM, M.tree, hr.mono hk, ⟨_, outer, rfl, S.gen, S.co, rfl, rfl⟩⟩, fun _ _ => rfl, fun i y hy => ?_, M.gls, M.free, fun n hn => ⟨(M.exs n hn).mg, (M.exs n hn).ns, (M.exs n hn).k⟩, L2N.takes_of rfl rfl rfl rfl, (fun x h => by cases h), .nil⟩, passes_of rfl, fun n hn => ?_, rfl, rfl, rfl, fun i y hy => ?_⟩
    · obtain ⟨f, fd, ps, h1, h2, h3, h4⟩ := (M.fns i y hy).ex
      exact ⟨ps, f, fd, k, h1, h2, h3, h4, hr⟩
    · have e := M.exs n hn
      exact ⟨e.mg, e.keep, e.own, raises_own e.sub e.typ⟩
    · obtain ⟨f, fd, ps, h1, h2, h3, h4⟩ := (HF i y hy).ex
      exact ⟨f, fd, ps, k, h1, h2, h3, h4, L2H.roomH_of hr⟩
  · refine ⟨startD N ds, g, endsOf Qd Xd, rep_start r hT, rg, pure _ _ _ _ h, ?_, ?_, ?_⟩
    · rintro env g' σ H' ⟨g0, l, q⟩ t r1 r2
      exact cl _ _ _ _ q t (r2.le l) rfl
    · rintro d g' v H' ⟨g0, l, q⟩ t r1 r2
      exact cl _ _ _ _ q t (r1.le l) r2
    · rintro n env g' σ H' ⟨g0, l, q⟩ t r1 r2
      exact cx _ _ _ q t (r2.le l)
theorem ok_def {x qual : Str} {params : Arguments} {body : List Stmt} {scope : Scope} {dvs : List V} {kws : List (Str × V)} {f : Addr} {fd : FuncData} {N ps : List Str} {sx : SX} {sp : SpD}
    (M : ModF P w K mg base C Γ gl fns gls exs k) (hk : 40 ≤ k) (F : FunD K x qual params body scope dvs kws f fd) (S : FnScope N ps scope) (chk : knS sx (ckOf N scope fns gls exs) body = true)
    (len : ∀ ds g Q E, sp ds g Q E → ds.length = ps.length) (pure : ∀ ds g Q E, sp ds g Q E → mnS Γ gl sx (endsOf Q E) (startD N ds) g) : FnOk P w K mg base (L2N.CX P w) (k + 1) f fd ps (liftSp K C sp) :=
  ok_def2 (hot := []) M hk F S (fun _ _ h => by cases h) chk len pure
end
end PP
set_option maxHeartbeats 2000000
namespace PP
open PySem PySem.Spec PyProof.Rows L2
def atomB : D → Value → Bool
  | .int i, .int j _ => decide (i = j)
  | .str x, .str y _ => decide (x = y)
  | .bl b, .bool c => b == c
  | .non, .none => true
  | _, _ => false
def atomV : D → V
  | .int i => .int i
  | .str x => .str x
  | .bl b => .bl b
  | _ => .non
def atomsB : List D → List Value → Bool
  | [], [] => true
  | d :: ds, u :: us => atomB d u && atomsB ds us
  | _, _ => false
def conB (K : PySem.W.Frag) : D → Value → Bool
  | .tup ds, .ref a => (match K.lookup a with
    | some ⟨.type c, _, .seq its _, _⟩ => decide (c = "tuple") && (decide (its.size ≤ sizeLine) && atomsB ds its.toList)
    | _ => false)
  | d, u => atomB d u
theorem atom_ok {d : D} {u : Value} (h : atomB d u = true) : RelV (atomV d) u ∧ ∀ K H, Rep K H d (atomV d) := by
  unfold atomB at h
  split at h
  · have e := of_decide_eq_true h
    subst e
    exact ⟨⟨_, rfl⟩, fun _ _ => rfl⟩
  · have e := of_decide_eq_true h
    subst e
    exact ⟨⟨_, rfl⟩, fun _ _ => rfl⟩
  · have e := eq_of_beq h
    subst e
    exact ⟨rfl, fun _ _ => rfl⟩
  · exact ⟨rfl, fun _ _ => rfl⟩
  · cases h
theorem atoms_ok : ∀ {ds : List D} {us : List Value}, atomsB ds us = true → Vals (ds.map atomV) us ∧ ∀ K H, RepL K H ds (ds.map atomV)
  | [], [], _ => ⟨.nil, fun _ _ => rfl⟩
  | [], _ :: _, h => by cases h
  | _ :: _, [], h => by cases h
  | d :: ds, u :: us, h => by
    have h : (atomB d u && atomsB ds us) = true := h
    rw [Bool.and_eq_true] at h
    obtain ⟨a, b⟩ := atom_ok h.1
    obtain ⟨c, e⟩ := atoms_ok h.2
    exact ⟨.cons a c, fun K H => ⟨_, _, rfl, b K H, e K H⟩⟩
theorem con_ok {K : PySem.W.Frag} {d : D} {u : Value} (h : conB K d u = true) : ∃ v, RelV v u ∧ ∀ H, Rep K H d v := by
  unfold conB at h
  split at h
  · rename_i ds a
    split at h
    · rename_i c od its n osl q
      simp only [Bool.and_eq_true, decide_eq_true_eq] at h
      obtain ⟨h1, h2, h3⟩ := h
      subst h1
      obtain ⟨r, e⟩ := atoms_ok h3
      exact ⟨.ref a, rfl, fun H => ⟨a, _, rfl, .inr ⟨_, its, n, q, rfl, rfl, h2, r⟩, e K H⟩⟩
    · cases h
  · obtain ⟨a, b⟩ := atom_ok h
    exact ⟨_, a, fun H => b K H⟩
def glB (K : PySem.W.Frag) (p : Str × D) : Bool := match PySem.W.nsIn K mainGlobals p.1 with
  | some (some u) => conB K p.2 u
  | _ => false
theorem gl_ok {K : PySem.W.Frag} {h : Heap} {mg : Str → Option Value} (X : K.In h) (G : h.Ns mainGlobals mg) {p : Str × D} (c : glB K p = true) : ∃ u v, mg p.1 = some u ∧ RelV v u ∧ ∀ H, Rep K H p.2 v := by
  unfold glB at c
  split at c
  · rename_i u e
    obtain ⟨v, r, rr⟩ := con_ok c
    exact ⟨u, v, PySem.W.mg_of X G e, r, rr⟩
  · cases c
def bmB (K : PySem.W.Frag) : Bool := match PySem.W.nsIn K mainGlobals "__builtins__" with
  | some (some (.ref b)) => (K.lookup b).isSome
  | _ => false
def seerB (K : PySem.W.Frag) : Bool := (K.lookup cStatics).isSome && (K.lookup sysModules).isSome && bmB K
theorem ns_back {K : PySem.W.Frag} {h base : Heap} {a : Addr} {m : Str → Option Value} (X : K.In h) (Y : K.In base) (s : (K.lookup a).isSome = true) (n : h.Ns a m) : base.Ns a m := by
  obtain ⟨o, es, ep, e, r⟩ := n
  obtain ⟨o', e'⟩ := Option.isSome_iff_exists.mp s
  have z := X _ _ e'
  rw [e] at z
  cases z
  exact ⟨o, es, ep, Y _ _ e', r⟩
theorem seer_of {K : PySem.W.Frag} {h base : Heap} {mg : Str → Option Value} (X : K.In h) (G : h.Ns mainGlobals mg) (S : h.NoSeer) (c : seerB K = true) (M : Mod K mg base) : base.NoSeer := by
  unfold seerB at c
  simp only [Bool.and_eq_true] at c
  obtain ⟨⟨c1, c2⟩, c3⟩ := c
  refine ⟨?_, ?_, M.blt, ?_⟩
  · obtain ⟨mc, n, r⟩ := S.statics
    exact ⟨mc, ns_back X M.kin c1 n, r⟩
  · obtain ⟨mc, n, r⟩ := S.mods
    exact ⟨mc, ns_back X M.kin c2 n, r⟩
  · obtain ⟨mg', bm, ob, n, e, g, r⟩ := S.main
    unfold bmB at c3
    split at c3
    · rename_i b q
      have e1 := PySem.W.mg_of X n q
      rw [e] at e1
      cases e1
      obtain ⟨o', e'⟩ := Option.isSome_iff_exists.mp c3
      have z := X _ _ e'
      rw [g] at z
      cases z
      exact ⟨mg, _, ob, M.glob, PySem.W.mg_of X G q, M.kin _ _ e', r⟩
    · cases c3
def excCB (K : PySem.W.Frag) (D : Addr) : Bool :=
  decide (PySem.W.findIn K (.ref D) "__getattribute__" = some (some (.builtin "BaseException.__getattribute__"))) && (decide (PySem.W.findIn K (.ref D) "__getattr__" = some none) && (decide (PySem.W.subIn K (.ref D) (.type "BaseException") = some true) && (PySem.W.hasDictIn K D && (decide (PySem.W.findIn K (.ref D) "__class__" = some (some (.builtin "object.__class__"))) && (decide (PySem.W.specialIn K (.builtin "object.__class__") "__get__" = some (some (.builtin "getset_descriptor.__get__"))) && (decide (PySem.W.takesIn K (.builtin "object.__class__") = some true) && decide (PySem.W.mroIn K D (.type "object") = some true)))))))
theorem excC_ok {K : PySem.W.Frag} {D : Addr} (c : excCB K D = true) : ExcC K D := by
  unfold excCB at c
  simp only [Bool.and_eq_true, decide_eq_true_eq] at c
  obtain ⟨c1, c2, c3, c4, c5, c6, c7, c8⟩ := c
  exact ⟨c1, c2, c3, c4, c5, c6, c7, c8⟩
def pairB (K : PySem.W.Frag) (n : Ex) (c : Addr) (m : Ex) : Bool := match PySem.W.nsIn K mainGlobals (Str.ofString m.nm) with
  | some (some (.ref c')) => decide (PySem.W.kitOne K (.ref c) (.ref c') = some (n.sub m)) && decide (PySem.W.exmOne K (.ref c) (.ref c') = some (n.sub m))
  | _ => true
def exB (K : PySem.W.Frag) (n : Ex) : Bool := excCB K (He.ga K (Str.ofString n.nm)) && (decide (PySem.W.kitOne K (.ref (He.ga K (Str.ofString n.nm))) (.type "ValueError") = some true) && Ex.all.all fun m => pairB K n (He.ga K (Str.ofString n.nm)) m)
theorem ex_ok {K : PySem.W.Frag} {n : Ex} (c : exB K n = true) : ExK K n (He.ga K (Str.ofString n.nm)) := by
  unfold exB at c
  simp only [Bool.and_eq_true, decide_eq_true_eq] at c
  obtain ⟨c1, c2, c3⟩ := c
  have p : ∀ m c', ExNs K m c' → PySem.W.kitOne K (.ref (He.ga K (Str.ofString n.nm))) (.ref c') = some (n.sub m) ∧ PySem.W.exmOne K (.ref (He.ga K (Str.ofString n.nm))) (.ref c') = some (n.sub m) := fun m c' e => by
    have z := List.all_eq_true.mp c3 m (Ex.mem_all m)
    unfold pairB at z
    rw [show PySem.W.nsIn K mainGlobals (Str.ofString m.nm) = some (some (.ref c')) from e] at z
    simpa using z
  exact ⟨excC_ok c1, fun m c' e => (p m c' e).1, fun m c' e => (p m c' e).2, c2⟩
abbrev AlP : Type := He.AlD × Bool
def obsP (fa : List He.Fa) (fn : List He.DefD) (tb : List (Str × D)) (ex : List Ex) (K : PySem.W.Frag) : AlP := (He.obsD fa fn K, seerB K && ((tb.all fun p => glB K p) && ex.all fun n => exB K n))
def SaysP (fa : List He.Fa) (fn : List He.DefD) (tb : List (Str × D)) (ex : List Ex) (K : PySem.W.Frag) : Prop := obsP fa fn tb ex K = (He.valD fn, true)
section
variable {fa : List He.Fa} {fn : List He.DefD} {tb : List (Str × D)} {ex : List Ex} {K : PySem.W.Frag}
theorem SaysP.d (c : SaysP fa fn tb ex K) : He.SaysD fa fn K := congrArg Prod.fst c
theorem SaysP.all (c : SaysP fa fn tb ex K) : (seerB K && ((tb.all fun p => glB K p) && ex.all fun n => exB K n)) = true := congrArg Prod.snd c
theorem SaysP.seer (c : SaysP fa fn tb ex K) : seerB K = true := (Bool.and_eq_true_iff.mp c.all).1
theorem SaysP.gl (c : SaysP fa fn tb ex K) (i : Nat) {p : Str × D} (h : tb[i]? = some p) : glB K p = true :=
  List.all_eq_true.mp (Bool.and_eq_true_iff.mp (Bool.and_eq_true_iff.mp c.all).2).1 p (List.mem_of_getElem? h)
theorem SaysP.exB (c : SaysP fa fn tb ex K) {n : Ex} (h : n ∈ ex) : exB K n = true :=
  List.all_eq_true.mp (Bool.and_eq_true_iff.mp (Bool.and_eq_true_iff.mp c.all).2).2 n h
end
end PP
namespace PP
open PySem PySem.Spec PyProof.Rows L2
theorem Fnd.mono {P : Program} {w : World} {K : PySem.W.Frag} {mg : Str → Option Value} {base : Heap} {C : Ex → Addr} {j k : Nat} {x : Str} {sp : SpD} (F : Fnd P w K mg base C j x sp) (h : j ≤ k) : Fnd P w K mg base C k x sp := by
  obtain ⟨f, fd, ps, h1, h2, h3, h4⟩ := F.ex
  exact ⟨f, fd, ps, h1, h2, h3, h4.mono h⟩
abbrev FnP (K : PySem.W.Frag) (x : Str) (st : Stmt) (f : Addr) (fd : FuncData) : Prop := FunD K x x (defArgs st) (defBody st) (defScope st) [] [] f fd
structure DefOk (Γ : Nat → SpD) (gl : Nat → D) (fns gls : List (Nat × Str)) (exs : List Ex) (st : Stmt) (sp : SpD) : Prop where
  ex : ∃ (N ps : List Str) (sx : SX), FnScope N ps (defScope st) ∧ knS sx (ckOf N (defScope st) fns gls exs) (defBody st) = true ∧
    (∀ (x : Str) (K : PySem.W.Frag) (f : Addr) (fd : FuncData), FnP K x st f fd → Binds K fd ps []) ∧ (∀ ds g Q E, sp ds g Q E → ds.length = ps.length) ∧
    ∀ ds g Q E, sp ds g Q E → mnS Γ gl sx (endsOf Q E) (startD N ds) g
section
variable {P : Program} {w : World} {K : PySem.W.Frag} {mg : Str → Option Value} {base : Heap} {C : Ex → Addr} {Γ : Nat → SpD} {gl : Nat → D} {fns gls : List (Nat × Str)} {exs : List Ex} {k : Nat}
theorem chain (i : Nat) {x : Str} {st : Stmt} {f : Addr} {fd : FuncData} (M : ModF P w K mg base C Γ gl fns gls exs k) (hk : Nat.ble 40 k = true) (F : FnP K x st f fd) (hm : mg x = some (.ref f)) (D : DefOk Γ gl fns gls exs st (Γ i)) :
    ModF P w K mg base C Γ gl ((i, x) :: fns) gls exs (k + 1) := by
  obtain ⟨N, ps, sx, S, chk, hb, len, pure⟩ := D.ex
  have hk := Nat.le_of_ble_eq_true hk
  refine ⟨M.seer, M.tree, fun j y hy => ?_, M.gls, M.free, M.exs⟩
  rw [List.lookup_cons] at hy
  split at hy
  · rename_i e
    have e := eq_of_beq e
    cases hy
    subst e
    exact ⟨f, fd, ps, hm, F.kp, hb _ _ _ _ F, ok_def M hk F S chk len pure⟩
  · exact (M.fns j y hy).mono (Nat.le_succ k)
end
section
variable {P : Program} {w : World} {K : PySem.W.Frag} {mg : Str → Option Value} {base : Heap} {C : Ex → Addr} {Γ : Nat → SpD} {gl : Nat → D} {fns gls : List (Nat × Str)} {exs : List Ex} {k : Nat}
theorem ModF.up (M : ModF P w K mg base C Γ gl fns gls exs k) : ModF P w K mg base C Γ gl fns gls exs (k + 1) :=
  ⟨M.seer, M.tree, fun j y hy => (M.fns j y hy).mono (Nat.le_succ k), M.gls, M.free, M.exs⟩
theorem FndH.mono {j k : Nat} {x : Str} {sp : SpD} (F : FndH P w K mg base C j x sp) (h : Nat.ble j k = true) : FndH P w K mg base C k x sp := by
  obtain ⟨f, fd, ps, h1, h2, h3, h4⟩ := F.ex
  have h := Nat.le_of_ble_eq_true h
  exact ⟨f, fd, ps, h1, h2, h3, h4.len, fun A outer s H args us vs Q a hr fr e0 hb r hsp => h4.run A outer s H args us vs Q a (hr.mono h) fr e0 hb r hsp⟩
end
def spLaw : SpD := fun ds g Q _ => ∃ ns : List Int, ds = [.scr ns] ∧ ns.length ≤ 63 ∧ (∀ z ∈ ns, Builtin.Int.intBits z ≤ 1048576) ∧ (∀ a, g a = none) ∧ Q (.bl true) g
theorem mod0 {P : Program} {w : World} {K : PySem.W.Frag} {mg : Str → Option Value} {h base : Heap} {Γ : Nat → SpD} {gl : Nat → D} {gls : List (Nat × Str)} {exs : List Ex} {fa : List He.Fa} {fn : List He.DefD} {tb : List (Str × D)}
    (X : K.In h) (G : h.Ns mainGlobals mg) (S : h.NoSeer) (c : SaysP fa fn tb exs K) (ht : P.given.tree = none)
    (htb : gls.map (fun p => (p.2, gl p.1)) = tb) (hfree : bltNames.map (fun x => He.Fa.free (Str.ofString x)) <+: fa)
    (hex : ∀ n ∈ exs, He.Fa.glo (Str.ofString n.nm) ∈ fa ∧ He.Fa.exc (Str.ofString n.nm) ∈ fa) :
    ModF P w K mg base (fun n => He.ga K (Str.ofString n.nm)) Γ gl [] gls exs 40 := by
  have fact : ∀ f ∈ fa, f.ok K = true := fun f hf => by
    obtain ⟨i, e⟩ := List.mem_iff_getElem?.mp hf
    exact c.d.fact i e
  refine ⟨fun M => seer_of X G S c.seer M, ht, fun i x e => (by cases e), fun i x hx => ?_, fun x hx => ?_, fun n hn => ?_⟩
  · have hm : (x, gl i) ∈ tb := by
      rw [← htb]
      exact List.mem_map.mpr ⟨(i, x), hx, rfl⟩
    obtain ⟨j, e⟩ := List.mem_iff_getElem?.mp hm
    exact gl_ok X G (c.gl j e)
  · exact He.free_ok X G (fact _ (hfree.subset (List.mem_map.mpr ⟨x, hx, rfl⟩)))
  · obtain ⟨h1, h2⟩ := hex n hn
    obtain ⟨a, b, d, e⟩ := He.exc_ok (fact _ h2)
    exact ⟨He.glo_ok X G (fact _ h1), b, ⟨_, F.excBase_ValueError, a⟩, d, e, He.eqO_ok (fact _ h1), ex_ok (c.exB hn)⟩
end PP
namespace PP
open PySem PySem.Spec PyProof.Rows L2
def frzSp (sp : Sp) : Sp := fun vs H Q E => sp vs H Q E ∨ ∃ a xs, vs = [.ref a] ∧ H a = some (.lst xs) ∧ ∀ o, sp vs (upd H a (.frz o (.lst xs))) Q E
theorem frz_fn {P : Program} {w : World} {K : PySem.W.Frag} {mg : Str → Option Value} {base : Heap} {k : Nat} {f : Addr} {fd : FuncData} {ps : List Str} {sp : Sp} (F : FnOk P w K mg base (L2N.CX P w) k f fd ps sp) : FnOk P w K mg base (L2N.CX P w) k f fd ps (frzSp sp) where
  len := fun vs H Q E h => by
    rcases h with h | ⟨a, xs, _, _, h⟩
    · exact F.len _ _ _ _ h
    · exact F.len _ _ _ _ (h { cls := .none, data := .plain })
  run := fun A outer s H args us vs Q E hr e0 hb r h => by
    rcases h with h | ⟨a, xs, rfl, ha, h⟩
    · exact F.run A outer s H args us vs Q E hr e0 hb r h
    · obtain ⟨hl, its, n, hv, he⟩ : ObjOk P w H s.heap a (.lst xs) := e0.hok a _ ha
      have ne : ∀ b u, H b = some u → (∀ z, u ≠ .lst z) → b ≠ a := fun b u e q z => by
        rw [z, ha] at e
        exact q xs (Option.some.inj e).symm
      have nn : ∀ b, H b = none → b ≠ a := fun b e z => by rw [z, ha] at e; cases e
      have up : ∀ b, b ≠ a → upd H a (.frz { cls := .type "list", data := .seq its.toArray n } (.lst xs)) b = H b := fun b q => upd_ne q
      have e2 : Env0 P w K mg base A outer s (upd H a (.frz { cls := .type "list", data := .seq its.toArray n } (.lst xs))) := by
        refine ⟨e0.frames, e0.mod, fun b o e => ⟨(e0.bs b o e).1, by rw [up b (nn b (e0.bs b o e).2)]; exact (e0.bs b o e).2⟩, e0.bsz, e0.funs, fun b hb => by rw [up b (nn b (e0.frf b hb))]; exact e0.frf b hb, fun b u e => ?_, e0.bare⟩
        by_cases hb : b = a
        · subst hb
          rw [upd_same] at e
          cases e
          exact ⟨he, hl, its, n, hv, he⟩
        · rw [up b hb] at e
          exact (e0.hok b u e).stay (fun _ _ _ q => q) (fun c q => by rw [up c (ne c _ q (fun z => by intro w; cases w))]; exact q) fun c zs q => by rw [up c (ne c _ q (fun z => by intro w; cases w))]; exact q
      refine codeAny_mono (F.run A outer s _ args us _ Q E hr e2 hb r (h _)) fun rs s' hq => ?_
      cases rs with
      | error e =>
        obtain ⟨x, B, H', cls, d, z1, z2, z3, u, z4, z5, z6, z7⟩ := hq
        refine ⟨x, B, H', cls, d, z1, z2, z3, ⟨fun b o q n => u.keep b o q (by rw [up b (nn b n)]; exact n), u.slot, fun b o q n => u.free b o q (by rw [up b (nn b n)]; exact n), u.there, fun b zs q => u.tups b zs (by rw [up b (ne b _ q (fun z => by intro w; cases w))]; exact q), fun b o zs q => u.frzs b o zs (by rw [up b (ne b _ q (fun z => by intro w; cases w))]; exact q), fun b zs q => u.tbls b zs (by rw [up b (ne b _ q (fun z => by intro w; cases w))]; exact q)⟩, z4, z5, z6, z7⟩
      | ok fl =>
        cases fl with
        | ret v =>
          obtain ⟨v', H', z1, z2, u, z3, z4, z5⟩ := hq
          exact ⟨v', H', z1, z2, ⟨fun b o q n => u.keep b o q (by rw [up b (nn b n)]; exact n), fun b o q n => u.slot b o q (by rw [up b (nn b n)]; exact n), fun b o q n => u.free b o q (by rw [up b (nn b n)]; exact n), u.there, fun b zs q => u.tups b zs (by rw [up b (ne b _ q (fun z => by intro w; cases w))]; exact q), fun b o zs q => u.frzs b o zs (by rw [up b (ne b _ q (fun z => by intro w; cases w))]; exact q), fun b zs q => u.tbls b zs (by rw [up b (ne b _ q (fun z => by intro w; cases w))]; exact q)⟩, z3, z4, z5⟩
        | next => exact False.elim hq
        | brk => exact False.elim hq
        | cont => exact False.elim hq
theorem law_endL {K : PySem.W.Frag} {C : Ex → Addr} {H : Hp} {a : Addr} {ns : List Int} (hl : ns.length ≤ 63) (hb : ∀ z ∈ ns, Builtin.Int.intBits z ≤ 1048576) (hT : ∀ p ∈ TabL, H p.2.1 = some (.tbl #[])) (hS : SqL K H a (ns.map V.int)) :
    frzSp (liftSp K C spLaw) [.ref a] H (fun v _ => v = .bl true) fun _ _ _ => False := by
  have core : ∀ H' : Hp, TbOk H' → ScrP K H' a (ns.map V.int) → liftSp K C spLaw [.ref a] H' (fun v _ => v = .bl true) fun _ _ _ => False := fun H' t q =>
    ⟨[.scr ns], fun _ => none, fun d _ => d = .bl true, fun _ _ => False, ⟨.ref a, [], rfl, ⟨a, rfl, q⟩, rfl⟩, fun _ _ e => (by cases e), ⟨ns, rfl, hl, hb, fun _ => rfl, rfl⟩, fun d g v H' e _ _ r => (by subst e; exact r), fun _ _ _ z => z.elim, t⟩
  have t0 : TbOk H := fun p hp => LamX.TabS.nil (hT p hp)
  rcases hS with (h | ⟨o, h⟩) | h
  · refine .inr ⟨a, _, rfl, h, fun o => core _ (fun p hp => LamX.TabS.nil ?_) (.inl ⟨o, upd_same⟩)⟩
    rw [upd_ne]
    · exact hT p hp
    · intro z
      have := hT p hp
      rw [z, h] at this
      cases this
  · exact .inl (core H t0 (.inl ⟨o, h⟩))
  · exact .inl (core H t0 (.inr h))
def keepL (as : List Addr) : List Addr := as.filter fun a => !(TabL.any fun p => p.2.1 == a)
def tabAt (g : Addr → Option Obj) (P : Addr) : Bool := match g P with
  | some ⟨.none, none, .fields vs, sl⟩ => vs.isEmpty && sl.isEmpty
  | _ => false
theorem tabAt_ok {g : Addr → Option Obj} {P : Addr} (h : tabAt g P = true) : g P = some { cls := .none, data := .fields #[] } := by
  unfold tabAt at h
  split at h
  · rename_i vs sl e
    rw [Bool.and_eq_true] at h
    have e1 : vs = #[] := Array.isEmpty_iff.mp h.1
    have e2 : sl = #[] := Array.isEmpty_iff.mp h.2
    subst e1
    subst e2
    exact e
  · cases h
def codeOf (K : PySem.W.Frag) (x : Str) : Value := match K.lookup (He.ga K x) with
  | some ⟨_, _, .func fd, _⟩ => fd.code
  | _ => .none
def codeIs (K : PySem.W.Frag) (p : Str × Addr) : Bool := match codeOf K p.1 with
  | .ref c => c == p.2
  | _ => false
abbrev AlL : Type := AlP × Bool
def obsL (n : Nat) (fa : List He.Fa) (fn : List He.DefD) (tb : List (Str × D)) (ex : List Ex) (lm : List (Str × Addr)) (g : Addr → Option Obj) : AlL :=
  (obsP fa fn tb ex (He.frG g (keepL (He.asD g n ++ [cStatics, sysModules]))), (TabL.all fun p => PySem.W.codeHdIn (He.frG g (keepL (He.asD g n ++ [cStatics, sysModules]))) p.1 p.2.1 && tabAt g p.2.1) && lm.all fun p => codeIs (He.frG g (keepL (He.asD g n ++ [cStatics, sysModules]))) p)
structure TabK (K : PySem.W.Frag) (lm : List (Str × Addr)) (h : Heap) : Prop where
  tab : ∀ p ∈ TabL, h.get? p.2.1 = some { cls := .none, data := .fields #[] }
  no : ∀ p ∈ TabL, K.lookup p.2.1 = none
  code : ∀ p ∈ TabL, PySem.W.CodeHd h p.1 p.2.1
  lam : ∀ p ∈ lm, codeOf K p.1 = .ref p.2
theorem lk_memL {β : Type} {a : Addr} {o : β} : ∀ {l : List (Addr × β)}, l.lookup a = some o → (a, o) ∈ l
  | [], h => by cases h
  | (b, z) :: l, h => by
    rw [List.lookup_cons] at h
    split at h
    · rename_i e
      have e := eq_of_beq e
      cases h
      subst e
      exact List.mem_cons_self ..
    · exact List.mem_cons_of_mem _ (lk_memL h)
theorem keepL_no {g : Addr → Option Obj} {as : List Addr} {p : Addr × Addr × Str} (hp : p ∈ TabL) : (He.frG g (keepL as)).lookup p.2.1 = none := by
  cases e : (He.frG g (keepL as)).lookup p.2.1 with
  | none => rfl
  | some o =>
    have h1 := lk_memL e
    unfold He.frG at h1
    obtain ⟨b, hb, e2⟩ := List.mem_filterMap.mp h1
    cases hg : g b with
    | none => rw [hg] at e2; cases e2
    | some o2 =>
      rw [hg] at e2
      have e3 : b = p.2.1 := congrArg Prod.fst (Option.some.inj e2)
      subst e3
      have h2 := (List.mem_filter.mp hb).2
      have h3 : (TabL.any fun q => q.2.1 == p.2.1) = true := List.any_eq_true.mpr ⟨p, hp, by simp⟩
      rw [h3] at h2
      cases h2
def hookL (n : Nat) (fa : List He.Fa) (fn : List He.DefD) (tb : List (Str × D)) (ex : List Ex) (lm : List (Str × Addr)) : PySem.W.Hook where
  α := AlL
  obs := fun s => obsL n fa fn tb ex lm s.heap.get?
  val := fun _ => ((He.valD fn, true), true)
  says := fun _ h => ∃ K : PySem.W.Frag, K.In h ∧ SaysP fa fn tb ex K ∧ TabK K lm h
  of := fun _ s e => by
    obtain ⟨e1, e2⟩ := Prod.mk.inj e
    rw [Bool.and_eq_true] at e2
    have kin := He.frG_in (h := s.heap) (as := keepL (He.asD s.heap.get? n ++ [cStatics, sysModules]))
    refine ⟨_, kin, e1, fun p hp => ?_, fun p hp => keepL_no hp, fun p hp => ?_, fun p hp => ?_⟩
    · have := List.all_eq_true.mp e2.1 p hp
      rw [Bool.and_eq_true] at this
      exact tabAt_ok this.2
    · have := List.all_eq_true.mp e2.1 p hp
      rw [Bool.and_eq_true] at this
      exact PySem.W.codeHd_of_K kin this.1
    · have := List.all_eq_true.mp e2.2 p hp
      unfold codeIs at this
      split at this
      · rename_i c q
        rw [q, eq_of_beq this]
      · cases this
  keeps := fun _ _ _ ⟨K, hK, c, t⟩ k => ⟨K, PySem.W.Frag.In.keeps hK k, c, fun p hp => k _ _ (t.tab p hp), t.no, fun p hp => (t.code p hp).keeps k, t.lam⟩
theorem obsL_eq {n : Nat} {fa : List He.Fa} {fn : List He.DefD} {tb : List (Str × D)} {ex : List Ex} {lm : List (Str × Addr)} {g : Addr → Option Obj} {s : Shared} (h : ∀ a, g a = s.heap.get? a) : obsL n fa fn tb ex lm g = (hookL n fa fn tb ex lm).obs s := by
  have e : g = s.heap.get? := funext h
  rw [e] <;> rfl
theorem walk_L {l : PySem.W.OpenLaw} {n k : Nat} {q : Program} {loose : List Str} {XP : (Str → Option Value) → Heap → Prop} {YP : World → Heap → Prop} {d : DefRec} {x : Str}
    (hn : l.most = some n) (hn2 : n ≤ sizeLine) (hdf : d.params.defaults = []) (hr : Room k callerA) (hi : importsNone q = true)
    (F : ∀ (w : World) (mg : Str → Option Value) (fa : Addr) (h : Heap), YP w h → h.Ns mainGlobals mg → mg d.name = some (.ref fa) → h.NoSeer →
      ∃ (K : PySem.W.Frag) (fd : FuncData) (sp : Sp) (lm : List (Str × Addr)), K.In h ∧ TabK K lm h ∧ (∀ (s : Shared) (u : Value), BindsTo s fd ⟨[u], []⟩ [(x, u)]) ∧
        (∀ (H : Hp) (a : Addr) (ns : List Int), ns.length ≤ n → (∀ z ∈ ns, Builtin.Int.intBits z ≤ 1048576) → (∀ p ∈ TabL, H p.2.1 = some (.tbl #[])) → SqL K H a (ns.map V.int) → sp [.ref a] H (fun v _ => v = .bl true) fun _ _ _ => False) ∧
        ∀ base : Heap, K.In base → base.Ns mainGlobals mg → (∀ p ∈ TabL, LamX.TabB base mg p.1 p.2.1) → FnOk l.prog w K mg base (L2N.CX l.prog w) k fa fd [x] sp) :
    PySem.W.WalkO q loose XP YP l.row.toRowW d [] (fun f vs => PySem.call f vs) := by
  refine Att.attach_callB hn hdf fun w s₀ s₁ mg mb fa o pm cd doc a vs ns G Y ho hd hcd hmg hobj hints hlen hbits hg => ?_
  obtain ⟨K, fd, sp, lm, KX, T, hb, hsp, hF⟩ := F w mg fa _ Y G.T.g hmg (G.T.seer hi)
  have mem : ∀ {Z : Addr × Addr → Prop}, (∀ p ∈ TabL, Z (p.1, p.2.1)) → ∀ p ∈ TabL.map (fun p => (p.1, p.2.1)), Z p := fun {Z} h p hp => by
    obtain ⟨z, hz, e⟩ := List.mem_map.mp hp
    rw [← e]
    exact h z hz
  refine LamX.law_callTs (cs := TabL.map fun p => (p.1, p.2.1)) KX G.T.g G.T.b G.T.builtins G.T.nolimit hg (mem T.tab) (mem T.no) (mem T.code) G.T.bmain hobj hints (Nat.le_trans hlen hn2) hr (fun base h1 h2 h3 => hF base h1 h2 fun p hp => h3 (p.1, p.2.1) (List.mem_map.mpr ⟨p, hp, rfl⟩)) hb (fun H hH hS => hsp H a ns hlen hbits (fun p hp => hH (p.1, p.2.1) (List.mem_map.mpr ⟨p, hp, rfl⟩)) hS) fun H e s' z => ?_
  obtain ⟨_, _, _, _, _, _, _, _, _, _, _, _, h⟩ := z
  exact h
section
variable {K : PySem.W.Frag}
theorem code_of {lm : List (Str × Addr)} {h : Heap} {x : Str} {st : Stmt} {fd : FuncData} {cc : Addr} (T : TabK K lm h) (F : FnP K x st (He.ga K x) fd) (hm : (x, cc) ∈ lm) : fd.code = .ref cc := by
  obtain ⟨oc, od, dV, kV, doc, pm, an, cdv, ct, osl, hfd, lk, _⟩ := F.ex
  have := T.lam _ hm
  unfold codeOf at this
  rw [lk] at this
  exact this
end
end PP
namespace PP
open PySem PySem.Spec PyProof.Rows L2
def upΓ (Γ : Nat → SpD) (i : Nat) (s : SpD) : Nat → SpD := fun j => cond (Nat.beq j i) s (Γ j)
theorem upΓ_same {Γ : Nat → SpD} {i : Nat} {s : SpD} : upΓ Γ i s i = s := by unfold upΓ; rw [Nat.beq_refl]; rfl
theorem upΓ_ne {Γ : Nat → SpD} {i j : Nat} {s : SpD} (h : j ≠ i) : upΓ Γ i s j = Γ j := by
  unfold upΓ
  cases e : Nat.beq j i with
  | false => rfl
  | true => exact absurd (Nat.eq_of_beq_eq_true e) h
section
variable {P : Program} {w : World} {K : PySem.W.Frag} {mg : Str → Option Value} {base : Heap} {C : Ex → Addr} {Γ : Nat → SpD} {gl : Nat → D} {fns gls : List (Nat × Str)} {exs : List Ex} {k : Nat}
theorem ModF.more (M : ModF P w K mg base C Γ gl fns gls exs k) (r : Nat) : ModF P w K mg base C Γ gl fns gls exs (k + r) :=
  ⟨M.seer, M.tree, fun j y hy => (M.fns j y hy).mono (Nat.le_add_right k r), M.gls, M.free, M.exs⟩
end
end PP
set_option maxHeartbeats 2000000
namespace PP
open PySem PySem.Spec PyProof.Rows L2
structure ModO (P : Program) (w : World) (K : PySem.W.Frag) (mg : Str → Option Value) (base : Heap) (C : Ex → Addr) (Γ : Nat → SpD) (ms : List (Nat × Str)) (mk : Option Nat) (ob : Bool) (gds : List (Str × List (String × Int))) (k : Nat) : Prop where
  fld : ob = true → ∀ C0, DeskC K C0 → Cls K C0 ∧ NoAttr K C0 atrN
  mth : ∀ i m, ms.lookup i = some m → ∃ (C0 f : Addr) (fd : FuncData) (ps : List Str), DeskC K C0 ∧ Cls K C0 ∧ Meth K C0 m f ∧ Binds K fd ps [] ∧ FnOk P w K mg base (L2N.CX P w) k f fd ps (liftSp K C (Γ i))
  mkd : ∀ i, mk = some i → ∃ (C0 f : Addr) (fd : FuncData) (ps : List Str) (k1 : Nat), k1 + 1 ≤ k ∧ DeskC K C0 ∧ mg clsN = some (.ref C0) ∧ Mk K C0 f ∧ Binds K fd ps [] ∧ FnOk P w K mg base (L2N.CX P w) k1 f fd ps (liftSp K C (Γ i))
  gds : ∀ x kvs, (x, kvs) ∈ gds → ∃ (a : Addr) (es : Array DictEntry) (n : Nat), mg x = some (.ref a) ∧ KDict K w a es n ∧ ∀ z : Str, (∃ i t, (z, i) ∈ gdS kvs ∧ PySem.W.nsIn K a z = some (some (.int i t))) ∨ (z ∉ (gdS kvs).map (·.1) ∧ PySem.W.nsIn K a z = some none)
section
variable {P : Program} {w : World} {K : PySem.W.Frag} {mg : Str → Option Value} {base : Heap} {C : Ex → Addr} {Γ : Nat → SpD} {gl : Nat → D} {fns gls : List (Nat × Str)} {exs : List Ex} {k : Nat} {hot ms : List (Nat × Str)} {mk : Option Nat} {ob : Bool} {gds : List (Str × List (String × Int))}
theorem ModO.up (O : ModO P w K mg base C Γ ms mk ob gds k) : ModO P w K mg base C Γ ms mk ob gds (k + 1) where
  fld := O.fld
  mth := fun i m h => by
    obtain ⟨C0, f, fd, ps, a, b, c, d, e⟩ := O.mth i m h
    exact ⟨C0, f, fd, ps, a, b, c, d, e.mono (Nat.le_succ k)⟩
  mkd := fun i h => by
    obtain ⟨C0, f, fd, ps, k1, a, r⟩ := O.mkd i h
    exact ⟨C0, f, fd, ps, k1, by omega, r⟩
  gds := O.gds
theorem ModO.mono {j : Nat} (O : ModO P w K mg base C Γ ms mk ob gds k) (h : k ≤ j) : ModO P w K mg base C Γ ms mk ob gds j where
  fld := O.fld
  mth := fun i m hm => by
    obtain ⟨C0, f, fd, ps, a, b, c, d, e⟩ := O.mth i m hm
    exact ⟨C0, f, fd, ps, a, b, c, d, e.mono h⟩
  mkd := fun i hi => by
    obtain ⟨C0, f, fd, ps, k1, a, r⟩ := O.mkd i hi
    exact ⟨C0, f, fd, ps, k1, by omega, r⟩
  gds := O.gds
end
def valI (K : PySem.W.Frag) (a : Addr) (kvs : List (String × Int)) : Bool := kvs.all fun p => match PySem.W.nsIn K a (Str.ofString p.1) with
  | some (some (.int j _)) => decide (j = p.2)
  | _ => false
abbrev AlO : Type := AlP × List (Option (List (Option (Str × Int)))) × Bool
def obsO (fa : List He.Fa) (fn : List He.DefD) (tb : List (Str × D)) (ex : List Ex) (gds : List (Str × List (String × Int))) (K : PySem.W.Frag) : AlO := (obsP fa fn tb ex K, gds.map fun t => He.dicW K (He.ga K t.1), gds.all fun t => valI K (He.ga K t.1) t.2)
def valO (fn : List He.DefD) (gds : List (Str × List (String × Int))) (w : World) : AlO := ((He.valD fn, true), gds.map fun t => some (He.keysIn w.params (t.2.map fun p => Str.ofString p.1)), true)
def SaysO (fa : List He.Fa) (fn : List He.DefD) (tb : List (Str × D)) (ex : List Ex) (gds : List (Str × List (String × Int))) (w : World) (K : PySem.W.Frag) : Prop := obsO fa fn tb ex gds K = valO fn gds w
section
variable {fa : List He.Fa} {fn : List He.DefD} {tb : List (Str × D)} {ex : List Ex} {gds : List (Str × List (String × Int))} {w : World} {K : PySem.W.Frag}
theorem SaysO.p (c : SaysO fa fn tb ex gds w K) : SaysP fa fn tb ex K := congrArg (fun z : AlO => z.1) c
end
end PP
set_option maxHeartbeats 2000000
namespace PP
open PySem PySem.Spec PyProof.Rows L2
end PP
namespace PP
open PySem PySem.W PySem.Calls PyProof.Rows HandSHeadRun
end PP
set_option maxHeartbeats 2000000
namespace PP
open PySem PySem.Spec PyProof.Rows L2
def ckOfA (N : List Str) (sc : Scope) (fns gls : List (Nat × Str)) (exs : List Ex) (i : Nat) (x : Str) (j : Nat) : Ck := { ckOf N sc fns gls exs with lam := some (.a i x j) }
def ckOfQ (N : List Str) (sc : Scope) (fns gls : List (Nat × Str)) (exs : List Ex) (x : Str) : Ck := { ckOf N sc fns gls exs with lam := some (.q x) }
structure AskOk3 (Γ : Nat → SpD) (gl : Nat → D) (fns gls : List (Nat × Str)) (exs : List Ex) (i : Nat) (st : Stmt) : Prop where
  ex : ∃ (N ps : List Str) (a : Str) (j : Nat) (sx : SX), FnScope N ps (defScope st) ∧ ps.length = 3 ∧ knS sx (ckOfA N (defScope st) fns gls exs i a j) (defBody st) = true ∧ (∀ (x : Str) (K : PySem.W.Frag) (f : Addr) (fd : FuncData), FnP K x st f fd → Binds K fd ps []) ∧
    ∀ (f : Addr) (L : D → G → QD → Prop) (d1 d2 : D) (g : G) (Q : QD), isSoS Γ L [d1, d2, .ref (2 * f)] g Q (fun _ _ => False) → mnS (upΓ Γ i (askS f L)) gl sx (endsOf Q (fun _ _ => False)) (startD N [d1, d2, .ref (2 * f)]) g
structure DefOkQ (Γ : Nat → SpD) (gl : Nat → D) (fns gls : List (Nat × Str)) (exs : List Ex) (xl : Str) (st : Stmt) (sp : SpD) : Prop where
  ex : ∃ (N ps : List Str) (sx : SX), FnScope N ps (defScope st) ∧ knS sx (ckOfQ N (defScope st) fns gls exs xl) (defBody st) = true ∧
    (∀ (x : Str) (K : PySem.W.Frag) (f : Addr) (fd : FuncData), FnP K x st f fd → Binds K fd ps []) ∧ (∀ ds g Q E, sp ds g Q E → ds.length = ps.length) ∧
    ∀ ds g Q E, sp ds g Q E → mnS Γ gl sx (endsOf Q E) (startD N ds) g
section
variable {P : Program} {w : World} {K : PySem.W.Frag} {mg : Str → Option Value} {base : Heap} {C : Ex → Addr} {Γ : Nat → SpD} {gl : Nat → D} {fns gls : List (Nat × Str)} {exs : List Ex} {k : Nat}
theorem AskG.mono {S : (D → G → QD → Prop) → SpD} {x : Str} {j : Nat} (A : AskG P w K mg base C j S x) (h : j ≤ k) : AskG P w K mg base C k S x := by
  obtain ⟨g, pg, bg, sg, dV, kV, doc, pm, cdv, ct, oc, an, od, osl, N, ps, h1, h2, h3, h4, h5, h6, h7, h8⟩ := A.ex
  exact ⟨g, pg, bg, sg, dV, kV, doc, pm, cdv, ct, oc, an, od, osl, N, ps, h1, h2, h3, h4, h5, h6, h7, fun hM A outer f L s H Q d1 d2 v1 v2 gg Qd hr => h8 hM A outer f L s H Q d1 d2 v1 v2 gg Qd (hr.mono h)⟩
theorem chainA3 (i : Nat) {x : Str} {st : Stmt} {f : Addr} {fd : FuncData} (M : ModF P w K mg base C Γ gl fns gls exs k) (hk : Nat.ble 40 k = true) (hi : fns.lookup i = none) (F : FnP K x st f fd) (hm : mg x = some (.ref f)) (D : AskOk3 Γ gl fns gls exs i st) : AskG P w K mg base C k (isSoS Γ) x := by
  have hk := Nat.le_of_ble_eq_true hk
  obtain ⟨N, ps, a, j, sx, S, hps, chk, hb, pure⟩ := D.ex
  obtain ⟨oc, od, dV, kV, doc, pm, an, cdv, ct, osl, hfd, lk, hcd, _, _⟩ := F.ex
  refine ⟨f, defArgs st, defBody st, defScope st, dV, kV, doc, pm, cdv, ct, oc, an, od, osl, N, ps, hm, F.kp, by rw [← hfd]; exact lk, hcd, by rw [← hfd]; exact hb _ _ _ _ F, hps, S, fun hM => ?_⟩
  intro A outer fa L s H Q d1 d2 v1 v2 gg Qd hr hT r1 r2 rg hL hS cl
  refine ⟨_, soundS (Γ := upΓ Γ i (askS fa L)) (gl := gl) (C := C) sx _ _ (fun _ _ _ _ => False) (defBody st) ?_ chk, ?_⟩
  · refine ⟨⟨rfl, S.nd, rfl, rfl, ⟨M.seer hM, M.tree, hr.mono hk, ⟨_, outer, rfl, S.gen, S.co, rfl, rfl⟩⟩, fun _ _ => rfl, fun n y hy => ?_, M.gls, M.free, fun n hn => ⟨(M.exs n hn).mg, (M.exs n hn).ns, (M.exs n hn).k⟩, L2N.takes_of rfl rfl rfl rfl, fun y hy => ?_, .nil⟩, passes_of rfl, fun n hn => ?_, rfl, rfl, rfl, fun n y hy => by cases hy⟩
    · have hne : n ≠ i := fun z => by
        have hy : fns.lookup n = some y := hy
        rw [z, hi] at hy; cases hy
      obtain ⟨f, fd, ps, h1, h2, h3, h4⟩ := (M.fns n y hy).ex
      rw [upΓ_ne hne]
      exact ⟨ps, f, fd, k, h1, h2, h3, h4, hr⟩
    · have hy : some (Lk.a i a j) = some y := hy
      cases hy
      exact ⟨fa, L, upΓ_same, hL⟩
    · have e := M.exs n hn
      exact ⟨e.mg, e.keep, e.own, raises_own e.sub e.typ⟩
  · have rl : RepL K H [d1, d2, .ref (2 * fa)] [v1, v2, .ref fa] := ⟨v1, _, rfl, r1, v2, _, rfl, r2, .ref fa, [], rfl, ⟨Nat.mul_mod_right 2 fa, by rw [Nat.mul_div_cancel_left fa (by decide : 0 < 2)]⟩, rfl⟩
    refine ⟨startD N [d1, d2, .ref (2 * fa)], gg, endsOf Qd (fun _ _ => False), rep_start rl hT, rg, pure fa L d1 d2 gg Qd hS, ?_, ?_, ?_⟩
    · rintro env g' σ H' ⟨g0, l, q⟩ t r1 r2
      exact cl _ _ _ _ q t (r2.le l) rfl
    · rintro d g' v H' ⟨g0, l, q⟩ t r1 r2
      exact cl _ _ _ _ q t (r1.le l) r2
    · rintro n env g' σ H' ⟨g0, l, q⟩ t r1 r2
      exact q.elim
theorem ok_defQ {j : Nat} {x xl qual : Str} {params : Arguments} {body : List Stmt} {scope : Scope} {dvs : List V} {kws : List (Str × V)} {f cc Pt : Addr} {fd : FuncData} {N ps : List Str} {sx : SX} {sp : SpD}
    (M : ModF P w K mg base C Γ gl fns gls exs k) (hk : 40 ≤ k) (AF : AskG P w K mg base C j (isSoS Γ) xl) (hj : j ≤ k) (F : FunD K x qual params body scope dvs kws f fd) (hcc : fd.code = .ref cc) (hmT : (cc, Pt, qual ++ ".<locals>." ++ "<lambda>") ∈ TabL) (hu : ∀ p ∈ TabL, p.2.1 = Pt → p.2.2 = qual ++ ".<locals>." ++ "<lambda>") (TB : LamX.TabB base mg cc Pt)
    (S : FnScope N ps scope) (chk : knS sx (ckOfQ N scope fns gls exs xl) body = true)
    (len : ∀ ds g Q E, sp ds g Q E → ds.length = ps.length) (pure : ∀ ds g Q E, sp ds g Q E → mnS Γ gl sx (endsOf Q E) (startD N ds) g) : FnOk P w K mg base (L2N.CX P w) (k + 3) f fd ps (liftSp K C sp) := by
  have len' : ∀ vs H Q E, liftSp K C sp vs H Q E → vs.length = ps.length := fun vs H Q E ⟨ds, g, Qd, Xd, r, _, h, _⟩ => by rw [r.length, len _ _ _ _ h]
  refine FnOk.late len' fun hM => ?_
  obtain ⟨oc, od, dV, kV, doc, pm, an, cdv, ct, osl, rfl, lk, hcd, _, _⟩ := F.ex
  have hcc : cdv = .ref cc := hcc
  subst hcc
  refine L2.fn_of (k := k + 2) lk hcd S len' fun A outer s H vs Q E hr ⟨ds, g, Qd, Xd, r, rg, h, cl, cx, hT⟩ => ?_
  refine ⟨_, soundS (Γ := Γ) (gl := gl) (C := C) sx _ _ (fun cls d _ H => E cls d H) body ?_ chk, ?_⟩
  · refine ⟨⟨rfl, S.nd, rfl, rfl, ⟨M.seer hM, M.tree, hr.mono (by omega), ⟨_, outer, rfl, S.gen, S.co, rfl, rfl⟩⟩, fun _ _ => rfl, fun i y hy => ?_, M.gls, M.free, fun n hn => ⟨(M.exs n hn).mg, (M.exs n hn).ns, (M.exs n hn).k⟩, L2N.takes_of rfl rfl rfl rfl, fun y hy => ?_, .nil⟩, passes_of rfl, fun n hn => ?_, rfl, rfl, rfl, fun i y hy => by cases hy⟩
    · obtain ⟨f, fd, ps, h1, h2, h3, h4⟩ := (M.fns i y hy).ex
      exact ⟨ps, f, fd, k, h1, h2, h3, h4, hr.mono (by omega)⟩
    · have hy : some (Lk.q xl) = some y := hy
      cases hy
      refine ⟨⟨cc, Pt, rfl, hmT, hu, TB⟩, rfl, k, hk, hr, AF.mono hj, fun i y hy => ?_⟩
      obtain ⟨f, fd, ps, h1, h2, h3, h4⟩ := (M.fns i y hy).ex
      exact ⟨ps, f, fd, h1, h2, h3, h4⟩
    · have e := M.exs n hn
      exact ⟨e.mg, e.keep, e.own, raises_own e.sub e.typ⟩
  · refine ⟨startD N ds, g, endsOf Qd Xd, rep_start r hT, rg, pure _ _ _ _ h, ?_, ?_, ?_⟩
    · rintro env g' σ H' ⟨g0, l, q⟩ t r1 r2
      exact cl _ _ _ _ q t (r2.le l) rfl
    · rintro d g' v H' ⟨g0, l, q⟩ t r1 r2
      exact cl _ _ _ _ q t (r1.le l) r2
    · rintro n env g' σ H' ⟨g0, l, q⟩ t r1 r2
      exact cx _ _ _ q t (r2.le l)
theorem chainQ {cc Pt : Addr} {j : Nat} (i : Nat) {x xl : Str} {st : Stmt} {f : Addr} {fd : FuncData} (M : ModF P w K mg base C Γ gl fns gls exs k) (hk : Nat.ble 40 k = true) (AF : AskG P w K mg base C j (isSoS Γ) xl) (hj : Nat.ble j k = true) (F : FnP K x st f fd) (hm : mg x = some (.ref f)) (hcc : fd.code = .ref cc) (hmT : (cc, Pt, x ++ ".<locals>." ++ "<lambda>") ∈ TabL) (hu : ∀ p ∈ TabL, p.2.1 = Pt → p.2.2 = x ++ ".<locals>." ++ "<lambda>") (TB : LamX.TabB base mg cc Pt) (D : DefOkQ Γ gl fns gls exs xl st (Γ i)) :
    ModF P w K mg base C Γ gl ((i, x) :: fns) gls exs (k + 3) := by
  obtain ⟨N, ps, sx, S, chk, hb, len, pure⟩ := D.ex
  have hk := Nat.le_of_ble_eq_true hk
  refine ⟨M.seer, M.tree, fun j y hy => ?_, M.gls, M.free, M.exs⟩
  rw [List.lookup_cons] at hy
  split at hy
  · rename_i e
    have e := eq_of_beq e
    cases hy
    subst e
    exact ⟨f, fd, ps, hm, F.kp, hb _ _ _ _ F, ok_defQ M hk AF (Nat.le_of_ble_eq_true hj) F hcc hmT hu TB S chk len pure⟩
  · exact (M.fns j y hy).mono (by omega)
end
end PP
namespace PP
open PySem PySem.Spec PyProof.Rows L2
theorem G_up_same {g : G} {a : Addr} {xs : List D} : (g.up a xs) a = some xs := by simp [G.up]
theorem G_up_ne {g : G} {a b : Addr} {xs : List D} (h : b ≠ a) : (g.up a xs) b = g b := by simp [G.up, h]
theorem G_up_up {g : G} {a : Addr} {xs ys : List D} : (g.up a xs).up a ys = g.up a ys := by
  funext b; unfold G.up; split <;> rfl
theorem ne_of_known {g : G} {a p : Addr} {xs : List D} (h : g a = some xs) (hp : g p = none) : a ≠ p := fun e => by rw [e, hp] at h; cases h
theorem G_up_fresh {g : G} {a p : Addr} {xs ys : List D} (hp : g p = none) (h : g a = some xs) : (g.up p ys) a = some xs := by rw [G_up_ne (ne_of_known h hp)]; exact h
theorem startD_len {N M : List Str} {ds : List D} (h : N.length = M.length) : startD N ds = startD M ds := by unfold startD; rw [h]
theorem sl0 : ((0 : Nat) ≤ sizeLine) = True := eq_true (by decide +kernel)
theorem sl1 : ((1 : Nat) ≤ sizeLine) = True := eq_true (by decide +kernel)
theorem sl2 : ((2 : Nat) ≤ sizeLine) = True := eq_true (by decide +kernel)
theorem sl3 : ((3 : Nat) ≤ sizeLine) = True := eq_true (by decide +kernel)
theorem sl4 : ((4 : Nat) ≤ sizeLine) = True := eq_true (by decide +kernel)
theorem slN {n : Nat} (h : n ≤ 1000) : n ≤ sizeLine := Nat.le_trans h (by decide +kernel)
section
variable {g : G} {Q : QD} {i j : Int} {a b : Addr} {xs ys : List D}
theorem add_int : dAdd (.int i) (.int j) g Q = Q (.int (i + j)) g := rfl
theorem add_tup : dAdd (.tup xs) (.tup ys) g Q = (xs.length + ys.length ≤ sizeLine ∧ Q (.tup (xs ++ ys)) g) := rfl
theorem sub_int : dSub (.int i) (.int j) g Q = Q (.int (i - j)) g := rfl
theorem mul_int : dMul (.int i) (.int j) g Q = (MulOk i j ∧ Q (.int (i * j)) g) := rfl
theorem mul_tup {k : Int} : dMul (.tup xs) (.int k) g Q = (xs ≠ [] ∧ 0 ≤ k ∧ k ≤ 1000 ∧ xs.length ≤ 1000 ∧ Q (.tup (repD k xs)) g) := rfl
theorem pow_int : dPow (.int i) (.int j) g Q = ((0 ≤ j ∧ j ≤ 1000000 ∧ i.natAbs < 2 ^ 64) ∧ Q (.int (i ^ j.toNat)) g) := rfl
theorem mod_int : dMod (.int i) (.int j) g Q = (j ≠ 0 ∧ Q (.int (i.fmod j)) g) := rfl
theorem fdiv_int : dFdiv (.int i) (.int j) g Q = (j ≠ 0 ∧ Q (.int (i.fdiv j)) g) := rfl
theorem lt_int : dLt (.int i) (.int j) g Q = Q (.bl (decide (i < j))) g := rfl
theorem le_int : dLe (.int i) (.int j) g Q = Q (.bl (decide (i ≤ j))) g := rfl
theorem gt_int : dGt (.int i) (.int j) g Q = Q (.bl (decide (j < i))) g := rfl
theorem ge_int : dGe (.int i) (.int j) g Q = Q (.bl (decide (j ≤ i))) g := rfl
theorem eq_int {n : Bool} : dEqB n (.int i) (.int j) g Q = Q (.bl (n != decide (i = j))) g := rfl
theorem neg_int : dNeg (.int i) g Q = Q (.int (-i)) g := rfl
theorem len_tup : dLen [.tup xs] g Q = Q (.int xs.length) g := rfl
theorem len_scr {ns : List Int} : dLen [.scr ns] g Q = Q (.int ns.length) g := rfl
theorem abs_int : dAbs [.int i] g Q = Q (.int (i.natAbs : Int)) g := rfl
theorem max_int : dMax [.int i, .int j] g Q = Q (.int (max i j)) g := rfl
theorem min_int : dMin [.int i, .int j] g Q = Q (.int (min i j)) g := rfl
theorem int_int : dInt [.int i] g Q = Q (.int i) g := rfl
theorem int_bl {k : Bool} : dInt [.bl k] g Q = Q (.int (if k then 1 else 0)) g := rfl
theorem r1_int {R : List D → (G → Prop) → G → Prop} : dRange1 (.int j) g R = ((-(2 ^ 62) ≤ j ∧ j < 2 ^ 62) ∧ R (rangeD 0 j.toNat) (fun _ => True) g) := rfl
theorem r2_int {R : List D → (G → Prop) → G → Prop} : dRange2 (.int i) (.int j) g R = ((-(2 ^ 62) ≤ i ∧ i < 2 ^ 62 ∧ -(2 ^ 62) ≤ j ∧ j < 2 ^ 62) ∧ R (rangeD i (j - i).toNat) (fun _ => True) g) := rfl
theorem tuple_tup : dTuple [.tup xs] g Q = Q (.tup xs) g := rfl
theorem list_tup : dList [.tup xs] g Q = ∀ p, g p = none → Q (.ref p) (g.up p xs) := rfl
theorem over_tup {R : List D → (G → Prop) → G → Prop} : dOver (.tup xs) g R = R xs (fun _ => True) g := rfl
theorem rev_tup {R : List D → (G → Prop) → G → Prop} : dRev (.tup xs) g R = R xs.reverse (fun _ => True) g := rfl
theorem enum_tup {R : List D → (G → Prop) → G → Prop} : dEnum (.tup xs) g R = R (enumD xs) (fun _ => True) g := rfl
theorem zip_tup {R : List D → (G → Prop) → G → Prop} : dZip (.tup xs) (.tup ys) g R = R (zipD xs ys) (fun _ => True) g := rfl
theorem slc_tup {lo hi : Option Int} : dSl (.tup xs) lo hi g Q = Q (.tup (cut xs lo hi)) g := rfl
theorem ix_tup : dIx (.tup xs) (.int i) g Q = (match atI xs i with | some d => Q d g | none => False) := rfl
theorem ix_scr {ns : List Int} : dIx (.scr ns) (.int i) g Q = (match atI ns i with | some n => Q (.int n) g | none => False) := rfl
theorem set_ref {v : D} {N : G → Prop} (h : g a = some xs) : dSet (.ref a) (.int i) v g N = (match ixN xs.length i with | some j => N (g.up a (xs.set j v)) | none => False) := by unfold dSet; simp only [h] <;> rfl
theorem isi_any {ts : List Ty} {d : D} : dIsi ts d g Q = (knownD g d ∧ Q (.bl (ts.any fun t => isTy t d)) g) := rfl
theorem at_mk {nx : Env → G → Prop} {rt : QD} {ex : Ex → Env → G → Prop} {env : Env} : DEnds.at ⟨nx, rt, ex⟩ env = fun n g => ex n env g := rfl
theorem add_ref (h : g a = some xs) (h' : g b = some ys) : dAdd (.ref a) (.ref b) g Q = (xs.length + ys.length ≤ sizeLine ∧ ∀ p, g p = none → Q (.ref p) (g.up p (xs ++ ys))) := by unfold dAdd; simp only [h, h'] <;> rfl
theorem len_ref (h : g a = some xs) : dLen [.ref a] g Q = Q (.int xs.length) g := by unfold dLen; simp only [h] <;> rfl
theorem tuple_ref (h : g a = some xs) : dTuple [.ref a] g Q = Q (.tup xs) g := by unfold dTuple; simp only [h] <;> rfl
theorem over_ref {R : List D → (G → Prop) → G → Prop} (h : g a = some xs) : dOver (.ref a) g R = R xs (fun g' => g' a = some xs) g := by unfold dOver; simp only [h] <;> rfl
theorem slc_ref {lo hi : Option Int} (h : g a = some xs) : dSl (.ref a) lo hi g Q = ∀ p, g p = none → Q (.ref p) (g.up p (cut xs lo hi)) := by unfold dSl; simp only [h] <;> rfl
theorem ix_ref (h : g a = some xs) : dIx (.ref a) (.int i) g Q = (match atI xs i with | some d => Q d g | none => False) := by unfold dIx; simp only [h] <;> rfl
theorem pop_ref (h : g a = some xs) : mPop (.ref a) [] g Q = (match xs[xs.length - 1]? with | some y => Q y (g.up a xs.dropLast) | none => False) := by unfold mPop; simp only [h] <;> rfl
theorem rc_ref : recv .list (.ref a) g = ((g a).isSome = true) := rfl
theorem known_tup : knownD g (.tup xs) = True := rfl
end
section
variable {α : Type}
theorem atI_at {xs : List α} {i : Int} {k : Nat} {x : α} (hi : i = (k : Int)) (h : xs[k]? = some x) : atI xs i = some x := by
  have hk : k < xs.length := by
    rcases Nat.lt_or_ge k xs.length with z | z
    · exact z
    · rw [List.getElem?_eq_none z] at h; cases h
  subst hi
  unfold atI ixN
  rw [if_pos (by omega), if_pos (by omega)]
  exact h
theorem atI_0 {x : α} {xs : List α} : atI (x :: xs) 0 = some x := atI_at (k := 0) rfl rfl
theorem atI_1 {x y : α} {xs : List α} : atI (x :: y :: xs) 1 = some y := atI_at (k := 1) rfl rfl
theorem atI_2 {x y z : α} {xs : List α} : atI (x :: y :: z :: xs) 2 = some z := atI_at (k := 2) rfl rfl
theorem atI_mem {xs : List α} {k : Nat} (h : k < xs.length) : ∃ x, atI xs (k : Int) = some x ∧ x ∈ xs := ⟨xs[k], atI_at rfl (List.getElem?_eq_getElem h), List.getElem_mem h⟩
end
section
variable {g : G} {Q : QD} {a : Addr} {xs : List D} {i : Int}
theorem ix_some (h : g a = some xs) (h0 : 0 ≤ i) (h1 : i < xs.length) (k : ∀ x ∈ xs, Q x g) : dIx (.ref a) (.int i) g Q := by
  rw [ix_ref h]
  obtain ⟨x, e, hx⟩ := atI_mem (xs := xs) (k := i.toNat) (by omega)
  rw [show i = (i.toNat : Int) by omega, e]
  exact k x hx
end
theorem for_inv {stay : G → Prop} {body : D → Env → G → (Env → G → Prop) → Prop} {fin : Env → G → Prop} {items : List D} (I : Nat → Env → G → Prop)
    (st : ∀ k env g, I k env g → stay g)
    (step : ∀ k x env g N, items[k]? = some x → I k env g → (∀ env' g', I (k + 1) env' g' → N env' g') → body x env g N)
    (done : ∀ env g, I items.length env g → fin env g) {env : Env} {g : G} (h0 : I 0 env g) : forD stay body fin items env g := by
  have H : ∀ (rest : List D) (k : Nat) (env : Env) (g : G), (∀ j, rest[j]? = items[k + j]?) → k + rest.length = items.length → I k env g → forD stay body fin rest env g := by
    intro rest
    induction rest with
    | nil => intro k env g _ hl h; exact ⟨st _ _ _ h, done _ _ (by rw [← hl]; exact h)⟩
    | cons x rest ih =>
      intro k env g hr hl h
      refine ⟨st _ _ _ h, step k x env g _ ((hr 0).symm) h fun env' g' h' => ih (k + 1) env' g' (fun j => ?_) (by simp at hl; omega) h'⟩
      rw [show k + 1 + j = k + (j + 1) by omega, ← hr (j + 1)]
      rfl
  exact H items 0 env g (fun j => by rw [Nat.zero_add]) (by simp) h0
theorem comp_inv {stay : G → Prop} {p : Addr} {body : D → G → (Option D → G → Prop) → Prop} {fin : G → Prop} {items : List D} (I : Nat → List D → G → Prop)
    (st : ∀ k acc g, I k acc g → stay g)
    (step : ∀ k x acc g N, items[k]? = some x → I k acc g → (∀ d g', g' p = some acc → I (k + 1) (acc ++ [d]) (g'.up p (acc ++ [d])) → N (some d) g') → (∀ g', g' p = some acc → I (k + 1) acc g' → N none g') → body x g N)
    (done : ∀ acc g, I items.length acc g → fin g) {g : G} (h0 : I 0 [] g) : compD stay p body fin items [] g := by
  have H : ∀ (rest : List D) (k : Nat) (acc : List D) (g : G), (∀ j, rest[j]? = items[k + j]?) → k + rest.length = items.length → I k acc g → compD stay p body fin rest acc g := by
    intro rest
    induction rest with
    | nil => intro k acc g _ hl h; exact ⟨st _ _ _ h, done _ _ (by rw [← hl]; exact h)⟩
    | cons x rest ih =>
      intro k acc g hr hl h
      have hr' : ∀ j, rest[j]? = items[k + 1 + j]? := fun j => by
        rw [show k + 1 + j = k + (j + 1) by omega, ← hr (j + 1)]
        rfl
      exact ⟨st _ _ _ h, step k x acc g _ ((hr 0).symm) h (fun d g' e h' => ⟨e, ih (k + 1) _ _ hr' (by simp at hl; omega) h'⟩) fun g' e h' => ⟨e, ih (k + 1) _ _ hr' (by simp at hl; omega) h'⟩⟩
  exact H items 0 [] g (fun j => by rw [Nat.zero_add]) (by simp) h0
theorem range_at {lo : Int} {n k : Nat} {x : D} (h : (rangeD lo n)[k]? = some x) : k < n ∧ x = .int (lo + k) := by
  unfold rangeD at h
  rw [List.getElem?_map] at h
  cases q : (List.range n)[k]? with
  | none => rw [q] at h; cases h
  | some j =>
    rw [q] at h
    cases h
    rw [List.getElem?_eq_some_iff] at q
    obtain ⟨hk, e⟩ := q
    simp at hk e
    exact ⟨hk, by rw [e]⟩
theorem range_len {lo : Int} {n : Nat} : (rangeD lo n).length = n := by simp [rangeD]
def num (q : Rat) : D := .tup [.int q.num, .int q.den]
def nums (qs : List Rat) : List D := qs.map num
theorem nums_len (qs : List Rat) : (nums qs).length = qs.length := List.length_map ..
theorem nums_at {qs : List Rat} {k : Nat} {x : D} (h : (nums qs)[k]? = some x) : ∃ q, qs[k]? = some q ∧ x = num q := by
  unfold nums at h
  rw [List.getElem?_map] at h
  cases q : qs[k]? with
  | none => rw [q] at h; cases h
  | some j => rw [q] at h; cases h; exact ⟨j, rfl, rfl⟩
theorem atI_nums {qs : List Rat} {i : Int} {k : Nat} {q : Rat} (hi : i = (k : Int)) (h : qs[k]? = some q) : atI (nums qs) i = some (num q) := atI_at hi (by unfold nums; rw [List.getElem?_map, h]; rfl)
theorem ix_num0 {q : Rat} {g : G} {Q : QD} : dIx (num q) (.int 0) g Q = Q (.int q.num) g := by
  unfold dIx num; simp only [atI_0]
theorem ix_num1 {q : Rat} {g : G} {Q : QD} : dIx (num q) (.int 1) g Q = Q (.int q.den) g := by
  unfold dIx num; simp only [atI_1]
theorem len_num {q : Rat} {g : G} {Q : QD} : dLen [num q] g Q = Q (.int 2) g := rfl
theorem num_0 : D.tup [.int 0, .int 1] = num 0 := rfl
theorem num_1 : D.tup [.int 1, .int 1] = num 1 := rfl
theorem num_inj {p q : Rat} (h : num p = num q) : p = q := by
  unfold num at h
  simp only [D.tup.injEq, List.cons.injEq, D.int.injEq, and_true] at h
  exact Rat.ext h.1 (by omega)
def bits (n : Nat) : Nat := n.log2 + 1
def sz (q : Rat) : Nat := max (bits q.num.natAbs) (bits q.den)
theorem lt_bits (n : Nat) : n < 2 ^ bits n := Nat.lt_log2_self
theorem bits_le {n b : Nat} (h : n < 2 ^ b) (hb : 0 < b) : bits n ≤ b := by
  unfold bits
  by_cases h0 : n = 0
  · subst h0; simp; omega
  · have := (Nat.log2_lt h0).mpr h; omega
theorem sz_num (q : Rat) : q.num.natAbs < 2 ^ sz q := Nat.lt_of_lt_of_le (lt_bits _) (Nat.pow_le_pow_right (by decide) (Nat.le_max_left ..))
theorem sz_den (q : Rat) : q.den < 2 ^ sz q := Nat.lt_of_lt_of_le (lt_bits _) (Nat.pow_le_pow_right (by decide) (Nat.le_max_right ..))
theorem sz_le {q : Rat} {b : Nat} (h1 : q.num.natAbs < 2 ^ b) (h2 : q.den < 2 ^ b) (hb : 0 < b) : sz q ≤ b := Nat.max_le.mpr ⟨bits_le h1 hb, bits_le h2 hb⟩
theorem sz_divInt {t b : Int} {c : Nat} (ht : t.natAbs < 2 ^ c) (hb : b.natAbs < 2 ^ c) (h0 : b ≠ 0) : sz (Rat.divInt t b) ≤ c := by
  have hc : 0 < c := by
    rcases Nat.eq_zero_or_pos c with z | z
    · subst z; simp at hb; omega
    · exact z
  refine sz_le ?_ ?_ hc
  · rw [Rat.num_divInt, Int.natAbs_ediv_of_dvd ?_]
    · refine Nat.lt_of_le_of_lt (Nat.div_le_self _ _) ?_
      rw [Int.natAbs_mul]
      have : b.sign.natAbs ≤ 1 := by
        rcases Int.lt_trichotomy b 0 with z | z | z
        · rw [Int.sign_eq_neg_one_of_neg z]; decide
        · exact absurd z h0
        · rw [Int.sign_eq_one_of_pos z]; decide
      calc b.sign.natAbs * t.natAbs ≤ 1 * t.natAbs := Nat.mul_le_mul_right _ this
        _ < 2 ^ c := by rw [Nat.one_mul]; exact ht
    · exact Int.dvd_trans (Int.gcd_dvd_right ..) (Int.dvd_mul_left ..)
  · rw [Rat.den_divInt, if_neg h0]
    exact Nat.lt_of_le_of_lt (Nat.div_le_self _ _) hb
theorem num_bits (q : Rat) : bits q.num.natAbs ≤ sz q := Nat.le_max_left ..
theorem den_bits (q : Rat) : bits q.den ≤ sz q := Nat.le_max_right ..
theorem sz_mul (p q : Rat) : sz (p * q) ≤ sz p + sz q := by
  have h : Rat.divInt (p.num * q.num) (p.den * q.den) = p * q := by
    rw [← Rat.divInt_mul_divInt, Rat.num_divInt_den, Rat.num_divInt_den]
  rw [← h]
  have a := num_bits p; have b := num_bits q; have c := den_bits p; have d := den_bits q
  refine sz_divInt ?_ ?_ ?_
  · rw [Int.natAbs_mul, Nat.pow_add]
    exact Nat.mul_lt_mul'' (sz_num p) (sz_num q)
  · rw [Int.natAbs_mul, Nat.pow_add]
    exact Nat.mul_lt_mul'' (sz_den p) (sz_den q)
  · have := p.den_nz; have := q.den_nz
    exact Int.mul_ne_zero (by omega) (by omega)
theorem sz_neg (p : Rat) : sz (-p) = sz p := by unfold sz; rw [show (-p).num = -p.num from rfl, show (-p).den = p.den from rfl, Int.natAbs_neg]
theorem sz_add (p q : Rat) : sz (p + q) ≤ sz p + sz q + 1 := by
  have h : Rat.divInt (p.num * q.den + q.num * p.den) (p.den * q.den) = p + q := by
    have := p.den_nz; have := q.den_nz
    rw [← Rat.divInt_add_divInt _ _ (by omega) (by omega), Rat.num_divInt_den, Rat.num_divInt_den]
  rw [← h]
  refine sz_divInt ?_ ?_ ?_
  · have h1 : (p.num * q.den).natAbs < 2 ^ (sz p + sz q) := by
      rw [Int.natAbs_mul, Nat.pow_add]
      exact Nat.mul_lt_mul'' (sz_num p) (sz_den q)
    have h2 : (q.num * p.den).natAbs < 2 ^ (sz p + sz q) := by
      rw [Int.natAbs_mul, Nat.pow_add, Nat.mul_comm (2 ^ sz p)]
      exact Nat.mul_lt_mul'' (sz_num q) (sz_den p)
    have h3 := Int.natAbs_add_le (p.num * q.den) (q.num * p.den)
    rw [Nat.pow_succ]
    omega
  · rw [Int.natAbs_mul]
    refine Nat.lt_of_lt_of_le ?_ (Nat.pow_le_pow_right (by decide) (Nat.le_succ _))
    rw [Nat.pow_add]
    exact Nat.mul_lt_mul'' (sz_den p) (sz_den q)
  · have := p.den_nz; have := q.den_nz
    exact Int.mul_ne_zero (by omega) (by omega)
theorem sz_sub (p q : Rat) : sz (p - q) ≤ sz p + sz q + 1 := by
  rw [Rat.sub_eq_add_neg, ← sz_neg q]
  exact sz_add p (-q)
theorem sz_0 : sz 0 = 1 := by decide
theorem mulOk_of {i j : Int} {a b : Nat} (h1 : i.natAbs < 2 ^ a) (h2 : j.natAbs < 2 ^ b) (h : a + b ≤ 100000000) : MulOk i j := by
  unfold MulOk
  have k : ∀ {n a : Nat}, n < 2 ^ a → n.log2 < a ∨ (n.log2 = 0 ∧ a = 0) := fun {n a} h => by
    by_cases h0 : n = 0
    · subst h0
      by_cases ha : a = 0
      · exact .inr ⟨by simp, ha⟩
      · exact .inl (by simp; omega)
    · exact .inl ((Nat.log2_lt h0).mpr h)
  rcases k h1 with h1 | h1 <;> rcases k h2 with h2 | h2 <;> omega
theorem mulOk_num (p q : Rat) (h : sz p + sz q ≤ 100000000) : MulOk p.num q.num := mulOk_of (sz_num p) (sz_num q) h
theorem mulOk_den (p q : Rat) (h : sz p + sz q ≤ 100000000) : MulOk (p.den : Int) (q.den : Int) := mulOk_of (sz_den p) (sz_den q) h
theorem mulOk_nd (p q : Rat) (h : sz p + sz q ≤ 100000000) : MulOk p.num (q.den : Int) := mulOk_of (sz_num p) (sz_den q) h
end PP
namespace PP
open PySem PySem.Spec PyProof.Rows L2
def sx_shared_part : SX :=
  (.asg (.n 0) (.blt .abs (.cons (.v 0) .nil))
  (.asg (.n 1) (.blt .abs (.cons (.v 1) .nil))
  (.whl (.cmp .gt (.v 1) (.int 0))
    (.par 0 1 (.v 1) (.bin .mod (.v 0) (.v 1)) .nil)
  (.ret (.v 0) .nil))))
abbrev ns_shared_part : List Str := ["one", "other"]
def sx_law_lowest : SX :=
  (.asg (.n 2) (.blt .abs (.cons (.v 0) .nil))
  (.asg (.n 3) (.blt .abs (.cons (.v 1) .nil))
  (.whl (.cmp .gt (.v 3) (.int 0))
    (.par 2 3 (.v 3) (.bin .mod (.v 2) (.v 3)) .nil)
  (.ite (.cmp .lt (.v 1) (.int 0))
    (.asg (.n 2) (.bin .sub (.int 0) (.v 2)) .nil)
    .nil
  (.ret (.tup (.cons (.bin .fdiv (.v 0) (.v 2)) (.cons (.bin .fdiv (.v 1) (.v 2)) .nil))) .nil)))))
abbrev ns_law_lowest : List Str := ["_law_top_here", "_law_bottom", "_law_one", "_law_other"]
def sx_lowest : SX :=
  (.asg (.n 2) (.call 0 (.cons (.v 0) (.cons (.v 1) .nil)))
  (.ite (.cmp .lt (.v 1) (.int 0))
    (.asg (.n 2) (.bin .sub (.int 0) (.v 2)) .nil)
    .nil
  (.ret (.tup (.cons (.bin .fdiv (.v 0) (.v 2)) (.cons (.bin .fdiv (.v 1) (.v 2)) .nil))) .nil)))
abbrev ns_lowest : List Str := ["top", "bottom", "part"]
def spShared : SpD := fun ds g Q _ => ∃ a b : Int, ds = [.int a, .int b] ∧ Q (.int (Int.gcd a b)) g
theorem gcd_turn {a b : Nat} (h : 0 < b) : Nat.gcd b (a % b) = Nat.gcd a b := by
  rw [Nat.gcd_comm b, ← Nat.gcd_rec, Nat.gcd_comm]
theorem fmod_nat (a b : Nat) : Int.fmod (a : Int) (b : Int) = ((a % b : Nat) : Int) := by
  rw [Int.fmod_eq_emod_of_nonneg _ (by omega)]
  rfl
theorem pure_shared_part {Γ : Nat → SpD} {gl : Nat → D} {ds g Q E} (h : spShared ds g Q E) : mnS Γ gl sx_shared_part (endsOf Q E) (startD ns_shared_part ds) g := by
  obtain ⟨a, b, rfl, h⟩ := h
  simp only [sx_shared_part, mnS, dLamr, mn, Mn.of, Op.rd, Cm.rd, Bl.rd, Mt.rd, Mt.rc, dNop, dSeq, dExpr, dRet, dRetN, dIf, gD, dAsg, dPar, dPut, dRaise, dVar, dC, dBin, dUn, dNil, dCons, dTup, dLst, dTst, dAndT, dOrT, dNotT, dYes, dAnd, dOr, dNot, dChain, dCall, dCB, dMt, dLset, dSrev, dTry, dIsx, dEmp, dDic1, dStp, dFld, dMeth, dMake, dFset, dGin, dGix, dRep, dTryu, dTryn, conD, xsub, Ex.sub, dSlc, dPart, dNoPart, dIAny, dI1, dI2, dI3, dFor, dComp, compB, wipeD, startD, endsOf, at_mk, setAll, add_int, sub_int, mul_int, mul_tup, pow_int, mod_int, fdiv_int, lt_int, le_int, gt_int, ge_int, eq_int, neg_int, len_tup, len_scr, abs_int, max_int, min_int, int_int, int_bl, r1_int, r2_int, tuple_tup, list_tup, over_tup, rev_tup, enum_tup, zip_tup, slc_tup, add_tup, isi_any, ix_tup, ix_scr, ix_num0, ix_num1, len_num, num_0, num_1, atI_0, atI_1, atI_2, List.map, List.cons_append, List.nil_append, List.getElem?_cons_zero, List.getElem?_cons_succ, List.getElem?_nil, List.set_cons_zero, List.set_cons_succ, List.replicate, List.length_cons, List.length_nil, List.foldr_cons, List.foldr_nil, Nat.reduceAdd, Nat.reduceSub, List.replicate_succ, List.replicate_zero, G_up_same, decide_eq_true_eq, Bool.not_eq_true', Bool.false_eq_true, if_true, if_false, ite_true, ite_false, and_true, true_and, reduceCtorEq, Bool.not_true, Bool.not_false, Bool.false_bne, Bool.true_bne, sl0, sl1, sl2, sl3, sl4]
  refine ⟨fun m env g' => g' = g ∧ ∃ x : Nat, env = [some (.int x), some (.int m)] ∧ Nat.gcd x m = Int.gcd a b, ⟨b.natAbs, rfl, a.natAbs, rfl, rfl⟩, ?_⟩
  rintro m env g' ⟨rfl, x, rfl, hx⟩
  try simp only [mnS, dLamr, mn, Mn.of, Op.rd, Cm.rd, Bl.rd, Mt.rd, Mt.rc, dNop, dSeq, dExpr, dRet, dRetN, dIf, gD, dAsg, dPar, dPut, dRaise, dVar, dC, dBin, dUn, dNil, dCons, dTup, dLst, dTst, dAndT, dOrT, dNotT, dYes, dAnd, dOr, dNot, dChain, dCall, dCB, dMt, dLset, dSrev, dTry, dIsx, dEmp, dDic1, dStp, dFld, dMeth, dMake, dFset, dGin, dGix, dRep, dTryu, dTryn, conD, xsub, Ex.sub, dSlc, dPart, dNoPart, dIAny, dI1, dI2, dI3, dFor, dComp, compB, wipeD, startD, endsOf, at_mk, setAll, add_int, sub_int, mul_int, mul_tup, pow_int, mod_int, fdiv_int, lt_int, le_int, gt_int, ge_int, eq_int, neg_int, len_tup, len_scr, abs_int, max_int, min_int, int_int, int_bl, r1_int, r2_int, tuple_tup, list_tup, over_tup, rev_tup, enum_tup, zip_tup, slc_tup, add_tup, isi_any, ix_tup, ix_scr, ix_num0, ix_num1, len_num, num_0, num_1, atI_0, atI_1, atI_2, List.map, List.cons_append, List.nil_append, List.getElem?_cons_zero, List.getElem?_cons_succ, List.getElem?_nil, List.set_cons_zero, List.set_cons_succ, List.replicate, List.length_cons, List.length_nil, List.foldr_cons, List.foldr_nil, Nat.reduceAdd, Nat.reduceSub, List.replicate_succ, List.replicate_zero, G_up_same, decide_eq_true_eq, Bool.not_eq_true', Bool.false_eq_true, if_true, if_false, ite_true, ite_false, and_true, true_and, reduceCtorEq, Bool.not_true, Bool.not_false, Bool.false_bne, Bool.true_bne, sl0, sl1, sl2, sl3, sl4]
  split
  · rename_i hb
    refine ⟨by omega, x % m, Nat.mod_lt _ (by omega), m, by rw [fmod_nat], ?_⟩
    rw [gcd_turn (by omega), hx]
  · rename_i hb
    have : m = 0 := by omega
    subst this
    rw [Nat.gcd_zero_right] at hx
    exact ⟨_, G.le_refl _, by rw [hx]; exact h⟩
theorem num_divInt_eq (t b : Int) (hb : b ≠ 0) : num (Rat.divInt t b) = .tup [.int (t.fdiv (b.sign * (Int.gcd t b : Int))), .int (b.fdiv (b.sign * (Int.gcd t b : Int)))] := by
  have hg : (0 : Int) < (Int.gcd t b : Int) := by
    have := Int.gcd_pos_of_ne_zero_right t hb
    omega
  have e1 : (Int.gcd t b : Int) ∣ t := Int.gcd_dvd_left ..
  have e2 : (Int.gcd t b : Int) ∣ b := Int.gcd_dvd_right ..
  unfold num
  rw [Rat.num_divInt, Rat.den_divInt, if_neg hb, Int.gcd_comm b t]
  obtain ⟨x, hx⟩ := e1
  obtain ⟨y, hy⟩ := e2
  have hn : b.natAbs = Int.gcd t b * y.natAbs := by
    have := congrArg Int.natAbs hy
    rw [Int.natAbs_mul, Int.natAbs_natCast] at this
    exact this
  have hgn : 0 < Int.gcd t b := by omega
  generalize Int.gcd t b = d at *
  rcases Int.lt_or_gt_of_ne hb with hs | hs
  · rw [Int.sign_eq_neg_one_of_neg hs]
    have hy0 : y < 0 := by
      rcases Int.lt_or_le y 0 with z | z
      · exact z
      · have := Int.mul_nonneg (Int.le_of_lt hg) z; omega
    have d1 : (-1 * t / (d : Int)) = -x := by
      rw [hx, show -1 * ((d : Int) * x) = (d : Int) * (-x) by rw [Int.mul_neg]; omega, Int.mul_ediv_cancel_left _ (by omega)]
    have d2 : (b.natAbs / d) = y.natAbs := by rw [hn, Nat.mul_div_cancel_left _ hgn]
    have d3 : Int.fdiv t (-1 * (d : Int)) = -x := by
      rw [hx, show (d : Int) * x = (-x) * (-1 * (d : Int)) by rw [Int.neg_mul, ← Int.mul_neg]; simp [Int.mul_comm]]
      exact Int.mul_fdiv_cancel _ (by omega)
    have d4 : Int.fdiv b (-1 * (d : Int)) = -y := by
      rw [hy, show (d : Int) * y = (-y) * (-1 * (d : Int)) by rw [Int.neg_mul, ← Int.mul_neg]; simp [Int.mul_comm]]
      exact Int.mul_fdiv_cancel _ (by omega)
    rw [d1, d2, d3, d4, show ((y.natAbs : Int)) = -y by omega]
  · rw [Int.sign_eq_one_of_pos hs]
    have hy0 : 0 < y := by
      rcases Int.lt_or_le 0 y with z | z
      · exact z
      · have := Int.mul_nonpos_of_nonneg_of_nonpos (Int.le_of_lt hg) z; omega
    have d1 : (1 * t / (d : Int)) = x := by rw [hx, Int.one_mul, Int.mul_ediv_cancel_left _ (by omega)]
    have d2 : (b.natAbs / d) = y.natAbs := by rw [hn, Nat.mul_div_cancel_left _ hgn]
    have d3 : Int.fdiv t (1 * (d : Int)) = x := by
      rw [hx, Int.one_mul, Int.mul_comm]
      exact Int.mul_fdiv_cancel _ (by omega)
    have d4 : Int.fdiv b (1 * (d : Int)) = y := by
      rw [hy, Int.one_mul, Int.mul_comm]
      exact Int.mul_fdiv_cancel _ (by omega)
    rw [d1, d2, d3, d4, show ((y.natAbs : Int)) = y by omega]
def spLowest : SpD := fun ds g Q _ => ∃ t b : Int, ds = [.int t, .int b] ∧ b ≠ 0 ∧ Q (num (Rat.divInt t b)) g
theorem c_lowest {t b : Int} {g : G} {Q : QD} {X : XD} : spLowest [.int t, .int b] g Q X ↔ b ≠ 0 ∧ Q (num (Rat.divInt t b)) g :=
  ⟨fun ⟨_, _, e, h⟩ => by simp only [List.cons.injEq, D.int.injEq, and_true] at e; obtain ⟨rfl, rfl⟩ := e; exact h, fun h => ⟨t, b, rfl, h⟩⟩
theorem pure_lowest {Γ : Nat → SpD} {gl : Nat → D} (h0 : Γ 0 = spShared) {ds g Q E} (h : spLowest ds g Q E) : mnS Γ gl sx_lowest (endsOf Q E) (startD ns_lowest ds) g := by
  obtain ⟨t, b, rfl, hb, h⟩ := h
  rw [num_divInt_eq t b hb] at h
  have hg := Int.gcd_pos_of_ne_zero_right t hb
  simp only [sx_lowest, h0, spShared, mnS, dLamr, mn, Mn.of, Op.rd, Cm.rd, Bl.rd, Mt.rd, Mt.rc, dNop, dSeq, dExpr, dRet, dRetN, dIf, gD, dAsg, dPar, dPut, dRaise, dVar, dC, dBin, dUn, dNil, dCons, dTup, dLst, dTst, dAndT, dOrT, dNotT, dYes, dAnd, dOr, dNot, dChain, dCall, dCB, dMt, dLset, dSrev, dTry, dIsx, dEmp, dDic1, dStp, dFld, dMeth, dMake, dFset, dGin, dGix, dRep, dTryu, dTryn, conD, xsub, Ex.sub, dSlc, dPart, dNoPart, dIAny, dI1, dI2, dI3, dFor, dComp, compB, wipeD, startD, endsOf, at_mk, setAll, add_int, sub_int, mul_int, mul_tup, pow_int, mod_int, fdiv_int, lt_int, le_int, gt_int, ge_int, eq_int, neg_int, len_tup, len_scr, abs_int, max_int, min_int, int_int, int_bl, r1_int, r2_int, tuple_tup, list_tup, over_tup, rev_tup, enum_tup, zip_tup, slc_tup, add_tup, isi_any, ix_tup, ix_scr, ix_num0, ix_num1, len_num, num_0, num_1, atI_0, atI_1, atI_2, List.map, List.cons_append, List.nil_append, List.getElem?_cons_zero, List.getElem?_cons_succ, List.getElem?_nil, List.set_cons_zero, List.set_cons_succ, List.replicate, List.length_cons, List.length_nil, List.foldr_cons, List.foldr_nil, Nat.reduceAdd, Nat.reduceSub, List.replicate_succ, List.replicate_zero, G_up_same, decide_eq_true_eq, Bool.not_eq_true', Bool.false_eq_true, if_true, if_false, ite_true, ite_false, and_true, true_and, reduceCtorEq, Bool.not_true, Bool.not_false, Bool.false_bne, Bool.true_bne, sl0, sl1, sl2, sl3, sl4]
  refine ⟨t, b, rfl, ?_⟩
  split
  · rename_i hs
    rw [Int.sign_eq_neg_one_of_neg hs] at h
    rw [show (0 : Int) - (Int.gcd t b : Int) = -1 * (Int.gcd t b : Int) by omega]
    exact ⟨by omega, by omega, _, G.le_refl _, h⟩
  · rename_i hs
    rw [Int.sign_eq_one_of_pos (by omega), Int.one_mul] at h
    exact ⟨by omega, by omega, _, G.le_refl _, h⟩
theorem pure_law_lowest {Γ : Nat → SpD} {gl : Nat → D} {ds g Q E} (h : spLowest ds g Q E) : mnS Γ gl sx_law_lowest (endsOf Q E) (startD ns_law_lowest ds) g := by
  obtain ⟨t, b, rfl, hb, h⟩ := h
  rw [num_divInt_eq t b hb] at h
  have hg := Int.gcd_pos_of_ne_zero_right t hb
  simp only [sx_law_lowest, mnS, dLamr, mn, Mn.of, Op.rd, Cm.rd, Bl.rd, Mt.rd, Mt.rc, dNop, dSeq, dExpr, dRet, dRetN, dIf, gD, dAsg, dPar, dPut, dRaise, dVar, dC, dBin, dUn, dNil, dCons, dTup, dLst, dTst, dAndT, dOrT, dNotT, dYes, dAnd, dOr, dNot, dChain, dCall, dCB, dMt, dLset, dSrev, dTry, dIsx, dEmp, dDic1, dStp, dFld, dMeth, dMake, dFset, dGin, dGix, dRep, dTryu, dTryn, conD, xsub, Ex.sub, dSlc, dPart, dNoPart, dIAny, dI1, dI2, dI3, dFor, dComp, compB, wipeD, startD, endsOf, at_mk, setAll, add_int, sub_int, mul_int, mul_tup, pow_int, mod_int, fdiv_int, lt_int, le_int, gt_int, ge_int, eq_int, neg_int, len_tup, len_scr, abs_int, max_int, min_int, int_int, int_bl, r1_int, r2_int, tuple_tup, list_tup, over_tup, rev_tup, enum_tup, zip_tup, slc_tup, add_tup, isi_any, ix_tup, ix_scr, ix_num0, ix_num1, len_num, num_0, num_1, atI_0, atI_1, atI_2, List.map, List.cons_append, List.nil_append, List.getElem?_cons_zero, List.getElem?_cons_succ, List.getElem?_nil, List.set_cons_zero, List.set_cons_succ, List.replicate, List.length_cons, List.length_nil, List.foldr_cons, List.foldr_nil, Nat.reduceAdd, Nat.reduceSub, List.replicate_succ, List.replicate_zero, G_up_same, decide_eq_true_eq, Bool.not_eq_true', Bool.false_eq_true, if_true, if_false, ite_true, ite_false, and_true, true_and, reduceCtorEq, Bool.not_true, Bool.not_false, Bool.false_bne, Bool.true_bne, sl0, sl1, sl2, sl3, sl4]
  refine ⟨fun m env g' => g' = g ∧ ∃ x : Nat, env = [some (.int t), some (.int b), some (.int x), some (.int m)] ∧ Nat.gcd x m = Int.gcd t b, ⟨b.natAbs, rfl, t.natAbs, rfl, rfl⟩, ?_⟩
  rintro m env g' ⟨rfl, x, rfl, hx⟩
  try simp only [mnS, dLamr, mn, Mn.of, Op.rd, Cm.rd, Bl.rd, Mt.rd, Mt.rc, dNop, dSeq, dExpr, dRet, dRetN, dIf, gD, dAsg, dPar, dPut, dRaise, dVar, dC, dBin, dUn, dNil, dCons, dTup, dLst, dTst, dAndT, dOrT, dNotT, dYes, dAnd, dOr, dNot, dChain, dCall, dCB, dMt, dLset, dSrev, dTry, dIsx, dEmp, dDic1, dStp, dFld, dMeth, dMake, dFset, dGin, dGix, dRep, dTryu, dTryn, conD, xsub, Ex.sub, dSlc, dPart, dNoPart, dIAny, dI1, dI2, dI3, dFor, dComp, compB, wipeD, startD, endsOf, at_mk, setAll, add_int, sub_int, mul_int, mul_tup, pow_int, mod_int, fdiv_int, lt_int, le_int, gt_int, ge_int, eq_int, neg_int, len_tup, len_scr, abs_int, max_int, min_int, int_int, int_bl, r1_int, r2_int, tuple_tup, list_tup, over_tup, rev_tup, enum_tup, zip_tup, slc_tup, add_tup, isi_any, ix_tup, ix_scr, ix_num0, ix_num1, len_num, num_0, num_1, atI_0, atI_1, atI_2, List.map, List.cons_append, List.nil_append, List.getElem?_cons_zero, List.getElem?_cons_succ, List.getElem?_nil, List.set_cons_zero, List.set_cons_succ, List.replicate, List.length_cons, List.length_nil, List.foldr_cons, List.foldr_nil, Nat.reduceAdd, Nat.reduceSub, List.replicate_succ, List.replicate_zero, G_up_same, decide_eq_true_eq, Bool.not_eq_true', Bool.false_eq_true, if_true, if_false, ite_true, ite_false, and_true, true_and, reduceCtorEq, Bool.not_true, Bool.not_false, Bool.false_bne, Bool.true_bne, sl0, sl1, sl2, sl3, sl4]
  split
  · rename_i hb
    refine ⟨by omega, x % m, Nat.mod_lt _ (by omega), m, by rw [fmod_nat], ?_⟩
    rw [gcd_turn (by omega), hx]
  · rename_i hb'
    have : m = 0 := by omega
    subst this
    rw [Nat.gcd_zero_right] at hx
    subst hx
    split
    · rename_i hs
      rw [Int.sign_eq_neg_one_of_neg hs] at h
      rw [show (0 : Int) - (Int.gcd t b : Int) = -1 * (Int.gcd t b : Int) by omega]
      exact ⟨by omega, by omega, _, G.le_refl _, h⟩
    · rename_i hs
      rw [Int.sign_eq_one_of_pos (by omega), Int.one_mul] at h
      exact ⟨by omega, by omega, _, G.le_refl _, h⟩
end PP
namespace PP
open PySem PySem.Spec PyProof.Rows L2
def sx_plus : SX :=
  (.ret (.call 1 (.cons (.bin .add (.bin .mul (.ix (.v 0) (.int 0)) (.ix (.v 1) (.int 1))) (.bin .mul (.ix (.v 1) (.int 0)) (.ix (.v 0) (.int 1)))) (.cons (.bin .mul (.ix (.v 0) (.int 1)) (.ix (.v 1) (.int 1))) .nil))) .nil)
abbrev ns_plus : List Str := ["a", "b"]
def sx_minus : SX :=
  (.ret (.call 1 (.cons (.bin .sub (.bin .mul (.ix (.v 0) (.int 0)) (.ix (.v 1) (.int 1))) (.bin .mul (.ix (.v 1) (.int 0)) (.ix (.v 0) (.int 1)))) (.cons (.bin .mul (.ix (.v 0) (.int 1)) (.ix (.v 1) (.int 1))) .nil))) .nil)
abbrev ns_minus : List Str := ["a", "b"]
def sx_times : SX :=
  (.ret (.call 1 (.cons (.bin .mul (.ix (.v 0) (.int 0)) (.ix (.v 1) (.int 0))) (.cons (.bin .mul (.ix (.v 0) (.int 1)) (.ix (.v 1) (.int 1))) .nil))) .nil)
abbrev ns_times : List Str := ["a", "b"]
def sx_law_plus : SX :=
  (.ret (.call 5 (.cons (.bin .add (.bin .mul (.ix (.v 0) (.int 0)) (.ix (.v 1) (.int 1))) (.bin .mul (.ix (.v 1) (.int 0)) (.ix (.v 0) (.int 1)))) (.cons (.bin .mul (.ix (.v 0) (.int 1)) (.ix (.v 1) (.int 1))) .nil))) .nil)
abbrev ns_law_plus : List Str := ["_law_a", "_law_b"]
def sx_law_minus : SX :=
  (.ret (.call 5 (.cons (.bin .sub (.bin .mul (.ix (.v 0) (.int 0)) (.ix (.v 1) (.int 1))) (.bin .mul (.ix (.v 1) (.int 0)) (.ix (.v 0) (.int 1)))) (.cons (.bin .mul (.ix (.v 0) (.int 1)) (.ix (.v 1) (.int 1))) .nil))) .nil)
abbrev ns_law_minus : List Str := ["_law_a", "_law_b"]
def sx_law_times : SX :=
  (.ret (.call 5 (.cons (.bin .mul (.ix (.v 0) (.int 0)) (.ix (.v 1) (.int 0))) (.cons (.bin .mul (.ix (.v 0) (.int 1)) (.ix (.v 1) (.int 1))) .nil))) .nil)
abbrev ns_law_times : List Str := ["_law_a", "_law_b"]
theorem den_ne (q : Rat) : (q.den : Int) ≠ 0 := by have := q.den_nz; omega
theorem add_parts (p q : Rat) : Rat.divInt (p.num * q.den + q.num * p.den) (p.den * q.den) = p + q := by
  rw [← Rat.divInt_add_divInt _ _ (den_ne p) (den_ne q), Rat.num_divInt_den, Rat.num_divInt_den]
theorem sub_parts (p q : Rat) : Rat.divInt (p.num * q.den - q.num * p.den) (p.den * q.den) = p - q := by
  rw [← Rat.divInt_sub_divInt _ _ (den_ne p) (den_ne q), Rat.num_divInt_den, Rat.num_divInt_den]
theorem mul_parts (p q : Rat) : Rat.divInt (p.num * q.num) (p.den * q.den) = p * q := by
  rw [← Rat.divInt_mul_divInt, Rat.num_divInt_den, Rat.num_divInt_den]
theorem den_mul_ne (p q : Rat) : (p.den : Int) * (q.den : Int) ≠ 0 := Int.mul_ne_zero (den_ne p) (den_ne q)
def spBin (f : Rat → Rat → Rat) : SpD := fun ds g Q _ => ∃ p q : Rat, ds = [num p, num q] ∧ sz p + sz q ≤ 100000000 ∧ Q (num (f p q)) g
abbrev spPlus : SpD := spBin fun p q => p + q
abbrev spMinus : SpD := spBin fun p q => p - q
abbrev spTimes : SpD := spBin fun p q => p * q
theorem c_bin {f : Rat → Rat → Rat} {p q : Rat} {g : G} {Q : QD} {X : XD} : spBin f [num p, num q] g Q X ↔ sz p + sz q ≤ 100000000 ∧ Q (num (f p q)) g :=
  ⟨fun ⟨_, _, e, h⟩ => by simp only [List.cons.injEq, and_true] at e; rw [num_inj e.1, num_inj e.2]; exact h, fun h => ⟨p, q, rfl, h⟩⟩
section
variable {Γ : Nat → SpD} {gl : Nat → D} {ds : List D} {g : G} {Q : QD} {E : XD}
theorem pure_plus (h1 : Γ 1 = spLowest) (h : spPlus ds g Q E) : mnS Γ gl sx_plus (endsOf Q E) (startD ns_plus ds) g := by
  obtain ⟨p, q, rfl, hs, h⟩ := h
  simp only [sx_plus, h1, spLowest, mnS, dLamr, mn, Mn.of, Op.rd, Cm.rd, Bl.rd, Mt.rd, Mt.rc, dNop, dSeq, dExpr, dRet, dRetN, dIf, gD, dAsg, dPar, dPut, dRaise, dVar, dC, dBin, dUn, dNil, dCons, dTup, dLst, dTst, dAndT, dOrT, dNotT, dYes, dAnd, dOr, dNot, dChain, dCall, dCB, dMt, dLset, dSrev, dTry, dIsx, dEmp, dDic1, dStp, dFld, dMeth, dMake, dFset, dGin, dGix, dRep, dTryu, dTryn, conD, xsub, Ex.sub, dSlc, dPart, dNoPart, dIAny, dI1, dI2, dI3, dFor, dComp, compB, wipeD, startD, endsOf, at_mk, setAll, add_int, sub_int, mul_int, mul_tup, pow_int, mod_int, fdiv_int, lt_int, le_int, gt_int, ge_int, eq_int, neg_int, len_tup, len_scr, abs_int, max_int, min_int, int_int, int_bl, r1_int, r2_int, tuple_tup, list_tup, over_tup, rev_tup, enum_tup, zip_tup, slc_tup, add_tup, isi_any, ix_tup, ix_scr, ix_num0, ix_num1, len_num, num_0, num_1, atI_0, atI_1, atI_2, List.map, List.cons_append, List.nil_append, List.getElem?_cons_zero, List.getElem?_cons_succ, List.getElem?_nil, List.set_cons_zero, List.set_cons_succ, List.replicate, List.length_cons, List.length_nil, List.foldr_cons, List.foldr_nil, Nat.reduceAdd, Nat.reduceSub, List.replicate_succ, List.replicate_zero, G_up_same, decide_eq_true_eq, Bool.not_eq_true', Bool.false_eq_true, if_true, if_false, ite_true, ite_false, and_true, true_and, reduceCtorEq, Bool.not_true, Bool.not_false, Bool.false_bne, Bool.true_bne, sl0, sl1, sl2, sl3, sl4]
  exact ⟨mulOk_nd p q hs, mulOk_nd q p (by omega), mulOk_den p q hs, _, _, rfl, den_mul_ne p q, _, G.le_refl _, by rw [add_parts]; exact h⟩
theorem pure_minus (h1 : Γ 1 = spLowest) (h : spMinus ds g Q E) : mnS Γ gl sx_minus (endsOf Q E) (startD ns_minus ds) g := by
  obtain ⟨p, q, rfl, hs, h⟩ := h
  simp only [sx_minus, h1, spLowest, mnS, dLamr, mn, Mn.of, Op.rd, Cm.rd, Bl.rd, Mt.rd, Mt.rc, dNop, dSeq, dExpr, dRet, dRetN, dIf, gD, dAsg, dPar, dPut, dRaise, dVar, dC, dBin, dUn, dNil, dCons, dTup, dLst, dTst, dAndT, dOrT, dNotT, dYes, dAnd, dOr, dNot, dChain, dCall, dCB, dMt, dLset, dSrev, dTry, dIsx, dEmp, dDic1, dStp, dFld, dMeth, dMake, dFset, dGin, dGix, dRep, dTryu, dTryn, conD, xsub, Ex.sub, dSlc, dPart, dNoPart, dIAny, dI1, dI2, dI3, dFor, dComp, compB, wipeD, startD, endsOf, at_mk, setAll, add_int, sub_int, mul_int, mul_tup, pow_int, mod_int, fdiv_int, lt_int, le_int, gt_int, ge_int, eq_int, neg_int, len_tup, len_scr, abs_int, max_int, min_int, int_int, int_bl, r1_int, r2_int, tuple_tup, list_tup, over_tup, rev_tup, enum_tup, zip_tup, slc_tup, add_tup, isi_any, ix_tup, ix_scr, ix_num0, ix_num1, len_num, num_0, num_1, atI_0, atI_1, atI_2, List.map, List.cons_append, List.nil_append, List.getElem?_cons_zero, List.getElem?_cons_succ, List.getElem?_nil, List.set_cons_zero, List.set_cons_succ, List.replicate, List.length_cons, List.length_nil, List.foldr_cons, List.foldr_nil, Nat.reduceAdd, Nat.reduceSub, List.replicate_succ, List.replicate_zero, G_up_same, decide_eq_true_eq, Bool.not_eq_true', Bool.false_eq_true, if_true, if_false, ite_true, ite_false, and_true, true_and, reduceCtorEq, Bool.not_true, Bool.not_false, Bool.false_bne, Bool.true_bne, sl0, sl1, sl2, sl3, sl4]
  exact ⟨mulOk_nd p q hs, mulOk_nd q p (by omega), mulOk_den p q hs, _, _, rfl, den_mul_ne p q, _, G.le_refl _, by rw [sub_parts]; exact h⟩
theorem pure_times (h1 : Γ 1 = spLowest) (h : spTimes ds g Q E) : mnS Γ gl sx_times (endsOf Q E) (startD ns_times ds) g := by
  obtain ⟨p, q, rfl, hs, h⟩ := h
  simp only [sx_times, h1, spLowest, mnS, dLamr, mn, Mn.of, Op.rd, Cm.rd, Bl.rd, Mt.rd, Mt.rc, dNop, dSeq, dExpr, dRet, dRetN, dIf, gD, dAsg, dPar, dPut, dRaise, dVar, dC, dBin, dUn, dNil, dCons, dTup, dLst, dTst, dAndT, dOrT, dNotT, dYes, dAnd, dOr, dNot, dChain, dCall, dCB, dMt, dLset, dSrev, dTry, dIsx, dEmp, dDic1, dStp, dFld, dMeth, dMake, dFset, dGin, dGix, dRep, dTryu, dTryn, conD, xsub, Ex.sub, dSlc, dPart, dNoPart, dIAny, dI1, dI2, dI3, dFor, dComp, compB, wipeD, startD, endsOf, at_mk, setAll, add_int, sub_int, mul_int, mul_tup, pow_int, mod_int, fdiv_int, lt_int, le_int, gt_int, ge_int, eq_int, neg_int, len_tup, len_scr, abs_int, max_int, min_int, int_int, int_bl, r1_int, r2_int, tuple_tup, list_tup, over_tup, rev_tup, enum_tup, zip_tup, slc_tup, add_tup, isi_any, ix_tup, ix_scr, ix_num0, ix_num1, len_num, num_0, num_1, atI_0, atI_1, atI_2, List.map, List.cons_append, List.nil_append, List.getElem?_cons_zero, List.getElem?_cons_succ, List.getElem?_nil, List.set_cons_zero, List.set_cons_succ, List.replicate, List.length_cons, List.length_nil, List.foldr_cons, List.foldr_nil, Nat.reduceAdd, Nat.reduceSub, List.replicate_succ, List.replicate_zero, G_up_same, decide_eq_true_eq, Bool.not_eq_true', Bool.false_eq_true, if_true, if_false, ite_true, ite_false, and_true, true_and, reduceCtorEq, Bool.not_true, Bool.not_false, Bool.false_bne, Bool.true_bne, sl0, sl1, sl2, sl3, sl4]
  exact ⟨mulOk_num p q hs, mulOk_den p q hs, _, _, rfl, den_mul_ne p q, _, G.le_refl _, by rw [mul_parts]; exact h⟩
theorem pure_law_plus (h1 : Γ 5 = spLowest) (h : spPlus ds g Q E) : mnS Γ gl sx_law_plus (endsOf Q E) (startD ns_law_plus ds) g := by
  obtain ⟨p, q, rfl, hs, h⟩ := h
  simp only [sx_law_plus, h1, spLowest, mnS, dLamr, mn, Mn.of, Op.rd, Cm.rd, Bl.rd, Mt.rd, Mt.rc, dNop, dSeq, dExpr, dRet, dRetN, dIf, gD, dAsg, dPar, dPut, dRaise, dVar, dC, dBin, dUn, dNil, dCons, dTup, dLst, dTst, dAndT, dOrT, dNotT, dYes, dAnd, dOr, dNot, dChain, dCall, dCB, dMt, dLset, dSrev, dTry, dIsx, dEmp, dDic1, dStp, dFld, dMeth, dMake, dFset, dGin, dGix, dRep, dTryu, dTryn, conD, xsub, Ex.sub, dSlc, dPart, dNoPart, dIAny, dI1, dI2, dI3, dFor, dComp, compB, wipeD, startD, endsOf, at_mk, setAll, add_int, sub_int, mul_int, mul_tup, pow_int, mod_int, fdiv_int, lt_int, le_int, gt_int, ge_int, eq_int, neg_int, len_tup, len_scr, abs_int, max_int, min_int, int_int, int_bl, r1_int, r2_int, tuple_tup, list_tup, over_tup, rev_tup, enum_tup, zip_tup, slc_tup, add_tup, isi_any, ix_tup, ix_scr, ix_num0, ix_num1, len_num, num_0, num_1, atI_0, atI_1, atI_2, List.map, List.cons_append, List.nil_append, List.getElem?_cons_zero, List.getElem?_cons_succ, List.getElem?_nil, List.set_cons_zero, List.set_cons_succ, List.replicate, List.length_cons, List.length_nil, List.foldr_cons, List.foldr_nil, Nat.reduceAdd, Nat.reduceSub, List.replicate_succ, List.replicate_zero, G_up_same, decide_eq_true_eq, Bool.not_eq_true', Bool.false_eq_true, if_true, if_false, ite_true, ite_false, and_true, true_and, reduceCtorEq, Bool.not_true, Bool.not_false, Bool.false_bne, Bool.true_bne, sl0, sl1, sl2, sl3, sl4]
  exact ⟨mulOk_nd p q hs, mulOk_nd q p (by omega), mulOk_den p q hs, _, _, rfl, den_mul_ne p q, _, G.le_refl _, by rw [add_parts]; exact h⟩
theorem pure_law_minus (h1 : Γ 5 = spLowest) (h : spMinus ds g Q E) : mnS Γ gl sx_law_minus (endsOf Q E) (startD ns_law_minus ds) g := by
  obtain ⟨p, q, rfl, hs, h⟩ := h
  simp only [sx_law_minus, h1, spLowest, mnS, dLamr, mn, Mn.of, Op.rd, Cm.rd, Bl.rd, Mt.rd, Mt.rc, dNop, dSeq, dExpr, dRet, dRetN, dIf, gD, dAsg, dPar, dPut, dRaise, dVar, dC, dBin, dUn, dNil, dCons, dTup, dLst, dTst, dAndT, dOrT, dNotT, dYes, dAnd, dOr, dNot, dChain, dCall, dCB, dMt, dLset, dSrev, dTry, dIsx, dEmp, dDic1, dStp, dFld, dMeth, dMake, dFset, dGin, dGix, dRep, dTryu, dTryn, conD, xsub, Ex.sub, dSlc, dPart, dNoPart, dIAny, dI1, dI2, dI3, dFor, dComp, compB, wipeD, startD, endsOf, at_mk, setAll, add_int, sub_int, mul_int, mul_tup, pow_int, mod_int, fdiv_int, lt_int, le_int, gt_int, ge_int, eq_int, neg_int, len_tup, len_scr, abs_int, max_int, min_int, int_int, int_bl, r1_int, r2_int, tuple_tup, list_tup, over_tup, rev_tup, enum_tup, zip_tup, slc_tup, add_tup, isi_any, ix_tup, ix_scr, ix_num0, ix_num1, len_num, num_0, num_1, atI_0, atI_1, atI_2, List.map, List.cons_append, List.nil_append, List.getElem?_cons_zero, List.getElem?_cons_succ, List.getElem?_nil, List.set_cons_zero, List.set_cons_succ, List.replicate, List.length_cons, List.length_nil, List.foldr_cons, List.foldr_nil, Nat.reduceAdd, Nat.reduceSub, List.replicate_succ, List.replicate_zero, G_up_same, decide_eq_true_eq, Bool.not_eq_true', Bool.false_eq_true, if_true, if_false, ite_true, ite_false, and_true, true_and, reduceCtorEq, Bool.not_true, Bool.not_false, Bool.false_bne, Bool.true_bne, sl0, sl1, sl2, sl3, sl4]
  exact ⟨mulOk_nd p q hs, mulOk_nd q p (by omega), mulOk_den p q hs, _, _, rfl, den_mul_ne p q, _, G.le_refl _, by rw [sub_parts]; exact h⟩
theorem pure_law_times (h1 : Γ 5 = spLowest) (h : spTimes ds g Q E) : mnS Γ gl sx_law_times (endsOf Q E) (startD ns_law_times ds) g := by
  obtain ⟨p, q, rfl, hs, h⟩ := h
  simp only [sx_law_times, h1, spLowest, mnS, dLamr, mn, Mn.of, Op.rd, Cm.rd, Bl.rd, Mt.rd, Mt.rc, dNop, dSeq, dExpr, dRet, dRetN, dIf, gD, dAsg, dPar, dPut, dRaise, dVar, dC, dBin, dUn, dNil, dCons, dTup, dLst, dTst, dAndT, dOrT, dNotT, dYes, dAnd, dOr, dNot, dChain, dCall, dCB, dMt, dLset, dSrev, dTry, dIsx, dEmp, dDic1, dStp, dFld, dMeth, dMake, dFset, dGin, dGix, dRep, dTryu, dTryn, conD, xsub, Ex.sub, dSlc, dPart, dNoPart, dIAny, dI1, dI2, dI3, dFor, dComp, compB, wipeD, startD, endsOf, at_mk, setAll, add_int, sub_int, mul_int, mul_tup, pow_int, mod_int, fdiv_int, lt_int, le_int, gt_int, ge_int, eq_int, neg_int, len_tup, len_scr, abs_int, max_int, min_int, int_int, int_bl, r1_int, r2_int, tuple_tup, list_tup, over_tup, rev_tup, enum_tup, zip_tup, slc_tup, add_tup, isi_any, ix_tup, ix_scr, ix_num0, ix_num1, len_num, num_0, num_1, atI_0, atI_1, atI_2, List.map, List.cons_append, List.nil_append, List.getElem?_cons_zero, List.getElem?_cons_succ, List.getElem?_nil, List.set_cons_zero, List.set_cons_succ, List.replicate, List.length_cons, List.length_nil, List.foldr_cons, List.foldr_nil, Nat.reduceAdd, Nat.reduceSub, List.replicate_succ, List.replicate_zero, G_up_same, decide_eq_true_eq, Bool.not_eq_true', Bool.false_eq_true, if_true, if_false, ite_true, ite_false, and_true, true_and, reduceCtorEq, Bool.not_true, Bool.not_false, Bool.false_bne, Bool.true_bne, sl0, sl1, sl2, sl3, sl4]
  exact ⟨mulOk_num p q hs, mulOk_den p q hs, _, _, rfl, den_mul_ne p q, _, G.le_refl _, by rw [mul_parts]; exact h⟩
end
end PP
namespace PP
open PySem PySem.Spec PyProof.Rows L2
def sx_law_pen : SX :=
  (.asg (.n 2) (.bin .add (.bin .mul (.int 7919) (.v 1)) (.int 5))
  (.ite (.cmp .lt (.v 1) (.blt .len (.cons (.v 0) .nil)))
    (.asg (.n 2) (.ix (.v 0) (.v 1)) .nil)
    (.ite (.cmp .gt (.blt .len (.cons (.v 0) .nil)) (.int 0))
      (.asg (.n 2) (.bin .add (.ix (.v 0) (.bin .mod (.v 1) (.blt .len (.cons (.v 0) .nil)))) (.bin .mul (.int 48271) (.v 1))) .nil)
      .nil .nil)
  (.ite (.cmp .ge (.v 2) (.bin .pow (.int 10) (.int 18)))
    (.ret (.lst (.cons (.bin .sub (.v 2) (.bin .pow (.int 10) (.int 18))) (.cons (.bin .mod (.v 2) (.int 2147483587)) (.cons (.int 0) .nil)))) .nil)
    .nil
  (.ret (.lst (.cons (.int 0) (.cons (.bin .add (.bin .mod (.v 2) (.int 2147483587)) (.bin .mul (.int 2147483629) (.v 1))) (.cons (.int 0) .nil)))) .nil))))
abbrev ns_law_pen : List Str := ["_law_script", "_law_k", "_law_cell"]
def sx_law_draw : SX :=
  (.put (.v 0) (.int 2) (.bin .add (.ix (.v 0) (.int 2)) (.int 1))
  (.ite (.cmp .gt (.ix (.v 0) (.int 0)) (.int 0))
    (.asg (.n 3) (.bin .mod (.ix (.v 0) (.int 0)) (.v 1))
    (.put (.v 0) (.int 0) (.bin .fdiv (.ix (.v 0) (.int 0)) (.v 1))
    (.ret (.v 3) .nil)))
    .nil
  (.asg (.n 2) (.bin .mod (.bin .mul (.bin .add (.bin .add (.ix (.v 0) (.int 1)) (.bin .mul (.int 40503) (.ix (.v 0) (.int 2)))) (.int 1)) (.int 48271)) (.int 2147483647))
  (.asg (.n 2) (.bin .mod (.bin .mul (.v 2) (.bin .add (.bin .add (.bin .mod (.v 2) (.int 65521)) (.ix (.v 0) (.int 2))) (.int 3))) (.int 2147483629))
  (.ret (.bin .mod (.bin .fdiv (.bin .mod (.bin .mul (.v 2) (.bin .add (.bin .mod (.v 2) (.int 8191)) (.int 7))) (.int 2147483563)) (.int 3)) (.v 1)) .nil)))))
abbrev ns_law_draw : List Str := ["_law_pen_here", "_law_many", "_law_number", "_law_drawn"]
def PenL (xs : List D) (n : Nat) : Prop := ∃ x0 x1 x2 : Int, xs = [.int x0, .int x1, .int x2] ∧ 0 ≤ x1 ∧ x1 < 2 ^ 60 ∧ 0 ≤ x2 ∧ x2 ≤ n
theorem PenL.mono {xs : List D} {n m : Nat} (h : PenL xs n) (l : n ≤ m) : PenL xs m := by
  obtain ⟨x0, x1, x2, e, a, b, c, d⟩ := h
  exact ⟨x0, x1, x2, e, a, b, c, by omega⟩
theorem mulOk_small {i j : Int} (h1 : i.natAbs < 2 ^ 64) (h2 : j.natAbs < 2 ^ 64) : MulOk i j := mulOk_of h1 h2 (by decide)
def spDraw : SpD := fun ds g Q _ => ∃ (a : Addr) (m : Int) (xs : List D) (n : Nat), ds = [.ref a, .int m] ∧ 0 < m ∧ g a = some xs ∧ PenL xs n ∧ n < 2 ^ 50 ∧
  ∀ (d : Nat) xs', (d : Int) < m → PenL xs' (n + 1) → Q (.int d) (g.up a xs')
theorem ixN_3 : ixN 3 0 = some 0 ∧ ixN 3 1 = some 1 ∧ ixN 3 2 = some 2 := by decide
theorem fmod_lt {a m : Int} (h : 0 < m) : 0 ≤ a.fmod m ∧ a.fmod m < m := ⟨Int.fmod_nonneg_of_pos a h, Int.fmod_lt_of_pos a h⟩
theorem pure_law_draw {Γ : Nat → SpD} {gl : Nat → D} {ds : List D} {g : G} {Q : QD} {E : XD} (h : spDraw ds g Q E) : mnS Γ gl sx_law_draw (endsOf Q E) (startD ns_law_draw ds) g := by
  obtain ⟨a, m, xs, n, rfl, hm, hg, ⟨x0, x1, x2, rfl, h1, h2, h3, h4⟩, hn, h⟩ := h
  have fin : ∀ (d : Int) xs', 0 ≤ d → d < m → PenL xs' (n + 1) → Q (.int d) (g.up a xs') := fun d xs' a1 a2 a3 => by
    have := h d.toNat xs' (by omega) a3
    rwa [show ((d.toNat : Nat) : Int) = d by omega] at this
  simp only [sx_law_draw, mnS, dLamr, mn, Mn.of, Op.rd, Cm.rd, Bl.rd, Mt.rd, Mt.rc, dNop, dSeq, dExpr, dRet, dRetN, dIf, gD, dAsg, dPar, dPut, dRaise, dVar, dC, dBin, dUn, dNil, dCons, dTup, dLst, dTst, dAndT, dOrT, dNotT, dYes, dAnd, dOr, dNot, dChain, dCall, dCB, dMt, dLset, dSrev, dTry, dIsx, dEmp, dDic1, dStp, dFld, dMeth, dMake, dFset, dGin, dGix, dRep, dTryu, dTryn, conD, xsub, Ex.sub, dSlc, dPart, dNoPart, dIAny, dI1, dI2, dI3, dFor, dComp, compB, wipeD, startD, endsOf, at_mk, setAll, add_int, sub_int, mul_int, mul_tup, pow_int, mod_int, fdiv_int, lt_int, le_int, gt_int, ge_int, eq_int, neg_int, len_tup, len_scr, abs_int, max_int, min_int, int_int, int_bl, r1_int, r2_int, tuple_tup, list_tup, over_tup, rev_tup, enum_tup, zip_tup, slc_tup, add_tup, isi_any, ix_tup, ix_scr, ix_num0, ix_num1, len_num, num_0, num_1, atI_0, atI_1, atI_2, List.map, List.cons_append, List.nil_append, List.getElem?_cons_zero, List.getElem?_cons_succ, List.getElem?_nil, List.set_cons_zero, List.set_cons_succ, List.replicate, List.length_cons, List.length_nil, List.foldr_cons, List.foldr_nil, Nat.reduceAdd, Nat.reduceSub, List.replicate_succ, List.replicate_zero, G_up_same, decide_eq_true_eq, Bool.not_eq_true', Bool.false_eq_true, if_true, if_false, ite_true, ite_false, and_true, true_and, reduceCtorEq, Bool.not_true, Bool.not_false, Bool.false_bne, Bool.true_bne, sl0, sl1, sl2, sl3, sl4, ix_ref hg, set_ref hg, set_ref G_up_same, ixN_3, ix_ref G_up_same]
  have P := @fmod_lt x0 m hm
  split
  · rename_i hx
    refine ⟨by omega, by omega, _, G.le_refl _, ?_⟩
    rw [G_up_up]
    exact fin _ _ P.1 P.2 ⟨_, _, _, rfl, h1, h2, by omega, by omega⟩
  · rename_i hx
    refine ⟨mulOk_small (by decide) (by omega), mulOk_of (a := 80) (b := 16) (by omega) (by decide) (by decide), by decide, ?_⟩
    generalize hy : Int.fmod _ 2147483647 = y
    have hy1 : 0 ≤ y ∧ y < 2147483647 := by rw [← hy]; exact fmod_lt (by decide)
    have hz := @fmod_lt y 65521 (by decide)
    refine ⟨by decide, mulOk_small (by omega) (by omega), by decide, ?_⟩
    generalize hw : Int.fmod _ 2147483629 = w
    have hw1 : 0 ≤ w ∧ w < 2147483629 := by rw [← hw]; exact fmod_lt (by decide)
    have hv := @fmod_lt w 8191 (by decide)
    refine ⟨by decide, mulOk_small (by omega) (by omega), by decide, by decide, by omega, _, G.le_refl _, ?_⟩
    have R := @fmod_lt (Int.fdiv (Int.fmod (w * (Int.fmod w 8191 + 7)) 2147483563) 3) m hm
    exact fin _ _ R.1 R.2 ⟨_, _, _, rfl, h1, h2, by omega, by omega⟩
def spPen : SpD := fun ds g Q _ => ∃ (ns : List Int) (k : Nat), ds = [.scr ns, .int k] ∧ k ≤ 1000 ∧ (∀ z ∈ ns, Builtin.Int.intBits z ≤ 1048576) ∧ ∀ p xs, g p = none → PenL xs 0 → Q (.ref p) (g.up p xs)
theorem pure_law_pen {Γ : Nat → SpD} {gl : Nat → D} {ds : List D} {g : G} {Q : QD} {E : XD} (h : spPen ds g Q E) : mnS Γ gl sx_law_pen (endsOf Q E) (startD ns_law_pen ds) g := by
  obtain ⟨ns, k, rfl, hk, hb, h⟩ := h
  have fin : ∀ c : Int, (if ((10 : Int) ^ 18 ≤ c) then (∀ p, g p = none → ∃ g', g'.le (g.up p [.int (c - 10 ^ 18), .int (c.fmod 2147483587), .int 0]) ∧ Q (.ref p) g') else (MulOk 2147483629 k ∧ ∀ p, g p = none → ∃ g', g'.le (g.up p [.int 0, .int (c.fmod 2147483587 + 2147483629 * k), .int 0]) ∧ Q (.ref p) g')) := fun c => by
    have P := @fmod_lt c 2147483587 (by decide)
    split
    · intro p hp
      exact ⟨_, G.le_refl _, h p _ hp ⟨_, _, _, rfl, P.1, by omega, by decide, by decide⟩⟩
    · refine ⟨mulOk_small (by decide) (by omega), fun p hp => ?_⟩
      exact ⟨_, G.le_refl _, h p _ hp ⟨_, _, _, rfl, by omega, by omega, by decide, by decide⟩⟩
  have e18 : ((10 : Int) ^ (18 : Int).toNat) = 10 ^ 18 := rfl
  simp only [sx_law_pen, mnS, dLamr, mn, Mn.of, Op.rd, Cm.rd, Bl.rd, Mt.rd, Mt.rc, dNop, dSeq, dExpr, dRet, dRetN, dIf, gD, dAsg, dPar, dPut, dRaise, dVar, dC, dBin, dUn, dNil, dCons, dTup, dLst, dTst, dAndT, dOrT, dNotT, dYes, dAnd, dOr, dNot, dChain, dCall, dCB, dMt, dLset, dSrev, dTry, dIsx, dEmp, dDic1, dStp, dFld, dMeth, dMake, dFset, dGin, dGix, dRep, dTryu, dTryn, conD, xsub, Ex.sub, dSlc, dPart, dNoPart, dIAny, dI1, dI2, dI3, dFor, dComp, compB, wipeD, startD, endsOf, at_mk, setAll, add_int, sub_int, mul_int, mul_tup, pow_int, mod_int, fdiv_int, lt_int, le_int, gt_int, ge_int, eq_int, neg_int, len_tup, len_scr, abs_int, max_int, min_int, int_int, int_bl, r1_int, r2_int, tuple_tup, list_tup, over_tup, rev_tup, enum_tup, zip_tup, slc_tup, add_tup, isi_any, ix_tup, ix_scr, ix_num0, ix_num1, len_num, num_0, num_1, atI_0, atI_1, atI_2, List.map, List.cons_append, List.nil_append, List.getElem?_cons_zero, List.getElem?_cons_succ, List.getElem?_nil, List.set_cons_zero, List.set_cons_succ, List.replicate, List.length_cons, List.length_nil, List.foldr_cons, List.foldr_nil, Nat.reduceAdd, Nat.reduceSub, List.replicate_succ, List.replicate_zero, G_up_same, decide_eq_true_eq, Bool.not_eq_true', Bool.false_eq_true, if_true, if_false, ite_true, ite_false, and_true, true_and, reduceCtorEq, Bool.not_true, Bool.not_false, Bool.false_bne, Bool.true_bne, sl0, sl1, sl2, sl3, sl4]
  have pw : (0 : Int) ≤ 18 ∧ (18 : Int) ≤ 1000000 ∧ (10 : Int).natAbs < 2 ^ 64 := by decide
  refine ⟨mulOk_small (by decide) (by omega), ?_⟩
  split
  · rename_i hlt
    have hlt : k < ns.length := by omega
    rw [atI_at (k := k) (x := ns[k]) rfl (List.getElem?_eq_getElem hlt)]
    try simp only [mnS, dLamr, mn, Mn.of, Op.rd, Cm.rd, Bl.rd, Mt.rd, Mt.rc, dNop, dSeq, dExpr, dRet, dRetN, dIf, gD, dAsg, dPar, dPut, dRaise, dVar, dC, dBin, dUn, dNil, dCons, dTup, dLst, dTst, dAndT, dOrT, dNotT, dYes, dAnd, dOr, dNot, dChain, dCall, dCB, dMt, dLset, dSrev, dTry, dIsx, dEmp, dDic1, dStp, dFld, dMeth, dMake, dFset, dGin, dGix, dRep, dTryu, dTryn, conD, xsub, Ex.sub, dSlc, dPart, dNoPart, dIAny, dI1, dI2, dI3, dFor, dComp, compB, wipeD, startD, endsOf, at_mk, setAll, add_int, sub_int, mul_int, mul_tup, pow_int, mod_int, fdiv_int, lt_int, le_int, gt_int, ge_int, eq_int, neg_int, len_tup, len_scr, abs_int, max_int, min_int, int_int, int_bl, r1_int, r2_int, tuple_tup, list_tup, over_tup, rev_tup, enum_tup, zip_tup, slc_tup, add_tup, isi_any, ix_tup, ix_scr, ix_num0, ix_num1, len_num, num_0, num_1, atI_0, atI_1, atI_2, List.map, List.cons_append, List.nil_append, List.getElem?_cons_zero, List.getElem?_cons_succ, List.getElem?_nil, List.set_cons_zero, List.set_cons_succ, List.replicate, List.length_cons, List.length_nil, List.foldr_cons, List.foldr_nil, Nat.reduceAdd, Nat.reduceSub, List.replicate_succ, List.replicate_zero, G_up_same, decide_eq_true_eq, Bool.not_eq_true', Bool.false_eq_true, if_true, if_false, ite_true, ite_false, and_true, true_and, reduceCtorEq, Bool.not_true, Bool.not_false, Bool.false_bne, Bool.true_bne, sl0, sl1, sl2, sl3, sl4]
    refine ⟨pw, ?_⟩
    have F := fin ns[k]
    split
    · rename_i c
      rw [e18] at c ⊢
      rw [if_pos c] at F
      exact ⟨by decide, by decide, F⟩
    · rename_i c
      rw [e18] at c
      rw [if_neg c] at F
      exact ⟨by decide, F.1, F.2⟩
  · split
    · rename_i h0
      have hm := @fmod_lt (k : Int) ns.length h0
      have hlt : ((k : Int).fmod ns.length).toNat < ns.length := by omega
      rw [atI_at (k := ((k : Int).fmod ns.length).toNat) (x := ns[((k : Int).fmod ns.length).toNat]) (by omega) (List.getElem?_eq_getElem hlt)]
      try simp only [mnS, dLamr, mn, Mn.of, Op.rd, Cm.rd, Bl.rd, Mt.rd, Mt.rc, dNop, dSeq, dExpr, dRet, dRetN, dIf, gD, dAsg, dPar, dPut, dRaise, dVar, dC, dBin, dUn, dNil, dCons, dTup, dLst, dTst, dAndT, dOrT, dNotT, dYes, dAnd, dOr, dNot, dChain, dCall, dCB, dMt, dLset, dSrev, dTry, dIsx, dEmp, dDic1, dStp, dFld, dMeth, dMake, dFset, dGin, dGix, dRep, dTryu, dTryn, conD, xsub, Ex.sub, dSlc, dPart, dNoPart, dIAny, dI1, dI2, dI3, dFor, dComp, compB, wipeD, startD, endsOf, at_mk, setAll, add_int, sub_int, mul_int, mul_tup, pow_int, mod_int, fdiv_int, lt_int, le_int, gt_int, ge_int, eq_int, neg_int, len_tup, len_scr, abs_int, max_int, min_int, int_int, int_bl, r1_int, r2_int, tuple_tup, list_tup, over_tup, rev_tup, enum_tup, zip_tup, slc_tup, add_tup, isi_any, ix_tup, ix_scr, ix_num0, ix_num1, len_num, num_0, num_1, atI_0, atI_1, atI_2, List.map, List.cons_append, List.nil_append, List.getElem?_cons_zero, List.getElem?_cons_succ, List.getElem?_nil, List.set_cons_zero, List.set_cons_succ, List.replicate, List.length_cons, List.length_nil, List.foldr_cons, List.foldr_nil, Nat.reduceAdd, Nat.reduceSub, List.replicate_succ, List.replicate_zero, G_up_same, decide_eq_true_eq, Bool.not_eq_true', Bool.false_eq_true, if_true, if_false, ite_true, ite_false, and_true, true_and, reduceCtorEq, Bool.not_true, Bool.not_false, Bool.false_bne, Bool.true_bne, sl0, sl1, sl2, sl3, sl4]
      refine ⟨by omega, mulOk_small (by decide) (by omega), pw, ?_⟩
      have F := fin (ns[((k : Int).fmod ns.length).toNat] + 48271 * k)
      split
      · rename_i c
        rw [e18] at c ⊢
        rw [if_pos c] at F
        exact ⟨by decide, by decide, F⟩
      · rename_i c
        rw [e18] at c
        rw [if_neg c] at F
        exact ⟨by decide, F.1, F.2⟩
    · refine ⟨pw, ?_⟩
      have F := fin (7919 * k + 5)
      split
      · rename_i c
        rw [e18] at c ⊢
        rw [if_pos c] at F
        exact ⟨by decide, by decide, F⟩
      · rename_i c
        rw [e18] at c
        rw [if_neg c] at F
        exact ⟨by decide, F.1, F.2⟩
end PP
namespace PP
open PySem PySem.Spec PyProof.Rows L2
mutual
def plainP : PyData → Bool
  | .none => true
  | .int _ => true
  | .str _ => true
  | .list xs => plainPs xs
  | .tuple xs => plainPs xs
  | .bool _ => false
  | .dict _ => false
def plainPs : List PyData → Bool
  | [] => true
  | x :: xs => plainP x && plainPs xs
end
mutual
theorem eqv_eq : ∀ (p q : PyData), plainP p = true → plainP q = true → (PyData.eqv p q = true ↔ p = q)
  | .none, q, _, hq => by cases q <;> first | (simp [PyData.eqv]; done) | (cases hq; done)
  | .int i, q, _, hq => by cases q <;> first | (simp [PyData.eqv]; done) | (cases hq; done)
  | .str i, q, _, hq => by cases q <;> first | (simp [PyData.eqv]; done) | (cases hq; done)
  | .list xs, q, hp, hq => by
    cases q with
    | list ys =>
      rw [PyData.eqv, eqvs_eq xs ys hp hq]
      simp
    | _ => first | (simp [PyData.eqv]; done) | (cases hq; done)
  | .tuple xs, q, hp, hq => by
    cases q with
    | tuple ys =>
      rw [PyData.eqv, eqvs_eq xs ys hp hq]
      simp
    | _ => first | (simp [PyData.eqv]; done) | (cases hq; done)
  | .bool _, _, hp, _ => by cases hp
  | .dict _, _, hp, _ => by cases hp
theorem eqvs_eq : ∀ (xs ys : List PyData), plainPs xs = true → plainPs ys = true → (PyData.eqvAll xs ys = true ↔ xs = ys)
  | [], ys, _, _ => by cases ys <;> simp [PyData.eqvAll]
  | x :: xs, ys, hx, hy => by
    cases ys with
    | nil => simp [PyData.eqvAll]
    | cons y ys =>
      have hx : (plainP x && plainPs xs) = true := hx
      have hy : (plainP y && plainPs ys) = true := hy
      rw [Bool.and_eq_true] at hx hy
      rw [PyData.eqvAll, Bool.and_eq_true, eqv_eq x y hx.1 hy.1, eqvs_eq xs ys hx.2 hy.2]
      simp
end
structure Nice (k : Nat) (p : PyData) : Prop where
  lay : p.canLay0 = true
  plain : plainP p = true
  deep : p.depth ≤ k
theorem Nice.shaped {k : Nat} {p : PyData} (h : Nice k p) (hk : k ≤ 64) : SeqAt.shaped p = true := by
  unfold SeqAt.shaped
  rw [h.lay, decide_eq_true (Nat.le_trans h.deep hk)]
  rfl
theorem Nice.mono {k j : Nat} {p : PyData} (h : Nice k p) (hk : k ≤ j) : Nice j p := ⟨h.lay, h.plain, Nat.le_trans h.deep hk⟩
theorem nice_int (i : Int) : Nice 0 (.int i) := ⟨rfl, rfl, Nat.le_refl _⟩
theorem nices {k : Nat} : ∀ {xs : List PyData}, (∀ x ∈ xs, Nice k x) → PyData.canLayAll0 xs = true ∧ plainPs xs = true ∧ PyData.depthAll xs ≤ k
  | [], _ => ⟨rfl, rfl, Nat.zero_le _⟩
  | x :: xs, h => by
    obtain ⟨a, b, c⟩ := nices (xs := xs) fun y hy => h y (List.mem_cons_of_mem _ hy)
    have hx := h x (List.mem_cons_self ..)
    refine ⟨?_, ?_, ?_⟩
    · rw [PyData.canLayAll0, hx.lay, a]; rfl
    · rw [plainPs, hx.plain, b]; rfl
    · rw [PyData.depthAll]; exact Nat.max_le.mpr ⟨hx.deep, c⟩
theorem nice_list {k : Nat} {xs : List PyData} (h : ∀ x ∈ xs, Nice k x) : Nice (k + 1) (.list xs) := by
  obtain ⟨a, b, c⟩ := nices h
  exact ⟨by rw [PyData.canLay0]; exact a, by rw [plainP]; exact b, by rw [PyData.depth]; omega⟩
theorem nice_tup {k : Nat} {xs : List PyData} (h : ∀ x ∈ xs, Nice k x) : Nice (k + 1) (.tuple xs) := by
  obtain ⟨a, b, c⟩ := nices h
  exact ⟨by rw [PyData.canLay0]; exact a, by rw [plainP]; exact b, by rw [PyData.depth]; omega⟩
def npy (q : Rat) : PyData := .tuple [.int q.num, .int q.den]
theorem npy_inj {p q : Rat} (h : npy p = npy q) : p = q := by
  unfold npy at h
  simp only [PyData.tuple.injEq, List.cons.injEq, PyData.int.injEq, and_true] at h
  exact Rat.ext h.1 (by omega)
theorem nice_num (q : Rat) : Nice 1 (npy q) := nice_tup (k := 0) fun x hx => by
  rcases List.mem_cons.mp hx with e | hx
  · subst e; exact nice_int _
  · rcases List.mem_cons.mp hx with e | hx
    · subst e; exact nice_int _
    · cases hx
def npys (qs : List Rat) : List PyData := qs.map npy
theorem npys_inj {ps qs : List Rat} (h : npys ps = npys qs) : ps = qs := (List.map_inj_right fun _ _ => npy_inj).mp h
theorem nice_nums (qs : List Rat) : ∀ x ∈ npys qs, Nice 1 x := fun x hx => by
  obtain ⟨q, _, rfl⟩ := List.mem_map.mp hx
  exact nice_num q
section
variable {g : G} {Q : QD}
theorem pyW_num {f : Addr → Option PyData} (q : Rat) : pyW f (num q) = some (npy q) := rfl
theorem pyWL_nums {f : Addr → Option PyData} : ∀ qs : List Rat, pyWL f (nums qs) = some (npys qs)
  | [] => rfl
  | q :: qs => by
    show pyWL f (num q :: nums qs) = some (npy q :: npys qs)
    rw [pyWL, pyW_num, pyWL_nums qs]
theorem py_num (q : Rat) : py g (num q) = some (npy q) := rfl
theorem py_nums (qs : List Rat) : py g (.tup (nums qs)) = some (.tuple (npys qs)) := by
  unfold py
  rw [pyW, pyWL_nums]
theorem pyN_list {n : Nat} {a : Addr} {qs : List Rat} (h : g a = some (nums qs)) : pyN (n + 1) g a = some (.list (npys qs)) := by
  rw [pyN]
  simp only [h, pyWL_nums]
theorem py_list {a : Addr} {qs : List Rat} (h : g a = some (nums qs)) : py g (.ref a) = some (.list (npys qs)) := by
  unfold py
  rw [pyW]
  exact pyN_list h
theorem eq_rule {n : Bool} {x y : D} {k : Nat} {p q : PyData} (hx : py g x = some p) (hy : py g y = some q) (np : Nice k p) (nq : Nice k q) (hk : k ≤ 64) (h1 : p = q → Q (.bl (!n)) g) (h2 : p ≠ q → Q (.bl n) g) : dEqB n x y g Q := by
  have gen : (match py g x, py g y with
    | some p, some q => SeqAt.shaped p = true ∧ SeqAt.shaped q = true ∧ Q (.bl (n != PyData.eqv p q)) g
    | _, _ => False) := by
    simp only [hx, hy]
    refine ⟨np.shaped hk, nq.shaped hk, ?_⟩
    by_cases e : p = q
    · rw [(eqv_eq p q np.plain nq.plain).mpr e, Bool.bne_true]; exact h1 e
    · rw [Bool.eq_false_iff.mpr fun z => e ((eqv_eq p q np.plain nq.plain).mp z), Bool.bne_false]; exact h2 e
  unfold dEqB
  split
  · rename_i i j
    cases hx; cases hy
    by_cases e : i = j
    · rw [decide_eq_true e, Bool.bne_true]; exact h1 (by rw [e])
    · rw [decide_eq_false e, Bool.bne_false]; exact h2 fun z => e (by cases z; rfl)
  · rename_i i j
    cases hx; cases hy
    by_cases e : i = j
    · rw [decide_eq_true e, Bool.bne_true]; exact h1 (by rw [e])
    · rw [decide_eq_false e, Bool.bne_false]; exact h2 fun z => e (by cases z; rfl)
  · cases hx; exact absurd np.plain (by simp [plainP])
  · exact gen
theorem eq_num {n : Bool} {p q : Rat} (h1 : p = q → Q (.bl (!n)) g) (h2 : p ≠ q → Q (.bl n) g) : dEqB n (num p) (num q) g Q :=
  eq_rule (py_num p) (py_num q) (nice_num p) (nice_num q) (by decide) (fun e => h1 (npy_inj e)) fun e => h2 fun z => e (by rw [z])
theorem eq_tup {n : Bool} {p q : List Rat} (h1 : p = q → Q (.bl (!n)) g) (h2 : p ≠ q → Q (.bl n) g) : dEqB n (.tup (nums p)) (.tup (nums q)) g Q :=
  eq_rule (py_nums p) (py_nums q) (nice_tup (nice_nums p)) (nice_tup (nice_nums q)) (by decide) (fun e => h1 (npys_inj (by injection e))) fun e => h2 fun z => e (by rw [z])
theorem eq_list {n : Bool} {a b : Addr} {p q : List Rat} (ha : g a = some (nums p)) (hb : g b = some (nums q)) (h1 : p = q → Q (.bl (!n)) g) (h2 : p ≠ q → Q (.bl n) g) : dEqB n (.ref a) (.ref b) g Q :=
  eq_rule (py_list ha) (py_list hb) (nice_list (nice_nums p)) (nice_list (nice_nums q)) (by decide) (fun e => h1 (npys_inj (by injection e))) fun e => h2 fun z => e (by rw [z])
end
def sx_law_whole : SX :=
  (.ret (.and (.isi [.int] (.v 0)) (.not (.isi [.bool] (.v 0)))) .nil)
abbrev ns_law_whole : List Str := ["_law_thing"]
def sx_law_is_number : SX :=
  (.ite (.or (.not (.isi [.tuple] (.v 0))) (.or (.cmp .ne (.blt .len (.cons (.v 0) .nil)) (.int 2)) (.or (.not (.call 6 (.cons (.ix (.v 0) (.int 0)) .nil))) (.not (.call 6 (.cons (.ix (.v 0) (.int 1)) .nil))))))
    (.ret (.bl false) .nil)
    .nil
  (.ret (.and (.cmp .gt (.ix (.v 0) (.int 1)) (.int 0)) (.cmp .eq (.call 5 (.cons (.ix (.v 0) (.int 0)) (.cons (.ix (.v 0) (.int 1)) .nil))) (.v 0))) .nil))
abbrev ns_law_is_number : List Str := ["_law_thing"]
def isWhole : D → Bool
  | .int _ => true
  | _ => false
def spWhole : SpD := fun ds g Q _ => ∃ d, ds = [d] ∧ knownD g d ∧ Q (.bl (isWhole d)) g
section
variable {Γ : Nat → SpD} {gl : Nat → D} {ds : List D} {g : G} {Q : QD} {E : XD}
theorem pure_law_whole (h : spWhole ds g Q E) : mnS Γ gl sx_law_whole (endsOf Q E) (startD ns_law_whole ds) g := by
  obtain ⟨d, rfl, hk, h⟩ := h
  simp only [sx_law_whole, mnS, dLamr, mn, Mn.of, Op.rd, Cm.rd, Bl.rd, Mt.rd, Mt.rc, dNop, dSeq, dExpr, dRet, dRetN, dIf, gD, dAsg, dPar, dPut, dRaise, dVar, dC, dBin, dUn, dNil, dCons, dTup, dLst, dTst, dAndT, dOrT, dNotT, dYes, dAnd, dOr, dNot, dChain, dCall, dCB, dMt, dLset, dSrev, dTry, dIsx, dEmp, dDic1, dStp, dFld, dMeth, dMake, dFset, dGin, dGix, dRep, dTryu, dTryn, conD, xsub, Ex.sub, dSlc, dPart, dNoPart, dIAny, dI1, dI2, dI3, dFor, dComp, compB, wipeD, startD, endsOf, at_mk, setAll, add_int, sub_int, mul_int, mul_tup, pow_int, mod_int, fdiv_int, lt_int, le_int, gt_int, ge_int, eq_int, neg_int, len_tup, len_scr, abs_int, max_int, min_int, int_int, int_bl, r1_int, r2_int, tuple_tup, list_tup, over_tup, rev_tup, enum_tup, zip_tup, slc_tup, add_tup, isi_any, ix_tup, ix_scr, ix_num0, ix_num1, len_num, num_0, num_1, atI_0, atI_1, atI_2, List.map, List.cons_append, List.nil_append, List.getElem?_cons_zero, List.getElem?_cons_succ, List.getElem?_nil, List.set_cons_zero, List.set_cons_succ, List.replicate, List.length_cons, List.length_nil, List.foldr_cons, List.foldr_nil, Nat.reduceAdd, Nat.reduceSub, List.replicate_succ, List.replicate_zero, G_up_same, decide_eq_true_eq, Bool.not_eq_true', Bool.false_eq_true, if_true, if_false, ite_true, ite_false, and_true, true_and, reduceCtorEq, Bool.not_true, Bool.not_false, Bool.false_bne, Bool.true_bne, sl0, sl1, sl2, sl3, sl4]
  refine ⟨hk, ?_⟩
  cases d <;> first | exact ⟨hk, _, G.le_refl _, h⟩ | exact ⟨_, G.le_refl _, h⟩
theorem c_whole_int {i : Int} {g : G} {Q : QD} {X : XD} : spWhole [.int i] g Q X ↔ Q (.bl true) g :=
  ⟨fun ⟨_, e, _, h⟩ => by simp only [List.cons.injEq, and_true] at e; subst e; exact h, fun h => ⟨_, rfl, trivial, h⟩⟩
def spIsNum : SpD := fun ds g Q _ => ∃ q : Rat, ds = [num q] ∧ Q (.bl true) g
theorem c_isnum {q : Rat} {g : G} {Q : QD} {X : XD} : spIsNum [num q] g Q X ↔ Q (.bl true) g :=
  ⟨fun ⟨_, e, h⟩ => h, fun h => ⟨q, rfl, h⟩⟩
theorem pure_law_is_number (h5 : Γ 5 = spLowest) (h6 : Γ 6 = spWhole) (h : spIsNum ds g Q E) : mnS Γ gl sx_law_is_number (endsOf Q E) (startD ns_law_is_number ds) g := by
  obtain ⟨q, rfl, h⟩ := h
  have i1 : ([Ty.tuple].any fun t => isTy t (num q)) = true := rfl
  have hd : (0 : Int) < q.den := by have := q.den_pos; omega
  have k : knownD g (num q) := trivial
  simp only [sx_law_is_number, h5, h6, mnS, dLamr, mn, Mn.of, Op.rd, Cm.rd, Bl.rd, Mt.rd, Mt.rc, dNop, dSeq, dExpr, dRet, dRetN, dIf, gD, dAsg, dPar, dPut, dRaise, dVar, dC, dBin, dUn, dNil, dCons, dTup, dLst, dTst, dAndT, dOrT, dNotT, dYes, dAnd, dOr, dNot, dChain, dCall, dCB, dMt, dLset, dSrev, dTry, dIsx, dEmp, dDic1, dStp, dFld, dMeth, dMake, dFset, dGin, dGix, dRep, dTryu, dTryn, conD, xsub, Ex.sub, dSlc, dPart, dNoPart, dIAny, dI1, dI2, dI3, dFor, dComp, compB, wipeD, startD, endsOf, at_mk, setAll, add_int, sub_int, mul_int, mul_tup, pow_int, mod_int, fdiv_int, lt_int, le_int, gt_int, ge_int, eq_int, neg_int, len_tup, len_scr, abs_int, max_int, min_int, int_int, int_bl, r1_int, r2_int, tuple_tup, list_tup, over_tup, rev_tup, enum_tup, zip_tup, slc_tup, add_tup, isi_any, ix_tup, ix_scr, ix_num0, ix_num1, len_num, num_0, num_1, atI_0, atI_1, atI_2, List.map, List.cons_append, List.nil_append, List.getElem?_cons_zero, List.getElem?_cons_succ, List.getElem?_nil, List.set_cons_zero, List.set_cons_succ, List.replicate, List.length_cons, List.length_nil, List.foldr_cons, List.foldr_nil, Nat.reduceAdd, Nat.reduceSub, List.replicate_succ, List.replicate_zero, G_up_same, decide_eq_true_eq, Bool.not_eq_true', Bool.false_eq_true, if_true, if_false, ite_true, ite_false, and_true, true_and, reduceCtorEq, Bool.not_true, Bool.not_false, Bool.false_bne, Bool.true_bne, sl0, sl1, sl2, sl3, sl4, i1, Bool.not_true, eq_int, decide_true, Bool.bne_true, c_whole_int, c_lowest, hd, Rat.num_divInt_den]
  exact ⟨k, by omega, eq_num (fun _ => ⟨_, G.le_refl _, h⟩) fun z => absurd rfl z⟩
end
end PP
namespace PP
open PySem PySem.Spec PyProof.Rows L2
def sx_law_number_v2 : SX :=
  (.ite (.cmp .gt (.call 4 (.cons (.v 0) (.cons (.int 6) .nil))) (.int 0))
    (.ret (.call 5 (.cons (.bin .sub (.call 4 (.cons (.v 0) (.cons (.int 19) .nil))) (.int 9)) (.cons (.bin .add (.int 1) (.call 4 (.cons (.v 0) (.cons (.ix (.lst (.cons (.int 1) (.cons (.int 4) .nil))) (.call 4 (.cons (.v 0) (.cons (.int 2) .nil)))) .nil)))) .nil))) .nil)
    .nil
  (.ret (.call 5 (.cons (.bin .sub (.call 4 (.cons (.v 0) (.cons (.int 199) .nil))) (.int 99)) (.cons (.bin .add (.int 1) (.call 4 (.cons (.v 0) (.cons (.int 9) .nil)))) .nil))) .nil))
abbrev ns_law_number_v2 : List Str := ["_law_pen_here"]
section
variable {Γ : Nat → SpD} {gl : Nat → D} {ds : List D} {g : G} {Q : QD} {E X : XD}
theorem c_draw {a : Addr} {m : Int} {xs : List D} {n : Nat} (h : g a = some xs) (hm : 0 < m) (hp : PenL xs n) (hn : n < 2 ^ 50) (k : ∀ (d : Nat) xs', (d : Int) < m → PenL xs' (n + 1) → Q (.int d) (g.up a xs')) : spDraw [.ref a, .int m] g Q X :=
  ⟨a, m, xs, n, rfl, hm, h, hp, hn, k⟩
def spPenFn (R : D → Prop) (c : Nat) : SpD := fun ds g Q _ => ∃ (a : Addr) (xs : List D) (n : Nat), ds = [.ref a] ∧ g a = some xs ∧ PenL xs n ∧ n + c < 2 ^ 50 ∧ ∀ d xs', R d → PenL xs' (n + c) → Q d (g.up a xs')
theorem c_penFn {R : D → Prop} {c : Nat} {a : Addr} {xs : List D} {n : Nat} (h : g a = some xs) (hp : PenL xs n) (hn : n + c < 2 ^ 50) (k : ∀ d xs', R d → PenL xs' (n + c) → Q d (g.up a xs')) : spPenFn R c [.ref a] g Q X :=
  ⟨a, xs, n, rfl, h, hp, hn, k⟩
def isNumD (b : Nat) (d : D) : Prop := ∃ q : Rat, d = num q ∧ sz q ≤ b
theorem isNum_div {t b : Int} {c : Nat} (ht : t.natAbs < 2 ^ c) (hb : b.natAbs < 2 ^ c) (h0 : b ≠ 0) : isNumD c (num (Rat.divInt t b)) := ⟨_, rfl, sz_divInt ht hb h0⟩
theorem pure_law_number_v2 (h4 : Γ 4 = spDraw) (h5 : Γ 5 = spLowest) (h : spPenFn (isNumD 16) 4 ds g Q E) : mnS Γ gl sx_law_number_v2 (endsOf Q E) (startD ns_law_number_v2 ds) g := by
  obtain ⟨a, xs, n, rfl, hg, hp, hn, h⟩ := h
  simp only [sx_law_number_v2, h4, h5, mnS, dLamr, mn, Mn.of, Op.rd, Cm.rd, Bl.rd, Mt.rd, Mt.rc, dNop, dSeq, dExpr, dRet, dRetN, dIf, gD, dAsg, dPar, dPut, dRaise, dVar, dC, dBin, dUn, dNil, dCons, dTup, dLst, dTst, dAndT, dOrT, dNotT, dYes, dAnd, dOr, dNot, dChain, dCall, dCB, dMt, dLset, dSrev, dTry, dIsx, dEmp, dDic1, dStp, dFld, dMeth, dMake, dFset, dGin, dGix, dRep, dTryu, dTryn, conD, xsub, Ex.sub, dSlc, dPart, dNoPart, dIAny, dI1, dI2, dI3, dFor, dComp, compB, wipeD, startD, endsOf, at_mk, setAll, add_int, sub_int, mul_int, mul_tup, pow_int, mod_int, fdiv_int, lt_int, le_int, gt_int, ge_int, eq_int, neg_int, len_tup, len_scr, abs_int, max_int, min_int, int_int, int_bl, r1_int, r2_int, tuple_tup, list_tup, over_tup, rev_tup, enum_tup, zip_tup, slc_tup, add_tup, isi_any, ix_tup, ix_scr, ix_num0, ix_num1, len_num, num_0, num_1, atI_0, atI_1, atI_2, List.map, List.cons_append, List.nil_append, List.getElem?_cons_zero, List.getElem?_cons_succ, List.getElem?_nil, List.set_cons_zero, List.set_cons_succ, List.replicate, List.length_cons, List.length_nil, List.foldr_cons, List.foldr_nil, Nat.reduceAdd, Nat.reduceSub, List.replicate_succ, List.replicate_zero, G_up_same, decide_eq_true_eq, Bool.not_eq_true', Bool.false_eq_true, if_true, if_false, ite_true, ite_false, and_true, true_and, reduceCtorEq, Bool.not_true, Bool.not_false, Bool.false_bne, Bool.true_bne, sl0, sl1, sl2, sl3, sl4]
  refine c_draw hg (by decide) hp (by omega) fun w xs1 hw p1 => ?_
  try simp only [mnS, dLamr, mn, Mn.of, Op.rd, Cm.rd, Bl.rd, Mt.rd, Mt.rc, dNop, dSeq, dExpr, dRet, dRetN, dIf, gD, dAsg, dPar, dPut, dRaise, dVar, dC, dBin, dUn, dNil, dCons, dTup, dLst, dTst, dAndT, dOrT, dNotT, dYes, dAnd, dOr, dNot, dChain, dCall, dCB, dMt, dLset, dSrev, dTry, dIsx, dEmp, dDic1, dStp, dFld, dMeth, dMake, dFset, dGin, dGix, dRep, dTryu, dTryn, conD, xsub, Ex.sub, dSlc, dPart, dNoPart, dIAny, dI1, dI2, dI3, dFor, dComp, compB, wipeD, startD, endsOf, at_mk, setAll, add_int, sub_int, mul_int, mul_tup, pow_int, mod_int, fdiv_int, lt_int, le_int, gt_int, ge_int, eq_int, neg_int, len_tup, len_scr, abs_int, max_int, min_int, int_int, int_bl, r1_int, r2_int, tuple_tup, list_tup, over_tup, rev_tup, enum_tup, zip_tup, slc_tup, add_tup, isi_any, ix_tup, ix_scr, ix_num0, ix_num1, len_num, num_0, num_1, atI_0, atI_1, atI_2, List.map, List.cons_append, List.nil_append, List.getElem?_cons_zero, List.getElem?_cons_succ, List.getElem?_nil, List.set_cons_zero, List.set_cons_succ, List.replicate, List.length_cons, List.length_nil, List.foldr_cons, List.foldr_nil, Nat.reduceAdd, Nat.reduceSub, List.replicate_succ, List.replicate_zero, G_up_same, decide_eq_true_eq, Bool.not_eq_true', Bool.false_eq_true, if_true, if_false, ite_true, ite_false, and_true, true_and, reduceCtorEq, Bool.not_true, Bool.not_false, Bool.false_bne, Bool.true_bne, sl0, sl1, sl2, sl3, sl4]
  split
  · refine c_draw G_up_same (by decide) p1 (by omega) fun d1 xs2 hd1 p2 => ?_
    simp only [mnS, dLamr, mn, Mn.of, Op.rd, Cm.rd, Bl.rd, Mt.rd, Mt.rc, dNop, dSeq, dExpr, dRet, dRetN, dIf, gD, dAsg, dPar, dPut, dRaise, dVar, dC, dBin, dUn, dNil, dCons, dTup, dLst, dTst, dAndT, dOrT, dNotT, dYes, dAnd, dOr, dNot, dChain, dCall, dCB, dMt, dLset, dSrev, dTry, dIsx, dEmp, dDic1, dStp, dFld, dMeth, dMake, dFset, dGin, dGix, dRep, dTryu, dTryn, conD, xsub, Ex.sub, dSlc, dPart, dNoPart, dIAny, dI1, dI2, dI3, dFor, dComp, compB, wipeD, startD, endsOf, at_mk, setAll, add_int, sub_int, mul_int, mul_tup, pow_int, mod_int, fdiv_int, lt_int, le_int, gt_int, ge_int, eq_int, neg_int, len_tup, len_scr, abs_int, max_int, min_int, int_int, int_bl, r1_int, r2_int, tuple_tup, list_tup, over_tup, rev_tup, enum_tup, zip_tup, slc_tup, add_tup, isi_any, ix_tup, ix_scr, ix_num0, ix_num1, len_num, num_0, num_1, atI_0, atI_1, atI_2, List.map, List.cons_append, List.nil_append, List.getElem?_cons_zero, List.getElem?_cons_succ, List.getElem?_nil, List.set_cons_zero, List.set_cons_succ, List.replicate, List.length_cons, List.length_nil, List.foldr_cons, List.foldr_nil, Nat.reduceAdd, Nat.reduceSub, List.replicate_succ, List.replicate_zero, G_up_same, decide_eq_true_eq, Bool.not_eq_true', Bool.false_eq_true, if_true, if_false, ite_true, ite_false, and_true, true_and, reduceCtorEq, Bool.not_true, Bool.not_false, Bool.false_bne, Bool.true_bne, sl0, sl1, sl2, sl3, sl4, G_up_up]
    intro p hp
    refine c_draw (G_up_fresh hp G_up_same) (by decide) p2 (by omega) fun d2 xs3 hd2 p3 => ?_
    have hne := ne_of_known (g := g.up a xs2) G_up_same hp
    refine ix_some ((G_up_ne (Ne.symm hne)).trans G_up_same) (by omega) hd2 fun x hx => ?_
    have hx' : ∃ m : Int, x = .int m ∧ 0 < m ∧ m ≤ 4 := by
      simp at hx
      rcases hx with e | e <;> exact ⟨_, e, by decide, by decide⟩
    obtain ⟨m, rfl, hm, hm2⟩ := hx'
    refine c_draw G_up_same hm p3 (by omega) fun d3 xs4 hd3 p4 => ?_
    simp only [mnS, dLamr, mn, Mn.of, Op.rd, Cm.rd, Bl.rd, Mt.rd, Mt.rc, dNop, dSeq, dExpr, dRet, dRetN, dIf, gD, dAsg, dPar, dPut, dRaise, dVar, dC, dBin, dUn, dNil, dCons, dTup, dLst, dTst, dAndT, dOrT, dNotT, dYes, dAnd, dOr, dNot, dChain, dCall, dCB, dMt, dLset, dSrev, dTry, dIsx, dEmp, dDic1, dStp, dFld, dMeth, dMake, dFset, dGin, dGix, dRep, dTryu, dTryn, conD, xsub, Ex.sub, dSlc, dPart, dNoPart, dIAny, dI1, dI2, dI3, dFor, dComp, compB, wipeD, startD, endsOf, at_mk, setAll, add_int, sub_int, mul_int, mul_tup, pow_int, mod_int, fdiv_int, lt_int, le_int, gt_int, ge_int, eq_int, neg_int, len_tup, len_scr, abs_int, max_int, min_int, int_int, int_bl, r1_int, r2_int, tuple_tup, list_tup, over_tup, rev_tup, enum_tup, zip_tup, slc_tup, add_tup, isi_any, ix_tup, ix_scr, ix_num0, ix_num1, len_num, num_0, num_1, atI_0, atI_1, atI_2, List.map, List.cons_append, List.nil_append, List.getElem?_cons_zero, List.getElem?_cons_succ, List.getElem?_nil, List.set_cons_zero, List.set_cons_succ, List.replicate, List.length_cons, List.length_nil, List.foldr_cons, List.foldr_nil, Nat.reduceAdd, Nat.reduceSub, List.replicate_succ, List.replicate_zero, G_up_same, decide_eq_true_eq, Bool.not_eq_true', Bool.false_eq_true, if_true, if_false, ite_true, ite_false, and_true, true_and, reduceCtorEq, Bool.not_true, Bool.not_false, Bool.false_bne, Bool.true_bne, sl0, sl1, sl2, sl3, sl4, c_lowest]
    exact ⟨by omega, g.up a xs4, (by intro b ys hb; simp only [G.up] at *; grind), h _ _ (isNum_div (by omega) (by omega) (by omega)) p4⟩
  · refine c_draw G_up_same (by decide) p1 (by omega) fun d1 xs2 hd1 p2 => ?_
    simp only [mnS, dLamr, mn, Mn.of, Op.rd, Cm.rd, Bl.rd, Mt.rd, Mt.rc, dNop, dSeq, dExpr, dRet, dRetN, dIf, gD, dAsg, dPar, dPut, dRaise, dVar, dC, dBin, dUn, dNil, dCons, dTup, dLst, dTst, dAndT, dOrT, dNotT, dYes, dAnd, dOr, dNot, dChain, dCall, dCB, dMt, dLset, dSrev, dTry, dIsx, dEmp, dDic1, dStp, dFld, dMeth, dMake, dFset, dGin, dGix, dRep, dTryu, dTryn, conD, xsub, Ex.sub, dSlc, dPart, dNoPart, dIAny, dI1, dI2, dI3, dFor, dComp, compB, wipeD, startD, endsOf, at_mk, setAll, add_int, sub_int, mul_int, mul_tup, pow_int, mod_int, fdiv_int, lt_int, le_int, gt_int, ge_int, eq_int, neg_int, len_tup, len_scr, abs_int, max_int, min_int, int_int, int_bl, r1_int, r2_int, tuple_tup, list_tup, over_tup, rev_tup, enum_tup, zip_tup, slc_tup, add_tup, isi_any, ix_tup, ix_scr, ix_num0, ix_num1, len_num, num_0, num_1, atI_0, atI_1, atI_2, List.map, List.cons_append, List.nil_append, List.getElem?_cons_zero, List.getElem?_cons_succ, List.getElem?_nil, List.set_cons_zero, List.set_cons_succ, List.replicate, List.length_cons, List.length_nil, List.foldr_cons, List.foldr_nil, Nat.reduceAdd, Nat.reduceSub, List.replicate_succ, List.replicate_zero, G_up_same, decide_eq_true_eq, Bool.not_eq_true', Bool.false_eq_true, if_true, if_false, ite_true, ite_false, and_true, true_and, reduceCtorEq, Bool.not_true, Bool.not_false, Bool.false_bne, Bool.true_bne, sl0, sl1, sl2, sl3, sl4, G_up_up]
    refine c_draw G_up_same (by decide) p2 (by omega) fun d2 xs3 hd2 p3 => ?_
    simp only [mnS, dLamr, mn, Mn.of, Op.rd, Cm.rd, Bl.rd, Mt.rd, Mt.rc, dNop, dSeq, dExpr, dRet, dRetN, dIf, gD, dAsg, dPar, dPut, dRaise, dVar, dC, dBin, dUn, dNil, dCons, dTup, dLst, dTst, dAndT, dOrT, dNotT, dYes, dAnd, dOr, dNot, dChain, dCall, dCB, dMt, dLset, dSrev, dTry, dIsx, dEmp, dDic1, dStp, dFld, dMeth, dMake, dFset, dGin, dGix, dRep, dTryu, dTryn, conD, xsub, Ex.sub, dSlc, dPart, dNoPart, dIAny, dI1, dI2, dI3, dFor, dComp, compB, wipeD, startD, endsOf, at_mk, setAll, add_int, sub_int, mul_int, mul_tup, pow_int, mod_int, fdiv_int, lt_int, le_int, gt_int, ge_int, eq_int, neg_int, len_tup, len_scr, abs_int, max_int, min_int, int_int, int_bl, r1_int, r2_int, tuple_tup, list_tup, over_tup, rev_tup, enum_tup, zip_tup, slc_tup, add_tup, isi_any, ix_tup, ix_scr, ix_num0, ix_num1, len_num, num_0, num_1, atI_0, atI_1, atI_2, List.map, List.cons_append, List.nil_append, List.getElem?_cons_zero, List.getElem?_cons_succ, List.getElem?_nil, List.set_cons_zero, List.set_cons_succ, List.replicate, List.length_cons, List.length_nil, List.foldr_cons, List.foldr_nil, Nat.reduceAdd, Nat.reduceSub, List.replicate_succ, List.replicate_zero, G_up_same, decide_eq_true_eq, Bool.not_eq_true', Bool.false_eq_true, if_true, if_false, ite_true, ite_false, and_true, true_and, reduceCtorEq, Bool.not_true, Bool.not_false, Bool.false_bne, Bool.true_bne, sl0, sl1, sl2, sl3, sl4, c_lowest, G_up_up]
    exact ⟨by omega, _, G.le_refl _, h _ _ (isNum_div (by omega) (by omega) (by omega)) (p3.mono (by omega))⟩
end
end PP
namespace PP
open PySem PySem.Spec PyProof.Rows L2
def G.lea (a : Addr) (g g' : G) : Prop := ∀ b xs, b ≠ a → g b = some xs → g' b = some xs
theorem G.lea_refl {a : Addr} {g : G} : G.lea a g g := fun _ _ _ h => h
theorem G.lea_of {a : Addr} {g g' : G} (h : g.le g') : G.lea a g g' := fun _ _ _ e => h _ _ e
theorem G.lea_fin {a : Addr} {g g' : G} {xs : List D} (h : G.lea a g g') (e : g' a = some xs) : (g.up a xs).le g' := fun b ys q => by
  by_cases hb : b = a
  · subst hb; rw [G_up_same] at q; rw [e]; exact q
  · rw [G_up_ne hb] at q; exact h _ _ hb q
theorem G.le_new {g : G} {p : Addr} {xs : List D} (hp : g p = none) : g.le (g.up p xs) := G.le_up (G.le_refl g) hp
def SeqD (g : G) (d : D) (xs : List D) : Prop := d = .tup xs ∨ ∃ a, d = .ref a ∧ g a = some xs
theorem SeqD.tup {g : G} {xs : List D} : SeqD g (.tup xs) xs := .inl rfl
theorem SeqD.ref {g : G} {a : Addr} {xs : List D} (h : g a = some xs) : SeqD g (.ref a) xs := .inr ⟨a, rfl, h⟩
theorem over_seq {g : G} {d : D} {xs : List D} {R : List D → (G → Prop) → G → Prop} (h : SeqD g d xs) (k : ∀ stay : G → Prop, (∀ g', g.le g' → stay g') → R xs stay g) : dOver d g R := by
  rcases h with rfl | ⟨a, rfl, h⟩
  · exact k _ fun _ _ => trivial
  · rw [over_ref h]; exact k _ fun _ l => l _ _ h
theorem len_seq {g : G} {d : D} {xs : List D} {Q : QD} (h : SeqD g d xs) : dLen [d] g Q = Q (.int xs.length) g := by
  rcases h with rfl | ⟨a, rfl, h⟩
  · rfl
  · exact len_ref h
theorem ix_seq {g : G} {d : D} {xs : List D} {i : Int} {Q : QD} (h : SeqD g d xs) : dIx d (.int i) g Q = (match atI xs i with | some d => Q d g | none => False) := by
  rcases h with rfl | ⟨a, rfl, h⟩
  · rfl
  · exact ix_ref h
theorem SeqD.le {g g' : G} {d : D} {xs : List D} (h : SeqD g d xs) (l : g.le g') : SeqD g' d xs := by
  rcases h with rfl | ⟨a, rfl, h⟩
  · exact .tup
  · exact .ref (l _ _ h)
theorem cut_to {α : Type} {xs : List α} {k : Nat} (h : k ≤ xs.length) : cut xs none (some (k : Int)) = xs.take k := by
  unfold cut HT.sIx
  have h1 : ¬ ((k : Int) < 0) := by omega
  simp [h1, h]
theorem atI_last {α : Type} {xs : List α} {x : α} : atI (xs ++ [x]) (-1) = some x := by
  unfold atI ixN
  rw [if_neg (by omega), if_pos (by simp; omega)]
  simp
  rw [show (-1 + ((xs.length : Int) + 1)).toNat = xs.length by omega]
  simp
def ev (c : List Rat) (x : Rat) : Rat := c.foldr (fun a r => a + x * r) 0
theorem ev_nil (x : Rat) : ev [] x = 0 := rfl
theorem ev_cons (a : Rat) (c : List Rat) (x : Rat) : ev (a :: c) x = a + x * ev c x := rfl
def trim : List Rat → List Rat
  | [] => []
  | a :: c => match trim c with
    | [] => if a = 0 then [] else [a]
    | b :: r => a :: b :: r
def Tight (c : List Rat) : Prop := ∀ q, c.getLast? = some q → q ≠ 0
theorem ev_zeros (k : Nat) (x : Rat) : ev (List.replicate k 0) x = 0 := by
  induction k with
  | zero => rfl
  | succ k ih => rw [List.replicate_succ, ev_cons, ih]; grind
theorem ev_append_zeros (c : List Rat) (k : Nat) (x : Rat) : ev (c ++ List.replicate k 0) x = ev c x := by
  induction c with
  | nil => exact ev_zeros k x
  | cons a c ih => rw [List.cons_append, ev_cons, ev_cons, ih]
theorem trim_zeros (k : Nat) : trim (List.replicate k 0) = [] := by
  induction k with
  | zero => rfl
  | succ k ih => rw [List.replicate_succ, trim, ih]; simp
theorem trim_of {c r : List Rat} {k : Nat} (h : c = r ++ List.replicate k 0) (hl : Tight r) : trim c = r := by
  subst h
  induction r with
  | nil => exact trim_zeros k
  | cons a r ih =>
    rw [List.cons_append, trim]
    cases r with
    | nil =>
      rw [List.nil_append, trim_zeros]
      have := hl a rfl
      simp [this]
    | cons b r =>
      rw [ih (fun q hq => hl q (by simpa using hq))]
theorem trim_split (c : List Rat) : ∃ k, c = trim c ++ List.replicate k 0 := by
  induction c with
  | nil => exact ⟨0, rfl⟩
  | cons a c ih =>
    obtain ⟨k, hk⟩ := ih
    rw [trim]
    cases e : trim c with
    | nil =>
      rw [e] at hk
      by_cases ha : a = 0
      · exact ⟨k + 1, by simp only [ha, if_true]; rw [List.replicate_succ, List.nil_append]; exact congrArg _ hk⟩
      · exact ⟨k, by simp only [ha, if_false]; exact congrArg _ hk⟩
    | cons b r =>
      rw [e] at hk
      exact ⟨k, by simp only [List.cons_append]; exact congrArg _ hk⟩
theorem trim_tight (c : List Rat) : Tight (trim c) := by
  induction c with
  | nil => intro q h; cases h
  | cons a c ih =>
    rw [trim]
    cases e : trim c with
    | nil =>
      by_cases ha : a = 0
      · simp only [ha, if_true]; intro q h; cases h
      · simp only [ha, if_false]; intro q h; cases h; exact ha
    | cons b r =>
      rw [e] at ih
      intro q h
      exact ih q (by simpa using h)
theorem trim_self {c : List Rat} (h : Tight c) : trim c = c := trim_of (k := 0) (by simp) h
theorem ev_trim (c : List Rat) (x : Rat) : ev (trim c) x = ev c x := by
  obtain ⟨k, hk⟩ := trim_split c
  conv => rhs; rw [hk]
  rw [ev_append_zeros]
theorem trim_len (c : List Rat) : (trim c).length ≤ c.length := by
  obtain ⟨k, hk⟩ := trim_split c
  have := congrArg List.length hk
  simp at this
  omega
theorem trim_mem {c : List Rat} {q : Rat} (h : q ∈ trim c) : q ∈ c := by
  obtain ⟨k, hk⟩ := trim_split c
  rw [hk]
  exact List.mem_append_left _ h
def sx_curve_of : SX :=
  (.asg (.n 1) (.blt .len (.cons (.v 0) .nil))
  (.whl (.and (.cmp .gt (.v 1) (.int 0)) (.cmp .eq (.ix (.v 0) (.bin .sub (.v 1) (.int 1))) (.glo 0)))
    (.asg (.n 1) (.bin .sub (.v 1) (.int 1)) .nil)
  (.ret (.blt .tuple (.cons (.slc (.v 0) .hole (.v 1)) .nil)) .nil)))
abbrev ns_curve_of : List Str := ["numbers", "many"]
def sx_law_at : SX :=
  (.asg (.n 2) (.tup (.cons (.int 0) (.cons (.int 1) .nil)))
  (.asg (.n 3) (.tup (.cons (.int 1) (.cons (.int 1) .nil)))
  (.for_ (.n 4) (.over (.v 0))
    (.asg (.n 2) (.call 25 (.cons (.v 2) (.cons (.call 26 (.cons (.v 4) (.cons (.v 3) .nil))) .nil)))
    (.asg (.n 3) (.call 26 (.cons (.v 3) (.cons (.v 1) .nil))) .nil))
  (.ret (.v 2) .nil))))
abbrev ns_law_at : List Str := ["_law_curve", "_law_x", "_law_found", "_law_power", "_law_number_here"]
def sx_law_is_curve : SX :=
  (.ite (.or (.not (.isi [.tuple] (.v 0))) (.not (.blt .all (.cons (.comp [1] (.n 1) (.over (.v 0)) .yes (.call 7 (.cons (.v 1) .nil))) .nil))))
    (.ret (.bl false) .nil)
    .nil
  (.ret (.or (.cmp .eq (.v 0) (.tup .nil)) (.cmp .ne (.ix (.v 0) (.neg (.int 1))) (.tup (.cons (.int 0) (.cons (.int 1) .nil))))) .nil))
abbrev ns_law_is_curve : List Str := ["_law_thing", "_law_number_here"]
section
variable {Γ : Nat → SpD} {gl : Nat → D} {ds : List D} {g : G} {Q : QD} {E X : XD}
def spCurveOf : SpD := fun ds g Q _ => ∃ a qs, ds = [.ref a] ∧ g a = some (nums qs) ∧ Q (.tup (nums (trim qs))) g
theorem c_curveOf {a : Addr} {qs : List Rat} (h : g a = some (nums qs)) (k : Q (.tup (nums (trim qs))) g) : spCurveOf [.ref a] g Q X := ⟨a, qs, rfl, h, k⟩
theorem pure_curve_of (hg : gl 0 = .tup [.int 0, .int 1]) (h : spCurveOf ds g Q E) : mnS Γ gl sx_curve_of (endsOf Q E) (startD ns_curve_of ds) g := by
  obtain ⟨a, qs, rfl, ha, h⟩ := h
  simp only [sx_curve_of, hg, mnS, dLamr, mn, Mn.of, Op.rd, Cm.rd, Bl.rd, Mt.rd, Mt.rc, dNop, dSeq, dExpr, dRet, dRetN, dIf, gD, dAsg, dPar, dPut, dRaise, dVar, dC, dBin, dUn, dNil, dCons, dTup, dLst, dTst, dAndT, dOrT, dNotT, dYes, dAnd, dOr, dNot, dChain, dCall, dCB, dMt, dLset, dSrev, dTry, dIsx, dEmp, dDic1, dStp, dFld, dMeth, dMake, dFset, dGin, dGix, dRep, dTryu, dTryn, conD, xsub, Ex.sub, dSlc, dPart, dNoPart, dIAny, dI1, dI2, dI3, dFor, dComp, compB, wipeD, startD, endsOf, at_mk, setAll, add_int, sub_int, mul_int, mul_tup, pow_int, mod_int, fdiv_int, lt_int, le_int, gt_int, ge_int, eq_int, neg_int, len_tup, len_scr, abs_int, max_int, min_int, int_int, int_bl, r1_int, r2_int, tuple_tup, list_tup, over_tup, rev_tup, enum_tup, zip_tup, slc_tup, add_tup, isi_any, ix_tup, ix_scr, ix_num0, ix_num1, len_num, num_0, num_1, atI_0, atI_1, atI_2, List.map, List.cons_append, List.nil_append, List.getElem?_cons_zero, List.getElem?_cons_succ, List.getElem?_nil, List.set_cons_zero, List.set_cons_succ, List.replicate, List.length_cons, List.length_nil, List.foldr_cons, List.foldr_nil, Nat.reduceAdd, Nat.reduceSub, List.replicate_succ, List.replicate_zero, G_up_same, decide_eq_true_eq, Bool.not_eq_true', Bool.false_eq_true, if_true, if_false, ite_true, ite_false, and_true, true_and, reduceCtorEq, Bool.not_true, Bool.not_false, Bool.false_bne, Bool.true_bne, sl0, sl1, sl2, sl3, sl4, len_ref ha, nums_len]
  refine ⟨fun m env g' => g' = g ∧ env = [some (.ref a), some (.int m)] ∧ ∃ k, m + k = qs.length ∧ qs = qs.take m ++ List.replicate k 0, ⟨qs.length, rfl, rfl, 0, by omega, by simp⟩, ?_⟩
  rintro m env g' ⟨rfl, rfl, k, hk, hq⟩
  try simp only [mnS, dLamr, mn, Mn.of, Op.rd, Cm.rd, Bl.rd, Mt.rd, Mt.rc, dNop, dSeq, dExpr, dRet, dRetN, dIf, gD, dAsg, dPar, dPut, dRaise, dVar, dC, dBin, dUn, dNil, dCons, dTup, dLst, dTst, dAndT, dOrT, dNotT, dYes, dAnd, dOr, dNot, dChain, dCall, dCB, dMt, dLset, dSrev, dTry, dIsx, dEmp, dDic1, dStp, dFld, dMeth, dMake, dFset, dGin, dGix, dRep, dTryu, dTryn, conD, xsub, Ex.sub, dSlc, dPart, dNoPart, dIAny, dI1, dI2, dI3, dFor, dComp, compB, wipeD, startD, endsOf, at_mk, setAll, add_int, sub_int, mul_int, mul_tup, pow_int, mod_int, fdiv_int, lt_int, le_int, gt_int, ge_int, eq_int, neg_int, len_tup, len_scr, abs_int, max_int, min_int, int_int, int_bl, r1_int, r2_int, tuple_tup, list_tup, over_tup, rev_tup, enum_tup, zip_tup, slc_tup, add_tup, isi_any, ix_tup, ix_scr, ix_num0, ix_num1, len_num, num_0, num_1, atI_0, atI_1, atI_2, List.map, List.cons_append, List.nil_append, List.getElem?_cons_zero, List.getElem?_cons_succ, List.getElem?_nil, List.set_cons_zero, List.set_cons_succ, List.replicate, List.length_cons, List.length_nil, List.foldr_cons, List.foldr_nil, Nat.reduceAdd, Nat.reduceSub, List.replicate_succ, List.replicate_zero, G_up_same, decide_eq_true_eq, Bool.not_eq_true', Bool.false_eq_true, if_true, if_false, ite_true, ite_false, and_true, true_and, reduceCtorEq, Bool.not_true, Bool.not_false, Bool.false_bne, Bool.true_bne, sl0, sl1, sl2, sl3, sl4]
  have fin : ∀ p, g' p = none → Tight (qs.take m) → ∃ g0, g0.le (g'.up p (nums (qs.take m))) ∧ Q (.tup (nums (qs.take m))) g0 := fun p hp ht =>
    ⟨g', G.le_new hp, by rw [← trim_of hq ht]; exact h⟩
  have hcut : cut (nums qs) none (some (m : Int)) = nums (qs.take m) := by
    rw [cut_to (by rw [nums_len]; omega)]
    unfold nums
    rw [List.map_take]
  split
  · rename_i hm
    have hm : 0 < m := by omega
    have hlt : m - 1 < qs.length := by omega
    rw [ix_ref ha, show ((m : Int) - 1) = ((m - 1 : Nat) : Int) by omega, atI_nums rfl (List.getElem?_eq_getElem hlt)]
    have e1 : qs.take m = qs.take (m - 1) ++ [qs[m - 1]] := by
      conv => lhs; rw [show m = m - 1 + 1 by omega]
      rw [List.take_succ_eq_append_getElem hlt]
    refine eq_num (fun e => ?_) fun e => ?_
    · simp only [mnS, dLamr, mn, Mn.of, Op.rd, Cm.rd, Bl.rd, Mt.rd, Mt.rc, dNop, dSeq, dExpr, dRet, dRetN, dIf, gD, dAsg, dPar, dPut, dRaise, dVar, dC, dBin, dUn, dNil, dCons, dTup, dLst, dTst, dAndT, dOrT, dNotT, dYes, dAnd, dOr, dNot, dChain, dCall, dCB, dMt, dLset, dSrev, dTry, dIsx, dEmp, dDic1, dStp, dFld, dMeth, dMake, dFset, dGin, dGix, dRep, dTryu, dTryn, conD, xsub, Ex.sub, dSlc, dPart, dNoPart, dIAny, dI1, dI2, dI3, dFor, dComp, compB, wipeD, startD, endsOf, at_mk, setAll, add_int, sub_int, mul_int, mul_tup, pow_int, mod_int, fdiv_int, lt_int, le_int, gt_int, ge_int, eq_int, neg_int, len_tup, len_scr, abs_int, max_int, min_int, int_int, int_bl, r1_int, r2_int, tuple_tup, list_tup, over_tup, rev_tup, enum_tup, zip_tup, slc_tup, add_tup, isi_any, ix_tup, ix_scr, ix_num0, ix_num1, len_num, num_0, num_1, atI_0, atI_1, atI_2, List.map, List.cons_append, List.nil_append, List.getElem?_cons_zero, List.getElem?_cons_succ, List.getElem?_nil, List.set_cons_zero, List.set_cons_succ, List.replicate, List.length_cons, List.length_nil, List.foldr_cons, List.foldr_nil, Nat.reduceAdd, Nat.reduceSub, List.replicate_succ, List.replicate_zero, G_up_same, decide_eq_true_eq, Bool.not_eq_true', Bool.false_eq_true, if_true, if_false, ite_true, ite_false, and_true, true_and, reduceCtorEq, Bool.not_true, Bool.not_false, Bool.false_bne, Bool.true_bne, sl0, sl1, sl2, sl3, sl4, Bool.not_false]
      refine ⟨m - 1, by omega, rfl, k + 1, by omega, ?_⟩
      conv => lhs; rw [hq]
      rw [e1, e, List.append_assoc, List.replicate_succ]
      rfl
    · simp only [mnS, dLamr, mn, Mn.of, Op.rd, Cm.rd, Bl.rd, Mt.rd, Mt.rc, dNop, dSeq, dExpr, dRet, dRetN, dIf, gD, dAsg, dPar, dPut, dRaise, dVar, dC, dBin, dUn, dNil, dCons, dTup, dLst, dTst, dAndT, dOrT, dNotT, dYes, dAnd, dOr, dNot, dChain, dCall, dCB, dMt, dLset, dSrev, dTry, dIsx, dEmp, dDic1, dStp, dFld, dMeth, dMake, dFset, dGin, dGix, dRep, dTryu, dTryn, conD, xsub, Ex.sub, dSlc, dPart, dNoPart, dIAny, dI1, dI2, dI3, dFor, dComp, compB, wipeD, startD, endsOf, at_mk, setAll, add_int, sub_int, mul_int, mul_tup, pow_int, mod_int, fdiv_int, lt_int, le_int, gt_int, ge_int, eq_int, neg_int, len_tup, len_scr, abs_int, max_int, min_int, int_int, int_bl, r1_int, r2_int, tuple_tup, list_tup, over_tup, rev_tup, enum_tup, zip_tup, slc_tup, add_tup, isi_any, ix_tup, ix_scr, ix_num0, ix_num1, len_num, num_0, num_1, atI_0, atI_1, atI_2, List.map, List.cons_append, List.nil_append, List.getElem?_cons_zero, List.getElem?_cons_succ, List.getElem?_nil, List.set_cons_zero, List.set_cons_succ, List.replicate, List.length_cons, List.length_nil, List.foldr_cons, List.foldr_nil, Nat.reduceAdd, Nat.reduceSub, List.replicate_succ, List.replicate_zero, G_up_same, decide_eq_true_eq, Bool.not_eq_true', Bool.false_eq_true, if_true, if_false, ite_true, ite_false, and_true, true_and, reduceCtorEq, Bool.not_true, Bool.not_false, Bool.false_bne, Bool.true_bne, sl0, sl1, sl2, sl3, sl4, slc_ref ha, hcut]
      intro p hp
      rw [tuple_ref G_up_same]
      exact fin p hp fun q hq2 => by
        rw [e1, List.getLast?_append] at hq2
        simp at hq2
        rw [← hq2]; exact e
  · rename_i hm
    have hm : m = 0 := by omega
    simp only [mnS, dLamr, mn, Mn.of, Op.rd, Cm.rd, Bl.rd, Mt.rd, Mt.rc, dNop, dSeq, dExpr, dRet, dRetN, dIf, gD, dAsg, dPar, dPut, dRaise, dVar, dC, dBin, dUn, dNil, dCons, dTup, dLst, dTst, dAndT, dOrT, dNotT, dYes, dAnd, dOr, dNot, dChain, dCall, dCB, dMt, dLset, dSrev, dTry, dIsx, dEmp, dDic1, dStp, dFld, dMeth, dMake, dFset, dGin, dGix, dRep, dTryu, dTryn, conD, xsub, Ex.sub, dSlc, dPart, dNoPart, dIAny, dI1, dI2, dI3, dFor, dComp, compB, wipeD, startD, endsOf, at_mk, setAll, add_int, sub_int, mul_int, mul_tup, pow_int, mod_int, fdiv_int, lt_int, le_int, gt_int, ge_int, eq_int, neg_int, len_tup, len_scr, abs_int, max_int, min_int, int_int, int_bl, r1_int, r2_int, tuple_tup, list_tup, over_tup, rev_tup, enum_tup, zip_tup, slc_tup, add_tup, isi_any, ix_tup, ix_scr, ix_num0, ix_num1, len_num, num_0, num_1, atI_0, atI_1, atI_2, List.map, List.cons_append, List.nil_append, List.getElem?_cons_zero, List.getElem?_cons_succ, List.getElem?_nil, List.set_cons_zero, List.set_cons_succ, List.replicate, List.length_cons, List.length_nil, List.foldr_cons, List.foldr_nil, Nat.reduceAdd, Nat.reduceSub, List.replicate_succ, List.replicate_zero, G_up_same, decide_eq_true_eq, Bool.not_eq_true', Bool.false_eq_true, if_true, if_false, ite_true, ite_false, and_true, true_and, reduceCtorEq, Bool.not_true, Bool.not_false, Bool.false_bne, Bool.true_bne, sl0, sl1, sl2, sl3, sl4, slc_ref ha, hcut]
    intro p hp
    rw [tuple_ref G_up_same]
    exact fin p hp fun q hq2 => by subst hm; cases hq2
def Szs (b : Nat) (qs : List Rat) : Prop := ∀ q ∈ qs, sz q ≤ b
theorem Szs.at {b : Nat} {qs : List Rat} {k : Nat} {q : Rat} (h : Szs b qs) (e : qs[k]? = some q) : sz q ≤ b := h q (List.mem_of_getElem? e)
theorem Szs.trim {b : Nat} {qs : List Rat} (h : Szs b qs) : Szs b (PP.trim qs) := fun q hq => h q (trim_mem hq)
theorem Szs.mono {b c : Nat} {qs : List Rat} (h : Szs b qs) (l : b ≤ c) : Szs c qs := fun q hq => Nat.le_trans (h q hq) l
theorem drop_one6 {qs : List Rat} {k : Nat} {q : Rat} (h : qs[k]? = some q) : qs.drop k = q :: qs.drop (k + 1) := by
  have hlt : k < qs.length := by
    rcases Nat.lt_or_ge k qs.length with z | z
    · exact z
    · rw [List.getElem?_eq_none z] at h; cases h
  rw [List.drop_eq_getElem_cons hlt]
  rw [List.getElem?_eq_getElem hlt] at h
  cases h; rfl
theorem take_one6 {qs : List Rat} {k : Nat} {q : Rat} (h : qs[k]? = some q) : qs.take (k + 1) = qs.take k ++ [q] := by
  have hlt : k < qs.length := by
    rcases Nat.lt_or_ge k qs.length with z | z
    · exact z
    · rw [List.getElem?_eq_none z] at h; cases h
  rw [List.take_succ_eq_append_getElem hlt]
  rw [List.getElem?_eq_getElem hlt] at h
  cases h; rfl
theorem ev_snoc (c : List Rat) (a x : Rat) : ev (c ++ [a]) x = ev c x + a * x ^ c.length := by
  induction c with
  | nil => rw [List.nil_append, ev_cons, ev_nil, List.length_nil, Rat.pow_zero]; grind
  | cons b c ih => rw [List.cons_append, ev_cons, ev_cons, ih, List.length_cons, Rat.pow_succ]; grind
def EvOk (qs : List Rat) (x : Rat) : Prop := ∃ M b bx, sz x ≤ bx ∧ Szs b qs ∧ (∀ k, k ≤ qs.length → sz (ev (qs.drop k) x) ≤ M) ∧ (∀ k, k ≤ qs.length → sz (ev (qs.take k) x) ≤ M) ∧ (∀ k, k ≤ qs.length → sz (x ^ k) ≤ k * bx + 1) ∧ M + b + (qs.length + 2) * (bx + 2) ≤ 100000000
theorem sz_powk (x : Rat) (bx : Nat) (hx : sz x ≤ bx) : ∀ k : Nat, sz (x ^ k) ≤ k * bx + 1
  | 0 => by rw [Rat.pow_zero, show sz (1 : Rat) = 1 by decide]; omega
  | k + 1 => by
    have h1 := sz_powk x bx hx k
    have h2 := sz_mul (x ^ k) x
    rw [Rat.pow_succ, Nat.succ_mul]
    omega
theorem evOk_szs {qs : List Rat} {x : Rat} (b bx : Nat) (hb : Szs b qs) (hx : sz x ≤ bx) (hs : (qs.length + 2) * (b + (qs.length + 2) * (bx + 2)) ≤ 40000000) : EvOk qs x := by
  have hbig : b + (qs.length + 2) * (bx + 2) ≤ (qs.length + 2) * (b + (qs.length + 2) * (bx + 2)) := Nat.le_mul_of_pos_left _ (by omega)
  have h0 : sz (0 : Rat) = 1 := sz_0
  have hM : ∀ k, k ≤ qs.length → k * (b + (qs.length + 2) * (bx + 2)) + 1 ≤ 40000000 := fun k hk => by
    have h1 : k * (b + (qs.length + 2) * (bx + 2)) ≤ qs.length * (b + (qs.length + 2) * (bx + 2)) := Nat.mul_le_mul_right _ hk
    have h2 : qs.length * (b + (qs.length + 2) * (bx + 2)) + 2 * (b + (qs.length + 2) * (bx + 2)) ≤ 40000000 := by rw [← Nat.add_mul]; exact hs
    have h3 : 2 * 2 ≤ (qs.length + 2) * (bx + 2) := Nat.mul_le_mul (by omega) (by omega)
    omega
  have hL : b + bx + 1 ≤ b + (qs.length + 2) * (bx + 2) := by
    have : bx + 2 ≤ (qs.length + 2) * (bx + 2) := Nat.le_mul_of_pos_left _ (by omega)
    omega
  refine ⟨40000000, b, bx, hx, hb, fun k hk => ?_, fun k hk => ?_, fun k _ => sz_powk x bx hx k, by omega⟩
  · have key : ∀ j, j ≤ qs.length → sz (ev (qs.drop (qs.length - j)) x) ≤ j * (b + (qs.length + 2) * (bx + 2)) + 1 := by
      intro j
      induction j with
      | zero => intro _; rw [Nat.sub_zero, List.drop_length, ev_nil, h0]; omega
      | succ j ih =>
        intro hj
        have := ih (by omega)
        have hlt : qs.length - (j + 1) < qs.length := by omega
        have hq := List.getElem?_eq_getElem hlt
        rw [drop_one6 hq, show qs.length - (j + 1) + 1 = qs.length - j by omega, ev_cons]
        have h1 := hb.at hq
        have h2 := sz_mul x (ev (qs.drop (qs.length - j)) x)
        have h3 := sz_add qs[qs.length - (j + 1)] (x * ev (qs.drop (qs.length - j)) x)
        rw [Nat.succ_mul]
        omega
    have := key (qs.length - k) (by omega)
    rw [show qs.length - (qs.length - k) = k by omega] at this
    have := hM (qs.length - k) (by omega)
    omega
  · have key : ∀ j, j ≤ qs.length → sz (ev (qs.take j) x) ≤ j * (b + (qs.length + 2) * (bx + 2)) + 1 := by
      intro j
      induction j with
      | zero => intro _; rw [List.take_zero, ev_nil, h0]; omega
      | succ j ih =>
        intro hj
        have := ih (by omega)
        have hlt : j < qs.length := by omega
        have hq := List.getElem?_eq_getElem hlt
        rw [take_one6 hq, ev_snoc, List.length_take, Nat.min_eq_left (by omega)]
        have h1 := hb.at hq
        have h2 := sz_mul qs[j] (x ^ j)
        have h3 := sz_add (ev (qs.take j) x) (qs[j] * x ^ j)
        have h4 := sz_powk x bx hx j
        have h5 : j * bx ≤ qs.length * bx := Nat.mul_le_mul_right _ (by omega)
        have h6 : qs.length * bx + 4 + 2 * bx ≤ (qs.length + 2) * (bx + 2) := by rw [Nat.add_mul, Nat.mul_add]; omega
        rw [Nat.succ_mul]
        omega
    have := key k hk
    have := hM k hk
    omega
def spEv : SpD := fun ds g Q _ => ∃ d x qs, ds = [d, num x] ∧ SeqD g d (nums qs) ∧ EvOk qs x ∧ Q (num (ev qs x)) g
theorem c_ev' {d : D} {x : Rat} {qs : List Rat} (b bx : Nat) (hd : SeqD g d (nums qs)) (hb : Szs b qs) (hx : sz x ≤ bx) (hs : (qs.length + 2) * (b + (qs.length + 2) * (bx + 2)) ≤ 40000000) (k : Q (num (ev qs x)) g) : spEv [d, num x] g Q X := ⟨d, x, qs, rfl, hd, evOk_szs b bx hb hx hs, k⟩
theorem pure_law_at (h25 : Γ 25 = spPlus) (h26 : Γ 26 = spTimes) (h : spEv ds g Q E) : mnS Γ gl sx_law_at (endsOf Q E) (startD ns_law_at ds) g := by
  obtain ⟨d, x, qs, rfl, hd, ⟨M, b, bx, hx, hb, _, hM, hP, hs⟩, h⟩ := h
  simp only [sx_law_at, h25, h26, mnS, dLamr, mn, Mn.of, Op.rd, Cm.rd, Bl.rd, Mt.rd, Mt.rc, dNop, dSeq, dExpr, dRet, dRetN, dIf, gD, dAsg, dPar, dPut, dRaise, dVar, dC, dBin, dUn, dNil, dCons, dTup, dLst, dTst, dAndT, dOrT, dNotT, dYes, dAnd, dOr, dNot, dChain, dCall, dCB, dMt, dLset, dSrev, dTry, dIsx, dEmp, dDic1, dStp, dFld, dMeth, dMake, dFset, dGin, dGix, dRep, dTryu, dTryn, conD, xsub, Ex.sub, dSlc, dPart, dNoPart, dIAny, dI1, dI2, dI3, dFor, dComp, compB, wipeD, startD, endsOf, at_mk, setAll, add_int, sub_int, mul_int, mul_tup, pow_int, mod_int, fdiv_int, lt_int, le_int, gt_int, ge_int, eq_int, neg_int, len_tup, len_scr, abs_int, max_int, min_int, int_int, int_bl, r1_int, r2_int, tuple_tup, list_tup, over_tup, rev_tup, enum_tup, zip_tup, slc_tup, add_tup, isi_any, ix_tup, ix_scr, ix_num0, ix_num1, len_num, num_0, num_1, atI_0, atI_1, atI_2, List.map, List.cons_append, List.nil_append, List.getElem?_cons_zero, List.getElem?_cons_succ, List.getElem?_nil, List.set_cons_zero, List.set_cons_succ, List.replicate, List.length_cons, List.length_nil, List.foldr_cons, List.foldr_nil, Nat.reduceAdd, Nat.reduceSub, List.replicate_succ, List.replicate_zero, G_up_same, decide_eq_true_eq, Bool.not_eq_true', Bool.false_eq_true, if_true, if_false, ite_true, ite_false, and_true, true_and, reduceCtorEq, Bool.not_true, Bool.not_false, Bool.false_bne, Bool.true_bne, sl0, sl1, sl2, sl3, sl4]
  refine over_seq hd fun stay hst => ?_
  have h6 : qs.length * bx + 4 + 2 * bx ≤ (qs.length + 2) * (bx + 2) := by rw [Nat.add_mul, Nat.mul_add]; omega
  refine for_inv (fun k env g' => g' = g ∧ ∃ y w o, env = [some d, some (num x), some (num y), some (num w), o] ∧ y = ev (qs.take k) x ∧ w = x ^ k ∧ k ≤ qs.length) (fun k env g' e => hst _ (by rw [e.1]; exact G.le_refl _)) ?_ ?_ ⟨rfl, 0, 1, none, rfl, by rw [List.take_zero, ev_nil], by rw [Rat.pow_zero], by omega⟩
  · rintro k y env g' N hk ⟨rfl, v, w, o, rfl, hv, hw, hk2⟩ hN
    obtain ⟨q, hq, rfl⟩ := nums_at hk
    have hk3 : k < qs.length := by
      rcases Nat.lt_or_ge k qs.length with z | z
      · exact z
      · rw [List.getElem?_eq_none z] at hq; cases hq
    have hq1 := hb.at hq
    have hsv := hM k hk2
    have hsw := hP k hk2
    rw [← hv] at hsv
    rw [← hw] at hsw
    have hm : k * bx ≤ qs.length * bx := Nat.mul_le_mul_right _ hk2
    have hmul := sz_mul q w
    simp only [mnS, dLamr, mn, Mn.of, Op.rd, Cm.rd, Bl.rd, Mt.rd, Mt.rc, dNop, dSeq, dExpr, dRet, dRetN, dIf, gD, dAsg, dPar, dPut, dRaise, dVar, dC, dBin, dUn, dNil, dCons, dTup, dLst, dTst, dAndT, dOrT, dNotT, dYes, dAnd, dOr, dNot, dChain, dCall, dCB, dMt, dLset, dSrev, dTry, dIsx, dEmp, dDic1, dStp, dFld, dMeth, dMake, dFset, dGin, dGix, dRep, dTryu, dTryn, conD, xsub, Ex.sub, dSlc, dPart, dNoPart, dIAny, dI1, dI2, dI3, dFor, dComp, compB, wipeD, startD, endsOf, at_mk, setAll, add_int, sub_int, mul_int, mul_tup, pow_int, mod_int, fdiv_int, lt_int, le_int, gt_int, ge_int, eq_int, neg_int, len_tup, len_scr, abs_int, max_int, min_int, int_int, int_bl, r1_int, r2_int, tuple_tup, list_tup, over_tup, rev_tup, enum_tup, zip_tup, slc_tup, add_tup, isi_any, ix_tup, ix_scr, ix_num0, ix_num1, len_num, num_0, num_1, atI_0, atI_1, atI_2, List.map, List.cons_append, List.nil_append, List.getElem?_cons_zero, List.getElem?_cons_succ, List.getElem?_nil, List.set_cons_zero, List.set_cons_succ, List.replicate, List.length_cons, List.length_nil, List.foldr_cons, List.foldr_nil, Nat.reduceAdd, Nat.reduceSub, List.replicate_succ, List.replicate_zero, G_up_same, decide_eq_true_eq, Bool.not_eq_true', Bool.false_eq_true, if_true, if_false, ite_true, ite_false, and_true, true_and, reduceCtorEq, Bool.not_true, Bool.not_false, Bool.false_bne, Bool.true_bne, sl0, sl1, sl2, sl3, sl4, c_bin]
    refine ⟨by omega, by omega, by omega, hN _ _ ⟨rfl, _, _, _, rfl, ?_, ?_, by omega⟩⟩
    · rw [take_one6 hq, ev_snoc, hv, hw, List.length_take, Nat.min_eq_left (by omega)]
    · rw [hw, Rat.pow_succ]
  · rintro env g' ⟨rfl, v, w, o, rfl, hv, -⟩
    try simp only [mnS, dLamr, mn, Mn.of, Op.rd, Cm.rd, Bl.rd, Mt.rd, Mt.rc, dNop, dSeq, dExpr, dRet, dRetN, dIf, gD, dAsg, dPar, dPut, dRaise, dVar, dC, dBin, dUn, dNil, dCons, dTup, dLst, dTst, dAndT, dOrT, dNotT, dYes, dAnd, dOr, dNot, dChain, dCall, dCB, dMt, dLset, dSrev, dTry, dIsx, dEmp, dDic1, dStp, dFld, dMeth, dMake, dFset, dGin, dGix, dRep, dTryu, dTryn, conD, xsub, Ex.sub, dSlc, dPart, dNoPart, dIAny, dI1, dI2, dI3, dFor, dComp, compB, wipeD, startD, endsOf, at_mk, setAll, add_int, sub_int, mul_int, mul_tup, pow_int, mod_int, fdiv_int, lt_int, le_int, gt_int, ge_int, eq_int, neg_int, len_tup, len_scr, abs_int, max_int, min_int, int_int, int_bl, r1_int, r2_int, tuple_tup, list_tup, over_tup, rev_tup, enum_tup, zip_tup, slc_tup, add_tup, isi_any, ix_tup, ix_scr, ix_num0, ix_num1, len_num, num_0, num_1, atI_0, atI_1, atI_2, List.map, List.cons_append, List.nil_append, List.getElem?_cons_zero, List.getElem?_cons_succ, List.getElem?_nil, List.set_cons_zero, List.set_cons_succ, List.replicate, List.length_cons, List.length_nil, List.foldr_cons, List.foldr_nil, Nat.reduceAdd, Nat.reduceSub, List.replicate_succ, List.replicate_zero, G_up_same, decide_eq_true_eq, Bool.not_eq_true', Bool.false_eq_true, if_true, if_false, ite_true, ite_false, and_true, true_and, reduceCtorEq, Bool.not_true, Bool.not_false, Bool.false_bne, Bool.true_bne, sl0, sl1, sl2, sl3, sl4]
    refine ⟨_, G.le_refl _, ?_⟩
    rw [hv]
    simp only [nums_len, List.take_length]
    exact h
def spIsCurve : SpD := fun ds g Q _ => ∃ qs, ds = [.tup (nums qs)] ∧ Tight qs ∧ qs.length ≤ sizeLine ∧ Q (.bl true) g
theorem c_isCurve {qs : List Rat} (ht : Tight qs) (hl : qs.length ≤ sizeLine) (k : Q (.bl true) g) : spIsCurve [.tup (nums qs)] g Q X := ⟨qs, rfl, ht, hl, k⟩
theorem boolsD_true (k : Nat) : boolsD (List.replicate k (.bl true)) = some (List.replicate k true) := by
  induction k with
  | zero => rfl
  | succ k ih => rw [List.replicate_succ, boolsD, ih]; rfl
theorem all_ref {a : Addr} {k : Nat} (h : g a = some (List.replicate k (.bl true))) : dAll [.ref a] g Q = Q (.bl true) g := by
  unfold dAll
  simp only [h, boolsD_true]
  rw [show (List.replicate k true).all id = true by simp] <;> rfl
theorem isi_tup {xs : List D} : isTy .tuple (.tup xs) = true := rfl
theorem pure_law_is_curve (h7 : Γ 7 = spIsNum) (h : spIsCurve ds g Q E) : mnS Γ gl sx_law_is_curve (endsOf Q E) (startD ns_law_is_curve ds) g := by
  obtain ⟨qs, rfl, ht, hl, h⟩ := h
  simp only [sx_law_is_curve, h7, mnS, dLamr, mn, Mn.of, Op.rd, Cm.rd, Bl.rd, Mt.rd, Mt.rc, dNop, dSeq, dExpr, dRet, dRetN, dIf, gD, dAsg, dPar, dPut, dRaise, dVar, dC, dBin, dUn, dNil, dCons, dTup, dLst, dTst, dAndT, dOrT, dNotT, dYes, dAnd, dOr, dNot, dChain, dCall, dCB, dMt, dLset, dSrev, dTry, dIsx, dEmp, dDic1, dStp, dFld, dMeth, dMake, dFset, dGin, dGix, dRep, dTryu, dTryn, conD, xsub, Ex.sub, dSlc, dPart, dNoPart, dIAny, dI1, dI2, dI3, dFor, dComp, compB, wipeD, startD, endsOf, at_mk, setAll, add_int, sub_int, mul_int, mul_tup, pow_int, mod_int, fdiv_int, lt_int, le_int, gt_int, ge_int, eq_int, neg_int, len_tup, len_scr, abs_int, max_int, min_int, int_int, int_bl, r1_int, r2_int, tuple_tup, list_tup, over_tup, rev_tup, enum_tup, zip_tup, slc_tup, add_tup, isi_any, ix_tup, ix_scr, ix_num0, ix_num1, len_num, num_0, num_1, atI_0, atI_1, atI_2, List.map, List.cons_append, List.nil_append, List.getElem?_cons_zero, List.getElem?_cons_succ, List.getElem?_nil, List.set_cons_zero, List.set_cons_succ, List.replicate, List.length_cons, List.length_nil, List.foldr_cons, List.foldr_nil, Nat.reduceAdd, Nat.reduceSub, List.replicate_succ, List.replicate_zero, G_up_same, decide_eq_true_eq, Bool.not_eq_true', Bool.false_eq_true, if_true, if_false, ite_true, ite_false, and_true, true_and, reduceCtorEq, Bool.not_true, Bool.not_false, Bool.false_bne, Bool.true_bne, sl0, sl1, sl2, sl3, sl4, known_tup, List.any_cons, List.any_nil, isi_tup, Bool.true_or, Bool.not_true, nums_len]
  refine ⟨hl, fun p hp => ?_⟩
  refine comp_inv (fun k acc g' => acc = List.replicate k (.bl true) ∧ g' = g.up p acc) (fun k acc g' _ => trivial) ?_ ?_ ⟨rfl, rfl⟩
  · rintro k x acc g' N hk ⟨rfl, rfl⟩ h1 h2
    obtain ⟨q, hq, rfl⟩ := nums_at hk
    simp only [mnS, dLamr, mn, Mn.of, Op.rd, Cm.rd, Bl.rd, Mt.rd, Mt.rc, dNop, dSeq, dExpr, dRet, dRetN, dIf, gD, dAsg, dPar, dPut, dRaise, dVar, dC, dBin, dUn, dNil, dCons, dTup, dLst, dTst, dAndT, dOrT, dNotT, dYes, dAnd, dOr, dNot, dChain, dCall, dCB, dMt, dLset, dSrev, dTry, dIsx, dEmp, dDic1, dStp, dFld, dMeth, dMake, dFset, dGin, dGix, dRep, dTryu, dTryn, conD, xsub, Ex.sub, dSlc, dPart, dNoPart, dIAny, dI1, dI2, dI3, dFor, dComp, compB, wipeD, startD, endsOf, at_mk, setAll, add_int, sub_int, mul_int, mul_tup, pow_int, mod_int, fdiv_int, lt_int, le_int, gt_int, ge_int, eq_int, neg_int, len_tup, len_scr, abs_int, max_int, min_int, int_int, int_bl, r1_int, r2_int, tuple_tup, list_tup, over_tup, rev_tup, enum_tup, zip_tup, slc_tup, add_tup, isi_any, ix_tup, ix_scr, ix_num0, ix_num1, len_num, num_0, num_1, atI_0, atI_1, atI_2, List.map, List.cons_append, List.nil_append, List.getElem?_cons_zero, List.getElem?_cons_succ, List.getElem?_nil, List.set_cons_zero, List.set_cons_succ, List.replicate, List.length_cons, List.length_nil, List.foldr_cons, List.foldr_nil, Nat.reduceAdd, Nat.reduceSub, List.replicate_succ, List.replicate_zero, G_up_same, decide_eq_true_eq, Bool.not_eq_true', Bool.false_eq_true, if_true, if_false, ite_true, ite_false, and_true, true_and, reduceCtorEq, Bool.not_true, Bool.not_false, Bool.false_bne, Bool.true_bne, sl0, sl1, sl2, sl3, sl4, c_isnum]
    exact h1 _ _ G_up_same ⟨by rw [List.replicate_succ', ], G_up_up⟩
  · rintro acc g' ⟨rfl, rfl⟩
    rw [all_ref G_up_same]
    try simp only [mnS, dLamr, mn, Mn.of, Op.rd, Cm.rd, Bl.rd, Mt.rd, Mt.rc, dNop, dSeq, dExpr, dRet, dRetN, dIf, gD, dAsg, dPar, dPut, dRaise, dVar, dC, dBin, dUn, dNil, dCons, dTup, dLst, dTst, dAndT, dOrT, dNotT, dYes, dAnd, dOr, dNot, dChain, dCall, dCB, dMt, dLset, dSrev, dTry, dIsx, dEmp, dDic1, dStp, dFld, dMeth, dMake, dFset, dGin, dGix, dRep, dTryu, dTryn, conD, xsub, Ex.sub, dSlc, dPart, dNoPart, dIAny, dI1, dI2, dI3, dFor, dComp, compB, wipeD, startD, endsOf, at_mk, setAll, add_int, sub_int, mul_int, mul_tup, pow_int, mod_int, fdiv_int, lt_int, le_int, gt_int, ge_int, eq_int, neg_int, len_tup, len_scr, abs_int, max_int, min_int, int_int, int_bl, r1_int, r2_int, tuple_tup, list_tup, over_tup, rev_tup, enum_tup, zip_tup, slc_tup, add_tup, isi_any, ix_tup, ix_scr, ix_num0, ix_num1, len_num, num_0, num_1, atI_0, atI_1, atI_2, List.map, List.cons_append, List.nil_append, List.getElem?_cons_zero, List.getElem?_cons_succ, List.getElem?_nil, List.set_cons_zero, List.set_cons_succ, List.replicate, List.length_cons, List.length_nil, List.foldr_cons, List.foldr_nil, Nat.reduceAdd, Nat.reduceSub, List.replicate_succ, List.replicate_zero, G_up_same, decide_eq_true_eq, Bool.not_eq_true', Bool.false_eq_true, if_true, if_false, ite_true, ite_false, and_true, true_and, reduceCtorEq, Bool.not_true, Bool.not_false, Bool.false_bne, Bool.true_bne, sl0, sl1, sl2, sl3, sl4]
    refine eq_tup (q := []) (fun e => ?_) fun e => ?_
    · exact ⟨_, G.le_new hp, h⟩
    · try simp only [mnS, dLamr, mn, Mn.of, Op.rd, Cm.rd, Bl.rd, Mt.rd, Mt.rc, dNop, dSeq, dExpr, dRet, dRetN, dIf, gD, dAsg, dPar, dPut, dRaise, dVar, dC, dBin, dUn, dNil, dCons, dTup, dLst, dTst, dAndT, dOrT, dNotT, dYes, dAnd, dOr, dNot, dChain, dCall, dCB, dMt, dLset, dSrev, dTry, dIsx, dEmp, dDic1, dStp, dFld, dMeth, dMake, dFset, dGin, dGix, dRep, dTryu, dTryn, conD, xsub, Ex.sub, dSlc, dPart, dNoPart, dIAny, dI1, dI2, dI3, dFor, dComp, compB, wipeD, startD, endsOf, at_mk, setAll, add_int, sub_int, mul_int, mul_tup, pow_int, mod_int, fdiv_int, lt_int, le_int, gt_int, ge_int, eq_int, neg_int, len_tup, len_scr, abs_int, max_int, min_int, int_int, int_bl, r1_int, r2_int, tuple_tup, list_tup, over_tup, rev_tup, enum_tup, zip_tup, slc_tup, add_tup, isi_any, ix_tup, ix_scr, ix_num0, ix_num1, len_num, num_0, num_1, atI_0, atI_1, atI_2, List.map, List.cons_append, List.nil_append, List.getElem?_cons_zero, List.getElem?_cons_succ, List.getElem?_nil, List.set_cons_zero, List.set_cons_succ, List.replicate, List.length_cons, List.length_nil, List.foldr_cons, List.foldr_nil, Nat.reduceAdd, Nat.reduceSub, List.replicate_succ, List.replicate_zero, G_up_same, decide_eq_true_eq, Bool.not_eq_true', Bool.false_eq_true, if_true, if_false, ite_true, ite_false, and_true, true_and, reduceCtorEq, Bool.not_true, Bool.not_false, Bool.false_bne, Bool.true_bne, sl0, sl1, sl2, sl3, sl4]
      rcases List.eq_nil_or_concat qs with rfl | ⟨r, q, rfl⟩
      · exact absurd rfl e
      · simp only [List.concat_eq_append]
        rw [show nums (r ++ [q]) = nums r ++ [num q] by simp [nums], atI_last]
        refine eq_num (fun e2 => ?_) fun e2 => ?_
        · exact absurd e2 (ht q (by simp))
        · exact ⟨_, G.le_new hp, h⟩
end
end PP
namespace PP
open PySem PySem.Spec PyProof.Rows L2
section
variable {Γ : Nat → SpD} {gl : Nat → D} {g : G} {Q : QD}
def trimT (i : Nat) : PX := .and (.cmp .ne (.v i) (.lst .nil)) (.cmp .eq (.ix (.v i) (.neg (.int 1))) (.tup (.cons (.int 0) (.cons (.int 1) .nil))))
def trimB (i : Nat) : SX := .expr (.mt .pop (.v i) .nil) .nil
def trimD (Γ : Nat → SpD) (gl : Nat → D) (i : Nat) (t : DTS) : DTS := dSeq (dWhile (mn Γ gl (trimT i)).t (mnS Γ gl (trimB i))) t
theorem mnS_trim {i : Nat} {r : SX} : mnS Γ gl (.whl (.and (.cmp .ne (.v i) (.lst .nil)) (.cmp .eq (.ix (.v i) (.neg (.int 1))) (.tup (.cons (.int 0) (.cons (.int 1) .nil))))) (.expr (.mt .pop (.v i) .nil) .nil) r) = trimD Γ gl i (mnS Γ gl r) := rfl
theorem trim_ok {i : Nat} {t : DTS} {E : DEnds} {env : Env} {a : Addr} {qs : List Rat} (he : env[i]? = some (some (.ref a))) (ha : g a = some (nums qs)) (k : ∀ g', (g.up a (nums (trim qs))).le g' → t E env g') : trimD Γ gl i t E env g := by
  unfold trimD trimT trimB
  try simp only [mnS, dLamr, mn, Mn.of, Op.rd, Cm.rd, Bl.rd, Mt.rd, Mt.rc, dNop, dSeq, dExpr, dRet, dRetN, dIf, gD, dAsg, dPar, dPut, dRaise, dVar, dC, dBin, dUn, dNil, dCons, dTup, dLst, dTst, dAndT, dOrT, dNotT, dYes, dAnd, dOr, dNot, dChain, dCall, dCB, dMt, dLset, dSrev, dTry, dIsx, dEmp, dDic1, dStp, dFld, dMeth, dMake, dFset, dGin, dGix, dRep, dTryu, dTryn, conD, xsub, Ex.sub, dSlc, dPart, dNoPart, dIAny, dI1, dI2, dI3, dFor, dComp, compB, wipeD, startD, endsOf, at_mk, setAll, add_int, sub_int, mul_int, mul_tup, pow_int, mod_int, fdiv_int, lt_int, le_int, gt_int, ge_int, eq_int, neg_int, len_tup, len_scr, abs_int, max_int, min_int, int_int, int_bl, r1_int, r2_int, tuple_tup, list_tup, over_tup, rev_tup, enum_tup, zip_tup, slc_tup, add_tup, isi_any, ix_tup, ix_scr, ix_num0, ix_num1, len_num, num_0, num_1, atI_0, atI_1, atI_2, List.map, List.cons_append, List.nil_append, List.getElem?_cons_zero, List.getElem?_cons_succ, List.getElem?_nil, List.set_cons_zero, List.set_cons_succ, List.replicate, List.length_cons, List.length_nil, List.foldr_cons, List.foldr_nil, Nat.reduceAdd, Nat.reduceSub, List.replicate_succ, List.replicate_zero, G_up_same, decide_eq_true_eq, Bool.not_eq_true', Bool.false_eq_true, if_true, if_false, ite_true, ite_false, and_true, true_and, reduceCtorEq, Bool.not_true, Bool.not_false, Bool.false_bne, Bool.true_bne, sl0, sl1, sl2, sl3, sl4]
  refine ⟨fun m env' g' => env' = env ∧ ∃ z, qs = z ++ List.replicate (qs.length - m) 0 ∧ m = z.length ∧ (g.up a (nums z)).le g', ⟨qs.length, rfl, qs, by simp, rfl, by rw [show g.up a (nums qs) = g from funext fun b => by unfold G.up; split <;> simp_all]; exact G.le_refl _⟩, ?_⟩
  rintro m env' g' ⟨rfl, z, hz, rfl, hl⟩
  simp only [mnS, dLamr, mn, Mn.of, Op.rd, Cm.rd, Bl.rd, Mt.rd, Mt.rc, dNop, dSeq, dExpr, dRet, dRetN, dIf, gD, dAsg, dPar, dPut, dRaise, dVar, dC, dBin, dUn, dNil, dCons, dTup, dLst, dTst, dAndT, dOrT, dNotT, dYes, dAnd, dOr, dNot, dChain, dCall, dCB, dMt, dLset, dSrev, dTry, dIsx, dEmp, dDic1, dStp, dFld, dMeth, dMake, dFset, dGin, dGix, dRep, dTryu, dTryn, conD, xsub, Ex.sub, dSlc, dPart, dNoPart, dIAny, dI1, dI2, dI3, dFor, dComp, compB, wipeD, startD, endsOf, at_mk, setAll, add_int, sub_int, mul_int, mul_tup, pow_int, mod_int, fdiv_int, lt_int, le_int, gt_int, ge_int, eq_int, neg_int, len_tup, len_scr, abs_int, max_int, min_int, int_int, int_bl, r1_int, r2_int, tuple_tup, list_tup, over_tup, rev_tup, enum_tup, zip_tup, slc_tup, add_tup, isi_any, ix_tup, ix_scr, ix_num0, ix_num1, len_num, num_0, num_1, atI_0, atI_1, atI_2, List.map, List.cons_append, List.nil_append, List.getElem?_cons_zero, List.getElem?_cons_succ, List.getElem?_nil, List.set_cons_zero, List.set_cons_succ, List.replicate, List.length_cons, List.length_nil, List.foldr_cons, List.foldr_nil, Nat.reduceAdd, Nat.reduceSub, List.replicate_succ, List.replicate_zero, G_up_same, decide_eq_true_eq, Bool.not_eq_true', Bool.false_eq_true, if_true, if_false, ite_true, ite_false, and_true, true_and, reduceCtorEq, Bool.not_true, Bool.not_false, Bool.false_bne, Bool.true_bne, sl0, sl1, sl2, sl3, sl4, he]
  intro p hp
  have hga : g' a = some (nums z) := hl _ _ G_up_same
  have hl2 := G.le_trans hl (G.le_new (xs := []) hp)
  have hgp : (g'.up p []) a = some (nums z) := G_up_fresh hp hga
  refine eq_list (q := []) hgp G_up_same (fun e => ?_) fun e => ?_
  · subst e
    exact k _ (by rw [trim_of (r := []) hz (fun q h => by cases h)]; exact hl2)
  · try simp only [mnS, dLamr, mn, Mn.of, Op.rd, Cm.rd, Bl.rd, Mt.rd, Mt.rc, dNop, dSeq, dExpr, dRet, dRetN, dIf, gD, dAsg, dPar, dPut, dRaise, dVar, dC, dBin, dUn, dNil, dCons, dTup, dLst, dTst, dAndT, dOrT, dNotT, dYes, dAnd, dOr, dNot, dChain, dCall, dCB, dMt, dLset, dSrev, dTry, dIsx, dEmp, dDic1, dStp, dFld, dMeth, dMake, dFset, dGin, dGix, dRep, dTryu, dTryn, conD, xsub, Ex.sub, dSlc, dPart, dNoPart, dIAny, dI1, dI2, dI3, dFor, dComp, compB, wipeD, startD, endsOf, at_mk, setAll, add_int, sub_int, mul_int, mul_tup, pow_int, mod_int, fdiv_int, lt_int, le_int, gt_int, ge_int, eq_int, neg_int, len_tup, len_scr, abs_int, max_int, min_int, int_int, int_bl, r1_int, r2_int, tuple_tup, list_tup, over_tup, rev_tup, enum_tup, zip_tup, slc_tup, add_tup, isi_any, ix_tup, ix_scr, ix_num0, ix_num1, len_num, num_0, num_1, atI_0, atI_1, atI_2, List.map, List.cons_append, List.nil_append, List.getElem?_cons_zero, List.getElem?_cons_succ, List.getElem?_nil, List.set_cons_zero, List.set_cons_succ, List.replicate, List.length_cons, List.length_nil, List.foldr_cons, List.foldr_nil, Nat.reduceAdd, Nat.reduceSub, List.replicate_succ, List.replicate_zero, G_up_same, decide_eq_true_eq, Bool.not_eq_true', Bool.false_eq_true, if_true, if_false, ite_true, ite_false, and_true, true_and, reduceCtorEq, Bool.not_true, Bool.not_false, Bool.false_bne, Bool.true_bne, sl0, sl1, sl2, sl3, sl4]
    rcases List.eq_nil_or_concat z with rfl | ⟨r, q, rfl⟩
    · exact absurd rfl e
    · simp only [List.concat_eq_append] at *
      have en : nums (r ++ [q]) = nums r ++ [num q] := by simp [nums]
      rw [ix_ref hgp, en, show (-1 : Int) = -1 from rfl]
      simp only [atI_last]
      refine eq_num (fun e2 => ?_) fun e2 => ?_
      · subst e2
        simp only [mnS, dLamr, mn, Mn.of, Op.rd, Cm.rd, Bl.rd, Mt.rd, Mt.rc, dNop, dSeq, dExpr, dRet, dRetN, dIf, gD, dAsg, dPar, dPut, dRaise, dVar, dC, dBin, dUn, dNil, dCons, dTup, dLst, dTst, dAndT, dOrT, dNotT, dYes, dAnd, dOr, dNot, dChain, dCall, dCB, dMt, dLset, dSrev, dTry, dIsx, dEmp, dDic1, dStp, dFld, dMeth, dMake, dFset, dGin, dGix, dRep, dTryu, dTryn, conD, xsub, Ex.sub, dSlc, dPart, dNoPart, dIAny, dI1, dI2, dI3, dFor, dComp, compB, wipeD, startD, endsOf, at_mk, setAll, add_int, sub_int, mul_int, mul_tup, pow_int, mod_int, fdiv_int, lt_int, le_int, gt_int, ge_int, eq_int, neg_int, len_tup, len_scr, abs_int, max_int, min_int, int_int, int_bl, r1_int, r2_int, tuple_tup, list_tup, over_tup, rev_tup, enum_tup, zip_tup, slc_tup, add_tup, isi_any, ix_tup, ix_scr, ix_num0, ix_num1, len_num, num_0, num_1, atI_0, atI_1, atI_2, List.map, List.cons_append, List.nil_append, List.getElem?_cons_zero, List.getElem?_cons_succ, List.getElem?_nil, List.set_cons_zero, List.set_cons_succ, List.replicate, List.length_cons, List.length_nil, List.foldr_cons, List.foldr_nil, Nat.reduceAdd, Nat.reduceSub, List.replicate_succ, List.replicate_zero, G_up_same, decide_eq_true_eq, Bool.not_eq_true', Bool.false_eq_true, if_true, if_false, ite_true, ite_false, and_true, true_and, reduceCtorEq, Bool.not_true, Bool.not_false, Bool.false_bne, Bool.true_bne, sl0, sl1, sl2, sl3, sl4, he, rc_ref, hgp, Option.isSome_some, pop_ref hgp, en]
        rw [show (nums r ++ [num 0])[(nums r ++ [num 0]).length - 1]? = some (num 0) by simp]
        simp only [List.dropLast_concat]
        have hlen := congrArg List.length hz
        simp at hlen
        refine ⟨r.length, by simp, r, ?_, rfl, ?_⟩
        · conv => lhs; rw [hz]
          rw [List.append_assoc]
          congr 1
          simp
          rw [show qs.length - r.length = qs.length - (r.length + 1) + 1 by omega, List.replicate_succ]
        · intro b ys hb
          by_cases hba : b = a
          · subst hba; rw [G_up_same] at hb ⊢; exact hb
          · rw [G_up_ne hba] at hb ⊢
            exact hl2 _ _ (by rw [G_up_ne hba]; exact hb)
      · try simp only [mnS, dLamr, mn, Mn.of, Op.rd, Cm.rd, Bl.rd, Mt.rd, Mt.rc, dNop, dSeq, dExpr, dRet, dRetN, dIf, gD, dAsg, dPar, dPut, dRaise, dVar, dC, dBin, dUn, dNil, dCons, dTup, dLst, dTst, dAndT, dOrT, dNotT, dYes, dAnd, dOr, dNot, dChain, dCall, dCB, dMt, dLset, dSrev, dTry, dIsx, dEmp, dDic1, dStp, dFld, dMeth, dMake, dFset, dGin, dGix, dRep, dTryu, dTryn, conD, xsub, Ex.sub, dSlc, dPart, dNoPart, dIAny, dI1, dI2, dI3, dFor, dComp, compB, wipeD, startD, endsOf, at_mk, setAll, add_int, sub_int, mul_int, mul_tup, pow_int, mod_int, fdiv_int, lt_int, le_int, gt_int, ge_int, eq_int, neg_int, len_tup, len_scr, abs_int, max_int, min_int, int_int, int_bl, r1_int, r2_int, tuple_tup, list_tup, over_tup, rev_tup, enum_tup, zip_tup, slc_tup, add_tup, isi_any, ix_tup, ix_scr, ix_num0, ix_num1, len_num, num_0, num_1, atI_0, atI_1, atI_2, List.map, List.cons_append, List.nil_append, List.getElem?_cons_zero, List.getElem?_cons_succ, List.getElem?_nil, List.set_cons_zero, List.set_cons_succ, List.replicate, List.length_cons, List.length_nil, List.foldr_cons, List.foldr_nil, Nat.reduceAdd, Nat.reduceSub, List.replicate_succ, List.replicate_zero, G_up_same, decide_eq_true_eq, Bool.not_eq_true', Bool.false_eq_true, if_true, if_false, ite_true, ite_false, and_true, true_and, reduceCtorEq, Bool.not_true, Bool.not_false, Bool.false_bne, Bool.true_bne, sl0, sl1, sl2, sl3, sl4]
        exact k _ (by rw [trim_of hz (fun q' h => by simp at h; rw [← h]; exact e2)]; exact hl2)
theorem comp_pen {R : D → Prop} {c : Nat} {a p : Addr} {m n : Nat} {lo : Int} {xs : List D} {fin : G → Prop} {i j : Nat} {env : Env} (he : env[j]? = some (some (.ref a))) (hij : i ≠ j) (hp : g p = none) (ha : g a = some xs) (hx : PenL xs n) (hb : n + m * c < 2 ^ 50)
    (k : ∀ ys xs', ys.length = m → (∀ y ∈ ys, R y) → PenL xs' (n + m * c) → fin ((g.up a xs').up p ys)) :
    compD (fun _ => True) p (compB (.n i) env dYes (dCall (spPenFn R c) (dCons (dVar j) dNil))) fin (rangeD lo m) [] (g.up p []) := by
  have hne : a ≠ p := ne_of_known ha hp
  refine comp_inv (fun k acc g' => acc.length = k ∧ (∀ y ∈ acc, R y) ∧ k ≤ m ∧ ∃ xs', PenL xs' (n + k * c) ∧ g' = (g.up a xs').up p acc) (fun _ _ _ _ => trivial) ?_ ?_ ⟨rfl, fun _ h => (by cases h), Nat.zero_le _, xs, by simpa using hx, ?_⟩
  · rintro k x acc g' N hk ⟨hl, hR, hkm, xs', hx', rfl⟩ h1 -
    have hkm := (range_at hk).1
    have hmul : (k + 1) * c ≤ m * c := Nat.mul_le_mul_right _ hkm
    have hmul2 : (k + 1) * c = k * c + c := Nat.succ_mul ..
    simp only [mnS, dLamr, mn, Mn.of, Op.rd, Cm.rd, Bl.rd, Mt.rd, Mt.rc, dNop, dSeq, dExpr, dRet, dRetN, dIf, gD, dAsg, dPar, dPut, dRaise, dVar, dC, dBin, dUn, dNil, dCons, dTup, dLst, dTst, dAndT, dOrT, dNotT, dYes, dAnd, dOr, dNot, dChain, dCall, dCB, dMt, dLset, dSrev, dTry, dIsx, dEmp, dDic1, dStp, dFld, dMeth, dMake, dFset, dGin, dGix, dRep, dTryu, dTryn, conD, xsub, Ex.sub, dSlc, dPart, dNoPart, dIAny, dI1, dI2, dI3, dFor, dComp, compB, wipeD, startD, endsOf, at_mk, setAll, add_int, sub_int, mul_int, mul_tup, pow_int, mod_int, fdiv_int, lt_int, le_int, gt_int, ge_int, eq_int, neg_int, len_tup, len_scr, abs_int, max_int, min_int, int_int, int_bl, r1_int, r2_int, tuple_tup, list_tup, over_tup, rev_tup, enum_tup, zip_tup, slc_tup, add_tup, isi_any, ix_tup, ix_scr, ix_num0, ix_num1, len_num, num_0, num_1, atI_0, atI_1, atI_2, List.map, List.cons_append, List.nil_append, List.getElem?_cons_zero, List.getElem?_cons_succ, List.getElem?_nil, List.set_cons_zero, List.set_cons_succ, List.replicate, List.length_cons, List.length_nil, List.foldr_cons, List.foldr_nil, Nat.reduceAdd, Nat.reduceSub, List.replicate_succ, List.replicate_zero, G_up_same, decide_eq_true_eq, Bool.not_eq_true', Bool.false_eq_true, if_true, if_false, ite_true, ite_false, and_true, true_and, reduceCtorEq, Bool.not_true, Bool.not_false, Bool.false_bne, Bool.true_bne, sl0, sl1, sl2, sl3, sl4, List.getElem?_set_ne hij, he]
    refine c_penFn (xs := xs') (n := n + k * c) (by rw [G_up_ne hne, G_up_same]) hx' (by omega) fun d xs'' hd hx'' => ?_
    have e : (((g.up a xs').up p acc).up a xs'').up p (acc ++ [d]) = (g.up a xs'').up p (acc ++ [d]) := by
      funext b; simp only [G.up]; grind
    refine h1 _ _ (by rw [G_up_ne (Ne.symm hne), G_up_same]) ⟨by simp [hl], fun y hy => ?_, hkm, xs'', by rw [hmul2]; simpa [Nat.add_assoc] using hx'', e⟩
    rcases List.mem_append.mp hy with hy | hy
    · exact hR y hy
    · rw [List.mem_singleton.mp hy]; exact hd
  · rintro acc g' ⟨hl, hR, -, xs', hx', rfl⟩
    rw [range_len] at hl hx'
    exact k _ _ hl hR hx'
  · rw [show g.up a xs = g from funext fun b => by unfold G.up; split <;> simp_all]
theorem nums_of {b : Nat} : ∀ {ys : List D}, (∀ y ∈ ys, isNumD b y) → ∃ qs, ys = nums qs ∧ Szs b qs
  | [], _ => ⟨[], rfl, fun _ h => (by cases h)⟩
  | y :: ys, h => by
    obtain ⟨q, e, hq⟩ := h y (List.mem_cons_self ..)
    obtain ⟨qs, e2, hs⟩ := nums_of (ys := ys) fun z hz => h z (List.mem_cons_of_mem _ hz)
    refine ⟨q :: qs, by rw [e, e2]; rfl, fun z hz => ?_⟩
    rcases List.mem_cons.mp hz with rfl | hz
    · exact hq
    · exact hs z hz
theorem nums_set {zs : List Rat} {k : Nat} {q : Rat} : (nums zs).set k (num q) = nums (zs.set k q) := by unfold nums; rw [List.map_set]
theorem nums_app {ys zs : List Rat} : nums ys ++ nums zs = nums (ys ++ zs) := by unfold nums; rw [List.map_append]
theorem nums_snoc {ys : List Rat} {q : Rat} : nums ys ++ [num q] = nums (ys ++ [q]) := nums_app (zs := [q])
theorem ixN_at {n k : Nat} {i : Int} (hi : i = (k : Int)) (h : k < n) : ixN n i = some k := by
  subst hi
  unfold ixN
  rw [if_pos (by omega), if_pos (by omega)]
  simp
theorem Szs.set {b : Nat} {zs : List Rat} {k : Nat} {q : Rat} (h : Szs b zs) (hq : sz q ≤ b) : Szs b (zs.set k q) := fun z hz => by
  rcases List.mem_or_eq_of_mem_set hz with e | e
  · exact h z e
  · rw [e]; exact hq
structure KN (o : G) (a : Addr) (g : G) (L : List (Addr × List D)) : Prop where
  get : ∀ (i : Nat) (b : Addr) (xs : List D), L[i]? = some (b, xs) → g b = some xs
  nd : (L.map Prod.fst).Nodup
  own : ∀ b ∈ L.map Prod.fst, b = a ∨ o b = none
  lea : G.lea a o g
theorem KN.start {o : G} {a : Addr} {xs : List D} (h : o a = some xs) : KN o a o [(a, xs)] where
  get := fun i b ys e => by
    cases i with
    | zero => cases e; exact h
    | succ i => cases e
  nd := by simp
  own := fun b hb => .inl (by simpa using hb)
  lea := G.lea_refl
theorem KN.start' {o : G} {a : Addr} {xs : List D} (h : o a = none) : KN o a (o.up a xs) [(a, xs)] where
  get := fun i b ys e => by
    cases i with
    | zero => cases e; exact G_up_same
    | succ i => cases e
  nd := by simp
  own := fun b hb => .inl (by simpa using hb)
  lea := G.lea_of (G.le_new h)
theorem KN.mem {o : G} {a : Addr} {g : G} {L : List (Addr × List D)} (K : KN o a g L) {b : Addr} (h : b ∈ L.map Prod.fst) : ∃ xs, g b = some xs := by
  obtain ⟨⟨c, xs⟩, hx, e⟩ := List.mem_map.mp h
  obtain ⟨i, hi⟩ := List.mem_iff_getElem?.mp hx
  cases e
  exact ⟨xs, K.get i c xs hi⟩
theorem KN.new {o : G} {a : Addr} {g : G} {L : List (Addr × List D)} {p : Addr} {ys : List D} (K : KN o a g L) (ha : (g a).isSome = true) (hp : g p = none) : KN o a (g.up p ys) (L ++ [(p, ys)]) where
  get := fun i b xs e => by
    rw [List.getElem?_append] at e
    split at e
    · exact G_up_fresh hp (K.get i b xs e)
    · rw [List.getElem?_singleton] at e
      split at e
      · cases e; exact G_up_same
      · cases e
  nd := by
    rw [List.map_append, List.nodup_append]
    refine ⟨K.nd, by simp, fun b hb c hc e => ?_⟩
    simp at hc
    obtain ⟨xs, hx⟩ := K.mem hb
    rw [e, hc, hp] at hx
    cases hx
  own := fun b hb => by
    rw [List.map_append] at hb
    rcases List.mem_append.mp hb with hb | hb
    · exact K.own b hb
    · simp at hb
      subst hb
      refine .inr ?_
      cases e : o b with
      | none => rfl
      | some zs =>
        have hba : b ≠ a := fun z => by rw [← z, hp] at ha; cases ha
        rw [K.lea b zs hba e] at hp
        cases hp
  lea := fun b xs n e => G_up_fresh hp (K.lea b xs n e)
theorem KN.put {o : G} {a : Addr} {g : G} {L : List (Addr × List D)} {b : Addr} {xs ys : List D} (K : KN o a g L) (i : Nat) (h : L[i]? = some (b, xs)) : KN o a (g.up b ys) (L.set i (b, ys)) where
  get := fun j c zs e => by
    rw [List.getElem?_set] at e
    split at e
    · split at e
      · cases e; exact G_up_same
      · cases e
    · rename_i hij
      have hcb : c ≠ b := fun z => by
        subst z
        have h1 := congrArg (Option.map Prod.fst) h
        have h2 := congrArg (Option.map Prod.fst) e
        rw [← List.getElem?_map] at h1 h2
        exact hij ((List.getElem?_inj (by
          rcases Nat.lt_or_ge i (L.map Prod.fst).length with z | z
          · exact z
          · rw [List.getElem?_eq_none z] at h1; cases h1) K.nd).mp (h1.trans h2.symm))
      rw [G_up_ne hcb]
      exact K.get j c zs e
  nd := by
    have e : (L.set i (b, ys)).map Prod.fst = L.map Prod.fst := by
      rw [List.map_set]
      refine List.ext_getElem? fun j => ?_
      rw [List.getElem?_set]
      split
      · rename_i z; subst z
        rw [List.getElem?_map, h]
        split
        · rfl
        · rename_i w
          exfalso; apply w
          rw [List.length_map]
          rcases Nat.lt_or_ge i L.length with z | z
          · exact z
          · rw [List.getElem?_eq_none z] at h; cases h
      · rfl
    rw [e]; exact K.nd
  own := fun c hc => by
    obtain ⟨⟨d, zs⟩, hx, e⟩ := List.mem_map.mp hc
    cases e
    rcases List.mem_or_eq_of_mem_set hx with z | z
    · exact K.own _ (List.mem_map.mpr ⟨_, z, rfl⟩)
    · cases z
      exact K.own _ (List.mem_map.mpr ⟨_, List.mem_of_getElem? h, rfl⟩)
  lea := fun c zs n e => by
    have hcb : c ≠ b := fun z => by
      rcases K.own b (List.mem_map.mpr ⟨_, List.mem_of_getElem? h, rfl⟩) with w | w
      · exact n (z.trans w)
      · rw [z, w] at e; cases e
    rw [G_up_ne hcb]
    exact K.lea c zs n e
theorem KN.pick {o : G} {a : Addr} {g : G} {L : List (Addr × List D)} (K : KN o a g L) (is : List Nat) (h : is.Nodup) : KN o a g (is.filterMap fun i => L[i]?) where
  get := fun i b xs e => by
    have hm := List.mem_of_getElem? e
    obtain ⟨j, _, hj⟩ := List.mem_filterMap.mp hm
    exact K.get j b xs hj
  nd := by
    have key : ∀ (is : List Nat), is.Nodup → ((is.filterMap fun i => L[i]?).map Prod.fst).Nodup ∧ ∀ b ∈ (is.filterMap fun i => L[i]?).map Prod.fst, ∃ i ∈ is, (L.map Prod.fst)[i]? = some b := by
      intro is
      induction is with
      | nil => exact fun _ => ⟨.nil, fun b hb => by cases hb⟩
      | cons i is ih =>
        intro h
        rw [List.nodup_cons] at h
        obtain ⟨a1, a2⟩ := ih h.2
        cases e : L[i]? with
        | none =>
          rw [List.filterMap_cons_none e]
          exact ⟨a1, fun b hb => by obtain ⟨j, h1, h2⟩ := a2 b hb; exact ⟨j, List.mem_cons_of_mem _ h1, h2⟩⟩
        | some c =>
          rw [List.filterMap_cons_some e, List.map_cons]
          have ei : (L.map Prod.fst)[i]? = some c.1 := by rw [List.getElem?_map, e]; rfl
          refine ⟨List.nodup_cons.mpr ⟨fun hc => ?_, a1⟩, fun b hb => ?_⟩
          · obtain ⟨j, h1, h2⟩ := a2 _ hc
            have hlt : i < (L.map Prod.fst).length := by
              rcases Nat.lt_or_ge i (L.map Prod.fst).length with z | z
              · exact z
              · rw [List.getElem?_eq_none z] at ei; cases ei
            have := (List.getElem?_inj hlt K.nd).mp (ei.trans h2.symm)
            subst this
            exact h.1 h1
          · rcases List.mem_cons.mp hb with rfl | hb
            · exact ⟨i, List.mem_cons_self .., ei⟩
            · obtain ⟨j, h1, h2⟩ := a2 b hb
              exact ⟨j, List.mem_cons_of_mem _ h1, h2⟩
    exact (key is h).1
  own := fun b hb => by
    obtain ⟨⟨c, xs⟩, hx, e⟩ := List.mem_map.mp hb
    obtain ⟨j, _, hj⟩ := List.mem_filterMap.mp hx
    cases e
    exact K.own _ (List.mem_map.mpr ⟨_, List.mem_of_getElem? hj, rfl⟩)
  lea := K.lea
theorem KN.le {o : G} {a : Addr} {g g' : G} {L : List (Addr × List D)} (K : KN o a g L) (h : g.le g') : KN o a g' L := ⟨fun i b xs e => h _ _ (K.get i b xs e), K.nd, K.own, fun b xs n e => h _ _ (K.lea b xs n e)⟩
theorem KN.fin0 {o : G} {a : Addr} {g : G} {L : List (Addr × List D)} {xs : List D} (K : KN o a g L) (i : Nat) (h : L[i]? = some (a, xs)) : (o.up a xs).le g := G.lea_fin K.lea (K.get i a xs h)
theorem KN.fin {o : G} {a : Addr} {g : G} {L : List (Addr × List D)} (K : KN o a g L) (h : o a = none) : o.le g := fun b xs e => K.lea b xs (fun z => by rw [z, h] at e; cases e) e
section
variable {o : G} {a : Addr} {xs : List D} {n : Nat} {L : List (Addr × List D)} {X : XD}
theorem K_draw {m : Int} (K : KN o a g ((a, xs) :: L)) (hm : 0 < m) (hp : PenL xs n) (hn : n < 2 ^ 50) (k : ∀ (d : Nat) xs' g', (d : Int) < m → PenL xs' (n + 1) → KN o a g' ((a, xs') :: L) → Q (.int d) g') : spDraw [.ref a, .int m] g Q X :=
  c_draw (K.get 0 _ _ rfl) hm hp hn fun d xs' hd hp' => k d xs' _ hd hp' (K.put 0 rfl)
theorem K_pen {R : D → Prop} {c : Nat} (K : KN o a g ((a, xs) :: L)) (hp : PenL xs n) (hn : n + c < 2 ^ 50) (k : ∀ d xs' g', R d → PenL xs' (n + c) → KN o a g' ((a, xs') :: L) → Q d g') : spPenFn R c [.ref a] g Q X :=
  c_penFn (K.get 0 _ _ rfl) hp hn fun d xs' hd hp' => k d xs' _ hd hp' (K.put 0 rfl)
theorem K_new {p : Addr} {ys : List D} (K : KN o a g ((a, xs) :: L)) (hp : g p = none) : KN o a (g.up p ys) ((a, xs) :: (L ++ [(p, ys)])) := K.new (by rw [K.get 0 _ _ rfl]; rfl) hp
theorem K_comp {R : D → Prop} {c : Nat} {p : Addr} {m : Nat} {lo : Int} {fin : G → Prop} {i j : Nat} {env : Env} (K : KN o a g ((a, xs) :: L)) (he : env[j]? = some (some (.ref a))) (hij : i ≠ j) (hp : g p = none) (hx : PenL xs n) (hb : n + m * c < 2 ^ 50)
    (k : ∀ ys xs' g', ys.length = m → (∀ y ∈ ys, R y) → PenL xs' (n + m * c) → KN o a g' ((a, xs') :: (L ++ [(p, ys)])) → fin g') :
    compD (fun _ => True) p (compB (.n i) env dYes (dCall (spPenFn R c) (dCons (dVar j) dNil))) fin (rangeD lo m) [] (g.up p []) :=
  comp_pen he hij hp (K.get 0 _ _ rfl) hx hb fun ys xs' h1 h2 h3 => by
    have K' : KN o a (g.up a xs') ((a, xs') :: L) := K.put 0 rfl
    have hpa : p ≠ a := fun z => by rw [z, K.get 0 _ _ rfl] at hp; cases hp
    exact k ys xs' _ h1 h2 h3 (K_new K' (by rw [G_up_ne hpa]; exact hp))
end
end
end PP
namespace PP
open PySem PySem.Spec PyProof.Rows L2
def coef (c : List Rat) (k : Nat) : Rat := c.getD k 0
theorem coef_cons_zero {a : Rat} {c : List Rat} : coef (a :: c) 0 = a := rfl
theorem coef_cons_succ {a : Rat} {c : List Rat} {k : Nat} : coef (a :: c) (k + 1) = coef c k := rfl
theorem coef_at {c : List Rat} {k : Nat} {q : Rat} (h : c[k]? = some q) : coef c k = q := by
  unfold coef
  rw [List.getD_eq_getElem?_getD, h]
  rfl
theorem coef_out {c : List Rat} {k : Nat} (h : c.length ≤ k) : coef c k = 0 := by
  unfold coef
  rw [List.getD_eq_getElem?_getD, List.getElem?_eq_none h]
  rfl
theorem coef_lt {c : List Rat} {k : Nat} (h : k < c.length) : c[k]? = some (coef c k) := by
  rw [coef_at (List.getElem?_eq_getElem h)]
  exact List.getElem?_eq_getElem h
theorem ev_map_add {α : Type} (f g : α → Rat) (l : List α) (x : Rat) : ev (l.map fun k => f k + g k) x = ev (l.map f) x + ev (l.map g) x := by
  induction l with
  | nil => simp only [List.map_nil, ev_nil]; grind
  | cons a l ih => simp only [List.map_cons, ev_cons, ih]; grind
theorem ev_map_sub {α : Type} (f g : α → Rat) (l : List α) (x : Rat) : ev (l.map fun k => f k - g k) x = ev (l.map f) x - ev (l.map g) x := by
  induction l with
  | nil => simp only [List.map_nil, ev_nil]; grind
  | cons a l ih => simp only [List.map_cons, ev_cons, ih]; grind
theorem ev_map_mul (q : Rat) (c : List Rat) (x : Rat) : ev (c.map fun a => a * q) x = ev c x * q := by
  induction c with
  | nil => simp only [List.map_nil, ev_nil]; grind
  | cons a l ih => simp only [List.map_cons, ev_cons, ih]; grind
theorem range_coef {c : List Rat} {n : Nat} (h : c.length ≤ n) : (List.range n).map (coef c) = c ++ List.replicate (n - c.length) 0 := by
  refine List.ext_getElem? fun i => ?_
  rw [List.getElem?_map, List.getElem?_append]
  by_cases hi : i < n
  · rw [List.getElem?_range hi]
    by_cases hc : i < c.length
    · rw [if_pos hc]; exact (coef_lt hc).symm
    · rw [if_neg hc, List.getElem?_replicate, if_pos (by omega)]
      exact congrArg some (coef_out (by omega))
  · rw [List.getElem?_eq_none (by simp; omega), if_neg (by omega), List.getElem?_eq_none (by simp; omega)]
    rfl
theorem ev_range_coef {c : List Rat} {n : Nat} (h : c.length ≤ n) (x : Rat) : ev ((List.range n).map (coef c)) x = ev c x := by
  rw [range_coef h, ev_append_zeros]
theorem ev_set (c : List Rat) (k : Nat) (v x : Rat) (h : k < c.length) : ev (c.set k v) x = ev c x + (v - coef c k) * x ^ k := by
  induction c generalizing k with
  | nil => simp at h
  | cons a c ih =>
    cases k with
    | zero => rw [List.set_cons_zero, ev_cons, ev_cons, coef_cons_zero, Rat.pow_zero]; grind
    | succ k => rw [List.set_cons_succ, ev_cons, ev_cons, coef_cons_succ, ih k (by simpa using h), Rat.pow_succ]; grind
def divl : List Rat → Rat → List Rat
  | [], _ => []
  | _ :: c, r => match c with
    | [] => []
    | _ :: _ => ev c r :: divl c r
theorem divl_len (c : List Rat) (r : Rat) : (divl c r).length = c.length - 1 := by
  induction c with
  | nil => rfl
  | cons a c ih =>
    cases c with
    | nil => rfl
    | cons b c => rw [divl, List.length_cons, ih]; simp
theorem divl_ev (c : List Rat) (r x : Rat) : ev c x = ev c r + (x - r) * ev (divl c r) x := by
  induction c with
  | nil => simp only [ev_nil, divl]; grind
  | cons a c ih =>
    cases c with
    | nil => simp only [ev_nil, divl, ev_cons]; grind
    | cons b c =>
      rw [divl, ev_cons a, ev_cons a, ev_cons (ev (b :: c) r)]
      grind
theorem roots : ∀ (xs : List Rat) (c : List Rat), xs.Nodup → (∀ x ∈ xs, ev c x = 0) → c.length ≤ xs.length → ∀ x, ev c x = 0 := by
  intro xs
  induction xs with
  | nil =>
    intro c _ _ hl x
    cases c with
    | nil => rfl
    | cons b c => simp at hl
  | cons r xs ih =>
    intro c hn hr hl x
    rw [List.nodup_cons] at hn
    have h0 := hr r (List.mem_cons_self ..)
    have hq := ih (divl c r) hn.2 (fun y hy => by
      have e := divl_ev c r y
      rw [hr y (List.mem_cons_of_mem _ hy), h0] at e
      have hyr : y - r ≠ 0 := fun z => hn.1 (by rw [show r = y by grind]; exact hy)
      grind) (by rw [divl_len]; simp at hl; omega)
    rw [divl_ev c r x, h0, hq x]
    grind
theorem ints_nodup (n : Nat) (a : Rat) : ((List.range n).map fun i : Nat => a + 1 + (i : Rat)).Nodup := by
  rw [List.Nodup, List.pairwise_map]
  have key : ∀ i j : Nat, i ≠ j → a + 1 + (i : Rat) ≠ a + 1 + (j : Rat) := fun i j hij e => hij (Rat.natCast_inj.mp (by grind))
  exact List.Pairwise.imp (fun {i j} hij => key i j hij) (List.nodup_range (n := n))
theorem roots_off {c : List Rat} {a : Rat} (h : ∀ x, a < x → ev c x = 0) (x : Rat) : ev c x = 0 := by
  refine roots ((List.range c.length).map fun i : Nat => a + 1 + (i : Rat)) c (ints_nodup _ _) (fun y hy => ?_) (by simp) x
  obtain ⟨i, _, rfl⟩ := List.mem_map.mp hy
  refine h _ ?_
  have : (0 : Rat) ≤ (i : Rat) := Rat.natCast_nonneg
  grind
theorem coefs_zero {c : List Rat} (h : ∀ x, ev c x = 0) : c = List.replicate c.length 0 := by
  induction c with
  | nil => rfl
  | cons a c ih =>
    have ha : a = 0 := by
      have := h 0
      rw [ev_cons] at this
      grind
    have hc : ∀ x, ev c x = 0 := roots_off (a := 0) fun x hx => by
      have := h x
      rw [ev_cons, ha] at this
      have hx0 : x ≠ 0 := by grind
      grind
    rw [List.length_cons, List.replicate_succ, ha, ← ih hc]
def padd : List Rat → List Rat → List Rat
  | [], q => q
  | a :: p, [] => a :: p
  | a :: p, b :: q => (a + b) :: padd p q
theorem padd_ev (p q : List Rat) (x : Rat) : ev (padd p q) x = ev p x + ev q x := by
  induction p generalizing q with
  | nil => rw [padd, ev_nil]; grind
  | cons a p ih =>
    cases q with
    | nil => rw [padd, ev_nil]; grind
    | cons b q => rw [padd, ev_cons, ev_cons, ev_cons, ih]; grind
def pmul : List Rat → List Rat → List Rat
  | [], _ => []
  | a :: p, q => padd (q.map fun b => b * a) (0 :: pmul p q)
theorem pmul_ev (p q : List Rat) (x : Rat) : ev (pmul p q) x = ev p x * ev q x := by
  induction p with
  | nil => rw [pmul, ev_nil]; grind
  | cons a p ih => rw [pmul, padd_ev, ev_map_mul, ev_cons, ev_cons, ih]; grind
def pneg (q : List Rat) : List Rat := q.map fun b => b * (-1)
theorem pneg_ev (q : List Rat) (x : Rat) : ev (pneg q) x = - ev q x := by
  rw [pneg, ev_map_mul]; grind
theorem trim_congr {c d : List Rat} (h : ∀ x, ev c x = ev d x) : trim c = trim d := by
  have hz : ∀ (c d : List Rat), (∀ x, ev c x = ev d x) → c.length ≤ d.length → trim c = trim d := by
    intro c
    induction c with
    | nil =>
      intro d h _
      have := coefs_zero (c := d) fun x => by rw [← h x]; rfl
      rw [this, trim_zeros]
      rfl
    | cons a c ih =>
      intro d h hl
      cases d with
      | nil => simp at hl
      | cons b d =>
        have hab : a = b := by
          have := h 0
          rw [ev_cons, ev_cons] at this
          grind
        have hcd : ∀ x, ev c x = ev d x := fun x => by
          have := roots_off (c := padd c (pneg d)) (a := 0) (fun x hx => by
            have := h x
            rw [ev_cons, ev_cons, hab] at this
            rw [padd_ev, pneg_ev]
            have hx0 : x ≠ 0 := by grind
            grind) x
          rw [padd_ev, pneg_ev] at this
          grind
        rw [trim, trim, ih d hcd (by simpa using hl), hab]
  rcases Nat.le_total c.length d.length with l | l
  · exact hz c d h l
  · exact (hz d c (fun x => (h x).symm) l).symm
theorem tight_congr {c d : List Rat} (hc : Tight c) (hd : Tight d) (h : ∀ x, ev c x = ev d x) : c = d := by
  rw [← trim_self hc, ← trim_self hd]; exact trim_congr h
def PolyF (f : Rat → Rat) : Prop := ∃ c, ∀ x, f x = ev c x
theorem PolyF.of (c : List Rat) : PolyF (ev c) := ⟨c, fun _ => rfl⟩
theorem PolyF.id : PolyF fun x => x := ⟨[0, 1], fun x => by rw [ev_cons, ev_cons, ev_nil]; grind⟩
theorem PolyF.add {f g : Rat → Rat} (hf : PolyF f) (hg : PolyF g) : PolyF fun x => f x + g x := by
  obtain ⟨c, hc⟩ := hf; obtain ⟨d, hd⟩ := hg
  exact ⟨padd c d, fun x => by show f x + g x = _; rw [padd_ev, hc, hd]⟩
theorem PolyF.mul {f g : Rat → Rat} (hf : PolyF f) (hg : PolyF g) : PolyF fun x => f x * g x := by
  obtain ⟨c, hc⟩ := hf; obtain ⟨d, hd⟩ := hg
  exact ⟨pmul c d, fun x => by show f x * g x = _; rw [pmul_ev, hc, hd]⟩
theorem PolyF.sub {f g : Rat → Rat} (hf : PolyF f) (hg : PolyF g) : PolyF fun x => f x - g x := by
  obtain ⟨c, hc⟩ := hf; obtain ⟨d, hd⟩ := hg
  exact ⟨padd c (pneg d), fun x => by show f x - g x = _; rw [padd_ev, pneg_ev, hc, hd]; grind⟩
theorem PolyF.eq {f g : Rat → Rat} (hf : PolyF f) (hg : PolyF g) (r : Rat) (h : ∀ x, x ≠ r → f x = g x) (x : Rat) : f x = g x := by
  obtain ⟨c, hc⟩ := hf.sub hg
  have := roots_off (c := c) (a := r) (fun y hy => by rw [← hc y]; show f y - g y = 0; rw [h y (by grind)]; grind) x
  rw [← hc x] at this
  have this : f x - g x = 0 := this
  grind
end PP
namespace PP
open PySem PySem.Spec PyProof.Rows L2
def sx_number_at : SX :=
  (.ite (.cmp .lt (.v 1) (.blt .len (.cons (.v 0) .nil)))
    (.ret (.ix (.v 0) (.v 1)) .nil)
    .nil
  (.ret (.glo 0) .nil))
abbrev ns_number_at : List Str := ["curve", "k"]
def sx_added : SX :=
  (.asg (.n 2) (.blt .max (.cons (.blt .len (.cons (.v 0) .nil)) (.cons (.blt .len (.cons (.v 1) .nil)) .nil)))
  (.ret (.call 23 (.cons (.comp [3] (.n 3) (.range1 (.v 2)) .yes (.call 11 (.cons (.call 30 (.cons (.v 0) (.cons (.v 3) .nil))) (.cons (.call 30 (.cons (.v 1) (.cons (.v 3) .nil))) .nil)))) .nil)) .nil))
abbrev ns_added : List Str := ["one", "other", "many", "k"]
def sx_lessened : SX :=
  (.asg (.n 2) (.blt .max (.cons (.blt .len (.cons (.v 0) .nil)) (.cons (.blt .len (.cons (.v 1) .nil)) .nil)))
  (.ret (.call 23 (.cons (.comp [3] (.n 3) (.range1 (.v 2)) .yes (.call 12 (.cons (.call 30 (.cons (.v 0) (.cons (.v 3) .nil))) (.cons (.call 30 (.cons (.v 1) (.cons (.v 3) .nil))) .nil)))) .nil)) .nil))
abbrev ns_lessened : List Str := ["one", "other", "many", "k"]
def sx_scaled : SX :=
  (.ret (.call 23 (.cons (.comp [2] (.n 2) (.over (.v 0)) .yes (.call 13 (.cons (.v 2) (.cons (.v 1) .nil)))) .nil)) .nil)
abbrev ns_scaled : List Str := ["curve", "number", "own"]
def sx_multiplied : SX :=
  (.ite (.or (.cmp .eq (.v 0) (.tup .nil)) (.cmp .eq (.v 1) (.tup .nil)))
    (.ret (.tup .nil) .nil)
    .nil
  (.asg (.n 2) (.comp [5] (.n 5) (.range1 (.bin .sub (.bin .add (.blt .len (.cons (.v 0) .nil)) (.blt .len (.cons (.v 1) .nil))) (.int 1))) .yes (.glo 0))
  (.for_ (.t [3, 4]) (.enum (.v 0))
    (.for_ (.t [5, 6]) (.enum (.v 1))
      (.put (.v 2) (.bin .add (.v 3) (.v 5)) (.call 11 (.cons (.ix (.v 2) (.bin .add (.v 3) (.v 5))) (.cons (.call 13 (.cons (.v 4) (.cons (.v 6) .nil))) .nil))) .nil) .nil)
  (.ret (.call 23 (.cons (.v 2) .nil)) .nil))))
abbrev ns_multiplied : List Str := ["one", "other", "found", "j", "first", "k", "second"]
theorem tup_nil : D.tup [] = .tup (nums []) := rfl
theorem range_zeros (n : Nat) : (List.range n).map (fun _ => (0 : Rat)) = List.replicate n 0 := by
  induction n with
  | zero => rfl
  | succ n ih => rw [List.range_succ, List.map_append, ih, List.replicate_succ']; rfl
theorem pow_add' (x : Rat) (m n : Nat) : x ^ (m + n) = x ^ m * x ^ n := by
  induction n with
  | zero => rw [Nat.add_zero, Rat.pow_zero]; grind
  | succ n ih => rw [Nat.add_succ, Rat.pow_succ, ih, Rat.pow_succ]; grind
theorem enum_at {p : List Rat} {k : Nat} {x : D} (h : (enumD (nums p))[k]? = some x) : ∃ q, p[k]? = some q ∧ x = .tup [.int (k : Int), num q] := by
  unfold enumD at h
  rw [List.getElem?_mapIdx] at h
  cases e : (nums p)[k]? with
  | none => rw [e] at h; cases h
  | some d =>
    rw [e] at h
    cases h
    obtain ⟨q, hq, rfl⟩ := nums_at e
    exact ⟨q, hq, rfl⟩
theorem enum_len {xs : List D} : (enumD xs).length = xs.length := by simp [enumD]
theorem comp_nums {stay : G → Prop} {p : Addr} {body : D → G → (Option D → G → Prop) → Prop} {fin : G → Prop} {items : List D} {g : G} (f : Nat → Rat)
    (st : ∀ acc, stay (g.up p acc))
    (step : ∀ k x acc N, items[k]? = some x → k < items.length → N (some (num (f k))) (g.up p acc) → body x (g.up p acc) N)
    (done : fin (g.up p (nums ((List.range items.length).map f)))) : compD stay p body fin items [] (g.up p []) := by
  refine comp_inv (fun k acc g' => acc = nums ((List.range k).map f) ∧ g' = g.up p acc) (fun k acc g' e => by rw [e.2]; exact st _) ?_ ?_ ⟨rfl, rfl⟩
  · rintro k x acc g' N hk ⟨rfl, rfl⟩ h1 -
    have hlt : k < items.length := by
      rcases Nat.lt_or_ge k items.length with z | z
      · exact z
      · rw [List.getElem?_eq_none z] at hk; cases hk
    have e : nums ((List.range k).map f) ++ [num (f k)] = nums ((List.range (k + 1)).map f) := by
      rw [List.range_succ, List.map_append, ← nums_app]; rfl
    refine step k x _ N hk hlt (h1 _ _ G_up_same ⟨e, by rw [G_up_up]⟩)
  · rintro acc g' ⟨rfl, rfl⟩
    exact done
theorem Szs.range {b n : Nat} {f : Nat → Rat} (h : ∀ k, k < n → sz (f k) ≤ b) : Szs b ((List.range n).map f) := fun q hq => by
  obtain ⟨k, hk, rfl⟩ := List.mem_map.mp hq
  exact h k (by simpa using hk)
theorem Szs.coef {b : Nat} {c : List Rat} (h : Szs b c) (hb : 0 < b) (k : Nat) : sz (PP.coef c k) ≤ b := by
  rcases Nat.lt_or_ge k c.length with z | z
  · exact h.at (coef_lt z)
  · rw [coef_out z, sz_0]; exact hb
theorem Szs.nil {b : Nat} : Szs b [] := fun _ h => by cases h
theorem tight_nil : Tight [] := fun _ h => by cases h
section
variable {Γ : Nat → SpD} {gl : Nat → D} {ds : List D} {g : G} {Q : QD} {E X : XD}
def spNumberAt : SpD := fun ds g Q _ => ∃ d c k, ds = [d, .int ((k : Nat) : Int)] ∧ SeqD g d (nums c) ∧ Q (num (coef c k)) g
theorem c_numberAt {d : D} {c : List Rat} {i : Int} {k : Nat} (hi : i = k) (h : SeqD g d (nums c)) (q : Q (num (coef c k)) g) : spNumberAt [d, .int i] g Q X := ⟨d, c, k, by rw [hi], h, q⟩
theorem pure_number_at (hg : gl 0 = .tup [.int 0, .int 1]) (h : spNumberAt ds g Q E) : mnS Γ gl sx_number_at (endsOf Q E) (startD ns_number_at ds) g := by
  obtain ⟨d, c, k, rfl, hd, h⟩ := h
  simp only [sx_number_at, hg, mnS, dLamr, mn, Mn.of, Op.rd, Cm.rd, Bl.rd, Mt.rd, Mt.rc, dNop, dSeq, dExpr, dRet, dRetN, dIf, gD, dAsg, dPar, dPut, dRaise, dVar, dC, dBin, dUn, dNil, dCons, dTup, dLst, dTst, dAndT, dOrT, dNotT, dYes, dAnd, dOr, dNot, dChain, dCall, dCB, dMt, dLset, dSrev, dTry, dIsx, dEmp, dDic1, dStp, dFld, dMeth, dMake, dFset, dGin, dGix, dRep, dTryu, dTryn, conD, xsub, Ex.sub, dSlc, dPart, dNoPart, dIAny, dI1, dI2, dI3, dFor, dComp, compB, wipeD, startD, endsOf, at_mk, setAll, add_int, sub_int, mul_int, mul_tup, pow_int, mod_int, fdiv_int, lt_int, le_int, gt_int, ge_int, eq_int, neg_int, len_tup, len_scr, abs_int, max_int, min_int, int_int, int_bl, r1_int, r2_int, tuple_tup, list_tup, over_tup, rev_tup, enum_tup, zip_tup, slc_tup, add_tup, isi_any, ix_tup, ix_scr, ix_num0, ix_num1, len_num, num_0, num_1, atI_0, atI_1, atI_2, List.map, List.cons_append, List.nil_append, List.getElem?_cons_zero, List.getElem?_cons_succ, List.getElem?_nil, List.set_cons_zero, List.set_cons_succ, List.replicate, List.length_cons, List.length_nil, List.foldr_cons, List.foldr_nil, Nat.reduceAdd, Nat.reduceSub, List.replicate_succ, List.replicate_zero, G_up_same, decide_eq_true_eq, Bool.not_eq_true', Bool.false_eq_true, if_true, if_false, ite_true, ite_false, and_true, true_and, reduceCtorEq, Bool.not_true, Bool.not_false, Bool.false_bne, Bool.true_bne, sl0, sl1, sl2, sl3, sl4, len_seq hd, ix_seq hd, nums_len]
  split
  · rename_i hk
    rw [atI_nums rfl (coef_lt (by omega))]
    exact ⟨_, G.le_refl _, h⟩
  · rename_i hk
    exact ⟨_, G.le_refl _, by rw [coef_out (by omega)] at h; exact h⟩
def spTwo (len : Nat → Nat → Nat) (siz : Nat → Nat → Nat → Nat → Nat) (f : Rat → Rat → Rat) : SpD := fun ds g Q _ => ∃ p q b c, ds = [.tup (nums p), .tup (nums q)] ∧ Szs b p ∧ Szs c q ∧ 0 < b ∧ 0 < c ∧ siz p.length q.length b c ≤ 100000000 ∧ p.length ≤ 100 ∧ q.length ≤ 100 ∧
  ∀ r, Tight r → r.length ≤ len p.length q.length → Szs (siz p.length q.length b c) r → (∀ x, ev r x = f (ev p x) (ev q x)) → Q (.tup (nums r)) g
abbrev spAdded : SpD := spTwo (fun n m => max n m) (fun _ _ b c => b + c + 1) fun a b => a + b
abbrev spLessened : SpD := spTwo (fun n m => max n m) (fun _ _ b c => b + c + 1) fun a b => a - b
abbrev spMultiplied : SpD := spTwo (fun n m => n + m - 1) (fun n m b c => min n m * (b + c + 1) + 1) fun a b => a * b
theorem c_twoB {len : Nat → Nat → Nat} {siz : Nat → Nat → Nat → Nat → Nat} {f : Rat → Rat → Rat} {p q : List Rat} (b c : Nat) (hp : Szs b p) (hq : Szs c q) (hb : 0 < b) (hc : 0 < c) (hs : siz p.length q.length b c ≤ 100000000) (hl : p.length ≤ 100) (hl2 : q.length ≤ 100)
    (k : ∀ r, Tight r → r.length ≤ len p.length q.length → Szs (siz p.length q.length b c) r → (∀ x, ev r x = f (ev p x) (ev q x)) → Q (.tup (nums r)) g) : spTwo len siz f [.tup (nums p), .tup (nums q)] g Q X := ⟨p, q, b, c, rfl, hp, hq, hb, hc, hs, hl, hl2, k⟩
theorem pure_added (h11 : Γ 11 = spPlus) (h23 : Γ 23 = spCurveOf) (h30 : Γ 30 = spNumberAt) (h : spAdded ds g Q E) : mnS Γ gl sx_added (endsOf Q E) (startD ns_added ds) g := by
  obtain ⟨p, q, b, c, rfl, hp, hq, hb, hc, hs, hl, hl2, h⟩ := h
  have hs : b + c + 1 ≤ 100000000 := hs
  simp only [sx_added, h11, h23, h30, mnS, dLamr, mn, Mn.of, Op.rd, Cm.rd, Bl.rd, Mt.rd, Mt.rc, dNop, dSeq, dExpr, dRet, dRetN, dIf, gD, dAsg, dPar, dPut, dRaise, dVar, dC, dBin, dUn, dNil, dCons, dTup, dLst, dTst, dAndT, dOrT, dNotT, dYes, dAnd, dOr, dNot, dChain, dCall, dCB, dMt, dLset, dSrev, dTry, dIsx, dEmp, dDic1, dStp, dFld, dMeth, dMake, dFset, dGin, dGix, dRep, dTryu, dTryn, conD, xsub, Ex.sub, dSlc, dPart, dNoPart, dIAny, dI1, dI2, dI3, dFor, dComp, compB, wipeD, startD, endsOf, at_mk, setAll, add_int, sub_int, mul_int, mul_tup, pow_int, mod_int, fdiv_int, lt_int, le_int, gt_int, ge_int, eq_int, neg_int, len_tup, len_scr, abs_int, max_int, min_int, int_int, int_bl, r1_int, r2_int, tuple_tup, list_tup, over_tup, rev_tup, enum_tup, zip_tup, slc_tup, add_tup, isi_any, ix_tup, ix_scr, ix_num0, ix_num1, len_num, num_0, num_1, atI_0, atI_1, atI_2, List.map, List.cons_append, List.nil_append, List.getElem?_cons_zero, List.getElem?_cons_succ, List.getElem?_nil, List.set_cons_zero, List.set_cons_succ, List.replicate, List.length_cons, List.length_nil, List.foldr_cons, List.foldr_nil, Nat.reduceAdd, Nat.reduceSub, List.replicate_succ, List.replicate_zero, G_up_same, decide_eq_true_eq, Bool.not_eq_true', Bool.false_eq_true, if_true, if_false, ite_true, ite_false, and_true, true_and, reduceCtorEq, Bool.not_true, Bool.not_false, Bool.false_bne, Bool.true_bne, sl0, sl1, sl2, sl3, sl4, range_len, nums_len]
  refine ⟨by omega, slN (by omega), fun s hs0 => ?_⟩
  refine comp_nums (fun k => coef p k + coef q k) (fun _ => trivial) (fun k x acc N hk hlt hN => ?_) ?_
  · obtain ⟨_, rfl⟩ := range_at hk
    try simp only [mnS, dLamr, mn, Mn.of, Op.rd, Cm.rd, Bl.rd, Mt.rd, Mt.rc, dNop, dSeq, dExpr, dRet, dRetN, dIf, gD, dAsg, dPar, dPut, dRaise, dVar, dC, dBin, dUn, dNil, dCons, dTup, dLst, dTst, dAndT, dOrT, dNotT, dYes, dAnd, dOr, dNot, dChain, dCall, dCB, dMt, dLset, dSrev, dTry, dIsx, dEmp, dDic1, dStp, dFld, dMeth, dMake, dFset, dGin, dGix, dRep, dTryu, dTryn, conD, xsub, Ex.sub, dSlc, dPart, dNoPart, dIAny, dI1, dI2, dI3, dFor, dComp, compB, wipeD, startD, endsOf, at_mk, setAll, add_int, sub_int, mul_int, mul_tup, pow_int, mod_int, fdiv_int, lt_int, le_int, gt_int, ge_int, eq_int, neg_int, len_tup, len_scr, abs_int, max_int, min_int, int_int, int_bl, r1_int, r2_int, tuple_tup, list_tup, over_tup, rev_tup, enum_tup, zip_tup, slc_tup, add_tup, isi_any, ix_tup, ix_scr, ix_num0, ix_num1, len_num, num_0, num_1, atI_0, atI_1, atI_2, List.map, List.cons_append, List.nil_append, List.getElem?_cons_zero, List.getElem?_cons_succ, List.getElem?_nil, List.set_cons_zero, List.set_cons_succ, List.replicate, List.length_cons, List.length_nil, List.foldr_cons, List.foldr_nil, Nat.reduceAdd, Nat.reduceSub, List.replicate_succ, List.replicate_zero, G_up_same, decide_eq_true_eq, Bool.not_eq_true', Bool.false_eq_true, if_true, if_false, ite_true, ite_false, and_true, true_and, reduceCtorEq, Bool.not_true, Bool.not_false, Bool.false_bne, Bool.true_bne, sl0, sl1, sl2, sl3, sl4]
    refine c_numberAt (k := k) (by omega) .tup ?_
    refine c_numberAt (k := k) (by omega) .tup ?_
    simp only [c_bin]
    have := hp.coef hb k; have := hq.coef hc k
    exact ⟨by omega, hN⟩
  · refine c_curveOf G_up_same ?_
    simp only [range_len]
    refine ⟨g, G.le_new hs0, h _ (trim_tight _) (Nat.le_trans (trim_len _) ?_) (Szs.trim (Szs.range fun k _ => ?_)) fun x => ?_⟩
    · simp; omega
    · have := hp.coef hb k; have := hq.coef hc k
      exact Nat.le_trans (sz_add _ _) (show _ ≤ b + c + 1 by omega)
    · rw [ev_trim, ev_map_add, ev_range_coef (by omega), ev_range_coef (by omega)]
theorem pure_lessened (h12 : Γ 12 = spMinus) (h23 : Γ 23 = spCurveOf) (h30 : Γ 30 = spNumberAt) (h : spLessened ds g Q E) : mnS Γ gl sx_lessened (endsOf Q E) (startD ns_lessened ds) g := by
  obtain ⟨p, q, b, c, rfl, hp, hq, hb, hc, hs, hl, hl2, h⟩ := h
  have hs : b + c + 1 ≤ 100000000 := hs
  simp only [sx_lessened, h12, h23, h30, mnS, dLamr, mn, Mn.of, Op.rd, Cm.rd, Bl.rd, Mt.rd, Mt.rc, dNop, dSeq, dExpr, dRet, dRetN, dIf, gD, dAsg, dPar, dPut, dRaise, dVar, dC, dBin, dUn, dNil, dCons, dTup, dLst, dTst, dAndT, dOrT, dNotT, dYes, dAnd, dOr, dNot, dChain, dCall, dCB, dMt, dLset, dSrev, dTry, dIsx, dEmp, dDic1, dStp, dFld, dMeth, dMake, dFset, dGin, dGix, dRep, dTryu, dTryn, conD, xsub, Ex.sub, dSlc, dPart, dNoPart, dIAny, dI1, dI2, dI3, dFor, dComp, compB, wipeD, startD, endsOf, at_mk, setAll, add_int, sub_int, mul_int, mul_tup, pow_int, mod_int, fdiv_int, lt_int, le_int, gt_int, ge_int, eq_int, neg_int, len_tup, len_scr, abs_int, max_int, min_int, int_int, int_bl, r1_int, r2_int, tuple_tup, list_tup, over_tup, rev_tup, enum_tup, zip_tup, slc_tup, add_tup, isi_any, ix_tup, ix_scr, ix_num0, ix_num1, len_num, num_0, num_1, atI_0, atI_1, atI_2, List.map, List.cons_append, List.nil_append, List.getElem?_cons_zero, List.getElem?_cons_succ, List.getElem?_nil, List.set_cons_zero, List.set_cons_succ, List.replicate, List.length_cons, List.length_nil, List.foldr_cons, List.foldr_nil, Nat.reduceAdd, Nat.reduceSub, List.replicate_succ, List.replicate_zero, G_up_same, decide_eq_true_eq, Bool.not_eq_true', Bool.false_eq_true, if_true, if_false, ite_true, ite_false, and_true, true_and, reduceCtorEq, Bool.not_true, Bool.not_false, Bool.false_bne, Bool.true_bne, sl0, sl1, sl2, sl3, sl4, range_len, nums_len]
  refine ⟨by omega, slN (by omega), fun s hs0 => ?_⟩
  refine comp_nums (fun k => coef p k - coef q k) (fun _ => trivial) (fun k x acc N hk hlt hN => ?_) ?_
  · obtain ⟨_, rfl⟩ := range_at hk
    try simp only [mnS, dLamr, mn, Mn.of, Op.rd, Cm.rd, Bl.rd, Mt.rd, Mt.rc, dNop, dSeq, dExpr, dRet, dRetN, dIf, gD, dAsg, dPar, dPut, dRaise, dVar, dC, dBin, dUn, dNil, dCons, dTup, dLst, dTst, dAndT, dOrT, dNotT, dYes, dAnd, dOr, dNot, dChain, dCall, dCB, dMt, dLset, dSrev, dTry, dIsx, dEmp, dDic1, dStp, dFld, dMeth, dMake, dFset, dGin, dGix, dRep, dTryu, dTryn, conD, xsub, Ex.sub, dSlc, dPart, dNoPart, dIAny, dI1, dI2, dI3, dFor, dComp, compB, wipeD, startD, endsOf, at_mk, setAll, add_int, sub_int, mul_int, mul_tup, pow_int, mod_int, fdiv_int, lt_int, le_int, gt_int, ge_int, eq_int, neg_int, len_tup, len_scr, abs_int, max_int, min_int, int_int, int_bl, r1_int, r2_int, tuple_tup, list_tup, over_tup, rev_tup, enum_tup, zip_tup, slc_tup, add_tup, isi_any, ix_tup, ix_scr, ix_num0, ix_num1, len_num, num_0, num_1, atI_0, atI_1, atI_2, List.map, List.cons_append, List.nil_append, List.getElem?_cons_zero, List.getElem?_cons_succ, List.getElem?_nil, List.set_cons_zero, List.set_cons_succ, List.replicate, List.length_cons, List.length_nil, List.foldr_cons, List.foldr_nil, Nat.reduceAdd, Nat.reduceSub, List.replicate_succ, List.replicate_zero, G_up_same, decide_eq_true_eq, Bool.not_eq_true', Bool.false_eq_true, if_true, if_false, ite_true, ite_false, and_true, true_and, reduceCtorEq, Bool.not_true, Bool.not_false, Bool.false_bne, Bool.true_bne, sl0, sl1, sl2, sl3, sl4]
    refine c_numberAt (k := k) (by omega) .tup ?_
    refine c_numberAt (k := k) (by omega) .tup ?_
    simp only [c_bin]
    have := hp.coef hb k; have := hq.coef hc k
    exact ⟨by omega, hN⟩
  · refine c_curveOf G_up_same ?_
    simp only [range_len]
    refine ⟨g, G.le_new hs0, h _ (trim_tight _) (Nat.le_trans (trim_len _) ?_) (Szs.trim (Szs.range fun k _ => ?_)) fun x => ?_⟩
    · simp; omega
    · have := hp.coef hb k; have := hq.coef hc k
      exact Nat.le_trans (sz_sub _ _) (show _ ≤ b + c + 1 by omega)
    · rw [ev_trim, ev_map_sub, ev_range_coef (by omega), ev_range_coef (by omega)]
def spScaled : SpD := fun ds g Q _ => ∃ p q b c, ds = [.tup (nums p), num q] ∧ Szs b p ∧ sz q ≤ c ∧ b + c ≤ 100000000 ∧ p.length ≤ 100 ∧
  ∀ r, Tight r → r.length ≤ p.length → Szs (b + c) r → (∀ x, ev r x = ev p x * q) → Q (.tup (nums r)) g
theorem c_scaledB {p : List Rat} {q : Rat} (b c : Nat) (hp : Szs b p) (hq : sz q ≤ c) (hs : b + c ≤ 100000000) (hl : p.length ≤ 100)
    (k : ∀ r, Tight r → r.length ≤ p.length → Szs (b + c) r → (∀ x, ev r x = ev p x * q) → Q (.tup (nums r)) g) : spScaled [.tup (nums p), num q] g Q X := ⟨p, q, b, c, rfl, hp, hq, hs, hl, k⟩
theorem range_mul (p : List Rat) (q : Rat) : (List.range p.length).map (fun k => coef p k * q) = p.map fun a => a * q := by
  refine List.ext_getElem? fun i => ?_
  rw [List.getElem?_map, List.getElem?_map]
  by_cases hi : i < p.length
  · rw [List.getElem?_range hi, coef_lt hi]; rfl
  · rw [List.getElem?_eq_none (by simp; omega), List.getElem?_eq_none (by omega)]; rfl
theorem pure_scaled (h13 : Γ 13 = spTimes) (h23 : Γ 23 = spCurveOf) (h : spScaled ds g Q E) : mnS Γ gl sx_scaled (endsOf Q E) (startD ns_scaled ds) g := by
  obtain ⟨p, q, b, c, rfl, hp, hq, hs, hl, h⟩ := h
  simp only [sx_scaled, h13, h23, mnS, dLamr, mn, Mn.of, Op.rd, Cm.rd, Bl.rd, Mt.rd, Mt.rc, dNop, dSeq, dExpr, dRet, dRetN, dIf, gD, dAsg, dPar, dPut, dRaise, dVar, dC, dBin, dUn, dNil, dCons, dTup, dLst, dTst, dAndT, dOrT, dNotT, dYes, dAnd, dOr, dNot, dChain, dCall, dCB, dMt, dLset, dSrev, dTry, dIsx, dEmp, dDic1, dStp, dFld, dMeth, dMake, dFset, dGin, dGix, dRep, dTryu, dTryn, conD, xsub, Ex.sub, dSlc, dPart, dNoPart, dIAny, dI1, dI2, dI3, dFor, dComp, compB, wipeD, startD, endsOf, at_mk, setAll, add_int, sub_int, mul_int, mul_tup, pow_int, mod_int, fdiv_int, lt_int, le_int, gt_int, ge_int, eq_int, neg_int, len_tup, len_scr, abs_int, max_int, min_int, int_int, int_bl, r1_int, r2_int, tuple_tup, list_tup, over_tup, rev_tup, enum_tup, zip_tup, slc_tup, add_tup, isi_any, ix_tup, ix_scr, ix_num0, ix_num1, len_num, num_0, num_1, atI_0, atI_1, atI_2, List.map, List.cons_append, List.nil_append, List.getElem?_cons_zero, List.getElem?_cons_succ, List.getElem?_nil, List.set_cons_zero, List.set_cons_succ, List.replicate, List.length_cons, List.length_nil, List.foldr_cons, List.foldr_nil, Nat.reduceAdd, Nat.reduceSub, List.replicate_succ, List.replicate_zero, G_up_same, decide_eq_true_eq, Bool.not_eq_true', Bool.false_eq_true, if_true, if_false, ite_true, ite_false, and_true, true_and, reduceCtorEq, Bool.not_true, Bool.not_false, Bool.false_bne, Bool.true_bne, sl0, sl1, sl2, sl3, sl4, nums_len]
  refine ⟨slN (by omega), fun s hs0 => ?_⟩
  refine comp_nums (fun k => coef p k * q) (fun _ => trivial) (fun k x acc N hk hlt hN => ?_) ?_
  · obtain ⟨a, ha, rfl⟩ := nums_at hk
    rw [coef_at ha] at hN
    simp only [mnS, dLamr, mn, Mn.of, Op.rd, Cm.rd, Bl.rd, Mt.rd, Mt.rc, dNop, dSeq, dExpr, dRet, dRetN, dIf, gD, dAsg, dPar, dPut, dRaise, dVar, dC, dBin, dUn, dNil, dCons, dTup, dLst, dTst, dAndT, dOrT, dNotT, dYes, dAnd, dOr, dNot, dChain, dCall, dCB, dMt, dLset, dSrev, dTry, dIsx, dEmp, dDic1, dStp, dFld, dMeth, dMake, dFset, dGin, dGix, dRep, dTryu, dTryn, conD, xsub, Ex.sub, dSlc, dPart, dNoPart, dIAny, dI1, dI2, dI3, dFor, dComp, compB, wipeD, startD, endsOf, at_mk, setAll, add_int, sub_int, mul_int, mul_tup, pow_int, mod_int, fdiv_int, lt_int, le_int, gt_int, ge_int, eq_int, neg_int, len_tup, len_scr, abs_int, max_int, min_int, int_int, int_bl, r1_int, r2_int, tuple_tup, list_tup, over_tup, rev_tup, enum_tup, zip_tup, slc_tup, add_tup, isi_any, ix_tup, ix_scr, ix_num0, ix_num1, len_num, num_0, num_1, atI_0, atI_1, atI_2, List.map, List.cons_append, List.nil_append, List.getElem?_cons_zero, List.getElem?_cons_succ, List.getElem?_nil, List.set_cons_zero, List.set_cons_succ, List.replicate, List.length_cons, List.length_nil, List.foldr_cons, List.foldr_nil, Nat.reduceAdd, Nat.reduceSub, List.replicate_succ, List.replicate_zero, G_up_same, decide_eq_true_eq, Bool.not_eq_true', Bool.false_eq_true, if_true, if_false, ite_true, ite_false, and_true, true_and, reduceCtorEq, Bool.not_true, Bool.not_false, Bool.false_bne, Bool.true_bne, sl0, sl1, sl2, sl3, sl4, c_bin]
    have := hp.at ha
    exact ⟨by omega, hN⟩
  · refine c_curveOf G_up_same ?_
    rw [nums_len, range_mul]
    refine ⟨g, G.le_new hs0, h _ (trim_tight _) (Nat.le_trans (trim_len _) (by simp)) (Szs.trim fun z hz => ?_) fun x => ?_⟩
    · obtain ⟨a, ha, rfl⟩ := List.mem_map.mp hz
      have := hp a ha
      exact Nat.le_trans (sz_mul _ _) (by omega)
    · rw [ev_trim, ev_map_mul]
def cb (m j i : Nat) : Nat := min j (i + 1) - (i + 1 - m)
theorem pure_multiplied (h11 : Γ 11 = spPlus) (h13 : Γ 13 = spTimes) (h23 : Γ 23 = spCurveOf) (hg : gl 0 = .tup [.int 0, .int 1]) (h : spMultiplied ds g Q E) : mnS Γ gl sx_multiplied (endsOf Q E) (startD ns_multiplied ds) g := by
  obtain ⟨p, q, b, c, rfl, hp, hq, hb, hc, hs, hl, hl2, h⟩ := h
  simp only [sx_multiplied, h11, h13, h23, hg, mnS, dLamr, mn, Mn.of, Op.rd, Cm.rd, Bl.rd, Mt.rd, Mt.rc, dNop, dSeq, dExpr, dRet, dRetN, dIf, gD, dAsg, dPar, dPut, dRaise, dVar, dC, dBin, dUn, dNil, dCons, dTup, dLst, dTst, dAndT, dOrT, dNotT, dYes, dAnd, dOr, dNot, dChain, dCall, dCB, dMt, dLset, dSrev, dTry, dIsx, dEmp, dDic1, dStp, dFld, dMeth, dMake, dFset, dGin, dGix, dRep, dTryu, dTryn, conD, xsub, Ex.sub, dSlc, dPart, dNoPart, dIAny, dI1, dI2, dI3, dFor, dComp, compB, wipeD, startD, endsOf, at_mk, setAll, add_int, sub_int, mul_int, mul_tup, pow_int, mod_int, fdiv_int, lt_int, le_int, gt_int, ge_int, eq_int, neg_int, len_tup, len_scr, abs_int, max_int, min_int, int_int, int_bl, r1_int, r2_int, tuple_tup, list_tup, over_tup, rev_tup, enum_tup, zip_tup, slc_tup, add_tup, isi_any, ix_tup, ix_scr, ix_num0, ix_num1, len_num, num_0, num_1, atI_0, atI_1, atI_2, List.map, List.cons_append, List.nil_append, List.getElem?_cons_zero, List.getElem?_cons_succ, List.getElem?_nil, List.set_cons_zero, List.set_cons_succ, List.replicate, List.length_cons, List.length_nil, List.foldr_cons, List.foldr_nil, Nat.reduceAdd, Nat.reduceSub, List.replicate_succ, List.replicate_zero, G_up_same, decide_eq_true_eq, Bool.not_eq_true', Bool.false_eq_true, if_true, if_false, ite_true, ite_false, and_true, true_and, reduceCtorEq, Bool.not_true, Bool.not_false, Bool.false_bne, Bool.true_bne, sl0, sl1, sl2, sl3, sl4, nums_len, tup_nil]
  refine eq_tup (fun e => ?_) fun e => ?_
  · subst e
    try simp only [mnS, dLamr, mn, Mn.of, Op.rd, Cm.rd, Bl.rd, Mt.rd, Mt.rc, dNop, dSeq, dExpr, dRet, dRetN, dIf, gD, dAsg, dPar, dPut, dRaise, dVar, dC, dBin, dUn, dNil, dCons, dTup, dLst, dTst, dAndT, dOrT, dNotT, dYes, dAnd, dOr, dNot, dChain, dCall, dCB, dMt, dLset, dSrev, dTry, dIsx, dEmp, dDic1, dStp, dFld, dMeth, dMake, dFset, dGin, dGix, dRep, dTryu, dTryn, conD, xsub, Ex.sub, dSlc, dPart, dNoPart, dIAny, dI1, dI2, dI3, dFor, dComp, compB, wipeD, startD, endsOf, at_mk, setAll, add_int, sub_int, mul_int, mul_tup, pow_int, mod_int, fdiv_int, lt_int, le_int, gt_int, ge_int, eq_int, neg_int, len_tup, len_scr, abs_int, max_int, min_int, int_int, int_bl, r1_int, r2_int, tuple_tup, list_tup, over_tup, rev_tup, enum_tup, zip_tup, slc_tup, add_tup, isi_any, ix_tup, ix_scr, ix_num0, ix_num1, len_num, num_0, num_1, atI_0, atI_1, atI_2, List.map, List.cons_append, List.nil_append, List.getElem?_cons_zero, List.getElem?_cons_succ, List.getElem?_nil, List.set_cons_zero, List.set_cons_succ, List.replicate, List.length_cons, List.length_nil, List.foldr_cons, List.foldr_nil, Nat.reduceAdd, Nat.reduceSub, List.replicate_succ, List.replicate_zero, G_up_same, decide_eq_true_eq, Bool.not_eq_true', Bool.false_eq_true, if_true, if_false, ite_true, ite_false, and_true, true_and, reduceCtorEq, Bool.not_true, Bool.not_false, Bool.false_bne, Bool.true_bne, sl0, sl1, sl2, sl3, sl4]
    exact ⟨_, G.le_refl _, h [] tight_nil (Nat.zero_le _) .nil fun x => by rw [ev_nil]; grind⟩
  simp only [mnS, dLamr, mn, Mn.of, Op.rd, Cm.rd, Bl.rd, Mt.rd, Mt.rc, dNop, dSeq, dExpr, dRet, dRetN, dIf, gD, dAsg, dPar, dPut, dRaise, dVar, dC, dBin, dUn, dNil, dCons, dTup, dLst, dTst, dAndT, dOrT, dNotT, dYes, dAnd, dOr, dNot, dChain, dCall, dCB, dMt, dLset, dSrev, dTry, dIsx, dEmp, dDic1, dStp, dFld, dMeth, dMake, dFset, dGin, dGix, dRep, dTryu, dTryn, conD, xsub, Ex.sub, dSlc, dPart, dNoPart, dIAny, dI1, dI2, dI3, dFor, dComp, compB, wipeD, startD, endsOf, at_mk, setAll, add_int, sub_int, mul_int, mul_tup, pow_int, mod_int, fdiv_int, lt_int, le_int, gt_int, ge_int, eq_int, neg_int, len_tup, len_scr, abs_int, max_int, min_int, int_int, int_bl, r1_int, r2_int, tuple_tup, list_tup, over_tup, rev_tup, enum_tup, zip_tup, slc_tup, add_tup, isi_any, ix_tup, ix_scr, ix_num0, ix_num1, len_num, num_0, num_1, atI_0, atI_1, atI_2, List.map, List.cons_append, List.nil_append, List.getElem?_cons_zero, List.getElem?_cons_succ, List.getElem?_nil, List.set_cons_zero, List.set_cons_succ, List.replicate, List.length_cons, List.length_nil, List.foldr_cons, List.foldr_nil, Nat.reduceAdd, Nat.reduceSub, List.replicate_succ, List.replicate_zero, G_up_same, decide_eq_true_eq, Bool.not_eq_true', Bool.false_eq_true, if_true, if_false, ite_true, ite_false, and_true, true_and, reduceCtorEq, Bool.not_true, Bool.not_false, Bool.false_bne, Bool.true_bne, sl0, sl1, sl2, sl3, sl4, nums_len]
  refine eq_tup (fun e2 => ?_) fun e2 => ?_
  · subst e2
    try simp only [mnS, dLamr, mn, Mn.of, Op.rd, Cm.rd, Bl.rd, Mt.rd, Mt.rc, dNop, dSeq, dExpr, dRet, dRetN, dIf, gD, dAsg, dPar, dPut, dRaise, dVar, dC, dBin, dUn, dNil, dCons, dTup, dLst, dTst, dAndT, dOrT, dNotT, dYes, dAnd, dOr, dNot, dChain, dCall, dCB, dMt, dLset, dSrev, dTry, dIsx, dEmp, dDic1, dStp, dFld, dMeth, dMake, dFset, dGin, dGix, dRep, dTryu, dTryn, conD, xsub, Ex.sub, dSlc, dPart, dNoPart, dIAny, dI1, dI2, dI3, dFor, dComp, compB, wipeD, startD, endsOf, at_mk, setAll, add_int, sub_int, mul_int, mul_tup, pow_int, mod_int, fdiv_int, lt_int, le_int, gt_int, ge_int, eq_int, neg_int, len_tup, len_scr, abs_int, max_int, min_int, int_int, int_bl, r1_int, r2_int, tuple_tup, list_tup, over_tup, rev_tup, enum_tup, zip_tup, slc_tup, add_tup, isi_any, ix_tup, ix_scr, ix_num0, ix_num1, len_num, num_0, num_1, atI_0, atI_1, atI_2, List.map, List.cons_append, List.nil_append, List.getElem?_cons_zero, List.getElem?_cons_succ, List.getElem?_nil, List.set_cons_zero, List.set_cons_succ, List.replicate, List.length_cons, List.length_nil, List.foldr_cons, List.foldr_nil, Nat.reduceAdd, Nat.reduceSub, List.replicate_succ, List.replicate_zero, G_up_same, decide_eq_true_eq, Bool.not_eq_true', Bool.false_eq_true, if_true, if_false, ite_true, ite_false, and_true, true_and, reduceCtorEq, Bool.not_true, Bool.not_false, Bool.false_bne, Bool.true_bne, sl0, sl1, sl2, sl3, sl4]
    exact ⟨_, G.le_refl _, h [] tight_nil (Nat.zero_le _) .nil fun x => by rw [ev_nil]; grind⟩
  have hn : 0 < p.length := List.length_pos_iff.mpr e
  have hm : 0 < q.length := List.length_pos_iff.mpr e2
  simp only [mnS, dLamr, mn, Mn.of, Op.rd, Cm.rd, Bl.rd, Mt.rd, Mt.rc, dNop, dSeq, dExpr, dRet, dRetN, dIf, gD, dAsg, dPar, dPut, dRaise, dVar, dC, dBin, dUn, dNil, dCons, dTup, dLst, dTst, dAndT, dOrT, dNotT, dYes, dAnd, dOr, dNot, dChain, dCall, dCB, dMt, dLset, dSrev, dTry, dIsx, dEmp, dDic1, dStp, dFld, dMeth, dMake, dFset, dGin, dGix, dRep, dTryu, dTryn, conD, xsub, Ex.sub, dSlc, dPart, dNoPart, dIAny, dI1, dI2, dI3, dFor, dComp, compB, wipeD, startD, endsOf, at_mk, setAll, add_int, sub_int, mul_int, mul_tup, pow_int, mod_int, fdiv_int, lt_int, le_int, gt_int, ge_int, eq_int, neg_int, len_tup, len_scr, abs_int, max_int, min_int, int_int, int_bl, r1_int, r2_int, tuple_tup, list_tup, over_tup, rev_tup, enum_tup, zip_tup, slc_tup, add_tup, isi_any, ix_tup, ix_scr, ix_num0, ix_num1, len_num, num_0, num_1, atI_0, atI_1, atI_2, List.map, List.cons_append, List.nil_append, List.getElem?_cons_zero, List.getElem?_cons_succ, List.getElem?_nil, List.set_cons_zero, List.set_cons_succ, List.replicate, List.length_cons, List.length_nil, List.foldr_cons, List.foldr_nil, Nat.reduceAdd, Nat.reduceSub, List.replicate_succ, List.replicate_zero, G_up_same, decide_eq_true_eq, Bool.not_eq_true', Bool.false_eq_true, if_true, if_false, ite_true, ite_false, and_true, true_and, reduceCtorEq, Bool.not_true, Bool.not_false, Bool.false_bne, Bool.true_bne, sl0, sl1, sl2, sl3, sl4, nums_len, range_len]
  refine ⟨by omega, slN (by omega), fun s hs0 => ?_⟩
  refine comp_nums (fun k => 0) (fun _ => trivial) (fun k x acc N hk hlt hN => ?_) ?_
  · simp only [mnS, dLamr, mn, Mn.of, Op.rd, Cm.rd, Bl.rd, Mt.rd, Mt.rc, dNop, dSeq, dExpr, dRet, dRetN, dIf, gD, dAsg, dPar, dPut, dRaise, dVar, dC, dBin, dUn, dNil, dCons, dTup, dLst, dTst, dAndT, dOrT, dNotT, dYes, dAnd, dOr, dNot, dChain, dCall, dCB, dMt, dLset, dSrev, dTry, dIsx, dEmp, dDic1, dStp, dFld, dMeth, dMake, dFset, dGin, dGix, dRep, dTryu, dTryn, conD, xsub, Ex.sub, dSlc, dPart, dNoPart, dIAny, dI1, dI2, dI3, dFor, dComp, compB, wipeD, startD, endsOf, at_mk, setAll, add_int, sub_int, mul_int, mul_tup, pow_int, mod_int, fdiv_int, lt_int, le_int, gt_int, ge_int, eq_int, neg_int, len_tup, len_scr, abs_int, max_int, min_int, int_int, int_bl, r1_int, r2_int, tuple_tup, list_tup, over_tup, rev_tup, enum_tup, zip_tup, slc_tup, add_tup, isi_any, ix_tup, ix_scr, ix_num0, ix_num1, len_num, num_0, num_1, atI_0, atI_1, atI_2, List.map, List.cons_append, List.nil_append, List.getElem?_cons_zero, List.getElem?_cons_succ, List.getElem?_nil, List.set_cons_zero, List.set_cons_succ, List.replicate, List.length_cons, List.length_nil, List.foldr_cons, List.foldr_nil, Nat.reduceAdd, Nat.reduceSub, List.replicate_succ, List.replicate_zero, G_up_same, decide_eq_true_eq, Bool.not_eq_true', Bool.false_eq_true, if_true, if_false, ite_true, ite_false, and_true, true_and, reduceCtorEq, Bool.not_true, Bool.not_false, Bool.false_bne, Bool.true_bne, sl0, sl1, sl2, sl3, sl4]; exact hN
  rw [range_len, show ((p.length : Int) + (q.length : Int) - 1).toNat = p.length + q.length - 1 by omega]
  have hmin : min p.length q.length * (b + c + 1) + 1 ≤ 100000000 := hs
  have hB : b + c + 1 ≤ min p.length q.length * (b + c + 1) := Nat.le_mul_of_pos_left _ (by omega)
  refine for_inv (fun j env g' => ∃ f o3 o4 o5 o6, env = [some (.tup (nums p)), some (.tup (nums q)), some (.ref s), o3, o4, o5, o6] ∧ g' = g.up s (nums f) ∧ f.length = p.length + q.length - 1 ∧ (∀ x, ev f x = ev (p.take j) x * ev q x) ∧ j ≤ p.length ∧
      ∀ i v, f[i]? = some v → ∃ t, sz v ≤ t * (b + c + 1) + 1 ∧ t ≤ cb q.length j i) (fun _ _ _ _ => trivial) ?_ ?_
      ⟨(List.range (p.length + q.length - 1)).map fun _ => 0, none, none, none, none, rfl, rfl, by simp, fun x => by rw [List.take_zero, ev_nil, range_zeros, ev_zeros]; grind, Nat.zero_le _, fun i v hv => ⟨0, by
        rw [List.getElem?_map] at hv
        cases z : (List.range (p.length + q.length - 1))[i]? with
        | none => rw [z] at hv; cases hv
        | some w => rw [z] at hv; cases hv; rw [sz_0]; omega, Nat.zero_le _⟩⟩
  · rintro j x env g' N hk ⟨f, o3, o4, o5, o6, rfl, rfl, hf, hev, hj, hsz⟩ hN
    obtain ⟨a, ha, rfl⟩ := enum_at hk
    have hja : j < p.length := by
      rcases Nat.lt_or_ge j p.length with z | z
      · exact z
      · rw [List.getElem?_eq_none z] at ha; cases ha
    have hsa := hp.at ha
    try simp only [mnS, dLamr, mn, Mn.of, Op.rd, Cm.rd, Bl.rd, Mt.rd, Mt.rc, dNop, dSeq, dExpr, dRet, dRetN, dIf, gD, dAsg, dPar, dPut, dRaise, dVar, dC, dBin, dUn, dNil, dCons, dTup, dLst, dTst, dAndT, dOrT, dNotT, dYes, dAnd, dOr, dNot, dChain, dCall, dCB, dMt, dLset, dSrev, dTry, dIsx, dEmp, dDic1, dStp, dFld, dMeth, dMake, dFset, dGin, dGix, dRep, dTryu, dTryn, conD, xsub, Ex.sub, dSlc, dPart, dNoPart, dIAny, dI1, dI2, dI3, dFor, dComp, compB, wipeD, startD, endsOf, at_mk, setAll, add_int, sub_int, mul_int, mul_tup, pow_int, mod_int, fdiv_int, lt_int, le_int, gt_int, ge_int, eq_int, neg_int, len_tup, len_scr, abs_int, max_int, min_int, int_int, int_bl, r1_int, r2_int, tuple_tup, list_tup, over_tup, rev_tup, enum_tup, zip_tup, slc_tup, add_tup, isi_any, ix_tup, ix_scr, ix_num0, ix_num1, len_num, num_0, num_1, atI_0, atI_1, atI_2, List.map, List.cons_append, List.nil_append, List.getElem?_cons_zero, List.getElem?_cons_succ, List.getElem?_nil, List.set_cons_zero, List.set_cons_succ, List.replicate, List.length_cons, List.length_nil, List.foldr_cons, List.foldr_nil, Nat.reduceAdd, Nat.reduceSub, List.replicate_succ, List.replicate_zero, G_up_same, decide_eq_true_eq, Bool.not_eq_true', Bool.false_eq_true, if_true, if_false, ite_true, ite_false, and_true, true_and, reduceCtorEq, Bool.not_true, Bool.not_false, Bool.false_bne, Bool.true_bne, sl0, sl1, sl2, sl3, sl4]
    refine for_inv (fun k env g' => ∃ f o5 o6, env = [some (.tup (nums p)), some (.tup (nums q)), some (.ref s), some (.int j), some (num a), o5, o6] ∧ g' = g.up s (nums f) ∧ f.length = p.length + q.length - 1 ∧ (∀ x, ev f x = ev (p.take j) x * ev q x + a * x ^ j * ev (q.take k) x) ∧ k ≤ q.length ∧
      ∀ i v, f[i]? = some v → ∃ t, sz v ≤ t * (b + c + 1) + 1 ∧ t ≤ if i < j + k then cb q.length (j + 1) i else cb q.length j i) (fun _ _ _ _ => trivial) ?_ ?_
      ⟨f, o5, o6, rfl, rfl, hf, fun x => by rw [hev x, List.take_zero, ev_nil]; grind, Nat.zero_le _, fun i v hv => by
        obtain ⟨t, h1, h2⟩ := hsz i v hv
        refine ⟨t, h1, ?_⟩
        unfold cb at *
        split <;> omega⟩
    · rintro k y env g' M hk2 ⟨f, o5, o6, rfl, rfl, hf, hev, hk3, hsz⟩ hM
      obtain ⟨a2, ha2, rfl⟩ := enum_at hk2
      have hka : k < q.length := by
        rcases Nat.lt_or_ge k q.length with z | z
        · exact z
        · rw [List.getElem?_eq_none z] at ha2; cases ha2
      have hsa2 := hq.at ha2
      have hjk : j + k < f.length := by omega
      obtain ⟨t, ht1, ht2⟩ := hsz (j + k) _ (coef_lt hjk)
      rw [if_neg (by omega)] at ht2
      have htm : t + 1 ≤ min p.length q.length := by unfold cb at ht2; omega
      have htB : (t + 1) * (b + c + 1) ≤ min p.length q.length * (b + c + 1) := Nat.mul_le_mul_right _ htm
      have htB2 : (t + 1) * (b + c + 1) = t * (b + c + 1) + (b + c + 1) := Nat.succ_mul ..
      have hmul := sz_mul a a2
      have hadd := sz_add (coef f (j + k)) (a * a2)
      have ejk : (j : Int) + (k : Int) = ((j + k : Nat) : Int) := by omega
      simp only [mnS, dLamr, mn, Mn.of, Op.rd, Cm.rd, Bl.rd, Mt.rd, Mt.rc, dNop, dSeq, dExpr, dRet, dRetN, dIf, gD, dAsg, dPar, dPut, dRaise, dVar, dC, dBin, dUn, dNil, dCons, dTup, dLst, dTst, dAndT, dOrT, dNotT, dYes, dAnd, dOr, dNot, dChain, dCall, dCB, dMt, dLset, dSrev, dTry, dIsx, dEmp, dDic1, dStp, dFld, dMeth, dMake, dFset, dGin, dGix, dRep, dTryu, dTryn, conD, xsub, Ex.sub, dSlc, dPart, dNoPart, dIAny, dI1, dI2, dI3, dFor, dComp, compB, wipeD, startD, endsOf, at_mk, setAll, add_int, sub_int, mul_int, mul_tup, pow_int, mod_int, fdiv_int, lt_int, le_int, gt_int, ge_int, eq_int, neg_int, len_tup, len_scr, abs_int, max_int, min_int, int_int, int_bl, r1_int, r2_int, tuple_tup, list_tup, over_tup, rev_tup, enum_tup, zip_tup, slc_tup, add_tup, isi_any, ix_tup, ix_scr, ix_num0, ix_num1, len_num, num_0, num_1, atI_0, atI_1, atI_2, List.map, List.cons_append, List.nil_append, List.getElem?_cons_zero, List.getElem?_cons_succ, List.getElem?_nil, List.set_cons_zero, List.set_cons_succ, List.replicate, List.length_cons, List.length_nil, List.foldr_cons, List.foldr_nil, Nat.reduceAdd, Nat.reduceSub, List.replicate_succ, List.replicate_zero, G_up_same, decide_eq_true_eq, Bool.not_eq_true', Bool.false_eq_true, if_true, if_false, ite_true, ite_false, and_true, true_and, reduceCtorEq, Bool.not_true, Bool.not_false, Bool.false_bne, Bool.true_bne, sl0, sl1, sl2, sl3, sl4, ejk]
      rw [ix_ref G_up_same, atI_nums rfl (coef_lt hjk)]
      simp only [c_bin]
      refine ⟨by omega, by omega, ?_⟩
      rw [set_ref G_up_same, nums_len, ixN_at rfl hjk]
      simp only [nums_set, G_up_up]
      refine hM _ _ ⟨_, _, _, rfl, rfl, by rw [List.length_set]; exact hf, fun x => ?_, hka, fun i v hv => ?_⟩
      · have ht : q.take (k + 1) = q.take k ++ [a2] := by
          rw [List.take_succ_eq_append_getElem hka]
          rw [List.getElem?_eq_getElem hka] at ha2
          cases ha2
          rfl
        rw [ev_set _ _ _ _ hjk, hev x, ht, ev_snoc, List.length_take, Nat.min_eq_left (by omega), pow_add']
        grind
      · rw [List.getElem?_set] at hv
        split at hv
        · rename_i hi
          cases hv
          refine ⟨t + 1, by omega, ?_⟩
          rw [if_pos (by omega)]
          unfold cb at *
          omega
        · rename_i hi
          obtain ⟨t', h1, h2⟩ := hsz i v hv
          refine ⟨t', h1, ?_⟩
          by_cases hlt : i < j + k
          · rw [if_pos hlt] at h2; rw [if_pos (by omega)]; exact h2
          · rw [if_neg hlt] at h2; rw [if_neg (by omega)]; exact h2
    · rintro env g' ⟨f, o5, o6, rfl, rfl, hf, hev, -, hsz⟩
      rw [enum_len, nums_len] at hev hsz
      refine hN _ _ ⟨f, _, _, _, _, rfl, rfl, hf, fun x => ?_, hja, fun i v hv => ?_⟩
      · have ht : p.take (j + 1) = p.take j ++ [a] := by
          rw [List.take_succ_eq_append_getElem hja]
          rw [List.getElem?_eq_getElem hja] at ha
          cases ha
          rfl
        rw [hev x, ht, ev_snoc, List.length_take, Nat.min_eq_left (by omega), List.take_length]
        grind
      · obtain ⟨t', h1, h2⟩ := hsz i v hv
        refine ⟨t', h1, Nat.le_trans h2 ?_⟩
        unfold cb
        split <;> omega
  · rintro env g' ⟨f, o3, o4, o5, o6, rfl, rfl, hf, hev, -, hsz⟩
    try simp only [mnS, dLamr, mn, Mn.of, Op.rd, Cm.rd, Bl.rd, Mt.rd, Mt.rc, dNop, dSeq, dExpr, dRet, dRetN, dIf, gD, dAsg, dPar, dPut, dRaise, dVar, dC, dBin, dUn, dNil, dCons, dTup, dLst, dTst, dAndT, dOrT, dNotT, dYes, dAnd, dOr, dNot, dChain, dCall, dCB, dMt, dLset, dSrev, dTry, dIsx, dEmp, dDic1, dStp, dFld, dMeth, dMake, dFset, dGin, dGix, dRep, dTryu, dTryn, conD, xsub, Ex.sub, dSlc, dPart, dNoPart, dIAny, dI1, dI2, dI3, dFor, dComp, compB, wipeD, startD, endsOf, at_mk, setAll, add_int, sub_int, mul_int, mul_tup, pow_int, mod_int, fdiv_int, lt_int, le_int, gt_int, ge_int, eq_int, neg_int, len_tup, len_scr, abs_int, max_int, min_int, int_int, int_bl, r1_int, r2_int, tuple_tup, list_tup, over_tup, rev_tup, enum_tup, zip_tup, slc_tup, add_tup, isi_any, ix_tup, ix_scr, ix_num0, ix_num1, len_num, num_0, num_1, atI_0, atI_1, atI_2, List.map, List.cons_append, List.nil_append, List.getElem?_cons_zero, List.getElem?_cons_succ, List.getElem?_nil, List.set_cons_zero, List.set_cons_succ, List.replicate, List.length_cons, List.length_nil, List.foldr_cons, List.foldr_nil, Nat.reduceAdd, Nat.reduceSub, List.replicate_succ, List.replicate_zero, G_up_same, decide_eq_true_eq, Bool.not_eq_true', Bool.false_eq_true, if_true, if_false, ite_true, ite_false, and_true, true_and, reduceCtorEq, Bool.not_true, Bool.not_false, Bool.false_bne, Bool.true_bne, sl0, sl1, sl2, sl3, sl4]
    refine c_curveOf G_up_same ?_
    rw [enum_len, nums_len] at hev hsz
    refine ⟨g, G.le_new hs0, h _ (trim_tight _) (Nat.le_trans (trim_len _) (show _ ≤ p.length + q.length - 1 by omega)) (Szs.trim fun v hv => ?_) fun x => by rw [ev_trim, hev x, List.take_length]⟩
    obtain ⟨i, hi⟩ := List.mem_iff_getElem?.mp hv
    obtain ⟨t, h1, h2⟩ := hsz i v hi
    have ht : t ≤ min p.length q.length := by unfold cb at h2; omega
    have := Nat.mul_le_mul_right (b + c + 1) ht
    show sz v ≤ min p.length q.length * (b + c + 1) + 1
    omega
end
end PP
namespace PP
open PySem PySem.Spec PyProof.Rows L2
def sx_law_curve : SX :=
  (.asg (.n 2) (.comp [3] (.n 3) (.range1 (.call 4 (.cons (.v 0) (.cons (.bin .add (.v 1) (.int 1)) .nil)))) .yes (.call 36 (.cons (.v 0) .nil)))
  (.whl (.and (.cmp .ne (.v 2) (.lst .nil)) (.cmp .eq (.ix (.v 2) (.neg (.int 1))) (.tup (.cons (.int 0) (.cons (.int 1) .nil)))))
    (.expr (.mt .pop (.v 2) .nil) .nil)
  (.ret (.blt .tuple (.cons (.v 2) .nil)) .nil)))
abbrev ns_law_curve : List Str := ["_law_pen_here", "_law_most", "_law_some", "_law_k"]
section
variable {Γ : Nat → SpD} {gl : Nat → D} {ds : List D} {g : G} {Q : QD} {E X : XD}
def spCurveDrawn : SpD := fun ds g Q _ => ∃ (a : Addr) (xs : List D) (n m : Nat), ds = [.ref a, .int (m : Int)] ∧ m ≤ 40 ∧ g a = some xs ∧ PenL xs n ∧ n + 200 < 2 ^ 50 ∧
  ∀ c xs', Tight c → c.length ≤ m → Szs 16 c → PenL xs' (n + 200) → Q (.tup (nums c)) (g.up a xs')
theorem K_curve {o : G} {a : Addr} {xs : List D} {n : Nat} {L : List (Addr × List D)} {i : Int} (m : Nat) (hi : i = (m : Int)) (K : KN o a g ((a, xs) :: L)) (hm : m ≤ 40) (hp : PenL xs n) (hn : n + 200 < 2 ^ 50)
    (k : ∀ c xs' g', Tight c → c.length ≤ m → Szs 16 c → PenL xs' (n + 200) → KN o a g' ((a, xs') :: L) → Q (.tup (nums c)) g') : spCurveDrawn [.ref a, .int i] g Q X :=
  ⟨a, xs, n, m, by rw [hi], hm, K.get 0 _ _ rfl, hp, hn, fun c xs' h1 h2 h3 h4 => k c xs' _ h1 h2 h3 h4 (K.put 0 rfl)⟩
theorem pure_law_curve (h4 : Γ 4 = spDraw) (h36 : Γ 36 = spPenFn (isNumD 16) 4) (h : spCurveDrawn ds g Q E) : mnS Γ gl sx_law_curve (endsOf Q E) (startD ns_law_curve ds) g := by
  obtain ⟨a, xs, n, m, rfl, hm, ha, hp, hn, h⟩ := h
  have K : KN g a g [(a, xs)] := KN.start ha
  simp only [↓mnS_trim, sx_law_curve, h4, h36, mnS, dLamr, mn, Mn.of, Op.rd, Cm.rd, Bl.rd, Mt.rd, Mt.rc, dNop, dSeq, dExpr, dRet, dRetN, dIf, gD, dAsg, dPar, dPut, dRaise, dVar, dC, dBin, dUn, dNil, dCons, dTup, dLst, dTst, dAndT, dOrT, dNotT, dYes, dAnd, dOr, dNot, dChain, dCall, dCB, dMt, dLset, dSrev, dTry, dIsx, dEmp, dDic1, dStp, dFld, dMeth, dMake, dFset, dGin, dGix, dRep, dTryu, dTryn, conD, xsub, Ex.sub, dSlc, dPart, dNoPart, dIAny, dI1, dI2, dI3, dFor, dComp, compB, wipeD, startD, endsOf, at_mk, setAll, add_int, sub_int, mul_int, mul_tup, pow_int, mod_int, fdiv_int, lt_int, le_int, gt_int, ge_int, eq_int, neg_int, len_tup, len_scr, abs_int, max_int, min_int, int_int, int_bl, r1_int, r2_int, tuple_tup, list_tup, over_tup, rev_tup, enum_tup, zip_tup, slc_tup, add_tup, isi_any, ix_tup, ix_scr, ix_num0, ix_num1, len_num, num_0, num_1, atI_0, atI_1, atI_2, List.map, List.cons_append, List.nil_append, List.getElem?_cons_zero, List.getElem?_cons_succ, List.getElem?_nil, List.set_cons_zero, List.set_cons_succ, List.replicate, List.length_cons, List.length_nil, List.foldr_cons, List.foldr_nil, Nat.reduceAdd, Nat.reduceSub, List.replicate_succ, List.replicate_zero, G_up_same, decide_eq_true_eq, Bool.not_eq_true', Bool.false_eq_true, if_true, if_false, ite_true, ite_false, and_true, true_and, reduceCtorEq, Bool.not_true, Bool.not_false, Bool.false_bne, Bool.true_bne, sl0, sl1, sl2, sl3, sl4]
  refine K_draw K (by omega) hp (by omega) fun d xs1 g1 hd p1 K => ?_
  simp only [mnS, dLamr, mn, Mn.of, Op.rd, Cm.rd, Bl.rd, Mt.rd, Mt.rc, dNop, dSeq, dExpr, dRet, dRetN, dIf, gD, dAsg, dPar, dPut, dRaise, dVar, dC, dBin, dUn, dNil, dCons, dTup, dLst, dTst, dAndT, dOrT, dNotT, dYes, dAnd, dOr, dNot, dChain, dCall, dCB, dMt, dLset, dSrev, dTry, dIsx, dEmp, dDic1, dStp, dFld, dMeth, dMake, dFset, dGin, dGix, dRep, dTryu, dTryn, conD, xsub, Ex.sub, dSlc, dPart, dNoPart, dIAny, dI1, dI2, dI3, dFor, dComp, compB, wipeD, startD, endsOf, at_mk, setAll, add_int, sub_int, mul_int, mul_tup, pow_int, mod_int, fdiv_int, lt_int, le_int, gt_int, ge_int, eq_int, neg_int, len_tup, len_scr, abs_int, max_int, min_int, int_int, int_bl, r1_int, r2_int, tuple_tup, list_tup, over_tup, rev_tup, enum_tup, zip_tup, slc_tup, add_tup, isi_any, ix_tup, ix_scr, ix_num0, ix_num1, len_num, num_0, num_1, atI_0, atI_1, atI_2, List.map, List.cons_append, List.nil_append, List.getElem?_cons_zero, List.getElem?_cons_succ, List.getElem?_nil, List.set_cons_zero, List.set_cons_succ, List.replicate, List.length_cons, List.length_nil, List.foldr_cons, List.foldr_nil, Nat.reduceAdd, Nat.reduceSub, List.replicate_succ, List.replicate_zero, G_up_same, decide_eq_true_eq, Bool.not_eq_true', Bool.false_eq_true, if_true, if_false, ite_true, ite_false, and_true, true_and, reduceCtorEq, Bool.not_true, Bool.not_false, Bool.false_bne, Bool.true_bne, sl0, sl1, sl2, sl3, sl4, range_len]
  refine ⟨by omega, slN (by omega), fun s hs => ?_⟩
  refine K_comp K rfl (by decide) hs p1 (by omega) fun ys xs2 g2 hy1 hy2 p2 K => ?_
  obtain ⟨qs, rfl, hqs⟩ := nums_of hy2
  rw [nums_len] at hy1
  refine trim_ok rfl (K.get 1 _ _ rfl) fun g3 hl => ?_
  have K := (K.put (ys := nums (trim qs)) 1 rfl).le hl
  simp only [mnS, dLamr, mn, Mn.of, Op.rd, Cm.rd, Bl.rd, Mt.rd, Mt.rc, dNop, dSeq, dExpr, dRet, dRetN, dIf, gD, dAsg, dPar, dPut, dRaise, dVar, dC, dBin, dUn, dNil, dCons, dTup, dLst, dTst, dAndT, dOrT, dNotT, dYes, dAnd, dOr, dNot, dChain, dCall, dCB, dMt, dLset, dSrev, dTry, dIsx, dEmp, dDic1, dStp, dFld, dMeth, dMake, dFset, dGin, dGix, dRep, dTryu, dTryn, conD, xsub, Ex.sub, dSlc, dPart, dNoPart, dIAny, dI1, dI2, dI3, dFor, dComp, compB, wipeD, startD, endsOf, at_mk, setAll, add_int, sub_int, mul_int, mul_tup, pow_int, mod_int, fdiv_int, lt_int, le_int, gt_int, ge_int, eq_int, neg_int, len_tup, len_scr, abs_int, max_int, min_int, int_int, int_bl, r1_int, r2_int, tuple_tup, list_tup, over_tup, rev_tup, enum_tup, zip_tup, slc_tup, add_tup, isi_any, ix_tup, ix_scr, ix_num0, ix_num1, len_num, num_0, num_1, atI_0, atI_1, atI_2, List.map, List.cons_append, List.nil_append, List.getElem?_cons_zero, List.getElem?_cons_succ, List.getElem?_nil, List.set_cons_zero, List.set_cons_succ, List.replicate, List.length_cons, List.length_nil, List.foldr_cons, List.foldr_nil, Nat.reduceAdd, Nat.reduceSub, List.replicate_succ, List.replicate_zero, G_up_same, decide_eq_true_eq, Bool.not_eq_true', Bool.false_eq_true, if_true, if_false, ite_true, ite_false, and_true, true_and, reduceCtorEq, Bool.not_true, Bool.not_false, Bool.false_bne, Bool.true_bne, sl0, sl1, sl2, sl3, sl4, tuple_ref (K.get 1 _ _ rfl)]
  exact ⟨_, K.fin0 0 rfl, h _ _ (trim_tight _) (Nat.le_trans (trim_len _) (by omega)) hqs.trim (p2.mono (by omega))⟩
end
end PP
namespace PP
open PySem PySem.Spec PyProof.Rows L2
theorem lt_of_at {α : Type} {xs : List α} {k : Nat} {x : α} (h : xs[k]? = some x) : k < xs.length := by
  rcases Nat.lt_or_ge k xs.length with z | z
  · exact z
  · rw [List.getElem?_eq_none z] at h; cases h
def SzG (c : Nat) (ss : List Rat) : Prop := ∀ k s, ss[k]? = some s → sz s ≤ 2 ^ k * c
theorem Szs.grow {c : Nat} {ss : List Rat} (h : Szs c ss) : SzG c ss := fun k s e => Nat.le_trans (h.at e) (Nat.le_mul_of_pos_left _ (Nat.two_pow_pos k))
end PP
namespace PP
open PySem PySem.Spec PyProof.Rows L2
structure Pt where
  x : Rat
  h : Rat
  s : Option Rat
def Pt.w (p : Pt) : Nat := match p.s with
  | none => 1
  | some _ => 2
def PtSz (b : Nat) (ps : List Pt) : Prop := ∀ p ∈ ps, sz p.x ≤ b ∧ sz p.h ≤ b ∧ ∀ s, p.s = some s → sz s ≤ b
theorem PtSz.snoc {b : Nat} {ps : List Pt} {p : Pt} (h : PtSz b ps) (hx : sz p.x ≤ b) (hh : sz p.h ≤ b) (hs : ∀ s, p.s = some s → sz s ≤ b) : PtSz b (ps ++ [p]) := fun q hq => by
  rcases List.mem_append.mp hq with hq | hq
  · exact h q hq
  · rw [List.mem_singleton.mp hq]; exact ⟨hx, hh, hs⟩
end PP
namespace PP
open PySem PySem.Spec PyProof.Rows L2
abbrev Told : Type := Rat × Nat × Rat
def tellP (p : Pt) : List Told := match p.s with
  | none => [(p.x, 0, p.h)]
  | some s => [(p.x, 0, p.h), (p.x, 1, s)]
def tells : List Pt → List Told
  | [] => []
  | p :: ps => tellP p ++ tells ps
theorem SeqD.lea {g g' : G} {a : Addr} {d : D} {xs : List D} (h : SeqD g d xs) (l : G.lea a g g') (ha : g a = none) : SeqD g' d xs := by
  rcases h with rfl | ⟨b, rfl, h⟩
  · exact .tup
  · exact .ref (l b xs (fun e => by rw [e, ha] at h; cases h) h)
end PP
namespace PP
open PySem PySem.Spec PyProof.Rows L2
end PP
namespace PP
open PySem PySem.Spec PyProof.Rows L2
def tx (ts : List Told) (i : Nat) : Rat := (ts.getD i (0, 0, 0)).1
def tk (ts : List Told) (i : Nat) : Nat := (ts.getD i (0, 0, 0)).2.1
def tv (ts : List Told) (i : Nat) : Rat := (ts.getD i (0, 0, 0)).2.2
def hAt (ts : List Told) : Nat → Rat
  | 0 => tv ts 0
  | i + 1 => if tk ts (i + 1) = 0 then tv ts (i + 1) else hAt ts i
def tabT (ts : List Told) : Nat → Nat → Rat
  | 0, i => hAt ts i
  | k + 1, i => if tx ts (i + (k + 1)) = tx ts i then tv ts (i + (k + 1)) else (tabT ts k (i + 1) - tabT ts k i) / (tx ts (i + (k + 1)) - tx ts i)
def rowT (ts : List Told) (k : Nat) : List Rat := (List.range (ts.length - k)).map (tabT ts k)
def TSz (b : Nat) (ts : List Told) : Prop := ∀ t ∈ ts, sz t.1 ≤ b ∧ sz t.2.2 ≤ b
theorem TSz.tx {b : Nat} {ts : List Told} (h : TSz b ts) {i : Nat} (hi : i < ts.length) : sz (PP.tx ts i) ≤ b ∧ sz (tv ts i) ≤ b := by
  unfold PP.tx tv
  rw [List.getD_eq_getElem?_getD, List.getElem?_eq_getElem hi]
  exact h _ (List.getElem_mem hi)
end PP
namespace PP
open PySem PySem.Spec PyProof.Rows L2
end PP
namespace PP
open PySem PySem.Spec PyProof.Rows L2
structure TG (ts : List Told) : Prop where
  near : ∀ i j, i < j → j < ts.length → tx ts i = tx ts j → j = i + 1 ∧ tk ts j ≠ 0
  back : ∀ i, i < ts.length → tk ts i ≠ 0 → ∃ j, i = j + 1 ∧ tx ts j = tx ts i ∧ tk ts j = 0
theorem TG.nil : TG [] := ⟨fun i j _ h => (by cases h), fun i h => (by cases h)⟩
section
variable {ts : List Told}
def pr (ts : List Told) (i : Nat) : Nat → Rat → Rat
  | 0, _ => 1
  | k + 1, x => pr ts i k x * (x - tx ts (i + k))
def Sl (f : Rat → Rat) (a s : Rat) : Prop := ∃ c, ∀ x, f x = f a + s * (x - a) + (x - a) * (x - a) * ev c x
theorem Sl.plus {f g : Rat → Rat} {a s : Rat} (h : Sl f a s) (T : Rat) (hg : ∃ c, ∀ x, g x = (x - a) * (x - a) * ev c x) : Sl (fun x => f x + T * g x) a s := by
  obtain ⟨c, hc⟩ := h
  obtain ⟨d, hd⟩ := hg
  refine ⟨padd c (d.map fun b => b * T), fun x => ?_⟩
  have hga := hd a
  have hgx := hd x
  have hcx := hc x
  rw [padd_ev, ev_map_mul]
  show f x + T * g x = f a + T * g a + s * (x - a) + (x - a) * (x - a) * (ev c x + ev d x * T)
  rw [hgx, hga, hcx]
  grind
theorem Sl.congr {f g : Rat → Rat} {a s : Rat} (h : Sl f a s) (e : ∀ x, g x = f x) : Sl g a s := by
  obtain ⟨c, hc⟩ := h
  exact ⟨c, fun x => by rw [e x, e a]; exact hc x⟩
end
end PP
namespace PP
open PySem PySem.Spec PyProof.Rows L2
end PP
namespace PP
open PySem PySem.Spec PyProof.Rows L2
end PP
namespace PP
open PySem PySem.Spec PyProof.Rows L2
end PP
namespace PP
open PySem PySem.Spec PyProof.Rows L2
end PP
namespace PP
open PySem PySem.Spec PyProof.Rows L2
end PP
namespace PP
open PySem PySem.Spec PyProof.Rows L2
def mark (x : Rat) (k : Nat) (v : Rat) (t : Told) : Rat := if t.1 = x ∧ t.2.1 = k then v else 0
end PP
namespace PP
open PySem PySem.Spec PyProof.Rows L2
section
variable {Γ : Nat → SpD} {gl : Nat → D} {ds : List D} {g : G} {Q : QD} {X : XD}
theorem KN.init {o : G} {a : Addr} {g : G} {L : List (Addr × List D)} {y : Addr × List D} (K : KN o a g (L ++ [y])) : KN o a g L where
  get := fun i b xs e => K.get i b xs (by rw [List.getElem?_append_left (lt_of_at e)]; exact e)
  nd := by have := K.nd; rw [List.map_append, List.nodup_append] at this; exact this.1
  own := fun b hb => K.own b (by rw [List.map_append]; exact List.mem_append_left _ hb)
  lea := K.lea
end
end PP
namespace PP
open PySem PySem.Spec PyProof.Rows L2
end PP
namespace PP
open PySem PySem.Spec PyProof.Rows L2
structure TabG (g : G) (p : Addr) (rs : List Addr) (rows : List (List Rat)) : Prop where
  top : g p = some (rs.map D.ref)
  row : ∀ (k : Nat) (r : Addr) (c : List Rat), rs[k]? = some r → rows[k]? = some c → g r = some (nums c)
  len : rs.length = rows.length
theorem TabG.le {g g' : G} {p : Addr} {rs : List Addr} {rows : List (List Rat)} (T : TabG g p rs rows) (l : g.le g') : TabG g' p rs rows := ⟨l _ _ T.top, fun k r c h1 h2 => l _ _ (T.row k r c h1 h2), T.len⟩
theorem TabG.get {g : G} {p : Addr} {rs : List Addr} {rows : List (List Rat)} (T : TabG g p rs rows) {k : Nat} {r : Addr} (h : rs[k]? = some r) : ∃ c, rows[k]? = some c ∧ g r = some (nums c) := by
  have hl := lt_of_at h
  have e := List.getElem?_eq_getElem (show k < rows.length by rw [← T.len]; exact hl)
  exact ⟨_, e, T.row k r _ h e⟩
section
variable {Γ : Nat → SpD} {gl : Nat → D} {ds : List D} {g : G} {Q : QD} {E X : XD}
def hts (ps : List Pt) : List Rat := rowT (tells ps) 0
end
end PP
namespace PP
open PySem PySem.Spec PyProof.Rows L2
end PP
namespace PP
open PySem PySem.Spec PyProof.Rows L2
end PP
namespace PP
open PySem PySem.Spec PyProof.Rows L2
end PP
namespace PP
open PySem PySem.Spec PyProof.Rows L2
end PP
namespace PP
open PySem PySem.Spec PyProof.Rows L2
end PP
namespace PP
open PySem PySem.Spec PyProof.Rows L2
end PP
namespace PP
open PySem PySem.Spec PyProof.Rows L2
end PP
namespace PP
open PySem PySem.Spec PyProof.Rows L2
def Dv (c p : List Rat) : Prop := ∃ q, ∀ x, ev p x = ev c x * ev q x
theorem dv_refl {c : List Rat} : Dv c c := ⟨[1], fun x => by rw [ev_cons, ev_nil]; grind⟩
structure GcdOk (p o d : List Rat) : Prop where
  t : Tight d
  m : d.getLast? = some 1
  c : ∀ c, Dv c d ↔ Dv c p ∧ Dv c o
theorem GcdOk.ne {p o d : List Rat} (h : GcdOk p o d) : d ≠ [] := fun z => by have := h.m; rw [z] at this; cases this
theorem GcdOk.d1 {p o d : List Rat} (h : GcdOk p o d) : Dv d p := ((h.c d).mp dv_refl).1
theorem GcdOk.d2 {p o d : List Rat} (h : GcdOk p o d) : Dv d o := ((h.c d).mp dv_refl).2
end PP
namespace PP
open PySem PySem.Spec PyProof.Rows L2
end PP
namespace PP
open PySem PySem.Spec PyProof.Rows L2
end PP
namespace PP
open PySem PySem.Spec PyProof.Rows L2
theorem take_s {α : Type} {ks : List α} {j : Nat} {z : α} (h : ks[j]? = some z) : ks.take (j + 1) = ks.take j ++ [z] := by
  have hl := lt_of_at h
  rw [List.take_succ_eq_append_getElem hl]
  rw [List.getElem?_eq_getElem hl] at h
  cases h; rfl
theorem Szs.take {b : Nat} {ks : List Rat} (h : Szs b ks) (j : Nat) : Szs b (ks.take j) := fun z hz => h z (List.mem_of_mem_take hz)
def GoodK (ks : List Rat) : Prop := ks ≠ [] ∧ ks.length ≤ 12 ∧ ks.Nodup
theorem GoodK.pos {ks : List Rat} (h : GoodK ks) : 0 < ks.length := List.length_pos_iff.mpr h.1
end PP
namespace PP
open PySem PySem.Spec PyProof.Rows L2
end PP
namespace PP
open PySem PySem.Spec PyProof.Rows L2
end PP
namespace PP
open PySem PySem.Spec PyProof.Rows L2
end PP
namespace PP
open PySem PySem.Spec PyProof.Rows L2
end PP
namespace PP
open PySem PySem.Spec PyProof.Rows L2
end PP
namespace PP
open PySem PySem.Spec PyProof.Rows L2
section
variable {Γ : Nat → SpD} {gl : Nat → D} {ds : List D} {g : G} {Q : QD} {X : XD}
theorem K_whole {o : G} {a p : Addr} {xs : List D} {n cnt m : Nat} {L : List (Addr × List D)} {f : Nat → Nat → Int} {body : D → G → (Option D → G → Prop) → Prop} {fin : G → Prop} (K : KN o a g ((a, xs) :: L)) (hp0 : g p = none) (hp : PenL xs n) (hn : n + cnt < 2 ^ 50)
    (hbody : ∀ (k : Nat) (g' : G) (xs' : List D) (M : List (Addr × List D)) (N : Option D → G → Prop), k < cnt → PenL xs' (n + k) → KN o a g' ((a, xs') :: M) → (∀ d xs'' g'', d < m → PenL xs'' (n + k + 1) → KN o a g'' ((a, xs'') :: M) → N (some (num ((f k d : Int) : Rat))) g'') → body (.int (0 + (k : Int))) g' N)
    (h : ∀ (zs : List Int) xs' g', zs.length = cnt → (∀ i z, zs[i]? = some z → ∃ d, d < m ∧ z = f i d) → PenL xs' (n + cnt) → KN o a g' ((a, xs') :: (L ++ [(p, nums (zs.map fun z : Int => (z : Rat)))])) → fin g') :
    compD (fun _ => True) p body fin (rangeD 0 cnt) [] (g.up p []) := by
  refine comp_inv (fun k acc g' => k ≤ cnt ∧ ∃ zs xs', acc = nums (zs.map fun z : Int => (z : Rat)) ∧ zs.length = k ∧ (∀ i z, zs[i]? = some z → ∃ d, d < m ∧ z = f i d) ∧ PenL xs' (n + k) ∧ KN o a g' ((a, xs') :: (L ++ [(p, acc)]))) (fun _ _ _ _ => trivial) ?_ ?_
    ⟨Nat.zero_le _, [], xs, rfl, rfl, fun i z e => by simp at e, hp, K_new K hp0⟩
  · rintro k x acc g' N hk ⟨hk0, zs, xs', rfl, hl, hz, hp, K⟩ h1 -
    obtain ⟨hk1, rfl⟩ := range_at hk
    refine hbody k g' xs' _ N hk1 hp K fun d xs'' g'' hd hp' K => ?_
    have hgp : g'' p = some (nums (zs.map fun z : Int => (z : Rat))) := K.get (L.length + 1) _ _ (by simp)
    refine h1 _ _ hgp ⟨hk1, zs ++ [f k d], xs'', by rw [nums_snoc, List.map_append]; rfl, by simp [hl], fun i z e => ?_, hp', ?_⟩
    · rw [List.getElem?_append] at e
      split at e
      · exact hz i z e
      · rw [List.getElem?_singleton] at e
        split at e
        · cases e
          have : i = k := by omega
          subst this
          exact ⟨d, hd, rfl⟩
        · cases e
    · have := K.put (L.length + 1) (ys := nums (zs.map fun z : Int => (z : Rat)) ++ [num ((f k d : Int) : Rat)]) (b := p) (xs := nums (zs.map fun z : Int => (z : Rat))) (by simp)
      rw [List.set_cons_succ, List.set_append] at this
      simpa using this
  · rintro acc g' ⟨hk0, zs, xs', rfl, hl, hz, hp, K⟩
    rw [range_len] at hl hp
    exact h zs xs' g' hl hz hp K
end
end PP
namespace PP
open PySem PySem.Spec PyProof.Rows L2
def sx_law_is_so_v2 : SX :=
  (.ite (.or (.not (.call 28 (.cons (.v 0) .nil))) (.cmp .gt (.blt .len (.cons (.v 0) .nil)) (.v 1)))
    (.ret (.bl false) .nil)
    .nil
  (.for_ (.n 3) (.range1 (.bin .add (.v 1) (.int 1)))
    (.ite (.cmp .ne (.call 27 (.cons (.v 0) (.cons (.tup (.cons (.bin .sub (.v 3) (.bin .fdiv (.v 1) (.int 2))) (.cons (.int 1) .nil))) .nil))) (.ask 999 2 (.bin .sub (.v 3) (.bin .fdiv (.v 1) (.int 2)))))
      (.ret (.bl false) .nil)
      .nil .nil)
  (.ret (.bl true) .nil)))
abbrev ns_law_is_so_v2 : List Str := ["_law_found", "_law_most", "_law_due", "_law_k"]
theorem half_le (m : Nat) : 0 ≤ (m : Int).fdiv 2 ∧ (m : Int).fdiv 2 ≤ m := by
  rw [Int.fdiv_eq_ediv_of_nonneg _ (by decide)]
  omega
section
variable {Γ : Nat → SpD} {gl : Nat → D} {g : G} {Q : QD}
theorem pure_law_is_so_v2 {f : Addr} {L : D → G → QD → Prop} {d1 d2 : D} (ho : askS f L = Γ 999) (h : isSoS Γ L [d1, d2, .ref (2 * f)] g Q (fun _ _ => False)) : mnS Γ gl sx_law_is_so_v2 (endsOf Q (fun _ _ => False)) (startD ns_law_is_so_v2 [d1, d2, .ref (2 * f)]) g := by
  obtain ⟨xs, m, a, hh, e, hl, hm, heq, h28, h27, hL, hQ⟩ := h
  simp only [List.cons.injEq, D.ref.injEq, and_true] at e
  obtain ⟨rfl, rfl, rfl⟩ := e
  have ho : Γ 999 = askS f L := ho.symm
  simp only [sx_law_is_so_v2, ho, dAsk, mnS, dLamr, mn, Mn.of, Op.rd, Cm.rd, Bl.rd, Mt.rd, Mt.rc, dNop, dSeq, dExpr, dRet, dRetN, dIf, gD, dAsg, dPar, dPut, dRaise, dVar, dC, dBin, dUn, dNil, dCons, dTup, dLst, dTst, dAndT, dOrT, dNotT, dYes, dAnd, dOr, dNot, dChain, dCall, dCB, dMt, dLset, dSrev, dTry, dIsx, dEmp, dDic1, dStp, dFld, dMeth, dMake, dFset, dGin, dGix, dRep, dTryu, dTryn, conD, xsub, Ex.sub, dSlc, dPart, dNoPart, dIAny, dI1, dI2, dI3, dFor, dComp, compB, wipeD, startD, endsOf, at_mk, setAll, add_int, sub_int, mul_int, mul_tup, pow_int, mod_int, fdiv_int, lt_int, le_int, gt_int, ge_int, eq_int, neg_int, len_tup, len_scr, abs_int, max_int, min_int, int_int, int_bl, r1_int, r2_int, tuple_tup, list_tup, over_tup, rev_tup, enum_tup, zip_tup, slc_tup, add_tup, isi_any, ix_tup, ix_scr, ix_num0, ix_num1, len_num, num_0, num_1, atI_0, atI_1, atI_2, List.map, List.cons_append, List.nil_append, List.getElem?_cons_zero, List.getElem?_cons_succ, List.getElem?_nil, List.set_cons_zero, List.set_cons_succ, List.replicate, List.length_cons, List.length_nil, List.foldr_cons, List.foldr_nil, Nat.reduceAdd, Nat.reduceSub, List.replicate_succ, List.replicate_zero, G_up_same, decide_eq_true_eq, Bool.not_eq_true', Bool.false_eq_true, if_true, if_false, ite_true, ite_false, and_true, true_and, reduceCtorEq, Bool.not_true, Bool.not_false, Bool.false_bne, Bool.true_bne, sl0, sl1, sl2, sl3, sl4]
  refine h28 _ _ ?_
  try simp only [mnS, dLamr, mn, Mn.of, Op.rd, Cm.rd, Bl.rd, Mt.rd, Mt.rc, dNop, dSeq, dExpr, dRet, dRetN, dIf, gD, dAsg, dPar, dPut, dRaise, dVar, dC, dBin, dUn, dNil, dCons, dTup, dLst, dTst, dAndT, dOrT, dNotT, dYes, dAnd, dOr, dNot, dChain, dCall, dCB, dMt, dLset, dSrev, dTry, dIsx, dEmp, dDic1, dStp, dFld, dMeth, dMake, dFset, dGin, dGix, dRep, dTryu, dTryn, conD, xsub, Ex.sub, dSlc, dPart, dNoPart, dIAny, dI1, dI2, dI3, dFor, dComp, compB, wipeD, startD, endsOf, at_mk, setAll, add_int, sub_int, mul_int, mul_tup, pow_int, mod_int, fdiv_int, lt_int, le_int, gt_int, ge_int, eq_int, neg_int, len_tup, len_scr, abs_int, max_int, min_int, int_int, int_bl, r1_int, r2_int, tuple_tup, list_tup, over_tup, rev_tup, enum_tup, zip_tup, slc_tup, add_tup, isi_any, ix_tup, ix_scr, ix_num0, ix_num1, len_num, num_0, num_1, atI_0, atI_1, atI_2, List.map, List.cons_append, List.nil_append, List.getElem?_cons_zero, List.getElem?_cons_succ, List.getElem?_nil, List.set_cons_zero, List.set_cons_succ, List.replicate, List.length_cons, List.length_nil, List.foldr_cons, List.foldr_nil, Nat.reduceAdd, Nat.reduceSub, List.replicate_succ, List.replicate_zero, G_up_same, decide_eq_true_eq, Bool.not_eq_true', Bool.false_eq_true, if_true, if_false, ite_true, ite_false, and_true, true_and, reduceCtorEq, Bool.not_true, Bool.not_false, Bool.false_bne, Bool.true_bne, sl0, sl1, sl2, sl3, sl4]
  rw [if_neg (by omega)]
  refine ⟨by omega, ?_⟩
  refine for_inv (fun k env g' => g' = g ∧ ∃ o3, env = [some (.tup xs), some (.int (m : Int)), some (.ref (2 * f)), o3]) (fun _ _ _ _ => trivial) ?_ ?_ ⟨rfl, none, rfl⟩
  · rintro k x env g' N hk ⟨rfl, o3, rfl⟩ hN
    obtain ⟨hk1, rfl⟩ := range_at hk
    have hkm : k ≤ m := by omega
    try simp only [mnS, dLamr, mn, Mn.of, Op.rd, Cm.rd, Bl.rd, Mt.rd, Mt.rc, dNop, dSeq, dExpr, dRet, dRetN, dIf, gD, dAsg, dPar, dPut, dRaise, dVar, dC, dBin, dUn, dNil, dCons, dTup, dLst, dTst, dAndT, dOrT, dNotT, dYes, dAnd, dOr, dNot, dChain, dCall, dCB, dMt, dLset, dSrev, dTry, dIsx, dEmp, dDic1, dStp, dFld, dMeth, dMake, dFset, dGin, dGix, dRep, dTryu, dTryn, conD, xsub, Ex.sub, dSlc, dPart, dNoPart, dIAny, dI1, dI2, dI3, dFor, dComp, compB, wipeD, startD, endsOf, at_mk, setAll, add_int, sub_int, mul_int, mul_tup, pow_int, mod_int, fdiv_int, lt_int, le_int, gt_int, ge_int, eq_int, neg_int, len_tup, len_scr, abs_int, max_int, min_int, int_int, int_bl, r1_int, r2_int, tuple_tup, list_tup, over_tup, rev_tup, enum_tup, zip_tup, slc_tup, add_tup, isi_any, ix_tup, ix_scr, ix_num0, ix_num1, len_num, num_0, num_1, atI_0, atI_1, atI_2, List.map, List.cons_append, List.nil_append, List.getElem?_cons_zero, List.getElem?_cons_succ, List.getElem?_nil, List.set_cons_zero, List.set_cons_succ, List.replicate, List.length_cons, List.length_nil, List.foldr_cons, List.foldr_nil, Nat.reduceAdd, Nat.reduceSub, List.replicate_succ, List.replicate_zero, G_up_same, decide_eq_true_eq, Bool.not_eq_true', Bool.false_eq_true, if_true, if_false, ite_true, ite_false, and_true, true_and, reduceCtorEq, Bool.not_true, Bool.not_false, Bool.false_bne, Bool.true_bne, sl0, sl1, sl2, sl3, sl4]
    rw [show (0 + (k : Int)) = (k : Int) by omega]
    refine ⟨by decide, h27 k _ _ _ hkm ?_⟩
    refine ⟨_, rfl, .inl rfl, by decide, .inr ⟨_, rfl, hL k _ _ hkm ?_⟩⟩
    refine heq _ _ _ ?_
    try simp only [mnS, dLamr, mn, Mn.of, Op.rd, Cm.rd, Bl.rd, Mt.rd, Mt.rc, dNop, dSeq, dExpr, dRet, dRetN, dIf, gD, dAsg, dPar, dPut, dRaise, dVar, dC, dBin, dUn, dNil, dCons, dTup, dLst, dTst, dAndT, dOrT, dNotT, dYes, dAnd, dOr, dNot, dChain, dCall, dCB, dMt, dLset, dSrev, dTry, dIsx, dEmp, dDic1, dStp, dFld, dMeth, dMake, dFset, dGin, dGix, dRep, dTryu, dTryn, conD, xsub, Ex.sub, dSlc, dPart, dNoPart, dIAny, dI1, dI2, dI3, dFor, dComp, compB, wipeD, startD, endsOf, at_mk, setAll, add_int, sub_int, mul_int, mul_tup, pow_int, mod_int, fdiv_int, lt_int, le_int, gt_int, ge_int, eq_int, neg_int, len_tup, len_scr, abs_int, max_int, min_int, int_int, int_bl, r1_int, r2_int, tuple_tup, list_tup, over_tup, rev_tup, enum_tup, zip_tup, slc_tup, add_tup, isi_any, ix_tup, ix_scr, ix_num0, ix_num1, len_num, num_0, num_1, atI_0, atI_1, atI_2, List.map, List.cons_append, List.nil_append, List.getElem?_cons_zero, List.getElem?_cons_succ, List.getElem?_nil, List.set_cons_zero, List.set_cons_succ, List.replicate, List.length_cons, List.length_nil, List.foldr_cons, List.foldr_nil, Nat.reduceAdd, Nat.reduceSub, List.replicate_succ, List.replicate_zero, G_up_same, decide_eq_true_eq, Bool.not_eq_true', Bool.false_eq_true, if_true, if_false, ite_true, ite_false, and_true, true_and, reduceCtorEq, Bool.not_true, Bool.not_false, Bool.false_bne, Bool.true_bne, sl0, sl1, sl2, sl3, sl4]
    exact hN _ _ ⟨rfl, _, rfl⟩
  · rintro env g' ⟨rfl, o3, rfl⟩
    try simp only [mnS, dLamr, mn, Mn.of, Op.rd, Cm.rd, Bl.rd, Mt.rd, Mt.rc, dNop, dSeq, dExpr, dRet, dRetN, dIf, gD, dAsg, dPar, dPut, dRaise, dVar, dC, dBin, dUn, dNil, dCons, dTup, dLst, dTst, dAndT, dOrT, dNotT, dYes, dAnd, dOr, dNot, dChain, dCall, dCB, dMt, dLset, dSrev, dTry, dIsx, dEmp, dDic1, dStp, dFld, dMeth, dMake, dFset, dGin, dGix, dRep, dTryu, dTryn, conD, xsub, Ex.sub, dSlc, dPart, dNoPart, dIAny, dI1, dI2, dI3, dFor, dComp, compB, wipeD, startD, endsOf, at_mk, setAll, add_int, sub_int, mul_int, mul_tup, pow_int, mod_int, fdiv_int, lt_int, le_int, gt_int, ge_int, eq_int, neg_int, len_tup, len_scr, abs_int, max_int, min_int, int_int, int_bl, r1_int, r2_int, tuple_tup, list_tup, over_tup, rev_tup, enum_tup, zip_tup, slc_tup, add_tup, isi_any, ix_tup, ix_scr, ix_num0, ix_num1, len_num, num_0, num_1, atI_0, atI_1, atI_2, List.map, List.cons_append, List.nil_append, List.getElem?_cons_zero, List.getElem?_cons_succ, List.getElem?_nil, List.set_cons_zero, List.set_cons_succ, List.replicate, List.length_cons, List.length_nil, List.foldr_cons, List.foldr_nil, Nat.reduceAdd, Nat.reduceSub, List.replicate_succ, List.replicate_zero, G_up_same, decide_eq_true_eq, Bool.not_eq_true', Bool.false_eq_true, if_true, if_false, ite_true, ite_false, and_true, true_and, reduceCtorEq, Bool.not_true, Bool.not_false, Bool.false_bne, Bool.true_bne, sl0, sl1, sl2, sl3, sl4]
    exact ⟨_, G.le_refl _, hQ⟩
end
end PP
namespace PP
open PySem PySem.Spec PyProof.Rows L2
def sx_law_right_v9 : SX :=
  (.asg (.n 3) (.blt .max (.cons (.blt .len (.cons (.v 0) .nil)) (.cons (.blt .len (.cons (.v 1) .nil)) .nil)))
  (.ite (.not (.lamq [0, 1] (.call 31 (.cons (.v 0) (.cons (.v 1) .nil))) (.v 3) (.call 25 (.cons (.call 27 (.cons (.v 1) (.cons (.tup (.cons (.v 0) (.cons (.int 1) .nil))) .nil))) (.cons (.call 27 (.cons (.v 2) (.cons (.tup (.cons (.v 0) (.cons (.int 1) .nil))) .nil))) .nil)))))
    (.ret (.bl false) .nil)
    .nil
  (.ite (.not (.lamq [0, 1] (.call 32 (.cons (.v 0) (.cons (.v 1) .nil))) (.v 3) (.call 35 (.cons (.call 27 (.cons (.v 1) (.cons (.tup (.cons (.v 0) (.cons (.int 1) .nil))) .nil))) (.cons (.call 27 (.cons (.v 2) (.cons (.tup (.cons (.v 0) (.cons (.int 1) .nil))) .nil))) .nil)))))
    (.ret (.bl false) .nil)
    .nil
  (.ite (.not (.lamq [2, 0] (.call 33 (.cons (.v 0) (.cons (.v 2) .nil))) (.blt .len (.cons (.v 0) .nil)) (.call 26 (.cons (.call 27 (.cons (.v 2) (.cons (.tup (.cons (.v 0) (.cons (.int 1) .nil))) .nil))) (.cons (.v 1) .nil)))))
    (.ret (.bl false) .nil)
    .nil
  (.asg (.n 3) (.blt .max (.cons (.int 0) (.cons (.bin .sub (.bin .add (.blt .len (.cons (.v 0) .nil)) (.blt .len (.cons (.v 1) .nil))) (.int 1)) .nil)))
  (.asg (.n 4) (.call 34 (.cons (.v 1) (.cons (.v 0) .nil)))
  (.ite (.cmp .ne (.call 34 (.cons (.v 0) (.cons (.v 1) .nil))) (.v 4))
    (.ret (.bl false) .nil)
    .nil
  (.ret (.lamq [0, 1] (.v 4) (.v 3) (.call 26 (.cons (.call 27 (.cons (.v 1) (.cons (.tup (.cons (.v 0) (.cons (.int 1) .nil))) .nil))) (.cons (.call 27 (.cons (.v 2) (.cons (.tup (.cons (.v 0) (.cons (.int 1) .nil))) .nil))) .nil)))) .nil))))))))
abbrev ns_law_right_v9 : List Str := ["_law_one", "_law_other", "_law_number_here", "_law_most", "_law_due"]
def sx_law_k05_v2_1 : SX :=
  (.asg (.n 5) (.ix (.lst (.cons (.call 36 (.cons (.v 1) .nil)) (.cons (.tup (.cons (.int 0) (.cons (.int 1) .nil))) .nil))) (.blt .int (.cons (.cmp .eq (.call 4 (.cons (.v 1) (.cons (.int 5) .nil))) (.int 0)) .nil)))
  (.ret (.and (.call 482 (.cons (.v 2) (.cons (.v 3) (.cons (.v 5) .nil)))) (.and (.call 482 (.cons (.v 3) (.cons (.v 2) (.cons (.v 5) .nil)))) (.cmp .eq (.call 32 (.cons (.v 2) (.cons (.v 2) .nil))) (.tup .nil)))) .nil))
def sx_law_k05_v2_2 : SX :=
  (.ite (.cmp .eq (.call 4 (.cons (.v 1) (.cons (.int 8) .nil))) (.int 0))
    (.asg (.n 2) (.blt .tuple (.cons (.bin .add (.comp [7] (.n 7) (.range1 (.int 15)) .yes (.tup (.cons (.bin .sub (.call 4 (.cons (.v 1) (.cons (.int 19) .nil))) (.int 9)) (.cons (.int 1) .nil)))) (.lst (.cons (.tup (.cons (.bin .add (.int 1) (.call 4 (.cons (.v 1) (.cons (.int 9) .nil)))) (.cons (.int 1) .nil))) .nil))) .nil)) .nil)
    .nil
  sx_law_k05_v2_1)
def sx_law_k05_v2_3 : SX :=
  (.ite (.cmp .eq (.v 4) (.int 1))
    (.asg (.n 6) (.call 4 (.cons (.v 1) (.cons (.bin .add (.blt .len (.cons (.v 2) .nil)) (.int 1)) .nil)))
    (.asg (.n 3) (.blt .tuple (.cons (.bin .add (.comp [7] (.n 7) (.range1 (.v 6)) .yes (.call 36 (.cons (.v 1) .nil))) (.comp [8, 9] (.t [8, 9]) (.over (.slc (.v 2) (.v 6) .hole)) .yes (.tup (.cons (.bin .sub (.int 0) (.v 8)) (.cons (.v 9) .nil))))) .nil))
    (.whl (.and (.cmp .ne (.v 3) (.tup .nil)) (.cmp .eq (.ix (.v 3) (.neg (.int 1))) (.tup (.cons (.int 0) (.cons (.int 1) .nil)))))
      (.asg (.n 3) (.slc (.v 3) .hole (.neg (.int 1))) .nil) .nil)))
    .nil
  sx_law_k05_v2_2)
def sx_law_k05_v2 : SX :=
  (.asg (.n 1) (.call 3 (.cons (.v 0) (.cons (.int 0) .nil)))
  (.asg (.n 2) (.call 37 (.cons (.v 1) (.cons (.int 7) .nil)))
  (.asg (.n 3) (.call 37 (.cons (.v 1) (.cons (.int 7) .nil)))
  (.asg (.n 4) (.call 4 (.cons (.v 1) (.cons (.int 4) .nil)))
  (.ite (.cmp .eq (.v 4) (.int 0))
    (.asg (.n 3) (.v 2) .nil)
    .nil
  sx_law_k05_v2_3)))))
abbrev ns_law_k05_v2 : List Str := ["_law_script", "_law_pen_here", "_law_one", "_law_other", "_law_way", "_law_number_here", "_law_cut", "_law_k", "_law_top", "_law_bottom"]
def spRight05 : SpD := fun ds g Q _ => ∃ (p q : List Rat) (r : Rat), ds = [.tup (nums p), .tup (nums q), num r] ∧ Tight p ∧ Tight q ∧ p.length ≤ 16 ∧ q.length ≤ 16 ∧ Szs 16 p ∧ Szs 16 q ∧ sz r ≤ 16 ∧ Q (.bl true) g
theorem sz_j {j : Int} (h : j.natAbs ≤ 40) : sz (j : Rat) ≤ 6 := sz_le (by show j.natAbs < 2 ^ 6; omega) (by show 1 < 2 ^ 6; decide) (by decide)
theorem ev_sz05 {b bx : Nat} {x : Rat} (hx : sz x ≤ bx) : ∀ {c : List Rat}, Szs b c → sz (ev c x) ≤ c.length * (b + bx + 1) + 1
  | [], _ => by rw [ev_nil, sz_0]; omega
  | a :: c, h => by
    have h1 := ev_sz05 hx (c := c) fun q hq => h q (List.mem_cons_of_mem _ hq)
    have h2 := h a (List.mem_cons_self ..)
    have h3 := sz_mul x (ev c x)
    have h4 := sz_add a (x * ev c x)
    rw [ev_cons, List.length_cons, Nat.succ_mul]
    omega
section
variable {Γ : Nat → SpD} {gl : Nat → D} {ds : List D} {g : G} {Q : QD} {X : XD}
theorem so_rule {m B : Nat} {r : List Rat} {v : Rat → Rat} {L : D → G → QD → Prop} {a : Addr} {i : Int} (h27 : Γ 27 = spEv) (h28 : Γ 28 = spIsCurve) (hi : i = (m : Int)) (tr : Tight r) (hl : r.length ≤ m) (hm : m ≤ 40) (zr : Szs B r) (hB : B ≤ 600) (he : ∀ x, ev r x = v x)
    (hL : ∀ (j : Int) (g2 : G) (F : QD), j.natAbs ≤ 40 → F (num (v (j : Rat))) g2 → L (.int j) g2 F) (hQ : Q (.bl true) g) : isSoS Γ L [.tup (nums r), .int i, .ref a] g Q (fun _ _ => False) := by
  have hh := half_le m
  have hj : ∀ k : Nat, k ≤ m → ((k : Int) - (m : Int).fdiv 2).natAbs ≤ 40 := fun k hk => by omega
  refine ⟨nums r, m, a, fun j => num (v (j : Rat)), by rw [hi], by rw [nums_len]; exact hl, by omega, fun j g F hF => eq_num (fun _ => hF) fun e => absurd rfl e, fun F E hF => ?_, fun k g2 F E hk hF => ?_, fun k g2 F hk hF => hL _ _ _ (hj k hk) hF, hQ⟩
  · rw [h28]
    exact c_isCurve tr (slN (by omega)) hF
  · rw [h27]
    dsimp only at hF
    rw [← he] at hF
    exact c_ev' B 6 .tup zr (sz_j (hj k hk)) (Nat.le_trans (Nat.mul_le_mul (show r.length + 2 ≤ 42 by omega) (Nat.add_le_add hB (Nat.mul_le_mul_right _ (show r.length + 2 ≤ 42 by omega)))) (by decide)) hF
theorem ev_j {p : List Rat} {j : Int} {E : XD} (h : p.length ≤ 16) (z : Szs 16 p) (hj : j.natAbs ≤ 40) (k : Q (num (ev p (j : Rat))) g) : spEv [.tup (nums p), .tup [.int j, .int 1]] g Q E :=
  c_ev' 16 6 .tup z (sz_j hj) (Nat.le_trans (Nat.mul_le_mul (show p.length + 2 ≤ 18 by omega) (Nat.add_le_add_left (Nat.mul_le_mul_right _ (show p.length + 2 ≤ 18 by omega)) _)) (by decide)) k
theorem ev_jz {p : List Rat} {j : Int} (h : p.length ≤ 16) (z : Szs 16 p) (hj : j.natAbs ≤ 40) : sz (ev p (j : Rat)) ≤ 1000 := by
  have := ev_sz05 (sz_j hj) z
  have h2 : p.length * (16 + 6 + 1) ≤ 16 * 23 := Nat.mul_le_mul_right _ h
  omega
theorem pure_law_right_v9 {E : XD} (h25 : Γ 25 = spPlus) (h26 : Γ 26 = spTimes) (h27 : Γ 27 = spEv) (h28 : Γ 28 = spIsCurve) (h31 : Γ 31 = spAdded) (h32 : Γ 32 = spLessened) (h33 : Γ 33 = spScaled) (h34 : Γ 34 = spMultiplied) (h35 : Γ 35 = spMinus) (h : spRight05 ds g Q E) :
    mnS Γ gl sx_law_right_v9 (endsOf Q E) (startD ns_law_right_v9 ds) g := by
  obtain ⟨p, q, r, rfl, tp, tq, lp, lq, zp, zq, zr, h⟩ := h
  simp only [sx_law_right_v9, h25, h26, h27, h31, h32, h33, h34, h35, mnS, dLamr, mn, Mn.of, Op.rd, Cm.rd, Bl.rd, Mt.rd, Mt.rc, dNop, dSeq, dExpr, dRet, dRetN, dIf, gD, dAsg, dPar, dPut, dRaise, dVar, dC, dBin, dUn, dNil, dCons, dTup, dLst, dTst, dAndT, dOrT, dNotT, dYes, dAnd, dOr, dNot, dChain, dCall, dCB, dMt, dLset, dSrev, dTry, dIsx, dEmp, dDic1, dStp, dFld, dMeth, dMake, dFset, dGin, dGix, dRep, dTryu, dTryn, conD, xsub, Ex.sub, dSlc, dPart, dNoPart, dIAny, dI1, dI2, dI3, dFor, dComp, compB, wipeD, startD, endsOf, at_mk, setAll, add_int, sub_int, mul_int, mul_tup, pow_int, mod_int, fdiv_int, lt_int, le_int, gt_int, ge_int, eq_int, neg_int, len_tup, len_scr, abs_int, max_int, min_int, int_int, int_bl, r1_int, r2_int, tuple_tup, list_tup, over_tup, rev_tup, enum_tup, zip_tup, slc_tup, add_tup, isi_any, ix_tup, ix_scr, ix_num0, ix_num1, len_num, num_0, num_1, atI_0, atI_1, atI_2, List.map, List.cons_append, List.nil_append, List.getElem?_cons_zero, List.getElem?_cons_succ, List.getElem?_nil, List.set_cons_zero, List.set_cons_succ, List.replicate, List.length_cons, List.length_nil, List.foldr_cons, List.foldr_nil, Nat.reduceAdd, Nat.reduceSub, List.replicate_succ, List.replicate_zero, G_up_same, decide_eq_true_eq, Bool.not_eq_true', Bool.false_eq_true, if_true, if_false, ite_true, ite_false, and_true, true_and, reduceCtorEq, Bool.not_true, Bool.not_false, Bool.false_bne, Bool.true_bne, sl0, sl1, sl2, sl3, sl4, dLamq, nums_len]
  have two : ∀ {f : Rat → Rat → Rat} {j : Int} {g2 : G} {F : QD} {X2 X3 X4 : XD}, j.natAbs ≤ 40 → F (num (f (ev p (j : Rat)) (ev q (j : Rat)))) g2 → spEv [.tup (nums p), .tup [.int j, .int 1]] g2 (fun x g1 => spEv [.tup (nums q), .tup [.int j, .int 1]] g1 (fun y g1 => spBin f [x, y] g1 F X2) X3) X4 := fun {f j g2 F X2 X3 X4} hj hF => by
    have s1 := ev_jz lp zp hj
    have s2 := ev_jz lq zq hj
    exact ev_j lp zp hj (ev_j lq zq hj (c_bin.mpr ⟨by omega, hF⟩))
  refine c_twoB 16 16 zp zq (by decide) (by decide) (by decide) (by omega) (by omega) fun r1 t1 l1 z1 e1 => ?_
  intro a
  refine so_rule (m := max p.length q.length) h27 h28 (by omega) t1 l1 (by omega) z1 (by decide) e1 (fun j g2 F hj hF => ?_) ?_
  · simp only [lamL, mnS, dLamr, mn, Mn.of, Op.rd, Cm.rd, Bl.rd, Mt.rd, Mt.rc, dNop, dSeq, dExpr, dRet, dRetN, dIf, gD, dAsg, dPar, dPut, dRaise, dVar, dC, dBin, dUn, dNil, dCons, dTup, dLst, dTst, dAndT, dOrT, dNotT, dYes, dAnd, dOr, dNot, dChain, dCall, dCB, dMt, dLset, dSrev, dTry, dIsx, dEmp, dDic1, dStp, dFld, dMeth, dMake, dFset, dGin, dGix, dRep, dTryu, dTryn, conD, xsub, Ex.sub, dSlc, dPart, dNoPart, dIAny, dI1, dI2, dI3, dFor, dComp, compB, wipeD, startD, endsOf, at_mk, setAll, add_int, sub_int, mul_int, mul_tup, pow_int, mod_int, fdiv_int, lt_int, le_int, gt_int, ge_int, eq_int, neg_int, len_tup, len_scr, abs_int, max_int, min_int, int_int, int_bl, r1_int, r2_int, tuple_tup, list_tup, over_tup, rev_tup, enum_tup, zip_tup, slc_tup, add_tup, isi_any, ix_tup, ix_scr, ix_num0, ix_num1, len_num, num_0, num_1, atI_0, atI_1, atI_2, List.map, List.cons_append, List.nil_append, List.getElem?_cons_zero, List.getElem?_cons_succ, List.getElem?_nil, List.set_cons_zero, List.set_cons_succ, List.replicate, List.length_cons, List.length_nil, List.foldr_cons, List.foldr_nil, Nat.reduceAdd, Nat.reduceSub, List.replicate_succ, List.replicate_zero, G_up_same, decide_eq_true_eq, Bool.not_eq_true', Bool.false_eq_true, if_true, if_false, ite_true, ite_false, and_true, true_and, reduceCtorEq, Bool.not_true, Bool.not_false, Bool.false_bne, Bool.true_bne, sl0, sl1, sl2, sl3, sl4, Option.getD_some]
    exact two hj hF
  try simp only [mnS, dLamr, mn, Mn.of, Op.rd, Cm.rd, Bl.rd, Mt.rd, Mt.rc, dNop, dSeq, dExpr, dRet, dRetN, dIf, gD, dAsg, dPar, dPut, dRaise, dVar, dC, dBin, dUn, dNil, dCons, dTup, dLst, dTst, dAndT, dOrT, dNotT, dYes, dAnd, dOr, dNot, dChain, dCall, dCB, dMt, dLset, dSrev, dTry, dIsx, dEmp, dDic1, dStp, dFld, dMeth, dMake, dFset, dGin, dGix, dRep, dTryu, dTryn, conD, xsub, Ex.sub, dSlc, dPart, dNoPart, dIAny, dI1, dI2, dI3, dFor, dComp, compB, wipeD, startD, endsOf, at_mk, setAll, add_int, sub_int, mul_int, mul_tup, pow_int, mod_int, fdiv_int, lt_int, le_int, gt_int, ge_int, eq_int, neg_int, len_tup, len_scr, abs_int, max_int, min_int, int_int, int_bl, r1_int, r2_int, tuple_tup, list_tup, over_tup, rev_tup, enum_tup, zip_tup, slc_tup, add_tup, isi_any, ix_tup, ix_scr, ix_num0, ix_num1, len_num, num_0, num_1, atI_0, atI_1, atI_2, List.map, List.cons_append, List.nil_append, List.getElem?_cons_zero, List.getElem?_cons_succ, List.getElem?_nil, List.set_cons_zero, List.set_cons_succ, List.replicate, List.length_cons, List.length_nil, List.foldr_cons, List.foldr_nil, Nat.reduceAdd, Nat.reduceSub, List.replicate_succ, List.replicate_zero, G_up_same, decide_eq_true_eq, Bool.not_eq_true', Bool.false_eq_true, if_true, if_false, ite_true, ite_false, and_true, true_and, reduceCtorEq, Bool.not_true, Bool.not_false, Bool.false_bne, Bool.true_bne, sl0, sl1, sl2, sl3, sl4]
  refine c_twoB 16 16 zp zq (by decide) (by decide) (by decide) (by omega) (by omega) fun r2 t2 l2 z2 e2 => ?_
  intro a
  refine so_rule (m := max p.length q.length) h27 h28 (by omega) t2 l2 (by omega) z2 (by decide) e2 (fun j g2 F hj hF => ?_) ?_
  · simp only [lamL, mnS, dLamr, mn, Mn.of, Op.rd, Cm.rd, Bl.rd, Mt.rd, Mt.rc, dNop, dSeq, dExpr, dRet, dRetN, dIf, gD, dAsg, dPar, dPut, dRaise, dVar, dC, dBin, dUn, dNil, dCons, dTup, dLst, dTst, dAndT, dOrT, dNotT, dYes, dAnd, dOr, dNot, dChain, dCall, dCB, dMt, dLset, dSrev, dTry, dIsx, dEmp, dDic1, dStp, dFld, dMeth, dMake, dFset, dGin, dGix, dRep, dTryu, dTryn, conD, xsub, Ex.sub, dSlc, dPart, dNoPart, dIAny, dI1, dI2, dI3, dFor, dComp, compB, wipeD, startD, endsOf, at_mk, setAll, add_int, sub_int, mul_int, mul_tup, pow_int, mod_int, fdiv_int, lt_int, le_int, gt_int, ge_int, eq_int, neg_int, len_tup, len_scr, abs_int, max_int, min_int, int_int, int_bl, r1_int, r2_int, tuple_tup, list_tup, over_tup, rev_tup, enum_tup, zip_tup, slc_tup, add_tup, isi_any, ix_tup, ix_scr, ix_num0, ix_num1, len_num, num_0, num_1, atI_0, atI_1, atI_2, List.map, List.cons_append, List.nil_append, List.getElem?_cons_zero, List.getElem?_cons_succ, List.getElem?_nil, List.set_cons_zero, List.set_cons_succ, List.replicate, List.length_cons, List.length_nil, List.foldr_cons, List.foldr_nil, Nat.reduceAdd, Nat.reduceSub, List.replicate_succ, List.replicate_zero, G_up_same, decide_eq_true_eq, Bool.not_eq_true', Bool.false_eq_true, if_true, if_false, ite_true, ite_false, and_true, true_and, reduceCtorEq, Bool.not_true, Bool.not_false, Bool.false_bne, Bool.true_bne, sl0, sl1, sl2, sl3, sl4, Option.getD_some]
    exact two hj hF
  try simp only [mnS, dLamr, mn, Mn.of, Op.rd, Cm.rd, Bl.rd, Mt.rd, Mt.rc, dNop, dSeq, dExpr, dRet, dRetN, dIf, gD, dAsg, dPar, dPut, dRaise, dVar, dC, dBin, dUn, dNil, dCons, dTup, dLst, dTst, dAndT, dOrT, dNotT, dYes, dAnd, dOr, dNot, dChain, dCall, dCB, dMt, dLset, dSrev, dTry, dIsx, dEmp, dDic1, dStp, dFld, dMeth, dMake, dFset, dGin, dGix, dRep, dTryu, dTryn, conD, xsub, Ex.sub, dSlc, dPart, dNoPart, dIAny, dI1, dI2, dI3, dFor, dComp, compB, wipeD, startD, endsOf, at_mk, setAll, add_int, sub_int, mul_int, mul_tup, pow_int, mod_int, fdiv_int, lt_int, le_int, gt_int, ge_int, eq_int, neg_int, len_tup, len_scr, abs_int, max_int, min_int, int_int, int_bl, r1_int, r2_int, tuple_tup, list_tup, over_tup, rev_tup, enum_tup, zip_tup, slc_tup, add_tup, isi_any, ix_tup, ix_scr, ix_num0, ix_num1, len_num, num_0, num_1, atI_0, atI_1, atI_2, List.map, List.cons_append, List.nil_append, List.getElem?_cons_zero, List.getElem?_cons_succ, List.getElem?_nil, List.set_cons_zero, List.set_cons_succ, List.replicate, List.length_cons, List.length_nil, List.foldr_cons, List.foldr_nil, Nat.reduceAdd, Nat.reduceSub, List.replicate_succ, List.replicate_zero, G_up_same, decide_eq_true_eq, Bool.not_eq_true', Bool.false_eq_true, if_true, if_false, ite_true, ite_false, and_true, true_and, reduceCtorEq, Bool.not_true, Bool.not_false, Bool.false_bne, Bool.true_bne, sl0, sl1, sl2, sl3, sl4]
  refine c_scaledB 16 16 zp zr (by decide) (by omega) fun r3 t3 l3 z3 e3 => ?_
  intro a
  refine so_rule (m := p.length) h27 h28 rfl t3 l3 (by omega) z3 (by decide) e3 (fun j g2 F hj hF => ?_) ?_
  · simp only [lamL, mnS, dLamr, mn, Mn.of, Op.rd, Cm.rd, Bl.rd, Mt.rd, Mt.rc, dNop, dSeq, dExpr, dRet, dRetN, dIf, gD, dAsg, dPar, dPut, dRaise, dVar, dC, dBin, dUn, dNil, dCons, dTup, dLst, dTst, dAndT, dOrT, dNotT, dYes, dAnd, dOr, dNot, dChain, dCall, dCB, dMt, dLset, dSrev, dTry, dIsx, dEmp, dDic1, dStp, dFld, dMeth, dMake, dFset, dGin, dGix, dRep, dTryu, dTryn, conD, xsub, Ex.sub, dSlc, dPart, dNoPart, dIAny, dI1, dI2, dI3, dFor, dComp, compB, wipeD, startD, endsOf, at_mk, setAll, add_int, sub_int, mul_int, mul_tup, pow_int, mod_int, fdiv_int, lt_int, le_int, gt_int, ge_int, eq_int, neg_int, len_tup, len_scr, abs_int, max_int, min_int, int_int, int_bl, r1_int, r2_int, tuple_tup, list_tup, over_tup, rev_tup, enum_tup, zip_tup, slc_tup, add_tup, isi_any, ix_tup, ix_scr, ix_num0, ix_num1, len_num, num_0, num_1, atI_0, atI_1, atI_2, List.map, List.cons_append, List.nil_append, List.getElem?_cons_zero, List.getElem?_cons_succ, List.getElem?_nil, List.set_cons_zero, List.set_cons_succ, List.replicate, List.length_cons, List.length_nil, List.foldr_cons, List.foldr_nil, Nat.reduceAdd, Nat.reduceSub, List.replicate_succ, List.replicate_zero, G_up_same, decide_eq_true_eq, Bool.not_eq_true', Bool.false_eq_true, if_true, if_false, ite_true, ite_false, and_true, true_and, reduceCtorEq, Bool.not_true, Bool.not_false, Bool.false_bne, Bool.true_bne, sl0, sl1, sl2, sl3, sl4, Option.getD_some]
    have s1 := ev_jz lp zp hj
    exact ev_j lp zp hj (c_bin.mpr ⟨by omega, hF⟩)
  try simp only [mnS, dLamr, mn, Mn.of, Op.rd, Cm.rd, Bl.rd, Mt.rd, Mt.rc, dNop, dSeq, dExpr, dRet, dRetN, dIf, gD, dAsg, dPar, dPut, dRaise, dVar, dC, dBin, dUn, dNil, dCons, dTup, dLst, dTst, dAndT, dOrT, dNotT, dYes, dAnd, dOr, dNot, dChain, dCall, dCB, dMt, dLset, dSrev, dTry, dIsx, dEmp, dDic1, dStp, dFld, dMeth, dMake, dFset, dGin, dGix, dRep, dTryu, dTryn, conD, xsub, Ex.sub, dSlc, dPart, dNoPart, dIAny, dI1, dI2, dI3, dFor, dComp, compB, wipeD, startD, endsOf, at_mk, setAll, add_int, sub_int, mul_int, mul_tup, pow_int, mod_int, fdiv_int, lt_int, le_int, gt_int, ge_int, eq_int, neg_int, len_tup, len_scr, abs_int, max_int, min_int, int_int, int_bl, r1_int, r2_int, tuple_tup, list_tup, over_tup, rev_tup, enum_tup, zip_tup, slc_tup, add_tup, isi_any, ix_tup, ix_scr, ix_num0, ix_num1, len_num, num_0, num_1, atI_0, atI_1, atI_2, List.map, List.cons_append, List.nil_append, List.getElem?_cons_zero, List.getElem?_cons_succ, List.getElem?_nil, List.set_cons_zero, List.set_cons_succ, List.replicate, List.length_cons, List.length_nil, List.foldr_cons, List.foldr_nil, Nat.reduceAdd, Nat.reduceSub, List.replicate_succ, List.replicate_zero, G_up_same, decide_eq_true_eq, Bool.not_eq_true', Bool.false_eq_true, if_true, if_false, ite_true, ite_false, and_true, true_and, reduceCtorEq, Bool.not_true, Bool.not_false, Bool.false_bne, Bool.true_bne, sl0, sl1, sl2, sl3, sl4]
  have m1 : min q.length p.length * (16 + 16 + 1) ≤ 16 * 33 := Nat.mul_le_mul_right _ (by omega)
  have m2 : min p.length q.length * (16 + 16 + 1) ≤ 16 * 33 := Nat.mul_le_mul_right _ (by omega)
  refine c_twoB 16 16 zq zp (by decide) (by decide) (show min q.length p.length * (16 + 16 + 1) + 1 ≤ 100000000 by omega) (by omega) (by omega) fun r4 t4 l4 z4 e4 => ?_
  refine c_twoB 16 16 zp zq (by decide) (by decide) (show min p.length q.length * (16 + 16 + 1) + 1 ≤ 100000000 by omega) (by omega) (by omega) fun r5 t5 l5 z5 e5 => ?_
  have e : r5 = r4 := tight_congr t5 t4 fun x => by rw [e4, e5, Rat.mul_comm]
  refine eq_tup (fun _ => ?_) fun z => absurd e z
  try simp only [mnS, dLamr, mn, Mn.of, Op.rd, Cm.rd, Bl.rd, Mt.rd, Mt.rc, dNop, dSeq, dExpr, dRet, dRetN, dIf, gD, dAsg, dPar, dPut, dRaise, dVar, dC, dBin, dUn, dNil, dCons, dTup, dLst, dTst, dAndT, dOrT, dNotT, dYes, dAnd, dOr, dNot, dChain, dCall, dCB, dMt, dLset, dSrev, dTry, dIsx, dEmp, dDic1, dStp, dFld, dMeth, dMake, dFset, dGin, dGix, dRep, dTryu, dTryn, conD, xsub, Ex.sub, dSlc, dPart, dNoPart, dIAny, dI1, dI2, dI3, dFor, dComp, compB, wipeD, startD, endsOf, at_mk, setAll, add_int, sub_int, mul_int, mul_tup, pow_int, mod_int, fdiv_int, lt_int, le_int, gt_int, ge_int, eq_int, neg_int, len_tup, len_scr, abs_int, max_int, min_int, int_int, int_bl, r1_int, r2_int, tuple_tup, list_tup, over_tup, rev_tup, enum_tup, zip_tup, slc_tup, add_tup, isi_any, ix_tup, ix_scr, ix_num0, ix_num1, len_num, num_0, num_1, atI_0, atI_1, atI_2, List.map, List.cons_append, List.nil_append, List.getElem?_cons_zero, List.getElem?_cons_succ, List.getElem?_nil, List.set_cons_zero, List.set_cons_succ, List.replicate, List.length_cons, List.length_nil, List.foldr_cons, List.foldr_nil, Nat.reduceAdd, Nat.reduceSub, List.replicate_succ, List.replicate_zero, G_up_same, decide_eq_true_eq, Bool.not_eq_true', Bool.false_eq_true, if_true, if_false, ite_true, ite_false, and_true, true_and, reduceCtorEq, Bool.not_true, Bool.not_false, Bool.false_bne, Bool.true_bne, sl0, sl1, sl2, sl3, sl4]
  intro a
  have l4 : r4.length ≤ q.length + p.length - 1 := l4
  refine so_rule (m := q.length + p.length - 1) (v := fun x => ev p x * ev q x) h27 h28 (by omega) t4 l4 (by omega) z4 (show min q.length p.length * (16 + 16 + 1) + 1 ≤ 600 by omega) (fun x => by rw [e4, Rat.mul_comm]) (fun j g2 F hj hF => ?_) ?_
  · simp only [lamL, mnS, dLamr, mn, Mn.of, Op.rd, Cm.rd, Bl.rd, Mt.rd, Mt.rc, dNop, dSeq, dExpr, dRet, dRetN, dIf, gD, dAsg, dPar, dPut, dRaise, dVar, dC, dBin, dUn, dNil, dCons, dTup, dLst, dTst, dAndT, dOrT, dNotT, dYes, dAnd, dOr, dNot, dChain, dCall, dCB, dMt, dLset, dSrev, dTry, dIsx, dEmp, dDic1, dStp, dFld, dMeth, dMake, dFset, dGin, dGix, dRep, dTryu, dTryn, conD, xsub, Ex.sub, dSlc, dPart, dNoPart, dIAny, dI1, dI2, dI3, dFor, dComp, compB, wipeD, startD, endsOf, at_mk, setAll, add_int, sub_int, mul_int, mul_tup, pow_int, mod_int, fdiv_int, lt_int, le_int, gt_int, ge_int, eq_int, neg_int, len_tup, len_scr, abs_int, max_int, min_int, int_int, int_bl, r1_int, r2_int, tuple_tup, list_tup, over_tup, rev_tup, enum_tup, zip_tup, slc_tup, add_tup, isi_any, ix_tup, ix_scr, ix_num0, ix_num1, len_num, num_0, num_1, atI_0, atI_1, atI_2, List.map, List.cons_append, List.nil_append, List.getElem?_cons_zero, List.getElem?_cons_succ, List.getElem?_nil, List.set_cons_zero, List.set_cons_succ, List.replicate, List.length_cons, List.length_nil, List.foldr_cons, List.foldr_nil, Nat.reduceAdd, Nat.reduceSub, List.replicate_succ, List.replicate_zero, G_up_same, decide_eq_true_eq, Bool.not_eq_true', Bool.false_eq_true, if_true, if_false, ite_true, ite_false, and_true, true_and, reduceCtorEq, Bool.not_true, Bool.not_false, Bool.false_bne, Bool.true_bne, sl0, sl1, sl2, sl3, sl4, Option.getD_some]
    exact two hj hF
  exact ⟨_, G.le_refl _, h⟩
structure Cv05 (c : List Rat) : Prop where
  t : Tight c
  l : c.length ≤ 16
  z : Szs 16 c
theorem cut_m1 {α : Type} {xs : List α} : cut xs none (some (-1)) = xs.dropLast := by
  unfold cut
  rw [show HT.sIx xs.length 0 none = 0 from rfl, show HT.sIx xs.length xs.length (some (-1)) = xs.length - 1 by unfold HT.sIx; simp; omega]
  rw [List.dropLast_eq_take]
  simp
theorem k05_1 {E : XD} {o : G} {ns : List Int} {a : Addr} {xs : List D} {n : Nat} {p q : List Rat} {o4 o5 o6 o7 o8 o9 : Option D} (h4 : Γ 4 = spDraw) (h32 : Γ 32 = spLessened) (h36 : Γ 36 = spPenFn (isNumD 16) 4) (h482 : Γ 482 = spRight05) (P : Cv05 p) (R : Cv05 q) (K : KN o a g [(a, xs)]) (hp : PenL xs n) (hn : n + 20 < 2 ^ 50) (hQ : ∀ g' xs', KN o a g' [(a, xs')] → ∃ g0, g0.le g' ∧ Q (.bl true) g0) :
    mnS Γ gl sx_law_k05_v2_1 (endsOf Q E) [some (.scr ns), some (.ref a), some (.tup (nums p)), some (.tup (nums q)), o4, o5, o6, o7, o8, o9] g := by
  simp only [sx_law_k05_v2_1, h4, h32, h36, h482, mnS, dLamr, mn, Mn.of, Op.rd, Cm.rd, Bl.rd, Mt.rd, Mt.rc, dNop, dSeq, dExpr, dRet, dRetN, dIf, gD, dAsg, dPar, dPut, dRaise, dVar, dC, dBin, dUn, dNil, dCons, dTup, dLst, dTst, dAndT, dOrT, dNotT, dYes, dAnd, dOr, dNot, dChain, dCall, dCB, dMt, dLset, dSrev, dTry, dIsx, dEmp, dDic1, dStp, dFld, dMeth, dMake, dFset, dGin, dGix, dRep, dTryu, dTryn, conD, xsub, Ex.sub, dSlc, dPart, dNoPart, dIAny, dI1, dI2, dI3, dFor, dComp, compB, wipeD, startD, endsOf, at_mk, setAll, add_int, sub_int, mul_int, mul_tup, pow_int, mod_int, fdiv_int, lt_int, le_int, gt_int, ge_int, eq_int, neg_int, len_tup, len_scr, abs_int, max_int, min_int, int_int, int_bl, r1_int, r2_int, tuple_tup, list_tup, over_tup, rev_tup, enum_tup, zip_tup, slc_tup, add_tup, isi_any, ix_tup, ix_scr, ix_num0, ix_num1, len_num, num_0, num_1, atI_0, atI_1, atI_2, List.map, List.cons_append, List.nil_append, List.getElem?_cons_zero, List.getElem?_cons_succ, List.getElem?_nil, List.set_cons_zero, List.set_cons_succ, List.replicate, List.length_cons, List.length_nil, List.foldr_cons, List.foldr_nil, Nat.reduceAdd, Nat.reduceSub, List.replicate_succ, List.replicate_zero, G_up_same, decide_eq_true_eq, Bool.not_eq_true', Bool.false_eq_true, if_true, if_false, ite_true, ite_false, and_true, true_and, reduceCtorEq, Bool.not_true, Bool.not_false, Bool.false_bne, Bool.true_bne, sl0, sl1, sl2, sl3, sl4]
  refine K_pen K hp (by omega) fun d1 xs1 g1 hd1 p1 K => ?_
  obtain ⟨r, rfl, hr⟩ := hd1
  intro t ht
  have K := K_new (ys := nums [r, 0]) K ht
  rw [show [num r, num 0] = nums [r, 0] from rfl]
  refine K_draw K (by decide) p1 (by omega) fun d2 xs2 g2 hd2 p2 K => ?_
  try simp only [mnS, dLamr, mn, Mn.of, Op.rd, Cm.rd, Bl.rd, Mt.rd, Mt.rc, dNop, dSeq, dExpr, dRet, dRetN, dIf, gD, dAsg, dPar, dPut, dRaise, dVar, dC, dBin, dUn, dNil, dCons, dTup, dLst, dTst, dAndT, dOrT, dNotT, dYes, dAnd, dOr, dNot, dChain, dCall, dCB, dMt, dLset, dSrev, dTry, dIsx, dEmp, dDic1, dStp, dFld, dMeth, dMake, dFset, dGin, dGix, dRep, dTryu, dTryn, conD, xsub, Ex.sub, dSlc, dPart, dNoPart, dIAny, dI1, dI2, dI3, dFor, dComp, compB, wipeD, startD, endsOf, at_mk, setAll, add_int, sub_int, mul_int, mul_tup, pow_int, mod_int, fdiv_int, lt_int, le_int, gt_int, ge_int, eq_int, neg_int, len_tup, len_scr, abs_int, max_int, min_int, int_int, int_bl, r1_int, r2_int, tuple_tup, list_tup, over_tup, rev_tup, enum_tup, zip_tup, slc_tup, add_tup, isi_any, ix_tup, ix_scr, ix_num0, ix_num1, len_num, num_0, num_1, atI_0, atI_1, atI_2, List.map, List.cons_append, List.nil_append, List.getElem?_cons_zero, List.getElem?_cons_succ, List.getElem?_nil, List.set_cons_zero, List.set_cons_succ, List.replicate, List.length_cons, List.length_nil, List.foldr_cons, List.foldr_nil, Nat.reduceAdd, Nat.reduceSub, List.replicate_succ, List.replicate_zero, G_up_same, decide_eq_true_eq, Bool.not_eq_true', Bool.false_eq_true, if_true, if_false, ite_true, ite_false, and_true, true_and, reduceCtorEq, Bool.not_true, Bool.not_false, Bool.false_bne, Bool.true_bne, sl0, sl1, sl2, sl3, sl4]
  have ix : ∀ {F : QD}, (∀ x : Rat, sz x ≤ 16 → F (num x) g2) → dIx (.ref t) (.int (if (d2 : Int) = 0 then 1 else 0)) g2 F := fun {F} hF => by
    split
    · rw [ix_ref (K.get 1 _ _ rfl), show (1 : Int) = ((1 : Nat) : Int) from rfl, atI_nums rfl (show [r, 0][1]? = some 0 from rfl)]
      exact hF 0 (by rw [sz_0]; decide)
    · rw [ix_ref (K.get 1 _ _ rfl), show (0 : Int) = ((0 : Nat) : Int) from rfl, atI_nums rfl (show [r, 0][0]? = some r from rfl)]
      exact hF r hr
  refine ix fun x hx => ?_
  refine ⟨p, q, x, rfl, P.t, R.t, P.l, R.l, P.z, R.z, hx, ?_⟩
  try simp only [mnS, dLamr, mn, Mn.of, Op.rd, Cm.rd, Bl.rd, Mt.rd, Mt.rc, dNop, dSeq, dExpr, dRet, dRetN, dIf, gD, dAsg, dPar, dPut, dRaise, dVar, dC, dBin, dUn, dNil, dCons, dTup, dLst, dTst, dAndT, dOrT, dNotT, dYes, dAnd, dOr, dNot, dChain, dCall, dCB, dMt, dLset, dSrev, dTry, dIsx, dEmp, dDic1, dStp, dFld, dMeth, dMake, dFset, dGin, dGix, dRep, dTryu, dTryn, conD, xsub, Ex.sub, dSlc, dPart, dNoPart, dIAny, dI1, dI2, dI3, dFor, dComp, compB, wipeD, startD, endsOf, at_mk, setAll, add_int, sub_int, mul_int, mul_tup, pow_int, mod_int, fdiv_int, lt_int, le_int, gt_int, ge_int, eq_int, neg_int, len_tup, len_scr, abs_int, max_int, min_int, int_int, int_bl, r1_int, r2_int, tuple_tup, list_tup, over_tup, rev_tup, enum_tup, zip_tup, slc_tup, add_tup, isi_any, ix_tup, ix_scr, ix_num0, ix_num1, len_num, num_0, num_1, atI_0, atI_1, atI_2, List.map, List.cons_append, List.nil_append, List.getElem?_cons_zero, List.getElem?_cons_succ, List.getElem?_nil, List.set_cons_zero, List.set_cons_succ, List.replicate, List.length_cons, List.length_nil, List.foldr_cons, List.foldr_nil, Nat.reduceAdd, Nat.reduceSub, List.replicate_succ, List.replicate_zero, G_up_same, decide_eq_true_eq, Bool.not_eq_true', Bool.false_eq_true, if_true, if_false, ite_true, ite_false, and_true, true_and, reduceCtorEq, Bool.not_true, Bool.not_false, Bool.false_bne, Bool.true_bne, sl0, sl1, sl2, sl3, sl4]
  refine ⟨q, p, x, rfl, R.t, P.t, R.l, P.l, R.z, P.z, hx, ?_⟩
  try simp only [mnS, dLamr, mn, Mn.of, Op.rd, Cm.rd, Bl.rd, Mt.rd, Mt.rc, dNop, dSeq, dExpr, dRet, dRetN, dIf, gD, dAsg, dPar, dPut, dRaise, dVar, dC, dBin, dUn, dNil, dCons, dTup, dLst, dTst, dAndT, dOrT, dNotT, dYes, dAnd, dOr, dNot, dChain, dCall, dCB, dMt, dLset, dSrev, dTry, dIsx, dEmp, dDic1, dStp, dFld, dMeth, dMake, dFset, dGin, dGix, dRep, dTryu, dTryn, conD, xsub, Ex.sub, dSlc, dPart, dNoPart, dIAny, dI1, dI2, dI3, dFor, dComp, compB, wipeD, startD, endsOf, at_mk, setAll, add_int, sub_int, mul_int, mul_tup, pow_int, mod_int, fdiv_int, lt_int, le_int, gt_int, ge_int, eq_int, neg_int, len_tup, len_scr, abs_int, max_int, min_int, int_int, int_bl, r1_int, r2_int, tuple_tup, list_tup, over_tup, rev_tup, enum_tup, zip_tup, slc_tup, add_tup, isi_any, ix_tup, ix_scr, ix_num0, ix_num1, len_num, num_0, num_1, atI_0, atI_1, atI_2, List.map, List.cons_append, List.nil_append, List.getElem?_cons_zero, List.getElem?_cons_succ, List.getElem?_nil, List.set_cons_zero, List.set_cons_succ, List.replicate, List.length_cons, List.length_nil, List.foldr_cons, List.foldr_nil, Nat.reduceAdd, Nat.reduceSub, List.replicate_succ, List.replicate_zero, G_up_same, decide_eq_true_eq, Bool.not_eq_true', Bool.false_eq_true, if_true, if_false, ite_true, ite_false, and_true, true_and, reduceCtorEq, Bool.not_true, Bool.not_false, Bool.false_bne, Bool.true_bne, sl0, sl1, sl2, sl3, sl4]
  have lp := P.l
  refine c_twoB 16 16 P.z P.z (by decide) (by decide) (by decide) (by omega) (by omega) fun r1 t1 l1 z1 e1 => ?_
  have e : r1 = [] := tight_congr t1 tight_nil fun y => by rw [e1, ev_nil]; grind
  refine eq_tup (q := []) (fun _ => ?_) fun z => absurd e z
  exact hQ g2 xs2 (K.pick [0] (by decide))
theorem k05_2 {E : XD} {o : G} {ns : List Int} {a : Addr} {xs : List D} {n : Nat} {p q : List Rat} {o4 o5 o6 o7 o8 o9 : Option D} (h4 : Γ 4 = spDraw) (h32 : Γ 32 = spLessened) (h36 : Γ 36 = spPenFn (isNumD 16) 4) (h482 : Γ 482 = spRight05) (P : Cv05 p) (R : Cv05 q) (K : KN o a g [(a, xs)]) (hp : PenL xs n) (hn : n + 50 < 2 ^ 50) (hQ : ∀ g' xs', KN o a g' [(a, xs')] → ∃ g0, g0.le g' ∧ Q (.bl true) g0) :
    mnS Γ gl sx_law_k05_v2_2 (endsOf Q E) [some (.scr ns), some (.ref a), some (.tup (nums p)), some (.tup (nums q)), o4, o5, o6, o7, o8, o9] g := by
  simp only [sx_law_k05_v2_2, h4, mnS, dLamr, mn, Mn.of, Op.rd, Cm.rd, Bl.rd, Mt.rd, Mt.rc, dNop, dSeq, dExpr, dRet, dRetN, dIf, gD, dAsg, dPar, dPut, dRaise, dVar, dC, dBin, dUn, dNil, dCons, dTup, dLst, dTst, dAndT, dOrT, dNotT, dYes, dAnd, dOr, dNot, dChain, dCall, dCB, dMt, dLset, dSrev, dTry, dIsx, dEmp, dDic1, dStp, dFld, dMeth, dMake, dFset, dGin, dGix, dRep, dTryu, dTryn, conD, xsub, Ex.sub, dSlc, dPart, dNoPart, dIAny, dI1, dI2, dI3, dFor, dComp, compB, wipeD, startD, endsOf, at_mk, setAll, add_int, sub_int, mul_int, mul_tup, pow_int, mod_int, fdiv_int, lt_int, le_int, gt_int, ge_int, eq_int, neg_int, len_tup, len_scr, abs_int, max_int, min_int, int_int, int_bl, r1_int, r2_int, tuple_tup, list_tup, over_tup, rev_tup, enum_tup, zip_tup, slc_tup, add_tup, isi_any, ix_tup, ix_scr, ix_num0, ix_num1, len_num, num_0, num_1, atI_0, atI_1, atI_2, List.map, List.cons_append, List.nil_append, List.getElem?_cons_zero, List.getElem?_cons_succ, List.getElem?_nil, List.set_cons_zero, List.set_cons_succ, List.replicate, List.length_cons, List.length_nil, List.foldr_cons, List.foldr_nil, Nat.reduceAdd, Nat.reduceSub, List.replicate_succ, List.replicate_zero, G_up_same, decide_eq_true_eq, Bool.not_eq_true', Bool.false_eq_true, if_true, if_false, ite_true, ite_false, and_true, true_and, reduceCtorEq, Bool.not_true, Bool.not_false, Bool.false_bne, Bool.true_bne, sl0, sl1, sl2, sl3, sl4]
  refine K_draw K (by decide) hp (by omega) fun d1 xs1 g1 hd1 p1 K => ?_
  try simp only [mnS, dLamr, mn, Mn.of, Op.rd, Cm.rd, Bl.rd, Mt.rd, Mt.rc, dNop, dSeq, dExpr, dRet, dRetN, dIf, gD, dAsg, dPar, dPut, dRaise, dVar, dC, dBin, dUn, dNil, dCons, dTup, dLst, dTst, dAndT, dOrT, dNotT, dYes, dAnd, dOr, dNot, dChain, dCall, dCB, dMt, dLset, dSrev, dTry, dIsx, dEmp, dDic1, dStp, dFld, dMeth, dMake, dFset, dGin, dGix, dRep, dTryu, dTryn, conD, xsub, Ex.sub, dSlc, dPart, dNoPart, dIAny, dI1, dI2, dI3, dFor, dComp, compB, wipeD, startD, endsOf, at_mk, setAll, add_int, sub_int, mul_int, mul_tup, pow_int, mod_int, fdiv_int, lt_int, le_int, gt_int, ge_int, eq_int, neg_int, len_tup, len_scr, abs_int, max_int, min_int, int_int, int_bl, r1_int, r2_int, tuple_tup, list_tup, over_tup, rev_tup, enum_tup, zip_tup, slc_tup, add_tup, isi_any, ix_tup, ix_scr, ix_num0, ix_num1, len_num, num_0, num_1, atI_0, atI_1, atI_2, List.map, List.cons_append, List.nil_append, List.getElem?_cons_zero, List.getElem?_cons_succ, List.getElem?_nil, List.set_cons_zero, List.set_cons_succ, List.replicate, List.length_cons, List.length_nil, List.foldr_cons, List.foldr_nil, Nat.reduceAdd, Nat.reduceSub, List.replicate_succ, List.replicate_zero, G_up_same, decide_eq_true_eq, Bool.not_eq_true', Bool.false_eq_true, if_true, if_false, ite_true, ite_false, and_true, true_and, reduceCtorEq, Bool.not_true, Bool.not_false, Bool.false_bne, Bool.true_bne, sl0, sl1, sl2, sl3, sl4]
  split
  · refine ⟨by decide, slN (by rw [range_len]; decide), fun s hs => ?_⟩
    refine K_whole (n := n + 1) (cnt := 15) (m := 19) (f := fun _ d => (d : Int) - 9) K hs p1 (by omega) (fun k g' xs' M N hk hp K hN => ?_) fun zs xs2 g2 hzl hz p2 K => ?_
    · try simp only [mnS, dLamr, mn, Mn.of, Op.rd, Cm.rd, Bl.rd, Mt.rd, Mt.rc, dNop, dSeq, dExpr, dRet, dRetN, dIf, gD, dAsg, dPar, dPut, dRaise, dVar, dC, dBin, dUn, dNil, dCons, dTup, dLst, dTst, dAndT, dOrT, dNotT, dYes, dAnd, dOr, dNot, dChain, dCall, dCB, dMt, dLset, dSrev, dTry, dIsx, dEmp, dDic1, dStp, dFld, dMeth, dMake, dFset, dGin, dGix, dRep, dTryu, dTryn, conD, xsub, Ex.sub, dSlc, dPart, dNoPart, dIAny, dI1, dI2, dI3, dFor, dComp, compB, wipeD, startD, endsOf, at_mk, setAll, add_int, sub_int, mul_int, mul_tup, pow_int, mod_int, fdiv_int, lt_int, le_int, gt_int, ge_int, eq_int, neg_int, len_tup, len_scr, abs_int, max_int, min_int, int_int, int_bl, r1_int, r2_int, tuple_tup, list_tup, over_tup, rev_tup, enum_tup, zip_tup, slc_tup, add_tup, isi_any, ix_tup, ix_scr, ix_num0, ix_num1, len_num, num_0, num_1, atI_0, atI_1, atI_2, List.map, List.cons_append, List.nil_append, List.getElem?_cons_zero, List.getElem?_cons_succ, List.getElem?_nil, List.set_cons_zero, List.set_cons_succ, List.replicate, List.length_cons, List.length_nil, List.foldr_cons, List.foldr_nil, Nat.reduceAdd, Nat.reduceSub, List.replicate_succ, List.replicate_zero, G_up_same, decide_eq_true_eq, Bool.not_eq_true', Bool.false_eq_true, if_true, if_false, ite_true, ite_false, and_true, true_and, reduceCtorEq, Bool.not_true, Bool.not_false, Bool.false_bne, Bool.true_bne, sl0, sl1, sl2, sl3, sl4]
      refine K_draw K (by decide) hp (by omega) fun d xs3 g3 hd p3 K => ?_
      try simp only [mnS, dLamr, mn, Mn.of, Op.rd, Cm.rd, Bl.rd, Mt.rd, Mt.rc, dNop, dSeq, dExpr, dRet, dRetN, dIf, gD, dAsg, dPar, dPut, dRaise, dVar, dC, dBin, dUn, dNil, dCons, dTup, dLst, dTst, dAndT, dOrT, dNotT, dYes, dAnd, dOr, dNot, dChain, dCall, dCB, dMt, dLset, dSrev, dTry, dIsx, dEmp, dDic1, dStp, dFld, dMeth, dMake, dFset, dGin, dGix, dRep, dTryu, dTryn, conD, xsub, Ex.sub, dSlc, dPart, dNoPart, dIAny, dI1, dI2, dI3, dFor, dComp, compB, wipeD, startD, endsOf, at_mk, setAll, add_int, sub_int, mul_int, mul_tup, pow_int, mod_int, fdiv_int, lt_int, le_int, gt_int, ge_int, eq_int, neg_int, len_tup, len_scr, abs_int, max_int, min_int, int_int, int_bl, r1_int, r2_int, tuple_tup, list_tup, over_tup, rev_tup, enum_tup, zip_tup, slc_tup, add_tup, isi_any, ix_tup, ix_scr, ix_num0, ix_num1, len_num, num_0, num_1, atI_0, atI_1, atI_2, List.map, List.cons_append, List.nil_append, List.getElem?_cons_zero, List.getElem?_cons_succ, List.getElem?_nil, List.set_cons_zero, List.set_cons_succ, List.replicate, List.length_cons, List.length_nil, List.foldr_cons, List.foldr_nil, Nat.reduceAdd, Nat.reduceSub, List.replicate_succ, List.replicate_zero, G_up_same, decide_eq_true_eq, Bool.not_eq_true', Bool.false_eq_true, if_true, if_false, ite_true, ite_false, and_true, true_and, reduceCtorEq, Bool.not_true, Bool.not_false, Bool.false_bne, Bool.true_bne, sl0, sl1, sl2, sl3, sl4]
      exact hN d xs3 g3 (by omega) p3 K
    have hCl : (zs.map fun z : Int => (z : Rat)).length = 15 := by rw [List.length_map, hzl]
    have hCz : Szs 16 (zs.map fun z : Int => (z : Rat)) := fun q hq => by
      obtain ⟨z, hz2, rfl⟩ := List.mem_map.mp hq
      obtain ⟨i, hi⟩ := List.mem_iff_getElem?.mp hz2
      obtain ⟨d, hd, rfl⟩ := hz i z hi
      exact Nat.le_trans (sz_j (by omega)) (by decide)
    generalize (zs.map fun z : Int => (z : Rat)) = C0 at K hCl hCz
    refine K_draw K (by decide) p2 (by omega) fun d2 xs4 g4 hd2 p4 K => ?_
    try simp only [mnS, dLamr, mn, Mn.of, Op.rd, Cm.rd, Bl.rd, Mt.rd, Mt.rc, dNop, dSeq, dExpr, dRet, dRetN, dIf, gD, dAsg, dPar, dPut, dRaise, dVar, dC, dBin, dUn, dNil, dCons, dTup, dLst, dTst, dAndT, dOrT, dNotT, dYes, dAnd, dOr, dNot, dChain, dCall, dCB, dMt, dLset, dSrev, dTry, dIsx, dEmp, dDic1, dStp, dFld, dMeth, dMake, dFset, dGin, dGix, dRep, dTryu, dTryn, conD, xsub, Ex.sub, dSlc, dPart, dNoPart, dIAny, dI1, dI2, dI3, dFor, dComp, compB, wipeD, startD, endsOf, at_mk, setAll, add_int, sub_int, mul_int, mul_tup, pow_int, mod_int, fdiv_int, lt_int, le_int, gt_int, ge_int, eq_int, neg_int, len_tup, len_scr, abs_int, max_int, min_int, int_int, int_bl, r1_int, r2_int, tuple_tup, list_tup, over_tup, rev_tup, enum_tup, zip_tup, slc_tup, add_tup, isi_any, ix_tup, ix_scr, ix_num0, ix_num1, len_num, num_0, num_1, atI_0, atI_1, atI_2, List.map, List.cons_append, List.nil_append, List.getElem?_cons_zero, List.getElem?_cons_succ, List.getElem?_nil, List.set_cons_zero, List.set_cons_succ, List.replicate, List.length_cons, List.length_nil, List.foldr_cons, List.foldr_nil, Nat.reduceAdd, Nat.reduceSub, List.replicate_succ, List.replicate_zero, G_up_same, decide_eq_true_eq, Bool.not_eq_true', Bool.false_eq_true, if_true, if_false, ite_true, ite_false, and_true, true_and, reduceCtorEq, Bool.not_true, Bool.not_false, Bool.false_bne, Bool.true_bne, sl0, sl1, sl2, sl3, sl4]
    intro u hu
    rw [show [D.tup [.int (1 + (d2 : Int)), .int 1]] = nums [((1 + (d2 : Int) : Int) : Rat)] from rfl]
    have K := K_new (ys := nums [((1 + (d2 : Int) : Int) : Rat)]) K hu
    rw [add_ref (K.get 1 _ _ rfl) (K.get 2 _ _ rfl)]
    refine ⟨slN (by rw [nums_len, nums_len, hCl]; simp), fun v hv => ?_⟩
    rw [show nums C0 ++ nums [((1 + (d2 : Int) : Int) : Rat)] = nums (C0 ++ [((1 + (d2 : Int) : Int) : Rat)]) by simp [nums]]
    have K := K_new (ys := nums (C0 ++ [((1 + (d2 : Int) : Int) : Rat)])) K hv
    rw [tuple_ref (K.get 3 _ _ rfl)]
    have hP : Cv05 (C0 ++ [((1 + (d2 : Int) : Int) : Rat)]) := by
      refine ⟨fun z hz => ?_, by simp [hCl], fun z hz => ?_⟩
      · rw [List.getLast?_append] at hz
        simp at hz
        rw [← hz]
        intro w
        have : (1 + (d2 : Int)) = 0 := by exact_mod_cast w
        omega
      · rcases List.mem_append.mp hz with hz | hz
        · exact hCz z hz
        · rw [List.mem_singleton.mp hz]
          exact Nat.le_trans (sz_j (by omega)) (by decide)
    exact k05_1 h4 h32 h36 h482 hP R (K.pick [0] (by decide)) p4 (by omega) hQ
  · exact k05_1 h4 h32 h36 h482 P R K p1 (by omega) hQ
theorem k05_3 {E : XD} {o : G} {ns : List Int} {a : Addr} {xs : List D} {n : Nat} {p q : List Rat} {w : Nat} {o5 o6 o7 o8 o9 : Option D} (h4 : Γ 4 = spDraw) (h32 : Γ 32 = spLessened) (h36 : Γ 36 = spPenFn (isNumD 16) 4) (h482 : Γ 482 = spRight05) (P : Cv05 p) (P7 : p.length ≤ 7) (R : Cv05 q) (K : KN o a g [(a, xs)]) (hp : PenL xs n) (hn : n + 150 < 2 ^ 50) (hQ : ∀ g' xs', KN o a g' [(a, xs')] → ∃ g0, g0.le g' ∧ Q (.bl true) g0) :
    mnS Γ gl sx_law_k05_v2_3 (endsOf Q E) [some (.scr ns), some (.ref a), some (.tup (nums p)), some (.tup (nums q)), some (.int (w : Int)), o5, o6, o7, o8, o9] g := by
  simp only [sx_law_k05_v2_3, h4, h36, mnS, dLamr, mn, Mn.of, Op.rd, Cm.rd, Bl.rd, Mt.rd, Mt.rc, dNop, dSeq, dExpr, dRet, dRetN, dIf, gD, dAsg, dPar, dPut, dRaise, dVar, dC, dBin, dUn, dNil, dCons, dTup, dLst, dTst, dAndT, dOrT, dNotT, dYes, dAnd, dOr, dNot, dChain, dCall, dCB, dMt, dLset, dSrev, dTry, dIsx, dEmp, dDic1, dStp, dFld, dMeth, dMake, dFset, dGin, dGix, dRep, dTryu, dTryn, conD, xsub, Ex.sub, dSlc, dPart, dNoPart, dIAny, dI1, dI2, dI3, dFor, dComp, compB, wipeD, startD, endsOf, at_mk, setAll, add_int, sub_int, mul_int, mul_tup, pow_int, mod_int, fdiv_int, lt_int, le_int, gt_int, ge_int, eq_int, neg_int, len_tup, len_scr, abs_int, max_int, min_int, int_int, int_bl, r1_int, r2_int, tuple_tup, list_tup, over_tup, rev_tup, enum_tup, zip_tup, slc_tup, add_tup, isi_any, ix_tup, ix_scr, ix_num0, ix_num1, len_num, num_0, num_1, atI_0, atI_1, atI_2, List.map, List.cons_append, List.nil_append, List.getElem?_cons_zero, List.getElem?_cons_succ, List.getElem?_nil, List.set_cons_zero, List.set_cons_succ, List.replicate, List.length_cons, List.length_nil, List.foldr_cons, List.foldr_nil, Nat.reduceAdd, Nat.reduceSub, List.replicate_succ, List.replicate_zero, G_up_same, decide_eq_true_eq, Bool.not_eq_true', Bool.false_eq_true, if_true, if_false, ite_true, ite_false, and_true, true_and, reduceCtorEq, Bool.not_true, Bool.not_false, Bool.false_bne, Bool.true_bne, sl0, sl1, sl2, sl3, sl4, nums_len]
  split
  · refine K_draw K (by omega) hp (by omega) fun m xs1 g1 hm p1 K => ?_
    try simp only [mnS, dLamr, mn, Mn.of, Op.rd, Cm.rd, Bl.rd, Mt.rd, Mt.rc, dNop, dSeq, dExpr, dRet, dRetN, dIf, gD, dAsg, dPar, dPut, dRaise, dVar, dC, dBin, dUn, dNil, dCons, dTup, dLst, dTst, dAndT, dOrT, dNotT, dYes, dAnd, dOr, dNot, dChain, dCall, dCB, dMt, dLset, dSrev, dTry, dIsx, dEmp, dDic1, dStp, dFld, dMeth, dMake, dFset, dGin, dGix, dRep, dTryu, dTryn, conD, xsub, Ex.sub, dSlc, dPart, dNoPart, dIAny, dI1, dI2, dI3, dFor, dComp, compB, wipeD, startD, endsOf, at_mk, setAll, add_int, sub_int, mul_int, mul_tup, pow_int, mod_int, fdiv_int, lt_int, le_int, gt_int, ge_int, eq_int, neg_int, len_tup, len_scr, abs_int, max_int, min_int, int_int, int_bl, r1_int, r2_int, tuple_tup, list_tup, over_tup, rev_tup, enum_tup, zip_tup, slc_tup, add_tup, isi_any, ix_tup, ix_scr, ix_num0, ix_num1, len_num, num_0, num_1, atI_0, atI_1, atI_2, List.map, List.cons_append, List.nil_append, List.getElem?_cons_zero, List.getElem?_cons_succ, List.getElem?_nil, List.set_cons_zero, List.set_cons_succ, List.replicate, List.length_cons, List.length_nil, List.foldr_cons, List.foldr_nil, Nat.reduceAdd, Nat.reduceSub, List.replicate_succ, List.replicate_zero, G_up_same, decide_eq_true_eq, Bool.not_eq_true', Bool.false_eq_true, if_true, if_false, ite_true, ite_false, and_true, true_and, reduceCtorEq, Bool.not_true, Bool.not_false, Bool.false_bne, Bool.true_bne, sl0, sl1, sl2, sl3, sl4]
    refine ⟨by omega, slN (by rw [range_len]; omega), fun s hs => ?_⟩
    refine K_comp K rfl (by decide) hs p1 (by omega) fun ys xs2 g2 hy1 hy2 p2 K => ?_
    obtain ⟨qs, rfl, hqs⟩ := nums_of hy2
    rw [nums_len] at hy1
    have e1 : cut (nums p) (some (m : Int)) none = nums (p.drop m) := by
      unfold cut
      rw [show HT.sIx (nums p).length 0 (some (m : Int)) = m by unfold HT.sIx; rw [nums_len]; simp; rw [if_neg (by omega)]; omega, show HT.sIx (nums p).length (nums p).length none = (nums p).length from rfl]
      unfold nums
      rw [← List.map_drop, List.take_of_length_le (by simp)]
    rw [e1]
    refine ⟨slN (by rw [nums_len, List.length_drop]; omega), fun u hu => ?_⟩
    refine comp_inv (fun k acc g' => acc = nums (((p.drop m).take k).map fun z => -z) ∧ g' = g2.up u acc) (fun _ _ _ _ => trivial) ?_ ?_ ⟨rfl, rfl⟩
    · rintro k x acc g' N hk ⟨rfl, rfl⟩ k1 -
      obtain ⟨z, hz, rfl⟩ := nums_at hk
      have e2 : D.tup [.int (0 - z.num), .int (z.den : Int)] = num (-z) := by
        unfold num
        rw [show (-z).num = -z.num from rfl, show (-z).den = z.den from rfl, Int.zero_sub]
      simp only [mnS, dLamr, mn, Mn.of, Op.rd, Cm.rd, Bl.rd, Mt.rd, Mt.rc, dNop, dSeq, dExpr, dRet, dRetN, dIf, gD, dAsg, dPar, dPut, dRaise, dVar, dC, dBin, dUn, dNil, dCons, dTup, dLst, dTst, dAndT, dOrT, dNotT, dYes, dAnd, dOr, dNot, dChain, dCall, dCB, dMt, dLset, dSrev, dTry, dIsx, dEmp, dDic1, dStp, dFld, dMeth, dMake, dFset, dGin, dGix, dRep, dTryu, dTryn, conD, xsub, Ex.sub, dSlc, dPart, dNoPart, dIAny, dI1, dI2, dI3, dFor, dComp, compB, wipeD, startD, endsOf, at_mk, setAll, add_int, sub_int, mul_int, mul_tup, pow_int, mod_int, fdiv_int, lt_int, le_int, gt_int, ge_int, eq_int, neg_int, len_tup, len_scr, abs_int, max_int, min_int, int_int, int_bl, r1_int, r2_int, tuple_tup, list_tup, over_tup, rev_tup, enum_tup, zip_tup, slc_tup, add_tup, isi_any, ix_tup, ix_scr, ix_num0, ix_num1, len_num, num_0, num_1, atI_0, atI_1, atI_2, List.map, List.cons_append, List.nil_append, List.getElem?_cons_zero, List.getElem?_cons_succ, List.getElem?_nil, List.set_cons_zero, List.set_cons_succ, List.replicate, List.length_cons, List.length_nil, List.foldr_cons, List.foldr_nil, Nat.reduceAdd, Nat.reduceSub, List.replicate_succ, List.replicate_zero, G_up_same, decide_eq_true_eq, Bool.not_eq_true', Bool.false_eq_true, if_true, if_false, ite_true, ite_false, and_true, true_and, reduceCtorEq, Bool.not_true, Bool.not_false, Bool.false_bne, Bool.true_bne, sl0, sl1, sl2, sl3, sl4, num]
      rw [e2]
      refine k1 _ _ G_up_same ⟨?_, by rw [G_up_up]⟩
      rw [take_s hz, List.map_append, nums_snoc]
      rfl
    rintro acc g' ⟨rfl, rfl⟩
    rw [nums_len, List.take_length]
    have K := K_new (ys := nums ((p.drop m).map fun z => -z)) K hu
    rw [add_ref (K.get 1 _ _ rfl) (K.get 2 _ _ rfl)]
    refine ⟨slN (by rw [nums_len, nums_len, List.length_map, List.length_drop]; omega), fun v hv => ?_⟩
    rw [show nums qs ++ nums ((p.drop m).map fun z => -z) = nums (qs ++ (p.drop m).map fun z => -z) by simp [nums]]
    have hl : (qs ++ (p.drop m).map fun z => -z).length ≤ 7 := by rw [List.length_append, List.length_map, List.length_drop]; omega
    have hz : Szs 16 (qs ++ (p.drop m).map fun z => -z) := fun z hz => by
      rcases List.mem_append.mp hz with hz | hz
      · exact hqs z hz
      · obtain ⟨y, hy, rfl⟩ := List.mem_map.mp hz
        have := P.z y (List.mem_of_mem_drop hy)
        exact Nat.le_trans (Nat.le_of_eq (by unfold sz; rw [show (-y).num = -y.num from rfl, show (-y).den = y.den from rfl, Int.natAbs_neg])) this
    generalize (qs ++ (p.drop m).map fun z => -z) = F at hl hz hv
    have K := K_new (ys := nums F) K hv
    rw [tuple_ref (K.get 3 _ _ rfl)]
    have K := K.pick [0] (by decide)
    generalize hg3 : (_ : G).up v (nums F) = g3 at K ⊢
    refine ⟨fun r env g' => g' = g3 ∧ ∃ (c : List Rat), env = [some (.scr ns), some (.ref a), some (.tup (nums p)), some (.tup (nums c)), some (.int (w : Int)), o5, some (.int (m : Int)), o7, o8, o9] ∧ r = c.length ∧ c.length ≤ 7 ∧ Szs 16 c, ⟨_, rfl, F, rfl, rfl, hl, hz⟩, ?_⟩
    rintro r env g' ⟨rfl, c, rfl, rfl, hcl, hcz⟩
    try simp only [mnS, dLamr, mn, Mn.of, Op.rd, Cm.rd, Bl.rd, Mt.rd, Mt.rc, dNop, dSeq, dExpr, dRet, dRetN, dIf, gD, dAsg, dPar, dPut, dRaise, dVar, dC, dBin, dUn, dNil, dCons, dTup, dLst, dTst, dAndT, dOrT, dNotT, dYes, dAnd, dOr, dNot, dChain, dCall, dCB, dMt, dLset, dSrev, dTry, dIsx, dEmp, dDic1, dStp, dFld, dMeth, dMake, dFset, dGin, dGix, dRep, dTryu, dTryn, conD, xsub, Ex.sub, dSlc, dPart, dNoPart, dIAny, dI1, dI2, dI3, dFor, dComp, compB, wipeD, startD, endsOf, at_mk, setAll, add_int, sub_int, mul_int, mul_tup, pow_int, mod_int, fdiv_int, lt_int, le_int, gt_int, ge_int, eq_int, neg_int, len_tup, len_scr, abs_int, max_int, min_int, int_int, int_bl, r1_int, r2_int, tuple_tup, list_tup, over_tup, rev_tup, enum_tup, zip_tup, slc_tup, add_tup, isi_any, ix_tup, ix_scr, ix_num0, ix_num1, len_num, num_0, num_1, atI_0, atI_1, atI_2, List.map, List.cons_append, List.nil_append, List.getElem?_cons_zero, List.getElem?_cons_succ, List.getElem?_nil, List.set_cons_zero, List.set_cons_succ, List.replicate, List.length_cons, List.length_nil, List.foldr_cons, List.foldr_nil, Nat.reduceAdd, Nat.reduceSub, List.replicate_succ, List.replicate_zero, G_up_same, decide_eq_true_eq, Bool.not_eq_true', Bool.false_eq_true, if_true, if_false, ite_true, ite_false, and_true, true_and, reduceCtorEq, Bool.not_true, Bool.not_false, Bool.false_bne, Bool.true_bne, sl0, sl1, sl2, sl3, sl4]
    refine eq_tup (q := []) (fun e0 => ?_) fun e0 => ?_
    · try simp only [mnS, dLamr, mn, Mn.of, Op.rd, Cm.rd, Bl.rd, Mt.rd, Mt.rc, dNop, dSeq, dExpr, dRet, dRetN, dIf, gD, dAsg, dPar, dPut, dRaise, dVar, dC, dBin, dUn, dNil, dCons, dTup, dLst, dTst, dAndT, dOrT, dNotT, dYes, dAnd, dOr, dNot, dChain, dCall, dCB, dMt, dLset, dSrev, dTry, dIsx, dEmp, dDic1, dStp, dFld, dMeth, dMake, dFset, dGin, dGix, dRep, dTryu, dTryn, conD, xsub, Ex.sub, dSlc, dPart, dNoPart, dIAny, dI1, dI2, dI3, dFor, dComp, compB, wipeD, startD, endsOf, at_mk, setAll, add_int, sub_int, mul_int, mul_tup, pow_int, mod_int, fdiv_int, lt_int, le_int, gt_int, ge_int, eq_int, neg_int, len_tup, len_scr, abs_int, max_int, min_int, int_int, int_bl, r1_int, r2_int, tuple_tup, list_tup, over_tup, rev_tup, enum_tup, zip_tup, slc_tup, add_tup, isi_any, ix_tup, ix_scr, ix_num0, ix_num1, len_num, num_0, num_1, atI_0, atI_1, atI_2, List.map, List.cons_append, List.nil_append, List.getElem?_cons_zero, List.getElem?_cons_succ, List.getElem?_nil, List.set_cons_zero, List.set_cons_succ, List.replicate, List.length_cons, List.length_nil, List.foldr_cons, List.foldr_nil, Nat.reduceAdd, Nat.reduceSub, List.replicate_succ, List.replicate_zero, G_up_same, decide_eq_true_eq, Bool.not_eq_true', Bool.false_eq_true, if_true, if_false, ite_true, ite_false, and_true, true_and, reduceCtorEq, Bool.not_true, Bool.not_false, Bool.false_bne, Bool.true_bne, sl0, sl1, sl2, sl3, sl4]
      subst e0
      exact k05_2 h4 h32 h36 h482 P ⟨tight_nil, by simp, fun q hq => by cases hq⟩ K p2 (by omega) hQ
    · try simp only [mnS, dLamr, mn, Mn.of, Op.rd, Cm.rd, Bl.rd, Mt.rd, Mt.rc, dNop, dSeq, dExpr, dRet, dRetN, dIf, gD, dAsg, dPar, dPut, dRaise, dVar, dC, dBin, dUn, dNil, dCons, dTup, dLst, dTst, dAndT, dOrT, dNotT, dYes, dAnd, dOr, dNot, dChain, dCall, dCB, dMt, dLset, dSrev, dTry, dIsx, dEmp, dDic1, dStp, dFld, dMeth, dMake, dFset, dGin, dGix, dRep, dTryu, dTryn, conD, xsub, Ex.sub, dSlc, dPart, dNoPart, dIAny, dI1, dI2, dI3, dFor, dComp, compB, wipeD, startD, endsOf, at_mk, setAll, add_int, sub_int, mul_int, mul_tup, pow_int, mod_int, fdiv_int, lt_int, le_int, gt_int, ge_int, eq_int, neg_int, len_tup, len_scr, abs_int, max_int, min_int, int_int, int_bl, r1_int, r2_int, tuple_tup, list_tup, over_tup, rev_tup, enum_tup, zip_tup, slc_tup, add_tup, isi_any, ix_tup, ix_scr, ix_num0, ix_num1, len_num, num_0, num_1, atI_0, atI_1, atI_2, List.map, List.cons_append, List.nil_append, List.getElem?_cons_zero, List.getElem?_cons_succ, List.getElem?_nil, List.set_cons_zero, List.set_cons_succ, List.replicate, List.length_cons, List.length_nil, List.foldr_cons, List.foldr_nil, Nat.reduceAdd, Nat.reduceSub, List.replicate_succ, List.replicate_zero, G_up_same, decide_eq_true_eq, Bool.not_eq_true', Bool.false_eq_true, if_true, if_false, ite_true, ite_false, and_true, true_and, reduceCtorEq, Bool.not_true, Bool.not_false, Bool.false_bne, Bool.true_bne, sl0, sl1, sl2, sl3, sl4]
      have hpos := List.length_pos_iff.mpr e0
      obtain ⟨c1, z, rfl⟩ : ∃ c1 z, c = c1 ++ [z] := ⟨c.dropLast, c.getLast e0, (List.dropLast_concat_getLast e0).symm⟩
      rw [show nums (c1 ++ [z]) = nums c1 ++ [num z] by rw [nums_snoc]]
      rw [atI_last]
      dsimp only
      refine eq_num (fun ez => ?_) fun ez => ?_
      · try simp only [mnS, dLamr, mn, Mn.of, Op.rd, Cm.rd, Bl.rd, Mt.rd, Mt.rc, dNop, dSeq, dExpr, dRet, dRetN, dIf, gD, dAsg, dPar, dPut, dRaise, dVar, dC, dBin, dUn, dNil, dCons, dTup, dLst, dTst, dAndT, dOrT, dNotT, dYes, dAnd, dOr, dNot, dChain, dCall, dCB, dMt, dLset, dSrev, dTry, dIsx, dEmp, dDic1, dStp, dFld, dMeth, dMake, dFset, dGin, dGix, dRep, dTryu, dTryn, conD, xsub, Ex.sub, dSlc, dPart, dNoPart, dIAny, dI1, dI2, dI3, dFor, dComp, compB, wipeD, startD, endsOf, at_mk, setAll, add_int, sub_int, mul_int, mul_tup, pow_int, mod_int, fdiv_int, lt_int, le_int, gt_int, ge_int, eq_int, neg_int, len_tup, len_scr, abs_int, max_int, min_int, int_int, int_bl, r1_int, r2_int, tuple_tup, list_tup, over_tup, rev_tup, enum_tup, zip_tup, slc_tup, add_tup, isi_any, ix_tup, ix_scr, ix_num0, ix_num1, len_num, num_0, num_1, atI_0, atI_1, atI_2, List.map, List.cons_append, List.nil_append, List.getElem?_cons_zero, List.getElem?_cons_succ, List.getElem?_nil, List.set_cons_zero, List.set_cons_succ, List.replicate, List.length_cons, List.length_nil, List.foldr_cons, List.foldr_nil, Nat.reduceAdd, Nat.reduceSub, List.replicate_succ, List.replicate_zero, G_up_same, decide_eq_true_eq, Bool.not_eq_true', Bool.false_eq_true, if_true, if_false, ite_true, ite_false, and_true, true_and, reduceCtorEq, Bool.not_true, Bool.not_false, Bool.false_bne, Bool.true_bne, sl0, sl1, sl2, sl3, sl4]
        refine ⟨c1.length, by simp, c1, ?_, rfl, by simp at hcl; omega, fun y hy => hcz y (List.mem_append_left _ hy)⟩
        rw [cut_m1, List.dropLast_concat]
      · try simp only [mnS, dLamr, mn, Mn.of, Op.rd, Cm.rd, Bl.rd, Mt.rd, Mt.rc, dNop, dSeq, dExpr, dRet, dRetN, dIf, gD, dAsg, dPar, dPut, dRaise, dVar, dC, dBin, dUn, dNil, dCons, dTup, dLst, dTst, dAndT, dOrT, dNotT, dYes, dAnd, dOr, dNot, dChain, dCall, dCB, dMt, dLset, dSrev, dTry, dIsx, dEmp, dDic1, dStp, dFld, dMeth, dMake, dFset, dGin, dGix, dRep, dTryu, dTryn, conD, xsub, Ex.sub, dSlc, dPart, dNoPart, dIAny, dI1, dI2, dI3, dFor, dComp, compB, wipeD, startD, endsOf, at_mk, setAll, add_int, sub_int, mul_int, mul_tup, pow_int, mod_int, fdiv_int, lt_int, le_int, gt_int, ge_int, eq_int, neg_int, len_tup, len_scr, abs_int, max_int, min_int, int_int, int_bl, r1_int, r2_int, tuple_tup, list_tup, over_tup, rev_tup, enum_tup, zip_tup, slc_tup, add_tup, isi_any, ix_tup, ix_scr, ix_num0, ix_num1, len_num, num_0, num_1, atI_0, atI_1, atI_2, List.map, List.cons_append, List.nil_append, List.getElem?_cons_zero, List.getElem?_cons_succ, List.getElem?_nil, List.set_cons_zero, List.set_cons_succ, List.replicate, List.length_cons, List.length_nil, List.foldr_cons, List.foldr_nil, Nat.reduceAdd, Nat.reduceSub, List.replicate_succ, List.replicate_zero, G_up_same, decide_eq_true_eq, Bool.not_eq_true', Bool.false_eq_true, if_true, if_false, ite_true, ite_false, and_true, true_and, reduceCtorEq, Bool.not_true, Bool.not_false, Bool.false_bne, Bool.true_bne, sl0, sl1, sl2, sl3, sl4]
        rw [show nums c1 ++ [num z] = nums (c1 ++ [z]) by rw [nums_snoc]]
        refine k05_2 h4 h32 h36 h482 P ⟨fun y hy => ?_, by omega, hcz⟩ K p2 (by omega) hQ
        rw [List.getLast?_append] at hy
        simp at hy
        rw [← hy]
        exact ez
  · exact k05_2 h4 h32 h36 h482 P R K hp (by omega) hQ
theorem pure_law_k05_v2 {E : XD} (h3 : Γ 3 = spPen) (h4 : Γ 4 = spDraw) (h32 : Γ 32 = spLessened) (h36 : Γ 36 = spPenFn (isNumD 16) 4) (h37 : Γ 37 = spCurveDrawn) (h482 : Γ 482 = spRight05) (h : spLaw ds g Q E) : mnS Γ gl sx_law_k05_v2 (endsOf Q E) (startD ns_law_k05_v2 ds) g := by
  obtain ⟨ns, rfl, hl, hb, hg, h⟩ := h
  simp only [sx_law_k05_v2, h3, h4, h37, mnS, dLamr, mn, Mn.of, Op.rd, Cm.rd, Bl.rd, Mt.rd, Mt.rc, dNop, dSeq, dExpr, dRet, dRetN, dIf, gD, dAsg, dPar, dPut, dRaise, dVar, dC, dBin, dUn, dNil, dCons, dTup, dLst, dTst, dAndT, dOrT, dNotT, dYes, dAnd, dOr, dNot, dChain, dCall, dCB, dMt, dLset, dSrev, dTry, dIsx, dEmp, dDic1, dStp, dFld, dMeth, dMake, dFset, dGin, dGix, dRep, dTryu, dTryn, conD, xsub, Ex.sub, dSlc, dPart, dNoPart, dIAny, dI1, dI2, dI3, dFor, dComp, compB, wipeD, startD, endsOf, at_mk, setAll, add_int, sub_int, mul_int, mul_tup, pow_int, mod_int, fdiv_int, lt_int, le_int, gt_int, ge_int, eq_int, neg_int, len_tup, len_scr, abs_int, max_int, min_int, int_int, int_bl, r1_int, r2_int, tuple_tup, list_tup, over_tup, rev_tup, enum_tup, zip_tup, slc_tup, add_tup, isi_any, ix_tup, ix_scr, ix_num0, ix_num1, len_num, num_0, num_1, atI_0, atI_1, atI_2, List.map, List.cons_append, List.nil_append, List.getElem?_cons_zero, List.getElem?_cons_succ, List.getElem?_nil, List.set_cons_zero, List.set_cons_succ, List.replicate, List.length_cons, List.length_nil, List.foldr_cons, List.foldr_nil, Nat.reduceAdd, Nat.reduceSub, List.replicate_succ, List.replicate_zero, G_up_same, decide_eq_true_eq, Bool.not_eq_true', Bool.false_eq_true, if_true, if_false, ite_true, ite_false, and_true, true_and, reduceCtorEq, Bool.not_true, Bool.not_false, Bool.false_bne, Bool.true_bne, sl0, sl1, sl2, sl3, sl4]
  refine ⟨ns, 0, rfl, by decide, hb, fun a xs ha hp => ?_⟩
  have K : KN g a (g.up a xs) [(a, xs)] := KN.start' ha
  try simp only [mnS, dLamr, mn, Mn.of, Op.rd, Cm.rd, Bl.rd, Mt.rd, Mt.rc, dNop, dSeq, dExpr, dRet, dRetN, dIf, gD, dAsg, dPar, dPut, dRaise, dVar, dC, dBin, dUn, dNil, dCons, dTup, dLst, dTst, dAndT, dOrT, dNotT, dYes, dAnd, dOr, dNot, dChain, dCall, dCB, dMt, dLset, dSrev, dTry, dIsx, dEmp, dDic1, dStp, dFld, dMeth, dMake, dFset, dGin, dGix, dRep, dTryu, dTryn, conD, xsub, Ex.sub, dSlc, dPart, dNoPart, dIAny, dI1, dI2, dI3, dFor, dComp, compB, wipeD, startD, endsOf, at_mk, setAll, add_int, sub_int, mul_int, mul_tup, pow_int, mod_int, fdiv_int, lt_int, le_int, gt_int, ge_int, eq_int, neg_int, len_tup, len_scr, abs_int, max_int, min_int, int_int, int_bl, r1_int, r2_int, tuple_tup, list_tup, over_tup, rev_tup, enum_tup, zip_tup, slc_tup, add_tup, isi_any, ix_tup, ix_scr, ix_num0, ix_num1, len_num, num_0, num_1, atI_0, atI_1, atI_2, List.map, List.cons_append, List.nil_append, List.getElem?_cons_zero, List.getElem?_cons_succ, List.getElem?_nil, List.set_cons_zero, List.set_cons_succ, List.replicate, List.length_cons, List.length_nil, List.foldr_cons, List.foldr_nil, Nat.reduceAdd, Nat.reduceSub, List.replicate_succ, List.replicate_zero, G_up_same, decide_eq_true_eq, Bool.not_eq_true', Bool.false_eq_true, if_true, if_false, ite_true, ite_false, and_true, true_and, reduceCtorEq, Bool.not_true, Bool.not_false, Bool.false_bne, Bool.true_bne, sl0, sl1, sl2, sl3, sl4]
  refine K_curve 7 rfl K (by decide) hp (by decide) fun p xs1 g1 tp lp zp p1 K => ?_
  refine K_curve 7 rfl K (by decide) p1 (by decide) fun q xs2 g2 tq lq zq p2 K => ?_
  refine K_draw K (by decide) p2 (by decide) fun w xs3 g3 hw p3 K => ?_
  have P : Cv05 p := ⟨tp, by omega, zp⟩
  have R : Cv05 q := ⟨tq, by omega, zq⟩
  try simp only [mnS, dLamr, mn, Mn.of, Op.rd, Cm.rd, Bl.rd, Mt.rd, Mt.rc, dNop, dSeq, dExpr, dRet, dRetN, dIf, gD, dAsg, dPar, dPut, dRaise, dVar, dC, dBin, dUn, dNil, dCons, dTup, dLst, dTst, dAndT, dOrT, dNotT, dYes, dAnd, dOr, dNot, dChain, dCall, dCB, dMt, dLset, dSrev, dTry, dIsx, dEmp, dDic1, dStp, dFld, dMeth, dMake, dFset, dGin, dGix, dRep, dTryu, dTryn, conD, xsub, Ex.sub, dSlc, dPart, dNoPart, dIAny, dI1, dI2, dI3, dFor, dComp, compB, wipeD, startD, endsOf, at_mk, setAll, add_int, sub_int, mul_int, mul_tup, pow_int, mod_int, fdiv_int, lt_int, le_int, gt_int, ge_int, eq_int, neg_int, len_tup, len_scr, abs_int, max_int, min_int, int_int, int_bl, r1_int, r2_int, tuple_tup, list_tup, over_tup, rev_tup, enum_tup, zip_tup, slc_tup, add_tup, isi_any, ix_tup, ix_scr, ix_num0, ix_num1, len_num, num_0, num_1, atI_0, atI_1, atI_2, List.map, List.cons_append, List.nil_append, List.getElem?_cons_zero, List.getElem?_cons_succ, List.getElem?_nil, List.set_cons_zero, List.set_cons_succ, List.replicate, List.length_cons, List.length_nil, List.foldr_cons, List.foldr_nil, Nat.reduceAdd, Nat.reduceSub, List.replicate_succ, List.replicate_zero, G_up_same, decide_eq_true_eq, Bool.not_eq_true', Bool.false_eq_true, if_true, if_false, ite_true, ite_false, and_true, true_and, reduceCtorEq, Bool.not_true, Bool.not_false, Bool.false_bne, Bool.true_bne, sl0, sl1, sl2, sl3, sl4]
  split
  · exact k05_3 h4 h32 h36 h482 P lp P K p3 (by decide) fun g' xs' K => ⟨_, K.fin ha, h⟩
  · exact k05_3 h4 h32 h36 h482 P lp R K p3 (by decide) fun g' xs' K => ⟨_, K.fin ha, h⟩
end
end PP
set_option maxHeartbeats 0
namespace PK05
open PySem PySem.Spec PyProof.Rows L2 PP
def top (i : Nat) : Stmt := PySem.Challenge.pw_onecurve_k05_curves_reckoned.main.body.getD i (.Pass ⟨0, 0, 0, 0⟩)
def gl : Nat → D
  | 0 => .tup [.int 0, .int 1]
  | _ => .non
def gls : List (Nat × Str) := [(0, "NOUGHT")]
def exs : List Ex := []
def Γ : Nat → SpD
  | 0 => spShared
  | 1 => spLowest
  | 11 => spPlus
  | 12 => spMinus
  | 13 => spTimes
  | 23 => spCurveOf
  | 30 => spNumberAt
  | 31 => spAdded
  | 32 => spLessened
  | 33 => spScaled
  | 34 => spMultiplied
  | 3 => spPen
  | 4 => spDraw
  | 5 => spLowest
  | 25 => spPlus
  | 35 => spMinus
  | 26 => spTimes
  | 36 => spPenFn (isNumD 16) 4
  | 27 => spEv
  | 37 => spCurveDrawn
  | 6 => spWhole
  | 7 => spIsNum
  | 28 => spIsCurve
  | 482 => spRight05
  | _ => fun _ _ _ _ => False
abbrev F0 : List (Nat × Str) := []
abbrev F1 : List (Nat × Str) := (0, "shared_part") :: F0
abbrev F2 : List (Nat × Str) := (1, "lowest") :: F1
abbrev F3 : List (Nat × Str) := (11, "plus") :: F2
abbrev F4 : List (Nat × Str) := (12, "minus") :: F3
abbrev F5 : List (Nat × Str) := (13, "times") :: F4
abbrev F6 : List (Nat × Str) := (23, "curve_of") :: F5
abbrev F7 : List (Nat × Str) := (30, "number_at") :: F6
abbrev F8 : List (Nat × Str) := (31, "added") :: F7
abbrev F9 : List (Nat × Str) := (32, "lessened") :: F8
abbrev F10 : List (Nat × Str) := (33, "scaled") :: F9
abbrev F11 : List (Nat × Str) := (34, "multiplied") :: F10
abbrev F12 : List (Nat × Str) := (3, "_law_pen") :: F11
abbrev F13 : List (Nat × Str) := (4, "_law_draw") :: F12
abbrev F14 : List (Nat × Str) := (5, "_law_lowest") :: F13
abbrev F15 : List (Nat × Str) := (25, "_law_plus") :: F14
abbrev F16 : List (Nat × Str) := (35, "_law_minus") :: F15
abbrev F17 : List (Nat × Str) := (26, "_law_times") :: F16
abbrev F18 : List (Nat × Str) := (36, "_law_number") :: F17
abbrev F19 : List (Nat × Str) := (27, "_law_at") :: F18
abbrev F20 : List (Nat × Str) := (37, "_law_curve") :: F19
abbrev F21 : List (Nat × Str) := (6, "_law_whole") :: F20
abbrev F22 : List (Nat × Str) := (7, "_law_is_number") :: F21
abbrev F23 : List (Nat × Str) := (28, "_law_is_curve") :: F22
abbrev F24 : List (Nat × Str) := F23
abbrev F25 : List (Nat × Str) := (482, "_law_right") :: F24
abbrev N0 : List Str := ["one", "other"]
theorem chk0 : knS sx_shared_part (ckOf N0 (defScope (top 2)) F0 gls exs) (defBody (top 2)) = true := by decide +kernel
theorem sc0 : FnScope N0 ["one", "other"] (defScope (top 2)) := ⟨rfl, rfl, rfl, by decide +kernel, rfl, by decide +kernel, by decide +kernel⟩
theorem len0 (ds : List D) (g : G) (Q : QD) (E : XD) (h : Γ 0 ds g Q E) : ds.length = 2 := by first | (obtain ⟨rfl, _⟩ := h; rfl; done) | (obtain ⟨_, rfl, _⟩ := h; rfl; done) | (obtain ⟨_, _, rfl, _⟩ := h; rfl; done) | (obtain ⟨_, _, _, rfl, _⟩ := h; rfl; done) | (obtain ⟨_, _, _, _, rfl, _⟩ := h; rfl; done) | (obtain ⟨_, _, _, _, _, rfl, _⟩ := h; rfl; done) | (obtain ⟨_, _, _, _, _, _, rfl, _⟩ := h; rfl; done) | (obtain ⟨_, _, _, _, _, _, _, rfl, _⟩ := h; rfl; done) | (obtain ⟨_, _, _, _, _, _, _, _, rfl, _⟩ := h; rfl; done) | (obtain ⟨_, _, _, _, _, _, _, _, _, rfl, _⟩ := h; rfl; done) | (obtain ⟨_, _, _, _, _, _, _, _, _, _, rfl, _⟩ := h; rfl; done) | (obtain ⟨_, _, _, _, _, _, _, _, _, _, _, rfl, _⟩ := h; rfl; done) | (obtain ⟨_, _, _, _, _, _, _, _, _, _, _, _, rfl, _⟩ := h; rfl; done) | (obtain ⟨_, _, _, _, _, _, _, _, _, _, _, _, _, rfl, _⟩ := h; rfl; done) | (rcases h with h | h <;> first | (obtain ⟨rfl, _⟩ := h; rfl; done) | (obtain ⟨_, rfl, _⟩ := h; rfl; done) | (obtain ⟨_, _, rfl, _⟩ := h; rfl; done) | (obtain ⟨_, _, _, rfl, _⟩ := h; rfl; done) | (obtain ⟨_, _, _, _, rfl, _⟩ := h; rfl; done) | (obtain ⟨_, _, _, _, _, rfl, _⟩ := h; rfl; done) | (obtain ⟨_, _, _, _, _, _, rfl, _⟩ := h; rfl; done) | (obtain ⟨_, _, _, _, _, _, _, rfl, _⟩ := h; rfl; done) | (obtain ⟨_, _, _, _, _, _, _, _, rfl, _⟩ := h; rfl; done) | (obtain ⟨_, _, _, _, _, _, _, _, _, rfl, _⟩ := h; rfl; done) | (obtain ⟨_, _, _, _, _, _, _, _, _, _, rfl, _⟩ := h; rfl; done) | (obtain ⟨_, _, _, _, _, _, _, _, _, _, _, rfl, _⟩ := h; rfl; done) | (obtain ⟨_, _, _, _, _, _, _, _, _, _, _, _, rfl, _⟩ := h; rfl; done) | (obtain ⟨_, _, _, _, _, _, _, _, _, _, _, _, _, rfl, _⟩ := h; rfl; done))
theorem ok0 : DefOk Γ gl F0 gls exs (top 2) (Γ 0) := ⟨N0, ["one", "other"], sx_shared_part, sc0, chk0, fun x K f fd F => F.bindsN fun _ _ _ _ _ _ us hl => (match us, hl with | [_, _], _ => rfl), fun ds g Q E h => len0 ds g Q E h, fun ds g Q E h => by rw [startD_len (N := N0) (M := ns_shared_part) rfl]; exact pure_shared_part h⟩
abbrev N1 : List Str := ["top", "bottom", "part"]
theorem chk1 : knS sx_lowest (ckOf N1 (defScope (top 3)) F1 gls exs) (defBody (top 3)) = true := by decide +kernel
theorem sc1 : FnScope N1 ["top", "bottom"] (defScope (top 3)) := ⟨rfl, rfl, rfl, by decide +kernel, rfl, by decide +kernel, by decide +kernel⟩
theorem len1 (ds : List D) (g : G) (Q : QD) (E : XD) (h : Γ 1 ds g Q E) : ds.length = 2 := by first | (obtain ⟨rfl, _⟩ := h; rfl; done) | (obtain ⟨_, rfl, _⟩ := h; rfl; done) | (obtain ⟨_, _, rfl, _⟩ := h; rfl; done) | (obtain ⟨_, _, _, rfl, _⟩ := h; rfl; done) | (obtain ⟨_, _, _, _, rfl, _⟩ := h; rfl; done) | (obtain ⟨_, _, _, _, _, rfl, _⟩ := h; rfl; done) | (obtain ⟨_, _, _, _, _, _, rfl, _⟩ := h; rfl; done) | (obtain ⟨_, _, _, _, _, _, _, rfl, _⟩ := h; rfl; done) | (obtain ⟨_, _, _, _, _, _, _, _, rfl, _⟩ := h; rfl; done) | (obtain ⟨_, _, _, _, _, _, _, _, _, rfl, _⟩ := h; rfl; done) | (obtain ⟨_, _, _, _, _, _, _, _, _, _, rfl, _⟩ := h; rfl; done) | (obtain ⟨_, _, _, _, _, _, _, _, _, _, _, rfl, _⟩ := h; rfl; done) | (obtain ⟨_, _, _, _, _, _, _, _, _, _, _, _, rfl, _⟩ := h; rfl; done) | (obtain ⟨_, _, _, _, _, _, _, _, _, _, _, _, _, rfl, _⟩ := h; rfl; done) | (rcases h with h | h <;> first | (obtain ⟨rfl, _⟩ := h; rfl; done) | (obtain ⟨_, rfl, _⟩ := h; rfl; done) | (obtain ⟨_, _, rfl, _⟩ := h; rfl; done) | (obtain ⟨_, _, _, rfl, _⟩ := h; rfl; done) | (obtain ⟨_, _, _, _, rfl, _⟩ := h; rfl; done) | (obtain ⟨_, _, _, _, _, rfl, _⟩ := h; rfl; done) | (obtain ⟨_, _, _, _, _, _, rfl, _⟩ := h; rfl; done) | (obtain ⟨_, _, _, _, _, _, _, rfl, _⟩ := h; rfl; done) | (obtain ⟨_, _, _, _, _, _, _, _, rfl, _⟩ := h; rfl; done) | (obtain ⟨_, _, _, _, _, _, _, _, _, rfl, _⟩ := h; rfl; done) | (obtain ⟨_, _, _, _, _, _, _, _, _, _, rfl, _⟩ := h; rfl; done) | (obtain ⟨_, _, _, _, _, _, _, _, _, _, _, rfl, _⟩ := h; rfl; done) | (obtain ⟨_, _, _, _, _, _, _, _, _, _, _, _, rfl, _⟩ := h; rfl; done) | (obtain ⟨_, _, _, _, _, _, _, _, _, _, _, _, _, rfl, _⟩ := h; rfl; done))
theorem ok1 : DefOk Γ gl F1 gls exs (top 3) (Γ 1) := ⟨N1, ["top", "bottom"], sx_lowest, sc1, chk1, fun x K f fd F => F.bindsN fun _ _ _ _ _ _ us hl => (match us, hl with | [_, _], _ => rfl), fun ds g Q E h => len1 ds g Q E h, fun ds g Q E h => by rw [startD_len (N := N1) (M := ns_lowest) rfl]; exact pure_lowest rfl h⟩
abbrev N2 : List Str := ["a", "b"]
theorem chk2 : knS sx_plus (ckOf N2 (defScope (top 4)) F2 gls exs) (defBody (top 4)) = true := by decide +kernel
theorem sc2 : FnScope N2 ["a", "b"] (defScope (top 4)) := ⟨rfl, rfl, rfl, by decide +kernel, rfl, by decide +kernel, by decide +kernel⟩
theorem len2 (ds : List D) (g : G) (Q : QD) (E : XD) (h : Γ 11 ds g Q E) : ds.length = 2 := by first | (obtain ⟨rfl, _⟩ := h; rfl; done) | (obtain ⟨_, rfl, _⟩ := h; rfl; done) | (obtain ⟨_, _, rfl, _⟩ := h; rfl; done) | (obtain ⟨_, _, _, rfl, _⟩ := h; rfl; done) | (obtain ⟨_, _, _, _, rfl, _⟩ := h; rfl; done) | (obtain ⟨_, _, _, _, _, rfl, _⟩ := h; rfl; done) | (obtain ⟨_, _, _, _, _, _, rfl, _⟩ := h; rfl; done) | (obtain ⟨_, _, _, _, _, _, _, rfl, _⟩ := h; rfl; done) | (obtain ⟨_, _, _, _, _, _, _, _, rfl, _⟩ := h; rfl; done) | (obtain ⟨_, _, _, _, _, _, _, _, _, rfl, _⟩ := h; rfl; done) | (obtain ⟨_, _, _, _, _, _, _, _, _, _, rfl, _⟩ := h; rfl; done) | (obtain ⟨_, _, _, _, _, _, _, _, _, _, _, rfl, _⟩ := h; rfl; done) | (obtain ⟨_, _, _, _, _, _, _, _, _, _, _, _, rfl, _⟩ := h; rfl; done) | (obtain ⟨_, _, _, _, _, _, _, _, _, _, _, _, _, rfl, _⟩ := h; rfl; done) | (rcases h with h | h <;> first | (obtain ⟨rfl, _⟩ := h; rfl; done) | (obtain ⟨_, rfl, _⟩ := h; rfl; done) | (obtain ⟨_, _, rfl, _⟩ := h; rfl; done) | (obtain ⟨_, _, _, rfl, _⟩ := h; rfl; done) | (obtain ⟨_, _, _, _, rfl, _⟩ := h; rfl; done) | (obtain ⟨_, _, _, _, _, rfl, _⟩ := h; rfl; done) | (obtain ⟨_, _, _, _, _, _, rfl, _⟩ := h; rfl; done) | (obtain ⟨_, _, _, _, _, _, _, rfl, _⟩ := h; rfl; done) | (obtain ⟨_, _, _, _, _, _, _, _, rfl, _⟩ := h; rfl; done) | (obtain ⟨_, _, _, _, _, _, _, _, _, rfl, _⟩ := h; rfl; done) | (obtain ⟨_, _, _, _, _, _, _, _, _, _, rfl, _⟩ := h; rfl; done) | (obtain ⟨_, _, _, _, _, _, _, _, _, _, _, rfl, _⟩ := h; rfl; done) | (obtain ⟨_, _, _, _, _, _, _, _, _, _, _, _, rfl, _⟩ := h; rfl; done) | (obtain ⟨_, _, _, _, _, _, _, _, _, _, _, _, _, rfl, _⟩ := h; rfl; done))
theorem ok2 : DefOk Γ gl F2 gls exs (top 4) (Γ 11) := ⟨N2, ["a", "b"], sx_plus, sc2, chk2, fun x K f fd F => F.bindsN fun _ _ _ _ _ _ us hl => (match us, hl with | [_, _], _ => rfl), fun ds g Q E h => len2 ds g Q E h, fun ds g Q E h => by rw [startD_len (N := N2) (M := ns_plus) rfl]; exact pure_plus rfl h⟩
abbrev N3 : List Str := ["a", "b"]
theorem chk3 : knS sx_minus (ckOf N3 (defScope (top 5)) F3 gls exs) (defBody (top 5)) = true := by decide +kernel
theorem sc3 : FnScope N3 ["a", "b"] (defScope (top 5)) := ⟨rfl, rfl, rfl, by decide +kernel, rfl, by decide +kernel, by decide +kernel⟩
theorem len3 (ds : List D) (g : G) (Q : QD) (E : XD) (h : Γ 12 ds g Q E) : ds.length = 2 := by first | (obtain ⟨rfl, _⟩ := h; rfl; done) | (obtain ⟨_, rfl, _⟩ := h; rfl; done) | (obtain ⟨_, _, rfl, _⟩ := h; rfl; done) | (obtain ⟨_, _, _, rfl, _⟩ := h; rfl; done) | (obtain ⟨_, _, _, _, rfl, _⟩ := h; rfl; done) | (obtain ⟨_, _, _, _, _, rfl, _⟩ := h; rfl; done) | (obtain ⟨_, _, _, _, _, _, rfl, _⟩ := h; rfl; done) | (obtain ⟨_, _, _, _, _, _, _, rfl, _⟩ := h; rfl; done) | (obtain ⟨_, _, _, _, _, _, _, _, rfl, _⟩ := h; rfl; done) | (obtain ⟨_, _, _, _, _, _, _, _, _, rfl, _⟩ := h; rfl; done) | (obtain ⟨_, _, _, _, _, _, _, _, _, _, rfl, _⟩ := h; rfl; done) | (obtain ⟨_, _, _, _, _, _, _, _, _, _, _, rfl, _⟩ := h; rfl; done) | (obtain ⟨_, _, _, _, _, _, _, _, _, _, _, _, rfl, _⟩ := h; rfl; done) | (obtain ⟨_, _, _, _, _, _, _, _, _, _, _, _, _, rfl, _⟩ := h; rfl; done) | (rcases h with h | h <;> first | (obtain ⟨rfl, _⟩ := h; rfl; done) | (obtain ⟨_, rfl, _⟩ := h; rfl; done) | (obtain ⟨_, _, rfl, _⟩ := h; rfl; done) | (obtain ⟨_, _, _, rfl, _⟩ := h; rfl; done) | (obtain ⟨_, _, _, _, rfl, _⟩ := h; rfl; done) | (obtain ⟨_, _, _, _, _, rfl, _⟩ := h; rfl; done) | (obtain ⟨_, _, _, _, _, _, rfl, _⟩ := h; rfl; done) | (obtain ⟨_, _, _, _, _, _, _, rfl, _⟩ := h; rfl; done) | (obtain ⟨_, _, _, _, _, _, _, _, rfl, _⟩ := h; rfl; done) | (obtain ⟨_, _, _, _, _, _, _, _, _, rfl, _⟩ := h; rfl; done) | (obtain ⟨_, _, _, _, _, _, _, _, _, _, rfl, _⟩ := h; rfl; done) | (obtain ⟨_, _, _, _, _, _, _, _, _, _, _, rfl, _⟩ := h; rfl; done) | (obtain ⟨_, _, _, _, _, _, _, _, _, _, _, _, rfl, _⟩ := h; rfl; done) | (obtain ⟨_, _, _, _, _, _, _, _, _, _, _, _, _, rfl, _⟩ := h; rfl; done))
theorem ok3 : DefOk Γ gl F3 gls exs (top 5) (Γ 12) := ⟨N3, ["a", "b"], sx_minus, sc3, chk3, fun x K f fd F => F.bindsN fun _ _ _ _ _ _ us hl => (match us, hl with | [_, _], _ => rfl), fun ds g Q E h => len3 ds g Q E h, fun ds g Q E h => by rw [startD_len (N := N3) (M := ns_minus) rfl]; exact pure_minus rfl h⟩
abbrev N4 : List Str := ["a", "b"]
theorem chk4 : knS sx_times (ckOf N4 (defScope (top 6)) F4 gls exs) (defBody (top 6)) = true := by decide +kernel
theorem sc4 : FnScope N4 ["a", "b"] (defScope (top 6)) := ⟨rfl, rfl, rfl, by decide +kernel, rfl, by decide +kernel, by decide +kernel⟩
theorem len4 (ds : List D) (g : G) (Q : QD) (E : XD) (h : Γ 13 ds g Q E) : ds.length = 2 := by first | (obtain ⟨rfl, _⟩ := h; rfl; done) | (obtain ⟨_, rfl, _⟩ := h; rfl; done) | (obtain ⟨_, _, rfl, _⟩ := h; rfl; done) | (obtain ⟨_, _, _, rfl, _⟩ := h; rfl; done) | (obtain ⟨_, _, _, _, rfl, _⟩ := h; rfl; done) | (obtain ⟨_, _, _, _, _, rfl, _⟩ := h; rfl; done) | (obtain ⟨_, _, _, _, _, _, rfl, _⟩ := h; rfl; done) | (obtain ⟨_, _, _, _, _, _, _, rfl, _⟩ := h; rfl; done) | (obtain ⟨_, _, _, _, _, _, _, _, rfl, _⟩ := h; rfl; done) | (obtain ⟨_, _, _, _, _, _, _, _, _, rfl, _⟩ := h; rfl; done) | (obtain ⟨_, _, _, _, _, _, _, _, _, _, rfl, _⟩ := h; rfl; done) | (obtain ⟨_, _, _, _, _, _, _, _, _, _, _, rfl, _⟩ := h; rfl; done) | (obtain ⟨_, _, _, _, _, _, _, _, _, _, _, _, rfl, _⟩ := h; rfl; done) | (obtain ⟨_, _, _, _, _, _, _, _, _, _, _, _, _, rfl, _⟩ := h; rfl; done) | (rcases h with h | h <;> first | (obtain ⟨rfl, _⟩ := h; rfl; done) | (obtain ⟨_, rfl, _⟩ := h; rfl; done) | (obtain ⟨_, _, rfl, _⟩ := h; rfl; done) | (obtain ⟨_, _, _, rfl, _⟩ := h; rfl; done) | (obtain ⟨_, _, _, _, rfl, _⟩ := h; rfl; done) | (obtain ⟨_, _, _, _, _, rfl, _⟩ := h; rfl; done) | (obtain ⟨_, _, _, _, _, _, rfl, _⟩ := h; rfl; done) | (obtain ⟨_, _, _, _, _, _, _, rfl, _⟩ := h; rfl; done) | (obtain ⟨_, _, _, _, _, _, _, _, rfl, _⟩ := h; rfl; done) | (obtain ⟨_, _, _, _, _, _, _, _, _, rfl, _⟩ := h; rfl; done) | (obtain ⟨_, _, _, _, _, _, _, _, _, _, rfl, _⟩ := h; rfl; done) | (obtain ⟨_, _, _, _, _, _, _, _, _, _, _, rfl, _⟩ := h; rfl; done) | (obtain ⟨_, _, _, _, _, _, _, _, _, _, _, _, rfl, _⟩ := h; rfl; done) | (obtain ⟨_, _, _, _, _, _, _, _, _, _, _, _, _, rfl, _⟩ := h; rfl; done))
theorem ok4 : DefOk Γ gl F4 gls exs (top 6) (Γ 13) := ⟨N4, ["a", "b"], sx_times, sc4, chk4, fun x K f fd F => F.bindsN fun _ _ _ _ _ _ us hl => (match us, hl with | [_, _], _ => rfl), fun ds g Q E h => len4 ds g Q E h, fun ds g Q E h => by rw [startD_len (N := N4) (M := ns_times) rfl]; exact pure_times rfl h⟩
abbrev N5 : List Str := ["numbers", "many"]
theorem chk5 : knS sx_curve_of (ckOf N5 (defScope (top 8)) F5 gls exs) (defBody (top 8)) = true := by decide +kernel
theorem sc5 : FnScope N5 ["numbers"] (defScope (top 8)) := ⟨rfl, rfl, rfl, by decide +kernel, rfl, by decide +kernel, by decide +kernel⟩
theorem len5 (ds : List D) (g : G) (Q : QD) (E : XD) (h : Γ 23 ds g Q E) : ds.length = 1 := by first | (obtain ⟨rfl, _⟩ := h; rfl; done) | (obtain ⟨_, rfl, _⟩ := h; rfl; done) | (obtain ⟨_, _, rfl, _⟩ := h; rfl; done) | (obtain ⟨_, _, _, rfl, _⟩ := h; rfl; done) | (obtain ⟨_, _, _, _, rfl, _⟩ := h; rfl; done) | (obtain ⟨_, _, _, _, _, rfl, _⟩ := h; rfl; done) | (obtain ⟨_, _, _, _, _, _, rfl, _⟩ := h; rfl; done) | (obtain ⟨_, _, _, _, _, _, _, rfl, _⟩ := h; rfl; done) | (obtain ⟨_, _, _, _, _, _, _, _, rfl, _⟩ := h; rfl; done) | (obtain ⟨_, _, _, _, _, _, _, _, _, rfl, _⟩ := h; rfl; done) | (obtain ⟨_, _, _, _, _, _, _, _, _, _, rfl, _⟩ := h; rfl; done) | (obtain ⟨_, _, _, _, _, _, _, _, _, _, _, rfl, _⟩ := h; rfl; done) | (obtain ⟨_, _, _, _, _, _, _, _, _, _, _, _, rfl, _⟩ := h; rfl; done) | (obtain ⟨_, _, _, _, _, _, _, _, _, _, _, _, _, rfl, _⟩ := h; rfl; done) | (rcases h with h | h <;> first | (obtain ⟨rfl, _⟩ := h; rfl; done) | (obtain ⟨_, rfl, _⟩ := h; rfl; done) | (obtain ⟨_, _, rfl, _⟩ := h; rfl; done) | (obtain ⟨_, _, _, rfl, _⟩ := h; rfl; done) | (obtain ⟨_, _, _, _, rfl, _⟩ := h; rfl; done) | (obtain ⟨_, _, _, _, _, rfl, _⟩ := h; rfl; done) | (obtain ⟨_, _, _, _, _, _, rfl, _⟩ := h; rfl; done) | (obtain ⟨_, _, _, _, _, _, _, rfl, _⟩ := h; rfl; done) | (obtain ⟨_, _, _, _, _, _, _, _, rfl, _⟩ := h; rfl; done) | (obtain ⟨_, _, _, _, _, _, _, _, _, rfl, _⟩ := h; rfl; done) | (obtain ⟨_, _, _, _, _, _, _, _, _, _, rfl, _⟩ := h; rfl; done) | (obtain ⟨_, _, _, _, _, _, _, _, _, _, _, rfl, _⟩ := h; rfl; done) | (obtain ⟨_, _, _, _, _, _, _, _, _, _, _, _, rfl, _⟩ := h; rfl; done) | (obtain ⟨_, _, _, _, _, _, _, _, _, _, _, _, _, rfl, _⟩ := h; rfl; done))
theorem ok5 : DefOk Γ gl F5 gls exs (top 8) (Γ 23) := ⟨N5, ["numbers"], sx_curve_of, sc5, chk5, fun x K f fd F => F.bindsN fun _ _ _ _ _ _ us hl => (match us, hl with | [_], _ => rfl), fun ds g Q E h => len5 ds g Q E h, fun ds g Q E h => by rw [startD_len (N := N5) (M := ns_curve_of) rfl]; exact pure_curve_of rfl h⟩
abbrev N6 : List Str := ["curve", "k"]
theorem chk6 : knS sx_number_at (ckOf N6 (defScope (top 9)) F6 gls exs) (defBody (top 9)) = true := by decide +kernel
theorem sc6 : FnScope N6 ["curve", "k"] (defScope (top 9)) := ⟨rfl, rfl, rfl, by decide +kernel, rfl, by decide +kernel, by decide +kernel⟩
theorem len6 (ds : List D) (g : G) (Q : QD) (E : XD) (h : Γ 30 ds g Q E) : ds.length = 2 := by first | (obtain ⟨rfl, _⟩ := h; rfl; done) | (obtain ⟨_, rfl, _⟩ := h; rfl; done) | (obtain ⟨_, _, rfl, _⟩ := h; rfl; done) | (obtain ⟨_, _, _, rfl, _⟩ := h; rfl; done) | (obtain ⟨_, _, _, _, rfl, _⟩ := h; rfl; done) | (obtain ⟨_, _, _, _, _, rfl, _⟩ := h; rfl; done) | (obtain ⟨_, _, _, _, _, _, rfl, _⟩ := h; rfl; done) | (obtain ⟨_, _, _, _, _, _, _, rfl, _⟩ := h; rfl; done) | (obtain ⟨_, _, _, _, _, _, _, _, rfl, _⟩ := h; rfl; done) | (obtain ⟨_, _, _, _, _, _, _, _, _, rfl, _⟩ := h; rfl; done) | (obtain ⟨_, _, _, _, _, _, _, _, _, _, rfl, _⟩ := h; rfl; done) | (obtain ⟨_, _, _, _, _, _, _, _, _, _, _, rfl, _⟩ := h; rfl; done) | (obtain ⟨_, _, _, _, _, _, _, _, _, _, _, _, rfl, _⟩ := h; rfl; done) | (obtain ⟨_, _, _, _, _, _, _, _, _, _, _, _, _, rfl, _⟩ := h; rfl; done) | (rcases h with h | h <;> first | (obtain ⟨rfl, _⟩ := h; rfl; done) | (obtain ⟨_, rfl, _⟩ := h; rfl; done) | (obtain ⟨_, _, rfl, _⟩ := h; rfl; done) | (obtain ⟨_, _, _, rfl, _⟩ := h; rfl; done) | (obtain ⟨_, _, _, _, rfl, _⟩ := h; rfl; done) | (obtain ⟨_, _, _, _, _, rfl, _⟩ := h; rfl; done) | (obtain ⟨_, _, _, _, _, _, rfl, _⟩ := h; rfl; done) | (obtain ⟨_, _, _, _, _, _, _, rfl, _⟩ := h; rfl; done) | (obtain ⟨_, _, _, _, _, _, _, _, rfl, _⟩ := h; rfl; done) | (obtain ⟨_, _, _, _, _, _, _, _, _, rfl, _⟩ := h; rfl; done) | (obtain ⟨_, _, _, _, _, _, _, _, _, _, rfl, _⟩ := h; rfl; done) | (obtain ⟨_, _, _, _, _, _, _, _, _, _, _, rfl, _⟩ := h; rfl; done) | (obtain ⟨_, _, _, _, _, _, _, _, _, _, _, _, rfl, _⟩ := h; rfl; done) | (obtain ⟨_, _, _, _, _, _, _, _, _, _, _, _, _, rfl, _⟩ := h; rfl; done))
theorem ok6 : DefOk Γ gl F6 gls exs (top 9) (Γ 30) := ⟨N6, ["curve", "k"], sx_number_at, sc6, chk6, fun x K f fd F => F.bindsN fun _ _ _ _ _ _ us hl => (match us, hl with | [_, _], _ => rfl), fun ds g Q E h => len6 ds g Q E h, fun ds g Q E h => by rw [startD_len (N := N6) (M := ns_number_at) rfl]; exact pure_number_at rfl h⟩
abbrev N7 : List Str := ["one", "other", "many", "k"]
theorem chk7 : knS sx_added (ckOf N7 (defScope (top 10)) F7 gls exs) (defBody (top 10)) = true := by decide +kernel
theorem sc7 : FnScope N7 ["one", "other"] (defScope (top 10)) := ⟨rfl, rfl, rfl, by decide +kernel, rfl, by decide +kernel, by decide +kernel⟩
theorem len7 (ds : List D) (g : G) (Q : QD) (E : XD) (h : Γ 31 ds g Q E) : ds.length = 2 := by first | (obtain ⟨rfl, _⟩ := h; rfl; done) | (obtain ⟨_, rfl, _⟩ := h; rfl; done) | (obtain ⟨_, _, rfl, _⟩ := h; rfl; done) | (obtain ⟨_, _, _, rfl, _⟩ := h; rfl; done) | (obtain ⟨_, _, _, _, rfl, _⟩ := h; rfl; done) | (obtain ⟨_, _, _, _, _, rfl, _⟩ := h; rfl; done) | (obtain ⟨_, _, _, _, _, _, rfl, _⟩ := h; rfl; done) | (obtain ⟨_, _, _, _, _, _, _, rfl, _⟩ := h; rfl; done) | (obtain ⟨_, _, _, _, _, _, _, _, rfl, _⟩ := h; rfl; done) | (obtain ⟨_, _, _, _, _, _, _, _, _, rfl, _⟩ := h; rfl; done) | (obtain ⟨_, _, _, _, _, _, _, _, _, _, rfl, _⟩ := h; rfl; done) | (obtain ⟨_, _, _, _, _, _, _, _, _, _, _, rfl, _⟩ := h; rfl; done) | (obtain ⟨_, _, _, _, _, _, _, _, _, _, _, _, rfl, _⟩ := h; rfl; done) | (obtain ⟨_, _, _, _, _, _, _, _, _, _, _, _, _, rfl, _⟩ := h; rfl; done) | (rcases h with h | h <;> first | (obtain ⟨rfl, _⟩ := h; rfl; done) | (obtain ⟨_, rfl, _⟩ := h; rfl; done) | (obtain ⟨_, _, rfl, _⟩ := h; rfl; done) | (obtain ⟨_, _, _, rfl, _⟩ := h; rfl; done) | (obtain ⟨_, _, _, _, rfl, _⟩ := h; rfl; done) | (obtain ⟨_, _, _, _, _, rfl, _⟩ := h; rfl; done) | (obtain ⟨_, _, _, _, _, _, rfl, _⟩ := h; rfl; done) | (obtain ⟨_, _, _, _, _, _, _, rfl, _⟩ := h; rfl; done) | (obtain ⟨_, _, _, _, _, _, _, _, rfl, _⟩ := h; rfl; done) | (obtain ⟨_, _, _, _, _, _, _, _, _, rfl, _⟩ := h; rfl; done) | (obtain ⟨_, _, _, _, _, _, _, _, _, _, rfl, _⟩ := h; rfl; done) | (obtain ⟨_, _, _, _, _, _, _, _, _, _, _, rfl, _⟩ := h; rfl; done) | (obtain ⟨_, _, _, _, _, _, _, _, _, _, _, _, rfl, _⟩ := h; rfl; done) | (obtain ⟨_, _, _, _, _, _, _, _, _, _, _, _, _, rfl, _⟩ := h; rfl; done))
theorem ok7 : DefOk Γ gl F7 gls exs (top 10) (Γ 31) := ⟨N7, ["one", "other"], sx_added, sc7, chk7, fun x K f fd F => F.bindsN fun _ _ _ _ _ _ us hl => (match us, hl with | [_, _], _ => rfl), fun ds g Q E h => len7 ds g Q E h, fun ds g Q E h => by rw [startD_len (N := N7) (M := ns_added) rfl]; exact pure_added rfl rfl rfl h⟩
abbrev N8 : List Str := ["one", "other", "many", "k"]
theorem chk8 : knS sx_lessened (ckOf N8 (defScope (top 11)) F8 gls exs) (defBody (top 11)) = true := by decide +kernel
theorem sc8 : FnScope N8 ["one", "other"] (defScope (top 11)) := ⟨rfl, rfl, rfl, by decide +kernel, rfl, by decide +kernel, by decide +kernel⟩
theorem len8 (ds : List D) (g : G) (Q : QD) (E : XD) (h : Γ 32 ds g Q E) : ds.length = 2 := by first | (obtain ⟨rfl, _⟩ := h; rfl; done) | (obtain ⟨_, rfl, _⟩ := h; rfl; done) | (obtain ⟨_, _, rfl, _⟩ := h; rfl; done) | (obtain ⟨_, _, _, rfl, _⟩ := h; rfl; done) | (obtain ⟨_, _, _, _, rfl, _⟩ := h; rfl; done) | (obtain ⟨_, _, _, _, _, rfl, _⟩ := h; rfl; done) | (obtain ⟨_, _, _, _, _, _, rfl, _⟩ := h; rfl; done) | (obtain ⟨_, _, _, _, _, _, _, rfl, _⟩ := h; rfl; done) | (obtain ⟨_, _, _, _, _, _, _, _, rfl, _⟩ := h; rfl; done) | (obtain ⟨_, _, _, _, _, _, _, _, _, rfl, _⟩ := h; rfl; done) | (obtain ⟨_, _, _, _, _, _, _, _, _, _, rfl, _⟩ := h; rfl; done) | (obtain ⟨_, _, _, _, _, _, _, _, _, _, _, rfl, _⟩ := h; rfl; done) | (obtain ⟨_, _, _, _, _, _, _, _, _, _, _, _, rfl, _⟩ := h; rfl; done) | (obtain ⟨_, _, _, _, _, _, _, _, _, _, _, _, _, rfl, _⟩ := h; rfl; done) | (rcases h with h | h <;> first | (obtain ⟨rfl, _⟩ := h; rfl; done) | (obtain ⟨_, rfl, _⟩ := h; rfl; done) | (obtain ⟨_, _, rfl, _⟩ := h; rfl; done) | (obtain ⟨_, _, _, rfl, _⟩ := h; rfl; done) | (obtain ⟨_, _, _, _, rfl, _⟩ := h; rfl; done) | (obtain ⟨_, _, _, _, _, rfl, _⟩ := h; rfl; done) | (obtain ⟨_, _, _, _, _, _, rfl, _⟩ := h; rfl; done) | (obtain ⟨_, _, _, _, _, _, _, rfl, _⟩ := h; rfl; done) | (obtain ⟨_, _, _, _, _, _, _, _, rfl, _⟩ := h; rfl; done) | (obtain ⟨_, _, _, _, _, _, _, _, _, rfl, _⟩ := h; rfl; done) | (obtain ⟨_, _, _, _, _, _, _, _, _, _, rfl, _⟩ := h; rfl; done) | (obtain ⟨_, _, _, _, _, _, _, _, _, _, _, rfl, _⟩ := h; rfl; done) | (obtain ⟨_, _, _, _, _, _, _, _, _, _, _, _, rfl, _⟩ := h; rfl; done) | (obtain ⟨_, _, _, _, _, _, _, _, _, _, _, _, _, rfl, _⟩ := h; rfl; done))
theorem ok8 : DefOk Γ gl F8 gls exs (top 11) (Γ 32) := ⟨N8, ["one", "other"], sx_lessened, sc8, chk8, fun x K f fd F => F.bindsN fun _ _ _ _ _ _ us hl => (match us, hl with | [_, _], _ => rfl), fun ds g Q E h => len8 ds g Q E h, fun ds g Q E h => by rw [startD_len (N := N8) (M := ns_lessened) rfl]; exact pure_lessened rfl rfl rfl h⟩
abbrev N9 : List Str := ["curve", "number", "own"]
theorem chk9 : knS sx_scaled (ckOf N9 (defScope (top 12)) F9 gls exs) (defBody (top 12)) = true := by decide +kernel
theorem sc9 : FnScope N9 ["curve", "number"] (defScope (top 12)) := ⟨rfl, rfl, rfl, by decide +kernel, rfl, by decide +kernel, by decide +kernel⟩
theorem len9 (ds : List D) (g : G) (Q : QD) (E : XD) (h : Γ 33 ds g Q E) : ds.length = 2 := by first | (obtain ⟨rfl, _⟩ := h; rfl; done) | (obtain ⟨_, rfl, _⟩ := h; rfl; done) | (obtain ⟨_, _, rfl, _⟩ := h; rfl; done) | (obtain ⟨_, _, _, rfl, _⟩ := h; rfl; done) | (obtain ⟨_, _, _, _, rfl, _⟩ := h; rfl; done) | (obtain ⟨_, _, _, _, _, rfl, _⟩ := h; rfl; done) | (obtain ⟨_, _, _, _, _, _, rfl, _⟩ := h; rfl; done) | (obtain ⟨_, _, _, _, _, _, _, rfl, _⟩ := h; rfl; done) | (obtain ⟨_, _, _, _, _, _, _, _, rfl, _⟩ := h; rfl; done) | (obtain ⟨_, _, _, _, _, _, _, _, _, rfl, _⟩ := h; rfl; done) | (obtain ⟨_, _, _, _, _, _, _, _, _, _, rfl, _⟩ := h; rfl; done) | (obtain ⟨_, _, _, _, _, _, _, _, _, _, _, rfl, _⟩ := h; rfl; done) | (obtain ⟨_, _, _, _, _, _, _, _, _, _, _, _, rfl, _⟩ := h; rfl; done) | (obtain ⟨_, _, _, _, _, _, _, _, _, _, _, _, _, rfl, _⟩ := h; rfl; done) | (rcases h with h | h <;> first | (obtain ⟨rfl, _⟩ := h; rfl; done) | (obtain ⟨_, rfl, _⟩ := h; rfl; done) | (obtain ⟨_, _, rfl, _⟩ := h; rfl; done) | (obtain ⟨_, _, _, rfl, _⟩ := h; rfl; done) | (obtain ⟨_, _, _, _, rfl, _⟩ := h; rfl; done) | (obtain ⟨_, _, _, _, _, rfl, _⟩ := h; rfl; done) | (obtain ⟨_, _, _, _, _, _, rfl, _⟩ := h; rfl; done) | (obtain ⟨_, _, _, _, _, _, _, rfl, _⟩ := h; rfl; done) | (obtain ⟨_, _, _, _, _, _, _, _, rfl, _⟩ := h; rfl; done) | (obtain ⟨_, _, _, _, _, _, _, _, _, rfl, _⟩ := h; rfl; done) | (obtain ⟨_, _, _, _, _, _, _, _, _, _, rfl, _⟩ := h; rfl; done) | (obtain ⟨_, _, _, _, _, _, _, _, _, _, _, rfl, _⟩ := h; rfl; done) | (obtain ⟨_, _, _, _, _, _, _, _, _, _, _, _, rfl, _⟩ := h; rfl; done) | (obtain ⟨_, _, _, _, _, _, _, _, _, _, _, _, _, rfl, _⟩ := h; rfl; done))
theorem ok9 : DefOk Γ gl F9 gls exs (top 12) (Γ 33) := ⟨N9, ["curve", "number"], sx_scaled, sc9, chk9, fun x K f fd F => F.bindsN fun _ _ _ _ _ _ us hl => (match us, hl with | [_, _], _ => rfl), fun ds g Q E h => len9 ds g Q E h, fun ds g Q E h => by rw [startD_len (N := N9) (M := ns_scaled) rfl]; exact pure_scaled rfl rfl h⟩
abbrev N10 : List Str := ["one", "other", "found", "j", "first", "k", "second"]
theorem chk10 : knS sx_multiplied (ckOf N10 (defScope (top 13)) F10 gls exs) (defBody (top 13)) = true := by decide +kernel
theorem sc10 : FnScope N10 ["one", "other"] (defScope (top 13)) := ⟨rfl, rfl, rfl, by decide +kernel, rfl, by decide +kernel, by decide +kernel⟩
theorem len10 (ds : List D) (g : G) (Q : QD) (E : XD) (h : Γ 34 ds g Q E) : ds.length = 2 := by first | (obtain ⟨rfl, _⟩ := h; rfl; done) | (obtain ⟨_, rfl, _⟩ := h; rfl; done) | (obtain ⟨_, _, rfl, _⟩ := h; rfl; done) | (obtain ⟨_, _, _, rfl, _⟩ := h; rfl; done) | (obtain ⟨_, _, _, _, rfl, _⟩ := h; rfl; done) | (obtain ⟨_, _, _, _, _, rfl, _⟩ := h; rfl; done) | (obtain ⟨_, _, _, _, _, _, rfl, _⟩ := h; rfl; done) | (obtain ⟨_, _, _, _, _, _, _, rfl, _⟩ := h; rfl; done) | (obtain ⟨_, _, _, _, _, _, _, _, rfl, _⟩ := h; rfl; done) | (obtain ⟨_, _, _, _, _, _, _, _, _, rfl, _⟩ := h; rfl; done) | (obtain ⟨_, _, _, _, _, _, _, _, _, _, rfl, _⟩ := h; rfl; done) | (obtain ⟨_, _, _, _, _, _, _, _, _, _, _, rfl, _⟩ := h; rfl; done) | (obtain ⟨_, _, _, _, _, _, _, _, _, _, _, _, rfl, _⟩ := h; rfl; done) | (obtain ⟨_, _, _, _, _, _, _, _, _, _, _, _, _, rfl, _⟩ := h; rfl; done) | (rcases h with h | h <;> first | (obtain ⟨rfl, _⟩ := h; rfl; done) | (obtain ⟨_, rfl, _⟩ := h; rfl; done) | (obtain ⟨_, _, rfl, _⟩ := h; rfl; done) | (obtain ⟨_, _, _, rfl, _⟩ := h; rfl; done) | (obtain ⟨_, _, _, _, rfl, _⟩ := h; rfl; done) | (obtain ⟨_, _, _, _, _, rfl, _⟩ := h; rfl; done) | (obtain ⟨_, _, _, _, _, _, rfl, _⟩ := h; rfl; done) | (obtain ⟨_, _, _, _, _, _, _, rfl, _⟩ := h; rfl; done) | (obtain ⟨_, _, _, _, _, _, _, _, rfl, _⟩ := h; rfl; done) | (obtain ⟨_, _, _, _, _, _, _, _, _, rfl, _⟩ := h; rfl; done) | (obtain ⟨_, _, _, _, _, _, _, _, _, _, rfl, _⟩ := h; rfl; done) | (obtain ⟨_, _, _, _, _, _, _, _, _, _, _, rfl, _⟩ := h; rfl; done) | (obtain ⟨_, _, _, _, _, _, _, _, _, _, _, _, rfl, _⟩ := h; rfl; done) | (obtain ⟨_, _, _, _, _, _, _, _, _, _, _, _, _, rfl, _⟩ := h; rfl; done))
theorem ok10 : DefOk Γ gl F10 gls exs (top 13) (Γ 34) := ⟨N10, ["one", "other"], sx_multiplied, sc10, chk10, fun x K f fd F => F.bindsN fun _ _ _ _ _ _ us hl => (match us, hl with | [_, _], _ => rfl), fun ds g Q E h => len10 ds g Q E h, fun ds g Q E h => by rw [startD_len (N := N10) (M := ns_multiplied) rfl]; exact pure_multiplied rfl rfl rfl rfl h⟩
abbrev N11 : List Str := ["_law_script", "_law_k", "_law_cell"]
theorem chk11 : knS sx_law_pen (ckOf N11 (defScope (top 15)) F11 gls exs) (defBody (top 15)) = true := by decide +kernel
theorem sc11 : FnScope N11 ["_law_script", "_law_k"] (defScope (top 15)) := ⟨rfl, rfl, rfl, by decide +kernel, rfl, by decide +kernel, by decide +kernel⟩
theorem len11 (ds : List D) (g : G) (Q : QD) (E : XD) (h : Γ 3 ds g Q E) : ds.length = 2 := by first | (obtain ⟨rfl, _⟩ := h; rfl; done) | (obtain ⟨_, rfl, _⟩ := h; rfl; done) | (obtain ⟨_, _, rfl, _⟩ := h; rfl; done) | (obtain ⟨_, _, _, rfl, _⟩ := h; rfl; done) | (obtain ⟨_, _, _, _, rfl, _⟩ := h; rfl; done) | (obtain ⟨_, _, _, _, _, rfl, _⟩ := h; rfl; done) | (obtain ⟨_, _, _, _, _, _, rfl, _⟩ := h; rfl; done) | (obtain ⟨_, _, _, _, _, _, _, rfl, _⟩ := h; rfl; done) | (obtain ⟨_, _, _, _, _, _, _, _, rfl, _⟩ := h; rfl; done) | (obtain ⟨_, _, _, _, _, _, _, _, _, rfl, _⟩ := h; rfl; done) | (obtain ⟨_, _, _, _, _, _, _, _, _, _, rfl, _⟩ := h; rfl; done) | (obtain ⟨_, _, _, _, _, _, _, _, _, _, _, rfl, _⟩ := h; rfl; done) | (obtain ⟨_, _, _, _, _, _, _, _, _, _, _, _, rfl, _⟩ := h; rfl; done) | (obtain ⟨_, _, _, _, _, _, _, _, _, _, _, _, _, rfl, _⟩ := h; rfl; done) | (rcases h with h | h <;> first | (obtain ⟨rfl, _⟩ := h; rfl; done) | (obtain ⟨_, rfl, _⟩ := h; rfl; done) | (obtain ⟨_, _, rfl, _⟩ := h; rfl; done) | (obtain ⟨_, _, _, rfl, _⟩ := h; rfl; done) | (obtain ⟨_, _, _, _, rfl, _⟩ := h; rfl; done) | (obtain ⟨_, _, _, _, _, rfl, _⟩ := h; rfl; done) | (obtain ⟨_, _, _, _, _, _, rfl, _⟩ := h; rfl; done) | (obtain ⟨_, _, _, _, _, _, _, rfl, _⟩ := h; rfl; done) | (obtain ⟨_, _, _, _, _, _, _, _, rfl, _⟩ := h; rfl; done) | (obtain ⟨_, _, _, _, _, _, _, _, _, rfl, _⟩ := h; rfl; done) | (obtain ⟨_, _, _, _, _, _, _, _, _, _, rfl, _⟩ := h; rfl; done) | (obtain ⟨_, _, _, _, _, _, _, _, _, _, _, rfl, _⟩ := h; rfl; done) | (obtain ⟨_, _, _, _, _, _, _, _, _, _, _, _, rfl, _⟩ := h; rfl; done) | (obtain ⟨_, _, _, _, _, _, _, _, _, _, _, _, _, rfl, _⟩ := h; rfl; done))
theorem ok11 : DefOk Γ gl F11 gls exs (top 15) (Γ 3) := ⟨N11, ["_law_script", "_law_k"], sx_law_pen, sc11, chk11, fun x K f fd F => F.bindsN fun _ _ _ _ _ _ us hl => (match us, hl with | [_, _], _ => rfl), fun ds g Q E h => len11 ds g Q E h, fun ds g Q E h => by rw [startD_len (N := N11) (M := ns_law_pen) rfl]; exact pure_law_pen h⟩
abbrev N12 : List Str := ["_law_pen_here", "_law_many", "_law_number_here", "_law_drawn"]
theorem chk12 : knS sx_law_draw (ckOf N12 (defScope (top 16)) F12 gls exs) (defBody (top 16)) = true := by decide +kernel
theorem sc12 : FnScope N12 ["_law_pen_here", "_law_many"] (defScope (top 16)) := ⟨rfl, rfl, rfl, by decide +kernel, rfl, by decide +kernel, by decide +kernel⟩
theorem len12 (ds : List D) (g : G) (Q : QD) (E : XD) (h : Γ 4 ds g Q E) : ds.length = 2 := by first | (obtain ⟨rfl, _⟩ := h; rfl; done) | (obtain ⟨_, rfl, _⟩ := h; rfl; done) | (obtain ⟨_, _, rfl, _⟩ := h; rfl; done) | (obtain ⟨_, _, _, rfl, _⟩ := h; rfl; done) | (obtain ⟨_, _, _, _, rfl, _⟩ := h; rfl; done) | (obtain ⟨_, _, _, _, _, rfl, _⟩ := h; rfl; done) | (obtain ⟨_, _, _, _, _, _, rfl, _⟩ := h; rfl; done) | (obtain ⟨_, _, _, _, _, _, _, rfl, _⟩ := h; rfl; done) | (obtain ⟨_, _, _, _, _, _, _, _, rfl, _⟩ := h; rfl; done) | (obtain ⟨_, _, _, _, _, _, _, _, _, rfl, _⟩ := h; rfl; done) | (obtain ⟨_, _, _, _, _, _, _, _, _, _, rfl, _⟩ := h; rfl; done) | (obtain ⟨_, _, _, _, _, _, _, _, _, _, _, rfl, _⟩ := h; rfl; done) | (obtain ⟨_, _, _, _, _, _, _, _, _, _, _, _, rfl, _⟩ := h; rfl; done) | (obtain ⟨_, _, _, _, _, _, _, _, _, _, _, _, _, rfl, _⟩ := h; rfl; done) | (rcases h with h | h <;> first | (obtain ⟨rfl, _⟩ := h; rfl; done) | (obtain ⟨_, rfl, _⟩ := h; rfl; done) | (obtain ⟨_, _, rfl, _⟩ := h; rfl; done) | (obtain ⟨_, _, _, rfl, _⟩ := h; rfl; done) | (obtain ⟨_, _, _, _, rfl, _⟩ := h; rfl; done) | (obtain ⟨_, _, _, _, _, rfl, _⟩ := h; rfl; done) | (obtain ⟨_, _, _, _, _, _, rfl, _⟩ := h; rfl; done) | (obtain ⟨_, _, _, _, _, _, _, rfl, _⟩ := h; rfl; done) | (obtain ⟨_, _, _, _, _, _, _, _, rfl, _⟩ := h; rfl; done) | (obtain ⟨_, _, _, _, _, _, _, _, _, rfl, _⟩ := h; rfl; done) | (obtain ⟨_, _, _, _, _, _, _, _, _, _, rfl, _⟩ := h; rfl; done) | (obtain ⟨_, _, _, _, _, _, _, _, _, _, _, rfl, _⟩ := h; rfl; done) | (obtain ⟨_, _, _, _, _, _, _, _, _, _, _, _, rfl, _⟩ := h; rfl; done) | (obtain ⟨_, _, _, _, _, _, _, _, _, _, _, _, _, rfl, _⟩ := h; rfl; done))
theorem ok12 : DefOk Γ gl F12 gls exs (top 16) (Γ 4) := ⟨N12, ["_law_pen_here", "_law_many"], sx_law_draw, sc12, chk12, fun x K f fd F => F.bindsN fun _ _ _ _ _ _ us hl => (match us, hl with | [_, _], _ => rfl), fun ds g Q E h => len12 ds g Q E h, fun ds g Q E h => by rw [startD_len (N := N12) (M := ns_law_draw) rfl]; exact pure_law_draw h⟩
abbrev N13 : List Str := ["_law_top", "_law_bottom", "_law_one", "_law_other"]
theorem chk13 : knS sx_law_lowest (ckOf N13 (defScope (top 17)) F13 gls exs) (defBody (top 17)) = true := by decide +kernel
theorem sc13 : FnScope N13 ["_law_top", "_law_bottom"] (defScope (top 17)) := ⟨rfl, rfl, rfl, by decide +kernel, rfl, by decide +kernel, by decide +kernel⟩
theorem len13 (ds : List D) (g : G) (Q : QD) (E : XD) (h : Γ 5 ds g Q E) : ds.length = 2 := by first | (obtain ⟨rfl, _⟩ := h; rfl; done) | (obtain ⟨_, rfl, _⟩ := h; rfl; done) | (obtain ⟨_, _, rfl, _⟩ := h; rfl; done) | (obtain ⟨_, _, _, rfl, _⟩ := h; rfl; done) | (obtain ⟨_, _, _, _, rfl, _⟩ := h; rfl; done) | (obtain ⟨_, _, _, _, _, rfl, _⟩ := h; rfl; done) | (obtain ⟨_, _, _, _, _, _, rfl, _⟩ := h; rfl; done) | (obtain ⟨_, _, _, _, _, _, _, rfl, _⟩ := h; rfl; done) | (obtain ⟨_, _, _, _, _, _, _, _, rfl, _⟩ := h; rfl; done) | (obtain ⟨_, _, _, _, _, _, _, _, _, rfl, _⟩ := h; rfl; done) | (obtain ⟨_, _, _, _, _, _, _, _, _, _, rfl, _⟩ := h; rfl; done) | (obtain ⟨_, _, _, _, _, _, _, _, _, _, _, rfl, _⟩ := h; rfl; done) | (obtain ⟨_, _, _, _, _, _, _, _, _, _, _, _, rfl, _⟩ := h; rfl; done) | (obtain ⟨_, _, _, _, _, _, _, _, _, _, _, _, _, rfl, _⟩ := h; rfl; done) | (rcases h with h | h <;> first | (obtain ⟨rfl, _⟩ := h; rfl; done) | (obtain ⟨_, rfl, _⟩ := h; rfl; done) | (obtain ⟨_, _, rfl, _⟩ := h; rfl; done) | (obtain ⟨_, _, _, rfl, _⟩ := h; rfl; done) | (obtain ⟨_, _, _, _, rfl, _⟩ := h; rfl; done) | (obtain ⟨_, _, _, _, _, rfl, _⟩ := h; rfl; done) | (obtain ⟨_, _, _, _, _, _, rfl, _⟩ := h; rfl; done) | (obtain ⟨_, _, _, _, _, _, _, rfl, _⟩ := h; rfl; done) | (obtain ⟨_, _, _, _, _, _, _, _, rfl, _⟩ := h; rfl; done) | (obtain ⟨_, _, _, _, _, _, _, _, _, rfl, _⟩ := h; rfl; done) | (obtain ⟨_, _, _, _, _, _, _, _, _, _, rfl, _⟩ := h; rfl; done) | (obtain ⟨_, _, _, _, _, _, _, _, _, _, _, rfl, _⟩ := h; rfl; done) | (obtain ⟨_, _, _, _, _, _, _, _, _, _, _, _, rfl, _⟩ := h; rfl; done) | (obtain ⟨_, _, _, _, _, _, _, _, _, _, _, _, _, rfl, _⟩ := h; rfl; done))
theorem ok13 : DefOk Γ gl F13 gls exs (top 17) (Γ 5) := ⟨N13, ["_law_top", "_law_bottom"], sx_law_lowest, sc13, chk13, fun x K f fd F => F.bindsN fun _ _ _ _ _ _ us hl => (match us, hl with | [_, _], _ => rfl), fun ds g Q E h => len13 ds g Q E h, fun ds g Q E h => by rw [startD_len (N := N13) (M := ns_law_lowest) rfl]; exact pure_law_lowest h⟩
abbrev N14 : List Str := ["_law_a", "_law_b"]
theorem chk14 : knS sx_law_plus (ckOf N14 (defScope (top 18)) F14 gls exs) (defBody (top 18)) = true := by decide +kernel
theorem sc14 : FnScope N14 ["_law_a", "_law_b"] (defScope (top 18)) := ⟨rfl, rfl, rfl, by decide +kernel, rfl, by decide +kernel, by decide +kernel⟩
theorem len14 (ds : List D) (g : G) (Q : QD) (E : XD) (h : Γ 25 ds g Q E) : ds.length = 2 := by first | (obtain ⟨rfl, _⟩ := h; rfl; done) | (obtain ⟨_, rfl, _⟩ := h; rfl; done) | (obtain ⟨_, _, rfl, _⟩ := h; rfl; done) | (obtain ⟨_, _, _, rfl, _⟩ := h; rfl; done) | (obtain ⟨_, _, _, _, rfl, _⟩ := h; rfl; done) | (obtain ⟨_, _, _, _, _, rfl, _⟩ := h; rfl; done) | (obtain ⟨_, _, _, _, _, _, rfl, _⟩ := h; rfl; done) | (obtain ⟨_, _, _, _, _, _, _, rfl, _⟩ := h; rfl; done) | (obtain ⟨_, _, _, _, _, _, _, _, rfl, _⟩ := h; rfl; done) | (obtain ⟨_, _, _, _, _, _, _, _, _, rfl, _⟩ := h; rfl; done) | (obtain ⟨_, _, _, _, _, _, _, _, _, _, rfl, _⟩ := h; rfl; done) | (obtain ⟨_, _, _, _, _, _, _, _, _, _, _, rfl, _⟩ := h; rfl; done) | (obtain ⟨_, _, _, _, _, _, _, _, _, _, _, _, rfl, _⟩ := h; rfl; done) | (obtain ⟨_, _, _, _, _, _, _, _, _, _, _, _, _, rfl, _⟩ := h; rfl; done) | (rcases h with h | h <;> first | (obtain ⟨rfl, _⟩ := h; rfl; done) | (obtain ⟨_, rfl, _⟩ := h; rfl; done) | (obtain ⟨_, _, rfl, _⟩ := h; rfl; done) | (obtain ⟨_, _, _, rfl, _⟩ := h; rfl; done) | (obtain ⟨_, _, _, _, rfl, _⟩ := h; rfl; done) | (obtain ⟨_, _, _, _, _, rfl, _⟩ := h; rfl; done) | (obtain ⟨_, _, _, _, _, _, rfl, _⟩ := h; rfl; done) | (obtain ⟨_, _, _, _, _, _, _, rfl, _⟩ := h; rfl; done) | (obtain ⟨_, _, _, _, _, _, _, _, rfl, _⟩ := h; rfl; done) | (obtain ⟨_, _, _, _, _, _, _, _, _, rfl, _⟩ := h; rfl; done) | (obtain ⟨_, _, _, _, _, _, _, _, _, _, rfl, _⟩ := h; rfl; done) | (obtain ⟨_, _, _, _, _, _, _, _, _, _, _, rfl, _⟩ := h; rfl; done) | (obtain ⟨_, _, _, _, _, _, _, _, _, _, _, _, rfl, _⟩ := h; rfl; done) | (obtain ⟨_, _, _, _, _, _, _, _, _, _, _, _, _, rfl, _⟩ := h; rfl; done))
theorem ok14 : DefOk Γ gl F14 gls exs (top 18) (Γ 25) := ⟨N14, ["_law_a", "_law_b"], sx_law_plus, sc14, chk14, fun x K f fd F => F.bindsN fun _ _ _ _ _ _ us hl => (match us, hl with | [_, _], _ => rfl), fun ds g Q E h => len14 ds g Q E h, fun ds g Q E h => by rw [startD_len (N := N14) (M := ns_law_plus) rfl]; exact pure_law_plus rfl h⟩
abbrev N15 : List Str := ["_law_a", "_law_b"]
theorem chk15 : knS sx_law_minus (ckOf N15 (defScope (top 19)) F15 gls exs) (defBody (top 19)) = true := by decide +kernel
theorem sc15 : FnScope N15 ["_law_a", "_law_b"] (defScope (top 19)) := ⟨rfl, rfl, rfl, by decide +kernel, rfl, by decide +kernel, by decide +kernel⟩
theorem len15 (ds : List D) (g : G) (Q : QD) (E : XD) (h : Γ 35 ds g Q E) : ds.length = 2 := by first | (obtain ⟨rfl, _⟩ := h; rfl; done) | (obtain ⟨_, rfl, _⟩ := h; rfl; done) | (obtain ⟨_, _, rfl, _⟩ := h; rfl; done) | (obtain ⟨_, _, _, rfl, _⟩ := h; rfl; done) | (obtain ⟨_, _, _, _, rfl, _⟩ := h; rfl; done) | (obtain ⟨_, _, _, _, _, rfl, _⟩ := h; rfl; done) | (obtain ⟨_, _, _, _, _, _, rfl, _⟩ := h; rfl; done) | (obtain ⟨_, _, _, _, _, _, _, rfl, _⟩ := h; rfl; done) | (obtain ⟨_, _, _, _, _, _, _, _, rfl, _⟩ := h; rfl; done) | (obtain ⟨_, _, _, _, _, _, _, _, _, rfl, _⟩ := h; rfl; done) | (obtain ⟨_, _, _, _, _, _, _, _, _, _, rfl, _⟩ := h; rfl; done) | (obtain ⟨_, _, _, _, _, _, _, _, _, _, _, rfl, _⟩ := h; rfl; done) | (obtain ⟨_, _, _, _, _, _, _, _, _, _, _, _, rfl, _⟩ := h; rfl; done) | (obtain ⟨_, _, _, _, _, _, _, _, _, _, _, _, _, rfl, _⟩ := h; rfl; done) | (rcases h with h | h <;> first | (obtain ⟨rfl, _⟩ := h; rfl; done) | (obtain ⟨_, rfl, _⟩ := h; rfl; done) | (obtain ⟨_, _, rfl, _⟩ := h; rfl; done) | (obtain ⟨_, _, _, rfl, _⟩ := h; rfl; done) | (obtain ⟨_, _, _, _, rfl, _⟩ := h; rfl; done) | (obtain ⟨_, _, _, _, _, rfl, _⟩ := h; rfl; done) | (obtain ⟨_, _, _, _, _, _, rfl, _⟩ := h; rfl; done) | (obtain ⟨_, _, _, _, _, _, _, rfl, _⟩ := h; rfl; done) | (obtain ⟨_, _, _, _, _, _, _, _, rfl, _⟩ := h; rfl; done) | (obtain ⟨_, _, _, _, _, _, _, _, _, rfl, _⟩ := h; rfl; done) | (obtain ⟨_, _, _, _, _, _, _, _, _, _, rfl, _⟩ := h; rfl; done) | (obtain ⟨_, _, _, _, _, _, _, _, _, _, _, rfl, _⟩ := h; rfl; done) | (obtain ⟨_, _, _, _, _, _, _, _, _, _, _, _, rfl, _⟩ := h; rfl; done) | (obtain ⟨_, _, _, _, _, _, _, _, _, _, _, _, _, rfl, _⟩ := h; rfl; done))
theorem ok15 : DefOk Γ gl F15 gls exs (top 19) (Γ 35) := ⟨N15, ["_law_a", "_law_b"], sx_law_minus, sc15, chk15, fun x K f fd F => F.bindsN fun _ _ _ _ _ _ us hl => (match us, hl with | [_, _], _ => rfl), fun ds g Q E h => len15 ds g Q E h, fun ds g Q E h => by rw [startD_len (N := N15) (M := ns_law_minus) rfl]; exact pure_law_minus rfl h⟩
abbrev N16 : List Str := ["_law_a", "_law_b"]
theorem chk16 : knS sx_law_times (ckOf N16 (defScope (top 20)) F16 gls exs) (defBody (top 20)) = true := by decide +kernel
theorem sc16 : FnScope N16 ["_law_a", "_law_b"] (defScope (top 20)) := ⟨rfl, rfl, rfl, by decide +kernel, rfl, by decide +kernel, by decide +kernel⟩
theorem len16 (ds : List D) (g : G) (Q : QD) (E : XD) (h : Γ 26 ds g Q E) : ds.length = 2 := by first | (obtain ⟨rfl, _⟩ := h; rfl; done) | (obtain ⟨_, rfl, _⟩ := h; rfl; done) | (obtain ⟨_, _, rfl, _⟩ := h; rfl; done) | (obtain ⟨_, _, _, rfl, _⟩ := h; rfl; done) | (obtain ⟨_, _, _, _, rfl, _⟩ := h; rfl; done) | (obtain ⟨_, _, _, _, _, rfl, _⟩ := h; rfl; done) | (obtain ⟨_, _, _, _, _, _, rfl, _⟩ := h; rfl; done) | (obtain ⟨_, _, _, _, _, _, _, rfl, _⟩ := h; rfl; done) | (obtain ⟨_, _, _, _, _, _, _, _, rfl, _⟩ := h; rfl; done) | (obtain ⟨_, _, _, _, _, _, _, _, _, rfl, _⟩ := h; rfl; done) | (obtain ⟨_, _, _, _, _, _, _, _, _, _, rfl, _⟩ := h; rfl; done) | (obtain ⟨_, _, _, _, _, _, _, _, _, _, _, rfl, _⟩ := h; rfl; done) | (obtain ⟨_, _, _, _, _, _, _, _, _, _, _, _, rfl, _⟩ := h; rfl; done) | (obtain ⟨_, _, _, _, _, _, _, _, _, _, _, _, _, rfl, _⟩ := h; rfl; done) | (rcases h with h | h <;> first | (obtain ⟨rfl, _⟩ := h; rfl; done) | (obtain ⟨_, rfl, _⟩ := h; rfl; done) | (obtain ⟨_, _, rfl, _⟩ := h; rfl; done) | (obtain ⟨_, _, _, rfl, _⟩ := h; rfl; done) | (obtain ⟨_, _, _, _, rfl, _⟩ := h; rfl; done) | (obtain ⟨_, _, _, _, _, rfl, _⟩ := h; rfl; done) | (obtain ⟨_, _, _, _, _, _, rfl, _⟩ := h; rfl; done) | (obtain ⟨_, _, _, _, _, _, _, rfl, _⟩ := h; rfl; done) | (obtain ⟨_, _, _, _, _, _, _, _, rfl, _⟩ := h; rfl; done) | (obtain ⟨_, _, _, _, _, _, _, _, _, rfl, _⟩ := h; rfl; done) | (obtain ⟨_, _, _, _, _, _, _, _, _, _, rfl, _⟩ := h; rfl; done) | (obtain ⟨_, _, _, _, _, _, _, _, _, _, _, rfl, _⟩ := h; rfl; done) | (obtain ⟨_, _, _, _, _, _, _, _, _, _, _, _, rfl, _⟩ := h; rfl; done) | (obtain ⟨_, _, _, _, _, _, _, _, _, _, _, _, _, rfl, _⟩ := h; rfl; done))
theorem ok16 : DefOk Γ gl F16 gls exs (top 20) (Γ 26) := ⟨N16, ["_law_a", "_law_b"], sx_law_times, sc16, chk16, fun x K f fd F => F.bindsN fun _ _ _ _ _ _ us hl => (match us, hl with | [_, _], _ => rfl), fun ds g Q E h => len16 ds g Q E h, fun ds g Q E h => by rw [startD_len (N := N16) (M := ns_law_times) rfl]; exact pure_law_times rfl h⟩
abbrev N17 : List Str := ["_law_pen_here"]
theorem chk17 : knS sx_law_number_v2 (ckOf N17 (defScope (top 21)) F17 gls exs) (defBody (top 21)) = true := by decide +kernel
theorem sc17 : FnScope N17 ["_law_pen_here"] (defScope (top 21)) := ⟨rfl, rfl, rfl, by decide +kernel, rfl, by decide +kernel, by decide +kernel⟩
theorem len17 (ds : List D) (g : G) (Q : QD) (E : XD) (h : Γ 36 ds g Q E) : ds.length = 1 := by first | (obtain ⟨rfl, _⟩ := h; rfl; done) | (obtain ⟨_, rfl, _⟩ := h; rfl; done) | (obtain ⟨_, _, rfl, _⟩ := h; rfl; done) | (obtain ⟨_, _, _, rfl, _⟩ := h; rfl; done) | (obtain ⟨_, _, _, _, rfl, _⟩ := h; rfl; done) | (obtain ⟨_, _, _, _, _, rfl, _⟩ := h; rfl; done) | (obtain ⟨_, _, _, _, _, _, rfl, _⟩ := h; rfl; done) | (obtain ⟨_, _, _, _, _, _, _, rfl, _⟩ := h; rfl; done) | (obtain ⟨_, _, _, _, _, _, _, _, rfl, _⟩ := h; rfl; done) | (obtain ⟨_, _, _, _, _, _, _, _, _, rfl, _⟩ := h; rfl; done) | (obtain ⟨_, _, _, _, _, _, _, _, _, _, rfl, _⟩ := h; rfl; done) | (obtain ⟨_, _, _, _, _, _, _, _, _, _, _, rfl, _⟩ := h; rfl; done) | (obtain ⟨_, _, _, _, _, _, _, _, _, _, _, _, rfl, _⟩ := h; rfl; done) | (obtain ⟨_, _, _, _, _, _, _, _, _, _, _, _, _, rfl, _⟩ := h; rfl; done) | (rcases h with h | h <;> first | (obtain ⟨rfl, _⟩ := h; rfl; done) | (obtain ⟨_, rfl, _⟩ := h; rfl; done) | (obtain ⟨_, _, rfl, _⟩ := h; rfl; done) | (obtain ⟨_, _, _, rfl, _⟩ := h; rfl; done) | (obtain ⟨_, _, _, _, rfl, _⟩ := h; rfl; done) | (obtain ⟨_, _, _, _, _, rfl, _⟩ := h; rfl; done) | (obtain ⟨_, _, _, _, _, _, rfl, _⟩ := h; rfl; done) | (obtain ⟨_, _, _, _, _, _, _, rfl, _⟩ := h; rfl; done) | (obtain ⟨_, _, _, _, _, _, _, _, rfl, _⟩ := h; rfl; done) | (obtain ⟨_, _, _, _, _, _, _, _, _, rfl, _⟩ := h; rfl; done) | (obtain ⟨_, _, _, _, _, _, _, _, _, _, rfl, _⟩ := h; rfl; done) | (obtain ⟨_, _, _, _, _, _, _, _, _, _, _, rfl, _⟩ := h; rfl; done) | (obtain ⟨_, _, _, _, _, _, _, _, _, _, _, _, rfl, _⟩ := h; rfl; done) | (obtain ⟨_, _, _, _, _, _, _, _, _, _, _, _, _, rfl, _⟩ := h; rfl; done))
theorem ok17 : DefOk Γ gl F17 gls exs (top 21) (Γ 36) := ⟨N17, ["_law_pen_here"], sx_law_number_v2, sc17, chk17, fun x K f fd F => F.bindsN fun _ _ _ _ _ _ us hl => (match us, hl with | [_], _ => rfl), fun ds g Q E h => len17 ds g Q E h, fun ds g Q E h => by rw [startD_len (N := N17) (M := ns_law_number_v2) rfl]; exact pure_law_number_v2 rfl rfl h⟩
abbrev N18 : List Str := ["_law_curve_here", "_law_x", "_law_found", "_law_power", "_law_number_here"]
theorem chk18 : knS sx_law_at (ckOf N18 (defScope (top 22)) F18 gls exs) (defBody (top 22)) = true := by decide +kernel
theorem sc18 : FnScope N18 ["_law_curve_here", "_law_x"] (defScope (top 22)) := ⟨rfl, rfl, rfl, by decide +kernel, rfl, by decide +kernel, by decide +kernel⟩
theorem len18 (ds : List D) (g : G) (Q : QD) (E : XD) (h : Γ 27 ds g Q E) : ds.length = 2 := by first | (obtain ⟨rfl, _⟩ := h; rfl; done) | (obtain ⟨_, rfl, _⟩ := h; rfl; done) | (obtain ⟨_, _, rfl, _⟩ := h; rfl; done) | (obtain ⟨_, _, _, rfl, _⟩ := h; rfl; done) | (obtain ⟨_, _, _, _, rfl, _⟩ := h; rfl; done) | (obtain ⟨_, _, _, _, _, rfl, _⟩ := h; rfl; done) | (obtain ⟨_, _, _, _, _, _, rfl, _⟩ := h; rfl; done) | (obtain ⟨_, _, _, _, _, _, _, rfl, _⟩ := h; rfl; done) | (obtain ⟨_, _, _, _, _, _, _, _, rfl, _⟩ := h; rfl; done) | (obtain ⟨_, _, _, _, _, _, _, _, _, rfl, _⟩ := h; rfl; done) | (obtain ⟨_, _, _, _, _, _, _, _, _, _, rfl, _⟩ := h; rfl; done) | (obtain ⟨_, _, _, _, _, _, _, _, _, _, _, rfl, _⟩ := h; rfl; done) | (obtain ⟨_, _, _, _, _, _, _, _, _, _, _, _, rfl, _⟩ := h; rfl; done) | (obtain ⟨_, _, _, _, _, _, _, _, _, _, _, _, _, rfl, _⟩ := h; rfl; done) | (rcases h with h | h <;> first | (obtain ⟨rfl, _⟩ := h; rfl; done) | (obtain ⟨_, rfl, _⟩ := h; rfl; done) | (obtain ⟨_, _, rfl, _⟩ := h; rfl; done) | (obtain ⟨_, _, _, rfl, _⟩ := h; rfl; done) | (obtain ⟨_, _, _, _, rfl, _⟩ := h; rfl; done) | (obtain ⟨_, _, _, _, _, rfl, _⟩ := h; rfl; done) | (obtain ⟨_, _, _, _, _, _, rfl, _⟩ := h; rfl; done) | (obtain ⟨_, _, _, _, _, _, _, rfl, _⟩ := h; rfl; done) | (obtain ⟨_, _, _, _, _, _, _, _, rfl, _⟩ := h; rfl; done) | (obtain ⟨_, _, _, _, _, _, _, _, _, rfl, _⟩ := h; rfl; done) | (obtain ⟨_, _, _, _, _, _, _, _, _, _, rfl, _⟩ := h; rfl; done) | (obtain ⟨_, _, _, _, _, _, _, _, _, _, _, rfl, _⟩ := h; rfl; done) | (obtain ⟨_, _, _, _, _, _, _, _, _, _, _, _, rfl, _⟩ := h; rfl; done) | (obtain ⟨_, _, _, _, _, _, _, _, _, _, _, _, _, rfl, _⟩ := h; rfl; done))
theorem ok18 : DefOk Γ gl F18 gls exs (top 22) (Γ 27) := ⟨N18, ["_law_curve_here", "_law_x"], sx_law_at, sc18, chk18, fun x K f fd F => F.bindsN fun _ _ _ _ _ _ us hl => (match us, hl with | [_, _], _ => rfl), fun ds g Q E h => len18 ds g Q E h, fun ds g Q E h => by rw [startD_len (N := N18) (M := ns_law_at) rfl]; exact pure_law_at rfl rfl h⟩
abbrev N19 : List Str := ["_law_pen_here", "_law_most", "_law_some", "_law_k"]
theorem chk19 : knS sx_law_curve (ckOf N19 (defScope (top 23)) F19 gls exs) (defBody (top 23)) = true := by decide +kernel
theorem sc19 : FnScope N19 ["_law_pen_here", "_law_most"] (defScope (top 23)) := ⟨rfl, rfl, rfl, by decide +kernel, rfl, by decide +kernel, by decide +kernel⟩
theorem len19 (ds : List D) (g : G) (Q : QD) (E : XD) (h : Γ 37 ds g Q E) : ds.length = 2 := by first | (obtain ⟨rfl, _⟩ := h; rfl; done) | (obtain ⟨_, rfl, _⟩ := h; rfl; done) | (obtain ⟨_, _, rfl, _⟩ := h; rfl; done) | (obtain ⟨_, _, _, rfl, _⟩ := h; rfl; done) | (obtain ⟨_, _, _, _, rfl, _⟩ := h; rfl; done) | (obtain ⟨_, _, _, _, _, rfl, _⟩ := h; rfl; done) | (obtain ⟨_, _, _, _, _, _, rfl, _⟩ := h; rfl; done) | (obtain ⟨_, _, _, _, _, _, _, rfl, _⟩ := h; rfl; done) | (obtain ⟨_, _, _, _, _, _, _, _, rfl, _⟩ := h; rfl; done) | (obtain ⟨_, _, _, _, _, _, _, _, _, rfl, _⟩ := h; rfl; done) | (obtain ⟨_, _, _, _, _, _, _, _, _, _, rfl, _⟩ := h; rfl; done) | (obtain ⟨_, _, _, _, _, _, _, _, _, _, _, rfl, _⟩ := h; rfl; done) | (obtain ⟨_, _, _, _, _, _, _, _, _, _, _, _, rfl, _⟩ := h; rfl; done) | (obtain ⟨_, _, _, _, _, _, _, _, _, _, _, _, _, rfl, _⟩ := h; rfl; done) | (rcases h with h | h <;> first | (obtain ⟨rfl, _⟩ := h; rfl; done) | (obtain ⟨_, rfl, _⟩ := h; rfl; done) | (obtain ⟨_, _, rfl, _⟩ := h; rfl; done) | (obtain ⟨_, _, _, rfl, _⟩ := h; rfl; done) | (obtain ⟨_, _, _, _, rfl, _⟩ := h; rfl; done) | (obtain ⟨_, _, _, _, _, rfl, _⟩ := h; rfl; done) | (obtain ⟨_, _, _, _, _, _, rfl, _⟩ := h; rfl; done) | (obtain ⟨_, _, _, _, _, _, _, rfl, _⟩ := h; rfl; done) | (obtain ⟨_, _, _, _, _, _, _, _, rfl, _⟩ := h; rfl; done) | (obtain ⟨_, _, _, _, _, _, _, _, _, rfl, _⟩ := h; rfl; done) | (obtain ⟨_, _, _, _, _, _, _, _, _, _, rfl, _⟩ := h; rfl; done) | (obtain ⟨_, _, _, _, _, _, _, _, _, _, _, rfl, _⟩ := h; rfl; done) | (obtain ⟨_, _, _, _, _, _, _, _, _, _, _, _, rfl, _⟩ := h; rfl; done) | (obtain ⟨_, _, _, _, _, _, _, _, _, _, _, _, _, rfl, _⟩ := h; rfl; done))
theorem ok19 : DefOk Γ gl F19 gls exs (top 23) (Γ 37) := ⟨N19, ["_law_pen_here", "_law_most"], sx_law_curve, sc19, chk19, fun x K f fd F => F.bindsN fun _ _ _ _ _ _ us hl => (match us, hl with | [_, _], _ => rfl), fun ds g Q E h => len19 ds g Q E h, fun ds g Q E h => by rw [startD_len (N := N19) (M := ns_law_curve) rfl]; exact pure_law_curve rfl rfl h⟩
abbrev N20 : List Str := ["_law_thing"]
theorem chk20 : knS sx_law_whole (ckOf N20 (defScope (top 24)) F20 gls exs) (defBody (top 24)) = true := by decide +kernel
theorem sc20 : FnScope N20 ["_law_thing"] (defScope (top 24)) := ⟨rfl, rfl, rfl, by decide +kernel, rfl, by decide +kernel, by decide +kernel⟩
theorem len20 (ds : List D) (g : G) (Q : QD) (E : XD) (h : Γ 6 ds g Q E) : ds.length = 1 := by first | (obtain ⟨rfl, _⟩ := h; rfl; done) | (obtain ⟨_, rfl, _⟩ := h; rfl; done) | (obtain ⟨_, _, rfl, _⟩ := h; rfl; done) | (obtain ⟨_, _, _, rfl, _⟩ := h; rfl; done) | (obtain ⟨_, _, _, _, rfl, _⟩ := h; rfl; done) | (obtain ⟨_, _, _, _, _, rfl, _⟩ := h; rfl; done) | (obtain ⟨_, _, _, _, _, _, rfl, _⟩ := h; rfl; done) | (obtain ⟨_, _, _, _, _, _, _, rfl, _⟩ := h; rfl; done) | (obtain ⟨_, _, _, _, _, _, _, _, rfl, _⟩ := h; rfl; done) | (obtain ⟨_, _, _, _, _, _, _, _, _, rfl, _⟩ := h; rfl; done) | (obtain ⟨_, _, _, _, _, _, _, _, _, _, rfl, _⟩ := h; rfl; done) | (obtain ⟨_, _, _, _, _, _, _, _, _, _, _, rfl, _⟩ := h; rfl; done) | (obtain ⟨_, _, _, _, _, _, _, _, _, _, _, _, rfl, _⟩ := h; rfl; done) | (obtain ⟨_, _, _, _, _, _, _, _, _, _, _, _, _, rfl, _⟩ := h; rfl; done) | (rcases h with h | h <;> first | (obtain ⟨rfl, _⟩ := h; rfl; done) | (obtain ⟨_, rfl, _⟩ := h; rfl; done) | (obtain ⟨_, _, rfl, _⟩ := h; rfl; done) | (obtain ⟨_, _, _, rfl, _⟩ := h; rfl; done) | (obtain ⟨_, _, _, _, rfl, _⟩ := h; rfl; done) | (obtain ⟨_, _, _, _, _, rfl, _⟩ := h; rfl; done) | (obtain ⟨_, _, _, _, _, _, rfl, _⟩ := h; rfl; done) | (obtain ⟨_, _, _, _, _, _, _, rfl, _⟩ := h; rfl; done) | (obtain ⟨_, _, _, _, _, _, _, _, rfl, _⟩ := h; rfl; done) | (obtain ⟨_, _, _, _, _, _, _, _, _, rfl, _⟩ := h; rfl; done) | (obtain ⟨_, _, _, _, _, _, _, _, _, _, rfl, _⟩ := h; rfl; done) | (obtain ⟨_, _, _, _, _, _, _, _, _, _, _, rfl, _⟩ := h; rfl; done) | (obtain ⟨_, _, _, _, _, _, _, _, _, _, _, _, rfl, _⟩ := h; rfl; done) | (obtain ⟨_, _, _, _, _, _, _, _, _, _, _, _, _, rfl, _⟩ := h; rfl; done))
theorem ok20 : DefOk Γ gl F20 gls exs (top 24) (Γ 6) := ⟨N20, ["_law_thing"], sx_law_whole, sc20, chk20, fun x K f fd F => F.bindsN fun _ _ _ _ _ _ us hl => (match us, hl with | [_], _ => rfl), fun ds g Q E h => len20 ds g Q E h, fun ds g Q E h => by rw [startD_len (N := N20) (M := ns_law_whole) rfl]; exact pure_law_whole h⟩
abbrev N21 : List Str := ["_law_thing"]
theorem chk21 : knS sx_law_is_number (ckOf N21 (defScope (top 25)) F21 gls exs) (defBody (top 25)) = true := by decide +kernel
theorem sc21 : FnScope N21 ["_law_thing"] (defScope (top 25)) := ⟨rfl, rfl, rfl, by decide +kernel, rfl, by decide +kernel, by decide +kernel⟩
theorem len21 (ds : List D) (g : G) (Q : QD) (E : XD) (h : Γ 7 ds g Q E) : ds.length = 1 := by first | (obtain ⟨rfl, _⟩ := h; rfl; done) | (obtain ⟨_, rfl, _⟩ := h; rfl; done) | (obtain ⟨_, _, rfl, _⟩ := h; rfl; done) | (obtain ⟨_, _, _, rfl, _⟩ := h; rfl; done) | (obtain ⟨_, _, _, _, rfl, _⟩ := h; rfl; done) | (obtain ⟨_, _, _, _, _, rfl, _⟩ := h; rfl; done) | (obtain ⟨_, _, _, _, _, _, rfl, _⟩ := h; rfl; done) | (obtain ⟨_, _, _, _, _, _, _, rfl, _⟩ := h; rfl; done) | (obtain ⟨_, _, _, _, _, _, _, _, rfl, _⟩ := h; rfl; done) | (obtain ⟨_, _, _, _, _, _, _, _, _, rfl, _⟩ := h; rfl; done) | (obtain ⟨_, _, _, _, _, _, _, _, _, _, rfl, _⟩ := h; rfl; done) | (obtain ⟨_, _, _, _, _, _, _, _, _, _, _, rfl, _⟩ := h; rfl; done) | (obtain ⟨_, _, _, _, _, _, _, _, _, _, _, _, rfl, _⟩ := h; rfl; done) | (obtain ⟨_, _, _, _, _, _, _, _, _, _, _, _, _, rfl, _⟩ := h; rfl; done) | (rcases h with h | h <;> first | (obtain ⟨rfl, _⟩ := h; rfl; done) | (obtain ⟨_, rfl, _⟩ := h; rfl; done) | (obtain ⟨_, _, rfl, _⟩ := h; rfl; done) | (obtain ⟨_, _, _, rfl, _⟩ := h; rfl; done) | (obtain ⟨_, _, _, _, rfl, _⟩ := h; rfl; done) | (obtain ⟨_, _, _, _, _, rfl, _⟩ := h; rfl; done) | (obtain ⟨_, _, _, _, _, _, rfl, _⟩ := h; rfl; done) | (obtain ⟨_, _, _, _, _, _, _, rfl, _⟩ := h; rfl; done) | (obtain ⟨_, _, _, _, _, _, _, _, rfl, _⟩ := h; rfl; done) | (obtain ⟨_, _, _, _, _, _, _, _, _, rfl, _⟩ := h; rfl; done) | (obtain ⟨_, _, _, _, _, _, _, _, _, _, rfl, _⟩ := h; rfl; done) | (obtain ⟨_, _, _, _, _, _, _, _, _, _, _, rfl, _⟩ := h; rfl; done) | (obtain ⟨_, _, _, _, _, _, _, _, _, _, _, _, rfl, _⟩ := h; rfl; done) | (obtain ⟨_, _, _, _, _, _, _, _, _, _, _, _, _, rfl, _⟩ := h; rfl; done))
theorem ok21 : DefOk Γ gl F21 gls exs (top 25) (Γ 7) := ⟨N21, ["_law_thing"], sx_law_is_number, sc21, chk21, fun x K f fd F => F.bindsN fun _ _ _ _ _ _ us hl => (match us, hl with | [_], _ => rfl), fun ds g Q E h => len21 ds g Q E h, fun ds g Q E h => by rw [startD_len (N := N21) (M := ns_law_is_number) rfl]; exact pure_law_is_number rfl rfl h⟩
abbrev N22 : List Str := ["_law_thing", "_law_number_here"]
theorem chk22 : knS sx_law_is_curve (ckOf N22 (defScope (top 26)) F22 gls exs) (defBody (top 26)) = true := by decide +kernel
theorem sc22 : FnScope N22 ["_law_thing"] (defScope (top 26)) := ⟨rfl, rfl, rfl, by decide +kernel, rfl, by decide +kernel, by decide +kernel⟩
theorem len22 (ds : List D) (g : G) (Q : QD) (E : XD) (h : Γ 28 ds g Q E) : ds.length = 1 := by first | (obtain ⟨rfl, _⟩ := h; rfl; done) | (obtain ⟨_, rfl, _⟩ := h; rfl; done) | (obtain ⟨_, _, rfl, _⟩ := h; rfl; done) | (obtain ⟨_, _, _, rfl, _⟩ := h; rfl; done) | (obtain ⟨_, _, _, _, rfl, _⟩ := h; rfl; done) | (obtain ⟨_, _, _, _, _, rfl, _⟩ := h; rfl; done) | (obtain ⟨_, _, _, _, _, _, rfl, _⟩ := h; rfl; done) | (obtain ⟨_, _, _, _, _, _, _, rfl, _⟩ := h; rfl; done) | (obtain ⟨_, _, _, _, _, _, _, _, rfl, _⟩ := h; rfl; done) | (obtain ⟨_, _, _, _, _, _, _, _, _, rfl, _⟩ := h; rfl; done) | (obtain ⟨_, _, _, _, _, _, _, _, _, _, rfl, _⟩ := h; rfl; done) | (obtain ⟨_, _, _, _, _, _, _, _, _, _, _, rfl, _⟩ := h; rfl; done) | (obtain ⟨_, _, _, _, _, _, _, _, _, _, _, _, rfl, _⟩ := h; rfl; done) | (obtain ⟨_, _, _, _, _, _, _, _, _, _, _, _, _, rfl, _⟩ := h; rfl; done) | (rcases h with h | h <;> first | (obtain ⟨rfl, _⟩ := h; rfl; done) | (obtain ⟨_, rfl, _⟩ := h; rfl; done) | (obtain ⟨_, _, rfl, _⟩ := h; rfl; done) | (obtain ⟨_, _, _, rfl, _⟩ := h; rfl; done) | (obtain ⟨_, _, _, _, rfl, _⟩ := h; rfl; done) | (obtain ⟨_, _, _, _, _, rfl, _⟩ := h; rfl; done) | (obtain ⟨_, _, _, _, _, _, rfl, _⟩ := h; rfl; done) | (obtain ⟨_, _, _, _, _, _, _, rfl, _⟩ := h; rfl; done) | (obtain ⟨_, _, _, _, _, _, _, _, rfl, _⟩ := h; rfl; done) | (obtain ⟨_, _, _, _, _, _, _, _, _, rfl, _⟩ := h; rfl; done) | (obtain ⟨_, _, _, _, _, _, _, _, _, _, rfl, _⟩ := h; rfl; done) | (obtain ⟨_, _, _, _, _, _, _, _, _, _, _, rfl, _⟩ := h; rfl; done) | (obtain ⟨_, _, _, _, _, _, _, _, _, _, _, _, rfl, _⟩ := h; rfl; done) | (obtain ⟨_, _, _, _, _, _, _, _, _, _, _, _, _, rfl, _⟩ := h; rfl; done))
theorem ok22 : DefOk Γ gl F22 gls exs (top 26) (Γ 28) := ⟨N22, ["_law_thing"], sx_law_is_curve, sc22, chk22, fun x K f fd F => F.bindsN fun _ _ _ _ _ _ us hl => (match us, hl with | [_], _ => rfl), fun ds g Q E h => len22 ds g Q E h, fun ds g Q E h => by rw [startD_len (N := N22) (M := ns_law_is_curve) rfl]; exact pure_law_is_curve rfl h⟩
abbrev N23 : List Str := ["_law_found", "_law_most", "_law_due", "_law_k"]
theorem chk23 : knS sx_law_is_so_v2 (ckOfA N23 (defScope (top 27)) F23 gls exs 999 "_law_due" 2) (defBody (top 27)) = true := by decide +kernel
theorem sc23 : FnScope N23 ["_law_found", "_law_most", "_law_due"] (defScope (top 27)) := ⟨rfl, rfl, rfl, by decide +kernel, rfl, by decide +kernel, by decide +kernel⟩
theorem ok23 : AskOk3 Γ gl F23 gls exs 999 (top 27) := ⟨N23, ["_law_found", "_law_most", "_law_due"], "_law_due", 2, sx_law_is_so_v2, sc23, rfl, chk23, fun x K f fd F => F.bindsN fun _ _ _ _ _ _ us hl => (match us, hl with | [_, _, _], _ => rfl), fun f L d1 d2 g Q h => by rw [startD_len (N := N23) (M := ns_law_is_so_v2) rfl]; exact pure_law_is_so_v2 upΓ_same.symm h⟩
abbrev N24 : List Str := ["_law_one", "_law_other", "_law_number_here", "_law_most", "_law_due"]
theorem chk24 : knS sx_law_right_v9 (ckOfQ N24 (defScope (top 28)) F24 gls exs "_law_is_so") (defBody (top 28)) = true := by decide +kernel
theorem sc24 : FnScope N24 ["_law_one", "_law_other", "_law_number_here"] (defScope (top 28)) := ⟨rfl, rfl, rfl, by decide +kernel, rfl, by decide +kernel, by decide +kernel⟩
theorem len24 (ds : List D) (g : G) (Q : QD) (E : XD) (h : Γ 482 ds g Q E) : ds.length = 3 := by first | (obtain ⟨rfl, _⟩ := h; rfl; done) | (obtain ⟨_, rfl, _⟩ := h; rfl; done) | (obtain ⟨_, _, rfl, _⟩ := h; rfl; done) | (obtain ⟨_, _, _, rfl, _⟩ := h; rfl; done) | (obtain ⟨_, _, _, _, rfl, _⟩ := h; rfl; done) | (obtain ⟨_, _, _, _, _, rfl, _⟩ := h; rfl; done) | (obtain ⟨_, _, _, _, _, _, rfl, _⟩ := h; rfl; done) | (obtain ⟨_, _, _, _, _, _, _, rfl, _⟩ := h; rfl; done) | (obtain ⟨_, _, _, _, _, _, _, _, rfl, _⟩ := h; rfl; done) | (obtain ⟨_, _, _, _, _, _, _, _, _, rfl, _⟩ := h; rfl; done) | (obtain ⟨_, _, _, _, _, _, _, _, _, _, rfl, _⟩ := h; rfl; done) | (obtain ⟨_, _, _, _, _, _, _, _, _, _, _, rfl, _⟩ := h; rfl; done) | (obtain ⟨_, _, _, _, _, _, _, _, _, _, _, _, rfl, _⟩ := h; rfl; done) | (obtain ⟨_, _, _, _, _, _, _, _, _, _, _, _, _, rfl, _⟩ := h; rfl; done) | (rcases h with h | h <;> first | (obtain ⟨rfl, _⟩ := h; rfl; done) | (obtain ⟨_, rfl, _⟩ := h; rfl; done) | (obtain ⟨_, _, rfl, _⟩ := h; rfl; done) | (obtain ⟨_, _, _, rfl, _⟩ := h; rfl; done) | (obtain ⟨_, _, _, _, rfl, _⟩ := h; rfl; done) | (obtain ⟨_, _, _, _, _, rfl, _⟩ := h; rfl; done) | (obtain ⟨_, _, _, _, _, _, rfl, _⟩ := h; rfl; done) | (obtain ⟨_, _, _, _, _, _, _, rfl, _⟩ := h; rfl; done) | (obtain ⟨_, _, _, _, _, _, _, _, rfl, _⟩ := h; rfl; done) | (obtain ⟨_, _, _, _, _, _, _, _, _, rfl, _⟩ := h; rfl; done) | (obtain ⟨_, _, _, _, _, _, _, _, _, _, rfl, _⟩ := h; rfl; done) | (obtain ⟨_, _, _, _, _, _, _, _, _, _, _, rfl, _⟩ := h; rfl; done) | (obtain ⟨_, _, _, _, _, _, _, _, _, _, _, _, rfl, _⟩ := h; rfl; done) | (obtain ⟨_, _, _, _, _, _, _, _, _, _, _, _, _, rfl, _⟩ := h; rfl; done))
theorem ok24 : DefOkQ Γ gl F24 gls exs "_law_is_so" (top 28) (Γ 482) := ⟨N24, ["_law_one", "_law_other", "_law_number_here"], sx_law_right_v9, sc24, chk24, fun x K f fd F => F.bindsN fun _ _ _ _ _ _ us hl => (match us, hl with | [_, _, _], _ => rfl), fun ds g Q E h => len24 ds g Q E h, fun ds g Q E h => by rw [startD_len (N := N24) (M := ns_law_right_v9) rfl]; exact pure_law_right_v9 rfl rfl rfl rfl rfl rfl rfl rfl rfl h⟩
abbrev N25 : List Str := ["_law_script", "_law_pen_here", "_law_one", "_law_other", "_law_way", "_law_number_here", "_law_cut", "_law_k", "_law_top", "_law_bottom"]
theorem chk25 : knS sx_law_k05_v2 (ckOf N25 (defScope (top 29)) F25 gls exs) (defBody (top 29)) = true := by decide +kernel
theorem sc25 : FnScope N25 ["_law_script"] (defScope (top 29)) := ⟨rfl, rfl, rfl, by decide +kernel, rfl, by decide +kernel, by decide +kernel⟩
theorem len25 (ds : List D) (g : G) (Q : QD) (E : XD) (h : spLaw ds g Q E) : ds.length = 1 := by first | (obtain ⟨rfl, _⟩ := h; rfl; done) | (obtain ⟨_, rfl, _⟩ := h; rfl; done) | (obtain ⟨_, _, rfl, _⟩ := h; rfl; done) | (obtain ⟨_, _, _, rfl, _⟩ := h; rfl; done) | (obtain ⟨_, _, _, _, rfl, _⟩ := h; rfl; done) | (obtain ⟨_, _, _, _, _, rfl, _⟩ := h; rfl; done) | (obtain ⟨_, _, _, _, _, _, rfl, _⟩ := h; rfl; done) | (obtain ⟨_, _, _, _, _, _, _, rfl, _⟩ := h; rfl; done) | (obtain ⟨_, _, _, _, _, _, _, _, rfl, _⟩ := h; rfl; done) | (obtain ⟨_, _, _, _, _, _, _, _, _, rfl, _⟩ := h; rfl; done) | (obtain ⟨_, _, _, _, _, _, _, _, _, _, rfl, _⟩ := h; rfl; done) | (obtain ⟨_, _, _, _, _, _, _, _, _, _, _, rfl, _⟩ := h; rfl; done) | (obtain ⟨_, _, _, _, _, _, _, _, _, _, _, _, rfl, _⟩ := h; rfl; done) | (obtain ⟨_, _, _, _, _, _, _, _, _, _, _, _, _, rfl, _⟩ := h; rfl; done) | (rcases h with h | h <;> first | (obtain ⟨rfl, _⟩ := h; rfl; done) | (obtain ⟨_, rfl, _⟩ := h; rfl; done) | (obtain ⟨_, _, rfl, _⟩ := h; rfl; done) | (obtain ⟨_, _, _, rfl, _⟩ := h; rfl; done) | (obtain ⟨_, _, _, _, rfl, _⟩ := h; rfl; done) | (obtain ⟨_, _, _, _, _, rfl, _⟩ := h; rfl; done) | (obtain ⟨_, _, _, _, _, _, rfl, _⟩ := h; rfl; done) | (obtain ⟨_, _, _, _, _, _, _, rfl, _⟩ := h; rfl; done) | (obtain ⟨_, _, _, _, _, _, _, _, rfl, _⟩ := h; rfl; done) | (obtain ⟨_, _, _, _, _, _, _, _, _, rfl, _⟩ := h; rfl; done) | (obtain ⟨_, _, _, _, _, _, _, _, _, _, rfl, _⟩ := h; rfl; done) | (obtain ⟨_, _, _, _, _, _, _, _, _, _, _, rfl, _⟩ := h; rfl; done) | (obtain ⟨_, _, _, _, _, _, _, _, _, _, _, _, rfl, _⟩ := h; rfl; done) | (obtain ⟨_, _, _, _, _, _, _, _, _, _, _, _, _, rfl, _⟩ := h; rfl; done))
theorem ok25 : DefOk Γ gl F25 gls exs (top 29) (spLaw) := ⟨N25, ["_law_script"], sx_law_k05_v2, sc25, chk25, fun x K f fd F => F.bindsN fun _ _ _ _ _ _ us hl => (match us, hl with | [_], _ => rfl), fun ds g Q E h => len25 ds g Q E h, fun ds g Q E h => by rw [startD_len (N := N25) (M := ns_law_k05_v2) rfl]; exact pure_law_k05_v2 rfl rfl rfl rfl rfl rfl h⟩
def D0 : He.DefD := ⟨("shared_part", none), "shared_part", "shared_part", defArgs (top 2), defBody (top 2), defScope (top 2), [], []⟩
def D1 : He.DefD := ⟨("lowest", none), "lowest", "lowest", defArgs (top 3), defBody (top 3), defScope (top 3), [], []⟩
def D2 : He.DefD := ⟨("plus", none), "plus", "plus", defArgs (top 4), defBody (top 4), defScope (top 4), [], []⟩
def D3 : He.DefD := ⟨("minus", none), "minus", "minus", defArgs (top 5), defBody (top 5), defScope (top 5), [], []⟩
def D4 : He.DefD := ⟨("times", none), "times", "times", defArgs (top 6), defBody (top 6), defScope (top 6), [], []⟩
def D5 : He.DefD := ⟨("curve_of", none), "curve_of", "curve_of", defArgs (top 8), defBody (top 8), defScope (top 8), [], []⟩
def D6 : He.DefD := ⟨("number_at", none), "number_at", "number_at", defArgs (top 9), defBody (top 9), defScope (top 9), [], []⟩
def D7 : He.DefD := ⟨("added", none), "added", "added", defArgs (top 10), defBody (top 10), defScope (top 10), [], []⟩
def D8 : He.DefD := ⟨("lessened", none), "lessened", "lessened", defArgs (top 11), defBody (top 11), defScope (top 11), [], []⟩
def D9 : He.DefD := ⟨("scaled", none), "scaled", "scaled", defArgs (top 12), defBody (top 12), defScope (top 12), [], []⟩
def D10 : He.DefD := ⟨("multiplied", none), "multiplied", "multiplied", defArgs (top 13), defBody (top 13), defScope (top 13), [], []⟩
def D11 : He.DefD := ⟨("_law_pen", none), "_law_pen", "_law_pen", defArgs (top 15), defBody (top 15), defScope (top 15), [], []⟩
def D12 : He.DefD := ⟨("_law_draw", none), "_law_draw", "_law_draw", defArgs (top 16), defBody (top 16), defScope (top 16), [], []⟩
def D13 : He.DefD := ⟨("_law_lowest", none), "_law_lowest", "_law_lowest", defArgs (top 17), defBody (top 17), defScope (top 17), [], []⟩
def D14 : He.DefD := ⟨("_law_plus", none), "_law_plus", "_law_plus", defArgs (top 18), defBody (top 18), defScope (top 18), [], []⟩
def D15 : He.DefD := ⟨("_law_minus", none), "_law_minus", "_law_minus", defArgs (top 19), defBody (top 19), defScope (top 19), [], []⟩
def D16 : He.DefD := ⟨("_law_times", none), "_law_times", "_law_times", defArgs (top 20), defBody (top 20), defScope (top 20), [], []⟩
def D17 : He.DefD := ⟨("_law_number", none), "_law_number", "_law_number", defArgs (top 21), defBody (top 21), defScope (top 21), [], []⟩
def D18 : He.DefD := ⟨("_law_at", none), "_law_at", "_law_at", defArgs (top 22), defBody (top 22), defScope (top 22), [], []⟩
def D19 : He.DefD := ⟨("_law_curve", none), "_law_curve", "_law_curve", defArgs (top 23), defBody (top 23), defScope (top 23), [], []⟩
def D20 : He.DefD := ⟨("_law_whole", none), "_law_whole", "_law_whole", defArgs (top 24), defBody (top 24), defScope (top 24), [], []⟩
def D21 : He.DefD := ⟨("_law_is_number", none), "_law_is_number", "_law_is_number", defArgs (top 25), defBody (top 25), defScope (top 25), [], []⟩
def D22 : He.DefD := ⟨("_law_is_curve", none), "_law_is_curve", "_law_is_curve", defArgs (top 26), defBody (top 26), defScope (top 26), [], []⟩
def D23 : He.DefD := ⟨("_law_is_so", none), "_law_is_so", "_law_is_so", defArgs (top 27), defBody (top 27), defScope (top 27), [], []⟩
def D24 : He.DefD := ⟨("_law_right", none), "_law_right", "_law_right", defArgs (top 28), defBody (top 28), defScope (top 28), [], []⟩
def D25 : He.DefD := ⟨("law", none), "law", "law", defArgs (top 29), defBody (top 29), defScope (top 29), [], []⟩
def fn : List He.DefD := [D0, D1, D2, D3, D4, D5, D6, D7, D8, D9, D10, D11, D12, D13, D14, D15, D16, D17, D18, D19, D20, D21, D22, D23, D24, D25]
def fa : List He.Fa := bltNames.map (fun x => He.Fa.free (Str.ofString x)) ++ [.glo "shared_part", .glo "lowest", .glo "plus", .glo "minus", .glo "times", .glo "curve_of", .glo "number_at", .glo "added", .glo "lessened", .glo "scaled", .glo "multiplied", .glo "_law_pen", .glo "_law_draw", .glo "_law_lowest", .glo "_law_plus", .glo "_law_minus", .glo "_law_times", .glo "_law_number", .glo "_law_at", .glo "_law_curve", .glo "_law_whole", .glo "_law_is_number", .glo "_law_is_curve", .glo "_law_is_so", .glo "_law_right", .glo "law"]
def tb : List (Str × D) := gls.map fun p => (p.2, gl p.1)
abbrev R : PySem.W.OpenRow := PySem.W.OpenLaw.row PySem.Challenge.rw_onecurve_k05_curves_reckoned
def lm : List (Str × Addr) := [("_law_right", 177)]
abbrev hk : PySem.W.Hook := hookL 4 fa fn tb exs lm
def ob (s : PySem.W.SharedT) : AlL := obsL 4 fa fn tb exs lm (HandSHeadRun.getT s)
theorem ob_eq (s : PySem.W.SharedT) : ob s = hk.obs s.abs := obsL_eq (HandSHeadRun.getT_eq s)
theorem run (w : World) : HandSHeadRun.RunEq R (PySem.W.view R.prog [29]) hk ob 4000 [("shared_part" : PySem.Str), ("lowest" : PySem.Str), ("plus" : PySem.Str), ("minus" : PySem.Str), ("times" : PySem.Str), ("curve_of" : PySem.Str), ("number_at" : PySem.Str), ("added" : PySem.Str), ("lessened" : PySem.Str), ("scaled" : PySem.Str), ("multiplied" : PySem.Str), ("_law_pen" : PySem.Str), ("_law_draw" : PySem.Str), ("_law_lowest" : PySem.Str), ("_law_plus" : PySem.Str), ("_law_minus" : PySem.Str), ("_law_times" : PySem.Str), ("_law_number" : PySem.Str), ("_law_at" : PySem.Str), ("_law_curve" : PySem.Str), ("_law_whole" : PySem.Str), ("_law_is_number" : PySem.Str), ("_law_is_curve" : PySem.Str), ("_law_is_so" : PySem.Str), ("_law_right" : PySem.Str), ("NOUGHT" : PySem.Str)] w := by
  intro os
  kernel_rfl
theorem facts {P : Program} {w : World} {K : PySem.W.Frag} {h : Heap} {mg : Str → Option Value} {f : Addr} (ht : P.given.tree = none) (X : K.In h) (G : h.Ns mainGlobals mg) (S : h.NoSeer) (hfa : mg ("law" : Str) = some (.ref f)) (c : SaysP fa fn tb exs K) (T : TabK K lm h) :
    ∃ fd : FuncData, (∀ (s : Shared) (v : Value), BindsTo s fd ⟨[v], []⟩ [("_law_script", v)]) ∧ ∀ base : Heap, K.In base → base.Ns mainGlobals mg → (∀ p ∈ TabL, LamX.TabB base mg p.1 p.2.1) → FnOk P w K mg base (L2N.CX P w) 68 f fd ["_law_script"] (frzSp (liftSp K (fun n => He.ga K (Str.ofString n.nm)) spLaw)) := by
  obtain ⟨fd0, H0⟩ := c.d.def_ 0 (d := D0) rfl
  obtain ⟨fd1, H1⟩ := c.d.def_ 1 (d := D1) rfl
  obtain ⟨fd2, H2⟩ := c.d.def_ 2 (d := D2) rfl
  obtain ⟨fd3, H3⟩ := c.d.def_ 3 (d := D3) rfl
  obtain ⟨fd4, H4⟩ := c.d.def_ 4 (d := D4) rfl
  obtain ⟨fd5, H5⟩ := c.d.def_ 5 (d := D5) rfl
  obtain ⟨fd6, H6⟩ := c.d.def_ 6 (d := D6) rfl
  obtain ⟨fd7, H7⟩ := c.d.def_ 7 (d := D7) rfl
  obtain ⟨fd8, H8⟩ := c.d.def_ 8 (d := D8) rfl
  obtain ⟨fd9, H9⟩ := c.d.def_ 9 (d := D9) rfl
  obtain ⟨fd10, H10⟩ := c.d.def_ 10 (d := D10) rfl
  obtain ⟨fd11, H11⟩ := c.d.def_ 11 (d := D11) rfl
  obtain ⟨fd12, H12⟩ := c.d.def_ 12 (d := D12) rfl
  obtain ⟨fd13, H13⟩ := c.d.def_ 13 (d := D13) rfl
  obtain ⟨fd14, H14⟩ := c.d.def_ 14 (d := D14) rfl
  obtain ⟨fd15, H15⟩ := c.d.def_ 15 (d := D15) rfl
  obtain ⟨fd16, H16⟩ := c.d.def_ 16 (d := D16) rfl
  obtain ⟨fd17, H17⟩ := c.d.def_ 17 (d := D17) rfl
  obtain ⟨fd18, H18⟩ := c.d.def_ 18 (d := D18) rfl
  obtain ⟨fd19, H19⟩ := c.d.def_ 19 (d := D19) rfl
  obtain ⟨fd20, H20⟩ := c.d.def_ 20 (d := D20) rfl
  obtain ⟨fd21, H21⟩ := c.d.def_ 21 (d := D21) rfl
  obtain ⟨fd22, H22⟩ := c.d.def_ 22 (d := D22) rfl
  obtain ⟨fd23, H23⟩ := c.d.def_ 23 (d := D23) rfl
  obtain ⟨fd24, H24⟩ := c.d.def_ 24 (d := D24) rfl
  obtain ⟨fd25, H25⟩ := c.d.def_ 25 (d := D25) rfl
  have e := hfa.symm.trans (He.glo_ok X G (c.d.fact 43 (f := .glo "law") rfl))
  cases e
  have b := FunD.bindsA (ps := ["_law_script"]) H25 fun _ _ _ _ _ _ us hl => (match us, hl with | [_], _ => rfl)
  refine ⟨fd25, fun s v => b s [v] rfl, fun base _ _ TB => ?_⟩
  have M0 : ModF P w K mg base (fun n => He.ga K (Str.ofString n.nm)) Γ gl F0 gls exs 40 := by
    refine mod0 (fa := fa) (fn := fn) (tb := tb) X G S c ht rfl (List.prefix_append _ _) fun n hn => ?_
    exact absurd hn (by simp [exs])
  have M1 : ModF P w K mg base (fun n => He.ga K (Str.ofString n.nm)) Γ gl F1 gls exs 41 := chain 0 (x := "shared_part") (f := He.ga K "shared_part") M0 rfl (show FnP K "shared_part" (top 2) (He.ga K "shared_part") fd0 from H0) (He.glo_ok X G (c.d.fact 18 (f := .glo "shared_part") rfl)) ok0
  have M2 : ModF P w K mg base (fun n => He.ga K (Str.ofString n.nm)) Γ gl F2 gls exs 42 := chain 1 (x := "lowest") (f := He.ga K "lowest") M1 rfl (show FnP K "lowest" (top 3) (He.ga K "lowest") fd1 from H1) (He.glo_ok X G (c.d.fact 19 (f := .glo "lowest") rfl)) ok1
  have M3 : ModF P w K mg base (fun n => He.ga K (Str.ofString n.nm)) Γ gl F3 gls exs 43 := chain 11 (x := "plus") (f := He.ga K "plus") M2 rfl (show FnP K "plus" (top 4) (He.ga K "plus") fd2 from H2) (He.glo_ok X G (c.d.fact 20 (f := .glo "plus") rfl)) ok2
  have M4 : ModF P w K mg base (fun n => He.ga K (Str.ofString n.nm)) Γ gl F4 gls exs 44 := chain 12 (x := "minus") (f := He.ga K "minus") M3 rfl (show FnP K "minus" (top 5) (He.ga K "minus") fd3 from H3) (He.glo_ok X G (c.d.fact 21 (f := .glo "minus") rfl)) ok3
  have M5 : ModF P w K mg base (fun n => He.ga K (Str.ofString n.nm)) Γ gl F5 gls exs 45 := chain 13 (x := "times") (f := He.ga K "times") M4 rfl (show FnP K "times" (top 6) (He.ga K "times") fd4 from H4) (He.glo_ok X G (c.d.fact 22 (f := .glo "times") rfl)) ok4
  have M6 : ModF P w K mg base (fun n => He.ga K (Str.ofString n.nm)) Γ gl F6 gls exs 46 := chain 23 (x := "curve_of") (f := He.ga K "curve_of") M5 rfl (show FnP K "curve_of" (top 8) (He.ga K "curve_of") fd5 from H5) (He.glo_ok X G (c.d.fact 23 (f := .glo "curve_of") rfl)) ok5
  have M7 : ModF P w K mg base (fun n => He.ga K (Str.ofString n.nm)) Γ gl F7 gls exs 47 := chain 30 (x := "number_at") (f := He.ga K "number_at") M6 rfl (show FnP K "number_at" (top 9) (He.ga K "number_at") fd6 from H6) (He.glo_ok X G (c.d.fact 24 (f := .glo "number_at") rfl)) ok6
  have M8 : ModF P w K mg base (fun n => He.ga K (Str.ofString n.nm)) Γ gl F8 gls exs 48 := chain 31 (x := "added") (f := He.ga K "added") M7 rfl (show FnP K "added" (top 10) (He.ga K "added") fd7 from H7) (He.glo_ok X G (c.d.fact 25 (f := .glo "added") rfl)) ok7
  have M9 : ModF P w K mg base (fun n => He.ga K (Str.ofString n.nm)) Γ gl F9 gls exs 49 := chain 32 (x := "lessened") (f := He.ga K "lessened") M8 rfl (show FnP K "lessened" (top 11) (He.ga K "lessened") fd8 from H8) (He.glo_ok X G (c.d.fact 26 (f := .glo "lessened") rfl)) ok8
  have M10 : ModF P w K mg base (fun n => He.ga K (Str.ofString n.nm)) Γ gl F10 gls exs 50 := chain 33 (x := "scaled") (f := He.ga K "scaled") M9 rfl (show FnP K "scaled" (top 12) (He.ga K "scaled") fd9 from H9) (He.glo_ok X G (c.d.fact 27 (f := .glo "scaled") rfl)) ok9
  have M11 : ModF P w K mg base (fun n => He.ga K (Str.ofString n.nm)) Γ gl F11 gls exs 51 := chain 34 (x := "multiplied") (f := He.ga K "multiplied") M10 rfl (show FnP K "multiplied" (top 13) (He.ga K "multiplied") fd10 from H10) (He.glo_ok X G (c.d.fact 28 (f := .glo "multiplied") rfl)) ok10
  have M12 : ModF P w K mg base (fun n => He.ga K (Str.ofString n.nm)) Γ gl F12 gls exs 52 := chain 3 (x := "_law_pen") (f := He.ga K "_law_pen") M11 rfl (show FnP K "_law_pen" (top 15) (He.ga K "_law_pen") fd11 from H11) (He.glo_ok X G (c.d.fact 29 (f := .glo "_law_pen") rfl)) ok11
  have M13 : ModF P w K mg base (fun n => He.ga K (Str.ofString n.nm)) Γ gl F13 gls exs 53 := chain 4 (x := "_law_draw") (f := He.ga K "_law_draw") M12 rfl (show FnP K "_law_draw" (top 16) (He.ga K "_law_draw") fd12 from H12) (He.glo_ok X G (c.d.fact 30 (f := .glo "_law_draw") rfl)) ok12
  have M14 : ModF P w K mg base (fun n => He.ga K (Str.ofString n.nm)) Γ gl F14 gls exs 54 := chain 5 (x := "_law_lowest") (f := He.ga K "_law_lowest") M13 rfl (show FnP K "_law_lowest" (top 17) (He.ga K "_law_lowest") fd13 from H13) (He.glo_ok X G (c.d.fact 31 (f := .glo "_law_lowest") rfl)) ok13
  have M15 : ModF P w K mg base (fun n => He.ga K (Str.ofString n.nm)) Γ gl F15 gls exs 55 := chain 25 (x := "_law_plus") (f := He.ga K "_law_plus") M14 rfl (show FnP K "_law_plus" (top 18) (He.ga K "_law_plus") fd14 from H14) (He.glo_ok X G (c.d.fact 32 (f := .glo "_law_plus") rfl)) ok14
  have M16 : ModF P w K mg base (fun n => He.ga K (Str.ofString n.nm)) Γ gl F16 gls exs 56 := chain 35 (x := "_law_minus") (f := He.ga K "_law_minus") M15 rfl (show FnP K "_law_minus" (top 19) (He.ga K "_law_minus") fd15 from H15) (He.glo_ok X G (c.d.fact 33 (f := .glo "_law_minus") rfl)) ok15
  have M17 : ModF P w K mg base (fun n => He.ga K (Str.ofString n.nm)) Γ gl F17 gls exs 57 := chain 26 (x := "_law_times") (f := He.ga K "_law_times") M16 rfl (show FnP K "_law_times" (top 20) (He.ga K "_law_times") fd16 from H16) (He.glo_ok X G (c.d.fact 34 (f := .glo "_law_times") rfl)) ok16
  have M18 : ModF P w K mg base (fun n => He.ga K (Str.ofString n.nm)) Γ gl F18 gls exs 58 := chain 36 (x := "_law_number") (f := He.ga K "_law_number") M17 rfl (show FnP K "_law_number" (top 21) (He.ga K "_law_number") fd17 from H17) (He.glo_ok X G (c.d.fact 35 (f := .glo "_law_number") rfl)) ok17
  have M19 : ModF P w K mg base (fun n => He.ga K (Str.ofString n.nm)) Γ gl F19 gls exs 59 := chain 27 (x := "_law_at") (f := He.ga K "_law_at") M18 rfl (show FnP K "_law_at" (top 22) (He.ga K "_law_at") fd18 from H18) (He.glo_ok X G (c.d.fact 36 (f := .glo "_law_at") rfl)) ok18
  have M20 : ModF P w K mg base (fun n => He.ga K (Str.ofString n.nm)) Γ gl F20 gls exs 60 := chain 37 (x := "_law_curve") (f := He.ga K "_law_curve") M19 rfl (show FnP K "_law_curve" (top 23) (He.ga K "_law_curve") fd19 from H19) (He.glo_ok X G (c.d.fact 37 (f := .glo "_law_curve") rfl)) ok19
  have M21 : ModF P w K mg base (fun n => He.ga K (Str.ofString n.nm)) Γ gl F21 gls exs 61 := chain 6 (x := "_law_whole") (f := He.ga K "_law_whole") M20 rfl (show FnP K "_law_whole" (top 24) (He.ga K "_law_whole") fd20 from H20) (He.glo_ok X G (c.d.fact 38 (f := .glo "_law_whole") rfl)) ok20
  have M22 : ModF P w K mg base (fun n => He.ga K (Str.ofString n.nm)) Γ gl F22 gls exs 62 := chain 7 (x := "_law_is_number") (f := He.ga K "_law_is_number") M21 rfl (show FnP K "_law_is_number" (top 25) (He.ga K "_law_is_number") fd21 from H21) (He.glo_ok X G (c.d.fact 39 (f := .glo "_law_is_number") rfl)) ok21
  have M23 : ModF P w K mg base (fun n => He.ga K (Str.ofString n.nm)) Γ gl F23 gls exs 63 := chain 28 (x := "_law_is_curve") (f := He.ga K "_law_is_curve") M22 rfl (show FnP K "_law_is_curve" (top 26) (He.ga K "_law_is_curve") fd22 from H22) (He.glo_ok X G (c.d.fact 40 (f := .glo "_law_is_curve") rfl)) ok22
  have AF : AskG P w K mg base (fun n => He.ga K (Str.ofString n.nm)) 63 (isSoS Γ) "_law_is_so" := chainA3 999 (x := "_law_is_so") (f := He.ga K "_law_is_so") M23 rfl rfl (show FnP K "_law_is_so" (top 27) (He.ga K "_law_is_so") fd23 from H23) (He.glo_ok X G (c.d.fact 41 (f := .glo "_law_is_so") rfl)) ok23
  have M24 : ModF P w K mg base (fun n => He.ga K (Str.ofString n.nm)) Γ gl F24 gls exs 64 := M23.up
  have M25 : ModF P w K mg base (fun n => He.ga K (Str.ofString n.nm)) Γ gl F25 gls exs 67 := chainQ (j := 63) (cc := 177) (Pt := 173) 482 (x := "_law_right") (f := He.ga K "_law_right") M24 rfl AF rfl (show FnP K "_law_right" (top 28) (He.ga K "_law_right") fd24 from H24) (He.glo_ok X G (c.d.fact 42 (f := .glo "_law_right") rfl)) (code_of T (show FnP K "_law_right" (top 28) (He.ga K "_law_right") fd24 from H24) (by decide +kernel)) (by decide +kernel) (by decide +kernel) (TB (177, 173, "_law_right.<locals>.<lambda>") (by decide +kernel)) ok24
  exact frz_fn (ok_def M25 (by decide) (show FnP K "law" (top 29) (He.ga K "law") fd25 from H25) sc25 chk25 len25 fun ds g Q E h => by rw [startD_len (N := N25) (M := ns_law_k05_v2) rfl]; exact pure_law_k05_v2 rfl rfl rfl rfl rfl rfl h)
end PK05
open PySem PySem.W PySem.Calls PyProof.Rows
theorem PySem.Challenge.cw_onecurve_k05_curves_reckoned_holds : PySem.Challenge.rw_onecurve_k05_curves_reckoned.Holds := by
  w_on; o_law
  refine HandSHeadRun.head_any (r := OpenLaw.row PySem.Challenge.rw_onecurve_k05_curves_reckoned) (q := view (OpenLaw.row PySem.Challenge.rw_onecurve_k05_curves_reckoned).prog [29]) (H := PK05.hk) (ob := PK05.ob) (M := 4000) (loose := [("shared_part" : PySem.Str), ("lowest" : PySem.Str), ("plus" : PySem.Str), ("minus" : PySem.Str), ("times" : PySem.Str), ("curve_of" : PySem.Str), ("number_at" : PySem.Str), ("added" : PySem.Str), ("lessened" : PySem.Str), ("scaled" : PySem.Str), ("multiplied" : PySem.Str), ("_law_pen" : PySem.Str), ("_law_draw" : PySem.Str), ("_law_lowest" : PySem.Str), ("_law_plus" : PySem.Str), ("_law_minus" : PySem.Str), ("_law_times" : PySem.Str), ("_law_number" : PySem.Str), ("_law_at" : PySem.Str), ("_law_curve" : PySem.Str), ("_law_whole" : PySem.Str), ("_law_is_number" : PySem.Str), ("_law_is_curve" : PySem.Str), ("_law_is_so" : PySem.Str), ("_law_right" : PySem.Str), ("NOUGHT" : PySem.Str)]) (d := HandSHeadRun.topDef (OpenLaw.row PySem.Challenge.rw_onecurve_k05_curves_reckoned).prog 29) (kwd := []) PK05.ob_eq
    (by kernel_rfl) (fun s => by kernel_rfl) PK05.run (by kernel_rfl) (by kernel_rfl) (by kernel_rfl) (by rfl) (by first | assumption | decide +kernel) (by decide +kernel) ⟨rfl, rfl, rfl, rfl, rfl, by decide +kernel⟩ ?hw ?hc
  case hw => w_witness2
  case hc =>
    refine PP.walk_L (l := PySem.Challenge.rw_onecurve_k05_curves_reckoned) (n := 63) (k := 68) (x := "_law_script") rfl (by decide +kernel) (by kernel_rfl) ⟨rfl, by decide, by decide⟩ (by kernel_rfl) ?F
    intro w mg fa h Y G hmg0 S
    obtain ⟨K, KX, c, T⟩ := Y
    have hmg : mg ("law" : PySem.Str) = some (.ref fa) := by
      have e : (HandSHeadRun.topDef (OpenLaw.row PySem.Challenge.rw_onecurve_k05_curves_reckoned).prog 29).name = ("law" : PySem.Str) := by kernel_rfl
      rw [← e]
      exact hmg0
    obtain ⟨fd, hb, hF⟩ := PK05.facts (P := (PySem.Challenge.rw_onecurve_k05_curves_reckoned).prog) (w := w) rfl KX G S hmg c T
    exact ⟨K, fd, _, PK05.lm, KX, T, hb, fun H a ns hl hbits hT hS => PP.law_endL hl hbits hT hS, hF⟩

