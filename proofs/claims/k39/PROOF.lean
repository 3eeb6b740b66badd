import PyProof.Rows.All
import HandS.Lambda
import Wide.All
import OpenK.AllK
import Wide.FinOn
import HandS.ForMost
import HandS.Exc
import HandS.ExcOwn
import HandS.TryOnly
import HandS.WordsExc
import HandS.Wide
import HandS.Deep
import HandS.TupAny
import HandS.Rev
import HandS.Zip
import HandS.IsInst
import HandS.Defaults
import HandS.ExcIs
import HandS.ExcCtx
import HandS.HotCalls
import HandS.Dict
import HandS.Iter
import HandS.Conv
import HandS.TupMul
import HandS.More
import KE.GoesMore
import HandS.Ends
import HandS.HeadHook2
import HandS.HeadEnd
import HandS.EndTab
import KE.GoesEnum
import KE.GoesZip
import KE.KDictZip
import HandS.Comp
import PyProof.Rows.TupIter
import HandS.TupSets
import HandS.Style
import KE.KStateDown
import HandS.Head0
import HandS.Head1
import HandS.Head2
import HandS.HeadHook1
import HandS.EndBits
import KE.KNestM
import HandS.Codes
import PySem.Challenge.RW_onecurve_k39_lone_parts
set_option Elab.async false
set_option linter.all false
set_option maxRecDepth 100000
namespace PP
open PySem PySem.Spec PyProof.Rows L2
def TabL : List (Addr × Addr × Str) := []
end PP
namespace PP
open PySem PySem.Spec PyProof.Rows L2
inductive Ex where
  | curve | number | ncurve | npoints | many | npoint | stretch | deep | few | text | row
  deriving DecidableEq
def Ex.nm : Ex → String
  | .curve => "CurveError"
  | .number => "NoNumber"
  | .ncurve => "NoCurve"
  | .npoints => "NoPoints"
  | .many => "TooMany"
  | .npoint => "NoPoint"
  | .stretch => "NoStretch"
  | .deep => "TooDeep"
  | .few => "TooFew"
  | .text => "NoText"
  | .row => "NoRow"
def Ex.all : List Ex := [.curve, .number, .ncurve, .npoints, .many, .npoint, .stretch, .deep, .few, .text, .row]
theorem Ex.mem_all (n : Ex) : n ∈ Ex.all := by cases n <;> decide
def Ex.sub (n m : Ex) : Bool := decide (n = m) || decide (m = .curve)
inductive D where
  | non | bl (b : Bool) | int (i : Int) | str (s : Str) | tup (xs : List D) | ref (a : Addr) | scr (ns : List Int) | exc (n : Ex) | emp | dct (c : Addr) | dfz (ks : List D) | obj (c : Addr)
abbrev G := Addr → Option (List D)
def G.up (g : G) (a : Addr) (xs : List D) : G := fun b => if b = a then some xs else g b
def G.del (g : G) (a : Addr) : G := fun b => if b = a then none else g b
abbrev Env := List (Option D)
abbrev QD := D → G → Prop
abbrev XD := Ex → G → Prop
def Per : HO → Prop
  | .tup _ => True
  | .frz _ _ => True
  | _ => False
def TbOk (H : Hp) : Prop := ∀ p ∈ TabL, LamX.TabS H p.2.1 p.2.2
def TK (H H' : Hp) : Prop := (∀ a u, Per u → H a = some u → H' a = some u) ∧ (TbOk H → TbOk H')
theorem TK.refl (H : Hp) : TK H H := ⟨fun _ _ _ h => h, fun h => h⟩
theorem TK.trans {H H1 H2 : Hp} (a : TK H H1) (b : TK H1 H2) : TK H H2 := ⟨fun c u p h => b.1 c u p (a.1 c u p h), fun h => b.2 (a.2 h)⟩
theorem tabS_but {H H' : Hp} {p : Addr} (n1 : ∀ ps, H p ≠ some (.tbl ps)) (n2 : ∀ q, H p ≠ some (LamX.CodeO p q)) (e : ∀ b o, b ≠ p → H b = some o → H' b = some o) {P : Addr} {q : Str} (t : LamX.TabS H P q) : LamX.TabS H' P q := by
  obtain ⟨ps, h1, h2, h3⟩ := t
  refine ⟨ps, e _ _ (fun z => n1 ps (z ▸ h1)) h1, h2, fun pos cv hc => ?_⟩
  obtain ⟨c, e1, e2⟩ := h3 pos cv hc
  exact ⟨c, e1, e _ _ (fun z => n2 q (z ▸ e2)) e2⟩
theorem TK.new {H : Hp} {p : Addr} {o : HO} (h : H p = none) : TK H (upd H p o) := ⟨fun c u _ e => by
  rw [upd_ne (ne_of_none e h)]; exact e, fun t z hz => tabS_but (p := p) (fun ps z => by rw [h] at z; cases z) (fun q z => by rw [h] at z; cases z) (fun b o n e => by rw [upd_ne n]; exact e) (t z hz)⟩
theorem TK.set {H : Hp} {p : Addr} {xs : List V} {o : HO} (h : H p = some (.lst xs)) : TK H (upd H p o) := ⟨fun c u q e => by
  rw [upd_ne]; exact e
  intro z; subst z; rw [h] at e; cases e; exact q, fun t z hz => tabS_but (p := p) (fun ps z => by rw [h] at z; cases z) (fun q z => by rw [h] at z; unfold LamX.CodeO at z; cases z) (fun b o n e => by rw [upd_ne n]; exact e) (t z hz)⟩
theorem TbOk.keep {H H' : Hp} (k : TK H H') (h : TbOk H) : TbOk H' := k.2 h
def TupP (K : PySem.W.Frag) (H : Hp) (a : Addr) (xs : List V) : Prop := H a = some (.tup xs) ∨
  ∃ (o : Obj) (its : Array Value) (n : Nat), K.lookup a = some o ∧ o.cls = .type "tuple" ∧ o.data = .seq its n ∧ its.size ≤ sizeLine ∧ Vals xs its.toList
theorem TupP.sq {K H a xs} (h : TupP K H a xs) : SqT K H a xs := by
  rcases h with h | h
  · exact .inl (.inl h)
  · exact .inr h
theorem TupP.keep {K H H' a xs} (k : TK H H') (h : TupP K H a xs) : TupP K H' a xs := by
  rcases h with h | h
  · exact .inl (k.1 _ _ trivial h)
  · exact .inr h
def ScrP (K : PySem.W.Frag) (H : Hp) (a : Addr) (xs : List V) : Prop := (∃ o, H a = some (.frz o (.lst xs))) ∨
  ∃ (o : Obj) (its : Array Value) (n : Nat), K.lookup a = some o ∧ o.cls = .type "list" ∧ o.dict = none ∧ o.data = .seq its n ∧ its.size ≤ sizeLine ∧ Vals xs its.toList
theorem ScrP.sq {K H a xs} (h : ScrP K H a xs) : SqL K H a xs := by
  rcases h with ⟨o, h⟩ | h
  · exact .inl (.inr ⟨o, h⟩)
  · exact .inr h
theorem ScrP.keep {K H H' a xs} (k : TK H H') (h : ScrP K H a xs) : ScrP K H' a xs := by
  rcases h with ⟨o, h⟩ | h
  · exact .inl ⟨o, k.1 _ _ trivial h⟩
  · exact .inr h
def ExNs (K : PySem.W.Frag) (n : Ex) (c : Addr) : Prop := PySem.W.nsIn K mainGlobals (Str.ofString n.nm) = some (some (.ref c))
structure ExK (K : PySem.W.Frag) (n : Ex) (c : Addr) : Prop where
  exc : ExcC K c
  kit : ∀ m c', ExNs K m c' → PySem.W.kitOne K (.ref c) (.ref c') = some (n.sub m)
  exm : ∀ m c', ExNs K m c' → PySem.W.exmOne K (.ref c) (.ref c') = some (n.sub m)
  val : PySem.W.kitOne K (.ref c) (.type "ValueError") = some true
abbrev excU : HO := .ext fun _ => True
def ExcP (K : PySem.W.Frag) (H : Hp) (n : Ex) (a : Addr) : Prop := ∃ (o : Obj) (u : HO) (c : Addr), H a = some (.frz o u) ∧ o.cls = .ref c ∧ o.dict = none ∧ (∃ vs, o.data = .fields vs ∧ vs[2]? = some .none) ∧ ExNs K n c ∧ ExK K n c
theorem ExcP.keep {K H H' n a} (k : TK H H') (h : ExcP K H n a) : ExcP K H' n a := by
  obtain ⟨o, u, c, e, r⟩ := h
  exact ⟨o, u, c, k.1 _ _ trivial e, r⟩
def keyD (k : List L2.Key) : D := .tup (k.map fun x => match x with
  | .inl i => .int i
  | .inr s => .str s)
abbrev DX := List (List L2.Key × Addr × Value)
def DictRaw (a : Addr) (xs : DX) (h : Heap) : Prop := (a == sysModules) = false ∧ ∃ o es ep, h.get? a = some o ∧ o.ExactDict ∧ o.data = .dict es ep ∧ (∀ (P : Program) (w : World), es.toList = xs.map (entryOfKey (tupleKind (mixKind P w)))) ∧ (xs.map (·.1)).Nodup
abbrev dictO (a : Addr) (xs : DX) : HO := .ext (DictRaw a xs)
def KeysOk (K : PySem.W.Frag) (H : Hp) (xs : DX) : Prop := ∀ x ∈ xs, TupP K H x.2.1 (x.1.map kV) ∧ ∀ k ∈ x.1, ∃ i : Int, k = .inl i
theorem KeysOk.keep {K : PySem.W.Frag} {H H' : Hp} {xs : DX} (k : TK H H') (h : KeysOk K H xs) : KeysOk K H' xs := fun x hx => ⟨(h x hx).1.keep k, (h x hx).2⟩
mutual
def Rep (K : PySem.W.Frag) (H : Hp) : D → V → Prop
  | .non, v => v = .non
  | .bl b, v => v = .bl b
  | .int i, v => v = .int i
  | .str s, v => v = .str s
  | .ref c, v => c % 2 = 0 ∧ v = .ref (c / 2)
  | .dct c, v => c % 4 = 1 ∧ v = .ref (c / 4)
  | .obj c, v => c % 4 = 3 ∧ v = .ref (c / 4)
  | .dfz ks, v => ∃ (a : Addr) (o : Obj) (xs : DX), v = .ref a ∧ H a = some (.frz o (dictO a xs)) ∧ KeysOk K H xs ∧ ks = xs.map fun x => keyD x.1
  | .scr ns, v => ∃ a, v = .ref a ∧ ScrP K H a (ns.map V.int)
  | .exc n, v => ∃ a, v = .ref a ∧ ExcP K H n a
  | .emp, v => ∃ a o kvs, v = .ref a ∧ H a = some (.frz o (.dK kvs))
  | .tup ds, v => ∃ a vs, v = .ref a ∧ TupP K H a vs ∧ RepL K H ds vs
def RepL (K : PySem.W.Frag) (H : Hp) : List D → List V → Prop
  | [], vs => vs = []
  | d :: ds, vs => ∃ v r, vs = v :: r ∧ Rep K H d v ∧ RepL K H ds r
end
section
variable {K : PySem.W.Frag} {H H' : Hp}
mutual
theorem Rep.keep (k : TK H H') : ∀ {d : D} {v : V}, Rep K H d v → Rep K H' d v
  | .non, v, h => h
  | .bl b, v, h => h
  | .int i, v, h => h
  | .str s, v, h => h
  | .ref a, v, h => h
  | .dct a, v, h => h
  | .obj a, v, h => h
  | .dfz ks, v, ⟨a, o, xs, e, h, q, e2⟩ => ⟨a, o, xs, e, k.1 _ _ trivial h, q.keep k, e2⟩
  | .scr ns, v, ⟨a, e, h⟩ => ⟨a, e, h.keep k⟩
  | .exc n, v, ⟨a, e, h⟩ => ⟨a, e, h.keep k⟩
  | .emp, v, ⟨a, o, kvs, e, h⟩ => ⟨a, o, kvs, e, k.1 _ _ trivial h⟩
  | .tup ds, v, ⟨a, vs, e, t, h⟩ => ⟨a, vs, e, t.keep k, RepL.keep k h⟩
theorem RepL.keep (k : TK H H') : ∀ {ds : List D} {vs : List V}, RepL K H ds vs → RepL K H' ds vs
  | [], vs, h => h
  | d :: ds, vs, ⟨v, r, e, h, t⟩ => ⟨v, r, e, Rep.keep k h, RepL.keep k t⟩
end
theorem RepL.length : ∀ {ds : List D} {vs : List V}, RepL K H ds vs → vs.length = ds.length
  | [], vs, h => by subst h; rfl
  | d :: ds, vs, ⟨v, r, e, _, t⟩ => by subst e; simp [RepL.length t]
theorem RepL.get : ∀ {ds : List D} {vs : List V} {i : Nat} {d : D}, RepL K H ds vs → ds[i]? = some d → ∃ v, vs[i]? = some v ∧ Rep K H d v
  | [], vs, i, d, h, e => by simp at e
  | x :: ds, vs, 0, d, ⟨v, r, e, h, t⟩, q => by
    simp at q; subst q; subst e; exact ⟨v, by simp, h⟩
  | x :: ds, vs, i+1, d, ⟨v, r, e, h, t⟩, q => by
    subst e
    obtain ⟨w, e1, h1⟩ := RepL.get (i := i) (d := d) t (by simpa using q)
    exact ⟨w, by simpa using e1, h1⟩
theorem RepL.getv : ∀ {ds : List D} {vs : List V} {i : Nat} {v : V}, RepL K H ds vs → vs[i]? = some v → ∃ d, ds[i]? = some d ∧ Rep K H d v
  | [], vs, i, d, h, e => by subst h; simp at e
  | x :: ds, vs, 0, w, ⟨v, r, e, h, t⟩, q => by
    subst e; simp at q; subst q; exact ⟨x, by simp, h⟩
  | x :: ds, vs, i+1, w, ⟨v, r, e, h, t⟩, q => by
    subst e
    obtain ⟨w, e1, h1⟩ := RepL.getv (i := i) (v := w) t (by simpa using q)
    exact ⟨w, by simpa using e1, h1⟩
theorem RepL.app : ∀ {ds es : List D} {vs ws : List V}, RepL K H ds vs → RepL K H es ws → RepL K H (ds ++ es) (vs ++ ws)
  | [], es, vs, ws, h, q => by subst h; exact q
  | d :: ds, es, vs, ws, ⟨v, r, e, h, t⟩, q => by subst e; exact ⟨v, r ++ ws, rfl, h, t.app q⟩
theorem RepL.take : ∀ {ds : List D} {vs : List V} (n : Nat), RepL K H ds vs → RepL K H (ds.take n) (vs.take n)
  | ds, vs, 0, _ => by simp [RepL]
  | [], vs, n+1, h => by subst h; simp [RepL]
  | d :: ds, vs, n+1, ⟨v, r, e, h, t⟩ => by subst e; exact ⟨v, r.take n, rfl, h, t.take n⟩
theorem RepL.drop : ∀ {ds : List D} {vs : List V} (n : Nat), RepL K H ds vs → RepL K H (ds.drop n) (vs.drop n)
  | ds, vs, 0, h => h
  | [], vs, n+1, h => by subst h; simp [RepL]
  | d :: ds, vs, n+1, ⟨v, r, e, h, t⟩ => by subst e; exact t.drop n
theorem RepL.set {d : D} {v : V} (q : Rep K H d v) : ∀ {ds : List D} {vs : List V} (i : Nat), RepL K H ds vs → RepL K H (ds.set i d) (vs.set i v)
  | [], vs, i, h => by subst h; simp [RepL]
  | x :: ds, vs, 0, ⟨w, r, e, h, t⟩ => by subst e; exact ⟨v, r, rfl, q, t⟩
  | x :: ds, vs, i+1, ⟨w, r, e, h, t⟩ => by subst e; exact ⟨w, r.set i v, rfl, h, t.set q i⟩
theorem RepL.one {d : D} {v : V} (q : Rep K H d v) : RepL K H [d] [v] := ⟨v, [], rfl, q, rfl⟩
theorem RepL.rev : ∀ {ds : List D} {vs : List V}, RepL K H ds vs → RepL K H ds.reverse vs.reverse
  | [], vs, h => by subst h; simp [RepL]
  | d :: ds, vs, ⟨v, r, e, h, t⟩ => by
    subst e; simp only [List.reverse_cons]; exact t.rev.app (.one h)
abbrev clsN : Str := "Desk"
abbrev atrN : Str := "points"
def DeskC (K : PySem.W.Frag) (C : Addr) : Prop := PySem.W.nsIn K mainGlobals clsN = some (some (.ref C))
def FldOk (K : PySem.W.Frag) (H : Hp) (ds : List D) (fs : List (Str × V)) : Prop := (ds = [] ∧ fs = []) ∨ ∃ d v, ds = [d] ∧ fs = [(atrN, v)] ∧ Rep K H d v
theorem FldOk.keep {K : PySem.W.Frag} {H H' : Hp} {ds : List D} {fs : List (Str × V)} (k : TK H H') (h : FldOk K H ds fs) : FldOk K H' ds fs := by
  rcases h with h | ⟨d, v, h1, h2, h3⟩
  · exact .inl h
  · exact .inr ⟨d, v, h1, h2, h3.keep k⟩
def Holds (K : PySem.W.Frag) (H : Hp) (c : Addr) (ds : List D) : Prop := (c % 2 = 0 ∧ ∃ vs, H (c / 2) = some (.lst vs) ∧ RepL K H ds vs) ∨ (c % 4 = 1 ∧ ∃ xs, H (c / 4) = some (dictO (c / 4) xs) ∧ KeysOk K H xs ∧ ds = xs.map fun x => keyD x.1) ∨
  (c % 4 = 3 ∧ ∃ C dx fs, H (c / 4) = some (.ins C dx fs) ∧ DeskC K C ∧ FldOk K H ds fs)
theorem mod_odd {c : Addr} (h : c % 4 = 1 ∨ c % 4 = 3) : c % 2 ≠ 0 := by
  have : ∀ c : Nat, (c % 4 = 1 ∨ c % 4 = 3) → c % 2 ≠ 0 := fun c _ => by omega
  exact this c h
def RepG (K : PySem.W.Frag) (H : Hp) (g : G) : Prop := ∀ c ds, g c = some ds → Holds K H c ds
theorem RepG.lst {g : G} (h : RepG K H g) {c : Addr} {ds : List D} (hc : c % 2 = 0) (e : g c = some ds) : ∃ vs, H (c / 2) = some (.lst vs) ∧ RepL K H ds vs := by
  rcases h c ds e with ⟨_, r⟩ | ⟨z, _⟩ | ⟨z, _⟩
  · exact r
  · exact absurd hc (mod_odd (.inl z))
  · exact absurd hc (mod_odd (.inr z))
theorem RepG.dct {g : G} (h : RepG K H g) {c : Addr} {ds : List D} (hc : c % 4 = 1) (e : g c = some ds) : ∃ xs, H (c / 4) = some (dictO (c / 4) xs) ∧ KeysOk K H xs ∧ ds = xs.map fun x => keyD x.1 := by
  rcases h c ds e with ⟨z, _⟩ | ⟨_, r⟩ | ⟨z, _⟩
  · exact absurd z (mod_odd (.inl hc))
  · exact r
  · rw [hc] at z; cases z
theorem RepG.obj {g : G} (h : RepG K H g) {c : Addr} {ds : List D} (hc : c % 4 = 3) (e : g c = some ds) : ∃ C dx fs, H (c / 4) = some (.ins C dx fs) ∧ DeskC K C ∧ FldOk K H ds fs := by
  rcases h c ds e with ⟨z, _⟩ | ⟨z, _⟩ | ⟨_, r⟩
  · exact absurd z (mod_odd (.inr hc))
  · rw [hc] at z; cases z
  · exact r
theorem half_inj {a c : Addr} (h1 : a % 2 = 0) (h2 : c % 2 = 0) (h : a / 2 = c / 2) : a = c := by
  have : ∀ a c : Nat, a % 2 = 0 → c % 2 = 0 → a / 2 = c / 2 → a = c := fun a c _ _ _ => by omega
  exact this a c h1 h2 h
theorem quart_inj {a c : Addr} {r : Nat} (h1 : a % 4 = r) (h2 : c % 4 = r) (h : a / 4 = c / 4) : a = c := by
  have : ∀ a c r : Nat, a % 4 = r → c % 4 = r → a / 4 = c / 4 → a = c := fun a c r _ _ _ => by omega
  exact this a c r h1 h2 h
theorem code2 (p : Addr) : (2 * p) % 2 = 0 ∧ (2 * p) / 2 = p := by
  have : ∀ p : Nat, (2 * p) % 2 = 0 ∧ (2 * p) / 2 = p := fun p => by omega
  exact this p
theorem code4 (p : Addr) : (4 * p + 1) % 4 = 1 ∧ (4 * p + 1) / 4 = p ∧ (4 * p + 3) % 4 = 3 ∧ (4 * p + 3) / 4 = p := by
  have : ∀ p : Nat, (4 * p + 1) % 4 = 1 ∧ (4 * p + 1) / 4 = p ∧ (4 * p + 3) % 4 = 3 ∧ (4 * p + 3) / 4 = p := fun p => by omega
  exact this p
theorem rep_ref {p : Addr} : Rep K H (.ref (2 * p)) (.ref p) := ⟨(code2 p).1, by rw [(code2 p).2]⟩
theorem rep_dct {p : Addr} : Rep K H (.dct (4 * p + 1)) (.ref p) := ⟨(code4 p).1, by rw [(code4 p).2.1]⟩
theorem RepG.noneL {g : G} (h : RepG K H g) {c : Addr} (hc : c % 2 = 0) (n : ∀ vs, H (c / 2) ≠ some (.lst vs)) : g c = Option.none := by
  cases e : g c with
  | none => rfl
  | some xs => obtain ⟨vs, q, _⟩ := h.lst hc e; exact absurd q (n vs)
theorem RepG.none {g : G} (h : RepG K H g) {p : Addr} (n : H p = Option.none) : g (2 * p) = Option.none := h.noneL (code2 p).1 (fun vs z => by rw [(code2 p).2, n] at z; cases z)
theorem RepG.noneD {g : G} (h : RepG K H g) {p : Addr} (n : H p = Option.none) : g (4 * p + 1) = Option.none := by
  cases e : g (4 * p + 1) with
  | none => rfl
  | some xs => obtain ⟨vs, q, _⟩ := h.dct (code4 p).1 e; rw [(code4 p).2.1, n] at q; cases q
theorem Holds.other {p c : Addr} {o : HO} {ds : List D} (k : TK H (upd H p o)) (h : Holds K H c ds) (h1 : c % 2 = 0 → c / 2 ≠ p) (h2 : c % 4 = 1 → c / 4 ≠ p) (h3 : c % 4 = 3 → c / 4 ≠ p) : Holds K (upd H p o) c ds := by
  rcases h with ⟨y, ws, q, r⟩ | ⟨y, ws, q, r⟩ | ⟨y, C, dx, fs, q, r1, r2⟩
  · exact .inl ⟨y, ws, by rw [upd_ne (h1 y)]; exact q, r.keep k⟩
  · exact .inr (.inl ⟨y, ws, by rw [upd_ne (h2 y)]; exact q, r.1.keep k, r.2⟩)
  · exact .inr (.inr ⟨y, C, dx, fs, by rw [upd_ne (h3 y)]; exact q, r1, r2.keep k⟩)
theorem RepG.tup {g : G} (h : RepG K H g) {p : Addr} {o : HO} (n : H p = Option.none) : RepG K (upd H p o) g := fun a ds e => by
  have hh := h a ds e
  rcases id hh with ⟨z, vs, q, r⟩ | ⟨z, vs, q, r⟩ | ⟨z, C, dx, fs, q, r⟩
  · exact hh.other (.new n) (fun _ => ne_of_none q n) (fun w => absurd z (mod_odd (.inl w))) (fun w => absurd z (mod_odd (.inr w)))
  · exact hh.other (.new n) (fun w => absurd w (mod_odd (.inl z))) (fun _ => ne_of_none q n) (fun w => by rw [z] at w; cases w)
  · exact hh.other (.new n) (fun w => absurd w (mod_odd (.inr z))) (fun w => by rw [z] at w; cases w) (fun _ => ne_of_none q n)
theorem RepG.new {g : G} (h : RepG K H g) {p : Addr} {ds : List D} {vs : List V} (n : H p = Option.none) (r : RepL K H ds vs) : RepG K (upd H p (.lst vs)) (g.up (2 * p) ds) := fun a es e => by
  unfold G.up at e
  split at e
  · rename_i z; subst z; cases e; exact .inl ⟨(code2 p).1, vs, by rw [(code2 p).2]; exact upd_same, r.keep (.new n)⟩
  · exact (h.tup n) a es e
theorem RepG.put {g : G} (h : RepG K H g) {c : Addr} {xs : List V} {ds : List D} {vs : List V} (hc : c % 2 = 0) (n : H (c / 2) = some (.lst xs)) (r : RepL K H ds vs) : RepG K (upd H (c / 2) (.lst vs)) (g.up c ds) := fun a es e => by
  unfold G.up at e
  split at e
  · rename_i z; subst z; cases e; exact .inl ⟨hc, vs, upd_same, r.keep (.set n)⟩
  · rename_i z
    refine (h a es e).other (.set n) (fun y w => z (half_inj y hc w)) (fun y w => ?_) fun y w => ?_
    · obtain ⟨xs, q, _⟩ := h.dct y e
      rw [w, n] at q; cases q
    · obtain ⟨_, _, _, q, _⟩ := h.obj y e
      rw [w, n] at q; cases q
theorem RepG.putE {g : G} (h : RepG K H g) {p : Addr} {xs : List V} {ds : List D} {vs : List V} (n : H p = some (.lst xs)) (r : RepL K H ds vs) : RepG K (upd H p (.lst vs)) (g.up (2 * p) ds) := by
  have := h.put (c := 2 * p) (code2 p).1 (by rw [(code2 p).2]; exact n) r
  rwa [(code2 p).2] at this
theorem RepG.lstE {g : G} (h : RepG K H g) {p : Addr} {ds : List D} (e : g (2 * p) = some ds) : ∃ vs, H p = some (.lst vs) ∧ RepL K H ds vs := by
  have := h.lst (code2 p).1 e
  rwa [(code2 p).2] at this
def RepE (K : PySem.W.Frag) (H : Hp) (env : Env) (σ : List (Option V)) : Prop := env.length = σ.length ∧ (∀ (i : Nat) (d : D), env[i]? = some (some d) → ∃ v : V, σ[i]? = some (some v) ∧ Rep K H d v) ∧ TbOk H
theorem RepE.keep {env : Env} {σ : List (Option V)} (k : TK H H') (h : RepE K H env σ) : RepE K H' env σ := ⟨h.1, fun i d e => by
  obtain ⟨v, a, b⟩ := h.2.1 i d e
  exact ⟨v, a, b.keep k⟩, h.2.2.keep k⟩
theorem RepE.set {env : Env} {σ : List (Option V)} {i : Nat} {d : D} {v : V} (h : RepE K H env σ) (r : Rep K H d v) : RepE K H (env.set i (some d)) (σ.set i (some v)) := by
  refine ⟨by simp [h.1], fun j e q => ?_, h.2.2⟩
  by_cases hij : i = j
  · subst hij
    by_cases hl : i < env.length
    · rw [List.getElem?_set_self hl] at q
      cases q
      exact ⟨v, by rw [List.getElem?_set_self (by rw [← h.1]; exact hl)], r⟩
    · rw [List.getElem?_eq_none (by simpa using hl)] at q; cases q
  · rw [List.getElem?_set_ne hij] at q
    obtain ⟨w, a, b⟩ := h.2.1 j e q
    exact ⟨w, by rw [List.getElem?_set_ne hij]; exact a, b⟩
theorem RepE.wipe {env : Env} {σ : List (Option V)} (h : RepE K H env σ) (vs : List Nat) : RepE K H (vs.foldr (fun v e => e.set v Option.none) env) (wipe σ vs) := by
  induction vs with
  | nil => exact h
  | cons v vs ih =>
    show RepE K H ((vs.foldr (fun v e => e.set v Option.none) env).set v Option.none) ((L2.wipe σ vs).set v Option.none)
    refine ⟨by simp [ih.1], fun j e q => ?_, ih.2.2⟩
    by_cases hij : v = j
    · subst hij
      by_cases hl : v < (vs.foldr (fun v e => e.set v Option.none) env).length
      · rw [List.getElem?_set_self hl] at q; cases q
      · rw [List.getElem?_eq_none (by simpa using hl)] at q; cases q
    · rw [List.getElem?_set_ne hij] at q
      obtain ⟨w, a, b⟩ := ih.2.1 j e q
      exact ⟨w, by rw [List.getElem?_set_ne hij]; exact a, b⟩
end
end PP
namespace PP
open PySem PySem.Spec PyProof.Rows L2
theorem raw_stable {a : Addr} {xs : DX} {h1 h2 : Heap} (r : DictRaw a xs h1) (k : ∀ o, h1.get? a = some o → h2.get? a = some o) : DictRaw a xs h2 := by
  obtain ⟨d, o, es, ep, e, q⟩ := r
  exact ⟨d, o, es, ep, k o e, q⟩
theorem raw_ok {P : Program} {w : World} {H : Hp} {h : Heap} {a : Addr} {xs : DX} (r : DictRaw a xs h) : ObjOk P w H h a (dictO a xs) := ⟨r, (let ⟨_, o, _, _, e, _⟩ := r; ⟨o, e⟩), fun h1 h2 r k => raw_stable r k⟩
section
variable {X : Cx} {pins : List (Addr × Obj)} {σ : L2.St} {H : Hp} {s : Shared} {pos : Pos} {a b : Addr} {xs : DX} {ks : List Key}
theorem pe_dict0 : PE X (.Dict [] [] pos) (fun _ H Q => ∀ p, H p = none → Q (.ref p) (upd H p (dictO p []))) := ⟨fun pins s σ H Q I h =>
  wpAny_Dict_empty ⟨.ref s.heap.objs.size, _, I.laid (a := s.heap.objs.size) (o := dictO s.heap.objs.size []) (t' := s.toks) (fun _ _ q => Heap.get?_push_of_some _ q) (Nat.le_refl _)
    (raw_ok ⟨beq_eq_false_iff_ne.mpr (Ne.symm (Nat.ne_of_lt I.big)), _, #[], 0, Heap.get?_push_size _ rfl, ⟨rfl, rfl, rfl⟩, rfl, fun _ _ => rfl, List.nodup_nil⟩), rfl, h _ (I.hok.fresh (Nat.le_refl _))⟩⟩
theorem key_is (I : Inv X pins σ H s) (t : TupP X.K H b (ks.map kV)) : (tupleKind (mixKind X.prog X.w)).is s.heap ks b := by
  rcases t with e | ⟨o, its, n, e, c, d, _, r⟩
  · exact key_of I.hok e
  · exact ⟨o, its, n, I.kIn _ _ e, c, d, by simpa using items_are r⟩
theorem dict_h (I : Inv X pins σ H s) (e : H a = some (dictO a xs)) (k : KeysOk X.K H xs) : (a == sysModules) = false ∧ s.heap.DictOfH (tupleKind (mixKind X.prog X.w)) a xs := by
  obtain ⟨⟨z, o, es, ep, h1, h2, h3, h4, h5⟩, _, _⟩ := (show ObjOk X.prog X.w H s.heap a (dictO a xs) from I.hok a _ e)
  exact ⟨z, o, es, ep, h1, h2, h3, h4 _ _, fun x hx => key_is I (k x hx).1, h5⟩
theorem dict_notIn {A : Around} {E : Value → Shared → Prop} {Q : Value → Shared → Prop} (hu : A.units + 1 < cLine) (I : Inv X pins σ H s) (e : H a = some (dictO a xs)) (k : KeysOk X.K H xs) (t : TupP X.K H b (ks.map kV))
    (h : ∀ s', Inv X pins σ H s' → Q (.bool (!(atKey xs ks).isSome)) s') : wpAny (model X.prog X.w) A (compareOp .NotIn (.ref b) (.ref a)) Q E s := by
  obtain ⟨hd, dd⟩ := dict_h I e k
  exact wpAny_notIn_heap (tupleKind_room_in1 hu) (key_is I t) hd dd (h _ (I.tok _))
theorem entry_same {P P' : Program} {w w' : World} {x : List Key × Addr × Value} (h : ∀ k ∈ x.1, ∃ i : Int, k = .inl i) : entryOfKey (tupleKind (mixKind P w)) x = entryOfKey (tupleKind (mixKind P' w')) x := by
  have e : x.1.map (keyH w) = x.1.map (keyH w') := List.map_congr_left fun k hk => by
    obtain ⟨i, rfl⟩ := h k hk
    rfl
  unfold entryOfKey
  congr 1
  show tupleKeyHash (mixKind P w) x.1 = tupleKeyHash (mixKind P' w') x.1
  unfold tupleKeyHash
  show _ = _
  first
  | (simp only [show (mixKind P w).hash = keyH w from rfl, show (mixKind P' w').hash = keyH w' from rfl, e])
  | skip
theorem dict_set {A : Around} {E : Value → Shared → Prop} {Q : Unit → Shared → Prop} {r : Value} {v : V} (hu : A.units + 1 < cLine) (hz : xs.length ≤ sizeLine) (I : Inv X pins σ H s) (e : H a = some (dictO a xs)) (k : KeysOk X.K H xs) (t : TupP X.K H b (ks.map kV)) (hi : ∀ k ∈ ks, ∃ i : Int, k = .inl i)
    (h : ∀ s', Inv X pins σ (upd H a (dictO a (storedH xs ks b r))) s' → Q () s') : wpAny (model X.prog X.w) A (setItem (.ref a) (.ref b) r) Q E s := by
  obtain ⟨hd, dd⟩ := dict_h I e k
  refine wpAny_setItem_heap (hsz := hz) (tupleKind_room_in1 hu) (key_is I t) dd fun h' dd' hs => h _ ?_
  obtain ⟨q, es, ep, hq, h2, h3, h4, _, h5⟩ := dd'
  have hints : ∀ x ∈ storedH xs ks b r, ∀ k ∈ x.1, ∃ i : Int, k = .inl i := fun x hx => by
    unfold storedH at hx
    split at hx
    · obtain ⟨y, hy, rfl⟩ := List.mem_map.mp hx
      unfold putAt
      split <;> exact (k y hy).2
    · rcases List.mem_append.mp hx with hx | hx
      · exact (k x hx).2
      · rw [List.mem_singleton.mp hx]; exact hi
  refine d_write I (by rw [e]; exact True.intro) hs ⟨q, hq⟩ (raw_ok ⟨hd, q, es, ep, hq, h2, h3, fun P w => ?_, h5⟩)
  rw [h4]
  exact List.map_congr_left fun x hx => entry_same (hints x hx)
end
def tD (ns : List Int) : D := .tup (ns.map D.int)
def tK (ns : List Int) : List L2.Key := ns.map Sum.inl
theorem keyD_tK (ns : List Int) : keyD (tK ns) = tD ns := by
  unfold keyD tK tD
  rw [List.map_map]
  rfl
theorem keyD_inj : ∀ {ns : List Int} {k : List L2.Key}, tD ns = keyD k → k = tK ns := by
  intro ns k h
  unfold tD keyD at h
  injection h with h
  induction ns generalizing k with
  | nil =>
    cases k with
    | nil => rfl
    | cons x k => cases h
  | cons n ns ih =>
    cases k with
    | nil => cases h
    | cons x k =>
      rw [List.map_cons, List.map_cons] at h
      injection h with h1 h2
      cases x with
      | inl i => injection h1 with h1; subst h1; rw [ih h2]; rfl
      | inr s => cases h1
theorem at_mem {xs : DX} {ns : List Int} : (atKey xs (tK ns)).isSome = true ↔ tD ns ∈ xs.map fun x => keyD x.1 := by
  unfold atKey
  rw [Option.isSome_map, List.find?_isSome]
  constructor
  · rintro ⟨x, hx, e⟩
    exact List.mem_map.mpr ⟨x, hx, by rw [of_decide_eq_true e, keyD_tK]⟩
  · intro h
    obtain ⟨x, hx, e⟩ := List.mem_map.mp h
    exact ⟨x, hx, decide_eq_true (keyD_inj e.symm)⟩
theorem stored_map {xs : DX} {ns : List Int} {b : Addr} {v : Value} : (storedH xs (tK ns) b v).map (fun x => keyD x.1) = if (atKey xs (tK ns)).isSome = true then xs.map (fun x => keyD x.1) else xs.map (fun x => keyD x.1) ++ [tD ns] := by
  unfold storedH
  split
  · rw [List.map_map]
    refine List.map_congr_left fun x _ => ?_
    show keyD (putAt _ _ x).1 = _
    unfold putAt
    split <;> rfl
  · rw [List.map_append, List.map_singleton, keyD_tK]
theorem keys_rep {K : PySem.W.Frag} {H : Hp} : ∀ {ns : List Int} {vs : List V}, RepL K H (ns.map D.int) vs → vs = (tK ns).map kV
  | [], vs, h => h
  | n :: ns, vs, ⟨v, r, e, h, t⟩ => by
    subst e
    rw [keys_rep t, show v = V.int n from h]
    rfl
theorem not_code {H : Hp} {p : Addr} {xs : DX} {q : Str} (hx : ∃ h, DictRaw p xs h) (h : H p = some (dictO p xs)) : H p ≠ some (LamX.CodeO p q) := fun z => by
  rw [h] at z
  unfold LamX.CodeO at z
  injection z with z
  injection z with z
  obtain ⟨hp, r⟩ := hx
  have r2 := r
  rw [z] at r2
  obtain ⟨oc, vs, t, e1, e2, _⟩ := r2
  obtain ⟨_, o, es, ep, e3, _, e4, _⟩ := r
  rw [e3] at e1
  cases e1
  rw [e4] at e2
  cases e2
theorem TK.setX {H : Hp} {p : Addr} {xs : DX} {o : HO} (hx : ∃ h, DictRaw p xs h) (h : H p = some (dictO p xs)) : TK H (upd H p o) := ⟨fun c u q e => by
  rw [upd_ne]; exact e
  intro z; subst z; rw [h] at e; cases e; exact q, fun t z hz => tabS_but (p := p) (fun ps z => by rw [h] at z; cases z) (fun q => not_code hx h) (fun b o n e => by rw [upd_ne n]; exact e) (t z hz)⟩
theorem KeysOk.stored {K : PySem.W.Frag} {H : Hp} {xs : DX} {ns : List Int} {b : Addr} {r : Value} (k : KeysOk K H xs) (t : TupP K H b ((tK ns).map kV)) : KeysOk K H (storedH xs (tK ns) b r) := fun x hx => by
  unfold storedH at hx
  split at hx
  · obtain ⟨y, hy, rfl⟩ := List.mem_map.mp hx
    unfold putAt
    split <;> exact k y hy
  · rcases List.mem_append.mp hx with hx | hx
    · exact k x hx
    · rw [List.mem_singleton.mp hx]
      refine ⟨t, fun z hz => ?_⟩
      obtain ⟨i, _, rfl⟩ := List.mem_map.mp hz
      exact ⟨i, rfl⟩
theorem RepG.putD {K : PySem.W.Frag} {H : Hp} {g : G} (h : RepG K H g) {c : Addr} {xs xs' : DX} (hc : c % 4 = 1) (hx : ∃ h, DictRaw (c / 4) xs h) (n : H (c / 4) = some (dictO (c / 4) xs)) (k : KeysOk K H xs') : RepG K (upd H (c / 4) (dictO (c / 4) xs')) (g.up c (xs'.map fun x => keyD x.1)) := fun a es e => by
  unfold G.up at e
  split at e
  · rename_i z; subst z; cases e; exact .inr (.inl ⟨hc, xs', upd_same, k.keep (.setX hx n), rfl⟩)
  · rename_i z
    refine (h a es e).other (.setX hx n) (fun y w => ?_) (fun y w => z (quart_inj y hc w)) fun y w => ?_
    · obtain ⟨xs, q, _⟩ := h.lst y e
      rw [w, n] at q; cases q
    · obtain ⟨_, _, _, q, _⟩ := h.obj y e
      rw [w, n] at q; cases q
theorem RepG.newD {K : PySem.W.Frag} {H : Hp} {g : G} (h : RepG K H g) {p : Addr} (n : H p = Option.none) : RepG K (upd H p (dictO p [])) (g.up (4 * p + 1) []) := fun a es e => by
  unfold G.up at e
  split at e
  · rename_i z; subst z; cases e
    exact .inr (.inl ⟨(code4 p).1, [], by rw [(code4 p).2.1]; exact upd_same, (fun x hx => by cases hx), rfl⟩)
  · exact (h.tup n) a es e
theorem RepG.frzD {K : PySem.W.Frag} {H : Hp} {g : G} (h : RepG K H g) {c : Addr} {xs : DX} {o : Obj} (hc : c % 4 = 1) (hx : ∃ h, DictRaw (c / 4) xs h) (n : H (c / 4) = some (dictO (c / 4) xs)) : RepG K (upd H (c / 4) (.frz o (dictO (c / 4) xs))) (g.del c) := fun a es e => by
  unfold G.del at e
  split at e
  · cases e
  · rename_i z
    refine (h a es e).other (.setX hx n) (fun y w => ?_) (fun y w => z (quart_inj y hc w)) fun y w => ?_
    · obtain ⟨xs, q, _⟩ := h.lst y e
      rw [w, n] at q; cases q
    · obtain ⟨_, _, _, q, _⟩ := h.obj y e
      rw [w, n] at q; cases q
section
variable {X : Cx} {pins : List (Addr × Obj)} {σ : L2.St} {H : Hp} {s : Shared} {d : Addr} {o : Obj} {xs : DX}
theorem frzR (I : Inv X pins σ H s) (h : H d = some (.frz o (dictO d xs))) : (d == sysModules) = false ∧ s.heap.get? d = some o ∧ o.ExactDict ∧ ∃ es ep, o.data = .dict es ep ∧ es.toList = xs.map (entryOfKey (tupleKind (mixKind X.prog X.w))) := by
  obtain ⟨hd, ⟨z, o', es, ep, h1, h2, h3, h4, h5⟩, _, _⟩ := (show ObjOk X.prog X.w H s.heap d (.frz o (dictO d xs)) from I.hok d _ h)
  rw [hd] at h1
  cases h1
  exact ⟨z, hd, h2, es, ep, h3, h4 _ _⟩
def Itf (d : Addr) (o : Obj) (xs : DX) : It :=
  ⟨fun i H => H d = some (.frz o (dictO d xs)) ∧ i < xs.length, fun i H x H' => H' = H ∧ ∃ y, xs[i]? = some y ∧ x = .ref y.2.1, fun i H => H d = some (.frz o (dictO d xs)) ∧ xs.length ≤ i⟩
theorem turn_frz {P : Program} {w : World} {K : PySem.W.Frag} {tg : Expr} {es : Array DictEntry} {ep : Nat} (it : Addr) (hod : o.data = .dict es ep) : Turn P w K tg (Itf d o xs) [it] it (fun i h => h.IsKeyIter it d i xs.length ep) where
  mem := by simp
  obj := fun i h st b hb => by
    have e : b = it := by simpa using hb
    subst e
    obtain ⟨oi, e, c, dd⟩ := st
    exact ⟨oi, e, fun v z => by rw [dd] at z; cases z⟩
  keep := fun i h h' st k => st.at fun oi e => k it (by simp) oi e
  item := by
    intro X hP hw hK hc i pins s σ H E I hf st hg
    subst hP hw hK
    obtain ⟨hd, hi⟩ := hg
    obtain ⟨f0, f1, f2, f3, f4, f5⟩ := hf it (by simp)
    obtain ⟨hs, hgd, hx, es', ep', hdt, he⟩ := frzR I hd
    obtain ⟨rfl, rfl⟩ := dict_ep hod hdt
    have hsz := size_of_entries he
    obtain ⟨y, hy⟩ : ∃ p, xs[i]? = some p := ⟨xs[i], List.getElem?_eq_getElem hi⟩
    have hen := entry_at he i
    rw [hy] at hen
    refine next_key_item st hgd hdt hsz hen fun h' st' sb => ?_
    have I1 : Inv X pins σ H { s with heap := h' } := I.turned (t' := s.toks) (fun b ob hb e => (sb.2 b hb).trans e) f0 f1 f3 f4 f5
    obtain ⟨oi, e, c, dd⟩ := id st'
    exact ⟨_, rfl, go_of (s := { s with heap := h' }) e c dd (by decide) ⟨.ref y.2.1, H, I1, rfl, ⟨rfl, y, hy, rfl⟩, st', fun b hb => (hf b hb).1⟩⟩
  done := by
    intro X hP hw hK hc i pins s σ H E I hf st hg
    subst hP hw hK
    obtain ⟨hd, hi⟩ := hg
    obtain ⟨f0, f1, f2, f3, f4, f5⟩ := hf it (by simp)
    obtain ⟨hs, hgd, hx, es', ep', hdt, he⟩ := frzR I hd
    obtain ⟨rfl, rfl⟩ := dict_ep hod hdt
    exact next_key_end (I.ok.hd hc) st hgd hdt (size_of_entries he) hi fun h' eb => ⟨rfl, I.turned (t' := s.toks) (fun b ob hb e => eb b ob hb e) f0 f1 f3 f4 f5⟩
  self := fun A i s Q E st h => by
    refine wpAny_pyIter_slot st.typeIs F.slot_dict_keyiterator_iter (wpAny_call_entry F.slot_dict_keyiterator_iter st.typeIs F.entry_dict_keyiterator_iter ?_ (F.args_dict_keyiterator_iter_1 _))
    show wpAny _ _ (ret (.ref it)) _ _ s
    exact wpAny_pure ⟨_, rfl, "dict_keyiterator", _, st.typeIs, F.slot_dict_keyiterator_next.lookup, h⟩
theorem call_list_frz (hc : X.calm = true) : CallR X (.type "list") (fun vs H Q => ∃ d o xs, vs = [V.ref d] ∧ H d = some (.frz o (dictO d xs)) ∧ xs.length ≤ sizeLine ∧ ∀ p, H p = none → Q (.ref p) (upd H p (.lst (xs.map fun x => V.ref x.2.1)))) := by
  intro pins s σ H vs us Q I r h
  obtain ⟨d, o, ks, rfl, hd, hl, q⟩ := h
  obtain ⟨u, rfl, rx⟩ := r.one
  cases rx
  obtain ⟨hs, ho, hx, es, ep, hdt, he⟩ := frzR I hd
  have l1 : es.size = ks.length := size_of_entries he
  refine PySem.W.kdl_call (kdl_raw hs hx hdt) (I.ok.hd hc) ho (by omega) fun h' tk acc' c' kp e it => ?_
  have ea : acc'.toList = ks.map fun x => Value.ref x.2.1 := by
    have hl : acc'.toList.length = ks.length := by rw [Array.length_toList, it.1]; exact l1
    apply List.ext_getElem?
    intro j
    rw [List.getElem?_map]
    cases hj : acc'.toList[j]? with
    | none =>
      have h1 := List.getElem?_eq_none_iff.mp hj
      rw [List.getElem?_eq_none (by omega)]
      all_goals rfl
    | some v =>
      obtain ⟨en, hen, hv⟩ := it.2 j v (by rw [← Array.getElem?_toList]; exact hj)
      have qe := entry_at he j
      rw [hen] at qe
      cases hb : ks[j]? with
      | none =>
        rw [hb] at qe
        exact nomatch (show some en = none from qe)
      | some b =>
        rw [hb] at qe
        have e2 : en = entryOfKey (tupleKind (mixKind X.prog X.w)) b := Option.some.inj qe
        rw [hv, e2]
        all_goals rfl
  have eb : acc'.toList = (ks.map fun x => x.2.1).map Value.ref := by rw [ea, List.map_map]; all_goals rfl
  have rv : Vals ((ks.map fun x => x.2.1).map V.ref) acc'.toList := by rw [eb]; exact vals_refs _
  have em : (ks.map fun x => V.ref x.2.1) = (ks.map fun x => x.2.1).map V.ref := by rw [List.map_map]; all_goals rfl
  have hz : ((ks.map fun x => x.2.1).map V.ref).length ≤ sizeLine := by rw [List.length_map, List.length_map]; omega
  refine ⟨.ref s.heap.objs.size, _, I.laid (t' := tk) (o := .lst ((ks.map fun x => x.2.1).map V.ref)) kp (Nat.le_refl _) ?_, rfl, by rw [← em]; exact q _ (I.hok.fresh (Nat.le_refl _))⟩
  exact ⟨hz, acc'.toList, c', rv, by rw [Array.toArray_toList]; exact e⟩
end
theorem key_rep {K : PySem.W.Frag} {H : Hp} : ∀ {k : List L2.Key}, (∀ x ∈ k, ∃ i : Int, x = .inl i) → RepL K H (k.map fun x => match x with | .inl i => D.int i | .inr s => .str s) (k.map kV)
  | [], _ => rfl
  | x :: k, h => by
    obtain ⟨i, rfl⟩ := h x List.mem_cons_self
    exact ⟨.int i, _, rfl, rfl, key_rep fun y hy => h y (List.mem_cons_of_mem _ hy)⟩
theorem keyD_rep {K : PySem.W.Frag} {H : Hp} {x : List L2.Key × Addr × Value} (h : TupP K H x.2.1 (x.1.map kV) ∧ ∀ k ∈ x.1, ∃ i : Int, k = .inl i) : Rep K H (keyD x.1) (.ref x.2.1) := ⟨_, _, rfl, h.1, key_rep h.2⟩
theorem keysD_rep {K : PySem.W.Frag} {H : Hp} : ∀ {xs : DX}, KeysOk K H xs → RepL K H (xs.map fun x => keyD x.1) (xs.map fun x => V.ref x.2.1)
  | [], _ => rfl
  | x :: xs, h => ⟨.ref x.2.1, _, rfl, keyD_rep (h x List.mem_cons_self), keysD_rep fun y hy => h y (List.mem_cons_of_mem _ hy)⟩
def rSetD (K : PySem.W.Frag) : V → V → V → Hp → (Hp → Prop) → Prop := fun o i v H Q => ∃ (a b : Addr) (xs : DX) (ns : List Int), o = .ref a ∧ i = .ref b ∧ H a = some (dictO a xs) ∧ KeysOk K H xs ∧ TupP K H b ((tK ns).map kV) ∧ xs.length ≤ sizeLine ∧ ((∃ h, DictRaw a xs h) → ∀ r, Q (upd H a (dictO a (storedH xs (tK ns) b r))))
theorem set_dict {X : Cx} (hu : X.A.units + 1 < cLine) : PSet X (rSetD X.K) := by
  intro pins s σ H o i v ov iv u Q I ro ri rv h
  obtain ⟨a, b, xs, ns, rfl, rfl, h1, h2, h3, h4, q⟩ := h
  cases ro
  cases ri
  have hx : ∃ h, DictRaw a xs h := ⟨s.heap, (show ObjOk X.prog X.w H s.heap a (dictO a xs) from I.hok a _ h1).1⟩
  exact dict_set (r := u) (v := v) hu h4 I h1 h2 h3 (fun k hk => by
    obtain ⟨i, _, rfl⟩ := List.mem_map.mp hk
    exact ⟨i, rfl⟩) fun s' I' => ⟨_, I', q hx u⟩
theorem set_both {X : Cx} (hu : X.A.units + 1 < cLine) : PSet X (fun o i v H Q => rSetL o i v H Q ∨ rSetD X.K o i v H Q) := by
  intro pins s σ H o i v ov iv u Q I ro ri rv h
  rcases h with h | h
  · exact set_list pins s σ H o i v ov iv u Q I ro ri rv h
  · exact set_dict hu pins s σ H o i v ov iv u Q I ro ri rv h
end PP
namespace PP
open PySem PySem.Spec PyProof.Rows L2
abbrev DTE := XD → Env → G → QD → Prop
abbrev DTA := XD → Env → G → (List D → G → Prop) → Prop
abbrev DTT := XD → Env → G → (Bool → G → Prop) → Prop
section
variable (K : PySem.W.Frag) (C : Ex → Addr)
def clos (H : Hp) (Qd : QD) (Q : VK) : Prop := ∀ d g v H', Qd d g → TK H H' → RepG K H' g → Rep K H' d v → Q v H'
def closA (H : Hp) (Qd : List D → G → Prop) (Q : List V → Hp → Prop) : Prop := ∀ d g v H', Qd d g → TK H H' → RepG K H' g → RepL K H' d v → Q v H'
def closT (H : Hp) (Qd : Bool → G → Prop) (Q : Bool → Hp → Prop) : Prop := ∀ b g H', Qd b g → TK H H' → RepG K H' g → Q b H'
def closX (H : Hp) (Xd : XD) (E : XK) : Prop := ∀ n g H', Xd n g → TK H H' → RepG K H' g → E (.ref (C n)) none H'
def up (W : WX) (t : DTE) : TE := fun σ H Q => ∃ (env : Env) (g : G) (Xd : XD) (Qd : QD), RepE K H env σ ∧ RepG K H g ∧ t Xd env g Qd ∧ clos K H Qd Q ∧ closX K C H Xd (fun c d H' => W c d σ H')
def upA (W : WX) (t : DTA) : TA := fun σ H Q => ∃ (env : Env) (g : G) (Xd : XD) (Qd : List D → G → Prop), RepE K H env σ ∧ RepG K H g ∧ t Xd env g Qd ∧ closA K H Qd Q ∧ closX K C H Xd (fun c d H' => W c d σ H')
def upT (W : WX) (t : DTT) : TT := fun σ H Q => ∃ (env : Env) (g : G) (Xd : XD) (Qd : Bool → G → Prop), RepE K H env σ ∧ RepG K H g ∧ t Xd env g Qd ∧ closT K H Qd Q ∧ closX K C H Xd (fun c d H' => W c d σ H')
end
section
variable {K : PySem.W.Frag} {C : Ex → Addr} {H H1 : Hp}
theorem clos.at {Qd : QD} {Q : VK} (k : TK H H1) (c : clos K H Qd Q) : clos K H1 Qd Q := fun d g v H' q t r1 r2 => c d g v H' q (k.trans t) r1 r2
theorem closA.at {Qd : List D → G → Prop} {Q} (k : TK H H1) (c : closA K H Qd Q) : closA K H1 Qd Q := fun d g v H' q t r1 r2 => c d g v H' q (k.trans t) r1 r2
theorem closT.at {Qd : Bool → G → Prop} {Q} (k : TK H H1) (c : closT K H Qd Q) : closT K H1 Qd Q := fun d g H' q t r1 => c d g H' q (k.trans t) r1
theorem closX.at {Xd : XD} {E : XK} (k : TK H H1) (c : closX K C H Xd E) : closX K C H1 Xd E := fun n g H' q t r => c n g H' q (k.trans t) r
end
section
variable {X : Cx}
theorem pe_imp {e : Expr} {t t' : TE} (h : PE X e t) (f : ∀ σ H Q, t' σ H Q → t σ H Q) : PE X e t' := ⟨fun pins s σ H Q I q => h.run pins s σ H Q I (f σ H Q q)⟩
theorem pa_imp {e : List Expr} {t t' : TA} (h : PA X e t) (f : ∀ σ H Q, t' σ H Q → t σ H Q) : PA X e t' := ⟨fun pos pins s σ H Q I q => h.run pos pins s σ H Q I (f σ H Q q)⟩
theorem pt_imp {e : Expr} {t t' : TT} (h : PT X e t) (f : ∀ σ H Q, t' σ H Q → t σ H Q) : PT X e t' := ⟨fun pins s σ H Q I q => h.run pins s σ H Q I (f σ H Q q)⟩
theorem pw_imp {e : Expr} {t t' : TT} (h : PW X e t) (f : ∀ σ H Q, t' σ H Q → t σ H Q) : PW X e t' := ⟨fun wh pins s σ H Q I q => h.run wh pins s σ H Q I (f σ H Q q)⟩
theorem ps_imp {e : Stmt} {t t' : TS} (h : PS X e t) (f : ∀ D σ H, t' D σ H → t D σ H) : PS X e t' := ⟨fun pins s σ H D I q => h.run pins s σ H D I (f D σ H q)⟩
theorem pss_imp {e : List Stmt} {t t' : TS} (h : PSs X e t) (f : ∀ D σ H, t' D σ H → t D σ H) : PSs X e t' := ⟨fun pins s σ H D I q => h.run pins s σ H D I (f D σ H q)⟩
end
def dVar (i : Nat) : DTE := fun _ env g Q => match env[i]? with | some (some d) => Q d g | _ => False
def dC (d : D) : DTE := fun _ _ g Q => Q d g
def dBin (r : D → D → G → QD → Prop) (ta tb : DTE) : DTE := fun X env g Q => ta X env g fun x g1 => tb X env g1 fun y g2 => r x y g2 Q
def dUn (r : D → G → QD → Prop) (ta : DTE) : DTE := fun X env g Q => ta X env g fun x g1 => r x g1 Q
def dNil : DTA := fun _ _ g Q => Q [] g
def dCons (ta : DTE) (tb : DTA) : DTA := fun X env g Q => ta X env g fun x g1 => tb X env g1 fun xs g2 => Q (x :: xs) g2
def dTup (t : DTA) : DTE := fun X env g Q => t X env g fun xs g1 => xs.length ≤ sizeLine ∧ Q (.tup xs) g1
def dLst (t : DTA) : DTE := fun X env g Q => t X env g fun xs g1 => xs.length ≤ sizeLine ∧ ∀ p, g1 p = none → Q (.ref p) (g1.up p xs)
def rUp (K : PySem.W.Frag) (r : D → D → G → QD → Prop) : R2 := fun x y H Q => ∃ d1 d2 g Qd, Rep K H d1 x ∧ Rep K H d2 y ∧ RepG K H g ∧ r d1 d2 g Qd ∧ clos K H Qd Q
section
variable {X : Cx} {C : Ex → Addr} {W : WX} {a b e : Expr} {es : List Expr} {pos : Pos} {ta tb : DTE} {tA : DTA}
theorem d_var {i : Nat} {x : Str} (hN : X.N[i]? = some x) (hv : Vis X.env.scope x) (hd : (x == ("__debug__" : Str)) = false) (hcd : (x == ("__classdict__" : Str)) = false) : PE X (.Name x pos) (up X.K C W (dVar i)) := by
  refine pe_imp (pe_var hN hv hd hcd) fun σ H Q ⟨env, g, Xd, Qd, re, rg, t, cl, cx⟩ => ?_
  unfold dVar at t
  split at t
  · rename_i d e
    obtain ⟨v, e1, r⟩ := re.2.1 i d e
    exact ⟨v, e1, cl _ _ _ _ t (.refl _) rg r⟩
  · exact t.elim
theorem d_const {d : D} {v : V} (h : PE X e (tC v)) (r : ∀ H, Rep X.K H d v) : PE X e (up X.K C W (dC d)) :=
  pe_imp h fun σ H Q ⟨env, g, Xd, Qd, re, rg, t, cl, cx⟩ => cl _ _ _ _ t (.refl _) rg (r H)
theorem d_op {f : Value → Value → Sem Value} {r : D → D → G → QD → Prop} {op : Operator} (ho : OpR X (binaryOp op) (rUp X.K r)) (ha : PE X a (up X.K C W ta)) (hb : PE X b (up X.K C W tb)) : PE X (.BinOp a op b pos) (up X.K C W (dBin r ta tb)) := by
  refine pe_imp (pe_op ho ha hb) fun σ H Q ⟨env, g, Xd, Qd, re, rg, t, cl, cx⟩ => ?_
  refine ⟨env, g, Xd, _, re, rg, t, fun d1 g1 v H1 q k1 r1 rv => ?_, cx⟩
  refine ⟨env, g1, Xd, _, re.keep k1, r1, q, fun d2 g2 u H2 q2 k2 r2 ru => ?_, cx.at k1⟩
  exact ⟨d1, d2, g2, Qd, rv.keep k2, ru, r2, q2, cl.at (k1.trans k2)⟩
theorem d_cmp {r : D → D → G → QD → Prop} {op : CmpOp} (ho : OpR X (compareOp op) (rUp X.K r)) (ha : PE X a (up X.K C W ta)) (hb : PE X b (up X.K C W tb)) (hm : behindInMarks op b = false) : PE X (.Compare a [op] [b] pos) (up X.K C W (dBin r ta tb)) := by
  refine pe_imp (pe_cmpR ho ha hb hm) fun σ H Q ⟨env, g, Xd, Qd, re, rg, t, cl, cx⟩ => ?_
  refine ⟨env, g, Xd, _, re, rg, t, fun d1 g1 v H1 q k1 r1 rv => ?_, cx⟩
  refine ⟨env, g1, Xd, _, re.keep k1, r1, q, fun d2 g2 u H2 q2 k2 r2 ru => ?_, cx.at k1⟩
  exact ⟨d1, d2, g2, Qd, rv.keep k2, ru, r2, q2, cl.at (k1.trans k2)⟩
theorem d_nil : PA X [] (upA X.K C W dNil) := pa_imp pa_nil fun σ H Q ⟨env, g, Xd, Qd, re, rg, t, cl, cx⟩ => cl _ _ _ _ t (.refl _) rg rfl
theorem d_cons (ha : PE X e (up X.K C W ta)) (hb : PA X es (upA X.K C W tA)) (hs : starEach (e :: es) X.env = (false, eval e X.env) :: starEach es X.env) : PA X (e :: es) (upA X.K C W (dCons ta tA)) := by
  refine pa_imp (pa_cons ha hb hs) fun σ H Q ⟨env, g, Xd, Qd, re, rg, t, cl, cx⟩ => ?_
  refine ⟨env, g, Xd, _, re, rg, t, fun d1 g1 v H1 q k1 r1 rv => ?_, cx⟩
  refine ⟨env, g1, Xd, _, re.keep k1, r1, q, fun d2 g2 u H2 q2 k2 r2 ru => ?_, cx.at k1⟩
  exact cl _ _ _ _ q2 (k1.trans k2) r2 ⟨v, u, rfl, rv.keep k2, ru⟩
theorem d_tup {x1} (h : PA X es (upA X.K C W tA)) : PE X (.Tuple es x1 pos) (up X.K C W (dTup tA)) := by
  refine pe_imp (pe_tup h) fun σ H Q ⟨env, g, Xd, Qd, re, rg, t, cl, cx⟩ => ?_
  refine ⟨env, g, Xd, _, re, rg, t, fun ds g1 vs H1 ⟨z, q⟩ k1 r1 rv => ?_, cx⟩
  refine ⟨by rw [rv.length]; exact z, fun p hp => ?_⟩
  exact cl _ _ _ _ q (k1.trans (.new hp)) (r1.tup hp) ⟨p, vs, rfl, .inl upd_same, rv.keep (.new hp)⟩
theorem d_lst (h : PA X es (upA X.K C W tA)) : PE X (.List es pos) (up X.K C W (dLst tA)) := by
  refine pe_imp (pe_lst h) fun σ H Q ⟨env, g, Xd, Qd, re, rg, t, cl, cx⟩ => ?_
  refine ⟨env, g, Xd, _, re, rg, t, fun ds g1 vs H1 ⟨z, q⟩ k1 r1 rv => ?_, cx⟩
  refine ⟨by rw [rv.length]; exact z, fun p hp => ?_⟩
  exact cl _ _ _ _ (q _ (r1.none hp)) (k1.trans (.new hp)) (r1.new hp rv) rep_ref
end
def MulOk (i j : Int) : Prop := i.natAbs.log2 + j.natAbs.log2 < 100000000
theorem MulOk.ok {i j : Int} (h : MulOk i j) : IntMulOk i j := by
  have b : ∀ x : Int, Builtin.Int.intBits x ≤ x.natAbs.log2 + 1 := fun x => by
    unfold Builtin.Int.intBits
    split <;> omega
  have h1 := b i
  have h2 := b j
  unfold MulOk at h
  have e : bitsLine = 134217728 := by decide
  unfold IntMulOk
  intro z
  rw [Bool.and_eq_true] at z
  have z2 := z.2
  unfold Builtin.Int.intTooBig at z2
  have z3 := of_decide_eq_true z2
  rw [e] at z3
  omega
def dAdd : D → D → G → QD → Prop
  | .int i, .int j => fun g Q => Q (.int (i + j)) g
  | .str s, .str t => fun g Q => s.length + t.length ≤ sizeLine ∧ Q (.str (s ++ t)) g
  | .tup xs, .tup ys => fun g Q => xs.length + ys.length ≤ sizeLine ∧ Q (.tup (xs ++ ys)) g
  | .ref a, .ref b => fun g Q => match g a, g b with
    | some xs, some ys => xs.length + ys.length ≤ sizeLine ∧ ∀ p, g p = none → Q (.ref p) (g.up p (xs ++ ys))
    | _, _ => False
  | _, _ => fun _ _ => False
def dSub : D → D → G → QD → Prop
  | .int i, .int j => fun g Q => Q (.int (i - j)) g
  | _, _ => fun _ _ => False
def repD (k : Int) (xs : List D) : List D := (List.replicate k.toNat xs).flatten
def dMul : D → D → G → QD → Prop
  | .int i, .int j => fun g Q => MulOk i j ∧ Q (.int (i * j)) g
  | .ref a, .int k => fun g Q => match g a with
    | some xs => -(2 ^ 63) ≤ k ∧ k < 2 ^ 63 ∧ xs.length * k.toNat ≤ sizeLine ∧ ∀ p, g p = none → Q (.ref p) (g.up p (repD k xs))
    | none => False
  | .tup xs, .int k => fun g Q => xs ≠ [] ∧ 0 ≤ k ∧ k ≤ 1000 ∧ xs.length ≤ 1000 ∧ Q (.tup (repD k xs)) g
  | _, _ => fun _ _ => False
theorem tuple_mul1 (l : Addr) (items : Array Value) (n : Nat) (dd : Option Addr) (sl : Array (Option Value)) (u : Tok) :
    Meets (Builtin.«tuple.__mul__» ⟨[.ref l, .int 1 u], []⟩) (fun _ R s => s.heap.get? l = some { cls := .type "tuple", dict := dd, data := .seq items n, slots := sl } ∧ R (.ok (.ret (Value.ref l))) s) :=
  .of_wp fun prog w A R s h => by
    obtain ⟨hp, g, d, tk, os⟩ := s
    obtain ⟨hl, h⟩ := h
    have f1 := AutoSeq1.idx_int
    have c0 : (decide ((1 : Int) < -(2 ^ 63)) || decide ((1 : Int) ≥ 2 ^ 63)) = false := by decide
    have c1 : (items.isEmpty || (1 : Int) == 1) = true := by simp
    wp_walk using wpAny_loadPart' hl
    exact ⟨_, rfl, h⟩
theorem op_rep1 {X : Cx} : OpR X (binaryOp .Mult) (fun x y H Q => ∃ l xs, x = .ref l ∧ y = .int 1 ∧ SqT X.K H l xs ∧ Q (.ref l) H) := by
  intro pins s σ H x y v u Q I rx ry h
  obtain ⟨l, xs, rfl, rfl, hT, q⟩ := h
  cases rx
  obtain ⟨t, rfl⟩ := ry
  obtain ⟨its, r, ⟨⟨cls, dd, data, sl⟩, ho, hc, n, hd⟩, hs⟩ := I.tuple hT
  simp only at hc hd
  subst hc hd
  refine wpAny_binaryOp_repeat_ref (T := "tuple") (U := "int") (by decide) ⟨_, ho, rfl⟩ (fun s' => typeIs_int s' 1 t) noFill_tuple_mul F.fills_int_mul F.slot_int_rmul repeat_tuple F.slot_int_index.lookup
    (call_meets F.slot_int_rmul (typeIs_int s 1 t) F.entry_int_rmul (F.args_int_rmul_2 _ _) (int_rmul_tuple 1 t l its.toArray n dd sl)
      ⟨ho, rfl, ⟨_, ho, rfl⟩, call_meets F.slot_tuple_mul ⟨_, ho, rfl⟩ F.entry_tuple_mul (F.args_tuple_mul_2 _ _) (tuple_mul1 l its.toArray n dd sl t) ⟨ho, ?_⟩⟩)
  exact ⟨.ref l, H, I, rfl, q⟩
theorem tuple_mul0 (l : Addr) (items : Array Value) (n : Nat) (dd : Option Addr) (sl : Array (Option Value)) (u : Tok) (c1 : (items.isEmpty || (0 : Int) == 1) = false) :
    Meets (Builtin.«tuple.__mul__» ⟨[.ref l, .int 0 u], []⟩) (fun _ R s => s.heap.get? l = some { cls := .type "tuple", dict := dd, data := .seq items n, slots := sl } ∧
      R (.ok (.ret (Value.ref s.heap.objs.size))) { s with heap := s.heap.push { cls := Value.type "tuple", data := Data.seq #[] }, toks := s.toks }) :=
  .of_wp fun prog w A R s h => by
    obtain ⟨hp, g, d, tk, os⟩ := s
    obtain ⟨hl, h⟩ := h
    have f1 := AutoSeq1.idx_int
    have c0 : (decide ((0 : Int) < -(2 ^ 63)) || decide ((0 : Int) ≥ 2 ^ 63)) = false := by decide
    have c2 : (decide ((0 : Int) ≤ 0) || items.isEmpty) = true := by simp
    wp_walk using wpAny_loadPart' hl
    repeat (first
      | (refine wpAny_ite_false (decide_eq_false (by rw [c1]; exact Bool.false_ne_true)) ?_; wp_walk using wpAny_loadPart' hl)
      | (refine wpAny_ite_true (decide_eq_true (by rw [c2])) ?_; wp_walk using wpAny_loadPart' hl))
    exact ⟨_, rfl, h⟩
theorem op_rep0 {X : Cx} : OpR X (binaryOp .Mult) (fun x y H Q => ∃ l xs, x = .ref l ∧ y = .int 0 ∧ SqT X.K H l xs ∧ xs ≠ [] ∧ ∀ p, H p = none → Q (.ref p) (upd H p (.tup []))) := by
  intro pins s σ H x y v u Q I rx ry h
  obtain ⟨l, xs, rfl, rfl, hT, hne, q⟩ := h
  cases rx
  obtain ⟨t, rfl⟩ := ry
  obtain ⟨its, r, ⟨⟨cls, dd, data, sl⟩, ho, hc, n, hd⟩, hs⟩ := I.tuple hT
  simp only at hc hd
  subst hc hd
  have hle : its.length = xs.length := r.length.symm
  have c1 : (its.toArray.isEmpty || (0 : Int) == 1) = false := by
    cases its with
    | nil => exact absurd (List.eq_nil_of_length_eq_zero hle.symm) hne
    | cons a b => rfl
  refine wpAny_binaryOp_repeat_ref (T := "tuple") (U := "int") (by decide) ⟨_, ho, rfl⟩ (fun s' => typeIs_int s' 0 t) noFill_tuple_mul F.fills_int_mul F.slot_int_rmul repeat_tuple F.slot_int_index.lookup
    (call_meets F.slot_int_rmul (typeIs_int s 0 t) F.entry_int_rmul (F.args_int_rmul_2 _ _) (int_rmul_tuple 0 t l its.toArray n dd sl)
      ⟨ho, rfl, ⟨_, ho, rfl⟩, call_meets F.slot_tuple_mul ⟨_, ho, rfl⟩ F.entry_tuple_mul (F.args_tuple_mul_2 _ _) (tuple_mul0 l its.toArray n dd sl t c1) ⟨ho, ?_⟩⟩)
  refine ⟨.ref s.heap.objs.size, _, I.laid (t' := s.toks) (o := .tup []) (fun b ob q => Heap.get?_push_of_some _ q) (Nat.le_refl _) ?_, rfl, q _ (I.hok.fresh (Nat.le_refl _))⟩
  exact ⟨Nat.zero_le _, [], .nil, IsTup.new _ _⟩
def dPow : D → D → G → QD → Prop
  | .int i, .int j => fun g Q => (0 ≤ j ∧ j ≤ 1000000 ∧ i.natAbs < 2 ^ 64) ∧ Q (.int (i ^ j.toNat)) g
  | _, _ => fun _ _ => False
def dMod : D → D → G → QD → Prop
  | .int i, .int j => fun g Q => j ≠ 0 ∧ Q (.int (i.fmod j)) g
  | _, _ => fun _ _ => False
def dLt : D → D → G → QD → Prop
  | .int i, .int j => fun g Q => Q (.bl (decide (i < j))) g
  | _, _ => fun _ _ => False
def dLe : D → D → G → QD → Prop
  | .int i, .int j => fun g Q => Q (.bl (decide (i ≤ j))) g
  | _, _ => fun _ _ => False
def dGt : D → D → G → QD → Prop
  | .int i, .int j => fun g Q => Q (.bl (decide (j < i))) g
  | _, _ => fun _ _ => False
def dGe : D → D → G → QD → Prop
  | .int i, .int j => fun g Q => Q (.bl (decide (j ≤ i))) g
  | _, _ => fun _ _ => False
section
variable {X : Cx}
theorem o_int {f : Value → Value → Sem Value} {P : Int → Int → Prop} {k : Int → Int → D} {kv : Int → Int → V} (h : OpR X f (rI P kv)) (hk : ∀ i j H, Rep X.K H (k i j) (kv i j)) : OpR X f (rUp X.K (fun x y => match x, y with | .int i, .int j => fun g Q => P i j ∧ Q (k i j) g | _, _ => fun _ _ => False)) := by
  intro pins s σ H x y v u Q I rx ry ⟨d1, d2, g, Qd, r1, r2, rg, r, cl⟩
  dsimp only at r
  split at r
  · rename_i i j
    have e1 : x = V.int i := r1
    have e2 : y = V.int j := r2
    exact h pins s σ H x y v u Q I rx ry ⟨i, j, e1, e2, r.1, cl _ _ _ _ r.2 (.refl _) rg (hk i j H)⟩
  · exact r.elim
theorem o_int0 {f : Value → Value → Sem Value} {k : Int → Int → D} {kv : Int → Int → V} (h : OpR X f (rI0 kv)) (hk : ∀ i j H, Rep X.K H (k i j) (kv i j)) : OpR X f (rUp X.K (fun x y => match x, y with | .int i, .int j => fun g Q => Q (k i j) g | _, _ => fun _ _ => False)) := by
  intro pins s σ H x y v u Q I rx ry ⟨d1, d2, g, Qd, r1, r2, rg, r, cl⟩
  dsimp only at r
  split at r
  · rename_i i j
    have e1 : x = V.int i := r1
    have e2 : y = V.int j := r2
    exact h pins s σ H x y v u Q I rx ry ⟨i, j, e1, e2, cl _ _ _ _ r (.refl _) rg (hk i j H)⟩
  · exact r.elim
theorem opr_imp {f : Value → Value → Sem Value} {r r' : R2} (h : OpR X f r) (k : ∀ x y H Q, r' x y H Q → r x y H Q) : OpR X f r' := fun pins s σ H x y v u Q I rx ry q => h pins s σ H x y v u Q I rx ry (k _ _ _ _ q)
theorem o_sub : OpR X (binaryOp .Sub) (rUp X.K dSub) := opr_imp (o_int0 (k := fun i j => .int (i - j)) op_sub fun _ _ _ => rfl) fun x y H Q ⟨d1, d2, g, Qd, r1, r2, rg, r, cl⟩ => ⟨d1, d2, g, Qd, r1, r2, rg, by unfold dSub at r; split at r <;> first | exact r | exact False.elim r, cl⟩
theorem o_lt : OpR X (compareOp .Lt) (rUp X.K dLt) := opr_imp (o_int0 (k := fun i j => .bl (decide (i < j))) op_lt fun _ _ _ => rfl) fun x y H Q ⟨d1, d2, g, Qd, r1, r2, rg, r, cl⟩ => ⟨d1, d2, g, Qd, r1, r2, rg, by unfold dLt at r; split at r <;> first | exact r | exact False.elim r, cl⟩
theorem o_le : OpR X (compareOp .LtE) (rUp X.K dLe) := opr_imp (o_int0 (k := fun i j => .bl (decide (i ≤ j))) op_le fun _ _ _ => rfl) fun x y H Q ⟨d1, d2, g, Qd, r1, r2, rg, r, cl⟩ => ⟨d1, d2, g, Qd, r1, r2, rg, by unfold dLe at r; split at r <;> first | exact r | exact False.elim r, cl⟩
theorem o_gt : OpR X (compareOp .Gt) (rUp X.K dGt) := opr_imp (o_int0 (k := fun i j => .bl (decide (j < i))) op_gt fun _ _ _ => rfl) fun x y H Q ⟨d1, d2, g, Qd, r1, r2, rg, r, cl⟩ => ⟨d1, d2, g, Qd, r1, r2, rg, by unfold dGt at r; split at r <;> first | exact r | exact False.elim r, cl⟩
theorem o_ge : OpR X (compareOp .GtE) (rUp X.K dGe) := opr_imp (o_int0 (k := fun i j => .bl (decide (j ≤ i))) op_ge fun _ _ _ => rfl) fun x y H Q ⟨d1, d2, g, Qd, r1, r2, rg, r, cl⟩ => ⟨d1, d2, g, Qd, r1, r2, rg, by unfold dGe at r; split at r <;> first | exact r | exact False.elim r, cl⟩
theorem o_mod : OpR X (binaryOp .Mod) (rUp X.K dMod) := opr_imp (o_int (P := fun _ j => j ≠ 0) (k := fun i j => .int (i.fmod j)) op_modN fun _ _ _ => rfl) fun x y H Q ⟨d1, d2, g, Qd, r1, r2, rg, r, cl⟩ => ⟨d1, d2, g, Qd, r1, r2, rg, by unfold dMod at r; split at r <;> first | exact r | exact False.elim r, cl⟩
theorem o_pow : OpR X (binaryOp .Pow) (rUp X.K dPow) := opr_imp (o_int (P := CPow) (k := fun i j => .int (i ^ j.toNat)) op_pow fun _ _ _ => rfl) fun x y H Q ⟨d1, d2, g, Qd, r1, r2, rg, r, cl⟩ => ⟨d1, d2, g, Qd, r1, r2, rg, by unfold dPow at r; split at r <;> first | exact r | exact False.elim r, cl⟩
theorem op_mulB : OpR X (binaryOp .Mult) (rI MulOk fun i j => .int (i * j)) := opI fun _ _ _ _ _ _ _ hc q => mul_int q hc.ok
theorem o_mul : OpR X (binaryOp .Mult) (rUp X.K dMul) := by
  intro pins s σ H x y v u Q I rx ry ⟨d1, d2, g, Qd, r1, r2, rg, r, cl⟩
  unfold dMul at r
  split at r
  · rename_i i j
    have e1 : x = V.int i := r1
    have e2 : y = V.int j := r2
    exact op_mulB pins s σ H x y v u Q I rx ry ⟨i, j, e1, e2, r.1, cl _ _ _ _ r.2 (.refl _) rg rfl⟩
  · rename_i a k
    obtain ⟨ha, e1⟩ := r1
    have e2 : y = V.int k := r2
    split at r
    · rename_i xs e
      obtain ⟨vs, hq, rl⟩ := rg.lst ha e
      obtain ⟨k1, k2, k3, q⟩ := r
      refine op_rep pins s σ H x y v u Q I rx ry ⟨_, k, vs, e1, e2, hq, k1, k2, by rw [rl.length]; exact k3, fun p hp => ?_⟩
      refine cl _ _ _ _ (q _ (rg.none hp)) (.new hp) (rg.new hp ?_) rep_ref
      unfold repD
      induction k.toNat with
      | zero => simp [RepL]
      | succ n ih => simp only [List.replicate_succ, List.flatten_cons]; exact rl.app ih
    · exact r.elim
  · rename_i xs k
    have e2 : y = V.int k := r2
    obtain ⟨p, vs, e1, t, rl⟩ := r1
    obtain ⟨hne, k1, k2, k3, q⟩ := r
    by_cases hk : k = 1
    · subst hk
      refine op_rep1 pins s σ H x y v u Q I rx ry ⟨p, vs, e1, e2, t.sq, ?_⟩
      refine cl _ _ _ _ q (.refl _) rg ⟨p, vs, rfl, t, ?_⟩
      have e : repD 1 xs = xs := by simp [repD]
      rw [e]
      exact rl
    · have hvs : vs ≠ [] := fun z => by
        subst z
        cases xs with
        | nil => exact hne rfl
        | cons a b => obtain ⟨_, _, e, _⟩ := rl; cases e
      by_cases hk0 : k = 0
      · subst hk0
        refine op_rep0 pins s σ H x y v u Q I rx ry ⟨p, vs, e1, e2, t.sq, hvs, fun p' hp => ?_⟩
        exact cl _ _ _ _ q (.new hp) (rg.tup hp) ⟨p', [], rfl, .inl upd_same, rfl⟩
      refine op_repT pins s σ H x y v u Q I rx ry ⟨p, k, vs, e1, e2, t.sq, hvs, by omega, k2, by rw [rl.length]; exact k3, fun p' hp => ?_⟩
      refine cl _ _ _ _ q (.new hp) (rg.tup hp) ⟨p', _, rfl, .inl upd_same, ?_⟩
      have rl2 := rl.keep (.new (o := .tup (List.replicate k.toNat vs).flatten) hp)
      generalize upd H p' _ = H2 at rl2 ⊢
      unfold repD
      generalize k.toNat = m
      induction m with
      | zero => simp [RepL]
      | succ n ih => simp only [List.replicate_succ, List.flatten_cons]; exact rl2.app ih
  · exact r.elim
theorem o_add : OpR X (binaryOp .Add) (rUp X.K dAdd) := by
  intro pins s σ H x y v u Q I rx ry ⟨d1, d2, g, Qd, r1, r2, rg, r, cl⟩
  unfold dAdd at r
  split at r
  · rename_i i j
    have e1 : x = V.int i := r1
    have e2 : y = V.int j := r2
    exact op_add pins s σ H x y v u Q I rx ry ⟨i, j, e1, e2, cl _ _ _ _ r (.refl _) rg rfl⟩
  · rename_i i j
    have e1 : x = V.str i := r1
    have e2 : y = V.str j := r2
    exact op_add_str pins s σ H x y v u Q I rx ry ⟨i, j, e1, e2, r.1, cl _ _ _ _ r.2 (.refl _) rg rfl⟩
  · rename_i xs ys
    obtain ⟨p, vs, e1, t1, l1⟩ := r1
    obtain ⟨q, ws, e2, t2, l2⟩ := r2
    refine op_catA pins s σ H x y v u Q I rx ry ⟨p, q, vs, ws, e1, e2, t1.sq, t2.sq, by rw [l1.length, l2.length]; exact r.1, fun z => ?_, fun _ z => ?_, fun _ _ o ho => ?_⟩
    · subst z
      refine cl _ _ _ _ r.2 (.refl _) rg ?_
      exact ⟨q, ws, rfl, t2, l1.app l2⟩
    · subst z
      refine cl _ _ _ _ r.2 (.refl _) rg ⟨p, vs, rfl, t1, ?_⟩
      simpa using l1.app l2
    · exact cl _ _ _ _ r.2 (.new ho) (rg.tup ho) ⟨o, vs ++ ws, rfl, .inl upd_same, (l1.app l2).keep (.new ho)⟩
  · rename_i a b
    obtain ⟨ha, e1⟩ := r1
    obtain ⟨hb, e2⟩ := r2
    split at r
    · rename_i xs ys h1 h2
      obtain ⟨vs, q1, l1⟩ := rg.lst ha h1
      obtain ⟨ws, q2, l2⟩ := rg.lst hb h2
      refine op_cat pins s σ H x y v u Q I rx ry ⟨_, _, vs, ws, e1, e2, q1, q2, by rw [l1.length, l2.length]; exact r.1, fun p hp => ?_⟩
      exact cl _ _ _ _ (r.2 _ (rg.none hp)) (.new hp) (rg.new hp (l1.app l2)) rep_ref
    · exact r.elim
  · exact r.elim
end
end PP
namespace PP
open PySem PySem.Spec PyProof.Rows L2
structure Stk (X : Cx) : Prop where
  seer : X.base.NoSeer
  tree : X.prog.given.tree = none
  room : Room 40 X.A
  stk : ∃ env l, X.stack = env :: l ∧ env.scope.isGenerator = false ∧ env.scope.isCoroutine = false ∧ env.builtins = builtinsNs ∧ env.globals = mainGlobals
def dFdiv : D → D → G → QD → Prop
  | .int i, .int j => fun g Q => j ≠ 0 ∧ Q (.int (i.fdiv j)) g
  | _, _ => fun _ _ => False
theorem o_fdiv {X : Cx} (S : Stk X) : OpR X (binaryOp .FloorDiv) (rUp X.K dFdiv) := by
  intro pins s σ H x y v u Q I rx ry ⟨d1, d2, g, Qd, r1, r2, rg, r, cl⟩
  unfold dFdiv at r
  split at r
  · rename_i i j
    have e1 : x = V.int i := r1
    have e2 : y = V.int j := r2
    subst e1 e2
    obtain ⟨t, rfl⟩ := rx
    obtain ⟨t', rfl⟩ := ry
    obtain ⟨env, l, hs, h1, h2, h3, h4⟩ := S.stk
    refine floordiv_int r.1 ⟨.int (i.fdiv j), H, I.tok _, ⟨_, rfl⟩, cl _ _ _ _ r.2 (.refl _) rg rfl⟩ (.inr (PylongRoom.of I.nolimit ?_ ?_))
    · have := S.room.dp
      show X.A.depth + 100 < recursionLimit
      omega
    · exact SeerAt.of (S.seer.keeps I.bk) S.tree (by rw [I.ok.frames, hs]) h1 h2 h3 h4
  · exact r.elim
mutual
def pyW (f : Addr → Option PyData) : D → Option PyData
  | .non => some .none
  | .bl b => some (.bool b)
  | .int i => some (.int i)
  | .str s => some (.str s)
  | .ref a => f a
  | .scr _ => none
  | .exc _ => none
  | .emp => none
  | .dct _ => none
  | .dfz _ => none
  | .obj _ => none
  | .tup ds => match pyWL f ds with | some xs => some (.tuple xs) | none => none
def pyWL (f : Addr → Option PyData) : List D → Option (List PyData)
  | [] => some []
  | d :: ds => match pyW f d, pyWL f ds with | some x, some xs => some (x :: xs) | _, _ => none
end
def pyN : Nat → G → Addr → Option PyData
  | 0, _, _ => none
  | n + 1, g, a => match g a with
    | some ds => match pyWL (pyN n g) ds with | some xs => some (.list xs) | none => none
    | none => none
def py (g : G) (d : D) : Option PyData := pyW (pyN 4 g) d
section
variable {K : PySem.W.Frag} {H : Hp}
mutual
theorem pyW_dp {f : Addr → Option PyData} (hf : ∀ a p, a % 2 = 0 → f a = some p → Dp K H (.ref (a / 2)) p) : ∀ {d : D} {v : V} {p : PyData}, pyW f d = some p → Rep K H d v → Dp K H v p
  | .non, v, p, e, h => by cases (show v = .non from h); cases e; exact .non
  | .bl b, v, p, e, h => by cases (show v = .bl b from h); cases e; exact .bl b
  | .int b, v, p, e, h => by cases (show v = .int b from h); cases e; exact .int b
  | .str b, v, p, e, h => by cases (show v = .str b from h); cases e; exact .str b
  | .ref b, v, p, e, h => by
    obtain ⟨hb, h⟩ := h
    subst h
    exact hf _ _ hb e
  | .dct b, v, p, e, h => by cases e
  | .dfz b, v, p, e, h => by cases e
  | .obj b, v, p, e, h => by cases e
  | .scr b, v, p, e, h => by cases e
  | .exc b, v, p, e, h => by cases e
  | .emp, v, p, e, h => by cases e
  | .tup ds, v, p, e, ⟨a, vs, e1, t, r⟩ => by
    unfold pyW at e
    split at e
    · rename_i xs q
      cases e; subst e1
      exact .tup t.sq (pyWL_dp hf q r)
    · cases e
theorem pyWL_dp {f : Addr → Option PyData} (hf : ∀ a p, a % 2 = 0 → f a = some p → Dp K H (.ref (a / 2)) p) : ∀ {d : List D} {v : List V} {p : List PyData}, pyWL f d = some p → RepL K H d v → DpAll K H v p
  | [], v, p, e, h => by cases (show v = [] from h); cases e; exact .nil
  | d :: ds, v, p, e, ⟨w, r, e1, h, t⟩ => by
    unfold pyWL at e
    split at e
    · rename_i x xs q1 q2
      cases e; subst e1
      exact .cons (pyW_dp hf q1 h) (pyWL_dp hf q2 t)
    · cases e
end
theorem pyN_dp {g : G} (rg : RepG K H g) : ∀ (n : Nat) (a : Addr) (p : PyData), a % 2 = 0 → pyN n g a = some p → Dp K H (.ref (a / 2)) p
  | 0, a, p, _, e => by cases e
  | n + 1, a, p, ha, e => by
    unfold pyN at e
    split at e
    · rename_i ds q
      split at e
      · rename_i xs q2
        cases e
        obtain ⟨vs, h, r⟩ := rg.lst ha q
        exact .lst (.of h) (pyWL_dp (pyN_dp rg n) q2 r)
      · cases e
    · cases e
theorem py_dp {g : G} (rg : RepG K H g) {d : D} {v : V} {p : PyData} (e : py g d = some p) (r : Rep K H d v) : Dp K H v p := pyW_dp (pyN_dp rg 4) e r
end
def dEqB (n : Bool) : D → D → G → QD → Prop
  | .int i, .int j => fun g Q => Q (.bl (n != decide (i = j))) g
  | .str i, .str j => fun g Q => Q (.bl (n != decide (i = j))) g
  | .bl i, .bl j => fun g Q => Q (.bl (n != decide (i = j))) g
  | x, y => fun g Q => match py g x, py g y with
    | some p, some q => SeqAt.shaped p = true ∧ SeqAt.shaped q = true ∧ Q (.bl (n != PyData.eqv p q)) g
    | _, _ => False
section
variable {X : Cx}
theorem o_eq (hu : X.A.units + 64 < cLine) : OpR X (compareOp .Eq) (rUp X.K (dEqB false)) := by
  intro pins s σ H x y v u Q I rx ry ⟨d1, d2, g, Qd, r1, r2, rg, r, cl⟩
  unfold dEqB at r
  split at r
  · rename_i i j
    have e1 : x = V.int i := r1
    have e2 : y = V.int j := r2
    subst e1 e2
    refine op_eq pins s σ H _ _ v u Q I rx ry ⟨rfl, ?_⟩
    have e : decide (V.int i = V.int j) = (false != decide (i = j)) := by simp
    rw [e]
    exact cl _ _ _ _ r (.refl _) rg rfl
  · rename_i i j
    have e1 : x = V.str i := r1
    have e2 : y = V.str j := r2
    subst e1 e2
    refine op_eq pins s σ H _ _ v u Q I rx ry ⟨rfl, ?_⟩
    have e : decide (V.str i = V.str j) = (false != decide (i = j)) := by simp
    rw [e]
    exact cl _ _ _ _ r (.refl _) rg rfl
  · rename_i i j
    have e1 : x = V.bl i := r1
    have e2 : y = V.bl j := r2
    subst e1 e2
    refine op_eq pins s σ H _ _ v u Q I rx ry ⟨rfl, ?_⟩
    have e : decide (V.bl i = V.bl j) = (false != decide (i = j)) := by simp
    rw [e]
    exact cl _ _ _ _ r (.refl _) rg rfl
  · split at r
    · rename_i p q e1 e2
      refine op_eqD hu pins s σ H x y v u Q I rx ry ⟨p, q, py_dp rg e1 r1, py_dp rg e2 r2, r.1, r.2.1, ?_⟩
      have e : PyData.eqv p q = (false != PyData.eqv p q) := by simp
      rw [e]
      exact cl _ _ _ _ r.2.2 (.refl _) rg rfl
    · exact r.elim
theorem o_ne (hu : X.A.units + 64 < cLine) : OpR X (compareOp .NotEq) (rUp X.K (dEqB true)) := by
  intro pins s σ H x y v u Q I rx ry ⟨d1, d2, g, Qd, r1, r2, rg, r, cl⟩
  unfold dEqB at r
  split at r
  · rename_i i j
    have e1 : x = V.int i := r1
    have e2 : y = V.int j := r2
    subst e1 e2
    refine op_ne pins s σ H _ _ v u Q I rx ry ⟨rfl, ?_⟩
    have e : (!decide (V.int i = V.int j)) = (true != decide (i = j)) := by simp
    rw [e]
    exact cl _ _ _ _ r (.refl _) rg rfl
  · rename_i i j
    have e1 : x = V.str i := r1
    have e2 : y = V.str j := r2
    subst e1 e2
    refine op_ne pins s σ H _ _ v u Q I rx ry ⟨rfl, ?_⟩
    have e : (!decide (V.str i = V.str j)) = (true != decide (i = j)) := by simp
    rw [e]
    exact cl _ _ _ _ r (.refl _) rg rfl
  · rename_i i j
    have e1 : x = V.bl i := r1
    have e2 : y = V.bl j := r2
    subst e1 e2
    refine op_ne pins s σ H _ _ v u Q I rx ry ⟨rfl, ?_⟩
    have e : (!decide (V.bl i = V.bl j)) = (true != decide (i = j)) := by simp
    rw [e]
    exact cl _ _ _ _ r (.refl _) rg rfl
  · split at r
    · rename_i p q e1 e2
      refine op_neD hu pins s σ H x y v u Q I rx ry ⟨p, q, py_dp rg e1 r1, py_dp rg e2 r2, r.1, r.2.1, ?_⟩
      have e : (!PyData.eqv p q) = (true != PyData.eqv p q) := by simp
      rw [e]
      exact cl _ _ _ _ r.2.2 (.refl _) rg rfl
    · exact r.elim
end
def isNonD : D → Bool
  | .non => true
  | _ => false
def dIsN (n : Bool) : D → D → G → QD → Prop
  | x, .non => fun g Q => Q (.bl (n != isNonD x)) g
  | .bl a, .bl b => fun g Q => Q (.bl (n != decide (a = b))) g
  | _, _ => fun _ _ => False
theorem op_is_bl {X : Cx} : OpR X (compareOp .Is) (fun x y H Q => ∃ m n, x = .bl m ∧ y = .bl n ∧ Q (.bl (decide (m = n))) H) := by
  intro pins s σ H x y v u Q I rx ry h
  obtain ⟨m, n, rfl, rfl, q⟩ := h
  cases (show v = Value.bool m from rx)
  cases (show u = Value.bool n from ry)
  by_cases e : m = n
  · subst e
    exact wpAny_is_self rfl ⟨.bl true, H, I, rfl, by simpa using q⟩
  · exact wpAny_is_other rfl (fun z => e (Value.bool.inj z)) ⟨.bl false, H, I, rfl, by simpa [e] using q⟩
theorem op_isNot_bl {X : Cx} : OpR X (compareOp .IsNot) (fun x y H Q => ∃ m n, x = .bl m ∧ y = .bl n ∧ Q (.bl (!decide (m = n))) H) := by
  intro pins s σ H x y v u Q I rx ry h
  obtain ⟨m, n, rfl, rfl, q⟩ := h
  cases (show v = Value.bool m from rx)
  cases (show u = Value.bool n from ry)
  by_cases e : m = n
  · subst e
    exact wpAny_isNot_self rfl ⟨.bl false, H, I, rfl, by simpa using q⟩
  · exact wpAny_isNot_other rfl (fun z => e (Value.bool.inj z)) ⟨.bl true, H, I, rfl, by simpa [e] using q⟩
section
variable {X : Cx}
theorem isNonD_rep {K H x v} (r : Rep K H x v) : decide (v = V.non) = isNonD x := by
  cases x with
  | non => cases (show v = .non from r); rfl
  | bl b => cases (show v = .bl b from r); rfl
  | int b => cases (show v = .int b from r); rfl
  | str b => cases (show v = .str b from r); rfl
  | ref b => obtain ⟨_, rfl⟩ := r; rfl
  | dct b => obtain ⟨_, rfl⟩ := r; rfl
  | dfz b => obtain ⟨a, _, _, rfl, _⟩ := r; rfl
  | obj b => obtain ⟨_, rfl⟩ := r; rfl
  | scr b => obtain ⟨a, rfl, _⟩ := r; rfl
  | exc b => obtain ⟨a, rfl, _⟩ := r; rfl
  | emp => obtain ⟨a, _, _, rfl, _⟩ := r; rfl
  | tup b => obtain ⟨a, _, rfl, _⟩ := r; rfl
theorem o_isN : OpR X (compareOp .Is) (rUp X.K (dIsN false)) := by
  intro pins s σ H x y v u Q I rx ry ⟨d1, d2, g, Qd, r1, r2, rg, r, cl⟩
  unfold dIsN at r
  split at r
  · have e2 : y = V.non := r2
    subst e2
    refine op_isN pins s σ H _ _ v u Q I rx ry ⟨rfl, ?_⟩
    rw [isNonD_rep r1]
    have e : isNonD d1 = (false != isNonD d1) := by simp
    rw [e]
    exact cl _ _ _ _ r (.refl _) rg rfl
  · rename_i a b
    refine op_is_bl pins s σ H _ _ v u Q I rx ry ⟨a, b, r1, r2, cl _ _ _ _ r (.refl _) rg ?_⟩
    show _ = V.bl _
    simp
  · exact r.elim
theorem o_notN : OpR X (compareOp .IsNot) (rUp X.K (dIsN true)) := by
  intro pins s σ H x y v u Q I rx ry ⟨d1, d2, g, Qd, r1, r2, rg, r, cl⟩
  unfold dIsN at r
  split at r
  · have e2 : y = V.non := r2
    subst e2
    refine op_notN pins s σ H _ _ v u Q I rx ry ⟨rfl, ?_⟩
    rw [isNonD_rep r1]
    have e : (!isNonD d1) = (true != isNonD d1) := by simp
    rw [e]
    exact cl _ _ _ _ r (.refl _) rg rfl
  · rename_i a b
    refine op_isNot_bl pins s σ H _ _ v u Q I rx ry ⟨a, b, r1, r2, cl _ _ _ _ r (.refl _) rg ?_⟩
    show _ = V.bl _
    simp
  · exact r.elim
end
theorem fbn (b : Bool) : (false != b) = b := by cases b <;> rfl
theorem tbn (b : Bool) : (true != b) = !b := by cases b <;> rfl
def flatD : D → Bool
  | .non => true
  | .bl _ => true
  | .int _ => true
  | .str _ => true
  | _ => false
def feq : D → D → Bool
  | .non, .non => true
  | .bl a, .bl b => a == b
  | .bl a, .int b => (if a then 1 else 0) == b
  | .int a, .bl b => a == (if b then 1 else 0)
  | .int a, .int b => a == b
  | .str a, .str b => a == b
  | _, _ => false
def memPy (d : PyData) (ds : List PyData) : Bool := ds.any fun z => PyData.eqv z d
def dIn (n : Bool) : D → D → G → QD → Prop
  | .str s, .str z => fun g Q => match s.cps.toList with
    | [c] => Q (.bl (n != decide (c ∈ z.cps.toList))) g
    | _ => False
  | x, .tup ys => fun g Q => flatD x = true ∧ ys.all flatD = true ∧ Q (.bl (n != ys.any fun y => feq y x)) g
  | x, .ref a => fun g Q => match py g x, pyN 4 g a with
    | some p, some (.list qs) => SeqAt.shaped p = true ∧ SeqAt.shaped (.list qs) = true ∧ Q (.bl (n != memPy p qs)) g
    | _, _ => False
  | .tup xs, .dct c => fun g Q => n = true ∧ (∃ ns : List Int, xs = ns.map D.int) ∧ ∃ ks, g c = some ks ∧ ∀ b : Bool, (b = true ↔ D.tup xs ∉ ks) → Q (.bl b) g
  | _, _ => fun _ _ => False
section
variable {K : PySem.W.Frag} {H : Hp}
theorem flat_rep {x : D} {v : V} (r : Rep K H x v) (f : flatD x = true) : flatV v = true := by
  cases x with
  | non => cases (show v = .non from r); rfl
  | bl b => cases (show v = .bl b from r); rfl
  | int b => cases (show v = .int b from r); rfl
  | str b => cases (show v = .str b from r); rfl
  | _ => cases f
theorem feq_rep {x y : D} {v w : V} (r : Rep K H x v) (q : Rep K H y w) (f : flatD x = true) (k : flatD y = true) : eqV w v = feq y x := by
  cases x with
  | non => cases (show v = .non from r); cases y with
    | non => cases (show w = .non from q); rfl
    | bl b => cases (show w = .bl b from q); rfl
    | int b => cases (show w = .int b from q); rfl
    | str b => cases (show w = .str b from q); rfl
    | _ => cases k
  | bl b => cases (show v = .bl b from r); cases y with
    | non => cases (show w = .non from q); rfl
    | bl b => cases (show w = .bl b from q); rfl
    | int b => cases (show w = .int b from q); rfl
    | str b => cases (show w = .str b from q); rfl
    | _ => cases k
  | int b => cases (show v = .int b from r); cases y with
    | non => cases (show w = .non from q); rfl
    | bl b => cases (show w = .bl b from q); rfl
    | int b => cases (show w = .int b from q); rfl
    | str b => cases (show w = .str b from q); rfl
    | _ => cases k
  | str b => cases (show v = .str b from r); cases y with
    | non => cases (show w = .non from q); rfl
    | bl b => cases (show w = .bl b from q); rfl
    | int b => cases (show w = .int b from q); rfl
    | str b => cases (show w = .str b from q); rfl
    | _ => cases k
  | _ => cases f
theorem any_rep {x : D} {v : V} (r : Rep K H x v) (f : flatD x = true) : ∀ {ys : List D} {vs : List V}, RepL K H ys vs → ys.all flatD = true → vs.all flatV = true ∧ inV v vs = ys.any fun y => feq y x
  | [], vs, h, _ => by cases (show vs = [] from h); exact ⟨rfl, rfl⟩
  | y :: ys, vs, ⟨w, t, e, h, l⟩, k => by
    subst e
    simp only [List.all_cons, Bool.and_eq_true] at k
    obtain ⟨a, b⟩ := any_rep r f l k.2
    refine ⟨by simp [flat_rep h k.1, a], ?_⟩
    show ((eqV w v) || inV v t) = _
    rw [b, feq_rep r h f k.1, List.any_cons]
end
section
variable {X : Cx}
theorem o_in (hu : X.A.units + 65 < cLine) : OpR X (compareOp .In) (rUp X.K (dIn false)) := by
  intro pins s σ H x y v u Q I rx ry ⟨d1, d2, g, Qd, r1, r2, rg, r, cl⟩
  unfold dIn at r
  split at r
  · rename_i a z
    have e1 : x = V.str a := r1
    have e2 : y = V.str z := r2
    subst e1 e2
    split at r
    · rename_i c e
      have e3 : a = ⟨#[c]⟩ := by
        obtain ⟨cps⟩ := a
        congr
        apply Array.ext'
        simpa using e
      subst e3
      refine op_in_sign pins s σ H _ _ v u Q I rx ry ⟨c, z, rfl, rfl, ?_⟩
      have e : decide (c ∈ z.cps.toList) = (false != decide (c ∈ z.cps.toList)) := by simp
      rw [e]
      exact cl _ _ _ _ r (.refl _) rg rfl
    · exact r.elim
  · obtain ⟨p, vs, e, t, l⟩ := r2
    obtain ⟨k1, k2, q⟩ := r
    obtain ⟨a, b⟩ := any_rep r1 k1 l k2
    refine op_in_seq pins s σ H x y v u Q I rx ry ⟨p, vs, e, .inr t.sq, flat_rep r1 k1, a, ?_⟩
    rw [if_neg Bool.false_ne_true, b]
    rw [fbn] at q
    exact cl _ _ _ _ q (.refl _) rg rfl
  · rename_i a
    split at r
    · rename_i p qs e1 e2
      obtain ⟨ha, e3⟩ := r2
      subst e3
      refine op_inD hu pins s σ H x _ v u Q I rx ry ⟨p, qs, py_dp rg e1 r1, pyN_dp rg 4 a _ ha e2, r.1, r.2.1, ?_⟩
      have e : (qs.any fun z => PyData.eqv z p) = (false != memPy p qs) := by simp [memPy]
      rw [e]
      exact cl _ _ _ _ r.2.2 (.refl _) rg rfl
    · exact r.elim
  · exact absurd r.1 (by decide)
  · exact r.elim
theorem o_notIn (hu : X.A.units + 65 < cLine) : OpR X (compareOp .NotIn) (rUp X.K (dIn true)) := by
  intro pins s σ H x y v u Q I rx ry ⟨d1, d2, g, Qd, r1, r2, rg, r, cl⟩
  unfold dIn at r
  split at r
  · rename_i a z
    have e1 : x = V.str a := r1
    have e2 : y = V.str z := r2
    subst e1 e2
    split at r
    · rename_i c e
      have e3 : a = ⟨#[c]⟩ := by
        obtain ⟨cps⟩ := a
        congr
        apply Array.ext'
        simpa using e
      subst e3
      refine op_notIn_sign pins s σ H _ _ v u Q I rx ry ⟨c, z, rfl, rfl, ?_⟩
      have e : (!decide (c ∈ z.cps.toList)) = (true != decide (c ∈ z.cps.toList)) := by simp
      rw [e]
      exact cl _ _ _ _ r (.refl _) rg rfl
    · exact r.elim
  · obtain ⟨p, vs, e, t, l⟩ := r2
    obtain ⟨k1, k2, q⟩ := r
    obtain ⟨a, b⟩ := any_rep r1 k1 l k2
    refine op_notIn_seq pins s σ H x y v u Q I rx ry ⟨p, vs, e, .inr t.sq, flat_rep r1 k1, a, ?_⟩
    rw [if_pos rfl, b]
    rw [tbn] at q
    exact cl _ _ _ _ q (.refl _) rg rfl
  · rename_i a
    split at r
    · rename_i p qs e1 e2
      obtain ⟨ha, e3⟩ := r2
      subst e3
      refine op_notInD hu pins s σ H x _ v u Q I rx ry ⟨p, qs, py_dp rg e1 r1, pyN_dp rg 4 a _ ha e2, r.1, r.2.1, ?_⟩
      have e : (!qs.any fun z => PyData.eqv z p) = (true != memPy p qs) := by simp [memPy]
      rw [e]
      exact cl _ _ _ _ r.2.2 (.refl _) rg rfl
    · exact r.elim
  · rename_i xs c
    obtain ⟨-, ⟨ns, rfl⟩, ks, e, q⟩ := r
    obtain ⟨p, vs, rfl, t, l⟩ := r1
    obtain ⟨hc, rfl⟩ := r2
    obtain ⟨dx, h1, h2, rfl⟩ := rg.dct hc e
    cases (show v = Value.ref p from rx)
    cases (show u = Value.ref (c / 4) from ry)
    rw [keys_rep l] at t
    refine dict_notIn (by omega) I h1 h2 t fun s' I' => ?_
    refine ⟨.bl (!(atKey dx (tK ns)).isSome), H, I', rfl, ?_⟩
    refine cl _ _ _ _ (q _ ?_) (.refl _) rg rfl
    have z := at_mem (xs := dx) (ns := ns)
    show _ ↔ ¬ tD ns ∈ _
    rw [← z]
    cases (atKey dx (tK ns)).isSome <;> simp
  · exact r.elim
end
end PP
namespace PP
open PySem PySem.Spec PyProof.Rows L2
def cut {α : Type} (xs : List α) (lo hi : Option Int) : List α := (xs.drop (HT.sIx xs.length 0 lo)).take (HT.sIx xs.length xs.length hi - HT.sIx xs.length 0 lo)
def dIx : D → D → G → QD → Prop
  | .tup xs, .int i => fun g Q => match atI xs i with | some d => Q d g | none => False
  | .scr ns, .int i => fun g Q => match atI ns i with | some n => Q (.int n) g | none => False
  | .ref a, .int i => fun g Q => match g a with | some xs => (match atI xs i with | some d => Q d g | none => False) | none => False
  | .str z, .int i => fun g Q => z.length ≤ sizeLine ∧ match atI z.cps.toList i with | some c => Q (.str ⟨#[c]⟩) g | none => False
  | _, _ => fun _ _ => False
def dSl : D → Option Int → Option Int → G → QD → Prop
  | .tup xs, lo, hi => fun g Q => Q (.tup (cut xs lo hi)) g
  | .ref a, lo, hi => fun g Q => match g a with | some xs => ∀ p, g p = none → Q (.ref p) (g.up p (cut xs lo hi)) | none => False
  | .str z, lo, hi => fun g Q => z.length ≤ sizeLine ∧ Q (.str (cutS z lo hi)) g
  | _, _, _ => fun _ _ => False
section
variable {K : PySem.W.Frag} {H : Hp}
theorem RepL.atI {ds : List D} {vs : List V} {i : Int} {d : D} (r : RepL K H ds vs) (e : L2.atI ds i = some d) : ∃ v, L2.atI vs i = some v ∧ Rep K H d v := by
  unfold L2.atI at e ⊢
  rw [r.length]
  cases q : ixN ds.length i with
  | none => rw [q] at e; cases e
  | some j => rw [q] at e; exact r.get e
theorem RepL.cut {ds : List D} {vs : List V} (r : RepL K H ds vs) (lo hi : Option Int) : RepL K H (PP.cut ds lo hi) (cutV vs lo hi) := by
  unfold PP.cut cutV
  rw [r.length]
  exact (r.drop _).take _
end
section
variable {X : Cx} {C : Ex → Addr} {W : WX} {a b e : Expr} {es : List Expr} {pos : Pos} {ta tb : DTE} {tA : DTA}
theorem ix_imp {r r' : R2} (h : IxR X r) (k : ∀ x y H Q, r' x y H Q → r x y H Q) : IxR X r' := fun v1 v2 pins s σ H x y v u Q I rx ry q => h v1 v2 pins s σ H x y v u Q I rx ry (k _ _ _ _ q)
theorem o_ix : IxR X (rUp X.K dIx) := ix_imp ix_seq fun x y H Q ⟨d1, d2, g, Qd, r1, r2, rg, r, cl⟩ => by
  unfold dIx at r
  split at r
  · rename_i xs i
    obtain ⟨p, vs, e, t, l⟩ := r1
    split at r
    · rename_i d q
      obtain ⟨v, e1, rv⟩ := l.atI q
      exact .inr (.inl ⟨p, vs, i, v, e, r2, t.sq, e1, cl _ _ _ _ r (.refl _) rg rv⟩)
    · exact r.elim
  · rename_i ns i
    obtain ⟨p, e, t⟩ := r1
    split at r
    · rename_i n q
      refine .inl ⟨p, _, i, .int n, e, r2, t.sq, ?_, cl _ _ _ _ r (.refl _) rg rfl⟩
      unfold L2.atI at q ⊢
      rw [List.length_map]
      cases z : ixN ns.length i with
      | none => rw [z] at q; cases q
      | some j =>
        rw [z] at q
        have q' : ns[j]? = some n := q
        show (ns.map V.int)[j]? = _
        rw [List.getElem?_map, q'] <;> rfl
    · exact r.elim
  · rename_i p i
    obtain ⟨hc, e⟩ := r1
    split at r
    · rename_i xs q
      split at r
      · rename_i d q2
        obtain ⟨vs, h, l⟩ := rg.lst hc q
        obtain ⟨v, e1, rv⟩ := l.atI q2
        exact .inl ⟨_, vs, i, v, e, r2, .of h, e1, cl _ _ _ _ r (.refl _) rg rv⟩
      · exact r.elim
    · exact r.elim
  · rename_i z i
    obtain ⟨hz, r⟩ := r
    split at r
    · rename_i c q
      exact .inr (.inr ⟨z, i, c, r1, r2, hz, q, cl _ _ _ _ r (.refl _) rg rfl⟩)
    · exact r.elim
  · exact r.elim
theorem d_ix (ha : PE X a (up X.K C W ta)) (hb : PE X b (up X.K C W tb)) (hs : PlainIx b) : PE X (.Subscript a b pos) (up X.K C W (dBin dIx ta tb)) := by
  refine pe_imp (pe_ix o_ix ha hb hs) fun σ H Q ⟨env, g, Xd, Qd, re, rg, t, cl, cx⟩ => ?_
  refine ⟨env, g, Xd, _, re, rg, t, fun d1 g1 v H1 q k1 r1 rv => ?_, cx⟩
  refine ⟨env, g1, Xd, _, re.keep k1, r1, q, fun d2 g2 u H2 q2 k2 r2 ru => ?_, cx.at k1⟩
  exact ⟨d1, d2, g2, Qd, rv.keep k2, ru, r2, q2, cl.at (k1.trans k2)⟩
abbrev DTO := XD → Env → G → (Option Int → G → Prop) → Prop
def closO (K : PySem.W.Frag) (H : Hp) (Qd : Option Int → G → Prop) (Q : Option Int → Hp → Prop) : Prop := ∀ b g H', Qd b g → TK H H' → RepG K H' g → Q b H'
def upO (K : PySem.W.Frag) (C : Ex → Addr) (W : WX) (t : DTO) : TO := fun σ H Q => ∃ (env : Env) (g : G) (Xd : XD) (Qd : Option Int → G → Prop), RepE K H env σ ∧ RepG K H g ∧ t Xd env g Qd ∧ closO K H Qd Q ∧ closX K C H Xd (fun c d H' => W c d σ H')
def dNoPart : DTO := fun _ _ g Q => Q none g
def dPart (t : DTE) : DTO := fun X env g Q => t X env g fun d g1 => match d with | .int i => Q (some i) g1 | _ => False
theorem po_imp {e : Option Expr} {t t' : TO} (h : PO X e t) (f : ∀ σ H Q, t' σ H Q → t σ H Q) : PO X e t' := ⟨fun pins s σ H Q I q => h.run pins s σ H Q I (f σ H Q q)⟩
theorem d_noPart : PO X none (upO X.K C W dNoPart) := po_imp po_none fun σ H Q ⟨env, g, Xd, Qd, re, rg, t, cl, cx⟩ => cl _ _ _ t (.refl _) rg
theorem d_part (h : PE X e (up X.K C W ta)) : PO X (some e) (upO X.K C W (dPart ta)) := by
  refine po_imp (po_some h) fun σ H Q ⟨env, g, Xd, Qd, re, rg, t, cl, cx⟩ => ?_
  refine ⟨env, g, Xd, _, re, rg, t, fun d1 g1 v H1 q k1 r1 rv => ?_, cx⟩
  dsimp only at q
  split at q
  · rename_i i
    exact ⟨i, rv, cl _ _ _ q k1 r1⟩
  · exact q.elim
def dSlc (te : DTE) (tl th : DTO) : DTE := fun X env g Q => te X env g fun d g1 => tl X env g1 fun lo g2 => th X env g2 fun hi g3 => dSl d lo hi g3 Q
theorem d_slc {lo hi : Option Expr} {tl th : DTO} {p2} (he : PE X e (up X.K C W ta)) (hl : PO X lo (upO X.K C W tl)) (hu : PO X hi (upO X.K C W th)) : PE X (.Subscript e (.Slice lo hi none p2) pos) (up X.K C W (dSlc ta tl th)) := by
  refine pe_imp (pe_slice (SlR.or sl_tupA (SlR.or sl_list sl_str)) he hl hu) fun σ H Q ⟨env, g, Xd, Qd, re, rg, t, cl, cx⟩ => ?_
  refine ⟨env, g, Xd, _, re, rg, t, fun d1 g1 v H1 q k1 r1 rv => ?_, cx⟩
  refine ⟨env, g1, Xd, _, re.keep k1, r1, q, fun l g2 H2 q2 k2 r2 => ?_, cx.at k1⟩
  refine ⟨env, g2, Xd, _, (re.keep k1).keep k2, r2, q2, fun h g3 H3 q3 k3 r3 => ?_, (cx.at k1).at k2⟩
  have kk := (k1.trans k2).trans k3
  have rv := (rv.keep k2).keep k3
  change dSl d1 l h g3 Qd at q3
  unfold dSl at q3
  split at q3
  · obtain ⟨p, vs, e, tt, ll⟩ := rv
    refine .inl ⟨p, vs, e, tt.sq, fun z => ?_, fun _ o ho => ?_⟩
    · refine cl _ _ _ _ q3 kk r3 ⟨p, vs, rfl, tt, ?_⟩
      have ec : cutV vs l h = vs := by
        unfold cutV
        rw [z.1, z.2]
        simp
      have := ll.cut l h
      rw [ec] at this
      exact this
    · exact cl _ _ _ _ q3 (kk.trans (.new ho)) (r3.tup ho) ⟨o, _, rfl, .inl upd_same, (ll.cut l h).keep (.new ho)⟩
  · split at q3
    · rename_i xs e
      obtain ⟨hc, rv⟩ := rv
      obtain ⟨vs, hh, ll⟩ := r3.lst hc e
      refine .inr (.inl ⟨_, vs, rv, .of hh, fun p hp => ?_⟩)
      exact cl _ _ _ _ (q3 _ (r3.none hp)) (kk.trans (.new hp)) (r3.new hp (ll.cut l h)) rep_ref
    · exact q3.elim
  · exact .inr (.inr ⟨_, rv, q3.1, cl _ _ _ _ q3.2 kk r3 rfl⟩)
  · exact q3.elim
def rUpC (K : PySem.W.Frag) (r : List D → G → QD → Prop) : List V → Hp → VK → Prop := fun vs H Q => ∃ ds g Qd, RepL K H ds vs ∧ RepG K H g ∧ r ds g Qd ∧ clos K H Qd Q
def dCB (r : List D → G → QD → Prop) (t : DTA) : DTE := fun X env g Q => t X env g fun ds g1 => r ds g1 Q
theorem cb_up {r : List D → G → QD → Prop} {σ H Q} (h : up X.K C W (dCB r tA) σ H Q) : tCB (rUpC X.K r) (upA X.K C W tA) σ H Q := by
  obtain ⟨env, g, Xd, Qd, re, rg, t, cl, cx⟩ := h
  exact ⟨env, g, Xd, _, re, rg, t, fun ds g1 vs H1 q k1 r1 rv => ⟨ds, g1, Qd, rv, r1, q, cl.at k1⟩, cx⟩
theorem cr_imp {f : Value} {r r' : List V → Hp → VK → Prop} (h : CallR X f r) (k : ∀ x H Q, r' x H Q → r x H Q) : CallR X f r' := fun pins s σ H x v Q I rx q => h pins s σ H x v Q I rx (k _ _ _ q)
def dLen : List D → G → QD → Prop
  | [.tup xs] => fun g Q => Q (.int xs.length) g
  | [.scr xs] => fun g Q => Q (.int xs.length) g
  | [.ref a] => fun g Q => match g a with | some xs => Q (.int xs.length) g | none => False
  | [.str z] => fun g Q => z.length ≤ sizeLine ∧ Q (.int z.length) g
  | _ => fun _ _ => False
theorem rl1 {K H} {d : D} {vs : List V} (r : RepL K H [d] vs) : ∃ v, vs = [v] ∧ Rep K H d v := by
  obtain ⟨v, t, e, h, q⟩ := r
  cases (show t = [] from q)
  exact ⟨v, e, h⟩
theorem rl2 {K H} {d d' : D} {vs : List V} (r : RepL K H [d, d'] vs) : ∃ v w, vs = [v, w] ∧ Rep K H d v ∧ Rep K H d' w := by
  obtain ⟨v, t, e, h, q⟩ := r
  obtain ⟨w, rfl, h2⟩ := rl1 q
  exact ⟨v, w, e, h, h2⟩
theorem c_len : CallR X (.builtin "len") (rUpC X.K dLen) := cr_imp call_len fun x H Q ⟨ds, g, Qd, rl, rg, r, cl⟩ => by
  unfold dLen at r
  split at r
  · obtain ⟨v, rfl, p, vs, rfl, t, l⟩ := rl1 rl
    exact ⟨_, _, rfl, .inr ⟨vs, t.sq, rfl⟩, by rw [l.length]; exact cl _ _ _ _ r (.refl _) rg rfl⟩
  · obtain ⟨v, rfl, p, rfl, t⟩ := rl1 rl
    exact ⟨_, _, rfl, .inl ⟨_, t.sq, rfl⟩, by rw [List.length_map]; exact cl _ _ _ _ r (.refl _) rg rfl⟩
  · obtain ⟨v, rfl, h⟩ := rl1 rl
    obtain ⟨hc, rfl⟩ := h
    split at r
    · rename_i a xs e
      obtain ⟨vs, hh, l⟩ := rg.lst hc e
      exact ⟨_, _, rfl, .inl ⟨vs, .of hh, rfl⟩, by rw [l.length]; exact cl _ _ _ _ r (.refl _) rg rfl⟩
    · exact r.elim
  · obtain ⟨v, rfl, h⟩ := rl1 rl
    cases h
    exact ⟨_, _, rfl, ⟨r.1, rfl⟩, cl _ _ _ _ r.2 (.refl _) rg rfl⟩
  · exact r.elim
def dAbs : List D → G → QD → Prop
  | [.int i] => fun g Q => Q (.int (i.natAbs : Int)) g
  | _ => fun _ _ => False
theorem c_abs : CallR X (.builtin "abs") (rUpC X.K dAbs) := cr_imp call_abs fun x H Q ⟨ds, g, Qd, rl, rg, r, cl⟩ => by
  unfold dAbs at r
  split at r
  · rename_i i
    obtain ⟨v, rfl, h⟩ := rl1 rl
    cases h
    refine ⟨i, rfl, cl _ _ _ _ r (.refl _) rg ?_⟩
    show V.int _ = V.int _
    congr 1
    split <;> omega
  · exact r.elim
def intsD : List D → Option (List Int)
  | [] => some []
  | .int i :: ds => (intsD ds).map (i :: ·)
  | _ :: _ => none
def boolsD : List D → Option (List Bool)
  | [] => some []
  | .bl i :: ds => (boolsD ds).map (i :: ·)
  | _ :: _ => none
theorem intsD_rep {K H} : ∀ {ds : List D} {vs : List V} {ns : List Int}, RepL K H ds vs → intsD ds = some ns → vs = ns.map V.int
  | [], vs, ns, r, e => by cases e; exact r
  | .int i :: ds, vs, ns, ⟨v, t, e1, h, q⟩, e => by
    unfold intsD at e
    cases z : intsD ds with
    | none => rw [z] at e; cases e
    | some ms => rw [z] at e; cases e; subst e1; rw [intsD_rep q z, show v = V.int i from h] <;> rfl
  | .non :: ds, vs, ns, r, e => by cases e
  | .bl _ :: ds, vs, ns, r, e => by cases e
  | .str _ :: ds, vs, ns, r, e => by cases e
  | .tup _ :: ds, vs, ns, r, e => by cases e
  | .ref _ :: ds, vs, ns, r, e => by cases e
  | .scr _ :: ds, vs, ns, r, e => by cases e
  | .exc _ :: ds, vs, ns, r, e => by cases e
  | .emp :: ds, vs, ns, r, e => by cases e
  | .dct _ :: ds, vs, ns, r, e => by cases e
  | .dfz _ :: ds, vs, ns, r, e => by cases e
  | .obj _ :: ds, vs, ns, r, e => by cases e
theorem boolsD_rep {K H} : ∀ {ds : List D} {vs : List V} {ns : List Bool}, RepL K H ds vs → boolsD ds = some ns → vs = ns.map V.bl
  | [], vs, ns, r, e => by cases e; exact r
  | .bl i :: ds, vs, ns, ⟨v, t, e1, h, q⟩, e => by
    unfold boolsD at e
    cases z : boolsD ds with
    | none => rw [z] at e; cases e
    | some ms => rw [z] at e; cases e; subst e1; rw [boolsD_rep q z, show v = V.bl i from h] <;> rfl
  | .non :: ds, vs, ns, r, e => by cases e
  | .int _ :: ds, vs, ns, r, e => by cases e
  | .str _ :: ds, vs, ns, r, e => by cases e
  | .tup _ :: ds, vs, ns, r, e => by cases e
  | .ref _ :: ds, vs, ns, r, e => by cases e
  | .scr _ :: ds, vs, ns, r, e => by cases e
  | .exc _ :: ds, vs, ns, r, e => by cases e
  | .emp :: ds, vs, ns, r, e => by cases e
  | .dct _ :: ds, vs, ns, r, e => by cases e
  | .dfz _ :: ds, vs, ns, r, e => by cases e
  | .obj _ :: ds, vs, ns, r, e => by cases e
def dMax : List D → G → QD → Prop
  | [.int i, .int j] => fun g Q => Q (.int (max i j)) g
  | [.ref a] => fun g Q => match g a with | some xs => (match intsD xs with | some ns => 0 < ns.length ∧ ∀ m, m ∈ ns → (∀ y, y ∈ ns → y ≤ m) → Q (.int m) g | none => False) | none => False
  | _ => fun _ _ => False
theorem c_max (hc : X.calm = true) : CallR X (.builtin "max") (rUpC X.K dMax) := cr_imp (CallR.or (call_max2 hc) (cr_max hc)) fun x H Q ⟨ds, g, Qd, rl, rg, r, cl⟩ => by
  unfold dMax at r
  split at r
  · rename_i i j
    obtain ⟨v, w, rfl, h, h2⟩ := rl2 rl
    cases h; cases h2
    refine .inl ⟨i, j, rfl, cl _ _ _ _ r (.refl _) rg ?_⟩
    show V.int _ = V.int _
    congr 1
    split <;> omega
  · obtain ⟨v, rfl, h⟩ := rl1 rl
    obtain ⟨hc, rfl⟩ := h
    split at r
    · rename_i xs e
      split at r
      · rename_i ns e2
        obtain ⟨vs, hh, l⟩ := rg.lst hc e
        have := intsD_rep l e2
        subst this
        exact .inr ⟨_, ns, rfl, .of hh, r.1, fun m h1 h2 => cl _ _ _ _ (r.2 m h1 h2) (.refl _) rg rfl⟩
      · exact r.elim
    · exact r.elim
  · exact r.elim
def dMin : List D → G → QD → Prop
  | [.int i, .int j] => fun g Q => Q (.int (min i j)) g
  | _ => fun _ _ => False
theorem c_min (hc : X.calm = true) : CallR X (.builtin "min") (rUpC X.K dMin) := cr_imp (call_min2 hc) fun x H Q ⟨ds, g, Qd, rl, rg, r, cl⟩ => by
  unfold dMin at r
  split at r
  · rename_i i j
    obtain ⟨v, w, rfl, h, h2⟩ := rl2 rl
    cases h; cases h2
    refine ⟨i, j, rfl, cl _ _ _ _ r (.refl _) rg ?_⟩
    show V.int _ = V.int _
    congr 1
    split <;> omega
  · exact r.elim
def dInt : List D → G → QD → Prop
  | [.int i] => fun g Q => Q (.int i) g
  | [.bl k] => fun g Q => Q (.int (if k then 1 else 0)) g
  | [.str a] => fun g Q => match PySem.intText? a with | some n => a.length ≤ 640 ∧ Q (.int n) g | none => False
  | _ => fun _ _ => False
theorem c_int : CallR X (.type "int") (rUpC X.K dInt) := cr_imp (CallR.or call_int1 call_int_str) fun x H Q ⟨ds, g, Qd, rl, rg, r, cl⟩ => by
  unfold dInt at r
  split at r
  · obtain ⟨v, rfl, h⟩ := rl1 rl
    cases h
    exact .inl (.inl ⟨_, rfl, cl _ _ _ _ r (.refl _) rg rfl⟩)
  · obtain ⟨v, rfl, h⟩ := rl1 rl
    cases h
    exact .inl (.inr ⟨_, rfl, cl _ _ _ _ r (.refl _) rg rfl⟩)
  · obtain ⟨v, rfl, h⟩ := rl1 rl
    obtain ⟨hc, rfl⟩ := h
    split at r
    · rename_i n e
      exact .inr ⟨_, n, rfl, e, r.1, cl _ _ _ _ r.2 (.refl _) rg rfl⟩
    · exact r.elim
  · exact r.elim
def dStr : List D → G → QD → Prop
  | [.int i] => fun g Q => i.natAbs.log2 < 1920 ∧ Q (.str (toString i)) g
  | _ => fun _ _ => False
theorem c_str : CallR X (.type "str") (rUpC X.K dStr) := cr_imp call_str_int fun x H Q ⟨ds, g, Qd, rl, rg, r, cl⟩ => by
  unfold dStr at r
  split at r
  · obtain ⟨v, rfl, h⟩ := rl1 rl
    cases h
    exact ⟨_, rfl, r.1, cl _ _ _ _ r.2 (.refl _) rg rfl⟩
  · exact r.elim
def dSum : List D → G → QD → Prop
  | [.ref a] => fun g Q => match g a with | some xs => (match intsD xs with | some ns => Q (.int ns.sum) g | none => False) | none => False
  | _ => fun _ _ => False
theorem c_sum (hc : X.calm = true) : CallR X (.builtin "sum") (rUpC X.K dSum) := cr_imp (cr_sum hc) fun x H Q ⟨ds, g, Qd, rl, rg, r, cl⟩ => by
  unfold dSum at r
  split at r
  · obtain ⟨v, rfl, h⟩ := rl1 rl
    obtain ⟨hc, rfl⟩ := h
    split at r
    · rename_i xs e
      split at r
      · rename_i ns e2
        obtain ⟨vs, hh, l⟩ := rg.lst hc e
        have := intsD_rep l e2
        subst this
        exact ⟨_, ns, rfl, .of hh, cl _ _ _ _ r (.refl _) rg rfl⟩
      · exact r.elim
    · exact r.elim
  · exact r.elim
def dAll : List D → G → QD → Prop
  | [.ref a] => fun g Q => match g a with | some xs => (match boolsD xs with | some ns => Q (.bl (ns.all id)) g | none => False) | none => False
  | _ => fun _ _ => False
theorem c_all (hc : X.calm = true) : CallR X (.builtin "all") (rUpC X.K dAll) := cr_imp (cr_all hc) fun x H Q ⟨ds, g, Qd, rl, rg, r, cl⟩ => by
  unfold dAll at r
  split at r
  · obtain ⟨v, rfl, h⟩ := rl1 rl
    obtain ⟨hc, rfl⟩ := h
    split at r
    · rename_i xs e
      split at r
      · rename_i ns e2
        obtain ⟨vs, hh, l⟩ := rg.lst hc e
        have := boolsD_rep l e2
        subst this
        exact ⟨_, ns, rfl, .of hh, cl _ _ _ _ r (.refl _) rg rfl⟩
      · exact r.elim
    · exact r.elim
  · exact r.elim
def dList : List D → G → QD → Prop
  | [.ref a] => fun g Q => match g a with | some xs => ∀ p, g p = none → Q (.ref p) (g.up p xs) | none => False
  | [.tup xs] => fun g Q => ∀ p, g p = none → Q (.ref p) (g.up p xs)
  | [.dfz xs] => fun g Q => xs.length ≤ sizeLine ∧ ∀ p, g p = none → Q (.ref p) (g.up p xs)
  | _ => fun _ _ => False
theorem c_list (hc : X.calm = true) : CallR X (.type "list") (rUpC X.K dList) := cr_imp (CallR.or call_list_of (call_list_frz hc)) fun x H Q ⟨ds, g, Qd, rl, rg, r, cl⟩ => by
  unfold dList at r
  split at r
  · obtain ⟨v, rfl, h⟩ := rl1 rl
    obtain ⟨hc, rfl⟩ := h
    split at r
    · rename_i xs e
      obtain ⟨vs, hh, l⟩ := rg.lst hc e
      exact .inl ⟨_, vs, rfl, .inl (.of hh), fun p hp => cl _ _ _ _ (r _ (rg.none hp)) (.new hp) (rg.new hp l) rep_ref⟩
    · exact r.elim
  · obtain ⟨v, rfl, p, vs, rfl, t, l⟩ := rl1 rl
    exact .inl ⟨_, vs, rfl, .inr t.sq, fun p hp => cl _ _ _ _ (r _ (rg.none hp)) (.new hp) (rg.new hp l) rep_ref⟩
  · obtain ⟨v, rfl, a, o, ks, rfl, hh, hk, rfl⟩ := rl1 rl
    exact .inr ⟨a, o, ks, rfl, hh, by simpa using r.1, fun p hp => cl _ _ _ _ (r.2 _ (rg.none hp)) (.new hp) (rg.new hp (keysD_rep hk)) rep_ref⟩
  · exact r.elim
def dTuple : List D → G → QD → Prop
  | [.ref a] => fun g Q => match g a with | some xs => Q (.tup xs) g | none => False
  | [.tup xs] => fun g Q => Q (.tup xs) g
  | _ => fun _ _ => False
theorem c_tuple : CallR X (.type "tuple") (rUpC X.K dTuple) := cr_imp call_tuple_of fun x H Q ⟨ds, g, Qd, rl, rg, r, cl⟩ => by
  unfold dTuple at r
  split at r
  · obtain ⟨v, rfl, h⟩ := rl1 rl
    obtain ⟨hc, rfl⟩ := h
    split at r
    · rename_i xs e
      obtain ⟨vs, hh, l⟩ := rg.lst hc e
      exact ⟨_, vs, rfl, .inl ⟨.of hh, fun p hp => cl _ _ _ _ r (.new hp) (rg.tup hp) ⟨p, vs, rfl, .inl upd_same, l.keep (.new hp)⟩⟩⟩
    · exact r.elim
  · obtain ⟨v, rfl, p, vs, rfl, t, l⟩ := rl1 rl
    exact ⟨_, vs, rfl, .inr ⟨t.sq, cl _ _ _ _ r (.refl _) rg ⟨p, vs, rfl, t, l⟩⟩⟩
  · exact r.elim
inductive Ty where
  | int | bool | str | list | tuple
  deriving DecidableEq
def Ty.nm : Ty → String
  | .int => "int"
  | .bool => "bool"
  | .str => "str"
  | .list => "list"
  | .tuple => "tuple"
def tyD : D → Option Ty
  | .non => none
  | .bl _ => some .bool
  | .int _ => some .int
  | .str _ => some .str
  | .tup _ => some .tuple
  | .ref _ => some .list
  | .scr _ => some .list
  | .exc _ => none
  | .emp => none
  | .dct _ => none
  | .dfz _ => none
  | .obj _ => none
def isTyO (t : Ty) : Option Ty → Bool
  | none => false
  | some .bool => decide (t = .bool) || decide (t = .int)
  | some u => decide (t = u)
def isTy (t : Ty) (d : D) : Bool := isTyO t (tyD d)
def knownD (g : G) : D → Prop
  | .ref a => (g a).isSome = true
  | .exc _ => False
  | .dct _ => False
  | .dfz _ => False
  | .obj _ => False
  | _ => True
def dIsi (ts : List Ty) : D → G → QD → Prop := fun d g Q => knownD g d ∧ Q (.bl (ts.any fun t => isTy t d)) g
def tyO : Option Ty → Value
  | none => .type "NoneType"
  | some t => .type t.nm
def tyV' : D → Value
  | .emp => .type "dict"
  | d => tyO (tyD d)
theorem tyx_of {H : Hp} {d : D} {v : V} {g : G} (rg : RepG X.K H g) (r : Rep X.K H d v) (k : knownD g d) : TyX X.K H v (tyV' d) := by
  cases d with
  | non => cases (show v = .non from r); exact .base .non
  | bl b => cases (show v = .bl b from r); exact .base (.bl b)
  | int b => cases (show v = .int b from r); exact .base (.int b)
  | str b => cases (show v = .str b from r); exact .base (.str b)
  | ref b =>
    obtain ⟨hc, rfl⟩ := r
    have k' : (g b).isSome = true := k
    obtain ⟨xs, e⟩ := Option.isSome_iff_exists.mp k'
    obtain ⟨vs, h, _⟩ := rg.lst hc e
    exact .base (.lst h)
  | scr b =>
    obtain ⟨a, rfl, ⟨o, h⟩ | ⟨o, its, n, h1, h2, _⟩⟩ := r
    · exact .base (.frz h)
    · exact .kList h1 h2
  | exc b => exact False.elim k
  | dct b => exact False.elim k
  | dfz b => exact False.elim k
  | obj b => exact False.elim k
  | emp =>
    obtain ⟨a, o, _, rfl, h⟩ := r
    exact .fDict h
  | tup b =>
    obtain ⟨a, vs, rfl, h | ⟨o, its, n, h1, h2, _⟩, _⟩ := r
    · exact .base (.tup h)
    · exact .kTuple h1 h2
theorem kit_all (t : Ty) (d : D) (K : PySem.W.Frag) : PySem.W.kitOne K (tyV' d) (.type t.nm) = some (isTy t d) := by
  have old : PySem.W.kitOne K (tyO (tyD d)) (.type t.nm) = some (isTy t d) := by
    unfold isTy
    generalize tyD d = o
    rcases o with _ | o
    · cases t <;> exact kit_ty (by decide +kernel)
    · cases o <;> cases t <;> exact kit_ty (by decide +kernel)
  cases d with
  | emp => cases t <;> exact kit_ty (by decide +kernel)
  | _ => exact old
theorem kit_any (K : PySem.W.Frag) (d : D) : ∀ ts : List Ty, PySem.W.kitAny K (tyV' d) (ts.map fun t => .type t.nm) = some (ts.any fun t => isTy t d)
  | [] => rfl
  | t :: ts => by
    simp only [List.map_cons, List.any_cons]
    unfold PySem.W.kitAny
    rw [kit_all t d K]
    cases isTy t d with
    | true => rfl
    | false => exact kit_any K d ts
end
end PP
namespace PP
open PySem PySem.Spec PyProof.Rows L2
abbrev DTI := XD → Env → G → (List D → (G → Prop) → G → Prop) → Prop
structure ItOk (K : PySem.W.Frag) (J : It) (H0 : Hp) (items : List D) (stay : G → Prop) : Prop where
  go : ∀ (i : Nat) (g : G) (H : Hp), i < items.length → TK H0 H → RepG K H g → stay g → J.go i H
  yld : ∀ (i : Nat) (g : G) (H : Hp) (x : V) (H' : Hp), i < items.length → TK H0 H → RepG K H g → stay g → J.yld i H x H' → ∃ d, items[i]? = some d ∧ Rep K H' d x ∧ TK H H' ∧ RepG K H' g
  stop : ∀ (i : Nat) (g : G) (H : Hp), items.length ≤ i → i ≤ items.length → TK H0 H → RepG K H g → stay g → J.stop i H
def upI (K : PySem.W.Frag) (C : Ex → Addr) (W : WX) (t : DTI) : TI := fun σ H R => ∃ (env : Env) (g : G) (Xd : XD) (Rd : List D → (G → Prop) → G → Prop), RepE K H env σ ∧ RepG K H g ∧ t Xd env g Rd ∧
  (∀ items stay g' J H', Rd items stay g' → TK H H' → RepG K H' g' → ItOk K J H' items stay → R J H') ∧ closX K C H Xd (fun c d H' => W c d σ H')
theorem pi_imp {X : Cx} {tg e : Expr} {t t' : TI} (h : PI X tg e t) (f : ∀ σ H Q, t' σ H Q → t σ H Q) : PI X tg e t' := ⟨fun pins s σ H Q I q => h.run pins s σ H Q I (f σ H Q q)⟩
def dOver : D → G → (List D → (G → Prop) → G → Prop) → Prop
  | .ref a => fun g R => match g a with | some xs => R xs (fun g' => g' a = some xs) g | none => False
  | .tup xs => fun g R => R xs (fun _ => True) g
  | .str z => fun g R => R (z.cps.toList.map fun c => D.str ⟨#[c]⟩) (fun _ => True) g
  | .dfz ks => fun g R => R ks (fun _ => True) g
  | _ => fun _ _ => False
def iAny (K : PySem.W.Frag) (tl : TE) : TI := fun σ H R => tl σ H fun x H1 => (∃ a xs, x = .ref a ∧ SqL K H1 a xs ∧ R (Itl K a) H1) ∨ (∃ a xs, x = .ref a ∧ SqT K H1 a xs ∧ R (Itt K a) H1) ∨ (∃ z, x = .str z ∧ R (Its z) H1) ∨ ∃ a o xs, x = .ref a ∧ H1 a = some (.frz o (dictO a xs)) ∧ R (Itf a o xs) H1
theorem itl_ok {K : PySem.W.Frag} {H0 : Hp} {a : Addr} {xs : List D} (hc : a % 2 = 0) : ItOk K (Itl K (a / 2)) H0 xs (fun g => g a = some xs) where
  go := fun i g H hi k r st => by
    obtain ⟨vs, h, l⟩ := r.lst hc st
    have hv : i < vs.length := by rw [l.length]; exact hi
    exact ⟨vs, vs[i], .of h, by simp [hv]⟩
  yld := fun i g H x H' hi k r st y => by
    obtain ⟨e, y⟩ := y
    subst e
    obtain ⟨vs, h, l⟩ := r.lst hc st
    obtain ⟨d, e1, rd⟩ := l.getv (y vs (.of h))
    exact ⟨d, e1, rd, .refl _, r⟩
  stop := fun i g H hi hi2 k r st => by
    obtain ⟨vs, h, l⟩ := r.lst hc st
    exact ⟨vs, .of h, by rw [l.length]; exact hi⟩
theorem itt_ok {K : PySem.W.Frag} {H0 : Hp} {a : Addr} {xs : List D} {vs : List V} (t : TupP K H0 a vs) (l : RepL K H0 xs vs) : ItOk K (Itt K a) H0 xs (fun _ => True) where
  go := fun i g H hi k r st => by
    have hv : i < vs.length := by rw [l.length]; exact hi
    exact ⟨vs, vs[i], (t.keep k).sq, by simp [hv]⟩
  yld := fun i g H x H' hi k r st y => by
    obtain ⟨e, y⟩ := y
    subst e
    obtain ⟨d, e1, rd⟩ := l.getv (y vs (t.keep k).sq)
    exact ⟨d, e1, rd.keep k, .refl _, r⟩
  stop := fun i g H hi hi2 k r st => ⟨vs, (t.keep k).sq, by rw [l.length]; exact hi⟩
theorem its_ok {K : PySem.W.Frag} {H0 : Hp} {z : Str} : ItOk K (Its z) H0 (z.cps.toList.map fun c => D.str ⟨#[c]⟩) (fun _ => True) where
  go := fun i g H hi k r st => by
    show i < z.cps.size
    simpa using hi
  yld := fun i g H x H' hi k r st y => by
    obtain ⟨e, c, hc, ex⟩ := y
    subst e ex
    refine ⟨.str ⟨#[c]⟩, ?_, rfl, .refl _, r⟩
    rw [List.getElem?_map]
    rw [← Array.getElem?_toList] at hc
    rw [hc] <;> rfl
  stop := fun i g H hi hi2 k r st => by
    show z.cps.size ≤ i
    simpa using hi
theorem itf_ok {K : PySem.W.Frag} {H0 : Hp} {a : Addr} {o : Obj} {xs : DX} (h : H0 a = some (.frz o (dictO a xs))) (kk : KeysOk K H0 xs) : ItOk K (Itf a o xs) H0 (xs.map fun x => keyD x.1) (fun _ => True) where
  go := fun i g H hi k r st => ⟨k.1 _ _ trivial h, by simpa using hi⟩
  yld := fun i g H x H' hi k r st y => by
    obtain ⟨e, y, hy, ex⟩ := y
    subst e ex
    exact ⟨keyD y.1, by rw [List.getElem?_map, hy] <;> rfl, keyD_rep (kk.keep k y (List.mem_of_getElem? hy)), .refl _, r⟩
  stop := fun i g H hi hi2 k r st => ⟨k.1 _ _ trivial h, by simpa using hi⟩
section
variable {X : Cx} {C : Ex → Addr} {W : WX} {tg e : Expr} {pos p : Pos} {ta : DTE} {tA : DTA}
theorem pi_any {tl : TE} (hl : PE X e tl) : PI X tg e (iAny X.K tl) := by
  refine ⟨fun pins s σ H R I h => thn (hl.run pins s σ H _ I h) fun v s1 ⟨x, H1, I1, r1, q1⟩ => ?_⟩
  rcases q1 with ⟨a, xs, ex, hq, q⟩ | ⟨a, xs, ex, hq, q⟩ | ⟨z, ex, q⟩ | ⟨a, o, xs, ex, hq, q⟩
  · subst ex; cases r1
    obtain ⟨its, _, pl, _⟩ := I1.list hq
    exact wpAny_pyIter_list pl.isList (pi_one (tk := s1.toks) I1 _ (turn_list a _) ⟨_, Heap.get?_push_size _ rfl, rfl, rfl⟩ q)
  · subst ex; cases r1
    obtain ⟨its, _, pl, _⟩ := I1.tuple hq
    exact wpAny_pyIter_tuple pl (pi_one (tk := s1.toks) I1 _ (turn_tuple a _) ⟨_, Heap.get?_push_size _ rfl, rfl, rfl⟩ q)
  · subst ex
    obtain ⟨t, rfl⟩ := r1
    by_cases hz : z.cps.all (· < 128) = true
    · exact wpAny_pyIter_ascii hz (pi_one (tk := s1.toks) I1 _ (turn_str _ z t _ (.inl rfl)) ⟨_, Heap.get?_push_size _ rfl, rfl, rfl⟩ q)
    · exact wpAny_pyIter_wide (by simpa using hz) (pi_one (tk := s1.toks) I1 _ (turn_str _ z t _ (.inr rfl)) ⟨_, Heap.get?_push_size _ rfl, rfl, rfl⟩ q)
  · subst ex; cases r1
    obtain ⟨hs, ho, hx, es, ep, hdt, he⟩ := frzR I1 hq
    refine iter_keys hs ho hx hdt (pi_one (tk := s1.toks) I1 _ (turn_frz (d := a) (o := o) (xs := xs) _ hdt) ⟨_, Heap.get?_push_size _ rfl, rfl, ?_⟩ q)
    rw [size_of_entries he]; rfl
def dIAny (te : DTE) : DTI := fun X env g R => te X env g fun d g1 => dOver d g1 R
theorem d_iAny (h : PE X e (up X.K C W ta)) : PI X tg e (upI X.K C W (dIAny ta)) := by
  refine pi_imp (pi_any h) fun σ H R ⟨env, g, Xd, Rd, re, rg, t, cl, cx⟩ => ?_
  refine ⟨env, g, Xd, _, re, rg, t, fun d g1 v H1 q k r rv => ?_, cx⟩
  dsimp only at q
  unfold dOver at q
  split at q
  · rename_i a
    split at q
    · rename_i xs e
      obtain ⟨hc, rv⟩ := rv
      obtain ⟨vs, hh, l⟩ := r.lst hc e
      exact .inl ⟨_, vs, rv, .of hh, cl _ _ _ _ _ q k r (itl_ok hc)⟩
    · exact q.elim
  · obtain ⟨a, vs, e, t, l⟩ := rv
    exact .inr (.inl ⟨a, vs, e, t.sq, cl _ _ _ _ _ q k r (itt_ok t l)⟩)
  · exact .inr (.inr (.inl ⟨_, rv, cl _ _ _ _ _ q k r its_ok⟩))
  · obtain ⟨a, o, xs, e, h, kk, rfl⟩ := rv
    exact .inr (.inr (.inr ⟨a, o, xs, e, h, cl _ _ _ _ _ q k r (itf_ok h kk)⟩))
  · exact q.elim
def rangeD (lo : Int) (n : Nat) : List D := (List.range n).map fun (i : Nat) => D.int (lo + i)
theorem itr_ok {K : PySem.W.Frag} {H0 : Hp} {lo : Int} {n : Nat} : ItOk K (Itr lo n) H0 (rangeD lo n) (fun _ => True) where
  go := fun i g H hi k r st => by
    show i < n
    simpa [rangeD] using hi
  yld := fun i g H x H' hi k r st y => by
    obtain ⟨e, ex⟩ := y
    subst e ex
    have hi' : i < n := by simpa [rangeD] using hi
    exact ⟨.int (lo + i), by simp [rangeD, hi'], rfl, .refl _, r⟩
  stop := fun i g H hi hi2 k r st => by
    show n ≤ i
    simpa [rangeD] using hi
def dRange1 : D → G → (List D → (G → Prop) → G → Prop) → Prop
  | .int j => fun g R => (-(2 ^ 62) ≤ j ∧ j < 2 ^ 62) ∧ R (rangeD 0 j.toNat) (fun _ => True) g
  | _ => fun _ _ => False
def dRange2 : D → D → G → (List D → (G → Prop) → G → Prop) → Prop
  | .int i, .int j => fun g R => (-(2 ^ 62) ≤ i ∧ i < 2 ^ 62 ∧ -(2 ^ 62) ≤ j ∧ j < 2 ^ 62) ∧ R (rangeD i (j - i).toNat) (fun _ => True) g
  | _, _ => fun _ _ => False
def dI1 (r : D → G → (List D → (G → Prop) → G → Prop) → Prop) (ta : DTE) : DTI := fun X env g R => ta X env g fun d g1 => r d g1 R
def dI2 (r : D → D → G → (List D → (G → Prop) → G → Prop) → Prop) (ta tb : DTE) : DTI := fun X env g R => ta X env g fun d g1 => tb X env g1 fun d2 g2 => r d d2 g2 R
variable {a b : Expr} {tb : DTE}
theorem d_range1 (hg : Gl X "range") (hm : X.mg "range" = none) (ha : PE X a (up X.K C W ta)) (hs : starEach [a] X.env = [(false, eval a X.env)]) : PI X tg (.Call (.Name "range" p) [a] [] pos) (upI X.K C W (dI1 dRange1 ta)) := by
  refine pi_imp (pi_range1 hg hm (pa_cons ha pa_nil hs) hs) fun σ H R ⟨env, g, Xd, Rd, re, rg, t, cl, cx⟩ => ?_
  refine ⟨env, g, Xd, _, re, rg, t, fun d g1 v H1 q k r rv => ?_, cx⟩
  dsimp only at q
  unfold dRange1 at q
  split at q
  · cases (show v = .int _ from rv)
    exact ⟨_, rfl, q.1.1, q.1.2, cl _ _ _ _ _ q.2 k r itr_ok⟩
  · exact q.elim
theorem d_range2 (hg : Gl X "range") (hm : X.mg "range" = none) (ha : PE X a (up X.K C W ta)) (hb : PE X b (up X.K C W tb)) (hs : starEach [a, b] X.env = [(false, eval a X.env), (false, eval b X.env)]) (hs2 : starEach [b] X.env = [(false, eval b X.env)]) :
    PI X tg (.Call (.Name "range" p) [a, b] [] pos) (upI X.K C W (dI2 dRange2 ta tb)) := by
  refine pi_imp (pi_range2 hg hm (pa_cons ha (pa_cons hb pa_nil hs2) (by rw [hs, hs2])) hs hs2) fun σ H R ⟨env, g, Xd, Rd, re, rg, t, cl, cx⟩ => ?_
  refine ⟨env, g, Xd, _, re, rg, t, fun d g1 v H1 q k r rv => ?_, cx⟩
  refine ⟨env, g1, Xd, _, re.keep k, r, q, fun d2 g2 v2 H2 q2 k2 r2 rv2 => ?_, cx.at k⟩
  dsimp only at q2
  unfold dRange2 at q2
  split at q2
  · cases (show v = .int _ from rv)
    cases (show v2 = .int _ from rv2)
    exact ⟨_, _, rfl, q2.1, cl _ _ _ _ _ q2.2 (k.trans k2) r2 itr_ok⟩
  · exact q2.elim
def dRev : D → G → (List D → (G → Prop) → G → Prop) → Prop
  | .ref a => fun g R => match g a with | some xs => R xs.reverse (fun g' => g' a = some xs) g | none => False
  | .tup xs => fun g R => R xs.reverse (fun _ => True) g
  | _ => fun _ _ => False
theorem rev_at {α : Type} {xs : List α} {i : Nat} (hi : i < xs.length) : xs[xs.length - 1 - i]? = xs.reverse[i]? := by
  rw [List.getElem?_reverse hi]
theorem itv_ok {K : PySem.W.Frag} {H0 : Hp} {a : Addr} {xs : List D} (hc : a % 2 = 0) : ItOk K (Itv K (a / 2) xs.length) H0 xs.reverse (fun g => g a = some xs) where
  go := fun i g H hi k r st => by
    obtain ⟨vs, h, l⟩ := r.lst hc st
    have hi' : i < xs.length := by simpa using hi
    have hv : xs.length - 1 - i < vs.length := by rw [l.length]; omega
    exact ⟨hi', vs, vs[xs.length - 1 - i], .of h, by simp [hv]⟩
  yld := fun i g H x H' hi k r st y => by
    obtain ⟨e, y⟩ := y
    subst e
    obtain ⟨vs, h, l⟩ := r.lst hc st
    obtain ⟨d, e1, rd⟩ := l.getv (y vs (.of h))
    rw [rev_at (by simpa using hi)] at e1
    exact ⟨d, e1, rd, .refl _, r⟩
  stop := fun i g H hi hi2 k r st => by
    show xs.length ≤ i
    simpa using hi
theorem itvT_ok {K : PySem.W.Frag} {H0 : Hp} {a : Addr} {xs : List D} {vs : List V} (t : TupP K H0 a vs) (l : RepL K H0 xs vs) : ItOk K (RT.ItvT K a xs.length) H0 xs.reverse (fun _ => True) where
  go := fun i g H hi k r st => by
    have hi' : i < xs.length := by simpa using hi
    have hv : xs.length - 1 - i < vs.length := by rw [l.length]; omega
    exact ⟨hi', vs, vs[xs.length - 1 - i], (t.keep k).sq, by simp [hv]⟩
  yld := fun i g H x H' hi k r st y => by
    obtain ⟨e, y⟩ := y
    subst e
    obtain ⟨d, e1, rd⟩ := l.getv (y vs (t.keep k).sq)
    rw [rev_at (by simpa using hi)] at e1
    exact ⟨d, e1, rd.keep k, .refl _, r⟩
  stop := fun i g H hi hi2 k r st => by
    show xs.length ≤ i
    simpa using hi
theorem d_rev (hg : Gl X "reversed") (hm : X.mg "reversed" = none) (ha : PE X a (up X.K C W ta)) (hs : starEach [a] X.env = (false, eval a X.env) :: starEach [] X.env) : PI X tg (.Call (.Name "reversed" p) [a] [] pos) (upI X.K C W (dI1 dRev ta)) := by
  refine pi_imp (RT.pi_revA hg hm ha hs) fun σ H R ⟨env, g, Xd, Rd, re, rg, t, cl, cx⟩ => ?_
  refine ⟨env, g, Xd, _, re, rg, t, fun d g1 v H1 q k r rv => ?_, cx⟩
  dsimp only at q
  unfold dRev at q
  split at q
  · split at q
    · rename_i xs e
      obtain ⟨hc, rv⟩ := rv
      obtain ⟨vs, hh, l⟩ := r.lst hc e
      refine ⟨_, vs, rv, .inl ⟨.of hh, ?_⟩⟩
      rw [l.length]
      exact cl _ _ _ _ _ q k r (itv_ok hc)
    · exact q.elim
  · obtain ⟨a, vs, e, t, l⟩ := rv
    refine ⟨a, vs, e, .inr ⟨t.sq, ?_⟩⟩
    rw [l.length]
    exact cl _ _ _ _ _ q k r (itvT_ok t l)
  · exact q.elim
def zipD (xs ys : List D) : List D := List.zipWith (fun x y => D.tup [x, y]) xs ys
theorem itz_ok {K : PySem.W.Frag} {H0 : Hp} {a b : Addr} {xs ys : List D} (hc : a % 2 = 0) (hc2 : b % 2 = 0) : ItOk K (Itz K (a / 2) (b / 2)) H0 (zipD xs ys) (fun g => g a = some xs ∧ g b = some ys) where
  go := fun i g H hi k r st => by
    obtain ⟨vs, h, l⟩ := r.lst hc st.1
    obtain ⟨ws, h2, l2⟩ := r.lst hc2 st.2
    have hi' : i < xs.length ∧ i < ys.length := by simp [zipD] at hi; omega
    have hv : i < vs.length := by rw [l.length]; omega
    have hw : i < ws.length := by rw [l2.length]; omega
    exact ⟨vs, ws, vs[i], ws[i], .of h, .of h2, by simp [hv], by simp [hw]⟩
  yld := fun i g H x H' hi k r st y => by
    obtain ⟨vs, h, l⟩ := r.lst hc st.1
    obtain ⟨ws, h2, l2⟩ := r.lst hc2 st.2
    obtain ⟨T, u, w, ex, hT, eH, y1, y2⟩ := y
    obtain ⟨d, e1, rd⟩ := l.getv (y1 vs (.of h))
    obtain ⟨d', e2, rd'⟩ := l2.getv (y2 ws (.of h2))
    subst ex eH
    refine ⟨.tup [d, d'], ?_, ⟨T, [u, w], rfl, .inl upd_same, ⟨u, [w], rfl, rd.keep (.new hT), ⟨w, [], rfl, rd'.keep (.new hT), rfl⟩⟩⟩, .new hT, r.tup hT⟩
    simp [zipD, List.getElem?_zipWith, e1, e2]
  stop := fun i g H hi hi2 k r st => by
    obtain ⟨vs, h, l⟩ := r.lst hc st.1
    obtain ⟨ws, h2, l2⟩ := r.lst hc2 st.2
    refine ⟨vs, ws, .of h, .of h2, ?_⟩
    rw [l.length, l2.length]
    simp [zipD] at hi
    omega
theorem itzT_ok {K : PySem.W.Frag} {H0 : Hp} {a b : Addr} {xs ys : List D} {vs ws : List V} (t : TupP K H0 a vs) (l : RepL K H0 xs vs) (t2 : TupP K H0 b ws) (l2 : RepL K H0 ys ws) : ItOk K (RZ.ItzT K a b) H0 (zipD xs ys) (fun _ => True) where
  go := fun i g H hi k r st => by
    have hi' : i < xs.length ∧ i < ys.length := by simp [zipD] at hi; omega
    have hv : i < vs.length := by rw [l.length]; omega
    have hw : i < ws.length := by rw [l2.length]; omega
    exact ⟨vs, ws, vs[i], ws[i], (t.keep k).sq, (t2.keep k).sq, by simp [hv], by simp [hw]⟩
  yld := fun i g H x H' hi k r st y => by
    obtain ⟨T, u, w, ex, hT, eH, y1, y2⟩ := y
    obtain ⟨d, e1, rd⟩ := l.getv (y1 vs (t.keep k).sq)
    obtain ⟨d', e2, rd'⟩ := l2.getv (y2 ws (t2.keep k).sq)
    subst ex eH
    have k' := k.trans (TK.new (o := .tup [u, w]) hT)
    refine ⟨.tup [d, d'], ?_, ⟨T, [u, w], rfl, .inl upd_same, ⟨u, [w], rfl, rd.keep k', ⟨w, [], rfl, rd'.keep k', rfl⟩⟩⟩, .new hT, r.tup hT⟩
    simp [zipD, List.getElem?_zipWith, e1, e2]
  stop := fun i g H hi hi2 k r st => by
    refine ⟨vs, ws, (t.keep k).sq, (t2.keep k).sq, ?_⟩
    rw [l.length, l2.length]
    simp [zipD] at hi
    omega
def dZip : D → D → G → (List D → (G → Prop) → G → Prop) → Prop
  | .ref a, .ref b => fun g R => match g a, g b with | some xs, some ys => R (zipD xs ys) (fun g' => g' a = some xs ∧ g' b = some ys) g | _, _ => False
  | .tup xs, .tup ys => fun g R => R (zipD xs ys) (fun _ => True) g
  | _, _ => fun _ _ => False
theorem d_zip {elts : List Expr} {kk : Nat} {tpos : Pos} (hg : Gl X "zip") (hm : X.mg "zip" = none) (ha : PE X a (up X.K C W ta)) (hb : PE X b (up X.K C W tb)) (hs : starEach [a, b] X.env = [(false, eval a X.env), (false, eval b X.env)]) (hs2 : starEach [b] X.env = [(false, eval b X.env)]) :
    PI X (.Tuple elts kk tpos) (.Call (.Name "zip" p) [a, b] [] pos) (upI X.K C W (dI2 dZip ta tb)) := by
  refine pi_imp (RZ.pi_zipA hg hm (pa_cons ha (pa_cons hb pa_nil hs2) (by rw [hs, hs2])) (by rw [hs, hs2]) (by rw [hs2]; rfl)) fun σ H R ⟨env, g, Xd, Rd, re, rg, t, cl, cx⟩ => ?_
  refine ⟨env, g, Xd, _, re, rg, t, fun d g1 v H1 q k r rv => ?_, cx⟩
  refine ⟨env, g1, Xd, _, re.keep k, r, q, fun d2 g2 v2 H2 q2 k2 r2 rv2 => ?_, cx.at k⟩
  dsimp only at q2
  unfold dZip at q2
  have kk := k.trans k2
  split at q2
  · obtain ⟨hc, rfl⟩ := rv
    obtain ⟨hc2, rfl⟩ := rv2
    split at q2
    · rename_i xs ys e1 e2
      obtain ⟨vs, h1, l1⟩ := r2.lst hc e1
      obtain ⟨ws, h2, l2⟩ := r2.lst hc2 e2
      exact ⟨_, _, vs, ws, rfl, .inl ⟨.of h1, .of h2, cl _ _ _ _ _ q2 kk r2 (itz_ok hc hc2)⟩⟩
    · exact q2.elim
  · obtain ⟨a1, vs, e1, t1, l1⟩ := rv.keep k2
    obtain ⟨a2, ws, e2, t2, l2⟩ := rv2
    subst e1 e2
    exact ⟨_, _, vs, ws, rfl, .inr ⟨t1.sq, t2.sq, cl _ _ _ _ _ q2 kk r2 (itzT_ok t1 l1 t2 l2)⟩⟩
  · exact q2.elim
end
end PP
namespace PP
open PySem PySem.Spec PyProof.Rows L2
structure DEnds where
  nx : Env → G → Prop
  rt : QD
  ex : Ex → Env → G → Prop
abbrev DTS := DEnds → Env → G → Prop
def DEnds.at (E : DEnds) (env : Env) : XD := fun n g => E.ex n env g
section
variable (K : PySem.W.Frag) (C : Ex → Addr)
def closN (H : Hp) (N : Env → G → Prop) (n : List (Option V) → Hp → Prop) : Prop := ∀ env g σ H', N env g → TK H H' → RepE K H' env σ → RepG K H' g → n σ H'
def closXE (H : Hp) (x : Ex → Env → G → Prop) (W : WX) : Prop := ∀ n env g σ H', x n env g → TK H H' → RepE K H' env σ → RepG K H' g → W (.ref (C n)) none σ H'
def upS (W : WX) (t : DTS) : TS := fun D σ H => ∃ (env : Env) (g : G) (E : DEnds), RepE K H env σ ∧ RepG K H g ∧ t E env g ∧ closN K H E.nx D.nx ∧ clos K H E.rt D.rt ∧ closXE K C H E.ex W
end
section
variable {K : PySem.W.Frag} {C : Ex → Addr} {H H1 : Hp} {W : WX}
theorem closN.at {N n} (k : TK H H1) (c : closN K H N n) : closN K H1 N n := fun env g σ H' q t r1 r2 => c env g σ H' q (k.trans t) r1 r2
theorem closXE.at {N} (k : TK H H1) (c : closXE K C H N W) : closXE K C H1 N W := fun m env g σ H' q t r1 r2 => c m env g σ H' q (k.trans t) r1 r2
theorem closXE.e {x : Ex → Env → G → Prop} {env : Env} {σ : List (Option V)} (re : RepE K H env σ) (c : closXE K C H x W) : closX K C H (fun n g => x n env g) (fun c d H' => W c d σ H') := fun n g H' q k r => c n env g σ H' q k (re.keep k) r
end
def dNop : DTS := fun E env g => E.nx env g
def dSeq (t u : DTS) : DTS := fun E env g => t { E with nx := fun env' g' => u E env' g' } env g
def dExpr (te : DTE) : DTS := fun E env g => te (E.at env) env g fun _ g1 => E.nx env g1
def dRet (te : DTE) : DTS := fun E env g => te (E.at env) env g E.rt
def dRetN : DTS := fun E _ g => E.rt .non g
def dIf (tc : DTT) (t u : DTS) : DTS := fun E env g => tc (E.at env) env g fun b g1 => if b = true then t E env g1 else u E env g1
def setAll : Env → List Nat → List D → Env
  | env, i :: is, d :: ds => setAll (env.set i (some d)) is ds
  | env, _, _ => env
inductive TgD where
  | n (i : Nat)
  | t (is : List Nat)
def gD : TgD → D → Env → G → (Env → G → Prop) → Prop
  | .n i, d, env, g, N => N (env.set i (some d)) g
  | .t is, .tup ds, env, g, N => ds.length = is.length ∧ N (setAll env is ds) g
  | .t is, .ref a, env, g, N => match g a with | some ds => ds.length = is.length ∧ N (setAll env is ds) g | none => False
  | _, _, _, _, _ => False
def setV : List (Option V) → List Nat → List V → List (Option V)
  | σ, i :: is, v :: vs => setV (σ.set i (some v)) is vs
  | σ, _, _ => σ
def TgD.slots : TgD → List Nat
  | .n i => [i]
  | .t is => is
def closG (K : PySem.W.Frag) (tg : TgD) (σ : List (Option V)) (H : Hp) (N : Env → G → Prop) (n : List (Option V) → Hp → Prop) : Prop := ∀ env g σ' H', N env g → TK H H' → RepE K H' env σ' → RepG K H' g → (∃ vs, σ' = setV σ tg.slots vs) → n σ' H'
def gUp (K : PySem.W.Frag) (tg : TgD) : TG := fun v σ H Q => ∃ d env g N, Rep K H d v ∧ RepE K H env σ ∧ RepG K H g ∧ gD tg d env g N ∧ closG K tg σ H N Q
theorem closN.g {K : PySem.W.Frag} {tg : TgD} {σ : List (Option V)} {H : Hp} {N n} (h : closN K H N n) : closG K tg σ H N n := fun env g σ' H' q k r1 r2 _ => h env g σ' H' q k r1 r2
def dAsg (tg : TgD) (te : DTE) : DTS := fun E env g => te (E.at env) env g fun d g1 => gD tg d env g1 E.nx
def dPar (i j : Nat) (ta tb : DTE) : DTS := fun E env g => ta (E.at env) env g fun d g1 => tb (E.at env) env g1 fun d2 g2 => E.nx ((env.set i (some d)).set j (some d2)) g2
def dSet : D → D → D → G → (G → Prop) → Prop
  | .ref a, .int k, v, g, N => match g a with | some xs => (match ixN xs.length k with | some j => N (g.up a (xs.set j v)) | none => False) | none => False
  | .dct c, .tup xs, _, g, N => ∃ (ns : List Int) (ks : List D), xs = ns.map D.int ∧ g c = some ks ∧ ks.length ≤ sizeLine ∧ ∀ ks', (tD ns ∈ ks → ks' = ks) → (tD ns ∉ ks → ks' = ks ++ [tD ns]) → N (g.up c ks')
  | _, _, _, _, _ => False
def dPut (to ti te : DTE) : DTS := fun E env g => te (E.at env) env g fun v g1 => to (E.at env) env g1 fun o g2 => ti (E.at env) env g2 fun i g3 => dSet o i v g3 fun g4 => E.nx env g4
def whileD (tc : DTT) (tb : DTS) (E : DEnds) (W : Nat → Env → G → Prop) : Prop := ∀ m env g, W m env g → tc (E.at env) env g fun b g1 => if b = true then tb { E with nx := fun env' g' => ∃ m', m' < m ∧ W m' env' g' } env g1 else E.nx env g1
def dWhile (tc : DTT) (tb : DTS) : DTS := fun E env g => ∃ W : Nat → Env → G → Prop, (∃ m, W m env g) ∧ whileD tc tb E W
def forD (stay : G → Prop) (body : D → Env → G → (Env → G → Prop) → Prop) (fin : Env → G → Prop) : List D → Env → G → Prop
  | [], env, g => stay g ∧ fin env g
  | x :: xs, env, g => stay g ∧ body x env g fun env' g' => forD stay body fin xs env' g'
def dFor (ti : DTI) (tg : TgD) (tb : DTS) : DTS := fun E env g => ti (E.at env) env g fun items stay g1 => forD stay (fun x env g N => gD tg x env g fun env1 g1 => tb { E with nx := N } env1 g1) E.nx items env g1
section
variable {X : Cx} {C : Ex → Addr} {W : WX} {st : Stmt} {sts rest : List Stmt} {e a b : Expr} {pos : Pos} {t u : DTS} {te ta tb to ti : DTE} {tc : DTT}
theorem s_nil : PSs X [] (upS X.K C W dNop) := pss_imp pss_nil fun D σ H ⟨env, g, E, re, rg, t, cn, cr, cx⟩ => cn _ _ _ _ t (.refl _) re rg
theorem s_cons (h1 : PS X st (upS X.K C W t)) (h2 : PSs X rest (upS X.K C W u)) : PSs X (st :: rest) (upS X.K C W (dSeq t u)) := by
  refine pss_imp (pss_cons h1 h2) fun D σ H ⟨env, g, E, re, rg, q, cn, cr, cx⟩ => ?_
  refine ⟨env, g, { E with nx := fun env' g' => u E env' g' }, re, rg, q, fun env1 g1 σ1 H1 q1 k r1 r2 => ?_, cr, cx⟩
  exact ⟨env1, g1, E, r1, r2, q1, cn.at k, cr.at k, cx.at k⟩
theorem s_expr (h : PE X e (up X.K C W te)) (hs : swapsWith e none pos.line X.env = pure false) : PS X (.Expr e pos) (upS X.K C W (dExpr te)) := by
  refine ps_imp (ps_expr h hs) fun D σ H ⟨env, g, E, re, rg, q, cn, cr, cx⟩ => ?_
  exact ⟨env, g, _, _, re, rg, q, fun d g1 v H1 q1 k r rv => cn _ _ _ _ q1 k (re.keep k) r, cx.e re⟩
theorem s_ret (h : PE X e (up X.K C W te)) : PS X (.Return (some e) pos) (upS X.K C W (dRet te)) := by
  refine ps_imp (ps_ret h) fun D σ H ⟨env, g, E, re, rg, q, cn, cr, cx⟩ => ?_
  exact ⟨env, g, _, _, re, rg, q, cr, cx.e re⟩
theorem s_retN : PS X (.Return none pos) (upS X.K C W dRetN) := ps_imp ps_retN fun D σ H ⟨env, g, E, re, rg, q, cn, cr, cx⟩ => cr _ _ _ _ q (.refl _) rg rfl
theorem s_if (hc : PT X e (upT X.K C W tc)) (h1 : PSs X sts (upS X.K C W t)) (h2 : PSs X rest (upS X.K C W u)) : PS X (.If e sts rest pos) (upS X.K C W (dIf tc t u)) := by
  refine ps_imp (ps_if hc h1 h2) fun D σ H ⟨env, g, E, re, rg, q, cn, cr, cx⟩ => ?_
  refine ⟨env, g, _, _, re, rg, q, fun b g1 H1 q1 k r => ?_, cx.e re⟩
  cases b with
  | true => rw [if_pos rfl] at q1 ⊢; exact ⟨env, g1, E, re.keep k, r, q1, cn.at k, cr.at k, cx.at k⟩
  | false => rw [if_neg Bool.false_ne_true] at q1 ⊢; exact ⟨env, g1, E, re.keep k, r, q1, cn.at k, cr.at k, cx.at k⟩
theorem pg_imp {tg : Expr} {t t' : TG} (h : PG X tg t) (f : ∀ v σ H Q, t' v σ H Q → t v σ H Q) : PG X tg t' := ⟨fun pins s σ H v u Q I r q => h.run pins s σ H v u Q I r (f v σ H Q q)⟩
theorem g_name {i : Nat} {x : Str} (hN : X.N.Nodup) (hi : X.N[i]? = some x) (hx : Loc X.env.scope x) (hf : X.fn x = true ∨ X.env.scope.names.lookup x = some .local) : PG X (.Name x pos) (gUp X.K (.n i)) :=
  pg_imp (pg_name hN hi hx hf) fun v σ H Q ⟨d, env, g, N, rv, re, rg, q, cl⟩ => cl _ _ _ _ q (.refl _) (re.set rv) rg ⟨[v], rfl⟩
def gNames (is : List Nat) : TGs := fun vs σ H Q => vs.length = is.length ∧ Q (setV σ is vs) H
theorem pgs_imp {ts : List Expr} {t t' : TGs} (h : PGs X ts t) (f : ∀ v σ H Q, t' v σ H Q → t v σ H Q) : PGs X ts t' := ⟨fun pins s σ H v u Q I r q => h.run pins s σ H v u Q I r (f v σ H Q q)⟩
theorem gs_nil : PGs X [] (gNames []) := pgs_imp pgs_nil fun vs σ H Q ⟨h, q⟩ => by
  cases vs with
  | nil => exact ⟨rfl, q⟩
  | cons v vs => cases h
theorem gs_cons {i : Nat} {is : List Nat} {x : Str} {es : List Expr} {p : Pos} (h1 : PG X (.Name x p) (gName i)) (h2 : PGs X es (gNames is)) (hs : (assignEach (.Name x p :: es) X.env).map (·.2) = assign (.Name x p) X.env :: (assignEach es X.env).map (·.2)) : PGs X (.Name x p :: es) (gNames (i :: is)) :=
  pgs_imp (pgs_cons h1 h2 hs) fun vs σ H Q ⟨h, q⟩ => by
    cases vs with
    | nil => cases h
    | cons v vs => exact ⟨v, vs, rfl, by simpa using h, q⟩
theorem setAll_rep {K : PySem.W.Frag} {H : Hp} : ∀ {is : List Nat} {ds : List D} {vs : List V} {env : Env} {σ : List (Option V)}, RepE K H env σ → RepL K H ds vs → RepE K H (setAll env is ds) (setV σ is vs)
  | [], ds, vs, env, σ, h, r => by simpa [setAll, setV] using h
  | i :: is, [], vs, env, σ, h, r => by cases (show vs = [] from r); simpa [setAll, setV] using h
  | i :: is, d :: ds, vs, env, σ, h, ⟨v, t, e, rv, rl⟩ => by
    subst e
    show RepE K H (setAll (env.set i (some d)) is ds) (setV (σ.set i (some v)) is t)
    exact setAll_rep (h.set rv) rl
theorem PG.or {tg : Expr} {t t' : TG} (h : PG X tg t) (h' : PG X tg t') : PG X tg (fun v σ H Q => t v σ H Q ∨ t' v σ H Q) := ⟨fun pins s σ H v u Q I r q => q.elim (h.run pins s σ H v u Q I r) (h'.run pins s σ H v u Q I r)⟩
theorem g_tup {es : List Expr} {k : Nat} {is : List Nat} (hc : X.calm = true) (h : PGs X es (gNames is)) (hn : (assignEach es X.env).length = is.length) (hst : (assignEach es X.env).findIdx? (·.1) = none) : PG X (.Tuple es k pos) (gUp X.K (.t is)) := by
  refine pg_imp (PG.or (pg_tup hc h hn hst) (pg_lst hc h hn hst)) fun v σ H Q ⟨d, env, g, N, rv, re, rg, q, cl⟩ => ?_
  unfold gD at q
  split at q
  · rename_i z; cases z
  · rename_i z
    cases z
    obtain ⟨a, vs, e, t, l⟩ := rv
    exact .inl ⟨a, vs, e, t.sq, by rw [l.length]; exact q.1, by rw [l.length]; exact q.1, cl _ _ _ _ q.2 (.refl _) (setAll_rep re l) rg ⟨_, rfl⟩⟩
  · rename_i z
    cases z
    split at q
    · rename_i ds e
      obtain ⟨hc0, rv⟩ := rv
      obtain ⟨vs, h, l⟩ := rg.lst hc0 e
      exact .inr ⟨_, vs, rv, .of h, by rw [l.length]; exact q.1, by rw [l.length]; exact q.1, cl _ _ _ _ q.2 (.refl _) (setAll_rep re l) rg ⟨_, rfl⟩⟩
    · exact q.elim
  · exact q.elim
theorem s_asg {tg : Expr} {tgd : TgD} (h : PE X e (up X.K C W te)) (hg : PG X tg (gUp X.K tgd)) (hs : swapsWithSole [tg] e pos.line X.env = pure false) (hw : swappedStores [tg] e X.env = pure none) (h1 : (assignEach [tg] X.env).map (·.2) = [assign tg X.env]) : PS X (.Assign [tg] e pos) (upS X.K C W (dAsg tgd te)) := by
  refine ps_imp (ps_asg h hg hs hw h1) fun D σ H ⟨env, g, E, re, rg, q, cn, cr, cx⟩ => ?_
  refine ⟨env, g, _, _, re, rg, q, fun d g1 v H1 q1 k r rv => ?_, cx.e re⟩
  exact ⟨d, env, g1, E.nx, rv, re.keep k, r, q1, (cn.at k).g⟩
theorem s_set {i : Nat} {x : Str} {p : Pos} (hN : X.N.Nodup) (hi : X.N[i]? = some x) (hx : Loc X.env.scope x) (h : PE X e (up X.K C W te)) (hs : swapsWith e (some (.Name x p)) pos.line X.env = pure false) (hf : X.fn x = true ∨ X.env.scope.names.lookup x = some .local) : PS X (.Assign [.Name x p] e pos) (upS X.K C W (dAsg (.n i) te)) := by
  refine ps_imp (ps_set hN hi hx h hs hf) fun D σ H ⟨env, g, E, re, rg, q, cn, cr, cx⟩ => ?_
  refine ⟨env, g, _, _, re, rg, q, fun d g1 v H1 q1 k r rv => ?_, cx.e re⟩
  exact cn _ _ _ _ q1 k ((re.keep k).set rv) r
theorem s_par {i j : Nat} {x y : Str} {px py pt : Pos} {kt k2 pt2} (hc : X.calm = true) (hN : X.N.Nodup) (hi : X.N[i]? = some x) (hj : X.N[j]? = some y) (hij : i ≠ j)
    (hx : X.env.scope.names.lookup x = some .local) (hy : X.env.scope.names.lookup y = some .local) (ha : PE X a (up X.K C W ta)) (hb : PE X b (up X.K C W tb)) (ka : starEach [a, b] X.env = (false, eval a X.env) :: starEach [b] X.env) (kb : starEach [b] X.env = (false, eval b X.env) :: starEach [] X.env)
    (hw : swappedStores [.Tuple [.Name x px, .Name y py] kt pt] (.Tuple [a, b] k2 pt2) X.env = pure (some [x, y]))
    (hs : swapsWithSole [.Tuple [.Name x px, .Name y py] kt pt] (.Tuple [a, b] k2 pt2) pos.line X.env = pure false) : PS X (.Assign [.Tuple [.Name x px, .Name y py] kt pt] (.Tuple [a, b] k2 pt2) pos) (upS X.K C W (dPar i j ta tb)) := by
  refine ps_imp (ps_par hc hN hi hj hij hx hy (pa_cons ha (pa_cons hb pa_nil kb) ka) hw hs) fun D σ H ⟨env, g, E, re, rg, q, cn, cr, cx⟩ => ?_
  refine ⟨env, g, _, _, re, rg, q, fun d g1 v H1 q1 k r rv => ?_, cx.e re⟩
  refine ⟨env, g1, _, _, re.keep k, r, q1, fun d2 g2 v2 H2 q2 k2 r2 rv2 => ?_, (cx.at k).e (re.keep k)⟩
  exact ⟨v, v2, rfl, cn _ _ _ _ q2 (k.trans k2) (((re.keep (k.trans k2)).set (rv.keep k2)).set rv2) r2⟩
theorem s_sub {tp : Pos} (hu : X.A.units + 1 < cLine) (ho : PE X a (up X.K C W to)) (hi : PE X b (up X.K C W ti)) (h : PE X e (up X.K C W te))
    (ha : ∀ v, assign (.Subscript a b tp) X.env v = (do
      let ov ← holding [v] (eval a X.env)
      let iv ← holding [v, ov] (eval b X.env)
      standAt tp
      holding [v, ov, iv] (setItem ov iv v)
      release [v, ov, iv] []))
    (hs : swapsWithSole [.Subscript a b tp] e pos.line X.env = pure false) (hw : swappedStores [.Subscript a b tp] e X.env = pure none) (h1 : (assignEach [.Subscript a b tp] X.env).map (·.2) = [assign (.Subscript a b tp) X.env]) : PS X (.Assign [.Subscript a b tp] e pos) (upS X.K C W (dPut to ti te)) := by
  refine ps_imp (ps_asg h (pg_sub ho hi (set_both hu) ha) hs hw h1) fun D σ H ⟨env, g, E, re, rg, q, cn, cr, cx⟩ => ?_
  refine ⟨env, g, _, _, re, rg, q, fun d g1 v H1 q1 k r rv => ?_, cx.e re⟩
  refine ⟨env, g1, _, _, re.keep k, r, q1, fun o g2 ov H2 q2 k2 r2 ro => ?_, (cx.at k).e (re.keep k)⟩
  refine ⟨env, g2, _, _, (re.keep k).keep k2, r2, q2, fun i g3 iv H3 q3 k3 r3 ri => ?_, ((cx.at k).at k2).e ((re.keep k).keep k2)⟩
  have q3 : dSet o i d g3 (fun g4 => E.nx env g4) := q3
  unfold dSet at q3
  split at q3
  · rename_i p kk
    split at q3
    · rename_i xs e1
      split at q3
      · rename_i j e2
        obtain ⟨hc0, ro⟩ := ro
        obtain ⟨vs, hh, l⟩ := r3.lst hc0 e1
        refine .inl ⟨_, vs, _, j, ro, ri, hh, by rw [l.length]; exact e2, ?_⟩
        have kk := (k.trans k2).trans k3
        exact cn _ _ _ _ q3 (kk.trans (.set hh)) (re.keep (kk.trans (.set hh))) (r3.put hc0 hh (l.set (rv.keep (k2.trans k3)) j))
      · exact q3.elim
    · exact q3.elim
  · rename_i c xs
    obtain ⟨ns, ks, rfl, e, hl, q⟩ := q3
    obtain ⟨hc0, ro⟩ := ro
    obtain ⟨p, vs, ri, t, l⟩ := ri
    obtain ⟨dx, h1, h2, rfl⟩ := r3.dct hc0 e
    rw [keys_rep l] at t
    refine .inr ⟨_, p, dx, ns, ro, ri, h1, h2, t, by simpa using hl, fun hx r => ?_⟩
    have kk := (k.trans k2).trans k3
    have mem := at_mem (xs := dx) (ns := ns)
    have em := stored_map (xs := dx) (ns := ns) (b := p) (v := r)
    exact cn _ _ _ _ (q ((storedH dx (tK ns) p r).map fun x => keyD x.1) (fun z => by rw [em, if_pos (mem.mpr z)]) (fun z => by rw [em, if_neg fun w => z (mem.mp w)])) (kk.trans (.setX hx h1)) (re.keep (kk.trans (.setX hx h1))) (r3.putD hc0 hx h1 (h2.stored t))
  · exact q3.elim
theorem s_while {body : List Stmt} (hp : PassesOwn (model X.prog X.w) X.A X.env X.xe) (hc : PT X e (upT X.K C W tc)) (hb : PSs X body (upS X.K C W t)) : PS X (.While e body [] pos) (upS X.K C W (dWhile tc t)) := by
  refine ps_imp (ps_while hp hc hb) fun D σ H ⟨env, g, E, re, rg, ⟨I, ⟨m0, i0⟩, turn⟩, cn, cr, cx⟩ => ?_
  refine ⟨fun m σ1 H1 => TK H H1 ∧ ∃ env1 g1, RepE X.K H1 env1 σ1 ∧ RepG X.K H1 g1 ∧ I m env1 g1, ⟨m0, .refl _, env, g, re, rg, i0⟩, ?_⟩
  rintro m σ1 H1 ⟨k, env1, g1, re1, rg1, i1⟩
  refine ⟨env1, g1, _, _, re1, rg1, turn m env1 g1 i1, fun b g2 H2 q2 k2 r2 => ?_, (cx.at k).e re1⟩
  cases b with
  | true =>
    rw [if_pos rfl] at q2 ⊢
    refine ⟨fun σ' H' => ∃ m', m' < m ∧ TK H H' ∧ ∃ env1 g1, RepE X.K H' env1 σ' ∧ RepG X.K H' g1 ∧ I m' env1 g1, fun σ' H' ⟨m', h, z⟩ => ⟨m', h, z⟩, env1, g2, _, re1.keep k2, r2, q2, fun env3 g3 σ3 H3 ⟨m', hm, q3⟩ k3 r3 r3' => ?_, cr.at (k.trans k2), cx.at (k.trans k2)⟩
    exact ⟨m', hm, (k.trans k2).trans k3, env3, g3, r3, r3', q3⟩
  | false =>
    rw [if_neg Bool.false_ne_true] at q2 ⊢
    exact cn _ _ _ _ q2 (k.trans k2) (re1.keep k2) r2
theorem s_for {tg iter : Expr} {body : List Stmt} {ti : DTI} {tgd : TgD} (hp : PassesOwn (model X.prog X.w) X.A X.env X.xe) (hc : X.calm = true) (hi : PI X tg iter (upI X.K C W ti)) (hg : PG X tg (gUp X.K tgd)) (hb : PSs X body (upS X.K C W t))
    (hs : ∀ x, foldedSetIterable iter X.env x = pure x) : PS X (.For tg iter body [] pos) (upS X.K C W (dFor ti tgd t)) := by
  refine ps_imp (ps_for hp hc hi hg hb hs) fun D σ H ⟨env, g, E, re, rg, q, cn, cr, cx⟩ => ?_
  refine ⟨env, g, _, _, re, rg, q, fun items stay g1 J H1 q1 k r ok => ?_, cx.e re⟩
  refine ⟨fun i m σ2 H2 => m = items.length - i ∧ i ≤ items.length ∧ TK H1 H2 ∧ ∃ env2 g2, RepE X.K H2 env2 σ2 ∧ RepG X.K H2 g2 ∧ forD stay (fun x env g N => gD tgd x env g fun env1 g1 => t { E with nx := N } env1 g1) E.nx (items.drop i) env2 g2,
    ⟨items.length, rfl, Nat.zero_le _, .refl _, env, g1, re.keep k, r, q1⟩, ?_⟩
  rintro i m σ2 H2 ⟨rfl, hle, k2, env2, g2, re2, rg2, q2⟩
  by_cases hlt : i < items.length
  · have hd : items.drop i = items[i] :: items.drop (i + 1) := List.drop_eq_getElem_cons hlt
    rw [hd] at q2
    obtain ⟨st, q2⟩ := q2
    refine .inr ⟨ok.go i g2 H2 hlt k2 rg2 st, fun σ' H' => TK H1 H' ∧ ∃ env2 g2, RepE X.K H' env2 σ' ∧ RepG X.K H' g2 ∧ forD stay (fun x env g N => gD tgd x env g fun env1 g1 => t { E with nx := N } env1 g1) E.nx (items.drop (i + 1)) env2 g2,
      fun σ' H' z => ⟨items.length - (i + 1), by omega, rfl, hlt, z⟩, fun x H' y => ?_⟩
    obtain ⟨d, e1, rd, k3, rg3⟩ := ok.yld i g2 H2 x H' hlt k2 rg2 st y
    have e2 : items[i] = d := by
      rw [List.getElem?_eq_getElem hlt] at e1
      exact Option.some.inj e1
    rw [e2] at q2
    refine ⟨d, env2, g2, _, rd, re2.keep k3, rg3, q2, fun env3 g3 σ3 H3 q3 k4 re3 rg4 _ => ?_⟩
    have kk := (k2.trans k3).trans k4
    refine ⟨env3, g3, _, re3, rg4, q3, fun env5 g5 σ5 H5 q5 k5 re5 rg5 => ?_, cr.at (k.trans kk), cx.at (k.trans kk)⟩
    exact ⟨kk.trans k5, env5, g5, re5, rg5, q5⟩
  · have hd : items.drop i = [] := List.drop_eq_nil_of_le (by omega)
    rw [hd] at q2
    obtain ⟨st, q2⟩ := q2
    exact .inl ⟨ok.stop i g2 H2 (by omega) hle k2 rg2 st, cn _ _ _ _ q2 (k.trans k2) re2 rg2⟩
end
end PP
namespace PP
open PySem PySem.Spec PyProof.Rows L2
def dTst (te : DTE) : DTT := fun X env g Q => te X env g fun d g1 => match d with | .bl b => Q b g1 | _ => False
def dAndT (ta tb : DTT) : DTT := fun X env g Q => ta X env g fun b g1 => if b = true then tb X env g1 Q else Q false g1
def dOrT (ta tb : DTT) : DTT := fun X env g Q => ta X env g fun b g1 => if b = true then Q true g1 else tb X env g1 Q
def dNotT (ta : DTT) : DTT := fun X env g Q => ta X env g fun b g1 => Q (!b) g1
def dYes : DTT := fun _ _ g Q => Q true g
def dAnd (ta tb : DTE) : DTE := fun X env g Q => ta X env g fun d g1 => match d with | .bl b => if b = true then tb X env g1 Q else Q (.bl false) g1 | _ => False
def dOr (ta tb : DTE) : DTE := fun X env g Q => ta X env g fun d g1 => match d with | .bl b => if b = true then Q (.bl true) g1 else tb X env g1 Q | _ => False
def dNot (ta : DTE) : DTE := fun X env g Q => ta X env g fun d g1 => match d with | .bl b => Q (.bl (!b)) g1 | _ => False
def dNeg : D → G → QD → Prop
  | .int i => fun g Q => Q (.int (-i)) g
  | _ => fun _ _ => False
def dChain (r r' : D → D → G → QD → Prop) (ta tb tc : DTE) : DTE := fun X env g Q => ta X env g fun x g1 => tb X env g1 fun y g2 => r x y g2 fun z g3 => match z with
  | .bl k => if k = true then tc X env g3 fun w g4 => r' y w g4 Q else Q (.bl false) g3
  | _ => False
section
variable {X : Cx} {C : Ex → Addr} {W : WX} {e a b c : Expr} {es rest : List Expr} {pos : Pos} {ta tb tc : DTE} {qa qb : DTT} {tA : DTA}
theorem t_val (h : PE X e (up X.K C W ta)) (he : ∀ whole, isTrue e X.env whole = (do let v ← whole; standAt e.pos; holding [v] (truthy v))) : PT X e (upT X.K C W (dTst ta)) := by
  refine pt_imp (pt_val h he) fun σ H Q ⟨env, g, Xd, Qd, re, rg, t, cl, cx⟩ => ?_
  refine ⟨env, g, Xd, _, re, rg, t, fun d g1 v H1 q k r rv => ?_, cx⟩
  dsimp only at q
  split at q
  · exact ⟨_, rv, cl _ _ _ q k r⟩
  · exact q.elim
theorem t_and1 (h : PT X a (upT X.K C W qa)) : PW X (.BoolOp .And [a] pos) (upT X.K C W qa) := pw_and1 h
theorem t_or1 (h : PT X a (upT X.K C W qa)) : PW X (.BoolOp .Or [a] pos) (upT X.K C W qa) := pw_or1 h
theorem t_and (h : PT X a (upT X.K C W qa)) (h2 : PW X (.BoolOp .And (b :: rest) pos) (upT X.K C W qb)) : PW X (.BoolOp .And (a :: b :: rest) pos) (upT X.K C W (dAndT qa qb)) := by
  refine pw_imp (pw_and h h2) fun σ H Q ⟨env, g, Xd, Qd, re, rg, t, cl, cx⟩ => ?_
  refine ⟨env, g, Xd, _, re, rg, t, fun b g1 H1 q k r => ?_, cx⟩
  cases b with
  | true => rw [if_pos rfl] at q ⊢; exact ⟨env, g1, Xd, _, re.keep k, r, q, cl.at k, cx.at k⟩
  | false => rw [if_neg Bool.false_ne_true] at q ⊢; exact cl _ _ _ q k r
theorem t_or (h : PT X a (upT X.K C W qa)) (h2 : PW X (.BoolOp .Or (b :: rest) pos) (upT X.K C W qb)) : PW X (.BoolOp .Or (a :: b :: rest) pos) (upT X.K C W (dOrT qa qb)) := by
  refine pw_imp (pw_or h h2) fun σ H Q ⟨env, g, Xd, Qd, re, rg, t, cl, cx⟩ => ?_
  refine ⟨env, g, Xd, _, re, rg, t, fun b g1 H1 q k r => ?_, cx⟩
  cases b with
  | true => rw [if_pos rfl] at q ⊢; exact cl _ _ _ q k r
  | false => rw [if_neg Bool.false_ne_true] at q ⊢; exact ⟨env, g1, Xd, _, re.keep k, r, q, cl.at k, cx.at k⟩
theorem t_not (h : PT X a (upT X.K C W qa)) : PT X (.UnaryOp .Not a pos) (upT X.K C W (dNotT qa)) := by
  refine pt_imp (pt_not h) fun σ H Q ⟨env, g, Xd, Qd, re, rg, t, cl, cx⟩ => ?_
  exact ⟨env, g, Xd, _, re, rg, t, fun b g1 H1 q k r => cl _ _ _ q k r, cx⟩
theorem t_cmp {r : D → D → G → QD → Prop} {op : CmpOp} (ho : OpR X (compareOp op) (rUp X.K r)) (ha : PE X a (up X.K C W ta)) (hb : PE X b (up X.K C W tb)) (hm : behindInMarks op b = false) : PT X (.Compare a [op] [b] pos) (upT X.K C W (dTst (dBin r ta tb))) := by
  refine pt_imp (pt_cmpR ho ha hb hm) fun σ H Q ⟨env, g, Xd, Qd, re, rg, t, cl, cx⟩ => ?_
  refine ⟨env, g, Xd, _, re, rg, t, fun d1 g1 v H1 q k1 r1 rv => ?_, cx⟩
  refine ⟨env, g1, Xd, _, re.keep k1, r1, q, fun d2 g2 u H2 q2 k2 r2 ru => ?_, cx.at k1⟩
  refine ⟨d1, d2, g2, _, rv.keep k2, ru, r2, q2, fun d3 g3 w H3 q3 k3 r3 rw' => ?_⟩
  split at q3
  · exact ⟨_, rw', cl _ _ _ q3 ((k1.trans k2).trans k3) r3⟩
  · exact q3.elim
theorem v_one {op} (h : PE X a (up X.K C W ta)) : PE X (.BoolOp op [a] pos) (up X.K C W ta) := pe_one h
theorem v_and (h : PE X a (up X.K C W ta)) (h2 : PE X (.BoolOp .And (b :: rest) pos) (up X.K C W tb)) : PE X (.BoolOp .And (a :: b :: rest) pos) (up X.K C W (dAnd ta tb)) := by
  refine pe_imp (pe_and h h2) fun σ H Q ⟨env, g, Xd, Qd, re, rg, t, cl, cx⟩ => ?_
  refine ⟨env, g, Xd, _, re, rg, t, fun d g1 v H1 q k r rv => ?_, cx⟩
  dsimp only at q
  split at q
  · rename_i b
    refine ⟨b, rv, ?_⟩
    cases b with
    | true => rw [if_pos rfl] at q ⊢; exact ⟨env, g1, Xd, _, re.keep k, r, q, cl.at k, cx.at k⟩
    | false => rw [if_neg Bool.false_ne_true] at q ⊢; exact cl _ _ _ _ q k r rfl
  · exact q.elim
theorem v_or (h : PE X a (up X.K C W ta)) (h2 : PE X (.BoolOp .Or (b :: rest) pos) (up X.K C W tb)) : PE X (.BoolOp .Or (a :: b :: rest) pos) (up X.K C W (dOr ta tb)) := by
  refine pe_imp (pe_or h h2) fun σ H Q ⟨env, g, Xd, Qd, re, rg, t, cl, cx⟩ => ?_
  refine ⟨env, g, Xd, _, re, rg, t, fun d g1 v H1 q k r rv => ?_, cx⟩
  dsimp only at q
  split at q
  · rename_i b
    refine ⟨b, rv, ?_⟩
    cases b with
    | true => rw [if_pos rfl] at q ⊢; exact cl _ _ _ _ q k r rfl
    | false => rw [if_neg Bool.false_ne_true] at q ⊢; exact ⟨env, g1, Xd, _, re.keep k, r, q, cl.at k, cx.at k⟩
  · exact q.elim
theorem v_not (h : PE X a (up X.K C W ta)) : PE X (.UnaryOp .Not a pos) (up X.K C W (dNot ta)) := by
  refine pe_imp (pe_not h) fun σ H Q ⟨env, g, Xd, Qd, re, rg, t, cl, cx⟩ => ?_
  refine ⟨env, g, Xd, _, re, rg, t, fun d g1 v H1 q k r rv => ?_, cx⟩
  dsimp only at q
  split at q
  · rename_i b
    exact ⟨b, rv, cl _ _ _ _ q k r rfl⟩
  · exact q.elim
theorem v_neg (h : PE X a (up X.K C W ta)) : PE X (.UnaryOp .USub a pos) (up X.K C W (dUn dNeg ta)) := by
  refine pe_imp (pe_un un_neg h) fun σ H Q ⟨env, g, Xd, Qd, re, rg, t, cl, cx⟩ => ?_
  refine ⟨env, g, Xd, _, re, rg, t, fun d g1 v H1 q k r rv => ?_, cx⟩
  have q : dNeg d g1 Qd := q
  unfold dNeg at q
  split at q
  · exact ⟨_, rv, cl _ _ _ _ q k r rfl⟩
  · exact q.elim
theorem v_chain {r r' : D → D → G → QD → Prop} {op op' : CmpOp} (ho : OpR X (compareOp op) (rUp X.K r)) (ho' : OpR X (compareOp op') (rUp X.K r')) (ha : PE X a (up X.K C W ta)) (hb : PE X b (up X.K C W tb)) (hc : PE X c (up X.K C W tc)) (hm : lastMarks [op, op'] [b, c] = false) :
    PE X (.Compare a [op, op'] [b, c] pos) (up X.K C W (dChain r r' ta tb tc)) := by
  refine pe_imp (pe_chain ho ho' ha hb hc hm) fun σ H Q ⟨env, g, Xd, Qd, re, rg, t, cl, cx⟩ => ?_
  refine ⟨env, g, Xd, _, re, rg, t, fun d1 g1 v H1 q k1 r1 rv => ?_, cx⟩
  refine ⟨env, g1, Xd, _, re.keep k1, r1, q, fun d2 g2 u H2 q2 k2 r2 ru => ?_, cx.at k1⟩
  refine ⟨d1, d2, g2, _, rv.keep k2, ru, r2, q2, fun d3 g3 w H3 q3 k3 r3 rw' => ?_⟩
  have kk := (k1.trans k2).trans k3
  split at q3
  · rename_i k
    refine ⟨k, rw', ?_⟩
    cases k with
    | true =>
      rw [if_pos rfl] at q3 ⊢
      refine ⟨env, g3, Xd, _, re.keep kk, r3, q3, fun d4 g4 z H4 q4 k4 r4 rz => ?_, cx.at kk⟩
      exact ⟨d2, d4, g4, Qd, (ru.keep k3).keep k4, rz, r4, q4, cl.at (kk.trans k4)⟩
    | false => rw [if_neg Bool.false_ne_true] at q3 ⊢; exact cl _ _ _ _ q3 kk r3 rfl
  · exact q3.elim
end
def wipeD (env : Env) (vs : List Nat) : Env := vs.foldr (fun v e => e.set v none) env
def compD (stay : G → Prop) (p : Addr) (body : D → G → (Option D → G → Prop) → Prop) (fin : G → Prop) : List D → List D → G → Prop
  | [], _, g => stay g ∧ fin g
  | x :: xs, acc, g => stay g ∧ body x g fun o g' => match o with
    | some d => g' p = some acc ∧ compD stay p body fin xs (acc ++ [d]) (g'.up p (acc ++ [d]))
    | none => g' p = some acc ∧ compD stay p body fin xs acc g'
def compB (tg : TgD) (env : Env) (tt : DTT) (te : DTE) : D → G → (Option D → G → Prop) → Prop := fun x g k => gD tg x env g fun env2 g2 => tt (fun _ _ => False) env2 g2 fun b g3 => if b = true then te (fun _ _ => False) env2 g3 fun d g4 => k (some d) g4 else k none g3
def dComp (ti : DTI) (tg : TgD) (own : List Nat) (tt : DTT) (te : DTE) : DTE := fun X env g Q => ti X env g fun items stay g1 => items.length ≤ sizeLine ∧ ∀ p, g1 p = none → compD stay p (compB tg (wipeD env own) tt te) (Q (.ref p)) items [] (g1.up p [])
def W0 : WX := fun _ _ _ _ => False
theorem wipe_in {σ : List (Option V)} {i : Nat} : ∀ {vs : List Nat}, i ∈ vs → i < σ.length → (wipe σ vs)[i]? = some none
  | [], h, _ => by cases h
  | v :: vs, h, hl => by
    unfold wipe
    by_cases hi : v = i
    · subst hi
      rw [List.getElem?_set_self (by rw [wipe_length]; exact hl)]
    · rw [List.getElem?_set_ne hi]
      rcases List.mem_cons.mp h with z | z
      · exact absurd z.symm hi
      · exact wipe_in z hl
theorem wipe_eq {σ σ' : List (Option V)} {vs : List Nat} (hl : σ.length = σ'.length) (h : ∀ i, i ∉ vs → σ[i]? = σ'[i]?) : wipe σ vs = wipe σ' vs := by
  apply List.ext_getElem?
  intro i
  by_cases hi : i ∈ vs
  · by_cases hb : i < σ.length
    · rw [wipe_in hi hb, wipe_in hi (by omega)]
    · rw [List.getElem?_eq_none (by rw [wipe_length]; omega), List.getElem?_eq_none (by rw [wipe_length]; omega)]
  · rw [wipe_out hi, wipe_out hi]
    exact h i hi
theorem setV_length : ∀ {is : List Nat} {ws : List V} {σ : List (Option V)}, (setV σ is ws).length = σ.length
  | [], ws, σ => by simp [setV]
  | i :: is, [], σ => by simp [setV]
  | i :: is, w :: ws, σ => by show (setV (σ.set i (some w)) is ws).length = _; rw [setV_length, List.length_set]
theorem setV_out : ∀ {is : List Nat} {ws : List V} {σ : List (Option V)} {j : Nat}, j ∉ is → (setV σ is ws)[j]? = σ[j]?
  | [], ws, σ, j, h => by simp [setV]
  | i :: is, [], σ, j, h => by simp [setV]
  | i :: is, w :: ws, σ, j, h => by
    simp only [List.mem_cons, not_or] at h
    show (setV (σ.set i (some w)) is ws)[j]? = _
    rw [setV_out h.2, List.getElem?_set_ne (Ne.symm h.1)]
theorem wipe_set {σ : List (Option V)} {vs is : List Nat} {ws : List V} (h : ∀ i ∈ is, i ∈ vs) : wipe (setV (wipe σ vs) is ws) vs = wipe σ vs :=
  wipe_eq (by rw [setV_length, wipe_length]) fun i hi => by
    rw [setV_out (fun z => hi (h i z)), wipe_out hi]
theorem lc_up {K : PySem.W.Frag} {C : Ex → Addr} {W : WX} {ti : DTI} {tg : TgD} {own : List Nat} {tt : DTT} {te : DTE} {σ H Q} (hsub : ∀ i ∈ tg.slots, i ∈ own) (h : up K C W (dComp ti tg own tt te) σ H Q) :
    tLc (upI K C W ti) (gUp K tg) (upT K C W0 tt) (up K C W0 te) own σ H Q := by
  obtain ⟨env, g, Xd, Qd, re, rg, t, cl, cx⟩ := h
  refine ⟨env, g, Xd, _, re, rg, t, fun items stay g1 J H1 q k r ok p hp => ?_, cx⟩
  obtain ⟨hsz, q⟩ := q
  have q := q (2 * p) (r.none hp)
  have kp : TK H1 (upd H1 p (.lst [])) := .new hp
  refine ⟨fun i m H2 => m = items.length - i ∧ i ≤ items.length ∧ TK H1 H2 ∧ ∃ acc g2, acc.length ≤ i ∧ RepG K H2 g2 ∧ g2 (2 * p) = some acc ∧ compD stay (2 * p) (compB tg (wipeD env own) tt te) (Qd (.ref (2 * p))) (items.drop i) acc g2,
    ⟨items.length, rfl, Nat.zero_le _, kp, [], g1.up (2 * p) [], Nat.le_refl _, r.new hp rfl, by simp [G.up], q⟩, ?_⟩
  rintro i m H2 ⟨rfl, hle, k2, acc, g2, hacc, rg2, hgp, q2⟩
  by_cases hlt : i < items.length
  · have hd : items.drop i = items[i] :: items.drop (i + 1) := List.drop_eq_getElem_cons hlt
    rw [hd] at q2
    obtain ⟨st, q2⟩ := q2
    refine .inr ⟨ok.go i g2 H2 hlt k2 rg2 st, fun H' => TK H1 H' ∧ ∃ acc g2, acc.length ≤ i + 1 ∧ RepG K H' g2 ∧ g2 (2 * p) = some acc ∧ compD stay (2 * p) (compB tg (wipeD env own) tt te) (Qd (.ref (2 * p))) (items.drop (i + 1)) acc g2, fun H' z => ⟨items.length - (i + 1), by omega, rfl, hlt, z⟩, fun x H' y => ?_⟩
    obtain ⟨d, e1, rd, k3, rg3⟩ := ok.yld i g2 H2 x H' hlt k2 rg2 st y
    have e2 : items[i] = d := by
      rw [List.getElem?_eq_getElem hlt] at e1
      exact Option.some.inj e1
    rw [e2] at q2
    have reW : RepE K H' (wipeD env own) (wipe σ own) := (re.keep ((k.trans k2).trans k3)).wipe own
    refine ⟨d, _, g2, _, rd, reW, rg3, q2, fun env3 g3 σ3 H3 q3 k4 re3 rg4 ⟨ws, eσ⟩ => ?_⟩
    refine ⟨by rw [eσ]; exact wipe_set hsub, ?_⟩
    refine ⟨env3, g3, _, _, re3, rg4, q3, fun b g5 H5 q5 k5 r5 => ?_, fun n g' H' z => z.elim⟩
    cases b with
    | true =>
      rw [if_pos rfl] at q5 ⊢
      refine ⟨env3, g5, _, _, re3.keep k5, r5, q5, fun d6 g6 v6 H6 q6 k6 r6 rv6 => ?_, fun n g' H' z => z.elim⟩
      obtain ⟨h6, q6⟩ := q6
      obtain ⟨vs, hv, rl⟩ := r6.lstE h6
      have kk := (((k2.trans k3).trans k4).trans k5).trans k6
      refine ⟨vs, hv, ?_, ?_⟩
      · rw [rl.length]
        omega
      · exact ⟨kk.trans (.set hv), acc ++ [d6], _, by simp; omega, r6.putE hv (rl.app (.one rv6)), by simp [G.up], q6⟩
    | false =>
      rw [if_neg Bool.false_ne_true] at q5 ⊢
      exact ⟨((k2.trans k3).trans k4).trans k5, acc, g5, by omega, r5, q5.1, q5.2⟩
  · have hd : items.drop i = [] := List.drop_eq_nil_of_le (by omega)
    rw [hd] at q2
    obtain ⟨st, q2⟩ := q2
    exact .inl ⟨ok.stop i g2 H2 (by omega) hle k2 rg2 st, cl _ _ _ _ q2 (k.trans k2) rg2 rep_ref⟩
section
variable {X : Cx} {C : Ex → Addr} {W : WX} {elt tg iter : Expr} {ifs : List Expr} {scope : Scope} {own : List (Str × Nat)} {pos : Pos} {ti : DTI} {tgd : TgD} {tt : DTT} {te : DTE}
theorem d_comp (hc : X.calm = true) (hN : X.N.Nodup) (hi : PI X tg iter (upI X.K C W ti)) (ok : BlkOk X.N X.env.scope scope own)
    (hg : ∀ (s : Shared) (H : Hp) (A : Addr) (cl : List (Str × Addr)) (fp : List Addr), PG (X.blk s H scope (compEnvC scope cl A X.env) fp) tg (gUp X.K tgd))
    (ht : ∀ (s : Shared) (H : Hp) (A : Addr) (cl : List (Str × Addr)) (fp : List Addr), PTs (X.blk s H scope (compEnvC scope cl A X.env) fp) ifs (upT X.K C W0 tt))
    (he : ∀ (s : Shared) (H : Hp) (A : Addr) (cl : List (Str × Addr)) (fp : List Addr), PE (X.blk s H scope (compEnvC scope cl A X.env) fp) elt (up X.K C W0 te))
    (hs : ∀ x, foldedSetIterable iter X.env x = pure x) (hsub : ∀ i ∈ tgd.slots, i ∈ own.map (·.2)) :
    PE X (.ListComp elt [⟨tg, iter, ifs, 0⟩] scope pos) (up X.K C W (dComp ti tgd (own.map (·.2)) tt te)) :=
  pe_imp (pe_lc hc hN hi ok hg ht he hs) fun σ H Q h => lc_up hsub h
theorem s_setLc {i : Nat} {y : Str} {py spos : Pos} (hc : X.calm = true) (hN : X.N.Nodup) (hy : X.N[i]? = some y) (hyl : X.env.scope.names.lookup y = some .local)
    (hsw : swapsWith (.ListComp elt [⟨tg, iter, ifs, 0⟩] scope pos) (some (.Name y py)) spos.line X.env = pure true) (hi : PI X tg iter (upI X.K C W ti)) (ok : BlkOk X.N X.env.scope scope own)
    (hg : ∀ (s : Shared) (H : Hp) (A : Addr) (cl : List (Str × Addr)) (fp : List Addr), PG (X.blk s H scope (compEnvC scope cl A X.env) fp) tg (gUp X.K tgd))
    (ht : ∀ (s : Shared) (H : Hp) (A : Addr) (cl : List (Str × Addr)) (fp : List Addr), PTs (X.blk s H scope (compEnvC scope cl A X.env) fp) ifs (upT X.K C W0 tt))
    (he : ∀ (s : Shared) (H : Hp) (A : Addr) (cl : List (Str × Addr)) (fp : List Addr), PE (X.blk s H scope (compEnvC scope cl A X.env) fp) elt (up X.K C W0 te))
    (hs : ∀ x, foldedSetIterable iter X.env x = pure x) (hsub : ∀ i ∈ tgd.slots, i ∈ own.map (·.2)) :
    PS X (.Assign [.Name y py] (.ListComp elt [⟨tg, iter, ifs, 0⟩] scope pos) spos) (upS X.K C W (dAsg (.n i) (dComp ti tgd (own.map (·.2)) tt te))) := by
  refine ps_imp (ps_setLc hc hN hy hyl hsw hi ok hg ht he hs) fun D σ H ⟨env, g, E, re, rg, q, cn, cr, cx⟩ => ?_
  refine lc_up (Q := fun x H1 => gName i x σ H1 D.nx) hsub ⟨env, g, _, _, re, rg, q, fun d g1 v H1 q1 k r rv => ?_, cx.e re⟩
  exact cn _ _ _ _ q1 k ((re.keep k).set rv) r
end
abbrev SpD := List D → G → QD → XD → Prop
def liftSp (K : PySem.W.Frag) (C : Ex → Addr) (sp : SpD) : Sp := fun vs H Q E => ∃ ds g Qd Xd, RepL K H ds vs ∧ RepG K H g ∧ sp ds g Qd Xd ∧ clos K H Qd Q ∧ closX K C H Xd E ∧ TbOk H
def dCall (sp : SpD) (t : DTA) : DTE := fun X env g Q => t X env g fun ds g1 => sp ds g1 Q X
section
variable {X : Cx} {C : Ex → Addr} {W : WX} {e : Expr} {es : List Expr} {pos p : Pos} {tA : DTA} {sp : SpD} {x : Str}
structure FnAt (X : Cx) (C : Ex → Addr) (x : Str) (ps : List Str) (sp : SpD) : Prop where
  ex : ∃ (f : Addr) (fd : FuncData) (k : Nat), X.mg x = some (.ref f) ∧ PySem.W.keepIn X.K (.ref f) = true ∧ Binds X.K fd ps [] ∧ FnOk X.prog X.w X.K X.mg X.base (L2N.CX X.prog X.w) k f fd ps (liftSp X.K C sp) ∧ Room k X.A
theorem d_call {ps : List Str} (F : FnAt X C x ps sp) (tk : L2N.Takes X W) (hg : Gl X x) (ha : PA X (e :: es) (upA X.K C W tA)) (hdb : (x == ("__debug__" : Str)) = false) (he : starEach (e :: es) X.env = (false, eval e X.env) :: starEach es X.env) (hpl : (backTo pos (starEach es X.env)).any (·.1) = false) :
    PE X (.Call (.Name x p) (e :: es) [] pos) (up X.K C W (dCall sp tA)) := by
  obtain ⟨f, fd, k, hm, hk, hb, FO, hr⟩ := F.ex
  refine pe_imp (pe_callS FO hr hg hm hk hb (fun σ => L2N.passAt tk σ) ha hdb he hpl) fun σ H Q ⟨env, g, Xd, Qd, re, rg, t, cl, cx⟩ => ?_
  refine ⟨env, g, Xd, _, re, rg, t, fun ds g1 vs H1 q k1 r1 rv => ?_, cx⟩
  exact ⟨ds, g1, Qd, Xd, rv, r1, q, cl.at k1, cx.at k1, re.2.2.keep k1⟩
theorem d_callB {r : List D → G → QD → Prop} {id : String} (hc : CallR X (.builtin id) (rUpC X.K r)) (hg : Gl X x) (hm : X.mg x = none) (hv : bootBuiltins x = some (.builtin id)) (ha : PA X (e :: es) (upA X.K C W tA)) (hn : x ≠ "__name__") (hdb : (x == ("__debug__" : Str)) = false)
    (he : starEach (e :: es) X.env = (false, eval e X.env) :: starEach es X.env) (hpl : (backTo pos (starEach es X.env)).any (·.1) = false) : PE X (.Call (.Name x p) (e :: es) [] pos) (up X.K C W (dCB r tA)) :=
  pe_imp (pe_callB hc hg hm hv ha hn hdb he hpl) fun σ H Q h => cb_up h
theorem d_callTy {r : List D → G → QD → Prop} {T : String} (hc : CallR X (.type T) (rUpC X.K r)) (hg : Gl X x) (hm : X.mg x = none) (hv : bootBuiltins x = some (.type T)) (ha : PA X (e :: es) (upA X.K C W tA)) (hn : x ≠ "__name__") (hdb : (x == ("__debug__" : Str)) = false)
    (he : starEach (e :: es) X.env = (false, eval e X.env) :: starEach es X.env) (hpl : (backTo pos (starEach es X.env)).any (·.1) = false) : PE X (.Call (.Name x p) (e :: es) [] pos) (up X.K C W (dCB r tA)) :=
  pe_imp (pe_callTy hc hg hm hv ha hn hdb he hpl) fun σ H Q h => cb_up h
end
end PP
namespace PP
open PySem PySem.Spec PyProof.Rows L2
def rUpM (K : PySem.W.Frag) (r : D → List D → G → QD → Prop) : V → List V → Hp → VK → Prop := fun x vs H Q => ∃ d ds g Qd, Rep K H d x ∧ RepL K H ds vs ∧ RepG K H g ∧ r d ds g Qd ∧ clos K H Qd Q
inductive Rc where
  | list | str
def Rc.nm : Rc → String
  | .list => "list"
  | .str => "str"
def recv : Rc → D → G → Prop
  | .list, .ref a, g => (g a).isSome = true
  | .str, .str _, _ => True
  | _, _, _ => False
def dMt (T : Rc) (r : D → List D → G → QD → Prop) (to : DTE) (tA : DTA) : DTE := fun X env g Q => to X env g fun d g1 => recv T d g1 ∧ tA X env g1 fun ds g2 => r d ds g2 Q
section
variable {X : Cx} {C : Ex → Addr} {W : WX} {o e : Expr} {es : List Expr} {to : DTE} {tA : DTA} {r : D → List D → G → QD → Prop} {name : Str} {apos cpos : Pos} {T : Rc} {id : String}
theorem recv_ty {K : PySem.W.Frag} {H : Hp} {d : D} {g : G} {v : V} (h : recv T d g) (rv : Rep K H d v) (rg : RepG K H g) : tyV K T.nm v H := by
  unfold recv at h
  split at h
  · obtain ⟨hc, rfl⟩ := rv
    obtain ⟨xs, e⟩ := Option.isSome_iff_exists.mp h
    obtain ⟨vs, hh, _⟩ := rg.lst hc e
    exact .inl ⟨rfl, vs, .of hh⟩
  · cases (show v = .str _ from rv)
    rfl
  · exact h.elim
theorem d_bm (pa : PlainAttrs T.nm) (slot : Slot T.nm name id) (hty : typeOf (.builtin id) = pure (.type "method_descriptor")) (hm : MtR X id (rUpM X.K r)) (ho : PE X o (up X.K C W to)) (ha : PA X (e :: es) (upA X.K C W tA))
    (hbase : attributeBase o name X.env (eval o X.env) = eval o X.env)
    (hfew : ((backTo cpos (starEach (e :: es) X.env)).all (fun x => !x.1) && (backToKw cpos (keywordEach [] X.env)).all (fun x => x.1.isSome)
      && decide ((e :: es).length + ([] : List Keyword).length + (if ([] : List Keyword).isEmpty then 0 else 1) < 30)) = true)
    (hline : (apos.endLine == cpos.line) = true) (hs : starEach (e :: es) X.env = (false, eval e X.env) :: starEach es X.env) (hplain : (backTo cpos (starEach es X.env)).any (·.1) = false) :
    PE X (.Call (.Attribute o name apos) (e :: es) [] cpos) (up X.K C W (dMt T r to tA)) := by
  refine pe_imp (pe_bm pa slot hty hm ho ha hbase hfew hline hs hplain) fun σ H Q ⟨env, g, Xd, Qd, re, rg, t, cl, cx⟩ => ?_
  refine ⟨env, g, Xd, _, re, rg, t, fun d g1 v H1 q k1 r1 rv => ⟨recv_ty q.1 rv r1, ?_⟩, cx⟩
  refine ⟨env, g1, Xd, _, re.keep k1, r1, q.2, fun ds g2 vs H2 q2 k2 r2 rl => ?_, cx.at k1⟩
  exact ⟨d, ds, g2, Qd, rv.keep k2, rl, r2, q2, cl.at (k1.trans k2)⟩
theorem d_bm0 (pa : PlainAttrs T.nm) (slot : Slot T.nm name id) (hty : typeOf (.builtin id) = pure (.type "method_descriptor")) (hm : MtR X id (rUpM X.K r)) (ho : PE X o (up X.K C W to))
    (hbase : attributeBase o name X.env (eval o X.env) = eval o X.env) (hline : (apos.endLine == cpos.line) = true) :
    PE X (.Call (.Attribute o name apos) [] [] cpos) (up X.K C W (dMt T r to dNil)) := by
  refine pe_imp (pe_bm0 pa slot hty hm ho hbase hline) fun σ H Q ⟨env, g, Xd, Qd, re, rg, t, cl, cx⟩ => ?_
  refine ⟨env, g, Xd, _, re, rg, t, fun d g1 v H1 q k1 r1 rv => ⟨recv_ty q.1 rv r1, ?_⟩, cx⟩
  exact ⟨d, [], g1, Qd, rv, rfl, r1, q.2, cl.at k1⟩
theorem mt_imp {id : String} {r r' : V → List V → Hp → VK → Prop} (h : MtR X id r) (k : ∀ x xs H Q, r' x xs H Q → r x xs H Q) : MtR X id r' := fun pins s σ H x xs v us Q I rx rl q => h pins s σ H x xs v us Q I rx rl (k _ _ _ _ q)
end
def mAppend : D → List D → G → QD → Prop
  | .ref l, [y] => fun g Q => match g l with | some xs => xs.length < sizeLine ∧ Q .non (g.up l (xs ++ [y])) | none => False
  | _, _ => fun _ _ => False
def mPop : D → List D → G → QD → Prop
  | .ref l, [] => fun g Q => match g l with | some xs => (match xs[xs.length - 1]? with | some y => Q y (g.up l xs.dropLast) | none => False) | none => False
  | _, _ => fun _ _ => False
def mPopAt : D → List D → G → QD → Prop
  | .ref l, [.int i] => fun g Q => match g l with | some xs => -(2 ^ 63) ≤ i ∧ i < 2 ^ 63 ∧ (match seqIndex? i xs.length with | some k => (match xs[k]? with | some y => Q y (g.up l (xs.eraseIdx k)) | none => False) | none => False) | none => False
  | _, _ => fun _ _ => False
def mExtend : D → List D → G → QD → Prop
  | .ref l, [.ref b] => fun g Q => match g l, g b with | some xs, some ys => xs.length + ys.length ≤ sizeLine ∧ Q .non (g.up l (xs ++ ys)) | _, _ => False
  | _, _ => fun _ _ => False
def mClear : D → List D → G → QD → Prop
  | .ref l, [] => fun g Q => match g l with | some _ => Q .non (g.up l []) | none => False
  | _, _ => fun _ _ => False
def mReverse : D → List D → G → QD → Prop
  | .ref l, [] => fun g Q => match g l with | some xs => Q .non (g.up l xs.reverse) | none => False
  | _, _ => fun _ _ => False
def mInsert : D → List D → G → QD → Prop
  | .ref l, [.int i, y] => fun g Q => match g l with | some xs => xs.length < sizeLine ∧ 0 ≤ i ∧ i < 2 ^ 63 ∧ Q .non (g.up l (xs.take i.toNat ++ [y] ++ xs.drop i.toNat)) | none => False
  | _, _ => fun _ _ => False
def mIndex : D → List D → G → QD → Prop
  | .ref l, [y] => fun g Q => match pyN 4 g l, py g y with
    | some (.list qs), some p => SeqAt.shaped (.list qs) = true ∧ SeqAt.shaped p = true ∧ (match qs.findIdx? (fun z => PyData.eqv z p) with | some j => Q (.int (j : Nat)) g | none => False)
    | _, _ => False
  | _, _ => fun _ _ => False
def strsD : List D → Option (List Str)
  | [] => some []
  | .str i :: ds => (strsD ds).map (i :: ·)
  | _ :: _ => none
theorem strsD_rep {K H} : ∀ {ds : List D} {vs : List V} {ns : List Str}, RepL K H ds vs → strsD ds = some ns → vs = ns.map V.str
  | [], vs, ns, r, e => by cases e; exact r
  | .str i :: ds, vs, ns, ⟨v, t, e1, h, q⟩, e => by
    unfold strsD at e
    cases z : strsD ds with
    | none => rw [z] at e; cases e
    | some ms => rw [z] at e; cases e; subst e1; rw [strsD_rep q z, show v = V.str i from h] <;> rfl
  | .non :: ds, vs, ns, r, e => by cases e
  | .bl _ :: ds, vs, ns, r, e => by cases e
  | .int _ :: ds, vs, ns, r, e => by cases e
  | .tup _ :: ds, vs, ns, r, e => by cases e
  | .ref _ :: ds, vs, ns, r, e => by cases e
  | .scr _ :: ds, vs, ns, r, e => by cases e
  | .exc _ :: ds, vs, ns, r, e => by cases e
  | .emp :: ds, vs, ns, r, e => by cases e
  | .dct _ :: ds, vs, ns, r, e => by cases e
  | .dfz _ :: ds, vs, ns, r, e => by cases e
  | .obj _ :: ds, vs, ns, r, e => by cases e
theorem strs_rep {K H} : ∀ (ss : List Str), RepL K H (ss.map D.str) (ss.map V.str)
  | [] => rfl
  | s :: ss => ⟨.str s, ss.map V.str, rfl, rfl, strs_rep ss⟩
def mSplit : D → List D → G → QD → Prop
  | .str a, [.str b] => fun g Q => (b.length == 0) = false ∧ a.length + 2 ≤ sizeLine ∧ ∀ p, g p = none → Q (.ref p) (g.up p ((Txt.split a b).map D.str))
  | _, _ => fun _ _ => False
def mJoin : D → List D → G → QD → Prop
  | .str a, [.ref p] => fun g Q => match g p with | some xs => (match strsD xs with | some ys => (ys.map (·.length)).sum + ys.length * a.length ≤ 16777216 ∧ Q (.str (Txt.join a ys)) g | none => False) | none => False
  | _, _ => fun _ _ => False
section
variable {X : Cx}
theorem m_append : MtR X "list.append" (rUpM X.K mAppend) := mt_imp mt_append fun x vs H Q ⟨d, ds, g, Qd, rv, rl, rg, r, cl⟩ => by
  unfold mAppend at r
  split at r
  · obtain ⟨w, rfl, rw'⟩ := rl1 rl
    split at r
    · rename_i xs e
      obtain ⟨hc, rv⟩ := rv
      obtain ⟨us, hh, l⟩ := rg.lst hc e
      exact ⟨_, us, w, rv, rfl, hh, by rw [l.length]; exact r.1, cl _ _ _ _ r.2 (.set hh) (rg.put hc hh (l.app (.one rw'))) rfl⟩
    · exact r.elim
  · exact r.elim
theorem m_pop : MtR X "list.pop" (rUpM X.K mPop) := mt_imp mt_pop fun x vs H Q ⟨d, ds, g, Qd, rv, rl, rg, r, cl⟩ => by
  unfold mPop at r
  split at r
  · cases (show vs = [] from rl)
    split at r
    · rename_i xs e
      split at r
      · rename_i y e2
        obtain ⟨hc, rv⟩ := rv
        obtain ⟨us, hh, l⟩ := rg.lst hc e
        obtain ⟨w, e3, rw'⟩ := l.get e2
        rw [← l.length] at e3
        refine ⟨_, us, w, rv, rfl, hh, e3, cl _ _ _ _ r (.set hh) (rg.put hc hh ?_) (rw'.keep (.set hh))⟩
        rw [List.dropLast_eq_take, List.dropLast_eq_take, l.length]
        exact l.take _
      · exact r.elim
    · exact r.elim
  · exact r.elim
theorem m_popAt : MtR X "list.pop" (rUpM X.K mPopAt) := mt_imp mt_popAt fun x vs H Q ⟨d, ds, g, Qd, rv, rl, rg, r, cl⟩ => by
  unfold mPopAt at r
  split at r
  · obtain ⟨w, rfl, rw'⟩ := rl1 rl
    cases rw'
    split at r
    · rename_i xs e
      obtain ⟨h1, h2, r⟩ := r
      split at r
      · rename_i k e1
        split at r
        · rename_i y e2
          obtain ⟨hc, rv⟩ := rv
          obtain ⟨us, hh, l⟩ := rg.lst hc e
          obtain ⟨w, e3, rw'⟩ := l.get e2
          refine ⟨_, us, _, k, w, rv, rfl, hh, h1, h2, by rw [l.length]; exact e1, e3, cl _ _ _ _ r (.set hh) (rg.put hc hh ?_) (rw'.keep (.set hh))⟩
          rw [List.eraseIdx_eq_take_drop_succ, List.eraseIdx_eq_take_drop_succ]
          exact (l.take _).app (l.drop _)
        · exact r.elim
      · exact r.elim
    · exact r.elim
  · exact r.elim
theorem m_extend : MtR X "list.extend" (rUpM X.K mExtend) := mt_imp mt_extend fun x vs H Q ⟨d, ds, g, Qd, rv, rl, rg, r, cl⟩ => by
  unfold mExtend at r
  split at r
  · obtain ⟨w, rfl, rw'⟩ := rl1 rl
    obtain ⟨hc2, rfl⟩ := rw'
    split at r
    · rename_i xs ys e e2
      obtain ⟨hc, rv⟩ := rv
      obtain ⟨us, hh, l⟩ := rg.lst hc e
      obtain ⟨ws, hh2, l2⟩ := rg.lst hc2 e2
      exact ⟨_, _, us, ws, rv, rfl, hh, hh2, by rw [l.length, l2.length]; exact r.1, cl _ _ _ _ r.2 (.set hh) (rg.put hc hh (l.app l2)) rfl⟩
    · exact r.elim
  · exact r.elim
theorem m_clear : MtR X "list.clear" (rUpM X.K mClear) := mt_imp mt_clear fun x vs H Q ⟨d, ds, g, Qd, rv, rl, rg, r, cl⟩ => by
  unfold mClear at r
  split at r
  · cases (show vs = [] from rl)
    split at r
    · rename_i xs e
      obtain ⟨hc, rv⟩ := rv
      obtain ⟨us, hh, l⟩ := rg.lst hc e
      exact ⟨_, us, rv, rfl, hh, cl _ _ _ _ r (.set hh) (rg.put hc hh rfl) rfl⟩
    · exact r.elim
  · exact r.elim
theorem m_reverse : MtR X "list.reverse" (rUpM X.K mReverse) := mt_imp mt_reverse fun x vs H Q ⟨d, ds, g, Qd, rv, rl, rg, r, cl⟩ => by
  unfold mReverse at r
  split at r
  · cases (show vs = [] from rl)
    split at r
    · rename_i xs e
      obtain ⟨hc, rv⟩ := rv
      obtain ⟨us, hh, l⟩ := rg.lst hc e
      exact ⟨_, us, rv, rfl, hh, cl _ _ _ _ r (.set hh) (rg.put hc hh l.rev) rfl⟩
    · exact r.elim
  · exact r.elim
theorem m_insert : MtR X "list.insert" (rUpM X.K mInsert) := mt_imp mt_insert fun x vs H Q ⟨d, ds, g, Qd, rv, rl, rg, r, cl⟩ => by
  unfold mInsert at r
  split at r
  · obtain ⟨w, u, rfl, rw', ru⟩ := rl2 rl
    cases rw'
    split at r
    · rename_i xs e
      obtain ⟨hc, rv⟩ := rv
      obtain ⟨us, hh, l⟩ := rg.lst hc e
      exact ⟨_, us, _, u, rv, rfl, hh, by rw [l.length]; exact r.1, r.2.1, r.2.2.1, cl _ _ _ _ r.2.2.2 (.set hh) (rg.put hc hh (((l.take _).app (.one ru)).app (l.drop _))) rfl⟩
    · exact r.elim
  · exact r.elim
theorem m_index (hu : X.A.units + 65 < cLine) : MtR X "list.index" (rUpM X.K mIndex) := mt_imp (mt_indexD hu) fun x vs H Q ⟨d, ds, g, Qd, rv, rl, rg, r, cl⟩ => by
  unfold mIndex at r
  split at r
  · obtain ⟨w, rfl, rw'⟩ := rl1 rl
    obtain ⟨hc, rfl⟩ := rv
    split at r
    · rename_i qs p e1 e2
      obtain ⟨h1, h2, r⟩ := r
      split at r
      · rename_i j e3
        obtain ⟨hj, hq, hm⟩ := List.findIdx?_eq_some_iff_getElem.mp e3
        refine ⟨_, w, p, qs, j, qs[j], rfl, rfl, pyN_dp rg 4 _ _ hc e1, py_dp rg e2 rw', h1, h2, by simp [hj], hq, fun m z hlt hz => ?_, cl _ _ _ _ r (.refl _) rg rfl⟩
        have := hm m hlt
        have hmz : qs[m] = z := by
          rw [List.getElem?_eq_getElem (by omega)] at hz
          exact Option.some.inj hz
        rw [hmz] at this
        simpa using this
      · exact r.elim
    · exact r.elim
  · exact r.elim
theorem m_split : MtR X "str.split" (rUpM X.K mSplit) := mt_imp mt_split fun x vs H Q ⟨d, ds, g, Qd, rv, rl, rg, r, cl⟩ => by
  unfold mSplit at r
  split at r
  · obtain ⟨w, rfl, rw'⟩ := rl1 rl
    cases rw'
    exact ⟨_, _, rv, rfl, r.1, r.2.1, fun p hp => cl _ _ _ _ (r.2.2 _ (rg.none hp)) (.new hp) (rg.new hp (strs_rep _)) rep_ref⟩
  · exact r.elim
theorem m_join : MtR X "str.join" (rUpM X.K mJoin) := mt_imp mt_join fun x vs H Q ⟨d, ds, g, Qd, rv, rl, rg, r, cl⟩ => by
  unfold mJoin at r
  split at r
  · obtain ⟨w, rfl, rw'⟩ := rl1 rl
    obtain ⟨hc, rfl⟩ := rw'
    split at r
    · rename_i xs e
      split at r
      · rename_i ys e2
        obtain ⟨us, hh, l⟩ := rg.lst hc e
        have := strsD_rep l e2
        subst this
        exact ⟨_, _, ys, rv, rfl, .inl (.of hh), r.1, cl _ _ _ _ r.2 (.refl _) rg rfl⟩
      · exact r.elim
    · exact r.elim
  · exact r.elim
end
end PP
namespace PP
open PySem PySem.Spec PyProof.Rows L2
section
variable {X : Cx} {C : Ex → Addr} {W : WX} {e : Expr} {pos p p1 p2 : Pos} {te : DTE}
theorem d_isi1 {t : Ty} {x : Str} (hg : Gl X "isinstance") (hm : X.mg "isinstance" = none) (h : PE X e (up X.K C W te)) (hg2 : Gl X x) (hm2 : X.mg x = none) (hv : bootBuiltins x = some (.type t.nm)) (hn : x ≠ "__name__") (hdb : (x == ("__debug__" : Str)) = false)
    (hs : starEach [e, .Name x p1] X.env = (false, eval e X.env) :: starEach [.Name x p1] X.env) (hpl : (backTo pos (starEach [.Name x p1] X.env)).any (·.1) = false) :
    PE X (.Call (.Name "isinstance" p) [e, .Name x p1] [] pos) (up X.K C W (dUn (dIsi [t]) te)) := by
  refine pe_imp (pe_callB call_isi hg hm (by decide +kernel) (pa_cons h (pa_cons (pe_bltn (v := .ty t.nm) hg2 hm2 hv rfl hn hdb) pa_nil rfl) hs) (by decide) (by decide) hs hpl) fun σ H Q ⟨env, g, Xd, Qd, re, rg, q, cl, cx⟩ => ?_
  refine ⟨env, g, Xd, _, re, rg, q, fun d g1 v H1 q1 k r rv => ?_, cx⟩
  have q1 : dIsi [t] d g1 Qd := q1
  refine ⟨v, .ty t.nm, tyV' d, .type t.nm, isTy t d, rfl, .ty _, tyx_of r rv q1.1, kit_all t d X.K, ?_⟩
  have := q1.2
  simp only [List.any_cons, List.any_nil, Bool.or_false] at this
  exact cl _ _ _ _ this k r rfl
theorem cls_all (ts : List Ty) : Paired ClsV (ts.map fun t => V.ty t.nm) (ts.map fun t => Value.type t.nm) := by
  induction ts with
  | nil => exact .nil
  | cons t ts ih => exact .cons (.ty _) ih
def tTys : List Ty → TA
  | [] => tNil
  | t :: ts => tCons (tC (.ty t.nm)) (tTys ts)
theorem tTys_run {σ : List (Option V)} {H : Hp} {Q : List V → Hp → Prop} : ∀ {ts : List Ty}, Q (ts.map fun t => V.ty t.nm) H → tTys ts σ H Q
  | [], h => h
  | t :: ts, h => by
    show tTys ts σ H fun xs H2 => Q (V.ty t.nm :: xs) H2
    exact tTys_run (ts := ts) h
theorem d_isiT {ts : List Ty} {es : List Expr} {k : Nat} {tp : Pos} (hg : Gl X "isinstance") (hm : X.mg "isinstance" = none) (h : PE X e (up X.K C W te)) (hts : PA X es (tTys ts)) (hl : ts.length ≤ sizeLine)
    (hs : starEach [e, .Tuple es k tp] X.env = (false, eval e X.env) :: starEach [.Tuple es k tp] X.env) (hpl : (backTo pos (starEach [.Tuple es k tp] X.env)).any (·.1) = false) :
    PE X (.Call (.Name "isinstance" p) [e, .Tuple es k tp] [] pos) (up X.K C W (dUn (dIsi ts) te)) := by
  refine pe_imp (pe_callB call_isiT hg hm (by decide +kernel) (pa_cons h (pa_cons (pe_tup hts) pa_nil rfl) hs) (by decide) (by decide) hs hpl) fun σ H Q ⟨env, g, Xd, Qd, re, rg, q, cl, cx⟩ => ?_
  refine ⟨env, g, Xd, _, re, rg, q, fun d g1 v H1 q1 k r rv => ?_, cx⟩
  have q1 : dIsi ts d g1 Qd := q1
  refine tTys_run ⟨by simpa using hl, fun o ho => ?_⟩
  refine ⟨v, o, _, tyV' d, _, ts.any fun t => isTy t d, rfl, upd_same, cls_all ts, tyx_of (r.tup ho) (rv.keep (.new ho)) q1.1, kit_any X.K d ts, ?_⟩
  exact cl _ _ _ _ q1.2 (k.trans (.new ho)) (r.tup ho) rfl
structure ExAt (X : Cx) (C : Ex → Addr) (n : Ex) : Prop where
  mg : X.mg n.nm = some (.ref (C n))
  keep : PySem.W.keepIn X.K (.ref (C n)) = true
  own : ∃ bm, ExcBaseFacts "ValueError" "ValueError.__new__" "ValueError.__init__" bm ∧ PySem.W.excIn X.K (C n) bm "ValueError.__new__" = true
  raises : Raises X (.ref (C n))
def dRaise (n : Ex) : DTS := fun E env g => E.ex n env g
theorem s_raise {n : Ex} {m : Str} {j : Nat} {p3 : Pos} (hc : X.calm = true) (tk : L2N.Takes X W) (F : ExAt X C n) (hg : Gl X n.nm) (hdb : (Str.ofString n.nm == ("__debug__" : Str)) = false) : PS X (.Raise (some (.Call (.Name n.nm p) [.Constant (.str m) j p2] [] p3)) none pos) (upS X.K C W (dRaise n)) := by
  obtain ⟨bm, hF, hq⟩ := F.own
  exact ps_imp (L2N.ps_raise hc tk (L2N.pmk_own hF hq F.mg F.keep F.raises hg hdb)) fun D σ H ⟨env, g, E, re, rg, q, cn, cr, cx⟩ => cx _ _ _ _ _ q (.refl _) re rg
end
end PP
namespace PP
open PySem PySem.Spec PyProof.Rows L2
abbrev enO (it : Addr) : Obj := { cls := .type "enumerate", data := .fields #[.none, .bool false, .ref it, rawInt 0, .none, .none] }
set_option maxHeartbeats 1000000 in
theorem en_new {v : Value} {o : Obj} {P : Heap → Prop} (B : Begins v o P) : Meets (Builtin.«enumerate.__new__» ⟨[.type "enumerate", v], []⟩) (fun _ R s => P s.heap ∧ R (.ok (.ret (.ref (s.heap.push o).objs.size))) { s with heap := (s.heap.push o).push (enO s.heap.objs.size) }) :=
  .of_wp fun pr ww AA R s ⟨h1, h⟩ => by
    obtain ⟨hp, g, d, tk, os⟩ := s
    have hsub := sub_enumerate
    have q1 : ∀ {A' : Around} {E Q : Value → Shared → Prop}, Q (.ref hp.objs.size) ⟨hp.push o, g, d, tk, os⟩ → wpAny (model pr ww) A' (pyIter v) Q E ⟨hp, g, d, tk, os⟩ := fun q => B.iter pr ww _ _ ⟨hp, g, d, tk, os⟩ _ h1 q
    wp_walk using q1
    refine wpAny_stack_any (fun st => wpAny_pure ?_)
    split
    · rename_i c _ _ _ _ _
      cases (c == Value.type "enumerate") <;> (wp_walk using q1; exact ⟨_, rfl, h⟩)
    · wp_walk using q1
      exact ⟨_, rfl, h⟩
theorem en_call {prog : Program} {w : World} {A : Around} {E : Value → Shared → Prop} {s : Shared} {v : Value} {o : Obj} {P : Heap → Prop} {Q : Value → Shared → Prop} (B : Begins v o P) (h1 : P s.heap)
    (h : ∀ h', IsEnum h' (s.heap.objs.size + 1) s.heap.objs.size 0 .none → h'.get? s.heap.objs.size = some o → (∀ b u, s.heap.get? b = some u → h'.get? b = some u) → Q (.ref (s.heap.objs.size + 1)) { s with heap := h' }) :
    wpAny (model prog w) A (call (.type "enumerate") [v]) Q E s := by
  refine callType_new F.called_enumerate (by decide) (F.typeCall_enumerate_1 _) (F.newCall_enumerate_1 _) (fun obj => F.args_object_init_2 obj _) F.entry_enumerate_new (en_new B) ⟨h1, ?_⟩
  have hz : (s.heap.push o).objs.size = s.heap.objs.size + 1 := Heap.size_push ..
  show _ ∧ _
  rw [hz]
  have he : IsEnum ((s.heap.push o).push (enO s.heap.objs.size)) (s.heap.objs.size + 1) s.heap.objs.size 0 .none := by
    have q := Heap.get?_push_size (s.heap.push o) (o := enO s.heap.objs.size) rfl
    rw [hz] at q
    exact q
  exact ⟨⟨_, he, rfl⟩, h _ he (Heap.get?_push_of_some _ (Heap.get?_push_size _ B.free)) fun b u x => Heap.get?_push_of_some _ (Heap.get?_push_of_some _ x)⟩
def IteT (K : PySem.W.Frag) (a : Addr) : It :=
  ⟨fun i H => ∃ (xs : List V) (x : V), SqT K H a xs ∧ xs[i]? = some x, fun i H v H' => ∃ T x, v = .ref T ∧ H T = none ∧ H' = upd H T (.tup [.int (i : Nat), x]) ∧ ∀ xs, SqT K H a xs → xs[i]? = some x, fun i H => ∃ xs : List V, SqT K H a xs ∧ xs.length = i⟩
theorem turn_enumT {P : Program} {w : World} {K : PySem.W.Frag} {elts : List Expr} {kk : Nat} {tpos : Pos} (a e it : Addr) (hai : a < it) (hae : a < e) :
    Turn P w K (.Tuple elts kk tpos) (IteT K a) [e, it] e (fun i h => (∃ old, IsEnum h e it ((i : Nat) : Int) old) ∧ h.IsTupleIter it a i ∧ e ≠ it) where
  mem := by simp
  obj := fun i h st b hb => by
    obtain ⟨⟨old, he⟩, ⟨o, ho, hc, hd⟩, _⟩ := st
    rcases (by simpa using hb : b = e ∨ b = it) with rfl | rfl
    · exact ⟨_, he, fun v q => nomatch q⟩
    · exact ⟨o, ho, fun v q => by rw [hd] at q; cases q⟩
  keep := fun i h h' st k => let ⟨⟨old, he⟩, hi, hne⟩ := st; ⟨⟨old, k e (by simp) _ he⟩, hi.at fun o q => k it (by simp) o q, hne⟩
  item := by
    intro X hP hw hK hc i pins s σ H E I hf st hg
    subst hP hw hK
    obtain ⟨⟨old, he⟩, hit, hne⟩ := st
    obtain ⟨xs, x, hq, hx⟩ := hg
    obtain ⟨its, rv, p, hz⟩ := I.tuple hq
    obtain ⟨u, hu, ru⟩ := rv.get hx
    have hel : e < s.heap.objs.size := Heap.lt_size he
    have hil : it < s.heap.objs.size := by obtain ⟨_, q, _⟩ := hit; exact Heap.lt_size q
    have D := Draws.tuple (prog := X.prog) (w := X.w) (A := X.A.in1) (I.ok.hd hc) it a (Nat.ne_of_lt hai) its.toArray
    have hlt : i < its.toArray.size := by
      rw [List.size_toArray]
      exact (List.getElem?_eq_some_iff.mp hu).1
    refine wpAny_pyNext_enum_itemD D he ⟨hit, p⟩ hlt hne ?_ fun x' h' tk hx' ho st' hT hsz hk => ?_
    · intro hm
      rcases (by simpa using hm : e = it ∨ e = a) with z | z
      · exact hne z
      · exact absurd z (Nat.ne_of_gt hae)
    have ex : x' = u := by
      have z : its[i]? = some x' := by simpa using hx'
      rw [hu] at z
      exact (Option.some.inj z).symm
    subst ex
    refine ⟨_, rfl, wpAny_letOwnedTupleGo_enum (s := { s with heap := h', toks := tk + 1 }) ho fun h'' he' sb => ?_⟩
    have hT2 : h''.get? s.heap.objs.size = some { cls := .type "tuple", data := .seq #[.int i tk, x'] } := (sb.2 _ (Nat.ne_of_gt hel)).trans hT
    have new : ObjOk X.prog X.w (upd H s.heap.objs.size (.tup [.int (i : Nat), x])) h'' s.heap.objs.size (.tup [.int (i : Nat), x]) :=
      ⟨by show 2 ≤ sizeLine; decide, [.int i tk, x'], .cons ⟨_, rfl⟩ (.cons ru .nil), ⟨_, hT2, rfl, _, rfl⟩⟩
    have I1 : Inv X pins σ (upd H s.heap.objs.size (.tup [.int (i : Nat), x])) { s with heap := h'', toks := tk + 1 } :=
      I.turnedNew (ch := [e, it]) (fun b ob hb q => (sb.2 b (fun z => hb (by simp [z]))).trans (hk b ob (fun z => hb (by simp [z])) (fun z => hb (by simp [z])) q)) hf (Nat.le_refl _) new
    refine ⟨.ref s.heap.objs.size, _, I1, rfl, ⟨_, x, rfl, I.hok.fresh (Nat.le_refl _), rfl, fun ys hy => by rw [I.tuple_inj hy hq]; exact hx⟩, ⟨⟨x', ?_⟩, st'.1.at fun o q => (sb.2 it (Ne.symm hne)).trans q, hne⟩, fun b hb => ?_⟩
    · have e1 : ((i + 1 : Nat) : Int) = (i : Int) + 1 := by omega
      rw [e1]
      exact he'
    · have hb' : b < s.heap.objs.size := by
        rcases (by simpa using hb : b = e ∨ b = it) with rfl | rfl
        · exact hel
        · exact hil
      rw [upd_ne (Nat.ne_of_lt hb')]
      exact (hf b hb).1
  done := by
    intro X hP hw hK hc i pins s σ H E I hf st hg
    subst hP hw hK
    obtain ⟨⟨old, he⟩, hit, hne⟩ := st
    obtain ⟨xs, hq, hx⟩ := hg
    obtain ⟨its, rv, p, hz⟩ := I.tuple hq
    obtain ⟨f0, f1, f2, f3, f4, f5⟩ := hf it (by simp)
    have hl := rv.length
    have D := Draws.tuple (prog := X.prog) (w := X.w) (A := X.A.in1) (I.ok.hd hc) it a (Nat.ne_of_lt hai) its.toArray
    have hsz : its.toArray.size = i := by rw [List.size_toArray]; omega
    rw [hsz] at D
    exact wpAny_pyNext_enum_endD D he ⟨hit, p⟩ fun h' eb => ⟨rfl, I.turned (t' := s.toks) (fun b o hb q => eb b o hb q) f0 f1 f3 f4 f5⟩
  self := fun A i s Q E st h => let ⟨⟨_, he⟩, _⟩ := st; wpAny_pyIter_enum he h
def iEnumA (K : PySem.W.Frag) (ta : TE) : TI := fun σ H R => ta σ H fun v H1 => (∃ a xs, v = .ref a ∧ SqL K H1 a xs ∧ R (Ite K a) H1) ∨ ∃ a xs, v = .ref a ∧ SqT K H1 a xs ∧ R (IteT K a) H1
section
variable {X : Cx} {C : Ex → Addr} {W : WX} {e : Expr} {pos p tpos : Pos} {elts : List Expr} {kk : Nat} {te : DTE}
theorem pi_enumA {ta : TE} (hg : Gl X "enumerate") (hm : X.mg "enumerate" = none) (ha : PE X e ta) (hs : starEach [e] X.env = [(false, eval e X.env)]) : PI X (.Tuple elts kk tpos) (.Call (.Name "enumerate" p) [e] [] pos) (iEnumA X.K ta) := by
  refine ⟨fun pins s σ H R I h => ?_⟩
  have hA : PA X [e] (tCons ta tNil) := pa_cons ha pa_nil hs
  refine Call_ (ld_blt I hg hm boot_enumerate (PyProof.Rows.callWith_type1 (thn (hA.run pos pins s σ H (fun vs H1 => ∃ v, vs = [v] ∧ ((∃ a xs, v = .ref a ∧ SqL X.K H1 a xs ∧ R (Ite X.K a) H1) ∨ ∃ a xs, v = .ref a ∧ SqT X.K H1 a xs ∧ R (IteT X.K a) H1)) I ?_) fun us s1 ⟨vs, H1, I1, r1, v, ev, q1⟩ => ?_) hs rfl))
  · refine pe_enumK ha h
  · subst ev
    cases r1 with
    | cons r rr =>
      cases rr
      have fin : ∀ {a : Addr} {o : Obj} {J : It} {tn : Nat → Heap → Prop} {PP : Heap → Prop} {u : Value}, Begins u o PP → PP s1.heap → R J H1 → Turn X.prog X.w X.K (.Tuple elts kk tpos) J [s1.heap.objs.size + 1, s1.heap.objs.size] (s1.heap.objs.size + 1) tn →
          (∀ h', IsEnum h' (s1.heap.objs.size + 1) s1.heap.objs.size 0 .none → h'.get? s1.heap.objs.size = some o → tn 0 h') → wpAny (model X.prog X.w) X.A (call (.type "enumerate") [u]) (fun v s2 => wpAny (model X.prog X.w) X.A (pyIter v) (PIE X pins σ (.Tuple elts kk tpos) R) X.xe s2) X.xe s1 := by
        intro a o J tn PP u B h1 q T hst
        refine en_call B h1 fun h' he hit hk => wpAny_pyIter_enum he ?_
        have I2 : Inv X pins σ H1 { s1 with heap := h' } := I1.kept (t' := s1.toks) hk
        refine ⟨s1.heap.objs.size + 1, [s1.heap.objs.size + 1, s1.heap.objs.size], _, _, H1, rfl, I2, T, hst h' he hit, fun b hb => ?_, q⟩
        have hle : s1.heap.objs.size ≤ b := by
          rcases (by simpa using hb : b = s1.heap.objs.size + 1 ∨ b = s1.heap.objs.size) with rfl | rfl
          · exact Nat.le_add_right _ _
          · exact Nat.le_refl _
        exact I1.fpOk hle (I1.hok.fresh hle)
      rcases q1 with ⟨a, xs, ex, hq, q⟩ | ⟨a, xs, ex, hq, q⟩
      · subst ex
        cases r
        obtain ⟨its, rv, pl, hz⟩ := I1.list hq
        exact fin (a := a) (begins_list a its.toArray) pl.isList q (turn_enum a _ _) fun h' he hit => ⟨⟨_, he⟩, ⟨_, hit, rfl, rfl⟩, Nat.succ_ne_self _⟩
      · subst ex
        cases r
        obtain ⟨its, rv, pl, hz⟩ := I1.tuple hq
        have hlt : a < s1.heap.objs.size := pl.lt
        exact fin (a := a) (begins_tuple a its.toArray) pl q (turn_enumT a _ _ hlt (Nat.lt_succ_of_lt hlt)) fun h' he hit => ⟨⟨_, he⟩, ⟨_, hit, rfl, rfl⟩, Nat.succ_ne_self _⟩
where
  pe_enumK {ta : TE} {σ : L2.St} {H : Hp} {R : It → Hp → Prop} (ha : PE X e ta) (h : iEnumA X.K ta σ H R) : tCons ta tNil σ H (fun vs H1 => ∃ v, vs = [v] ∧ ((∃ a xs, v = .ref a ∧ SqL X.K H1 a xs ∧ R (Ite X.K a) H1) ∨ ∃ a xs, v = .ref a ∧ SqT X.K H1 a xs ∧ R (IteT X.K a) H1)) := by
    have e : (fun (x : V) (H1 : Hp) => ∃ v, x :: [] = [v] ∧ ((∃ a xs, v = .ref a ∧ SqL X.K H1 a xs ∧ R (Ite X.K a) H1) ∨ ∃ a xs, v = .ref a ∧ SqT X.K H1 a xs ∧ R (IteT X.K a) H1)) =
        fun (v : V) (H1 : Hp) => ((∃ a xs, v = .ref a ∧ SqL X.K H1 a xs ∧ R (Ite X.K a) H1) ∨ ∃ a xs, v = .ref a ∧ SqT X.K H1 a xs ∧ R (IteT X.K a) H1) := by
      funext x H1
      apply propext
      constructor
      · rintro ⟨v, e, q⟩
        cases e
        exact q
      · intro q
        exact ⟨x, rfl, q⟩
    have h2 : ta σ H (fun (x : V) (H1 : Hp) => ∃ v, x :: [] = [v] ∧ ((∃ a xs, v = .ref a ∧ SqL X.K H1 a xs ∧ R (Ite X.K a) H1) ∨ ∃ a xs, v = .ref a ∧ SqT X.K H1 a xs ∧ R (IteT X.K a) H1)) := by
      rw [e]
      exact h
    exact h2
def enumD (xs : List D) : List D := xs.mapIdx fun i x => D.tup [.int (i : Nat), x]
theorem ite_ok {K : PySem.W.Frag} {H0 : Hp} {a : Addr} {xs : List D} (hc : a % 2 = 0) : ItOk K (Ite K (a / 2)) H0 (enumD xs) (fun g => g a = some xs) where
  go := fun i g H hi k r st => by
    obtain ⟨vs, h, l⟩ := r.lst hc st
    have hv : i < vs.length := by rw [l.length]; simpa [enumD] using hi
    exact ⟨vs, vs[i], .of h, by simp [hv]⟩
  yld := fun i g H x H' hi k r st y => by
    obtain ⟨vs, h, l⟩ := r.lst hc st
    obtain ⟨T, u, ex, hT, eH, y⟩ := y
    obtain ⟨d, e1, rd⟩ := l.getv (y vs (.of h))
    subst ex eH
    exact ⟨.tup [.int (i : Nat), d], by simp [enumD, e1], ⟨T, [.int (i : Nat), u], rfl, .inl upd_same, ⟨_, [u], rfl, rfl, ⟨u, [], rfl, rd.keep (.new hT), rfl⟩⟩⟩, .new hT, r.tup hT⟩
  stop := fun i g H hi hi2 k r st => by
    obtain ⟨vs, h, l⟩ := r.lst hc st
    exact ⟨vs, .of h, by rw [l.length]; simpa [enumD] using hi⟩
theorem iteT_ok {K : PySem.W.Frag} {H0 : Hp} {a : Addr} {xs : List D} {vs : List V} (t : TupP K H0 a vs) (l : RepL K H0 xs vs) : ItOk K (IteT K a) H0 (enumD xs) (fun _ => True) where
  go := fun i g H hi k r st => by
    have hv : i < vs.length := by rw [l.length]; simpa [enumD] using hi
    exact ⟨vs, vs[i], (t.keep k).sq, by simp [hv]⟩
  yld := fun i g H x H' hi k r st y => by
    obtain ⟨T, u, ex, hT, eH, y⟩ := y
    obtain ⟨d, e1, rd⟩ := l.getv (y vs (t.keep k).sq)
    subst ex eH
    have k' := k.trans (TK.new (o := .tup [.int (i : Nat), u]) hT)
    exact ⟨.tup [.int (i : Nat), d], by simp [enumD, e1], ⟨T, [.int (i : Nat), u], rfl, .inl upd_same, ⟨_, [u], rfl, rfl, ⟨u, [], rfl, rd.keep k', rfl⟩⟩⟩, .new hT, r.tup hT⟩
  stop := fun i g H hi hi2 k r st => by
    refine ⟨vs, (t.keep k).sq, ?_⟩
    rw [l.length]
    simp [enumD] at hi hi2
    omega
def dEnum : D → G → (List D → (G → Prop) → G → Prop) → Prop
  | .ref a => fun g R => match g a with | some xs => R (enumD xs) (fun g' => g' a = some xs) g | none => False
  | .tup xs => fun g R => R (enumD xs) (fun _ => True) g
  | _ => fun _ _ => False
theorem d_enum (hg : Gl X "enumerate") (hm : X.mg "enumerate" = none) (ha : PE X e (up X.K C W te)) (hs : starEach [e] X.env = [(false, eval e X.env)]) : PI X (.Tuple elts kk tpos) (.Call (.Name "enumerate" p) [e] [] pos) (upI X.K C W (dI1 dEnum te)) := by
  refine pi_imp (pi_enumA hg hm ha hs) fun σ H R ⟨env, g, Xd, Rd, re, rg, t, cl, cx⟩ => ?_
  refine ⟨env, g, Xd, _, re, rg, t, fun d g1 v H1 q k r rv => ?_, cx⟩
  dsimp only at q
  unfold dEnum at q
  split at q
  · split at q
    · rename_i xs e
      obtain ⟨hc, rv⟩ := rv
      obtain ⟨vs, hh, l⟩ := r.lst hc e
      exact .inl ⟨_, vs, rv, .of hh, cl _ _ _ _ _ q k r (ite_ok hc)⟩
    · exact q.elim
  · obtain ⟨a, vs, e, t, l⟩ := rv
    exact .inr ⟨a, vs, e, t.sq, cl _ _ _ _ _ q k r (iteT_ok t l)⟩
  · exact q.elim
end
end PP
namespace PP
open PySem PySem.Spec PyProof.Rows L2
section
variable {X : Cx} {pins : List (Addr × Obj)} {σ : L2.St} {H : Hp} {s : Shared} {a : Addr}
theorem inv_freeze (I : Inv X pins σ H s) {oe : Obj} {vs : Array Value} (ha : s.heap.get? a = some oe) (hd : oe.data = .fields vs) (na : H a = none) (nL : a ≠ X.env.locals)
    (n0 : ∀ b o, X.s_0.heap.get? b = some o → b ≠ a) (np : ∀ p ∈ X.pn ++ pins, p.1 ≠ a) : Inv X pins σ (upd H a (.frz oe excU)) s := by
  have ot : ∀ b u, H b = some u → b ≠ a := fun b u e => ne_of_none e na
  refine ⟨I.ok, I.os, I.bare, ⟨I.base.keep, I.base.slot, fun b o e n hx => ?_, I.base.there, fun b xs e => ?_, fun b o u e => ?_, fun b ps e => ?_⟩, I.loc, I.cell, ?_, fun x c e => ?_, fun p hp => ?_, fun b ob e => ?_, I.len⟩
  · rw [upd_ne (n0 b o e)]; exact I.base.free b o e n hx
  · have z := I.base.tups b xs e
    rw [upd_ne (ot _ _ z)]; exact z
  · have z := I.base.frzs b o u e
    rw [upd_ne (ot _ _ z)]; exact z
  · obtain ⟨m, z⟩ := I.base.tbls b ps e
    exact ⟨m, by rw [upd_ne (ot _ _ z)]; exact z⟩
  · rw [upd_ne (Ne.symm nL)]; exact I.free
  · rw [upd_ne]
    · exact I.freeC x c e
    · intro z
      subst z
      obtain ⟨v, o, h1, h2⟩ := I.cell x c e
      rw [ha] at h1
      cases h1
      rw [hd] at h2
      cases h2
  · obtain ⟨h1, h2, h3, h4, h5⟩ := I.pin p hp
    exact ⟨h1, by rw [upd_ne (np p hp)]; exact h2, h3, h4, h5⟩
  · by_cases hb : b = a
    · subst hb
      rw [upd_same] at e
      cases e
      exact ⟨ha, trivial, ⟨_, ha⟩, fun _ _ _ _ => trivial⟩
    · rw [upd_ne hb] at e
      exact (I.hok b ob e).stay (fun _ _ _ q => q) (fun c q => by rw [upd_ne (ot _ _ q)]; exact q) fun c xs q => by rw [upd_ne (ot _ _ q)]; exact q
theorem inv_suite (I : Inv X pins σ H s) : Inv (X.suite a (X.pn ++ pins)) [] σ H s :=
  ⟨I.ok.suite _ _, I.os, I.bare, I.base, I.loc, I.cell, I.free, I.freeC, fun p hp => I.pin p (by rw [List.append_nil] at hp; exact hp), I.hok, I.len⟩
theorem inv_unsuite {pn' : List (Addr × Obj)} (I : Inv (X.suite a (X.pn ++ pins)) pn' σ H s) (ok : X.Ok) : Inv X pins σ H s :=
  ⟨ok, I.os, I.bare, I.base, I.loc, I.cell, I.free, I.freeC, fun p hp => I.pin p (List.mem_append_left _ hp), I.hok, I.len⟩
end
def wFz (K : PySem.W.Frag) (c : Value) (i : Nat) (ts : Addr → TS) (Wout : WX) (D : Ends) : WX := fun cls d σ H =>
  ∃ b, PySem.W.exmOne K cls c = some b ∧ (b = true → ∀ a oe, H a = none → oe.cls = cls → oe.dict = d → (∃ vs, oe.data = .fields vs ∧ vs[2]? = some .none) →
      ts a { nx := fun σ' H' => D.nx (σ'.set i none) H', rt := D.rt, bk := fun σ' H' => D.bk (σ'.set i none) H', ct := fun σ' H' => D.ct (σ'.set i none) H' } (σ.set i (some (.ref a))) (upd H a (.frz oe excU))) ∧
    (b = false → Wout cls d σ H)
section
variable {X : Cx} {x n : Str} {c : Value} {i : Nat} {body suite : List Stmt} {b₀ : Stmt} {np pos pos' : Pos} {tb : WX → TS} {ts : Addr → TS} {Wout : WX}
theorem ps_try_fz (hs : X.stack = X.env :: X.outer) (hf : X.env.frame = some X.env.locals) (hex : X.ex = []) (hN : X.N.Nodup) (hi : X.N[i]? = some n) (hln : X.env.kindOf n = some .local) (hc : Names X x c) (tk : L2N.Takes X Wout)
    (hb : ∀ (W : WX) (pn : List (Addr × Obj)) (xe : Value → Shared → Prop), L2N.Takes (X.tr pn xe) W → PassesOwn (model X.prog X.w) X.A X.env xe → PSs (X.tr pn xe) body (tb W))
    (hsu : ∀ (a : Addr) (pn : List (Addr × Obj)), PSs (X.suite a pn) (b₀ :: suite) (ts a)) :
    PS X (.Try body [.ExceptHandler (some (.Name x np)) (some n) (b₀ :: suite) pos'] [] [] pos) (fun D σ H => tb (wFz X.K c i ts Wout D) D σ H) := by
  refine ⟨fun pins s σ H D I h => ?_⟩
  have ok := I.ok
  have hfr : X.A.frames = some (X.env :: X.outer) := by rw [ok.frames, hs]
  have hloc : Loc X.env.scope n := .inl hln
  refine wpAny_Try_except ?_
  refine wpAny_mono ((hb (wFz X.K c i ts Wout D) (X.pn ++ pins) (fun e s₁ => wpAny (model X.prog X.w) X.A (noteFrame e X.env) (fun _ s₂ => wpAny (model X.prog X.w) X.A (setFlight e none) (fun _ s₃ =>
    wpAny (model X.prog X.w) X.A (handleBy e X.env [.ExceptHandler (some (.Name x np)) (some n) (b₀ :: suite) pos']) (SP X pins D) X.xe s₃) X.xe s₂) X.xe s₁) (fun u s' xx => ?_) PassesOwn.looking).run [] s σ H D (I.toTry _) h) (fun f s1 hsp => ?_) (fun e s1 he => he)
  · obtain ⟨a, B, sI, pins', σ', H', cls, d, rfl, J', nb, up, sky, na, os, ag, b, hb1, hyes, hno⟩ := xx
    have J : Inv X pins σ' H' sI := J'.ofTry ok
    have sky' : Sky B (X.env :: X.outer) a (L2N.Zn cls d) X.env.locals s'.heap := by rw [← hs]; exact sky
    show wpAny (model X.prog X.w) X.A (noteFrame (.ref a) X.env) _ _ _
    refine L2N.Sky.land L2N.Zn.steady hfr hf sky' fun h3 fl3 up3 => ?_
    have J3 : Inv X pins σ' H' { s' with heap := h3 } := J.landed nb fl3.1 (up.trans up3) os ag
    obtain ⟨oe3, vs3, he3, hz3, hd3⟩ := fl3.there
    have notFr : ∀ {h : Heap} {o : Obj} {vs : Array Value}, h.FunFrames B (X.env :: X.outer) → h.get? a = some o → o.data = .fields vs → a ∉ frs (X.env :: X.outer) := fun {h o vs} ff e dd hm => by
      obtain ⟨_, o', e', hnf⟩ := ff.mem hm
      rw [e] at e'; cases e'
      exact hnf _ dd
    have nfr := notFr fl3.2.2.1 he3 hd3
    have nL : a ≠ X.env.locals := fun z => nfr (List.mem_filterMap.mpr ⟨X.env, List.mem_cons_self, by rw [hf, z]⟩)
    have nB : ∀ b o, sI.heap.get? b = some o → b ≠ a := fun b o e z => by
      subst z
      have q := nb b o e (by rw [show X.stack = X.env :: X.outer from hs]; exact nfr)
      rw [fl3.2.1] at q
      cases q
    have n0 : ∀ b o, X.s_0.heap.get? b = some o → b ≠ a := fun b o e => by
      obtain ⟨o', q⟩ := J.base.there b o e (by rw [hex]; simp)
      exact nB b o' q
    have np' : ∀ p ∈ X.pn ++ pins, p.1 ≠ a := fun p hp => nB _ _ (J.pin p hp).1
    have S3 : Inv (X.suite a (X.pn ++ pins)) [] σ' H' { s' with heap := h3 } := inv_suite J3
    refine wpAny_handleBy_cons (codeAny_handlers_test ?_) (by intro q; cases q)
    have LT : PySem.W.Looks (model X.prog X.w) h3 (typeOf (.ref a)) cls := fun A Q E s k q => wpAny_typeOf_ref (k _ _ he3) (by rw [hz3.1]; exact q)
    have LM := PySem.W.exm_one (M := model X.prog X.w) (J3.kIn) LT hb1
    have test : ∀ {Q : Value → Shared → Prop} {E : Value → Shared → Prop}, Q c { s' with heap := h3 } → wpAny (model X.prog X.w) (X.A.mark (some (.ref a))) (eval (.Name x np) X.env) Q E { s' with heap := h3 } := fun {Q E} q => by
      obtain ⟨hg, hdbg, hm | ⟨hm, hv, hnn⟩⟩ := hc
      · exact ld_glob (X := X.suite a (X.pn ++ pins)) S3 hg hm q hdbg
      · exact ld_blt (X := X.suite a (X.pn ++ pins)) S3 hg hm hv q hnn hdbg
    refine test (LM.here ?_)
    cases b with
    | true =>
      refine codeAny_handlers_suite_as ?_
      refine HandSPX.lands_againZ fl3 fun h4 fl4 up4 => ?_
      have J4 : Inv X pins σ' H' { s' with heap := h4 } := J.landed nb fl4.1 ((up.trans up3).trans up4) os ag
      obtain ⟨oe4, vs4, he4, hz4, hd4⟩ := fl4.there
      have S4 := inv_suite (a := a) (inv_freeze J4 he4 hd4 na nL n0 np')
      refine store_ok (X := X.suite a (X.pn ++ pins)) (v := .ref a) S4 hN hi hloc rfl (fun s5 S5 => ?_) (.inr hln)
      refine wpAny_mono ((hsu a (X.pn ++ pins)).run [] s5 _ _ _ S5 (hyes rfl a oe4 na hz4.1 hz4.2.1 ⟨_, hd4, hz4.2.2 vs4 hd4⟩)) (fun f s6 hsp => ?_) (fun _ _ z => False.elim z)
      have end_ : ∀ {σ6 : L2.St} {H6 : Hp} {Q : Shared → Prop}, Inv (X.suite a (X.pn ++ pins)) [] σ6 H6 s6 → (∀ s7, Inv X pins (σ6.set i none) H6 s7 → Q s7) →
          wpAny (model X.prog X.w) X.A (do bindName X.env n .none; unbindBehindTheSuite X.env n pos') (fun _ s7 => Q s7) X.xe s6 := fun {σ6 H6 Q} S6 hq => gone_ok (inv_unsuite S6 ok) hN hi hln hq
      cases f with
      | next =>
        obtain ⟨σ6, H6, S6, q6⟩ := hsp
        exact end_ S6 fun s7 J7 => ⟨_, _, J7, q6⟩
      | brk =>
        obtain ⟨σ6, H6, S6, q6⟩ := hsp
        exact end_ S6 fun s7 J7 => ⟨_, _, J7, q6⟩
      | cont =>
        obtain ⟨σ6, H6, S6, q6⟩ := hsp
        exact end_ S6 fun s7 J7 => ⟨_, _, J7, q6⟩
      | ret u =>
        obtain ⟨v6, σ6, H6, S6, r6, q6⟩ := hsp
        exact end_ S6 fun s7 J7 => ⟨_, _, _, J7, r6, q6⟩
    | false =>
      show wpAny _ X.A (handleBy (.ref a) X.env []) _ _ _
      refine wpAny_handleBy_nil ?_
      obtain ⟨k1, k2, k3, oe, vs, T, oT, ts', he, hz, hd, h1, hr⟩ := id fl3
      unfold PySem.passOn
      refine wpAny_bind (wpAny_field he hd h1 ?_)
      rw [if_neg (show ¬ ((Value.ref T == Value.none) = true) from by simp)]
      have fin : wpAny (model X.prog X.w) X.A (setFlight (.ref a) X.env.frame) (fun _ s4 => wpAny (model X.prog X.w) X.A (throw (.ref a) : Sem Flow) (SP X pins D) X.xe s4) X.xe { s' with heap := h3 } := by
        rw [hf]
        refine HandSPX.setFlight_upZ fl3 fun h4 hh4 up4 => wpAny_throw (tk _ _ ?_)
        exact ⟨a, B, sI, pins, σ', H', cls, d, rfl, J, nb, (up.trans up3).trans up4, .inr (.inr (by rw [hs]; exact hh4)), na, os, ag, hno rfl⟩
      first
        | exact wpAny_bind (wpAny_pure (wpAny_bind fin))
        | exact wpAny_bind fin
  · cases f with
    | next =>
      obtain ⟨σ', H', J', q⟩ := hsp
      exact wpAny_execs_nil ⟨σ', H', J'.ofTry ok, q⟩
    | brk =>
      obtain ⟨σ', H', J', q⟩ := hsp
      exact ⟨σ', H', J'.ofTry ok, q⟩
    | cont =>
      obtain ⟨σ', H', J', q⟩ := hsp
      exact ⟨σ', H', J'.ofTry ok, q⟩
    | ret u =>
      obtain ⟨v, σ', H', J', r, q⟩ := hsp
      exact ⟨v, σ', H', J'.ofTry ok, r, q⟩
end
def rIsF (K : PySem.W.Frag) : List V → Hp → VK → Prop := fun xs H Q => ∃ (a : Addr) (n : Ex) (c : V) (cv : Value) (b : Bool), xs = [.ref a, c] ∧ ExcP K H n a ∧ ClsV c cv ∧ (∀ c', ExNs K n c' → ExK K n c' → PySem.W.kitOne K (.ref c') cv = some b) ∧ Q (.bl b) H
def rIsFT (K : PySem.W.Frag) : List V → Hp → VK → Prop := fun xs H Q => ∃ (a tp : Addr) (n : Ex) (cs : List V) (us : List Value) (b : Bool), xs = [.ref a, .ref tp] ∧ H tp = some (.tup cs) ∧ ExcP K H n a ∧ Paired ClsV cs us ∧ (∀ c', ExNs K n c' → ExK K n c' → PySem.W.kitAny K (.ref c') us = some b) ∧ Q (.bl b) H
section
variable {X : Cx}
theorem inst_of {pins : List (Addr × Obj)} {σ : L2.St} {H : Hp} {s : Shared} {n : Ex} {a : Addr} (I : Inv X pins σ H s) (h : ExcP X.K H n a) : ∃ (o : Obj) (c : Addr), PySem.W.InstAt s.heap a o c none ∧ ExNs X.K n c ∧ ExK X.K n c := by
  obtain ⟨o, u, c, h1, h2, h3, ⟨vs, h4, _⟩, h5, h6⟩ := h
  obtain ⟨oc, od, oda, osl⟩ := o
  dsimp only at h2 h3 h4
  subst h2 h3 h4
  exact ⟨_, c, ⟨(I.hok a _ h1).1, rfl, rfl, trivial⟩, h5, h6⟩
theorem call_isF : CallR X (.builtin "isinstance") (rIsF X.K) := by
  intro pins s σ H xs us Q I r h
  obtain ⟨a, n, c, cv, b, rfl, e, k, kt, q⟩ := h
  obtain ⟨u1, u2, rfl, r1, r2⟩ := vals2 r
  cases (show u1 = Value.ref a from r1)
  have e2 := k.eq r2
  subst e2
  obtain ⟨o, c', J, ns, ck⟩ := inst_of I e
  have C := ck.exc
  exact PySem.W.kia_one (PySem.W.handS_kitx_exc C.hg C.hk C.hs C.hd C.ha C.hn C.ht C.hm) I.kIn J (kt c' ns ck) (fun z => nomatch z) fun tk => ⟨.bl b, H, I.tok tk, rfl, q⟩
theorem call_isFT : CallR X (.builtin "isinstance") (rIsFT X.K) := by
  intro pins s σ H xs us Q I r h
  obtain ⟨a, tp, n, cs, ws, b, rfl, hT, e, k, kt, q⟩ := h
  obtain ⟨u1, u2, rfl, r1, r2⟩ := vals2 r
  cases (show u1 = Value.ref a from r1)
  cases (show u2 = Value.ref tp from r2)
  obtain ⟨o', c', J, ns, ck⟩ := inst_of I e
  have C := ck.exc
  obtain ⟨_, its, rv, o, h1, h2, n, h3⟩ := (show ObjOk X.prog X.w H s.heap tp (.tup cs) from I.hok tp _ hT)
  have e3 := ClsV.all k rv
  subst e3
  obtain ⟨oc, od, dt, sl⟩ := o
  simp only at h2 h3
  subst h2 h3
  exact PySem.W.kia_tup (PySem.W.handS_kitx_exc C.hg C.hk C.hs C.hd C.ha C.hn C.ht C.hm) I.kIn J h1 (kt c' ns ck) (fun z => nomatch z) fun tk => ⟨.bl b, H, I.tok tk, rfl, q⟩
end
end PP
namespace PP
open PySem PySem.Spec PyProof.Rows L2
structure ExN (K : PySem.W.Frag) (mg : Str → Option Value) (C : Ex → Addr) (n : Ex) : Prop where
  mg : mg n.nm = some (.ref (C n))
  ns : ExNs K n (C n)
  k : ExK K n (C n)
def xnm : Option Ex → String
  | none => "ValueError"
  | some m => m.nm
def xsub (n : Ex) : Option Ex → Bool
  | none => true
  | some m => n.sub m
def vX (C : Ex → Addr) : Option Ex → V
  | none => .ty "ValueError"
  | some m => .ref (C m)
def uX (C : Ex → Addr) : Option Ex → Value
  | none => .type "ValueError"
  | some m => .ref (C m)
theorem cls_X (C : Ex → Addr) (t : Option Ex) : ClsV (vX C t) (uX C t) := by
  cases t with
  | none => exact .ty _
  | some m => exact .own _
theorem cls_Xs (C : Ex → Addr) : ∀ ts : List (Option Ex), Paired ClsV (ts.map (vX C)) (ts.map (uX C))
  | [] => .nil
  | t :: ts => .cons (cls_X C t) (cls_Xs C ts)
theorem kit_X {K : PySem.W.Frag} {C : Ex → Addr} {n : Ex} {c : Addr} (k : ExK K n c) {t : Option Ex} (h : ∀ m, t = some m → ExNs K m (C m)) : PySem.W.kitOne K (.ref c) (uX C t) = some (xsub n t) := by
  cases t with
  | none => exact k.val
  | some m => exact k.kit m _ (h m rfl)
theorem kit_Xs {K : PySem.W.Frag} {C : Ex → Addr} {n : Ex} {c : Addr} (k : ExK K n c) : ∀ {ts : List (Option Ex)}, (∀ t ∈ ts, ∀ m, t = some m → ExNs K m (C m)) → PySem.W.kitAny K (.ref c) (ts.map (uX C)) = some (ts.any (xsub n))
  | [], _ => rfl
  | t :: ts, h => by
    simp only [List.map_cons, List.any_cons]
    unfold PySem.W.kitAny
    rw [kit_X k (h t List.mem_cons_self)]
    cases xsub n t with
    | true => rfl
    | false => exact kit_Xs k fun u hu => h u (List.mem_cons_of_mem _ hu)
def dIsx (ts : List (Option Ex)) : D → G → QD → Prop := fun d g Q => match d with
  | .exc n => Q (.bl (ts.any (xsub n))) g
  | _ => False
def tXs (C : Ex → Addr) : List (Option Ex) → TA
  | [] => tNil
  | t :: ts => tCons (tC (vX C t)) (tXs C ts)
theorem tXs_run {C : Ex → Addr} {σ : List (Option V)} {H : Hp} {Q : List V → Hp → Prop} : ∀ {ts : List (Option Ex)}, Q (ts.map (vX C)) H → tXs C ts σ H Q
  | [], h => h
  | t :: ts, h => by
    show tXs C ts σ H fun xs H2 => Q (vX C t :: xs) H2
    exact tXs_run (ts := ts) h
section
variable {X : Cx} {C : Ex → Addr} {W : WX} {e : Expr} {pos p p1 p2 : Pos} {te : DTE}
theorem d_isx1 {t : Option Ex} {x : Str} (hg : Gl X "isinstance") (hm : X.mg "isinstance" = none) (h : PE X e (up X.K C W te)) (hx : PE X (.Name x p1) (tC (vX C t))) (ht : ∀ m, t = some m → ExNs X.K m (C m))
    (hs : starEach [e, .Name x p1] X.env = (false, eval e X.env) :: starEach [.Name x p1] X.env) (hpl : (backTo pos (starEach [.Name x p1] X.env)).any (·.1) = false) :
    PE X (.Call (.Name "isinstance" p) [e, .Name x p1] [] pos) (up X.K C W (dUn (dIsx [t]) te)) := by
  refine pe_imp (pe_callB call_isF hg hm (by decide +kernel) (pa_cons h (pa_cons hx pa_nil rfl) hs) (by decide) (by decide) hs hpl) fun σ H Q ⟨env, g, Xd, Qd, re, rg, q, cl, cx⟩ => ?_
  refine ⟨env, g, Xd, _, re, rg, q, fun d g1 v H1 q1 k r rv => ?_, cx⟩
  cases d with
  | exc n =>
    have q1 : Qd (.bl ([t].any (xsub n))) g1 := q1
    obtain ⟨a, rfl, hP⟩ := rv
    simp only [List.any_cons, List.any_nil, Bool.or_false] at q1
    exact ⟨a, n, vX C t, uX C t, xsub n t, rfl, hP, cls_X C t, fun c' _ kk => kit_X kk ht, cl _ _ _ _ q1 k r rfl⟩
  | _ => exact False.elim q1
theorem d_isxT {ts : List (Option Ex)} {es : List Expr} {k : Nat} {tp : Pos} (hg : Gl X "isinstance") (hm : X.mg "isinstance" = none) (h : PE X e (up X.K C W te)) (hts : PA X es (tXs C ts)) (ht : ∀ t ∈ ts, ∀ m, t = some m → ExNs X.K m (C m)) (hl : ts.length ≤ sizeLine)
    (hs : starEach [e, .Tuple es k tp] X.env = (false, eval e X.env) :: starEach [.Tuple es k tp] X.env) (hpl : (backTo pos (starEach [.Tuple es k tp] X.env)).any (·.1) = false) :
    PE X (.Call (.Name "isinstance" p) [e, .Tuple es k tp] [] pos) (up X.K C W (dUn (dIsx ts) te)) := by
  refine pe_imp (pe_callB call_isFT hg hm (by decide +kernel) (pa_cons h (pa_cons (pe_tup hts) pa_nil rfl) hs) (by decide) (by decide) hs hpl) fun σ H Q ⟨env, g, Xd, Qd, re, rg, q, cl, cx⟩ => ?_
  refine ⟨env, g, Xd, _, re, rg, q, fun d g1 v H1 q1 k r rv => ?_, cx⟩
  cases d with
  | exc n =>
    have q1 : Qd (.bl (ts.any (xsub n))) g1 := q1
    obtain ⟨a, rfl, hP⟩ := rv
    refine tXs_run ⟨by simpa using hl, fun o ho => ?_⟩
    exact ⟨a, o, n, _, _, ts.any (xsub n), rfl, upd_same, hP.keep (.new ho), cls_Xs C ts, fun c' _ kk => kit_Xs kk ht, cl _ _ _ _ q1 (k.trans (.new ho)) (r.tup ho) rfl⟩
  | _ => exact False.elim q1
def dTry (ns : List Ex) (x : Ex) (i : Nat) (t u : DTS) : DTS := fun E env g =>
  t { E with ex := fun n env' g' => n ∈ ns ∧ (n.sub x = true → u { nx := fun e g'' => E.nx (e.set i none) g'', rt := E.rt, ex := fun _ _ _ => False } (env'.set i (some (.exc n))) g') ∧ (n.sub x = false → E.ex n env' g') } env g
theorem d_try {ns : List Ex} {x : Ex} {i : Nat} {n : Str} {t u : DTS} {body suite : List Stmt} {b₀ : Stmt} {np pos' : Pos} (hs : X.stack = X.env :: X.outer) (hf : X.env.frame = some X.env.locals) (hex : X.ex = []) (hN : X.N.Nodup) (hi : X.N[i]? = some n) (hln : X.env.kindOf n = some .local)
    (hx : ExN X.K X.mg C x) (hg : Gl X x.nm) (hdb : (Str.ofString x.nm == ("__debug__" : Str)) = false) (hns : ∀ n ∈ ns, ExN X.K X.mg C n) (tk : L2N.Takes X W)
    (hb : ∀ (W' : WX) (pn : List (Addr × Obj)) (xe : Value → Shared → Prop), L2N.Takes (X.tr pn xe) W' → PassesOwn (model X.prog X.w) X.A X.env xe → PSs (X.tr pn xe) body (upS X.K C W' t))
    (hsu : ∀ (a : Addr) (pn : List (Addr × Obj)), PSs (X.suite a pn) (b₀ :: suite) (upS X.K C W0 u)) :
    PS X (.Try body [.ExceptHandler (some (.Name x.nm np)) (some n) (b₀ :: suite) pos'] [] [] pos) (upS X.K C W (dTry ns x i t u)) := by
  refine ps_imp (ps_try_fz (tb := fun W' => upS X.K C W' t) (ts := fun _ => upS X.K C W0 u) hs hf hex hN hi hln (c := .ref (C x)) ⟨hg, hdb, .inl hx.mg⟩ tk hb hsu) fun D σ H ⟨env, g, E, re, rg, q, cn, cr, cx⟩ => ?_
  refine ⟨env, g, _, re, rg, q, cn, cr, fun m env' g' σ' H' ⟨hm, h1, h2⟩ k re' rg' => ?_⟩
  have N := hns m hm
  refine ⟨m.sub x, N.k.exm x _ hx.ns, fun hb a oe na hc hd hf => ?_, fun hb => cx _ _ _ _ _ (h2 hb) k re' rg'⟩
  have kn := TK.new (o := .frz oe excU) na
  have rep : Rep X.K (upd H' a (.frz oe excU)) (.exc m) (.ref a) := ⟨a, rfl, oe, excU, C m, upd_same, hc, hd, hf, N.ns, N.k⟩
  refine ⟨_, g', _, (re'.keep kn).set rep, rg'.tup na, h1 hb, fun e2 g2 σ2 H2 q2 k2 r1 r2 => ?_, (cr.at k).at kn, fun _ _ _ _ _ z => z.elim⟩
  have w := RepE.wipe r1 [i]
  exact cn _ _ _ _ q2 ((k.trans kn).trans k2) w r2
end
end PP
namespace PP
open PySem PySem.Spec PyProof.Rows L2
abbrev noXK : XK := fun _ _ _ => False
def wdA : Ex → Str
  | .number => "number"
  | .npoints => "points"
  | .few => "few"
  | _ => "other"
def toldA : Str := "told"
theorem ext_per {H H' : Hp} (e : LamX.ExtN H H') (t : TbOk H') : TK H H' :=
  ⟨fun a u p h => e a u h (fun ps z => by rw [z] at p; exact p), fun _ => t⟩
theorem ext_repG {K : PySem.W.Frag} {H H' : Hp} {g : G} (e : LamX.ExtN H H') (t : TbOk H') (r : RepG K H g) : RepG K H' g := fun a ds h => by
  rcases r a ds h with ⟨z, vs, h1, h2⟩ | ⟨z, vs, h1, h2⟩ | ⟨z, C, dx, fs, h1, h2, h3⟩
  · exact .inl ⟨z, vs, e _ _ h1 (fun ps z => by cases z), h2.keep (ext_per e t)⟩
  · exact .inr (.inl ⟨z, vs, e _ _ h1 (fun ps z => by cases z), h2.1.keep (ext_per e t), h2.2⟩)
  · exact .inr (.inr ⟨z, C, dx, fs, e _ _ h1 (fun ps z => by cases z), h2, h3.keep (ext_per e t)⟩)
abbrev lamC (X : Cx) (A : Around) (outer : List PySem.Env) (s : Shared) (H : Hp) (E : XK) (scope : Scope) (f c' : Addr) : Cx :=
  (LamX.lamCx X A outer s H E scope f c').tr [] fun e s' => wpAny (model X.prog X.w) (A.deeper (LamX.lamEnv X scope s.heap.objs.size f c')) (leaving (LamX.lamEnv X scope s.heap.objs.size f c') e) (fun _ s'' => L2N.CX X.prog X.w outer H s E e s'') (fun e' s'' => L2N.CX X.prog X.w outer H s E e' s'') s'
abbrev askC (P : Program) (w : World) (K : PySem.W.Frag) (mg : Str → Option Value) (base : Heap) (N : List Str) (x : Str) (sg : Scope) (g : Addr) (cd : Value) (A : Around) (outer : List PySem.Env) (s : Shared) (H : Hp) : Cx :=
  cxOf (L2N.CX P w) P w K mg base N x sg g cd A outer s H noXK
section
variable {X : Cx} {pins : List (Addr × Obj)} {σ : L2.St} {H : Hp} {s : Shared}
theorem pe_asked {Ng : List Str} {x : Str} {sg : Scope} {g f c' : Addr} {cdg pm ctv : Value} {params : Arguments} {body : Expr} {scope : Scope} {k i : Nat} {a : Str} {pn : List (Addr × Obj)} {xe : Value → Shared → Prop} {W : WX} {tb : XK → TE} {p1 p2 : Pos}
    (I : Inv X pins σ H s) (L : LamX.LamS X.env.scope scope) (hf : s.heap.get? f = some (PySem.W.kla_obj "<lambda>" (X.env.qual ++ "<lambda>") params body scope (cloFrom X.env.cells scope.names []) pm c' ctv)) (hfn : H f = none) (hfr : f ∉ frs X.stack)
    (hbind : bindArgs (PySem.W.kla_fn "<lambda>" (X.env.qual ++ "<lambda>") params body scope (cloFrom X.env.cells scope.names []) pm (.ref c') ctv) ⟨[], []⟩ = pure [])
    (tk : L2N.Takes ((askC X.prog X.w X.K X.mg X.base Ng x sg g cdg X.A X.stack s H).tr pn xe) W) (hr : Room (k + 1) (X.A.deeper (envOfC x sg s.heap.objs.size g cdg)))
    (hbody : ∀ (A : Around) (outer : List PySem.Env) (s : Shared) (H : Hp) (E : XK), Room k (A.deeper (LamX.lamEnv X scope s.heap.objs.size f c')) → PE (lamC X A outer s H E scope f c') body (tb E))
    (hN : Ng[i]? = some a) (hv : Vis sg a) (hd : (a == ("__debug__" : Str)) = false) (hcd : (a == ("__classdict__" : Str)) = false) :
    PE ((askC X.prog X.w X.K X.mg X.base Ng x sg g cdg X.A X.stack s H).tr pn xe) (.Call (.Name a p1) [] [] p2)
      (fun σZ HZ Q => σZ[i]? = some (some (.ref f)) ∧ HZ c' = some (LamX.CodeO c' (X.env.qual ++ "<lambda>")) ∧ ∃ E : XK, (∀ cls d H', E cls d H' → W cls d σZ H') ∧ tb E σ HZ Q) := by
  refine ⟨fun pZ sZ σZ HZ Q IZ h => ?_⟩
  obtain ⟨hs, hc, E, hE, ht⟩ := h
  refine wpAny_Call_Name_kw (thn ((pe_var (pos := p1) (i := i) hN hv hd hcd).run pZ sZ σZ HZ (fun v H1 => v = .ref f ∧ H1 = HZ) IZ ⟨.ref f, hs, rfl, rfl⟩) fun u s1 ⟨v, H1, I1, r1, e1, e2⟩ => ?_)
  subst e1
  subst e2
  obtain rfl : u = Value.ref f := r1
  have of1 : s1.heap.get? f = some (PySem.W.kla_obj "<lambda>" (X.env.qual ++ "<lambda>") params body scope (cloFrom X.env.cells scope.names []) pm c' ctv) := I1.base.keep f _ hf hfn hfr (fun z => nomatch (show f ∈ ([] : List Addr) from z))
  refine PySem.W.callWith_F0 ⟨_, _, _, _, of1⟩ ?_
  obtain ⟨⟨oc, vs, t, hoc, hdc, hvc⟩, _, _⟩ := I1.hok c' _ hc
  have run : codeAny (model X.prog X.w) (X.A.deeper (envOfC x sg s.heap.objs.size g cdg)) (.call (.ref f) ⟨[], []⟩) (CR (L2N.CX X.prog X.w) (envOfC x sg s.heap.objs.size g cdg :: X.stack) X.prog X.w H1 s1 Q E) s1 := by
    refine PySem.W.kla_callFunE hr.depth of1 rfl L.co L.gen rfl ⟨c', oc, vs, t, rfl, hoc, hdc, hvc⟩ ?_
    rw [hbind]
    refine wpAny_pure (wpAny_newFunctionEnv (fun y hy => (L.own y hy).2) (fun y hy => absurd hy (by simp)) (fun h₁ hns hsb => ⟨I1.nolimit.fresh _ hsb, ?_⟩) L.kind)
    show codeAny _ _ (.expr body (LamX.lamEnv X scope s1.heap.objs.size f c')) _ _
    have kp : ∀ b o, s1.heap.get? b = some o → h₁.get? b = some o := fun b o e => hsb.extBut b o (Nat.ne_of_lt (Heap.lt_size e)) (Heap.get?_push_of_some _ e)
    have J0 := LamX.lam_start2 (E := E) (f := f) (c' := c') (tk := s1.toks + ([] : List (Str × Value)).length) I L I1.env0 hr.hd (show Un (frs X.stack) [] H H1 s.heap s1.heap from I1.base) hns kp
    have J : Inv (lamC X (X.A.deeper (envOfC x sg s.heap.objs.size g cdg)) (envOfC x sg s.heap.objs.size g cdg :: X.stack) s1 H1 E scope f c') [] σ H1 { s1 with heap := h₁, toks := s1.toks + ([] : List (Str × Value)).length } := J0.toTry _
    refine PySem.W.kla_codeExpr (wpAny_mono ((hbody _ _ s1 H1 E (hr.deeper _)).run [] _ _ H1 Q J ht) (fun v s' hq => ?_) fun e s' hq => hq)
    obtain ⟨w', H', J', rv, q⟩ := hq
    exact ⟨w', H', J'.os, J'.bare, J'.base, J'.hok, rv, q⟩
  refine wpAny_call (codeAny_mono run fun r s' hq => ?_)
  cases r with
  | error e => exact tk e s' (L2N.XE.of_call I1 hE hq)
  | ok fl =>
    cases fl with
    | ret u => exact I1.after hq
    | next => exact False.elim hq
    | brk => exact False.elim hq
    | cont => exact False.elim hq
end
def askT (K : PySem.W.Frag) (C : Ex → Addr) (ns : List Ex) (wd : Ex → Str) (toldS : Str) (tl : XK → Hp → VK → Prop) (H : Hp) (Q : VK) : Prop :=
  ∃ Q1 : Str → G → Prop, (∀ z g H', Q1 z g → TK H H' → RepG K H' g → Q (.str z) H') ∧
    ∀ (E' : XK) (Q' : VK), (∀ n g H', n ∈ ns → TK H H' → RepG K H' g → Q1 (wd n) g → E' (.ref (C n)) none H') → (∀ v g H', TK H H' → RepG K H' g → Q1 toldS g → Q' v H') → tl E' H Q'
def Asks (P : Program) (w : World) (K : PySem.W.Frag) (mg : Str → Option Value) (base : Heap) (C : Ex → Addr) (ns : List Ex) (wd : Ex → Str) (toldS : Str) (N : List Str) (x : Str) (sg : Scope) (g : Addr) (cd : Value) (bg : List Stmt) (a : Str) : Prop :=
  ∀ (A : Around) (outer : List PySem.Env) (f c' : Addr) (q : Str) (s : Shared) (H : Hp) (Q : VK) (tl : XK → Hp → VK → Prop), Room 40 (A.deeper (envOfC x sg s.heap.objs.size g cd)) → TbOk H →
    (∀ (W : WX) (pn : List (Addr × Obj)) (xe : Value → Shared → Prop) (p1 p2 : Pos), L2N.Takes ((askC P w K mg base N x sg g cd A outer s H).tr pn xe) W →
      PE ((askC P w K mg base N x sg g cd A outer s H).tr pn xe) (.Call (.Name a p1) [] [] p2) (fun σZ HZ Q => σZ[0]? = some (some (.ref f)) ∧ HZ c' = some (LamX.CodeO c' q) ∧ ∃ E : XK, (∀ cls d H', E cls d H' → W cls d σZ H') ∧ tl E HZ Q)) →
    H c' = some (LamX.CodeO c' q) → askT K C ns wd toldS tl H Q →
    ∃ t, PSs (askC P w K mg base N x sg g cd A outer s H) bg t ∧ t { nx := fun _ H' => Q .non H', rt := Q } (L2.start N [.ref f]) H
structure AskF (P : Program) (w : World) (K : PySem.W.Frag) (mg : Str → Option Value) (base : Heap) (C : Ex → Addr) (ns : List Ex) (wd : Ex → Str) (toldS : Str) (x : Str) : Prop where
  ex : ∃ (g : Addr) (pg : Arguments) (bg : List Stmt) (sg : Scope) (dV kV doc pm cdv ct oc : Value) (an od : Option Addr) (osl : Array (Option Value)) (N : List Str) (a : Str),
    mg x = some (.ref g) ∧ PySem.W.keepIn K (.ref g) = true ∧ K.lookup g = some ⟨oc, od, .func (PySem.W.fnOf x x pg bg sg dV kV doc pm an cdv ct), osl⟩ ∧ PySem.W.codeIn K cdv x = true ∧ Binds K (PySem.W.fnOf x x pg bg sg dV kV doc pm an cdv ct) [a] [] ∧ FnScope N [a] sg ∧ N[0]? = some a ∧ Vis sg a ∧
    (a == ("__debug__" : Str)) = false ∧ (a == ("__classdict__" : Str)) = false ∧ (Mod K mg base → Asks P w K mg base C ns wd toldS N x sg g cdv bg a)
def dLamr (ns : List Ex) (wd : Ex → Str) (toldS : Str) (t : DTE) : DTE := fun _ env g Q => t (fun n g1 => n ∈ ns ∧ Q (.str (wd n)) g1) env g fun _ g1 => Q (.str toldS) g1
structure LamM (X : Cx) : Prop where
  ex : ∃ c P : Addr, X.env.code = .ref c ∧ (c, P, X.env.qual ++ "<lambda>") ∈ TabL ∧ (∀ p ∈ TabL, p.2.1 = P → p.2.2 = X.env.qual ++ "<lambda>") ∧ LamX.TabB X.base X.mg c P
section
variable {X : Cx} {C : Ex → Addr} {W : WX}
theorem d_lamr {k : Nat} {ns ns' : List Ex} {wd : Ex → Str} {toldS x : Str} {params : Arguments} {body : Expr} {scope : Scope} {t : DTE} {p lpos pos : Pos} (hsub : ∀ n ∈ ns', n ∈ ns) (M : LamM X) (F : AskF X.prog X.w X.K X.mg X.base C ns wd toldS x) (hk0 : 40 ≤ k) (hr : Room (k + 2) X.A) (hg : Gl X x) (hdb : (x == ("__debug__" : Str)) = false)
    (L : LamX.LamS X.env.scope scope) (hdef : defaultsOf params X.env = ([], [])) (hbind : ∀ (q : Str) (cl : List (Str × Addr)) (pm cv ctv : Value), bindArgs (PySem.W.kla_fn "<lambda>" q params body scope cl pm cv ctv) ⟨[], []⟩ = pure [])
    (hbody : ∀ (A : Around) (outer : List PySem.Env) (s : Shared) (H : Hp) (E : XK) (f c' : Addr), Room k (A.deeper (LamX.lamEnv X scope s.heap.objs.size f c')) → PE (lamC X A outer s H E scope f c') body (up X.K C (fun cls d _ H' => E cls d H') t)) :
    PE X (.Call (.Name x p) [.Lambda params body scope lpos] [] pos) (up X.K C W (dLamr ns' wd toldS t)) := by
  obtain ⟨c, P, hcode, hmT, hu, TB⟩ := M.ex
  obtain ⟨g, pg, bg, sg, dV, kV, doc, pm, cdv, ct, oc, an, od, osl, N, a, hm, hk, lk, hcg, hb, Sg, hN, hva, hd, hcd, hG⟩ := F.ex
  refine ⟨fun pins s σ H Q I ⟨env, g0, Xd, Qd, re, rg, ht, cl, cx⟩ => ?_⟩
  refine wpAny_Call_Name_kw (ld_glob I hg hm ?_ hdb)
  refine PySem.W.callWith_K (h₀ := X.base) I.ok.mod.kin hk ?_ (by rfl) (by rfl)
  show wpAny _ _ (spliced ((false, eval (.Lambda params body scope lpos) X.env) :: backTo pos (starEach [] X.env))) _ _ s
  have hT : LamX.Tabs (TabL.map (·.2)) H := fun p hp => by
    obtain ⟨z, hz, e⟩ := List.mem_map.mp hp
    rw [← e]
    exact re.2.2 z hz
  refine Calls.spliced_cons (LamX.lam_make2 (T := TabL.map (·.2)) I TB hcode (List.mem_map.mpr ⟨_, hmT, rfl⟩) (fun p hp e => by
    obtain ⟨z, hz, e2⟩ := List.mem_map.mp hp
    rw [← e2] at e ⊢
    exact hu z hz e) hT hdef (L.has I.ok) fun f c' pm' ctv H1 s' I1 eN T1 hf hfn hfr hco => ?_)
  refine Calls.spliced_nil ⟨I1.kIn, ?_⟩
  have t1 : TbOk H1 := fun z hz => T1 z.2 (List.mem_map.mpr ⟨z, hz, rfl⟩)
  have k1 := ext_per eN t1
  have run : codeAny (model X.prog X.w) X.A (.call (.ref g) ⟨[.ref f], []⟩) (CR (L2N.CX X.prog X.w) X.stack X.prog X.w H1 s' Q noXK) s' := by
    refine LamX.run_ofS (N := N) (ps := [a]) (us := [.ref f]) (vs := [.ref f]) lk hcg Sg hr I1.env0 (hb s' [.ref f] I1.kIn rfl) (.cons rfl .nil) rfl fun hr' => ?_
    refine hG I.ok.mod X.A X.stack f c' (X.env.qual ++ "<lambda>") s' H1 Q (fun E H' Q' => up X.K C (fun cls d _ H' => E cls d H') t σ H' Q') (hr'.mono (by omega)) t1 (fun W pn xe p1 p2 tk => ?_) hco ?_
    · exact pe_asked (tb := fun E => up X.K C (fun cls d _ H' => E cls d H') t) I1 L hf hfn hfr (hbind _ _ _ _ _) tk hr' (fun A outer s H E hr2 => hbody A outer s H E f c' hr2) hN hva hd hcd
    · refine ⟨fun z g => Qd (.str z) g, fun z g H' q k r => cl _ _ _ _ q (k1.trans k) r rfl, fun E' Q' hE hQ => ⟨env, g0, _, _, re.keep k1, ext_repG eN t1 rg, ht, fun d g2 v H2 q k r _ => hQ v g2 H2 k r q, fun n g2 H2 q k r => hE n g2 H2 (hsub _ q.1) k r q.2⟩⟩
  refine wpAny_call (codeAny_mono run fun r s2 hq => ?_)
  cases r with
  | error e =>
    obtain ⟨_, _, _, _, _, _, _, _, _, _, _, _, z⟩ := hq
    exact z.elim
  | ok fl =>
    cases fl with
    | ret u => exact I1.after hq
    | next => exact False.elim hq
    | brk => exact False.elim hq
    | cont => exact False.elim hq
end
end PP
namespace PP
open PySem PySem.Spec PyProof.Rows L2
section
variable {X : Cx} {C : Ex → Addr} {W : WX} {pos p : Pos} {sp : SpD} {x : Str}
theorem d_call0 {ps : List Str} (F : FnAt X C x ps sp) (tk : L2N.Takes X W) (hg : Gl X x) (hdb : (x == ("__debug__" : Str)) = false) :
    PE X (.Call (.Name x p) [] [] pos) (up X.K C W (dCall sp dNil)) := by
  obtain ⟨f, fd, k, hm, hk, hb, FO, hr⟩ := F.ex
  refine ⟨fun pins s σ H Q I h => ?_⟩
  obtain ⟨env, g, Xd, Qd, re, rg, t, cl, cx⟩ := h
  refine wpAny_Call_Name_kw (ld_glob I hg hm ?_ hdb)
  exact PySem.W.callWith_K0 I.kIn hk (run_fnS (us := []) FO hr hb (L2N.passAt tk σ) I .nil ⟨[], g, Qd, Xd, rfl, rg, t, cl, cx, re.2.2⟩)
end
def Itz3 (K : PySem.W.Frag) (a b c : Addr) : It :=
  ⟨fun i H => ∃ (xs ys zs : List V) (x y z : V), SqL K H a xs ∧ SqL K H b ys ∧ SqL K H c zs ∧ xs[i]? = some x ∧ ys[i]? = some y ∧ zs[i]? = some z,
    fun i H v H' => ∃ T x y z, v = .ref T ∧ H T = none ∧ H' = upd H T (.tup [x, y, z]) ∧ (∀ xs, SqL K H a xs → xs[i]? = some x) ∧ (∀ ys, SqL K H b ys → ys[i]? = some y) ∧ ∀ zs, SqL K H c zs → zs[i]? = some z,
    fun i H => ∃ xs ys zs : List V, SqL K H a xs ∧ SqL K H b ys ∧ SqL K H c zs ∧ i ≤ xs.length ∧ i ≤ ys.length ∧ i ≤ zs.length ∧ (i = xs.length ∨ i = ys.length ∨ i = zs.length)⟩
theorem list_ne_iter {h : Heap} {a i l : Addr} {its : Array Value} {k : Nat} (p : h.IsList a its) (q : h.IsListIter i l k) : a ≠ i := fun e => by
  subst e
  obtain ⟨o1, e1, c1, _⟩ := p
  obtain ⟨o2, e2, c2, _⟩ := q
  rw [e1] at e2
  cases e2
  rw [c1] at c2
  exact absurd c2 (by simp)
theorem turn_zip3 {P : Program} {w : World} {K : PySem.W.Frag} {elts : List Expr} {kk : Nat} {tpos : Pos} {a b c z TI TO i1 i2 i3 : Addr} (D : ZipSep3 z TI TO i1 i2 i3 [i1, a] [i2, b] [i3, c]) :
    Turn P w K (.Tuple elts kk tpos) (Itz3 K a b c) [z, TI, TO, i1, i2, i3] z (fun i h => IsZip h z TI TO .none ∧ IsTupOf3 h TI (.ref i1) (.ref i2) (.ref i3) ∧ (∃ x y w, IsTupOf3 h TO x y w) ∧ h.IsListIter i1 a i ∧ h.IsListIter i2 b i ∧ h.IsListIter i3 c i) where
  mem := by simp
  obj := fun i h st d hc => by
    obtain ⟨hz, hTI, ⟨x, y, w, hTO⟩, ⟨o1, e1, _, d1⟩, ⟨o2, e2, _, d2⟩, ⟨o3, e3, _, d3⟩⟩ := st
    have e' : d = z ∨ d = TI ∨ d = TO ∨ d = i1 ∨ d = i2 ∨ d = i3 := by simpa using hc
    rcases e' with q | q | q | q | q | q
    · rw [q]; exact ⟨_, hz, fun v q => nomatch q⟩
    · rw [q]; exact ⟨_, hTI, fun v q => nomatch q⟩
    · rw [q]; exact ⟨_, hTO, fun v q => nomatch q⟩
    · rw [q]; exact ⟨o1, e1, fun v q => by rw [d1] at q; cases q⟩
    · rw [q]; exact ⟨o2, e2, fun v q => by rw [d2] at q; cases q⟩
    · rw [q]; exact ⟨o3, e3, fun v q => by rw [d3] at q; cases q⟩
  keep := fun i h h' st k => by
    obtain ⟨hz, hTI, ⟨x, y, w, hTO⟩, h1, h2, h3⟩ := st
    exact ⟨k z (by simp) _ hz, k TI (by simp) _ hTI, ⟨x, y, w, k TO (by simp) _ hTO⟩, h1.at fun o q => k i1 (by simp) o q, h2.at fun o q => k i2 (by simp) o q, h3.at fun o q => k i3 (by simp) o q⟩
  item := by
    intro X hP hw hK hc i pins s σ H E I hf st hg
    subst hP hw hK
    obtain ⟨hz, hTI, ⟨x0, y0, w0, hTO⟩, h1, h2, h3⟩ := st
    obtain ⟨xs, ys, zs, x, y, w, hqx, hqy, hqz, hx, hy, hw⟩ := hg
    obtain ⟨its, rv, p, _⟩ := I.list hqx
    obtain ⟨its2, rv2, p2, _⟩ := I.list hqy
    obtain ⟨its3, rv3, p3, _⟩ := I.list hqz
    obtain ⟨u, hu, ru⟩ := rv.get hx
    obtain ⟨u2, hu2, ru2⟩ := rv2.get hy
    obtain ⟨u3, hu3, ru3⟩ := rv3.get hw
    have hzl : z < s.heap.objs.size := Heap.lt_size hz
    have hh := I.ok.hd hc
    have n1 : a ≠ i1 := list_ne_iter p.isList h1
    have n2 : b ≠ i2 := list_ne_iter p2.isList h2
    have n3 : c ≠ i3 := list_ne_iter p3.isList h3
    have D1 := Draws.list (prog := X.prog) (w := X.w) (A := X.A.in1) hh i1 a n1 its.toArray
    have D2 := Draws.list (prog := X.prog) (w := X.w) (A := X.A.in1) hh i2 b n2 its2.toArray
    have D3 := Draws.list (prog := X.prog) (w := X.w) (A := X.A.in1) hh i3 c n3 its3.toArray
    have l1 : i < its.toArray.size := by have := List.getElem?_eq_some_iff.mp hu; obtain ⟨q, _⟩ := this; simpa using q
    have l2 : i < its2.toArray.size := by have := List.getElem?_eq_some_iff.mp hu2; obtain ⟨q, _⟩ := this; simpa using q
    have l3 : i < its3.toArray.size := by have := List.getElem?_eq_some_iff.mp hu3; obtain ⟨q, _⟩ := this; simpa using q
    refine wpAny_pyNext_zipD3_item D D1 D2 D3 hz hTI hTO ⟨h1, p.isList⟩ ⟨h2, p2.isList⟩ ⟨h3, p3.isList⟩ l1 l2 l3 fun v1 v2 v3 h' tk P1 P2 P3 z' TO' d1 d2 d3 hT hsz hk => ?_
    have e1 : v1 = u := by have P1 : its.toArray[i]? = some v1 := P1; rw [List.getElem?_toArray, hu] at P1; exact (Option.some.inj P1).symm
    have e2 : v2 = u2 := by have P2 : its2.toArray[i]? = some v2 := P2; rw [List.getElem?_toArray, hu2] at P2; exact (Option.some.inj P2).symm
    have e3 : v3 = u3 := by have P3 : its3.toArray[i]? = some v3 := P3; rw [List.getElem?_toArray, hu3] at P3; exact (Option.some.inj P3).symm
    subst e1 e2 e3
    refine ⟨_, rfl, wpAny_letOwnedTupleGo_zip (s := { s with heap := h', toks := tk }) z' fun h'' z'' sb => ?_⟩
    have hT2 : h''.get? s.heap.objs.size = some { cls := .type "tuple", data := .seq #[v1, v2, v3] } := (sb.2 _ (Nat.ne_of_gt hzl)).trans hT
    have new : ObjOk X.prog X.w (upd H s.heap.objs.size (.tup [x, y, w])) h'' s.heap.objs.size (.tup [x, y, w]) :=
      ⟨by show 3 ≤ sizeLine; decide, [v1, v2, v3], .cons ru (.cons ru2 (.cons ru3 .nil)), ⟨_, hT2, rfl, _, rfl⟩⟩
    have I1 : Inv X pins σ (upd H s.heap.objs.size (.tup [x, y, w])) { s with heap := h'', toks := tk } :=
      I.turnedNew (t' := tk) (ch := [z, TI, TO, i1, i2, i3]) (fun c o hb q => (sb.2 c (fun q' => hb (by simp [q']))).trans (hk c o (fun q' => hb (by simp [q'])) (fun q' => hb (by simp [q'])) (fun q' => hb (by simp [q'])) (fun q' => hb (by simp [q'])) (fun q' => hb (by simp [q'])) q)) hf (Nat.le_refl _) new
    refine ⟨.ref s.heap.objs.size, _, I1, rfl, ⟨_, x, y, w, rfl, I.hok.fresh (Nat.le_refl _), rfl, fun l hl => by rw [I.list_inj hl hqx]; exact hx, fun l hl => by rw [I.list_inj hl hqy]; exact hy, fun l hl => by rw [I.list_inj hl hqz]; exact hw⟩, ⟨z'', ?_, ⟨v1, v2, v3, ?_⟩, ?_, ?_, ?_⟩, fun c hcm => ?_⟩
    · exact (sb.2 _ D.TIz).trans (hk _ _ D.TIz D.TITO D.TIi1 D.TIi2 D.TIi3 hTI)
    · exact (sb.2 _ D.TOz).trans TO'
    · exact d1.1.at fun o q => (sb.2 _ D.zi1.symm).trans q
    · exact d2.1.at fun o q => (sb.2 _ D.zi2.symm).trans q
    · exact d3.1.at fun o q => (sb.2 _ D.zi3.symm).trans q
    · have hlt : c < s.heap.objs.size := by
        have e' : c = z ∨ c = TI ∨ c = TO ∨ c = i1 ∨ c = i2 ∨ c = i3 := by simpa using hcm
        rcases e' with q | q | q | q | q | q
        · rw [q]; exact hzl
        · rw [q]; exact Heap.lt_size hTI
        · rw [q]; exact Heap.lt_size hTO
        · rw [q]; obtain ⟨_, e1, _⟩ := h1; exact Heap.lt_size e1
        · rw [q]; obtain ⟨_, e2, _⟩ := h2; exact Heap.lt_size e2
        · rw [q]; obtain ⟨_, e3, _⟩ := h3; exact Heap.lt_size e3
      rw [upd_ne (Nat.ne_of_lt hlt)]
      exact (hf c hcm).1
  done := by
    intro X hP hw hK hc i pins s σ H E I hf st hg
    subst hP hw hK
    obtain ⟨hz, hTI, ⟨x0, y0, w0, hTO⟩, h1, h2, h3⟩ := st
    obtain ⟨xs, ys, zs, hqx, hqy, hqz, m1, m2, m3, hend⟩ := hg
    obtain ⟨its, rv, p, _⟩ := I.list hqx
    obtain ⟨its2, rv2, p2, _⟩ := I.list hqy
    obtain ⟨its3, rv3, p3, _⟩ := I.list hqz
    have l1 := rv.length
    have l2 := rv2.length
    have l3 := rv3.length
    have hh := I.ok.hd hc
    have n1 : a ≠ i1 := list_ne_iter p.isList h1
    have n2 : b ≠ i2 := list_ne_iter p2.isList h2
    have n3 : c ≠ i3 := list_ne_iter p3.isList h3
    have D1 := Draws.list (prog := X.prog) (w := X.w) (A := X.A.in1) hh i1 a n1 its.toArray
    have D2 := Draws.list (prog := X.prog) (w := X.w) (A := X.A.in1) hh i2 b n2 its2.toArray
    have D3 := Draws.list (prog := X.prog) (w := X.w) (A := X.A.in1) hh i3 c n3 its3.toArray
    exact wpAny_pyNext_zipD3_end D D1 D2 D3 hz hTI hTO ⟨h1, p.isList⟩ ⟨h2, p2.isList⟩ ⟨h3, p3.isList⟩ (by simp; omega) (by simp; omega) (by simp; omega) (by simp; omega) fun h' tk hk => ⟨rfl, I.turnedL (t' := tk) (ch := [z, TI, TO, i1, i2, i3]) (fun c o hb q =>
      hk c o (fun q' => hb (by simp [q'])) (fun q' => hb (by simp [q'])) (fun q' => hb (by simp [q'])) (fun q' => hb (by simp [q'])) (fun q' => hb (by simp [q'])) q) hf⟩
  self := fun A i s Q E st h => wpAny_pyIter_zip st.1 h
def iZip3 (K : PySem.W.Frag) (ta : TA) : TI := fun σ H R => ta σ H fun vs H1 => ∃ a b c xs ys zs, vs = [.ref a, .ref b, .ref c] ∧ SqL K H1 a xs ∧ SqL K H1 b ys ∧ SqL K H1 c zs ∧ R (Itz3 K a b c) H1
theorem pi_zip3 {X : Cx} {e e2 e3 : Expr} {ta : TA} {p pos tpos : Pos} {elts : List Expr} {kk : Nat} (hg : Gl X "zip") (hm : X.mg "zip" = none) (ha : PA X [e, e2, e3] ta)
    (hs : starEach [e, e2, e3] X.env = (false, eval e X.env) :: starEach [e2, e3] X.env := by rfl) (hpl : (backTo pos (starEach [e2, e3] X.env)).any (·.1) = false := by rfl) :
    PI X (.Tuple elts kk tpos) (.Call (.Name "zip" p) [e, e2, e3] [] pos) (iZip3 X.K ta) := by
  refine ⟨fun pins s σ H R I h => ?_⟩
  refine Call_ (ld_blt I hg hm PyProof.Rows.boot_zip (PyProof.Rows.callWith_type1 (thn (ha.run pos pins s σ H _ I h) fun us s1 ⟨vs, H1, I1, r1, q1⟩ => ?_) hs hpl))
  obtain ⟨a, b, c, xs, ys, zs, ex, hqx, hqy, hqz, q⟩ := q1
  subst ex
  cases r1 with
  | cons r rr =>
    cases rr with
    | cons r' rr =>
      cases rr with
      | cons r'' rr =>
        cases rr
        cases r
        cases r'
        cases r''
        obtain ⟨its, rv, p1, _⟩ := I1.list hqx
        obtain ⟨its2, rv2, p2, _⟩ := I1.list hqy
        obtain ⟨its3, rv3, p3, _⟩ := I1.list hqz
        have la : a < s1.heap.objs.size := p1.lt
        have lb : b < s1.heap.objs.size := p2.lt
        have lc : c < s1.heap.objs.size := p3.lt
        refine zip_begins3 (begins_list a its.toArray) (begins_list b its2.toArray) (begins_list c its3.toArray) p1.isList p2.isList p3.isList fun h' hz hTI hTO h1 h2 h3 hsz hk => wpAny_pyIter_zip hz ?_
        have I2 : Inv X pins σ H1 { s1 with heap := h' } := I1.kept (t' := s1.toks) hk
        have D : ZipSep3 (s1.heap.objs.size + 5) (s1.heap.objs.size + 3) (s1.heap.objs.size + 4) s1.heap.objs.size (s1.heap.objs.size + 1) (s1.heap.objs.size + 2) [s1.heap.objs.size, a] [s1.heap.objs.size + 1, b] [s1.heap.objs.size + 2, c] :=
          zip_sep3 (fp1 := [a]) (fp2 := [b]) (fp3 := [c]) (by simpa using la) (by simpa using lb) (by simpa using lc)
        refine ⟨s1.heap.objs.size + 5, [s1.heap.objs.size + 5, s1.heap.objs.size + 3, s1.heap.objs.size + 4, s1.heap.objs.size, s1.heap.objs.size + 1, s1.heap.objs.size + 2], _, _, H1, rfl, I2, turn_zip3 D, ⟨hz, hTI, ⟨_, _, _, hTO⟩, ⟨_, h1, rfl, rfl⟩, ⟨_, h2, rfl, rfl⟩, ⟨_, h3, rfl, rfl⟩⟩, fun d hcm => ?_, q⟩
        have e' : d = s1.heap.objs.size + 5 ∨ d = s1.heap.objs.size + 3 ∨ d = s1.heap.objs.size + 4 ∨ d = s1.heap.objs.size ∨ d = s1.heap.objs.size + 1 ∨ d = s1.heap.objs.size + 2 := by simpa using hcm
        have hle : s1.heap.objs.size ≤ d := by rcases e' with z | z | z | z | z | z <;> (rw [z]; first | exact Nat.le_refl _ | exact Nat.le_add_right _ _)
        exact I1.fpOk hle (I1.hok.fresh hle)
def zip3D (xs ys zs : List D) : List D := List.zipWith (fun x yz => D.tup [x, yz.1, yz.2]) xs (List.zip ys zs)
theorem itz3_ok {K : PySem.W.Frag} {H0 : Hp} {a b c : Addr} {xs ys zs : List D} (hc1 : a % 2 = 0) (hc2 : b % 2 = 0) (hc3 : c % 2 = 0) : ItOk K (Itz3 K (a / 2) (b / 2) (c / 2)) H0 (zip3D xs ys zs) (fun g => g a = some xs ∧ g b = some ys ∧ g c = some zs) where
  go := fun i g H hi k r st => by
    obtain ⟨vs, h, l⟩ := r.lst hc1 st.1
    obtain ⟨ws, h2, l2⟩ := r.lst hc2 st.2.1
    obtain ⟨us, h3, l3⟩ := r.lst hc3 st.2.2
    have hi' : i < xs.length ∧ i < ys.length ∧ i < zs.length := by simp [zip3D] at hi; omega
    have hv : i < vs.length := by rw [l.length]; omega
    have hw : i < ws.length := by rw [l2.length]; omega
    have hu : i < us.length := by rw [l3.length]; omega
    exact ⟨vs, ws, us, vs[i], ws[i], us[i], .of h, .of h2, .of h3, by simp [hv], by simp [hw], by simp [hu]⟩
  yld := fun i g H x H' hi k r st y => by
    obtain ⟨vs, h, l⟩ := r.lst hc1 st.1
    obtain ⟨ws, h2, l2⟩ := r.lst hc2 st.2.1
    obtain ⟨us, h3, l3⟩ := r.lst hc3 st.2.2
    obtain ⟨T, u, w, t, ex, hT, eH, y1, y2, y3⟩ := y
    obtain ⟨d, e1, rd⟩ := l.getv (y1 vs (.of h))
    obtain ⟨d', e2, rd'⟩ := l2.getv (y2 ws (.of h2))
    obtain ⟨d'', e3, rd''⟩ := l3.getv (y3 us (.of h3))
    subst ex eH
    refine ⟨.tup [d, d', d''], ?_, ⟨T, [u, w, t], rfl, .inl upd_same, ⟨u, [w, t], rfl, rd.keep (.new hT), ⟨w, [t], rfl, rd'.keep (.new hT), ⟨t, [], rfl, rd''.keep (.new hT), rfl⟩⟩⟩⟩, .new hT, r.tup hT⟩
    have e4 : (List.zip ys zs)[i]? = some (d', d'') := by rw [List.getElem?_zip_eq_some]; exact ⟨e2, e3⟩
    simp [zip3D, List.getElem?_zipWith, e1, e4]
  stop := fun i g H hi hi2 k r st => by
    obtain ⟨vs, h, l⟩ := r.lst hc1 st.1
    obtain ⟨ws, h2, l2⟩ := r.lst hc2 st.2.1
    obtain ⟨us, h3, l3⟩ := r.lst hc3 st.2.2
    refine ⟨vs, ws, us, .of h, .of h2, .of h3, ?_⟩
    rw [l.length, l2.length, l3.length]
    simp [zip3D] at hi hi2
    omega
def dZip3 : D → D → D → G → (List D → (G → Prop) → G → Prop) → Prop
  | .ref a, .ref b, .ref c => fun g R => match g a, g b, g c with | some xs, some ys, some zs => R (zip3D xs ys zs) (fun g' => g' a = some xs ∧ g' b = some ys ∧ g' c = some zs) g | _, _, _ => False
  | _, _, _ => fun _ _ => False
def dI3 (r : D → D → D → G → (List D → (G → Prop) → G → Prop) → Prop) (ta tb tc : DTE) : DTI := fun X env g R => ta X env g fun d g1 => tb X env g1 fun d2 g2 => tc X env g2 fun d3 g3 => r d d2 d3 g3 R
section
variable {X : Cx} {C : Ex → Addr} {W : WX} {a b c : Expr} {ta tb tc : DTE} {p pos : Pos}
theorem d_zip3 {elts : List Expr} {kk : Nat} {tpos : Pos} (hg : Gl X "zip") (hm : X.mg "zip" = none) (ha : PE X a (up X.K C W ta)) (hb : PE X b (up X.K C W tb)) (hc : PE X c (up X.K C W tc)) (hs : starEach [a, b, c] X.env = (false, eval a X.env) :: starEach [b, c] X.env) (hs2 : starEach [b, c] X.env = (false, eval b X.env) :: starEach [c] X.env) (hs3 : starEach [c] X.env = [(false, eval c X.env)]) :
    PI X (.Tuple elts kk tpos) (.Call (.Name "zip" p) [a, b, c] [] pos) (upI X.K C W (dI3 dZip3 ta tb tc)) := by
  refine pi_imp (pi_zip3 hg hm (pa_cons ha (pa_cons hb (pa_cons hc pa_nil hs3) (by rw [hs2])) (by rw [hs])) (by rw [hs]) (by rw [hs2, hs3]; rfl)) fun σ H R ⟨env, g, Xd, Rd, re, rg, t, cl, cx⟩ => ?_
  refine ⟨env, g, Xd, _, re, rg, t, fun d g1 v H1 q k r rv => ?_, cx⟩
  refine ⟨env, g1, Xd, _, re.keep k, r, q, fun d2 g2 v2 H2 q2 k2 r2 rv2 => ?_, cx.at k⟩
  refine ⟨env, g2, Xd, _, (re.keep k).keep k2, r2, q2, fun d3 g3 v3 H3 q3 k3 r3 rv3 => ?_, (cx.at k).at k2⟩
  dsimp only at q3
  unfold dZip3 at q3
  have kk := (k.trans k2).trans k3
  split at q3
  · obtain ⟨hc1, rfl⟩ := rv
    obtain ⟨hc2, rfl⟩ := rv2
    obtain ⟨hc3, rfl⟩ := rv3
    split at q3
    · rename_i xs ys zs e1 e2 e3
      obtain ⟨vs, h1, l1⟩ := r3.lst hc1 e1
      obtain ⟨ws, h2, l2⟩ := r3.lst hc2 e2
      obtain ⟨us, h3, l3⟩ := r3.lst hc3 e3
      exact ⟨_, _, _, vs, ws, us, rfl, .of h1, .of h2, .of h3, cl _ _ _ _ _ q3 kk r3 (itz3_ok hc1 hc2 hc3)⟩
    · exact q3.elim
  · exact q3.elim
end
end PP
set_option maxHeartbeats 2000000
namespace PP
open PySem PySem.Spec PyProof.Rows L2
theorem adj_rev (n : Nat) : Builtin.Slice.sliceAdjust none none (-1) (n : Int) = ((n : Int) - 1, -1) := rfl
theorem places_rev (n : Nat) : Builtin.Slice.slicePlaces ((n : Int) - 1) (-1) (-1) = n := by
  unfold Builtin.Slice.slicePlaces
  rw [if_neg (by decide)]
  by_cases h : (n : Int) - 1 > -1
  · rw [if_pos h, show (-(-1) : Int) = 1 by decide, Int.ediv_one]; omega
  · rw [if_neg h]; omega
theorem pick_rev (xs : Array Value) : ((List.range xs.size).filterMap fun (m : Nat) => xs[((xs.size : Int) - 1 + (m : Int) * -1).toNat]?).toArray = xs.toList.reverse.toArray := by
  congr 1
  have key : ∀ k, k ≤ xs.size → (List.range k).filterMap (fun (m : Nat) => xs[((xs.size : Int) - 1 + (m : Int) * -1).toNat]?) = xs.toList.reverse.take k := by
    intro k
    induction k with
    | zero => intro _; rfl
    | succ k ih =>
      intro hk
      have h2 : ((xs.size : Int) - 1 + (k : Int) * -1).toNat = xs.size - 1 - k := by omega
      have h3 : xs.size - 1 - k < xs.size := by omega
      have h4 : k < xs.toList.reverse.length := by simp; omega
      rw [List.range_succ, List.filterMap_append, ih (by omega), List.take_succ_eq_append_getElem h4]
      congr 1
      simp only [List.filterMap_cons, List.filterMap_nil]
      rw [h2, Array.getElem?_eq_getElem h3]
      simp [List.getElem_reverse]
  rw [key xs.size (Nat.le_refl _), List.take_of_length_le (by simp)]
section
variable {prog : Program} {w : World} {A : Around} {E : Value → Shared → Prop} {s : Shared}
theorem slice_rev {sl : Addr} {vl vu vs : Value} {n : Nat} {Q : Int × Int × Nat → Shared → Prop} (hs : s.heap.IsSliceOf sl vl vu vs) (pl : IsPart vl none) (pu : IsPart vu none) (ps : IsPart vs (some (-1)))
    (h : Q ((n : Int) - 1, -1, n) s) : wpAny (model prog w) A (Builtin.Slice.sliceApplied (.ref sl) (pure (n : Int))) Q E s := by
  obtain ⟨os, hos, hcs, hds⟩ := id hs
  unfold Builtin.Slice.sliceApplied Builtin.Slice.sliceFields
  refine wpAny_bind (wpAny_bind (wpAny_field hos hds (x := vl) rfl (wpAny_bind (wpAny_field hos hds (x := vu) rfl (wpAny_bind (wpAny_field hos hds (x := vs) rfl (wpAny_pure ?_)))))))
  refine wpAny_bind (HT.slicePart_ ps ?_)
  show wpAny _ _ (if ((-1 : Int) == 0) = true then _ else _) _ _ s
  rw [if_neg (by decide)]
  refine wpAny_bind (HT.slicePart_ pl (wpAny_bind (HT.slicePart_ pu (wpAny_bind (wpAny_pure ?_)))))
  show wpAny _ _ (match Builtin.Slice.sliceAdjust none none (-1) (n : Int) with | (lo, hi) => pure (lo, (-1 : Int), Builtin.Slice.slicePlaces lo hi (-1))) _ _ s
  rw [adj_rev n]
  show wpAny _ _ (pure ((n : Int) - 1, (-1 : Int), Builtin.Slice.slicePlaces ((n : Int) - 1) (-1) (-1))) _ _ s
  rw [places_rev]
  exact wpAny_pure h
theorem getItem_tuple_rev {t sl : Addr} {items : Array Value} {vl vu vs : Value} {Q : Value → Shared → Prop} (ht : IsTup s.heap t items) (hs : s.heap.IsSliceOf sl vl vu vs) (pl : IsPart vl none) (pu : IsPart vu none) (ps : IsPart vs (some (-1)))
    (h : Q (.ref s.heap.objs.size) { s with heap := s.heap.push { cls := .type "tuple", data := .seq items.toList.reverse.toArray } })
    (hsz : items.size ≤ sizeLine) : wpAny (model prog w) A (getItem (.ref t) (.ref sl)) Q E s := by
  have htake : sizeOk (.seq items.toList.reverse.toArray) := by
    show items.toList.reverse.toArray.size ≤ sizeLine
    rw [List.size_toArray, List.length_reverse, Array.length_toList]
    exact hsz
  obtain ⟨os, hos, hcs, hds⟩ := id hs
  have hTs : s.TypeIs (.ref sl) "slice" := ⟨os, hos, hcs⟩
  unfold getItem
  try with_reducible refine wpAny_holding ?_
  first | refine wpAny_bind (wpAny_pure ?_) | skip
  refine wpAny_bind (wpAny_sequenceKey ht.typeIs (by decide) ?_)
  refine wpAny_bind (wpAny_callSpecial?_slot (name := Str.ofString "__getitem__") ht.typeIs PyProof.Rows.slot_tuple_getitem
    (wpAny_call_entry PyProof.Rows.slot_tuple_getitem ht.typeIs entry_tuple_getitem ?_ (args_tuple_getitem _ _)))
  show wpAny _ _ (Builtin.Tuple.tupleItemsOf (.ref t) >>= _) _ _ s
  refine wpAny_bind (tupleItemsOf_ ht ?_)
  refine wpAny_bind (wpAny_typeOf hTs ?_)
  rw [if_pos (by decide)]
  refine wpAny_bind (slice_rev hs pl pu ps ?_)
  have hno : ¬ ((((items.size : Int) - 1) == 0 && (-1 : Int) == 1 && items.size == items.size) = true) := by
    rw [show ((-1 : Int) == 1) = false from rfl, Bool.and_false, Bool.false_and]
    exact Bool.false_ne_true
  show wpAny _ _ (if (((items.size : Int) - 1) == 0 && (-1 : Int) == 1 && items.size == items.size) = true then _ else _) _ _ s
  rw [if_neg hno, pick_rev]
  first
    | exact wpAny_bind (m := Builtin.Tuple.tupleExact _) (wpAny_newObj_type (wpAny_pure ⟨_, rfl, wpAny_pure h⟩) htake)
    | exact wpAny_bind (m := Builtin.Tuple.tupleExact _) (wpAny_newObj_type (wpAny_bind (wpAny_pure (wpAny_pure ⟨_, rfl, wpAny_pure h⟩))) htake)
    | exact wpAny_bind (wpAny_bind (m := Builtin.Tuple.tupleExact _) (wpAny_newObj_type (wpAny_pure (wpAny_pure ⟨_, rfl, wpAny_pure h⟩)) htake))
    | exact wpAny_bind (wpAny_bind (m := Builtin.Tuple.tupleExact _) (wpAny_newObj_type (wpAny_pure ⟨_, rfl, wpAny_pure h⟩) htake))
end
section
variable {X : Cx} {C : Ex → Addr} {W : WX}
def tRevT (K : PySem.W.Frag) (te : TE) : TE := fun σ H Q => te σ H fun x H1 => ∃ a xs, x = .ref a ∧ ((SqL K H1 a xs ∧ ∀ p, H1 p = none → Q (.ref p) (upd H1 p (.lst xs.reverse))) ∨ (SqT K H1 a xs ∧ ∀ p, H1 p = none → Q (.ref p) (upd H1 p (.tup xs.reverse))))
theorem pe_rev {e : Expr} {te : TE} {k : Nat} {p1 p2 p3 pos : Pos} (he : PE X e te) : PE X (.Subscript e (.Slice none none (some (.UnaryOp .USub (.Constant (.int 1) k p1) p2)) p3) pos) (tRevT X.K te) := by
  refine ⟨fun pins s σ H Q I h => ?_⟩
  refine Subscript_ (thn (he.run pins s σ H _ I h) fun v s1 ⟨x, H1, I1, r1, q1⟩ => ?_)
  obtain ⟨a, xs, ex, hx⟩ := q1
  subst ex
  cases r1
  have hst : PO X (some (.UnaryOp .USub (.Constant (.int 1) k p1) p2)) (tPart (tUn (rU fun i => .int (-i)) (tC (.int 1)))) := po_some (pe_un un_neg pe_int)
  refine wpAny_Slice (thn (po_none.run pins s1 σ H1 (fun o H2 => o = none ∧ H2 = H1) I1 ⟨rfl, rfl⟩) fun vl s2 ⟨l, H2, I2, pl, el, e2⟩ => ?_)
  subst el e2
  refine thn (po_none.run pins s2 σ H2 (fun o H3 => o = none ∧ H3 = H2) I2 ⟨rfl, rfl⟩) fun vu s3 ⟨u, H3, I3, pu, eu, e3⟩ => ?_
  subst eu e3
  refine thn (hst.run pins s3 σ H3 (fun o H4 => o = some (-1) ∧ H4 = H3) I3 ⟨1, rfl, -1, rfl, rfl, rfl⟩) fun vs s4 ⟨o, H4, I4, ps, eo, e4⟩ => ?_
  subst eo e4
  have I5 : Inv X pins σ H4 { s4 with heap := s4.heap.push { cls := .type "slice", data := .fields #[vl, vu, vs] } } := I4.kept (t' := s4.toks) fun b ob q => Heap.get?_push_of_some _ q
  show wpAny (model X.prog X.w) X.A (subscriptTail e (.Slice none none (some (.UnaryOp .USub (.Constant (.int 1) k p1) p2)) p3) (.ref a) (.ref s4.heap.objs.size)) (EP X pins σ Q) X.xe { s4 with heap := s4.heap.push { cls := .type "slice", data := .fields #[vl, vu, vs] } }
  rcases hx with ⟨hx, q⟩ | ⟨hx, q⟩
  · obtain ⟨its, r, ht, hz⟩ := I5.list hx
    have hlen := r.length
    refine tail_any (ops := [.ref a, .ref s4.heap.objs.size]) ht.isList.typeIs (PySem.slot_list_getitem.lookup) ?_ (by with_unfolding_all rfl)
    refine wpAny_getItem_list_slice ht.isList (Heap.IsSliceOf.new _ vl vu vs) pl pu ps (by decide) ?_ (by rw [List.size_toArray]; omega)
    rw [PySem.W.krv_pick]
    refine ⟨.ref _, _, I5.laid (t' := s4.toks) (o := .lst xs.reverse) (fun b ob q => Heap.get?_push_of_some _ q) (Nat.le_refl _) ?_, rfl, q _ (I5.hok.fresh (Nat.le_refl _))⟩
    exact ⟨by rw [List.length_reverse]; exact hz, _, 0, r.reverse, Heap.get?_push_size _ rfl⟩
  · obtain ⟨its, r, ht, hz⟩ := I5.tuple hx
    have hlen := r.length
    refine tail_any (ops := [.ref a, .ref s4.heap.objs.size]) ht.typeIs (PyProof.Rows.slot_tuple_getitem.lookup) ?_ (by with_unfolding_all rfl)
    refine getItem_tuple_rev ht (Heap.IsSliceOf.new _ vl vu vs) pl pu ps ?_ (by rw [List.size_toArray]; omega)
    refine ⟨.ref _, _, I5.laid (t' := s4.toks) (o := .tup xs.reverse) (fun b ob q => Heap.get?_push_of_some _ q) (Nat.le_refl _) ?_, rfl, q _ (I5.hok.fresh (Nat.le_refl _))⟩
    exact ⟨by rw [List.length_reverse]; exact hz, _, r.reverse, ⟨_, Heap.get?_push_size _ rfl, rfl, _, rfl⟩⟩
end
section
variable {X : Cx} {C : Ex → Addr} {W : WX} {a b c : Expr} {pos : Pos} {ta tb tc : DTE}
theorem t_chain {r r' : D → D → G → QD → Prop} {op op' : CmpOp} (ho : OpR X (compareOp op) (rUp X.K r)) (ho' : OpR X (compareOp op') (rUp X.K r')) (ha : PE X a (up X.K C W ta)) (hb : PE X b (up X.K C W tb)) (hc : PE X c (up X.K C W tc)) (hm : lastMarks [op, op'] [b, c] = false) :
    PT X (.Compare a [op, op'] [b, c] pos) (upT X.K C W (dTst (dChain r r' ta tb tc))) := by
  refine pt_imp (pt_chain ho ho' ha hb hc hm) fun σ H Q ⟨env, g, Xd, Qd, re, rg, t, cl, cx⟩ => ?_
  refine ⟨env, g, Xd, _, re, rg, t, fun d1 g1 v H1 q k1 r1 rv => ?_, cx⟩
  refine ⟨env, g1, Xd, _, re.keep k1, r1, q, fun d2 g2 u H2 q2 k2 r2 ru => ?_, cx.at k1⟩
  refine ⟨d1, d2, g2, _, rv.keep k2, ru, r2, q2, fun d3 g3 w H3 q3 k3 r3 rw' => ?_⟩
  have kk := (k1.trans k2).trans k3
  split at q3
  · rename_i k
    refine ⟨k, rw', ?_⟩
    cases k with
    | true =>
      rw [if_pos rfl] at q3 ⊢
      refine ⟨env, g3, Xd, _, re.keep kk, r3, q3, fun d4 g4 z H4 q4 k4 r4 rz => ?_, cx.at kk⟩
      refine ⟨d2, d4, g4, _, (ru.keep k3).keep k4, rz, r4, q4, fun d5 g5 w5 H5 q5 k5 r5 rw5 => ?_⟩
      split at q5
      · exact ⟨_, rw5, cl _ _ _ q5 ((kk.trans k4).trans k5) r5⟩
      · exact q5.elim
    | false => rw [if_neg Bool.false_ne_true] at q3 ⊢; exact ⟨_, rfl, cl _ _ _ q3 kk r3⟩
  · exact q3.elim
end
end PP
set_option maxHeartbeats 2000000
namespace PP
open PySem PySem.Spec PyProof.Rows L2
inductive Grown : Hp → Hp → Prop
  | refl (H : Hp) : Grown H H
  | step {H H' : Hp} {T : Addr} {xs : List V} : Grown H H' → H' T = none → Grown H (upd H' T (.tup xs))
theorem Grown.tk {H H' : Hp} (g : Grown H H') : TK H H' := by
  induction g with
  | refl => exact .refl _
  | step _ h ih => exact ih.trans (.new h)
theorem Grown.rep {K : PySem.W.Frag} {H H' : Hp} (g : Grown H H') {e : G} (r : RepG K H e) : RepG K H' e := by
  induction g with
  | refl => exact r
  | step _ h ih => exact ih.tup h
theorem Grown.at {H H' : Hp} (g : Grown H H') {b : Addr} {o : HO} (e : H b = some o) : H' b = some o := by
  induction g with
  | refl => exact e
  | step _ h ih => rw [upd_ne (ne_of_none ih h)]; exact ih
abbrev ZSt (z TI TO i1 i2 l1 l2 S : Addr) (xs ys : Array Value) (i : Nat) (h : Heap) : Prop :=
  IsPair h TI (.ref i1) (.ref i2) ∧ h.IsListIter i1 l1 i ∧ h.IsListIter i2 l2 i ∧ h.IsList l1 xs ∧ h.IsList l2 ys ∧
    ((IsZip h z TI TO .none ∧ ∃ a b, IsPair h TO a b) ∨ ∃ T f oT, IsZipHeld h z TI TO T f ∧ h.get? T = some oT ∧ T ≠ z ∧ T ≠ i1 ∧ T ≠ i2 ∧ T ≠ S)
section
variable {prog : Program} {w : World} {A : Around} {E : Value → Shared → Prop} {s : Shared} {z TI TO i1 i2 l1 l2 S : Addr} {xs ys : Array Value} {i : Nat}
theorem zst_frame {h h' : Heap} (st : ZSt z TI TO i1 i2 l1 l2 S xs ys i h) (hS : S ∉ [z, TI, TO, i1, i2, l1, l2]) (hk : ∀ b o, b ≠ S → h.get? b = some o → h'.get? b = some o) : ZSt z TI TO i1 i2 l1 l2 S xs ys i h' := by
  simp only [List.mem_cons, List.not_mem_nil, or_false, not_or] at hS
  obtain ⟨dz, dTI, dTO, di1, di2, dl1, dl2⟩ := hS
  obtain ⟨hTI, h1, h2, hl1, hl2, hz⟩ := st
  refine ⟨hk _ _ (Ne.symm dTI) hTI, h1.at fun o e => hk _ o (Ne.symm di1) e, h2.at fun o e => hk _ o (Ne.symm di2) e, hl1.at fun o e => hk _ o (Ne.symm dl1) e, hl2.at fun o e => hk _ o (Ne.symm dl2) e, ?_⟩
  rcases hz with ⟨hz, a, b, hTO⟩ | ⟨T, f, oT, hz, hT, r1, r2, r3, r4⟩
  · exact .inl ⟨hk _ _ (Ne.symm dz) hz, a, b, hk _ _ (Ne.symm dTO) hTO⟩
  · exact .inr ⟨T, f, oT, hk _ _ (Ne.symm dz) hz, hk _ _ r4 hT, r1, r2, r3, r4⟩
theorem zst_item (D : ZipApart z TI TO i1 i2 l1 l2) (st : ZSt z TI TO i1 i2 l1 l2 S xs ys i s.heap) (hS : S < s.heap.objs.size) (hix : i < xs.size) (hiy : i < ys.size) {Q : Option Value → Shared → Prop}
    (hQ : ∀ h' x y, xs[i]? = some x → ys[i]? = some y → ZSt z TI TO i1 i2 l1 l2 S xs ys (i + 1) h' → IsPair h' s.heap.objs.size x y → h'.objs.size = s.heap.objs.size + 1 → (∀ c o, c ∉ [z, TI, TO, i1, i2] → s.heap.get? c = some o → h'.get? c = some o) → Q (some (.ref s.heap.objs.size)) { s with heap := h' }) :
    wpAny (model prog w) A (pyNext (.ref z)) Q E s := by
  obtain ⟨hTI, h1, h2, hl1, hl2, hz⟩ := st
  have ex := Array.getElem?_eq_getElem hix
  have ey := Array.getElem?_eq_getElem hiy
  have lt : ∀ {c o}, s.heap.get? c = some o → s.heap.objs.size ≠ c := fun e => Nat.ne_of_gt (Heap.lt_size e)
  have n1 : s.heap.objs.size ≠ i1 := let ⟨_, e, _⟩ := h1; lt e
  have n2 : s.heap.objs.size ≠ i2 := let ⟨_, e, _⟩ := h2; lt e
  rcases hz with ⟨hz, a, b, hTO⟩ | ⟨T, f, oT, hz, hT, r1, r2, r3, r4⟩
  · refine wpAny_pyNext_zip_item D hz hTI hTO h1 h2 hl1 hl2 ex ey fun h' a1 a2 a3 a4 a5 a6 hk => ?_
    exact hQ h' _ _ ex ey
      ⟨hk _ _ D.TIz D.TITO D.TIi1 D.TIi2 hTI, a3, a4, hl1.at fun o e => hk _ o D.l1z D.l1TO D.l1i1 D.l1i2 e, hl2.at fun o e => hk _ o D.l2z D.l2TO D.l2i1 D.l2i2 e,
        .inr ⟨s.heap.objs.size, false, _, a1, a5, lt hz, n1, n2, Nat.ne_of_gt hS⟩⟩ a5 a6
      fun c o hc e => hk c o (fun x => hc (by simp [x])) (fun x => hc (by simp [x])) (fun x => hc (by simp [x])) (fun x => hc (by simp [x])) e
  · refine wpAny_pyNext_zip_item_held D hz hT hTI h1 h2 hl1 hl2 ex ey fun h' a1 a3 a4 a5 a6 hk => ?_
    exact hQ h' _ _ ex ey
      ⟨hk _ _ D.TIz D.TIi1 D.TIi2 hTI, a3, a4, hl1.at fun o e => hk _ o D.l1z D.l1i1 D.l1i2 e, hl2.at fun o e => hk _ o D.l2z D.l2i1 D.l2i2 e,
        .inr ⟨T, true, oT, a1, hk _ _ r1 r2 r3 hT, r1, r2, r3, r4⟩⟩ a5 a6
      fun c o hc e => hk c o (fun x => hc (by simp [x])) (fun x => hc (by simp [x])) (fun x => hc (by simp [x])) e
theorem zst_done (hh : A.handled = none) (D : ZipApart z TI TO i1 i2 l1 l2) (st : ZSt z TI TO i1 i2 l1 l2 S xs ys i s.heap) (hi : i = min xs.size ys.size) {Q : Option Value → Shared → Prop}
    (hQ : ∀ h', (∀ c o, c ∉ [z, TI, TO, i1, i2] → s.heap.get? c = some o → h'.get? c = some o) → Q none { s with heap := h' }) : wpAny (model prog w) A (pyNext (.ref z)) Q E s := by
  obtain ⟨hTI, h1, h2, hl1, hl2, hz⟩ := st
  have hend : xs[i]? = none ∨ ys[i]? = none := by
    rw [hi]
    rcases Nat.le_total xs.size ys.size with h | h
    · exact .inl (Array.getElem?_eq_none (by rw [Nat.min_eq_left h]; exact Nat.le_refl _))
    · exact .inr (Array.getElem?_eq_none (by rw [Nat.min_eq_right h]; exact Nat.le_refl _))
  rcases hz with ⟨hz, a, b, hTO⟩ | ⟨T, f, oT, hz, hT, r1, r2, r3, r4⟩
  · exact wpAny_pyNext_zip_end hh D hz hTI hTO h1 h2 hl1 hl2 hend fun h' hk => hQ h' fun c o hc e => hk c o (fun x => hc (by simp [x])) (fun x => hc (by simp [x])) (fun x => hc (by simp [x])) (fun x => hc (by simp [x])) e
  · exact wpAny_pyNext_zip_end_held hh D hz hT hTI h1 h2 hl1 hl2 hend fun h' hk => hQ h' fun c o hc e => hk c o (fun x => hc (by simp [x])) (fun x => hc (by simp [x])) (fun x => hc (by simp [x])) e
end
def Made (xs ys : List V) (H : Hp) (ts : List Addr) : Prop := ∀ (j : Nat) (T : Addr), ts[j]? = some T → ∃ x y, xs[j]? = some x ∧ ys[j]? = some y ∧ H T = some (.tup [x, y])
theorem Made.snoc {xs ys : List V} {H : Hp} {ts : List Addr} {T : Addr} {x y : V} (m : Made xs ys H ts) (hx : xs[ts.length]? = some x) (hy : ys[ts.length]? = some y) (hT : H T = none) : Made xs ys (upd H T (.tup [x, y])) (ts ++ [T]) := fun j U e => by
  rw [List.getElem?_append] at e
  split at e
  · obtain ⟨x', y', a, b, c⟩ := m j U e
    exact ⟨x', y', a, b, by rw [upd_ne (ne_of_none c hT)]; exact c⟩
  · rw [List.getElem?_singleton] at e
    split at e
    · cases e
      have : j = ts.length := by omega
      subst this
      exact ⟨x, y, hx, hy, upd_same⟩
    · cases e
section
variable {X : Cx} {pins : List (Addr × Obj)} {σ : L2.St} {z TI TO i1 i2 a b S : Addr} {its its2 : List Value} {xs ys : List V} {n : Nat} {res : Value} {R : Result → Shared → Prop} {H : Hp}
theorem extend_zip (D : ZipApart z TI TO i1 i2 a b) (rv : Vals xs its) (rv2 : Vals ys its2) (hS : S ∉ [z, TI, TO, i1, i2, a, b]) (hn : n = min its.length its2.length) (hz : n ≤ sizeLine) {b0 : Nat} (hb0 : ∀ b ∈ [z, TI, TO, i1, i2, S], b < b0)
    (hR : ∀ s' H' ts c', Inv X pins σ H' s' → Grown H H' → (∀ b ∈ [z, TI, TO, i1, i2, S], FpOk X pins H' b) → ts.length = n → Made xs ys H' ts → s'.heap.get? S = some { cls := .type "list", dict := none, data := .seq (ts.map Value.ref).toArray c', slots := #[] } → R (.ok (.ret res)) s') :
    ∀ (k i : Nat) (A : Around) (s : Shared) (H' : Hp) (ts : List Addr) (acc : Array Value) (c : Nat), n - i = k → i ≤ n → A.handled = none → Inv X pins σ H' s → Grown H H' → (∀ b ∈ [z, TI, TO, i1, i2, S], FpOk X pins H' b) → ts.length = i → Made xs ys H' ts → ZSt z TI TO i1 i2 a b S its.toArray its2.toArray i s.heap → acc = (ts.map Value.ref).toArray →
      s.heap.get? S = some { cls := .type "list", dict := none, data := .seq acc c, slots := #[] } → b0 ≤ s.heap.objs.size → codeAny (model X.prog X.w) A (.builtin "list.extend.loop" ⟨[.ref S, .ref z, res], []⟩) R s := by
  have hS' := hS
  simp only [List.mem_cons, List.not_mem_nil, or_false, not_or] at hS'
  obtain ⟨dz, dTI, dTO, di1, di2, dl1, dl2⟩ := hS'
  have hSw : S ∉ [z, TI, TO, i1, i2] := by simp only [List.mem_cons, List.not_mem_nil, or_false, not_or]; exact ⟨dz, dTI, dTO, di1, di2⟩
  have sub : ∀ {b}, b ∉ [z, TI, TO, i1, i2, S] → b ∉ [z, TI, TO, i1, i2] := fun {b} h h2 => h (by simp only [List.mem_cons, List.not_mem_nil, or_false] at h2 ⊢; rcases h2 with h | h | h | h | h <;> simp [h])
  intro k
  induction k with
  | zero =>
    intro i A s H' ts acc c hk hi hh I gr hf hl hm st hacc hSg hb
    have hin : i = n := by omega
    refine codeAny_builtin F.entry_extend_loop ?_
    rw [Around.under_plainId F.plain_extend_loop _]
    show wpAny _ A.in1 (pyNext (.ref z) >>= _) _ _ s
    refine wpAny_bind (zst_done (A := A.in1) hh D st (by rw [hin, hn, List.size_toArray, List.size_toArray]) fun h' hk => ?_)
    have I1 : Inv X pins σ H' { s with heap := h' } := I.turnedL (t' := s.toks) (ch := [z, TI, TO, i1, i2, S]) (fun c o hb q => hk c o (sub hb) q) hf
    exact wpAny_pure (hR _ H' ts c I1 gr hf (by omega) hm (by rw [← hacc]; exact hk S _ hSw hSg))
  | succ k ih =>
    intro i A s H' ts acc c hk hi hh I gr hf hl hm st hacc hSg hb
    have hlt : i < n := by omega
    have hSl : S < s.heap.objs.size := Heap.lt_size hSg
    refine codeAny_builtin F.entry_extend_loop ?_
    rw [Around.under_plainId F.plain_extend_loop _]
    show wpAny _ A.in1 (pyNext (.ref z) >>= _) _ _ s
    refine wpAny_bind (zst_item (A := A.in1) D st hSl (by rw [List.size_toArray]; omega) (by rw [List.size_toArray]; omega) fun h' u v hu hv st' hp hsz' hk => ?_)
    have hSg' := hk S _ hSw hSg
    rw [List.getElem?_toArray] at hu hv
    have l1 := rv.length
    have l2 := rv2.length
    obtain ⟨x, hx⟩ : ∃ x, xs[i]? = some x := ⟨xs[i]'(by omega), List.getElem?_eq_getElem (by omega)⟩
    obtain ⟨y, hy⟩ : ∃ y, ys[i]? = some y := ⟨ys[i]'(by omega), List.getElem?_eq_getElem (by omega)⟩
    obtain ⟨u', hu', rx⟩ := rv.get hx
    obtain ⟨v', hv', ry⟩ := rv2.get hy
    rw [hu'] at hu; cases hu
    rw [hv'] at hv; cases hv
    have hfr : H' s.heap.objs.size = none := I.hok.fresh (Nat.le_refl _)
    show wpAny _ A.in1 (updateSeq S (·.push (.ref s.heap.objs.size)) >>= _) _ _ _
    have hup : ∀ c o, c ≠ S → h'.get? c = some o → (h'.update S (Obj.mapSeq (·.push (.ref s.heap.objs.size)))).get? c = some o := fun c o hc e => (Heap.get?_update_other _ _ (Ne.symm hc)).trans e
    have hsz : acc.size = i := by rw [hacc, List.size_toArray, List.length_map, hl]
    have new : ObjOk X.prog X.w (upd H' s.heap.objs.size (.tup [x, y])) (h'.update S (Obj.mapSeq (·.push (.ref s.heap.objs.size)))) s.heap.objs.size (.tup [x, y]) :=
      ⟨by show 2 ≤ sizeLine; decide, [u, v], .cons rx (.cons ry .nil), ⟨_, hup _ _ (Nat.ne_of_gt hSl) hp, rfl, _, rfl⟩⟩
    have I1 : Inv X pins σ (upd H' s.heap.objs.size (.tup [x, y])) { s with heap := h'.update S (Obj.mapSeq (·.push (.ref s.heap.objs.size))) } :=
      I.turnedNew (t' := s.toks) (ch := [z, TI, TO, i1, i2, S]) (fun c o hb q => hup c o (fun e => hb (by simp [e])) (hk c o (sub hb) q)) hf (Nat.le_refl _) new
    have hf1 : ∀ b ∈ [z, TI, TO, i1, i2, S], FpOk X pins (upd H' s.heap.objs.size (.tup [x, y])) b := fun b hb' => by
      have q := hf b hb'
      refine ⟨?_, q.2⟩
      rw [upd_ne (Nat.ne_of_lt (Nat.lt_of_lt_of_le (hb0 _ hb') hb))]
      exact q.1
    refine wpAny_bind ?_
    refine wpAny_updateSeq hSg' rfl (wpAny_pure ⟨plainId_quiet F.plain_extend_loop _, ih (i + 1) A _ _ (ts ++ [s.heap.objs.size]) (acc.push (.ref s.heap.objs.size)) _ (by omega) hlt hh I1 (gr.step hfr) hf1 (by simp [hl]) (hm.snoc (by rw [hl]; exact hx) (by rw [hl]; exact hy) hfr) (zst_frame st' hS fun c o hc e => hup c o hc e) (by rw [hacc]; simp) (Heap.get?_update_self _ hSg' rfl) (by show b0 ≤ (h'.update S _).objs.size; rw [(Heap.SameBut.update ..).1, hsz']; omega)⟩)
      (by rw [hsz]; omega) (by show (acc.push _).size ≤ sizeLine + 1; rw [Array.size_push, hsz]; omega)
theorem zip_no_len : typeLookup (.type "zip") "__len__" = pure none := by rw [typeLookup_type, builtinLookup_eq_fast]; kernel_rfl
theorem zip_no_hint : typeLookup (.type "zip") "__length_hint__" = pure none := by rw [typeLookup_type, builtinLookup_eq_fast]; kernel_rfl
theorem collect_zip {A : Around} {s : Shared} {E : Value → Shared → Prop} {Q : List Value → Shared → Prop} (D : ZipApart z TI TO i1 i2 a b) (rv : Vals xs its) (rv2 : Vals ys its2) (hn : n = min its.length its2.length) (hz : n ≤ sizeLine) (hh : A.handled = none) (I : Inv X pins σ H s)
    (hf : ∀ b ∈ [z, TI, TO, i1, i2], FpOk X pins H b) (hlt : ∀ c ∈ [z, TI, TO, i1, i2, a, b], c < s.heap.objs.size)
    (h0 : IsPair s.heap TI (.ref i1) (.ref i2) ∧ s.heap.IsListIter i1 a 0 ∧ s.heap.IsListIter i2 b 0 ∧ s.heap.IsList a its.toArray ∧ s.heap.IsList b its2.toArray ∧ IsZip s.heap z TI TO .none ∧ ∃ a b, IsPair s.heap TO a b)
    (hQ : ∀ s' H' ts, Inv X pins σ H' s' → Grown H H' → ts.length = n → Made xs ys H' ts → Q (ts.map Value.ref) s') : wpAny (model X.prog X.w) A (collect (.ref z)) Q E s := by
  obtain ⟨g1, g2, g3, g4, g5, g6, ta, tb, g7⟩ := h0
  have hS : s.heap.objs.size ∉ [z, TI, TO, i1, i2, a, b] := fun hm => Nat.lt_irrefl _ (hlt _ hm)
  have hSz : s.heap.objs.size ≠ z := fun e => hS (by simp [e])
  have hfS : FpOk X pins H s.heap.objs.size := I.fpOk (Nat.le_refl _) (I.hok.fresh (Nat.le_refl _))
  unfold collect
  refine wpAny_bind (wpAny_runValue (codeAny_builtin F.entry_proto_collect ?_))
  rw [Around.under_plainId F.plain_proto_collect _]
  show wpAny _ A.in1 (newList [] >>= fun l => again (.builtin "list.__iadd__" ⟨[l, .ref z], []⟩)) _ _ s
  refine wpAny_bind (wpAny_newObj_type ?_)
  refine wpAny_pure ⟨plainId_quiet F.plain_list_iadd _, codeAny_builtin F.entry_list_iadd ?_⟩
  rw [Around.under_plainId F.plain_list_iadd _]
  have hS₁ : (s.heap.push { cls := .type "list", data := .seq ([] : List Value).toArray }).get? s.heap.objs.size = some { cls := .type "list", data := .seq ([] : List Value).toArray } := Heap.get?_push_size _ rfl
  have k1 : ∀ b o, s.heap.get? b = some o → (s.heap.push { cls := .type "list", data := .seq ([] : List Value).toArray }).get? b = some o := fun b o e => Heap.get?_push_of_some _ e
  have hT : ({ s with heap := s.heap.push { cls := .type "list", data := .seq ([] : List Value).toArray } } : Shared).TypeIs (.ref z) "zip" := ⟨_, k1 _ _ g6, rfl⟩
  show wpAny _ A.in1 (Builtin.List.listExtendWith (.ref s.heap.objs.size) (.ref z) (.ref s.heap.objs.size)) _ _ _
  unfold Builtin.List.listExtendWith
  refine wpAny_bind (wpAny_typeOf hT ?_)
  have h1 : Builtin.List.listSameRef (.ref s.heap.objs.size) (.ref z) = false := by simp [Builtin.List.listSameRef, hSz]
  have h2 : (Value.type "zip" == Value.type "list") = false := by decide
  have h3 : (Value.type "zip" == Value.type "tuple") = false := by decide
  simp only [h1, h2, h3, Bool.or_false, Bool.false_eq_true, if_false]
  refine wpAny_bind (wpAny_pyIter_zip (s := { s with heap := s.heap.push { cls := .type "list", data := .seq ([] : List Value).toArray } }) (k1 _ _ g6) ?_)
  refine wpAny_bind (wpAny_holding ?_)
  unfold Builtin.List.listLengthHint
  refine wpAny_bind (wpAny_specialOf hT zip_no_len ?_)
  show wpAny _ A.in1 (specialOf (Value.ref z) (Str.ofString "__length_hint__") >>= _) _ _ _
  refine wpAny_bind (wpAny_specialOf hT zip_no_hint ?_)
  refine wpAny_pure ?_
  show wpAny _ A.in1 (rule "list.extend.makes-room" >>= fun _ => Builtin.List.listTouch (.ref s.heap.objs.size) >>= fun _ =>
    again (.builtin "list.extend.loop" ⟨[.ref s.heap.objs.size, .ref z, .ref s.heap.objs.size], []⟩)) _ _ _
  refine wpAny_bind (wpAny_rule ?_)
  refine wpAny_bind ?_
  show wpAny _ A.in1 (updateSeq s.heap.objs.size (·.push .none) >>= fun _ => updateSeq s.heap.objs.size (·.pop)) _ _ _
  refine wpAny_bind (wpAny_updateSeq hS₁ rfl ?_)
  have hS₂ := Heap.get?_update_self (Obj.mapSeq (·.push Value.none)) hS₁ rfl
  refine wpAny_updateSeq hS₂ rfl ?_
  have hS₃ := Heap.get?_update_self (Obj.mapSeq (·.pop)) hS₂ rfl
  have oth : ∀ b o, b ≠ s.heap.objs.size → s.heap.get? b = some o →
      (((s.heap.push { cls := .type "list", data := .seq ([] : List Value).toArray }).update s.heap.objs.size (Obj.mapSeq (·.push Value.none))).update s.heap.objs.size (Obj.mapSeq (·.pop))).get? b = some o :=
    fun b o hb e => (Heap.get?_update_other _ _ (Ne.symm hb)).trans ((Heap.get?_update_other _ _ (Ne.symm hb)).trans (k1 b o e))
  have ne : ∀ {c}, c ∈ [z, TI, TO, i1, i2, a, b] → c ≠ s.heap.objs.size := fun hc e => hS (e ▸ hc)
  have I1 : Inv X pins σ H { s with heap := ((s.heap.push { cls := .type "list", data := .seq ([] : List Value).toArray }).update s.heap.objs.size (Obj.mapSeq (·.push Value.none))).update s.heap.objs.size (Obj.mapSeq (·.pop)) } :=
    I.turnedL (t' := s.toks) (ch := [s.heap.objs.size]) (fun b o hb e => oth b o (fun q => hb (by simp [q])) e) (fun b hb => by rw [List.mem_singleton.mp hb]; exact hfS)
  have st : ZSt z TI TO i1 i2 a b s.heap.objs.size its.toArray its2.toArray 0 (((s.heap.push { cls := .type "list", data := .seq ([] : List Value).toArray }).update s.heap.objs.size (Obj.mapSeq (·.push Value.none))).update s.heap.objs.size (Obj.mapSeq (·.pop))) :=
    ⟨oth _ _ (ne (by simp)) g1, g2.at fun o e => oth _ o (ne (by simp)) e, g3.at fun o e => oth _ o (ne (by simp)) e, g4.at fun o e => oth _ o (ne (by simp)) e, g5.at fun o e => oth _ o (ne (by simp)) e, .inl ⟨oth _ _ (ne (by simp)) g6, ta, tb, oth _ _ (ne (by simp)) g7⟩⟩
  have hszz : (((s.heap.push { cls := .type "list", data := .seq ([] : List Value).toArray }).update s.heap.objs.size (Obj.mapSeq (·.push Value.none))).update s.heap.objs.size (Obj.mapSeq (·.pop))).objs.size = s.heap.objs.size + 1 := by
    rw [(Heap.SameBut.update ..).1, (Heap.SameBut.update ..).1, Heap.size_push]
  refine wpAny_pure ⟨plainId_quiet F.plain_extend_loop _, extend_zip (X := X) (pins := pins) (σ := σ) (H := H) (n := n) (b0 := s.heap.objs.size + 1) D rv rv2 hS hn hz (fun c hc => ?_) (fun s' H' ts c' I' gr _ hl hm hSg => ?_) n 0 A _ H [] #[] _ rfl (Nat.zero_le _) hh I1 (.refl _) (fun c hc => ?_) rfl (fun j T e => by simp at e) st rfl hS₃ (Nat.le_of_eq hszz.symm)⟩
  · simp only [List.mem_cons, List.not_mem_nil, or_false] at hc
    rcases hc with rfl | rfl | rfl | rfl | rfl | rfl
    all_goals first | exact Nat.lt_succ_self _ | exact Nat.lt_succ_of_lt (hlt _ (by simp))
  · show wpAny _ A (load s.heap.objs.size >>= _) _ _ s'
    refine wpAny_bind (wpAny_load hSg ?_)
    refine wpAny_pure ?_
    have := hQ s' H' ts I' gr hl hm
    simpa using this
  · simp only [List.mem_cons, List.not_mem_nil, or_false] at hc
    rcases hc with rfl | rfl | rfl | rfl | rfl | rfl
    all_goals first | exact hfS | exact hf _ (by simp)
theorem call_tuple_zip {A : Around} {s : Shared} {E : Value → Shared → Prop} {Q : Value → Shared → Prop} (D : ZipApart z TI TO i1 i2 a b) (rv : Vals xs its) (rv2 : Vals ys its2) (hn : n = min its.length its2.length) (hz : n ≤ sizeLine) (hh : A.handled = none) (I : Inv X pins σ H s)
    (hf : ∀ b ∈ [z, TI, TO, i1, i2], FpOk X pins H b) (hlt : ∀ c ∈ [z, TI, TO, i1, i2, a, b], c < s.heap.objs.size)
    (h0 : IsPair s.heap TI (.ref i1) (.ref i2) ∧ s.heap.IsListIter i1 a 0 ∧ s.heap.IsListIter i2 b 0 ∧ s.heap.IsList a its.toArray ∧ s.heap.IsList b its2.toArray ∧ IsZip s.heap z TI TO .none ∧ ∃ a b, IsPair s.heap TO a b)
    (hQ : ∀ s' H' ts, Inv X pins σ H' s' → Grown H H' → ts.length = n → Made xs ys H' ts → Q (.ref s'.heap.objs.size) { s' with heap := s'.heap.push { cls := .type "tuple", data := .seq (ts.map Value.ref).toArray } }) :
    wpAny (model X.prog X.w) A (call (.type "tuple") [.ref z]) Q E s := by
  have code : codeAny (model X.prog X.w) A.in1 (.call (.builtin "tuple.__new__") ⟨[.type "tuple", .ref z], []⟩) (wants (fun obj s₁ => s₁.TypeIs obj "tuple" ∧ Q obj s₁) E) s := by
    refine codeAny_of_tree ?_
    show wpAny _ A.in1.in1 (do checkBuiltinCall "tuple.__new__" ⟨[.type "tuple", .ref z], []⟩; again (.builtin "tuple.__new__" ⟨[.type "tuple", .ref z], []⟩)) _ _ s
    refine wpAny_bind (wpAny_of_eq (F.newCall_tuple_1 _) (wpAny_pure ⟨plainId_quiet F.plain_tuple_new _, codeAny_builtin F.entry_tuple_new ?_⟩))
    rw [Around.under_plainId F.plain_tuple_new _]
    have hsub := sub_tuple_self
    have hinit := init_tuple_lookup
    have hmh := madeHere_tuple
    have hTI : s.TypeIs (.ref z) "zip" := ⟨_, h0.2.2.2.2.2.1, rfl⟩
    have hh1 : A.in1.in1.handled = none := hh
    wp_walk using wpAny_typeOf hTI, collect_zip (A := A.in1.in1) D rv rv2 hn hz hh1 I hf hlt h0
    intro s' H' ts I' gr hl hm
    show wpAny _ _ (Builtin.Tuple.tupleExact (ts.map Value.ref).toArray >>= fun v => ret v) _ _ _
    unfold Builtin.Tuple.tupleExact
    refine wpAny_bind (wpAny_newObj_type ?_ (by show (ts.map Value.ref).toArray.size ≤ sizeLine; rw [List.size_toArray, List.length_map, hl]; exact hz))
    exact wpAny_pure ⟨⟨_, Heap.get?_push_size _ rfl, rfl⟩, hQ s' H' ts I' gr hl hm⟩
  refine callType_codes (Q₁ := fun obj s₁ => s₁.TypeIs obj "tuple" ∧ Q obj s₁) F.called_tuple (F.typeCall_tuple_1 _) F.entry_object_init code fun obj s₁ h₁ => ?_
  exact ⟨h₁.1, F.args_object_init_2 obj _, object_init_meets F.called_tuple.init.lookup F.called_tuple.made (by decide) X.prog X.w A.in1 _ s₁ ⟨h₁.1, rfl, h₁.2⟩⟩
end
def tTupZip (K : PySem.W.Frag) (ta : TA) : TE := fun σ H Q => ta σ H fun vs H1 => ∃ a b xs ys, vs = [.ref a, .ref b] ∧ SqL K H1 a xs ∧ SqL K H1 b ys ∧
  ∀ H2 ts q, Grown H1 H2 → ts.length = min xs.length ys.length → Made xs ys H2 ts → H2 q = none → Q (.ref q) (upd H2 q (.tup (ts.map V.ref)))
theorem vals_refs : ∀ ts : List Addr, Vals (ts.map V.ref) (ts.map Value.ref)
  | [] => .nil
  | _ :: ts => .cons rfl (vals_refs ts)
section
variable {X : Cx} {C : Ex → Addr} {W : WX} {e e2 : Expr} {ta tb : DTE} {p p2 pos pos2 : Pos}
theorem pe_tupZip {t : TA} (hc : X.calm = true) (hg : Gl X "tuple") (hm : X.mg "tuple" = none) (hg2 : Gl X "zip") (hm2 : X.mg "zip" = none) (ha : PA X [e, e2] t)
    (hs : starEach [e, e2] X.env = (false, eval e X.env) :: starEach [e2] X.env) (hpl : (backTo pos2 (starEach [e2] X.env)).any (·.1) = false)
    (hs2 : starEach [.Call (.Name "zip" p2) [e, e2] [] pos2] X.env = (false, eval (.Call (.Name "zip" p2) [e, e2] [] pos2) X.env) :: starEach [] X.env) :
    PE X (.Call (.Name "tuple" p) [.Call (.Name "zip" p2) [e, e2] [] pos2] [] pos) (tTupZip X.K t) := by
  refine ⟨fun pins s σ H Q I h => ?_⟩
  refine Call_ (ld_blt I hg hm boot_tuple (PyProof.Rows.callWith_type1 (args_cons (Call_ (ld_blt I hg2 hm2 PyProof.Rows.boot_zip (PyProof.Rows.callWith_type1 (thn (ha.run pos2 pins s σ H _ I h) fun us s1 ⟨vs, H1, I1, r1, q1⟩ => ?_) hs hpl))) hs2) hs2 rfl))
  obtain ⟨a, b, xs, ys, ex, hqx, hqy, q⟩ := q1
  subst ex
  cases r1 with
  | cons r rr =>
    cases rr with
    | cons r' rr =>
      cases rr
      cases r
      cases r'
      obtain ⟨its, rv, p1, hz1⟩ := I1.list hqx
      obtain ⟨its2, rv2, p2, _⟩ := I1.list hqy
      have l1 := rv.length
      have l2 := rv2.length
      have fresh5 : ∀ c, c ∈ [s1.heap.objs.size + 4, s1.heap.objs.size + 2, s1.heap.objs.size + 3, s1.heap.objs.size, s1.heap.objs.size + 1] → FpOk X pins H1 c := fun c hcm => by
        have e' : c = s1.heap.objs.size + 4 ∨ c = s1.heap.objs.size + 2 ∨ c = s1.heap.objs.size + 3 ∨ c = s1.heap.objs.size ∨ c = s1.heap.objs.size + 1 := by simpa using hcm
        have hle : s1.heap.objs.size ≤ c := by omega
        exact I1.fpOk hle (I1.hok.fresh hle)
      refine call_zip_2 p1.isList p2.isList fun h' hz hTI hTO h1 h2 hsz hk => args_nil ?_
      have I2 : Inv X pins σ H1 { s1 with heap := h' } := I1.kept (t' := s1.toks) hk
      have hla := p1.lt
      have hlb := p2.lt
      refine call_tuple_zip (s := { s1 with heap := h' }) (X := X) (pins := pins) (σ := σ) (H := H1) (n := min its.length its2.length) (PySem.W.ktu_apart s1.heap.objs.size a b p1.lt p2.lt) rv rv2 rfl (by omega) (I1.ok.hd hc) I2 fresh5 (fun c hcm => ?_)
        ⟨hTI, h1, h2, p1.isList.at fun o e => hk _ o e, p2.isList.at fun o e => hk _ o e, hz, _, _, hTO⟩ fun s' H' ts I' gr hl hm' => ?_
      · simp only [List.mem_cons, List.not_mem_nil, or_false] at hcm
        show c < h'.objs.size
        rw [hsz]
        rcases hcm with h | h | h | h | h | h | h
        · rw [h]; exact Nat.lt_succ_self _
        · rw [h]; exact Nat.add_lt_add_left (by decide) _
        · rw [h]; exact Nat.add_lt_add_left (by decide) _
        · rw [h]; exact Nat.lt_add_of_pos_right (by decide)
        · rw [h]; exact Nat.add_lt_add_left (by decide) _
        · rw [h]; exact Nat.lt_of_lt_of_le hla (Nat.le_add_right _ _)
        · rw [h]; exact Nat.lt_of_lt_of_le hlb (Nat.le_add_right _ _)
      · have hfr := I'.hok.fresh (Nat.le_refl s'.heap.objs.size)
        refine ⟨.ref _, _, I'.laid (t' := s'.toks) (o := .tup (ts.map V.ref)) (fun b ob q => Heap.get?_push_of_some _ q) (Nat.le_refl _) ?_, rfl, q H' ts _ gr (by omega) hm' hfr⟩
        exact ⟨by rw [List.length_map, hl]; omega, _, vals_refs ts, ⟨_, Heap.get?_push_size _ rfl, rfl, _, rfl⟩⟩
def dTupZ : D → D → G → QD → Prop
  | .ref a, .ref b => fun g Q => match g a, g b with | some xs, some ys => Q (.tup (zipD xs ys)) g | _, _ => False
  | _, _ => fun _ _ => False
theorem made_rep {K : PySem.W.Frag} {H H2 : Hp} {ds es : List D} {xs ys : List V} (k : TK H H2) (r : RepL K H ds xs) (r2 : RepL K H es ys) : ∀ {ts : List Addr}, ts.length = min xs.length ys.length → Made xs ys H2 ts → RepL K H2 (zipD ds es) (ts.map V.ref) := by
  intro ts
  induction ts generalizing ds es xs ys with
  | nil =>
    intro hl _
    have e : ds = [] ∨ es = [] := by
      have := r.length
      have := r2.length
      simp only [List.length_nil] at hl
      rcases Nat.eq_zero_or_pos ds.length with h | h
      · exact .inl (List.length_eq_zero_iff.mp h)
      · exact .inr (List.length_eq_zero_iff.mp (by omega))
    rcases e with rfl | rfl
    · rfl
    · cases ds <;> rfl
  | cons T ts ih =>
    intro hl hm
    obtain ⟨x, y, hx, hy, hT⟩ := hm 0 T rfl
    cases xs with
    | nil => cases hx
    | cons x' xs =>
      cases ys with
      | nil => cases hy
      | cons y' ys =>
        simp only [List.getElem?_cons_zero, Option.some.injEq] at hx hy
        subst hx hy
        cases ds with
        | nil => cases (show _ = [] from r)
        | cons d ds =>
          cases es with
          | nil => cases (show _ = [] from r2)
          | cons e es =>
            obtain ⟨v, q, e1, h1, t1⟩ := r
            obtain ⟨v2, q2, e2, h2, t2⟩ := r2
            cases e1
            cases e2
            refine ⟨.ref T, ts.map V.ref, rfl, ⟨T, [x', y'], rfl, .inl hT, ⟨x', [y'], rfl, h1.keep k, ⟨y', [], rfl, h2.keep k, rfl⟩⟩⟩, ih t1 t2 (by simp only [List.length_cons] at hl; omega) fun j U e => ?_⟩
            obtain ⟨x, y, a1, a2, a3⟩ := hm (j + 1) U (by simpa using e)
            exact ⟨x, y, by simpa using a1, by simpa using a2, a3⟩
theorem d_tupZ (hc : X.calm = true) (hg : Gl X "tuple") (hm : X.mg "tuple" = none) (hg2 : Gl X "zip") (hm2 : X.mg "zip" = none) (ha : PE X e (up X.K C W ta)) (hb : PE X e2 (up X.K C W tb))
    (hs : starEach [e, e2] X.env = (false, eval e X.env) :: starEach [e2] X.env) (hs3 : starEach [e2] X.env = [(false, eval e2 X.env)]) (hpl : (backTo pos2 (starEach [e2] X.env)).any (·.1) = false)
    (hs2 : starEach [.Call (.Name "zip" p2) [e, e2] [] pos2] X.env = (false, eval (.Call (.Name "zip" p2) [e, e2] [] pos2) X.env) :: starEach [] X.env) :
    PE X (.Call (.Name "tuple" p) [.Call (.Name "zip" p2) [e, e2] [] pos2] [] pos) (up X.K C W (dBin dTupZ ta tb)) := by
  refine pe_imp (pe_tupZip hc hg hm hg2 hm2 (pa_cons ha (pa_cons hb pa_nil hs3) hs) hs hpl hs2) fun σ H Q ⟨env, g, Xd, Qd, re, rg, t, cl, cx⟩ => ?_
  refine ⟨env, g, Xd, _, re, rg, t, fun d g1 v H1 q k r rv => ?_, cx⟩
  refine ⟨env, g1, Xd, _, re.keep k, r, q, fun d2 g2 v2 H2 q2 k2 r2 rv2 => ?_, cx.at k⟩
  dsimp only at q2
  unfold dTupZ at q2
  have kk := k.trans k2
  split at q2
  · obtain ⟨hc1, rfl⟩ := rv
    obtain ⟨hc2, rfl⟩ := rv2
    split at q2
    · rename_i xs ys e1 e2
      obtain ⟨vs, h1, l1⟩ := r2.lst hc1 e1
      obtain ⟨ws, h2, l2⟩ := r2.lst hc2 e2
      refine ⟨_, _, vs, ws, rfl, .of h1, .of h2, fun H3 ts q gr hl hm hq => ?_⟩
      have k3 := gr.tk
      exact cl _ _ _ _ q2 ((kk.trans k3).trans (.new hq)) ((gr.rep r2).tup hq) ⟨q, ts.map V.ref, rfl, .inl upd_same, (made_rep k3 l1 l2 hl hm).keep (.new hq)⟩
    · exact q2.elim
  · exact q2.elim
end
def dEmp : DTE := fun _ _ g Q => Q .emp g
section
variable {X : Cx} {C : Ex → Addr} {W : WX} {pos : Pos}
theorem pe_dnewF : PE X (.Dict [] [] pos) (fun _ H Q => ∀ p o, H p = none → Q (.ref p) (upd H p (.frz o (.dK [])))) := ⟨fun pins s σ H Q I h =>
  wpAny_Dict_empty ⟨.ref s.heap.objs.size, _, I.laid (a := s.heap.objs.size) (o := .frz { cls := .type "dict", data := .dict #[] } (.dK [])) (t' := s.toks) (fun _ _ q => Heap.get?_push_of_some _ q) (Nat.le_refl _) ⟨Heap.get?_push_size _ rfl, dk_empty s.heap I.big⟩, rfl, h _ _ (I.hok.fresh (Nat.le_refl _))⟩⟩
theorem d_dic : PE X (.Dict [] [] pos) (up X.K C W dEmp) := pe_imp pe_dnewF fun σ H Q ⟨env, g, Xd, Qd, re, rg, q, cl, cx⟩ p o hp => cl _ _ _ _ q (TK.new hp) (rg.tup hp) ⟨p, o, [], rfl, upd_same⟩
def dDnew : DTE := fun _ _ g Q => ∀ c, g c = none → Q (.dct c) (g.up c [])
theorem d_dnew : PE X (.Dict [] [] pos) (up X.K C W dDnew) := pe_imp pe_dict0 fun σ H Q ⟨env, g, Xd, Qd, re, rg, q, cl, cx⟩ p hp => cl _ _ _ _ (q _ (rg.noneD hp)) (TK.new hp) (rg.newD hp) rep_dct
theorem pe_vfz {x : Str} {i : Nat} (hN : X.N[i]? = some x) (hv : Vis X.env.scope x) (hd : (x == ("__debug__" : Str)) = false) (hcd : (x == ("__classdict__" : Str)) = false) :
    PE X (.Name x pos) (fun σ H Q => ∃ a xs, σ[i]? = some (some (.ref a)) ∧ H a = some (dictO a xs) ∧ ((∃ h, DictRaw a xs h) → ∀ o, Q (.ref a) (upd H a (.frz o (dictO a xs))))) := by
  refine ⟨fun pins s σ H Q I h => ?_⟩
  obtain ⟨a, xs, e, hh, q⟩ := h
  refine thn ((pe_var (pos := pos) hN hv hd hcd).run pins s σ H (fun v H1 => v = .ref a ∧ H1 = H) I ⟨_, e, rfl, rfl⟩) fun u s1 ⟨x, H1, I1, r1, ex, eH⟩ => ?_
  subst ex eH
  obtain ⟨od, I2⟩ := I1.lock (d := a) hh trivial
  exact ⟨.ref a, _, I2, r1, q ⟨s1.heap, (show ObjOk X.prog X.w _ s1.heap a (dictO a xs) from I1.hok a _ hh).1⟩ od⟩
def dVfz (i : Nat) : DTE := fun _ env g Q => match env[i]? with
  | some (some (.dct c)) => (match g c with | some ks => Q (.dfz ks) (g.del c) | none => False)
  | _ => False
theorem d_vfz {x : Str} {i : Nat} (hN : X.N[i]? = some x) (hv : Vis X.env.scope x) (hd : (x == ("__debug__" : Str)) = false) (hcd : (x == ("__classdict__" : Str)) = false) : PE X (.Name x pos) (up X.K C W (dVfz i)) :=
  pe_imp (pe_vfz hN hv hd hcd) fun σ H Q ⟨env, g, Xd, Qd, re, rg, q, cl, cx⟩ => by
    unfold dVfz at q
    split at q
    · rename_i c e
      split at q
      · rename_i ks e2
        obtain ⟨v, a, hc, rfl⟩ := re.2.1 i _ e
        obtain ⟨xs, h1, h2, rfl⟩ := rg.dct hc e2
        refine ⟨_, xs, a, h1, fun hx o => ?_⟩
        have k := TK.setX (o := .frz o (dictO (c / 4) xs)) hx h1
        exact cl _ _ _ _ q k (rg.frzD hc hx h1) ⟨_, o, xs, rfl, upd_same, h2.keep k, rfl⟩
      · exact q.elim
    · exact q.elim
theorem pe_dic1 {x : Str} {i j : Nat} {k : Int} {p1 p2 : Pos} (hN : X.N[i]? = some x) (hv : Vis X.env.scope x) (hd : (x == ("__debug__" : Str)) = false) (hcd : (x == ("__classdict__" : Str)) = false) :
    PE X (.Dict [some (.Constant (.int k) j p1)] [.Name x p2] pos) (fun σ H Q => (∃ v, σ[i]? = some (some v)) ∧ ∀ p o kvs, H p = none → Q (.ref p) (upd H p (.frz o (.dK kvs)))) := by
  refine ⟨fun pins s σ H Q I h => ?_⟩
  obtain ⟨⟨v, hv2⟩, h⟩ := h
  refine thn ((pe_disp (pps_cons (pe_int (i := k) (j := j) (pos := p1)) (pe_var (pos := p2) hN hv hd hcd) pps_nil) rfl rfl (by simp) (by simp)).run pins s σ H (fun v H1 => ∃ p H2 kvs, v = .ref p ∧ H1 = upd H2 p (.dK kvs) ∧ ∀ o kvs, Q (.ref p) (upd H2 p (.frz o (.dK kvs)))) I fun p hp => ?_) fun u s1 ⟨x, H1, I1, r1, p, H2, kvs, ex, eH, q⟩ => ?_
  · exact ⟨v, hv2, upd_same, [(.inl k, v)], rfl, by simp, p, upd H p (.dK []), _, rfl, rfl, fun o kvs => by rw [upd_upd]; exact h p o kvs hp⟩
  · subst ex eH
    obtain ⟨od, I2⟩ := I1.lock (d := p) upd_same trivial
    rw [upd_upd] at I2
    exact ⟨.ref p, _, I2, r1, q od kvs⟩
def dDic1 (i : Nat) : DTE := fun _ env g Q => match env[i]? with
  | some (some _) => Q .emp g
  | _ => False
theorem d_dic1 {x : Str} {i j : Nat} {k : Int} {p1 p2 : Pos} (hN : X.N[i]? = some x) (hv : Vis X.env.scope x) (hd : (x == ("__debug__" : Str)) = false) (hcd : (x == ("__classdict__" : Str)) = false) :
    PE X (.Dict [some (.Constant (.int k) j p1)] [.Name x p2] pos) (up X.K C W (dDic1 i)) := pe_imp (pe_dic1 hN hv hd hcd) fun σ H Q ⟨env, g, Xd, Qd, re, rg, q, cl, cx⟩ => by
  unfold dDic1 at q
  split at q
  · rename_i d e
    obtain ⟨v, a, _⟩ := re.2.1 i d e
    exact ⟨⟨v, a⟩, fun p o kvs hp => cl _ _ _ _ q (TK.new hp) (rg.tup hp) ⟨p, o, kvs, rfl, upd_same⟩⟩
  · exact q.elim
end
end PP
set_option maxHeartbeats 2000000
namespace PP
open PySem PySem.Spec PyProof.Rows L2
theorem pick_one (items : Array Value) : slicePick items none none (some 1) = items := by
  exact (show slicePick items none none (some 1) = slicePick items none none none from rfl).trans (slicePick_all items)
section
variable {X : Cx} {C : Ex → Addr} {W : WX}
def tStep (K : PySem.W.Frag) (te ts : TE) : TE := fun σ H Q => te σ H fun x H1 => ts σ H1 fun z H2 => ∃ i, z = .int i ∧ ∃ a xs, x = .ref a ∧ SqL K H2 a xs ∧ ((i = 1 ∧ ∀ p, H2 p = none → Q (.ref p) (upd H2 p (.lst xs))) ∨ (i = -1 ∧ ∀ p, H2 p = none → Q (.ref p) (upd H2 p (.lst xs.reverse))))
theorem pe_step {e es : Expr} {te ts : TE} {p3 pos : Pos} (he : PE X e te) (hs : PE X es ts) : PE X (.Subscript e (.Slice none none (some es) p3) pos) (tStep X.K te ts) := by
  refine ⟨fun pins s σ H Q I h => ?_⟩
  refine Subscript_ (thn (he.run pins s σ H _ I h) fun v s1 ⟨x, H1, I1, r1, q1⟩ => ?_)
  refine wpAny_Slice (thn (po_none.run pins s1 σ H1 (fun o H2 => o = none ∧ H2 = H1) I1 ⟨rfl, rfl⟩) fun vl s2 ⟨l, H2, I2, pl, el, e2⟩ => ?_)
  subst el e2
  refine thn (po_none.run pins s2 σ H2 (fun o H3 => o = none ∧ H3 = H2) I2 ⟨rfl, rfl⟩) fun vu s3 ⟨u, H3, I3, pu, eu, e3⟩ => ?_
  subst eu e3
  have hst : PO X (some es) (tPart ts) := po_some hs
  refine thn (hst.run pins s3 σ H3 (fun o H2 => ∃ i, o = some i ∧ ∃ a xs, x = .ref a ∧ SqL X.K H2 a xs ∧ ((i = 1 ∧ ∀ p, H2 p = none → Q (.ref p) (upd H2 p (.lst xs))) ∨ (i = -1 ∧ ∀ p, H2 p = none → Q (.ref p) (upd H2 p (.lst xs.reverse))))) I3 ?_) fun vs s4 ⟨o, H4, I4, ps, i, eo, a, xs, ex, hx, q⟩ => ?_
  · exact (show ts σ H3 _ from by simpa only [Option.some.injEq, exists_eq_left'] using q1)
  subst eo ex
  cases r1
  have I5 : Inv X pins σ H4 { s4 with heap := s4.heap.push { cls := .type "slice", data := .fields #[vl, vu, vs] } } := I4.kept (t' := s4.toks) fun b ob q => Heap.get?_push_of_some _ q
  obtain ⟨its, r, ht, hz⟩ := I5.list hx
  have hlen := r.length
  have hi0 : some i ≠ some (0 : Int) := by
    rcases q with ⟨rfl, _⟩ | ⟨rfl, _⟩ <;> decide
  show wpAny (model X.prog X.w) X.A (subscriptTail e (.Slice none none (some es) p3) (.ref a) (.ref s4.heap.objs.size)) (EP X pins σ Q) X.xe { s4 with heap := s4.heap.push { cls := .type "slice", data := .fields #[vl, vu, vs] } }
  refine tail_any (ops := [.ref a, .ref s4.heap.objs.size]) ht.isList.typeIs (PySem.slot_list_getitem.lookup) ?_ (by with_unfolding_all rfl)
  refine wpAny_getItem_list_slice ht.isList (Heap.IsSliceOf.new _ vl vu vs) pl pu ps hi0 ?_ (by rw [List.size_toArray]; omega)
  rcases q with ⟨rfl, q⟩ | ⟨rfl, q⟩
  · rw [pick_one]
    refine ⟨.ref _, _, I5.laid (t' := s4.toks) (o := .lst xs) (fun b ob q => Heap.get?_push_of_some _ q) (Nat.le_refl _) ?_, rfl, q _ (I5.hok.fresh (Nat.le_refl _))⟩
    exact ⟨hz, _, 0, r, Heap.get?_push_size _ rfl⟩
  · rw [PySem.W.krv_pick]
    refine ⟨.ref _, _, I5.laid (t' := s4.toks) (o := .lst xs.reverse) (fun b ob q => Heap.get?_push_of_some _ q) (Nat.le_refl _) ?_, rfl, q _ (I5.hok.fresh (Nat.le_refl _))⟩
    exact ⟨by rw [List.length_reverse]; exact hz, _, 0, r.reverse, Heap.get?_push_size _ rfl⟩
def dStp (te ts : DTE) : DTE := fun X env g Q => te X env g fun d g1 => ts X env g1 fun z g2 => match d, z with
  | .ref a, .int i => (match g2 a with | some xs => (i = 1 ∨ i = -1) ∧ ∀ p, g2 p = none → Q (.ref p) (g2.up p (if i = 1 then xs else xs.reverse)) | none => False)
  | _, _ => False
theorem d_stp {e es : Expr} {ta tb : DTE} {p3 pos : Pos} (ha : PE X e (up X.K C W ta)) (hb : PE X es (up X.K C W tb)) : PE X (.Subscript e (.Slice none none (some es) p3) pos) (up X.K C W (dStp ta tb)) := by
  refine pe_imp (pe_step ha hb) fun σ H Q ⟨env, g, Xd, Qd, re, rg, t, cl, cx⟩ => ?_
  refine ⟨env, g, Xd, _, re, rg, t, fun d g1 v H1 q k r rv => ?_, cx⟩
  refine ⟨env, g1, Xd, _, re.keep k, r, q, fun z g2 u H2 q2 k2 r2 ru => ?_, cx.at k⟩
  dsimp only at q2
  split at q2
  · rename_i a i
    obtain ⟨hc, hv⟩ := rv
    have hu : u = .int i := ru
    split at q2
    · rename_i xs e
      obtain ⟨vs, hvs, rl⟩ := r2.lst hc e
      obtain ⟨hi, q2⟩ := q2
      refine ⟨i, hu, _, vs, hv, .inl (.inl hvs), ?_⟩
      rcases hi with rfl | rfl
      · refine .inl ⟨rfl, fun p hp => ?_⟩
        have q3 := q2 _ (r2.none hp)
        rw [if_pos rfl] at q3
        exact cl _ _ _ _ q3 ((k.trans k2).trans (.new hp)) (r2.new hp rl) rep_ref
      · refine .inr ⟨rfl, fun p hp => ?_⟩
        have q3 := q2 _ (r2.none hp)
        rw [if_neg (by decide)] at q3
        exact cl _ _ _ _ q3 ((k.trans k2).trans (.new hp)) (r2.new hp rl.rev) rep_ref
    · exact q2.elim
  · exact q2.elim
end
end PP
set_option maxHeartbeats 2000000
namespace PP
open PySem PySem.Spec PyProof.Rows L2
section
variable {prog : Program} {w : World} {A : Around} {E : Value → Shared → Prop} {s : Shared} {x1 it l t : Addr} {i : Nat} {items : Array Value}
theorem next_listH {Q : Option Value → Shared → Prop} (hot : HotX.HotAt A x1 s.heap) (nx : x1 ≠ it) (hit : s.heap.IsListIter it l i) (hl : s.heap.IsList l items) (hx : items[i]? = none)
    (hQ : ∀ h', Heap.ExtBut it s.heap h' → Q none { s with heap := h' }) : wpAny (model prog w) A (pyNext (.ref it)) Q E s := by
  obtain ⟨o, ho, hc, hd⟩ := id hit
  obtain ⟨ol, hol, _, nl, hdl⟩ := hl
  obtain ⟨hh, o1, vs1, g1, d1, c1⟩ := hot
  unfold pyNext
  refine wpAny_bind (wpAny_attempt (wpAny_callSpecial?_slot (name := Str.ofString "__next__") hit.typeIs slot_listiter_next (wpAny_call_entry slot_listiter_next hit.typeIs entry_listiter_next ?_ (args_listiter_next _))))
  show wpAny _ _ (field (.ref it) 0 >>= _) _ _ s
  refine wpAny_bind (wpAny_field ho hd (x := .ref l) rfl ?_)
  show wpAny _ _ (if (Value.ref l == Value.none) = true then _ else _) _ _ s
  rw [if_neg (show ¬ ((Value.ref l == Value.none) = true) from Bool.false_ne_true)]
  show wpAny _ _ (field (.ref it) 1 >>= _) _ _ s
  refine wpAny_bind (wpAny_field ho hd (x := .int i 0) rfl ?_)
  show wpAny _ _ (seqItems? (.ref l) >>= _) _ _ s
  refine wpAny_bind (wpAny_seqItems hol hdl ?_)
  simp only [Int.toNat_natCast, hx]
  refine wpAny_bind (wpAny_rule (wpAny_bind (wpAny_setField ho hd (by simp) ?_)))
  show wpAny _ _ (newExc (.type "StopIteration") [] >>= _) _ _ _
  refine wpAny_bind ?_
  simp only [newExc, newTuple]
  refine wpAny_bind (wpAny_newObj_type ?_ (by size_fits))
  refine wpAny_bind (m := firstArgMember _ _) (wpAny_of_eq (a := Value.none) (by first | rfl | (simp only [firstArgMember]; rfl)) (wpAny_newObj_type ?_ (by size_fits)))
  have g2 : (s.heap.update it (Obj.mapFields fun x => x.setIfInBounds 0 Value.none)).get? x1 = some o1 := (Heap.get?_update_other _ _ (Ne.symm nx)).trans g1
  refine HotX.raiseNew_hot ⟨hh, o1, vs1, Heap.get?_push_of_some _ (Heap.get?_push_of_some _ g2), d1, c1⟩ (Nat.ne_of_lt (Heap.lt_size (Heap.get?_push_of_some _ g2))) (Heap.get?_push_size _ rfl) rfl (by first | (simp; done) | (simp; omega)) ?_
  refine wpAny_bind (wpAny_isInstance (T := "StopIteration") (b := true) ⟨_, Heap.get?_update_self _ (Heap.get?_push_size _ rfl) rfl, rfl⟩ isSubtype_stop (wpAny_pure (hQ _ fun b ob hb e => ?_)))
  have e2 : (s.heap.update it (Obj.mapFields fun x => x.setIfInBounds 0 Value.none)).get? b = some ob := (Heap.get?_update_other _ _ (Ne.symm hb)).trans e
  rw [Heap.get?_update_other _ _ (Nat.ne_of_gt (Heap.lt_size (Heap.get?_push_of_some _ e2)))]
  exact Heap.get?_push_of_some _ (Heap.get?_push_of_some _ e2)
theorem next_tupleH {Q : Option Value → Shared → Prop} (hot : HotX.HotAt A x1 s.heap) (nx : x1 ≠ it) (hit : IsTupIter s.heap it t i) (hl : IsTup s.heap t items) (hx : items[i]? = none)
    (hQ : ∀ h', Heap.ExtBut it s.heap h' → Q none { s with heap := h' }) : wpAny (model prog w) A (pyNext (.ref it)) Q E s := by
  obtain ⟨o, ho, hc, hd⟩ := id hit
  obtain ⟨ol, hol, _, nl, hdl⟩ := hl
  obtain ⟨hh, o1, vs1, g1, d1, c1⟩ := hot
  unfold pyNext
  refine wpAny_bind (wpAny_attempt (wpAny_callSpecial?_slot (name := Str.ofString "__next__") hit.typeIs slot_tupleiter_next (wpAny_call_entry slot_tupleiter_next hit.typeIs entry_tupleiter_next ?_ (args_tupleiter_next _))))
  show wpAny _ _ (field (.ref it) 0 >>= _) _ _ s
  refine wpAny_bind (wpAny_field ho hd (x := .ref t) rfl ?_)
  show wpAny _ _ (if (Value.ref t == Value.none) = true then _ else _) _ _ s
  rw [if_neg (show ¬ ((Value.ref t == Value.none) = true) from Bool.false_ne_true)]
  show wpAny _ _ (field (.ref it) 1 >>= _) _ _ s
  refine wpAny_bind (wpAny_field ho hd (x := .int i 0) rfl ?_)
  show wpAny _ _ (seqItems? (.ref t) >>= _) _ _ s
  refine wpAny_bind (wpAny_seqItems hol hdl ?_)
  simp only [Int.toNat_natCast, hx]
  refine wpAny_bind (wpAny_rule (wpAny_bind (wpAny_setField ho hd (by simp) ?_)))
  show wpAny _ _ (newExc (.type "StopIteration") [] >>= _) _ _ _
  refine wpAny_bind ?_
  simp only [newExc, newTuple]
  refine wpAny_bind (wpAny_newObj_type ?_ (by size_fits))
  refine wpAny_bind (m := firstArgMember _ _) (wpAny_of_eq (a := Value.none) (by first | rfl | (simp only [firstArgMember]; rfl)) (wpAny_newObj_type ?_ (by size_fits)))
  have g2 : (s.heap.update it (Obj.mapFields fun x => x.setIfInBounds 0 Value.none)).get? x1 = some o1 := (Heap.get?_update_other _ _ (Ne.symm nx)).trans g1
  refine HotX.raiseNew_hot ⟨hh, o1, vs1, Heap.get?_push_of_some _ (Heap.get?_push_of_some _ g2), d1, c1⟩ (Nat.ne_of_lt (Heap.lt_size (Heap.get?_push_of_some _ g2))) (Heap.get?_push_size _ rfl) rfl (by first | (simp; done) | (simp; omega)) ?_
  refine wpAny_bind (wpAny_isInstance (T := "StopIteration") (b := true) ⟨_, Heap.get?_update_self _ (Heap.get?_push_size _ rfl) rfl, rfl⟩ isSubtype_stop (wpAny_pure (hQ _ fun b ob hb e => ?_)))
  have e2 : (s.heap.update it (Obj.mapFields fun x => x.setIfInBounds 0 Value.none)).get? b = some ob := (Heap.get?_update_other _ _ (Ne.symm hb)).trans e
  rw [Heap.get?_update_other _ _ (Nat.ne_of_gt (Heap.lt_size (Heap.get?_push_of_some _ e2)))]
  exact Heap.get?_push_of_some _ (Heap.get?_push_of_some _ e2)
theorem unpackH {Q : List Value → Shared → Prop} (hot : HotX.HotAt A x1 s.heap) (ht : IsTup s.heap t items)
    (hQ : ∀ h', Heap.ExtBut s.heap.objs.size s.heap h' → Q items.toList { s with heap := h' }) : wpAny (model prog w) A (unpackItems (.ref t) items.size none) Q E s := by
  have hlt : t ≠ s.heap.objs.size := by obtain ⟨o, ho, _⟩ := ht; exact Nat.ne_of_lt (Heap.lt_size ho)
  obtain ⟨hh, o1, vs1, g1, d1, c1⟩ := hot
  have nx : x1 ≠ s.heap.objs.size := Nat.ne_of_lt (Heap.lt_size g1)
  unfold unpackItems
  refine wpAny_bind ?_
  · unfold notIterableAtAll
    refine wpAny_bind (wpAny_specialOf ht.typeIs slot_tuple_iter.lookup (wpAny_pure ?_))
    simp only [Bool.false_eq_true, if_false]
    refine wpAny_bind (wpAny_holding (iter_tuple ht ?_))
    refine wpAny_bind (wpAny_holding (draw_tuple hlt items.size 0 _ _ ⟨_, Heap.get?_push_size _ rfl, rfl, rfl⟩ (ht.push _) (by omega) fun h₁ hit₁ hs₁ => ?_))
    rw [show List.take items.size (List.drop 0 items.toList) = items.toList by rw [List.drop_zero]; exact List.take_of_length_le (by simp), if_neg (by simp)]
    have g2 : h₁.get? x1 = some o1 := hs₁.extBut _ _ nx (Heap.get?_push_of_some _ g1)
    refine wpAny_bind (wpAny_holding (next_tupleH (s := { s with heap := h₁ }) ⟨hh, o1, vs1, g2, d1, c1⟩ nx hit₁ ((ht.push _).extBut hs₁.extBut hlt) (by simp) fun h₂ he₂ => ?_))
    simp only [Option.isSome_none, Bool.false_eq_true, if_false]
    exact wpAny_pure (hQ h₂ fun b o hb e => he₂ b o hb (hs₁.extBut b o hb (Heap.get?_push_of_some _ e)))
theorem assign_tupH {env : PySem.Env} {elts : List Expr} {k : Nat} {pos : Pos} {Q : Unit → Shared → Prop} (hot : HotX.HotAt A x1 s.heap) (ht : IsTup s.heap t items)
    (hn : (assignEach elts env).length = items.size) (hstar : (assignEach elts env).findIdx? (·.1) = none)
    (h : ∀ h', Heap.ExtBut s.heap.objs.size s.heap h' → wpAny (model prog w) A (assignInOrder ((assignEach elts env).map (·.2)) items.toList) Q E { s with heap := h' }) :
    wpAny (model prog w) A (assign (.Tuple elts k pos) env (.ref t)) Q E s := by
  rw [assign_Tuple]
  refine wpAny_bind (wpAny_standAt ?_)
  unfold unpack
  rw [hn, hstar]
  exact wpAny_bind (wpAny_holding (unpackH hot ht h))
theorem unpackLH {Q : List Value → Shared → Prop} (hot : HotX.HotAt A x1 s.heap) (hl : s.heap.IsList l items)
    (hQ : ∀ h', Heap.ExtBut s.heap.objs.size s.heap h' → Q items.toList { s with heap := h' }) : wpAny (model prog w) A (unpackItems (.ref l) items.size none) Q E s := by
  have hlt : l ≠ s.heap.objs.size := by obtain ⟨o, ho, _⟩ := hl; exact Nat.ne_of_lt (Heap.lt_size ho)
  obtain ⟨hh, o1, vs1, g1, d1, c1⟩ := hot
  have nx : x1 ≠ s.heap.objs.size := Nat.ne_of_lt (Heap.lt_size g1)
  unfold unpackItems
  refine wpAny_bind ?_
  · unfold notIterableAtAll
    refine wpAny_bind (wpAny_specialOf hl.typeIs slot_list_iter.lookup (wpAny_pure ?_))
    simp only [Bool.false_eq_true, if_false]
    refine wpAny_bind (wpAny_holding (wpAny_pyIter_list hl ?_))
    refine wpAny_bind (wpAny_holding (PySem.W.kun_draw hlt items.size 0 _ _ ⟨_, Heap.get?_push_size _ rfl, rfl, rfl⟩ (hl.push _) (by omega) fun h₁ hit₁ hs₁ => ?_))
    rw [show List.take items.size (List.drop 0 items.toList) = items.toList by rw [List.drop_zero]; exact List.take_of_length_le (by simp), if_neg (by simp)]
    have g2 : h₁.get? x1 = some o1 := hs₁.extBut _ _ nx (Heap.get?_push_of_some _ g1)
    refine wpAny_bind (wpAny_holding (next_listH (s := { s with heap := h₁ }) ⟨hh, o1, vs1, g2, d1, c1⟩ nx hit₁ ((hl.push _).extBut hs₁.extBut hlt) (by simp) fun h₂ he₂ => ?_))
    simp only [Option.isSome_none, Bool.false_eq_true, if_false]
    exact wpAny_pure (hQ h₂ fun b o hb e => he₂ b o hb (hs₁.extBut b o hb (Heap.get?_push_of_some _ e)))
end
structure Fro (A : Around) (H : Hp) (a : Addr) : Prop where
  hd : A.handled = some (.ref a)
  ex : ∃ (oe : Obj) (vs : Array Value), H a = some (.frz oe excU) ∧ oe.data = .fields vs ∧ vs[2]? = some .none
def HotF (X : Cx) : Prop := ∃ a, Fro X.A X.H_0 a
section
variable {X : Cx} {pins : List (Addr × Obj)} {σ : L2.St} {H : Hp} {s : Shared}
theorem Fro.at {a : Addr} (f : Fro X.A H a) (I : Inv X pins σ H s) : HotX.HotAt X.A a s.heap := by
  obtain ⟨oe, vs, e, d, c⟩ := f.ex
  exact ⟨f.hd, oe, vs, (I.hok a _ e).1, d, c⟩
theorem HotF.fro (h : HotF X) (I : Inv X pins σ H s) : ∃ a, Fro X.A H a := by
  obtain ⟨a, f, oe, vs, e, d, c⟩ := h
  exact ⟨a, f, oe, vs, I.base.frzs a oe excU e, d, c⟩
theorem Fro.ne {a b : Addr} {A : Around} (f : Fro A H a) (h : H b = none) : a ≠ b := fun z => by
  obtain ⟨oe, vs, e, _⟩ := f.ex
  rw [z, h] at e
  cases e
end
structure TurnF (P : Program) (w : World) (K : PySem.W.Frag) (tg : Expr) (J : It) (fp : List Addr) (it : Addr) (tn : Nat → Heap → Prop) : Prop where
  obj : ∀ n h, tn n h → ∀ b ∈ fp, ∃ o, h.get? b = some o ∧ ∀ v, o.data ≠ .cell v
  keep : ∀ n h h', tn n h → (∀ b ∈ fp, ∀ o, h.get? b = some o → h'.get? b = some o) → tn n h'
  item : ∀ (X : Cx), X.prog = P → X.w = w → X.K = K → HotF X → ∀ (n : Nat) (pins : List (Addr × Obj)) (s : Shared) (σ : L2.St) (H : Hp) (E : Value → Shared → Prop), Inv X pins σ H s → (∀ b ∈ fp, FpOk X pins H b) → tn n s.heap → J.go n H →
    wpAny (model P w) X.A (pyNext (.ref it)) (fun r s1 => ∃ u, r = some u ∧ wpAny (model P w) X.A (letOwnedTupleGo tg (.ref it) u) (fun _ s2 => ∃ x H', Inv X pins σ H' s2 ∧ RelV x u ∧ J.yld n H x H' ∧ tn (n + 1) s2.heap ∧ ∀ b ∈ fp, H' b = none) E s1) E s
  done : ∀ (X : Cx), X.prog = P → X.w = w → X.K = K → HotF X → ∀ (n : Nat) (pins : List (Addr × Obj)) (s : Shared) (σ : L2.St) (H : Hp) (E : Value → Shared → Prop), Inv X pins σ H s → (∀ b ∈ fp, FpOk X pins H b) → tn n s.heap → J.stop n H → wpAny (model P w) X.A (pyNext (.ref it)) (fun r s1 => r = none ∧ Inv X pins σ H s1) E s
  self : ∀ (A : Around) (n : Nat) (s : Shared) (Q E : Value → Shared → Prop), tn n s.heap → Q (.ref it) s → wpAny (model P w) A (pyIter (.ref it)) Q E s
theorem turnF_list {P : Program} {w : World} {K : PySem.W.Frag} {tg : Expr} (a it : Addr) : TurnF P w K tg (Itl K a) [it] it (fun n h => h.IsListIter it a n) where
  obj := fun n h st b hb => by
    obtain ⟨o, e, c, d⟩ := st
    rw [List.mem_singleton.mp hb]
    exact ⟨o, e, fun v z => by rw [d] at z; cases z⟩
  keep := fun n h h' st k => st.at fun o e => k it (by simp) o e
  item := fun X hP hw hK hc n pins s σ H E I hf st hg => by
    subst hP hw hK
    obtain ⟨xs, x, hq, hx⟩ := hg
    obtain ⟨its, rv, pl, hz⟩ := I.list hq
    obtain ⟨u, hu, ru⟩ := rv.get hx
    obtain ⟨f0, f1, f2, f3, f4, f5⟩ := hf it (by simp)
    refine wpAny_pyNext_list_item st pl.isList (x := u) (by simpa using hu) fun h' st' sb => ?_
    obtain ⟨o, e, c, d⟩ := id st'
    exact ⟨u, rfl, go_of (s := { s with heap := h' }) e c d (by decide) ⟨x, H, I.turned (t' := s.toks) (fun b o hb e => (sb.2 b hb).trans e) f0 f1 f3 f4 f5, ru, ⟨rfl, fun ys hy => by rw [I.list_inj hy hq]; exact hx⟩, st', fun b hb => (hf b hb).1⟩⟩
  done := fun X hP hw hK hc n pins s σ H E I hf st hg => by
    subst hP hw hK
    obtain ⟨xs, hq, hx⟩ := hg
    obtain ⟨its, rv, pl, hz⟩ := I.list hq
    obtain ⟨f0, f1, f2, f3, f4, f5⟩ := hf it (by simp)
    have hl := rv.length
    obtain ⟨x1, fr⟩ := hc.fro I
    exact next_listH (fr.at I) (fr.ne f0) st pl.isList (by simp; omega) fun h' eb => ⟨rfl, I.turned (t' := s.toks) (fun b o hb e => eb b o hb e) f0 f1 f3 f4 f5⟩
  self := fun _ _ _ _ _ st h => wpAny_pyIter_listiter st h
def PIEF (X : Cx) (pins : List (Addr × Obj)) (σ : L2.St) (tg : Expr) (R : It → Hp → Prop) (v : Value) (s2 : Shared) : Prop :=
  ∃ (it : Addr) (fp : List Addr) (tn : Nat → Heap → Prop) (J : It) (H' : Hp), v = .ref it ∧ Inv X pins σ H' s2 ∧ TurnF X.prog X.w X.K tg J fp it tn ∧ tn 0 s2.heap ∧ (∀ b ∈ fp, FpOk X pins H' b) ∧ R J H'
def PIF (X : Cx) (tg iter : Expr) (wi : TI) : Prop :=
  ∀ (pins : List (Addr × Obj)) (s : Shared) (σ : L2.St) (H : Hp) (R : It → Hp → Prop), Inv X pins σ H s → wi σ H R → wpAny (model X.prog X.w) X.A (eval iter X.env) (fun v s1 => wpAny (model X.prog X.w) X.A (pyIter v) (PIEF X pins σ tg R) X.xe s1) X.xe s
section
variable {X : Cx} {C : Ex → Addr} {W : WX} {tg e : Expr}
def iLstF (K : PySem.W.Frag) (tl : TE) : TI := fun σ H R => tl σ H fun x H1 => ∃ a xs, x = .ref a ∧ SqL K H1 a xs ∧ R (Itl K a) H1
theorem pif_lst {tl : TE} (hl : PE X e tl) : PIF X tg e (iLstF X.K tl) := fun pins s σ H R I h =>
  thn (hl.run pins s σ H _ I h) fun v s1 ⟨x, H1, I1, r1, a, xs, ex, hq, q⟩ => by
    subst ex
    cases r1
    obtain ⟨its, _, pl, _⟩ := I1.list hq
    refine wpAny_pyIter_list pl.isList ⟨s1.heap.objs.size, [s1.heap.objs.size], _, _, H1, rfl, I1.kept (t' := s1.toks) fun b o e => Heap.get?_push_of_some _ e, turnF_list a _, ⟨_, Heap.get?_push_size _ rfl, rfl, rfl⟩, fun b hb => ?_, q⟩
    rw [List.mem_singleton.mp hb]
    exact I1.fpOk (Nat.le_refl _) (I1.hok.fresh (Nat.le_refl _))
def dOverL : D → G → (List D → (G → Prop) → G → Prop) → Prop
  | .ref a => fun g R => match g a with | some xs => R xs (fun g' => g' a = some xs) g | none => False
  | _ => fun _ _ => False
def dILst (te : DTE) : DTI := fun X env g R => te X env g fun d g1 => dOverL d g1 R
theorem d_iLst {ta : DTE} (h : PE X e (up X.K C W ta)) : PI X tg e (upI X.K C W (dILst ta)) := by
  refine pi_imp (pi_any h) fun σ H R ⟨env, g, Xd, Rd, re, rg, t, cl, cx⟩ => ?_
  refine ⟨env, g, Xd, _, re, rg, t, fun d g1 v H1 q k r rv => ?_, cx⟩
  dsimp only at q
  unfold dOverL at q
  split at q
  · split at q
    · rename_i xs e
      obtain ⟨hc0, rv⟩ := rv
      obtain ⟨vs, hh, l⟩ := r.lst hc0 e
      exact .inl ⟨_, vs, rv, .of hh, cl _ _ _ _ _ q k r (itl_ok hc0)⟩
    · exact q.elim
  · exact q.elim
theorem df_lst {ta : DTE} (h : PE X e (up X.K C W ta)) : PIF X tg e (upI X.K C W (dILst ta)) := fun pins s σ H R I ⟨env, g, Xd, Rd, re, rg, t, cl, cx⟩ => by
  refine pif_lst h pins s σ H R I ⟨env, g, Xd, _, re, rg, t, fun d g1 v H1 q k r rv => ?_, cx⟩
  dsimp only at q
  unfold dOverL at q
  split at q
  · split at q
    · rename_i xs e
      obtain ⟨hc0, rv⟩ := rv
      obtain ⟨vs, hh, l⟩ := r.lst hc0 e
      exact ⟨_, vs, rv, .of hh, cl _ _ _ _ _ q k r (itl_ok hc0)⟩
    · exact q.elim
  · exact q.elim
end
section
variable {X : Cx} {pos : Pos}
theorem pgF_tup {es : List Expr} {k : Nat} {t : TGs} {n : Nat} (hc : HotF X) (h : PGs X es t) (hn : (assignEach es X.env).length = n) (hst : (assignEach es X.env).findIdx? (·.1) = none) : PG X (.Tuple es k pos) (gTup X.K n t) := by
  refine ⟨fun pins s σ H v u Q I r ⟨a, xs, e1, hq, hl, hw⟩ => ?_⟩
  subst e1
  cases r
  obtain ⟨its, rv, ht, hz⟩ := I.tuple hq
  obtain ⟨x1, fr⟩ := hc.fro I
  exact assign_tupH (fr.at I) ht (by simp [hn, ← hl, rv.length]) hst fun h' hx => h.run pins _ σ H xs _ Q (I.kept (t' := s.toks) fun b o e => hx b o (Nat.ne_of_lt (Heap.lt_size e)) e) (by simpa using rv) hw
theorem pgF_lst {es : List Expr} {k : Nat} {t : TGs} {n : Nat} (hc : HotF X) (h : PGs X es t) (hn : (assignEach es X.env).length = n) (hst : (assignEach es X.env).findIdx? (·.1) = none) : PG X (.Tuple es k pos) (gLst X.K n t) := by
  refine ⟨fun pins s σ H v u Q I r ⟨a, xs, e1, hq, hl, hw⟩ => ?_⟩
  subst e1
  cases r
  obtain ⟨its, rv, pl, hz⟩ := I.list hq
  obtain ⟨x1, fr⟩ := hc.fro I
  have hsz : (assignEach es X.env).length = its.toArray.size := by simp [hn, ← hl, rv.length]
  rw [PyProof.Rows.assign_Tuple]
  refine wpAny_bind (wpAny_standAt ?_)
  unfold unpack
  rw [hsz, hst]
  exact wpAny_bind (wpAny_holding (unpackLH (fr.at I) pl.isList fun h' hx => h.run pins _ σ H xs _ Q (I.kept (t' := s.toks) fun b o e => hx b o (Nat.ne_of_lt (Heap.lt_size e)) e) (by simpa using rv) hw))
theorem gF_tup {es : List Expr} {k : Nat} {is : List Nat} (hc : HotF X) (h : PGs X es (gNames is)) (hn : (assignEach es X.env).length = is.length) (hst : (assignEach es X.env).findIdx? (·.1) = none) : PG X (.Tuple es k pos) (gUp X.K (.t is)) := by
  refine pg_imp (PG.or (pgF_tup hc h hn hst) (pgF_lst hc h hn hst)) fun v σ H Q ⟨d, env, g, N, rv, re, rg, q, cl⟩ => ?_
  unfold gD at q
  split at q
  · rename_i z; cases z
  · rename_i z
    cases z
    obtain ⟨a, vs, e, t, l⟩ := rv
    exact .inl ⟨a, vs, e, t.sq, by rw [l.length]; exact q.1, by rw [l.length]; exact q.1, cl _ _ _ _ q.2 (.refl _) (setAll_rep re l) rg ⟨_, rfl⟩⟩
  · rename_i z
    cases z
    split at q
    · rename_i ds e
      obtain ⟨hc0, rv⟩ := rv
      obtain ⟨vs, h, l⟩ := rg.lst hc0 e
      exact .inr ⟨_, vs, rv, .of h, by rw [l.length]; exact q.1, by rw [l.length]; exact q.1, cl _ _ _ _ q.2 (.refl _) (setAll_rep re l) rg ⟨_, rfl⟩⟩
    · exact q.elim
  · exact q.elim
end
section
variable {X : Cx}
theorem lcF_core {pins : List (Addr × Obj)} {s : Shared} {σ : L2.St} {H : Hp} {Q : VK} {elt tg iter : Expr} {ifs : List Expr} {scope : Scope} {own : List (Str × Nat)} {pos pos' : Pos} {wi : TI} {g : TG} {tt : TT} {te : TE} {use : Option (Value → Sem Unit)} {Qf : Value → Shared → Prop}
    (hc : HotF X) (hN : X.N.Nodup) (I : Inv X pins σ H s) (hi : PIF X tg iter wi) (ok : BlkOk X.N X.env.scope scope own)
    (hg : ∀ (s : Shared) (H : Hp) (C : Addr) (cl : List (Str × Addr)) (cs : List Addr), HotF (X.blk s H scope (compEnvC scope cl C X.env) cs) → PG (X.blk s H scope (compEnvC scope cl C X.env) cs) tg g) (ht : ∀ (s : Shared) (H : Hp) (C : Addr) (cl : List (Str × Addr)) (cs : List Addr), PTs (X.blk s H scope (compEnvC scope cl C X.env) cs) ifs tt)
    (he : ∀ (s : Shared) (H : Hp) (C : Addr) (cl : List (Str × Addr)) (cs : List Addr), PE (X.blk s H scope (compEnvC scope cl C X.env) cs) elt te) (hs : ∀ x, foldedSetIterable iter X.env x = pure x)
    (h : tLc wi g tt te (own.map (·.2)) σ H Q)
    (hRR : ∀ D C s' m H', Inv X pins σ H' s' → Q (.ref D) H' → s'.heap.Ns C m → FpOk X pins H' C → compPost (model X.prog X.w) X.A X.xe use Qf (.ref D) C (.ok .next) s') :
    wpAny (model X.prog X.w) X.A (comprehension (.ListComp elt [⟨tg, iter, ifs, 0⟩] scope pos) scope X.env pos' (newList []) false (eval iter X.env) use) Qf X.xe s := by
  have hfree : ∀ y ∈ scope.names, y.2 = .free → ∃ c, X.env.cells.lookup y.1 = some c := fun y hy e => by
    rcases ok.free y hy e with k | k
    · exact I.ok.has _ (.inl k)
    · exact I.ok.has _ (.inr k)
  refine wpAny_comprehension_free (use := use) rfl hs (closure_ok hfree) ok.kind (fun y hy e => by rw [ok.uniq y hy, e])
    (thn (hi pins s σ H _ I h) fun xv r1s hx => thn hx fun itv r2s h2 => ?_)
  obtain ⟨it, cs, tn, J, G2, e, J2, TT, st2, f2, q⟩ := h2
  subst e
  refine wpAny_newObj_type (newEnv_comp ?_) (by show 0 ≤ sizeLine; decide)
  generalize hD : r2s.heap.objs.size = D
  have hfr : G2 D = none := J2.hok.fresh (Nat.le_of_eq hD)
  obtain ⟨W, ⟨k0, v0⟩, turn⟩ := q D hfr
  generalize hs3 : ({ r2s with heap := r2s.heap.push { cls := .type "list", data := .seq ([] : List Value).toArray } } : Shared) = rs
  have J3 : Inv X pins σ (upd G2 D (.lst [])) rs := by
    rw [← hs3]
    refine J2.laid (t' := r2s.toks) (fun b o e => Heap.get?_push_of_some _ e) (Nat.le_of_eq hD) ⟨Nat.zero_le _, [], 0, .nil, ?_⟩
    rw [← hD]
    exact Heap.get?_push_size _ rfl
  have h3 : rs.heap = r2s.heap.push { cls := .type "list", data := .seq ([] : List Value).toArray } := by rw [← hs3]
  have sz : ∀ b ∈ cs, b < r2s.heap.objs.size := fun b hb => by
    obtain ⟨o, e, _⟩ := TT.obj _ _ st2 b hb
    exact Heap.lt_size e
  have f3 : ∀ b ∈ cs, FpOk X pins (upd G2 D (.lst [])) b ∧ b < rs.heap.objs.size := fun b hb => by
    have hlt := sz b hb
    refine ⟨⟨?_, (f2 b hb).2⟩, by rw [h3, Heap.size_push]; exact Nat.lt_succ_of_lt hlt⟩
    rw [upd_ne (by rw [← hD]; exact Nat.ne_of_lt hlt)]
    exact (f2 b hb).1
  have st3 : tn 0 rs.heap := TT.keep _ _ _ st2 fun b _ o e => by rw [h3]; exact Heap.get?_push_of_some _ e
  have J4 := block_start J3 ok hN f3
  obtain ⟨xa, fr⟩ := hc.fro J3
  have pg := fun z => hg rs (upd G2 D (.lst [])) rs.heap.objs.size (cellsFrom (rs.heap.objs.size + 1) scope.names (cloFrom X.env.cells scope.names [])) cs z
  replace pg := pg ⟨xa, fr⟩
  have pt := ht rs (upd G2 D (.lst [])) rs.heap.objs.size (cellsFrom (rs.heap.objs.size + 1) scope.names (cloFrom X.env.cells scope.names [])) cs
  have pe := he rs (upd G2 D (.lst [])) rs.heap.objs.size (cellsFrom (rs.heap.objs.size + 1) scope.names (cloFrom X.env.cells scope.names [])) cs
  show codeAny _ _ (.compStart (.ListComp elt [⟨tg, iter, ifs, 0⟩] scope pos) 0 (.ref it) (.ref D) (compEnvC scope (cellsFrom (rs.heap.objs.size + 1) scope.names (cloFrom X.env.cells scope.names [])) rs.heap.objs.size X.env)) (compPost (model X.prog X.w) X.A X.xe use Qf (.ref D) rs.heap.objs.size) { rs with heap := pushCells (rs.heap.push { cls := .type "dict", data := .dict #[] }) scope.names }
  have ncs : ∀ b ∈ cs, (upd G2 D (.lst [])) b = none := fun b hb => (f3 b hb).1.1
  generalize hcE : compEnvC scope (cellsFrom (rs.heap.objs.size + 1) scope.names (cloFrom X.env.cells scope.names [])) rs.heap.objs.size X.env = bE at J4 pg pt pe ⊢
  have cL : bE.locals = rs.heap.objs.size := by subst hcE; rfl
  generalize hH3 : upd G2 D (.lst []) = G3 at J3 J4 fr pg pt pe v0 ncs f3
  generalize hs4 : ({ rs with heap := pushCells (rs.heap.push { cls := .type "dict", data := .dict #[] }) scope.names } : Shared) = ms at J4 ⊢
  have st4 : tn 0 ms.heap := TT.keep _ _ _ st3 fun b _ o e => by rw [← hs4]; exact pushCells_keeps _ _ _ _ (Heap.get?_push_of_some _ e)
  have stand : ∀ {σ' : L2.St} {H' : Hp} {s' : Shared}, Inv (X.blk rs G3 scope bE cs) [] σ' H' s' → (∀ b ∈ cs, H' b = none) → ∀ b ∈ cs, FpOk (X.blk rs G3 scope bE cs) [] H' b := fun {σ' H' s'} I' hn b hb =>
    ⟨hn b hb, (I'.ok.exf b hb).1, I'.ok.exfs b hb, .inl hb, fun x c e => (I'.ok.exf b hb).2 x c e, fun p hp => absurd (show p ∈ ([] : List (Addr × Obj)) ++ [] from hp) (by simp)⟩
  have hotB : HotF (X.blk rs G3 scope bE cs) := ⟨xa, fr⟩
  have lp : codeAny (model X.prog X.w) X.A (.compLoop (.ListComp elt [⟨tg, iter, ifs, 0⟩] scope pos) 0 (.ref it) (.ref D) bE) (compPost (model X.prog X.w) X.A X.xe use Qf (.ref D) rs.heap.objs.size) ms := by
    refine compLoop_any (fun n s' => ∃ i H', Inv (X.blk rs G3 scope bE cs) [] (wipe σ (own.map (·.2))) H' s' ∧ tn i s'.heap ∧ (∀ b ∈ cs, H' b = none) ∧ W i n H') ?_ k0 ⟨0, G3, J4, st4, ncs, v0⟩
    rintro n ts ⟨i, G5, J5, st5, n5, w5⟩
    rcases turn i n G5 w5 with ⟨stop, qq⟩ | ⟨go, Nx, hNx, step⟩
    · have td := TT.done (X.blk rs G3 scope bE cs) rfl rfl rfl hotB i [] ts _ G5 (fun _ _ => False) J5 (stand J5 n5) st5 stop
      refine thnF td fun r us ⟨hr, J6⟩ => ?_
      subst hr
      have J7 : Inv X pins σ G5 us := J3.call' (ch := cs) J6.os J6.base J6.hok J6.bare fun b hb => ⟨(f3 b hb).1.2.2.2.1, (f3 b hb).1.2.1, (f3 b hb).1.2.2.2.2.1, (f3 b hb).1.2.2.2.2.2⟩
      have nC : G5 rs.heap.objs.size = none := by
        have z : G5 bE.locals = none := J6.free
        rw [cL] at z
        exact z
      obtain ⟨m, hn, _⟩ := J6.loc
      have hn : us.heap.Ns bE.locals m := hn
      rw [cL] at hn
      exact hRR D rs.heap.objs.size us m G5 J7 qq hn (J3.fpOk (Nat.le_refl _) nC)
    · have ti := TT.item (X.blk rs G3 scope bE cs) rfl rfl rfl hotB i [] ts _ G5 (fun _ _ => False) J5 (stand J5 n5) st5 go
      refine thnF ti fun r us ⟨u, hr, h6⟩ => ?_
      subst hr
      refine thnF h6 fun _ vs7 ⟨x, G7, J7, r7, y7, st7, n7⟩ => ?_
      have J7' := J7.pinned (stand J7 n7) (TT.obj _ _ st7)
      refine thnF (pg.run _ vs7 _ G7 x u _ J7' r7 (step x G7 y7)) fun _ ws8 ⟨σ8, G8, J8, hw8, q8⟩ => ?_
      refine thnF (pt.run _ ws8 σ8 G8 _ J8 q8) fun b xs9 ⟨G9, J9, q9⟩ => ?_
      have turned : ∀ {s' : Shared} {H' : Hp}, Inv (X.blk rs G3 scope bE cs) ([] ++ pinsAt cs vs7.heap) σ8 H' s' → Nx H' → ∃ m, m < n ∧ ∃ i H', Inv (X.blk rs G3 scope bE cs) [] (wipe σ (own.map (·.2))) H' s' ∧ tn i s'.heap ∧ (∀ b ∈ cs, H' b = none) ∧ W i m H' := fun {s' H'} I' nx => by
        obtain ⟨m', hm, w'⟩ := hNx H' nx
        have pin' : ∀ b ∈ cs, ∀ o, vs7.heap.get? b = some o → s'.heap.get? b = some o ∧ H' b = none := fun b hb o e =>
          let z := I'.pin (b, o) (List.mem_append_right _ (List.mem_append_right _ (mem_pinsAt hb e)))
          ⟨z.1, z.2.1⟩
        have hl : (wipe σ (own.map (·.2))).length = σ8.length := by rw [← hw8, wipe_length]
        refine ⟨m', hm, i + 1, H', (I'.unpinned (pins := [])).weak hl (fun j v e => ?_), TT.keep _ _ _ st7 fun b hb o e => (pin' b hb o e).1, fun b hb => ?_, w'⟩
        · rw [← hw8] at e
          exact (wipe_some e).1
        · obtain ⟨o, e, _⟩ := TT.obj _ _ st7 b hb
          exact (pin' b hb o e).2
      cases b with
      | false =>
        simp only [Bool.false_eq_true, if_false] at q9 ⊢
        exact turned J9 q9
      | true =>
        simp only [if_true] at q9 ⊢
        refine thnF (pe.run _ xs9 σ8 G9 _ J9 q9) fun z ys10 ⟨yv, G10, J10, r10, acc, hD10, hz10, nx⟩ => ?_
        exact app_ok (X := X.blk rs G3 scope bE cs) J10 hD10 hz10 r10 fun zs11 J11 => turned J11 nx
  exact codeAny_compStart_list lp (TT.self X.A 0 _ _ _ st4 lp)
theorem psF_setLc {i : Nat} {y : Str} {py : Pos} {elt tg iter : Expr} {ifs : List Expr} {scope : Scope} {own : List (Str × Nat)} {pos spos : Pos} {wi : TI} {g : TG} {tt : TT} {te : TE} (hc : HotF X) (hN : X.N.Nodup) (hy : X.N[i]? = some y) (hyl : X.env.scope.names.lookup y = some .local)
    (hsw : swapsWith (.ListComp elt [⟨tg, iter, ifs, 0⟩] scope pos) (some (.Name y py)) spos.line X.env = pure true) (hi : PIF X tg iter wi) (ok : BlkOk X.N X.env.scope scope own)
    (hg : ∀ (s : Shared) (H : Hp) (A : Addr) (cl : List (Str × Addr)) (cs : List Addr), HotF (X.blk s H scope (compEnvC scope cl A X.env) cs) → PG (X.blk s H scope (compEnvC scope cl A X.env) cs) tg g)
    (ht : ∀ (s : Shared) (H : Hp) (A : Addr) (cl : List (Str × Addr)) (cs : List Addr), PTs (X.blk s H scope (compEnvC scope cl A X.env) cs) ifs tt)
    (he : ∀ (s : Shared) (H : Hp) (A : Addr) (cl : List (Str × Addr)) (cs : List Addr), PE (X.blk s H scope (compEnvC scope cl A X.env) cs) elt te) (hs : ∀ x, foldedSetIterable iter X.env x = pure x) :
    PS X (.Assign [.Name y py] (.ListComp elt [⟨tg, iter, ifs, 0⟩] scope pos) spos) (tAsg (tLc wi g tt te (own.map (·.2))) (gName i)) := ⟨fun pins s σ H D I h => by
  rw [exec_Assign_Name_used _ _ _ _ hsw]
  refine wpAny_bind (wpAny_standAt (wpAny_bind ?_))
  show wpAny _ X.A (do let _ ← comprehension (.ListComp elt [⟨tg, iter, ifs, 0⟩] scope pos) scope X.env (firstIterPos [⟨tg, iter, ifs, 0⟩] pos) (newList []) false (eval iter X.env) (some (assign (.Name y py) X.env))) _ _ s
  have h' : tLc wi g tt te (own.map (·.2)) σ H (fun x H1 => gName i x σ H1 D.nx) := h
  refine wpAny_bind (thn (lcF_core (Qf := fun _ s' => SP X pins D .next s') hc hN I hi ok hg ht he hs h' fun L A s' m H' I' q hn ⟨f0, f1, f2, f3, f4, f5⟩ => ?_) fun _ s' hq => wpAny_pure (wpAny_pure hq))
  show wpAny _ _ (assign (.Name y py) X.env (.ref L)) _ _ _
  refine wpAny_assign_Name (store_ok2 (v := V.ref L) I' hN hy (.inl hyl) rfl (fun s2 I2 ⟨a, sb, ha⟩ => ?_) (.inr hyl))
  have nA : A ≠ a := ha.elim (fun z => by rw [z]; exact f1) fun z e => f4 y a z e.symm
  exact ⟨m, hn.sameBut sb nA, fun h3 sb3 => ⟨_, H', I2.turned (t' := s2.toks) (fun b o hb e => (sb3.2 b hb).trans e) f0 f1 f3 f4 f5, q⟩⟩⟩
variable {C : Ex → Addr} {W : WX} {elt tg iter : Expr} {ifs : List Expr} {scope : Scope} {own : List (Str × Nat)} {pos : Pos} {ti : DTI} {tgd : TgD} {tt : DTT} {te : DTE}
theorem sF_setLc {i : Nat} {y : Str} {py spos : Pos} (hc : HotF X) (hN : X.N.Nodup) (hy : X.N[i]? = some y) (hyl : X.env.scope.names.lookup y = some .local)
    (hsw : swapsWith (.ListComp elt [⟨tg, iter, ifs, 0⟩] scope pos) (some (.Name y py)) spos.line X.env = pure true) (hi : PIF X tg iter (upI X.K C W ti)) (ok : BlkOk X.N X.env.scope scope own)
    (hg : ∀ (s : Shared) (H : Hp) (A : Addr) (cl : List (Str × Addr)) (cs : List Addr), HotF (X.blk s H scope (compEnvC scope cl A X.env) cs) → PG (X.blk s H scope (compEnvC scope cl A X.env) cs) tg (gUp X.K tgd))
    (ht : ∀ (s : Shared) (H : Hp) (A : Addr) (cl : List (Str × Addr)) (cs : List Addr), PTs (X.blk s H scope (compEnvC scope cl A X.env) cs) ifs (upT X.K C W0 tt))
    (he : ∀ (s : Shared) (H : Hp) (A : Addr) (cl : List (Str × Addr)) (cs : List Addr), PE (X.blk s H scope (compEnvC scope cl A X.env) cs) elt (up X.K C W0 te))
    (hs : ∀ x, foldedSetIterable iter X.env x = pure x) (hsub : ∀ i ∈ tgd.slots, i ∈ own.map (·.2)) :
    PS X (.Assign [.Name y py] (.ListComp elt [⟨tg, iter, ifs, 0⟩] scope pos) spos) (upS X.K C W (dAsg (.n i) (dComp ti tgd (own.map (·.2)) tt te))) := by
  refine ps_imp (psF_setLc hc hN hy hyl hsw hi ok hg ht he hs) fun D σ H ⟨env, g, E, re, rg, q, cn, cr, cx⟩ => ?_
  refine lc_up (Q := fun x H1 => gName i x σ H1 D.nx) hsub ⟨env, g, _, _, re, rg, q, fun d g1 v H1 q1 k r rv => ?_, cx.e re⟩
  exact cn _ _ _ _ q1 k ((re.keep k).set rv) r
end
structure FnHF (P : Program) (w : World) (K : PySem.W.Frag) (mg : Str → Option Value) (base : Heap) (k : Nat) (f : Addr) (fd : FuncData) (ps : List Str) (sp : Sp) : Prop where
  len : ∀ vs H Q E, sp vs H Q E → vs.length = ps.length
  run : ∀ (A : Around) (outer : List PySem.Env) (s : Shared) (H : Hp) (args : Args) (us : List Value) (vs : List V) (Q : VK) (a : Addr), L2H.RoomH k A → Fro A H a → Env0 P w K mg base A outer s H → BindsTo s fd args (ps.zip us) → Vals vs us → sp vs H Q (fun _ _ _ => False) →
    codeAny (model P w) A (.call (.ref f) args) (CR (L2N.CX P w) outer P w H s Q (fun _ _ _ => False)) s
def cxF (P : Program) (w : World) (K : PySem.W.Frag) (mg : Str → Option Value) (base : Heap) (N : List Str) (qual : Str) (scope : Scope) (f : Addr) (cd : Value) (A : Around) (outer : List PySem.Env) (s : Shared) (H : Hp) : Cx :=
  { cxOf (L2N.CX P w) P w K mg base N qual scope f cd A outer s H (fun _ _ _ => False) with calm := false }
section
variable {P : Program} {w : World} {K : PySem.W.Frag} {mg : Str → Option Value} {base : Heap} {N ps : List Str} {qual : Str} {scope : Scope} {f : Addr} {cd : Value} {A : Around} {outer : List PySem.Env} {s s1 : Shared} {H : Hp} {us : List Value} {vs : List V}
theorem inv_startF (S : FnScope N ps scope) (e0 : Env0 P w K mg base A outer s H) (hl : vs.length = ps.length) (r : Vals vs us)
    (x : InCallC s s.heap.objs.size (bindL (envOfC qual scope s.heap.objs.size f cd).kindOf (ps.zip us) fun _ => none) (cellsFrom (s.heap.objs.size + 1) scope.names []) (bindC (envOfC qual scope s.heap.objs.size f cd).kindOf (ps.zip us) fun _ => none) s1) :
    Inv (cxF P w K mg base N qual scope f cd A outer s H) [] (L2.start N vs) H s1 := by
  have J := inv_start (CX := L2N.CX P w) (A := { A with handled := none }) (E := fun _ _ _ => False) (qual := qual) (cd := cd) (f := f) S rfl (⟨e0.frames, e0.mod, e0.bs, e0.bsz, e0.funs, e0.frf, e0.hok, e0.bare⟩ : Env0 P w K mg base { A with handled := none } outer s H) hl r x
  obtain ⟨ok, os, bare, b, loc, cell, free, freeC, pin, hok, len⟩ := J
  exact ⟨⟨ok.mod, ok.kind, ok.glob, ok.blt, ok.above, ok.inj, ok.has, ok.cab, (fun z => Bool.noConfusion (show false = true from z)), ok.frames, ok.stk, ok.exf, ok.bs, ok.bsz, ok.noex, ok.exfs, ok.funs, ok.frf⟩, os, bare, b, loc, cell, free, freeC, pin, hok, len⟩
end
section
variable {P : Program} {w : World} {K : PySem.W.Frag} {mg : Str → Option Value} {base : Heap} {x qual : Str} {params : Arguments} {body : List Stmt} {scope : Scope} {dvs : List V} {kws : List (Str × V)} {f : Addr} {fd : FuncData} {N ps : List Str} {k : Nat} {sp : Sp}
theorem fnF_of (F : FunD K x qual params body scope dvs kws f fd) (S : FnScope N ps scope) (len : ∀ vs H Q E, sp vs H Q E → vs.length = ps.length)
    (hbody : ∀ (cdv : Value) (A : Around) (outer : List PySem.Env) (s : Shared) (H : Hp) (vs : List V) (Q : VK) (a : Addr), L2H.RoomH (k + 1) A → Fro A H a → sp vs H Q (fun _ _ _ => False) →
      ∃ t, PSs (cxF P w K mg base N qual scope f cdv A outer s H) body t ∧ t { nx := fun _ H' => Q .non H', rt := Q } (L2.start N vs) H) : FnHF P w K mg base (k + 1) f fd ps sp := by
  obtain ⟨oc, od, dV, kV, doc, pm, an, cdv, ct, osl, rfl, lk, hcd, _, _⟩ := F.ex
  refine ⟨len, fun A outer s H args us vs Q a hr fr e0 hb r hsp => ?_⟩
  have hl := len _ _ _ _ hsp
  have KX : K.In s.heap := e0.mod.kin.keeps fun b o e => (e0.bs b o e).1
  have lim : s.heap.NoLimit := e0.mod.nolimit.keeps fun b o e => (e0.bs b o e).1
  have hkind : ∀ y ∈ ps.zip us, scope.names.lookup y.1 = some .local ∨ (scope.names.lookup y.1 = some .cell ∧ ((cellsFrom (s.heap.objs.size + 1) scope.names []).lookup y.1).isSome = true) := fun ⟨n, v⟩ hy =>
    (S.par n (List.of_mem_zip hy).1).elim .inl fun q => .inr ⟨q, PySem.W.cellsFrom_some _ _ _ (.inl q)⟩
  refine codeAny_call_function hr.depth (KX _ _ lk) rfl S.co S.gen rfl (PySem.W.codeRec_of KX hcd) (hb _ _ _ _ ?_)
  refine wpAny_newFunctionEnv_cells S.kind hkind fun env he s1 x => ?_
  subst he
  refine ⟨lim.keeps x.toInCall.keep, codeAny_func ?_⟩
  obtain ⟨t, ht, hq⟩ := hbody cdv A outer s H vs Q a hr fr hsp
  have I : Inv (cxF P w K mg base N qual scope f cdv A outer s H) [] (L2.start N vs) H s1 := inv_startF S e0 hl r x
  refine wpAny_mono (ht.run [] s1 (L2.start N vs) H _ I hq) (fun fl s' hs => ?_) fun e s' hs => hs
  have fin : ∀ {σ' : L2.St} {H' : Hp} {v : V} {u : Value}, Inv (cxF P w K mg base N qual scope f cdv A outer s H) [] σ' H' s' → RelV v u → Q v H' → CE outer P w H s Q u s' := fun {σ' H' v u} J rv q => ⟨v, H', J.os, J.bare, J.base, J.hok, rv, q⟩
  cases fl with
  | ret u =>
    obtain ⟨v, σ', H', J, rv, q⟩ := hs
    exact fin J rv q
  | next =>
    obtain ⟨σ', H', J, q⟩ := hs
    exact fin (v := V.non) (u := Value.none) J rfl q
  | brk => obtain ⟨_, _, _, q⟩ := hs; exact q.elim
  | cont => obtain ⟨_, _, _, q⟩ := hs; exact q.elim
end
section
variable {X : Cx} {k : Nat} {f : Addr} {fd : FuncData} {ps : List Str} {sp : Sp} {x : Str} {q pos : Pos} {e : Expr} {es : List Expr} {t : TA}
theorem peF_call (F : FnHF X.prog X.w X.K X.mg X.base k f fd ps sp) (hr : L2H.RoomH k X.A) (hg : Gl X x) (hm : X.mg x = some (.ref f)) (hk : PySem.W.keepIn X.K (.ref f) = true) (hb : Binds X.K fd ps []) (ha : PA X (e :: es) t)
    (hdb : (x == ("__debug__" : Str)) = false) (he : starEach (e :: es) X.env = (false, eval e X.env) :: starEach es X.env) (hpl : (backTo pos (starEach es X.env)).any (·.1) = false) :
    PE X (.Call (.Name x q) (e :: es) [] pos) (fun σ H Q => t σ H fun vs H1 => (∃ a, Fro X.A H1 a) ∧ sp vs H1 Q fun _ _ _ => False) := ⟨fun pins s σ H Q I h => by
  refine wpAny_Call_Name_kw (ld_glob I hg hm ?_ hdb)
  refine PySem.W.callWith_K (h₀ := X.base) I.ok.mod.kin hk (thn (ha.run pos pins s σ H _ I h) fun us s1 ⟨vs, H1, I1, r, ⟨a, fr⟩, q1⟩ => ⟨I1.kIn, ?_⟩) he hpl
  have hl : us.length = ps.length := by rw [← r.length]; exact F.len _ _ _ _ q1
  have b := hb s1 us I1.kIn (by rw [List.append_nil]; exact hl)
  rw [List.append_nil] at b
  refine wpAny_call (codeAny_mono (F.run X.A X.stack s1 H1 ⟨us, []⟩ us vs Q a hr fr I1.env0 b r q1) fun r s' hq => ?_)
  cases r with
  | error e =>
    obtain ⟨_, _, _, _, _, _, _, _, _, _, _, _, z⟩ := hq
    exact z.elim
  | ok fl =>
    cases fl with
    | ret u => exact I1.after hq
    | next => exact hq.elim
    | brk => exact hq.elim
    | cont => exact hq.elim⟩
end
end PP
namespace PP
open PySem PySem.Spec PyProof.Rows L2
inductive Op where
  | add | sub | mul | fdiv | mod | pow
def Op.rd : Op → D → D → G → QD → Prop
  | .add => dAdd
  | .sub => dSub
  | .mul => dMul
  | .fdiv => dFdiv
  | .mod => dMod
  | .pow => dPow
def Op.py : Op → Operator
  | .add => .Add
  | .sub => .Sub
  | .mul => .Mult
  | .fdiv => .FloorDiv
  | .mod => .Mod
  | .pow => .Pow
inductive Cm where
  | eq | ne | lt | le | gt | ge | is_ | isn | in_ | nin
def Cm.rd : Cm → D → D → G → QD → Prop
  | .eq => dEqB false
  | .ne => dEqB true
  | .lt => dLt
  | .le => dLe
  | .gt => dGt
  | .ge => dGe
  | .is_ => dIsN false
  | .isn => dIsN true
  | .in_ => dIn false
  | .nin => dIn true
def Cm.py : Cm → CmpOp
  | .eq => .Eq
  | .ne => .NotEq
  | .lt => .Lt
  | .le => .LtE
  | .gt => .Gt
  | .ge => .GtE
  | .is_ => .Is
  | .isn => .IsNot
  | .in_ => .In
  | .nin => .NotIn
inductive Bl where
  | len | abs | max | min | int | str | sum | all | list | tuple
def Bl.rd : Bl → List D → G → QD → Prop
  | .len => dLen
  | .abs => dAbs
  | .max => dMax
  | .min => dMin
  | .int => dInt
  | .str => dStr
  | .sum => dSum
  | .all => dAll
  | .list => dList
  | .tuple => dTuple
def Bl.nm : Bl → String
  | .len => "len"
  | .abs => "abs"
  | .max => "max"
  | .min => "min"
  | .int => "int"
  | .str => "str"
  | .sum => "sum"
  | .all => "all"
  | .list => "list"
  | .tuple => "tuple"
inductive Mt where
  | append | pop | popAt | extend | clear | reverse | insert | index | split | join
def Mt.rd : Mt → D → List D → G → QD → Prop
  | .append => mAppend
  | .pop => mPop
  | .popAt => mPopAt
  | .extend => mExtend
  | .clear => mClear
  | .reverse => mReverse
  | .insert => mInsert
  | .index => mIndex
  | .split => mSplit
  | .join => mJoin
def Mt.nm : Mt → String
  | .append => "append"
  | .pop => "pop"
  | .popAt => "pop"
  | .extend => "extend"
  | .clear => "clear"
  | .reverse => "reverse"
  | .insert => "insert"
  | .index => "index"
  | .split => "split"
  | .join => "join"
def Mt.rc : Mt → Rc
  | .split => .str
  | .join => .str
  | _ => .list
def Mt.none : Mt → Bool
  | .pop => true
  | .clear => true
  | .reverse => true
  | _ => false
def dLset (t : DTE) : DTE := fun X env g Q => t X env g fun d g1 => match d with
  | .ref a => (match g1 a with
    | some xs => xs.length < 64 ∧ ∃ kss : List (List Int), xs = kss.map (fun k => D.tup (k.map D.int)) ∧ ∀ L : List (List Int), L.Nodup → (∀ k ∈ L, k ∈ kss) → (∀ k ∈ kss, k ∈ L) → Q (.int (L.length : Nat)) g1
    | none => False)
  | _ => False
def dSrev (t : DTE) : DTE := fun X env g Q => t X env g fun d g1 => match d with
  | .ref a => (match g1 a with
    | some xs => ∀ p, g1 p = none → Q (.ref p) (g1.up p xs.reverse)
    | none => False)
  | .tup xs => Q (.tup xs.reverse) g1
  | _ => False
inductive PX where
  | v (i : Nat) | int (i : Int) | bl (b : Bool) | non | str (s : String) | glo (k : Nat)
  | bin (o : Op) (a b : PX) | cmp (o : Cm) (a b : PX) | chain (o p : Cm) (a b c : PX)
  | not (a : PX) | neg (a : PX) | and (a b : PX) | or (a b : PX)
  | ix (a b : PX) | slc (a lo hi : PX)
  | tup (as : PX) | lst (as : PX) | nil | cons (a r : PX)
  | call (f : Nat) (as : PX) | blt (b : Bl) (as : PX) | mt (m : Mt) (o as : PX)
  | isi (ts : List Ty) (a : PX)
  | comp (own : List Nat) (tg : TgD) (it tst e : PX)
  | over (a : PX) | range1 (a : PX) | range2 (a b : PX) | rev (a : PX) | zip (a b : PX) | enum (a : PX) | zip3 (a b d : PX)
  | yes | hole | lset (a : PX) | srev (a : PX)
  | isx (ts : List (Option Ex)) (a : PX) | tupz (a b : PX) | overL (a : PX) | dic | dic1 (k : Int) (i : Nat) | dnew | vfz (i : Nat) | stp (a b : PX) | lamr (ns : List Ex) (a : PX)
structure Mn where
  e : DTE := fun _ _ _ _ => False
  t : DTT := fun _ _ _ _ => False
  a : DTA := fun _ _ _ _ => False
  i : DTI := fun _ _ _ _ => False
  o : DTO := fun _ _ _ _ => False
def Mn.of (e : DTE) : Mn := { e := e, t := dTst e, o := dPart e, i := dIAny e }
def mn (Γ : Nat → SpD) (gl : Nat → D) : PX → Mn
  | .v i => .of (dVar i)
  | .int i => .of (dC (.int i))
  | .bl b => .of (dC (.bl b))
  | .non => .of (dC .non)
  | .str s => .of (dC (.str s))
  | .glo k => .of (dC (gl k))
  | .bin o a b => .of (dBin o.rd (mn Γ gl a).e (mn Γ gl b).e)
  | .cmp o a b => .of (dBin o.rd (mn Γ gl a).e (mn Γ gl b).e)
  | .chain o p a b c => .of (dChain o.rd p.rd (mn Γ gl a).e (mn Γ gl b).e (mn Γ gl c).e)
  | .not a => { Mn.of (dNot (mn Γ gl a).e) with t := dNotT (mn Γ gl a).t }
  | .neg a => .of (dUn dNeg (mn Γ gl a).e)
  | .and a b => { Mn.of (dAnd (mn Γ gl a).e (mn Γ gl b).e) with t := dAndT (mn Γ gl a).t (mn Γ gl b).t }
  | .or a b => { Mn.of (dOr (mn Γ gl a).e (mn Γ gl b).e) with t := dOrT (mn Γ gl a).t (mn Γ gl b).t }
  | .ix a b => .of (dBin dIx (mn Γ gl a).e (mn Γ gl b).e)
  | .slc a lo hi => .of (dSlc (mn Γ gl a).e (mn Γ gl lo).o (mn Γ gl hi).o)
  | .tup as => .of (dTup (mn Γ gl as).a)
  | .lst as => .of (dLst (mn Γ gl as).a)
  | .nil => { a := dNil }
  | .cons a r => { a := dCons (mn Γ gl a).e (mn Γ gl r).a }
  | .call f as => .of (dCall (Γ f) (mn Γ gl as).a)
  | .blt b as => .of (dCB b.rd (mn Γ gl as).a)
  | .mt m o as => .of (dMt m.rc m.rd (mn Γ gl o).e (mn Γ gl as).a)
  | .isi ts a => .of (dUn (dIsi ts) (mn Γ gl a).e)
  | .comp own tg it tst e => .of (dComp (mn Γ gl it).i tg own (mn Γ gl tst).t (mn Γ gl e).e)
  | .over a => { i := dIAny (mn Γ gl a).e }
  | .range1 a => { i := dI1 dRange1 (mn Γ gl a).e }
  | .range2 a b => { i := dI2 dRange2 (mn Γ gl a).e (mn Γ gl b).e }
  | .rev a => { i := dI1 dRev (mn Γ gl a).e }
  | .zip a b => { i := dI2 dZip (mn Γ gl a).e (mn Γ gl b).e }
  | .enum a => { i := dI1 dEnum (mn Γ gl a).e }
  | .zip3 a b d => { i := dI3 dZip3 (mn Γ gl a).e (mn Γ gl b).e (mn Γ gl d).e }
  | .yes => { t := dYes }
  | .hole => { o := dNoPart }
  | .lset a => .of (dLset (mn Γ gl a).e)
  | .srev a => .of (dSrev (mn Γ gl a).e)
  | .isx ts a => .of (dUn (dIsx ts) (mn Γ gl a).e)
  | .tupz a b => .of (dBin dTupZ (mn Γ gl a).e (mn Γ gl b).e)
  | .overL a => { i := dILst (mn Γ gl a).e }
  | .dic => .of dEmp
  | .dnew => .of dDnew
  | .vfz i => .of (dVfz i)
  | .dic1 _ i => .of (dDic1 i)
  | .stp a b => .of (dStp (mn Γ gl a).e (mn Γ gl b).e)
  | .lamr ns a => .of (dLamr ns wdA toldA (mn Γ gl a).e)
structure Ck where
  N : List Str
  sc : Scope
  fn : Str → Bool
  fns : List (Nat × Str)
  gls : List (Nat × Str)
  exs : List Ex
  hot : List (Nat × Str) := []
  lam : Option Str := none
def Ck.vis (c : Ck) (x : Str) : Bool := (match c.sc.names.lookup x with | some .local => true | some .cell => true | some .free => true | _ => false) && !(x == ("__debug__" : Str)) && !(x == ("__classdict__" : Str))
def Ck.gl (c : Ck) (x : Str) : Bool := (match c.sc.names.lookup x with | some .globalImplicit => true | _ => false) && !(x == ("__debug__" : Str))
def Ck.tgt (c : Ck) (i : Nat) (x : Str) : Bool := decide (c.N[i]? = some x) && ((match c.sc.names.lookup x with | some .local => true | some .cell => c.fn x | _ => false))
def Ck.loc (c : Ck) (x : Str) : Bool := match c.sc.names.lookup x with | some .local => true | _ => false
def Ck.blk (c : Ck) (scope : Scope) : Ck := { c with sc := relS scope c.sc, fn := fun x => scope.names.lookup x == some .cell, lam := none }
def Ck.lm (c : Ck) (scope : Scope) : Ck := { c with sc := scope, fn := fun _ => false, lam := none }
def noArgs : Arguments → Bool
  | ⟨[], [], none, [], [], none, []⟩ => true
  | _ => false
def noStar : Expr → Bool
  | .Starred _ _ => false
  | _ => true
def noSet : Expr → Bool
  | .Set _ _ _ => false
  | _ => true
def noComp : Expr → Bool
  | .ListComp _ _ _ _ => false
  | .SetComp _ _ _ _ => false
  | .DictComp _ _ _ _ _ => false
  | _ => true
def recOk : Expr → Bool
  | .Name _ _ => true
  | .Constant _ _ _ => true
  | .Subscript _ _ _ => true
  | _ => false
def tstOk : Expr → Bool
  | .Name _ _ => true
  | .Call _ _ _ _ => true
  | .Subscript _ _ _ => true
  | .Constant _ _ _ => true
  | _ => false
def tyNames : List Ty → List Expr → Bool
  | [], [] => true
  | t :: ts, .Name x _ :: es => decide (x = Str.ofString t.nm) && tyNames ts es
  | _, _ => false
def xOk (c : Ck) : Option Ex → Bool
  | none => true
  | some m => c.exs.contains m
def xNames (c : Ck) : List (Option Ex) → List Expr → Bool
  | [], [] => true
  | t :: ts, .Name x _ :: es => decide (x = Str.ofString (xnm t)) && c.gl x && xOk c t && xNames c ts es
  | _, _ => false
def tgtsOk (c : Ck) : List Nat → List Expr → Bool
  | [], [] => true
  | i :: is, .Name x _ :: es => c.tgt i x && tgtsOk c is es
  | _, _ => false
def tgOk (c : Ck) : TgD → Expr → Bool
  | .n i, .Name x _ => c.tgt i x
  | .t is, .Tuple es _ _ => tgtsOk c is es
  | _, _ => false
def isTupE : Expr → Bool
  | .Tuple _ _ _ => true
  | _ => false
def bltNames : List String := ["len", "abs", "max", "min", "int", "str", "sum", "all", "list", "tuple", "isinstance", "range", "reversed", "zip", "enumerate", "bool", "set", "ValueError"]
structure Kn where
  e : Ck → Expr → Bool := fun _ _ => false
  t : Ck → Expr → Bool := fun _ _ => false
  w : Ck → BoolOp → List Expr → Bool := fun _ _ _ => false
  ve : Ck → BoolOp → List Expr → Bool := fun _ _ _ => false
  a : Ck → List Expr → Bool := fun _ _ => false
  i : Ck → Expr → Expr → Bool := fun _ _ _ => false
  o : Ck → Option Expr → Bool := fun _ _ => false
def one (k : Expr → Bool) : List Expr → Bool
  | [e] => k e
  | _ => false
def opt (k : Expr → Bool) : Option Expr → Bool
  | some e => k e
  | none => false
def two (k : Expr → Bool) (l : List Expr → Bool) : List Expr → Bool
  | x :: y :: r => k x && l (y :: r)
  | _ => false
def bop (o : BoolOp) (l : List Expr → Bool) : Expr → Bool
  | .BoolOp op es _ => decide (op = o) && l es
  | _ => false
def uop (o : UnaryOp) (k : Expr → Bool) : Expr → Bool
  | .UnaryOp op x _ => decide (op = o) && k x
  | _ => false
def cmpK (o : Cm) (ka kb : Expr → Bool) : Expr → Bool
  | .Compare x [op] [y] _ => decide (op = o.py) && !behindInMarks op y && ka x && kb y
  | _ => false
def chainK (o p : Cm) (ka kb kd : Expr → Bool) : Expr → Bool
  | .Compare x [op, op'] [y, z] _ => decide (op = o.py) && decide (op' = p.py) && !lastMarks [op, op'] [y, z] && ka x && kb y && kd z
  | _ => false
def Kn.of (k : Ck → Expr → Bool) : Kn where
  e := k
  t := fun c e => k c e && tstOk e
  w := fun c _ es => one (fun e => k c e && tstOk e) es
  ve := fun c _ es => one (k c) es
  o := fun c e => opt (k c) e
def kn : PX → Kn
  | .v i => .of fun c e => match e with | .Name x _ => c.vis x && decide (c.N[i]? = some x) | _ => false
  | .int i => .of fun c e => match e with | .Constant (.int j) _ _ => decide (i = j) | _ => false
  | .bl b => .of fun c e => match e with | .Constant (.bool j) _ _ => decide (b = j) | _ => false
  | .non => .of fun c e => match e with | .Constant .none _ _ => true | _ => false
  | .str s => .of fun c e => match e with | .Constant (.str z) _ _ => decide (z = Str.ofString s) | _ => false
  | .glo k => .of fun c e => match e with | .Name x _ => c.gl x && c.gls.contains (k, x) | _ => false
  | .bin o a b => .of fun c e => match e with | .BinOp x op y _ => decide (op = o.py) && (kn a).e c x && (kn b).e c y | _ => false
  | .cmp o a b =>
    { Kn.of (fun c => cmpK o ((kn a).e c) ((kn b).e c)) with
      t := fun c => cmpK o ((kn a).e c) ((kn b).e c)
      w := fun c _ es => one (cmpK o ((kn a).e c) ((kn b).e c)) es }
  | .chain o p a b d => { Kn.of (fun c => chainK o p ((kn a).e c) ((kn b).e c) ((kn d).e c)) with
      t := fun c => chainK o p ((kn a).e c) ((kn b).e c) ((kn d).e c)
      w := fun c _ es => one (chainK o p ((kn a).e c) ((kn b).e c) ((kn d).e c)) es }
  | .not a => { Kn.of (fun c => uop .Not ((kn a).e c)) with
      t := fun c => uop .Not ((kn a).t c)
      w := fun c _ es => one (uop .Not ((kn a).t c)) es }
  | .neg a => .of fun c => uop .USub ((kn a).e c)
  | .and a b => {
      e := fun c => bop .And (two ((kn a).e c) ((kn b).ve c .And)),
      t := fun c => bop .And (two ((kn a).t c) ((kn b).w c .And)),
      w := fun c op es => one (bop .And (two ((kn a).t c) ((kn b).w c .And))) es || (decide (op = .And) && two ((kn a).t c) ((kn b).w c .And) es),
      ve := fun c op es => one (bop .And (two ((kn a).e c) ((kn b).ve c .And))) es || (decide (op = .And) && two ((kn a).e c) ((kn b).ve c .And) es),
      o := fun c => opt (bop .And (two ((kn a).e c) ((kn b).ve c .And))) }
  | .or a b => {
      e := fun c => bop .Or (two ((kn a).e c) ((kn b).ve c .Or)),
      t := fun c => bop .Or (two ((kn a).t c) ((kn b).w c .Or)),
      w := fun c op es => one (bop .Or (two ((kn a).t c) ((kn b).w c .Or))) es || (decide (op = .Or) && two ((kn a).t c) ((kn b).w c .Or) es),
      ve := fun c op es => one (bop .Or (two ((kn a).e c) ((kn b).ve c .Or))) es || (decide (op = .Or) && two ((kn a).e c) ((kn b).ve c .Or) es),
      o := fun c => opt (bop .Or (two ((kn a).e c) ((kn b).ve c .Or))) }
  | .ix a b => .of fun c e => match e with | .Subscript x y _ => (match y with | .Slice _ _ _ _ => false | _ => true) && (kn a).e c x && (kn b).e c y | _ => false
  | .slc a lo hi => .of fun c e => match e with | .Subscript x (.Slice l h none _) _ => (kn a).e c x && (kn lo).o c l && (kn hi).o c h | _ => false
  | .tup as => .of fun c e => match e with | .Tuple es _ _ => (kn as).a c es | _ => false
  | .lst as => .of fun c e => match e with | .List es _ => (kn as).a c es | _ => false
  | .nil => { a := fun c es => match es with | [] => true | _ => false }
  | .cons a r => { a := fun c es => match es with | e :: es => noStar e && (kn a).e c e && (kn r).a c es | _ => false }
  | .call f as => .of fun c e => match e with
    | .Call (.Name x _) (e :: es) [] _ => c.gl x && decide (c.fns.lookup f = some x) && noStar e && es.all noStar && (kn as).a c (e :: es)
    | .Call (.Name x _) [] [] _ => c.gl x && decide (c.fns.lookup f = some x) && (match as with | .nil => true | _ => false)
    | _ => false
  | .blt b as => .of fun c e => match e with | .Call (.Name x _) (e :: es) [] _ => c.gl x && decide (x = Str.ofString b.nm) && noStar e && es.all noStar && (kn as).a c (e :: es) | _ => false
  | .mt m o as => .of fun c e => match e with
    | .Call (.Attribute x n ap) [] [] cp => m.none && decide (n = Str.ofString m.nm) && recOk x && (ap.endLine == cp.line) && (kn o).e c x && (match as with | .nil => true | _ => false)
    | .Call (.Attribute x n ap) (e :: es) [] cp => !m.none && decide (n = Str.ofString m.nm) && recOk x && (ap.endLine == cp.line) && noStar e && es.all noStar && decide ((e :: es).length < 29) && (kn o).e c x && (kn as).a c (e :: es)
    | _ => false
  | .isi ts a => .of fun c e => match e with
    | .Call (.Name x _) [e, .Name y _] [] _ => c.gl x && decide (x = Str.ofString "isinstance") && noStar e && c.gl y && (match ts with | [t] => decide (y = Str.ofString t.nm) | _ => false) && (kn a).e c e
    | .Call (.Name x _) [e, .Tuple es _ _] [] _ => c.gl x && decide (x = Str.ofString "isinstance") && noStar e && decide (ts.length < 20) && tyNames ts es && (ts.all fun t => c.gl (Str.ofString t.nm)) && (kn a).e c e
    | _ => false
  | .comp own tg it tst e => .of fun c x => match x with
    | .ListComp elt [⟨tgE, iter, ifs, 0⟩] scope _ => blkC c.N c.sc scope (own.map fun i => (c.N.getD i "", i)) && (tg.slots.all fun i => own.contains i) && tgOk (c.blk scope) tg tgE && noSet iter && (kn it).i c tgE iter && (kn e).e (c.blk scope) elt &&
      (match tst, ifs with | .yes, [] => true | .yes, _ => false | _, [y] => (kn tst).t (c.blk scope) y | _, _ => false)
    | _ => false
  | .over a => { i := fun c _ e => (kn a).e c e }
  | .overL a => { i := fun c _ e => (kn a).e c e }
  | .dic => .of fun c x => match x with | .Dict [] [] _ => true | _ => false
  | .dnew => .of fun c x => match x with | .Dict [] [] _ => true | _ => false
  | .vfz i => .of fun c e => match e with | .Name x _ => c.vis x && decide (c.N[i]? = some x) | _ => false
  | .dic1 k i => .of fun c x => match x with | .Dict [some (.Constant (.int j) _ _)] [.Name y _] _ => decide (k = j) && (c.vis y && decide (c.N[i]? = some y)) | _ => false
  | .stp a b => .of fun c e => match e with
    | .Subscript x (.Slice none none (some y) _) _ => (kn a).e c x && (kn b).e c y
    | _ => false
  | .lamr ns a => .of fun c e => match e with
    | .Call (.Name x _) [.Lambda params body scope _] [] _ => decide (c.lam = some x) && (ns.all fun n => c.exs.contains n) && c.gl x && LamX.lamSB c.sc scope && noArgs params && (kn a).e (c.lm scope) body
    | _ => false
  | .range1 a => { i := fun c _ e => match e with | .Call (.Name x _) [y] [] _ => c.gl x && decide (x = Str.ofString "range") && noStar y && (kn a).e c y | _ => false }
  | .range2 a b => { i := fun c _ e => match e with | .Call (.Name x _) [y, z] [] _ => c.gl x && decide (x = Str.ofString "range") && noStar y && noStar z && (kn a).e c y && (kn b).e c z | _ => false }
  | .rev a => { i := fun c _ e => match e with | .Call (.Name x _) [y] [] _ => c.gl x && decide (x = Str.ofString "reversed") && noStar y && (kn a).e c y | _ => false }
  | .zip a b => { i := fun c tg e => match e with | .Call (.Name x _) [y, z] [] _ => isTupE tg && c.gl x && decide (x = Str.ofString "zip") && noStar y && noStar z && (kn a).e c y && (kn b).e c z | _ => false }
  | .enum a => { i := fun c tg e => match e with | .Call (.Name x _) [y] [] _ => isTupE tg && c.gl x && decide (x = Str.ofString "enumerate") && noStar y && (kn a).e c y | _ => false }
  | .zip3 a b d => { i := fun c tg e => match e with | .Call (.Name x _) [y, z, w] [] _ => isTupE tg && c.gl x && decide (x = Str.ofString "zip") && noStar y && noStar z && noStar w && (kn a).e c y && (kn b).e c z && (kn d).e c w | _ => false }
  | .yes => {}
  | .hole => { o := fun c e => e.isNone }
  | .lset a => .of fun c e => match e with
    | .Call (.Name x _) [.Call (.Name y _) [z] [] _] [] _ => c.gl x && decide (x = Str.ofString "len") && c.gl y && decide (y = Str.ofString "set") && noStar z && (kn a).e c z
    | _ => false
  | .srev a => .of fun c e => match e with
    | .Subscript x (.Slice none none (some (.UnaryOp .USub (.Constant (.int 1) _ _) _)) _) _ => (kn a).e c x
    | _ => false
  | .tupz a b => .of fun c e => match e with
    | .Call (.Name x _) [.Call (.Name y _) [z, w] [] _] [] _ => c.gl x && decide (x = Str.ofString "tuple") && c.gl y && decide (y = Str.ofString "zip") && noStar z && noStar w && (kn a).e c z && (kn b).e c w
    | _ => false
  | .isx ts a => .of fun c e => match e with
    | .Call (.Name x _) [e, .Name y _] [] _ => c.gl x && decide (x = Str.ofString "isinstance") && noStar e && (match ts with | [t] => decide (y = Str.ofString (xnm t)) && c.gl y && xOk c t | _ => false) && (kn a).e c e
    | .Call (.Name x _) [e, .Tuple es _ _] [] _ => c.gl x && decide (x = Str.ofString "isinstance") && noStar e && decide (ts.length < 20) && xNames c ts es && (kn a).e c e
    | _ => false
end PP
namespace PP
open PySem PySem.Spec PyProof.Rows L2
theorem takes0N {X : Cx} : L2N.Takes X (fun _ _ _ _ => False) := fun u s' x => by
  obtain ⟨_, _, _, _, _, _, _, _, _, _, _, _, _, _, _, _, w⟩ := x
  exact w.elim
structure Ctx (c : Ck) (Γ : Nat → SpD) (gl : Nat → D) (C : Ex → Addr) (W : WX) (X : Cx) : Prop where
  N : X.N = c.N
  nd : X.N.Nodup
  sc : X.env.scope = c.sc
  calm : X.calm = true
  stk : Stk X
  hfn : ∀ x, c.fn x = true → X.fn x = true
  fns : ∀ i x, c.fns.lookup i = some x → ∃ ps, FnAt X C x ps (Γ i)
  gls : ∀ i x, (i, x) ∈ c.gls → ∃ u v, X.mg x = some u ∧ RelV v u ∧ ∀ H, Rep X.K H (gl i) v
  free : ∀ x ∈ bltNames, X.mg (Str.ofString x) = none
  exn : ∀ n ∈ c.exs, ExN X.K X.mg C n
  tk : L2N.Takes X W
  lam : ∀ x, c.lam = some x → AskF X.prog X.w X.K X.mg X.base C c.exs wdA toldA x ∧ LamM X ∧ ∃ k, 40 ≤ k ∧ Room (k + 2) X.A ∧ ∀ i y, c.fns.lookup i = some y → ∃ ps f fd, X.mg y = some (.ref f) ∧ PySem.W.keepIn X.K (.ref f) = true ∧ Binds X.K fd ps [] ∧ FnOk X.prog X.w X.K X.mg X.base (L2N.CX X.prog X.w) k f fd ps (liftSp X.K C (Γ i))
structure Snd (Γ : Nat → SpD) (gl : Nat → D) (C : Ex → Addr) (px : PX) : Prop where
  e : ∀ (c : Ck) (X : Cx) (W : WX) (x : Expr), Ctx c Γ gl C W X → (kn px).e c x = true → PE X x (up X.K C W (mn Γ gl px).e)
  t : ∀ (c : Ck) (X : Cx) (W : WX) (x : Expr), Ctx c Γ gl C W X → (kn px).t c x = true → PT X x (upT X.K C W (mn Γ gl px).t)
  w : ∀ (c : Ck) (X : Cx) (W : WX) (op : BoolOp) (es : List Expr) (pos : Pos), Ctx c Γ gl C W X → (kn px).w c op es = true → PW X (.BoolOp op es pos) (upT X.K C W (mn Γ gl px).t)
  ve : ∀ (c : Ck) (X : Cx) (W : WX) (op : BoolOp) (es : List Expr) (pos : Pos), Ctx c Γ gl C W X → (kn px).ve c op es = true → PE X (.BoolOp op es pos) (up X.K C W (mn Γ gl px).e)
  a : ∀ (c : Ck) (X : Cx) (W : WX) (es : List Expr), Ctx c Γ gl C W X → (kn px).a c es = true → PA X es (upA X.K C W (mn Γ gl px).a)
  i : ∀ (c : Ck) (X : Cx) (W : WX) (tg x : Expr), Ctx c Γ gl C W X → (kn px).i c tg x = true → PI X tg x (upI X.K C W (mn Γ gl px).i)
  o : ∀ (c : Ck) (X : Cx) (W : WX) (x : Option Expr), Ctx c Γ gl C W X → (kn px).o c x = true → PO X x (upO X.K C W (mn Γ gl px).o)
theorem star_of {e : Expr} {es : List Expr} {env : PySem.Env} (h : noStar e = true) : starEach (e :: es) env = (false, eval e env) :: starEach es env := by
  cases e <;> first | rfl | cases h
theorem tst_of {e : Expr} {env : PySem.Env} (h : tstOk e = true) : ∀ whole, isTrue e env whole = (do let v ← whole; standAt e.pos; holding [v] (truthy v)) := by
  intro whole
  cases e <;> first | rfl | cases h
theorem set_of {e : Expr} {env : PySem.Env} (h : noSet e = true) : ∀ x, foldedSetIterable e env x = pure x := by
  intro x
  cases e <;> first | rfl | cases h
theorem rec_of {e : Expr} {n : Str} {env : PySem.Env} (h : recOk e = true) : attributeBase e n env (eval e env) = eval e env := by
  cases e <;> first | rfl | cases h
theorem plain_star : ∀ {es : List Expr} {env : PySem.Env} {pos : Pos}, es.all noStar = true → (backTo pos (starEach es env)).any (·.1) = false := by
  intro es env pos h
  have k : ∀ {es : List Expr}, es.all noStar = true → (starEach es env).any (·.1) = false := by
    intro es
    induction es with
    | nil => intro _; rfl
    | cons e es ih =>
      intro h
      simp only [List.all_cons, Bool.and_eq_true] at h
      rw [star_of h.1]
      simp [ih h.2]
  have q := k h
  rw [List.any_eq_false] at q ⊢
  intro x hx
  unfold backTo at hx
  obtain ⟨y, hy, e⟩ := List.mem_map.mp hx
  subst e
  exact q y hy
section
variable {Γ : Nat → SpD} {gl : Nat → D} {C : Ex → Addr} {c : Ck} {X : Cx} {W : WX}
theorem Ctx.glb {x : Str} (K : Ctx c Γ gl C W X) (h : c.gl x = true) : Gl X x ∧ (x == ("__debug__" : Str)) = false := by
  unfold Ck.gl at h
  simp only [Bool.and_eq_true] at h
  obtain ⟨h1, h2⟩ := h
  refine ⟨?_, by simpa using h2⟩
  show X.env.scope.names.lookup x = _
  rw [K.sc]
  split at h1
  · assumption
  · cases h1
theorem Ctx.tgt {i : Nat} {x : Str} (K : Ctx c Γ gl C W X) (h : c.tgt i x = true) : X.N[i]? = some x ∧ L2.Loc X.env.scope x ∧ (X.fn x = true ∨ X.env.scope.names.lookup x = some .local) := by
  unfold Ck.tgt at h
  simp only [Bool.and_eq_true, decide_eq_true_eq] at h
  obtain ⟨h1, h2⟩ := h
  refine ⟨by rw [K.N]; exact h1, ?_, ?_⟩
  · unfold L2.Loc
    rw [K.sc]
    split at h2
    · exact .inl (by assumption)
    · exact .inr (by assumption)
    · cases h2
  · rw [K.sc]
    split at h2
    · exact .inr (by assumption)
    · exact .inl (K.hfn _ h2)
    · cases h2
theorem Ctx.hu (K : Ctx c Γ gl C W X) : X.A.units + 65 < cLine := by
  have := K.stk.room.un
  omega
theorem Ctx.free1 (K : Ctx c Γ gl C W X) {x : String} (h : x ∈ bltNames) : X.mg (Str.ofString x) = none := K.free x h
theorem tg_of {tg : TgD} {e : Expr} (K : Ctx c Γ gl C W X) (h : tgOk c tg e = true) : PG X e (gUp X.K tg) := by
  unfold tgOk at h
  split at h
  · obtain ⟨h1, h2, h3⟩ := K.tgt h
    exact g_name K.nd h1 h2 h3
  · rename_i is es _ _
    have k : ∀ (is : List Nat) (es : List Expr), tgtsOk c is es = true → PGs X es (gNames is) ∧ (assignEach es X.env).length = is.length ∧ (assignEach es X.env).findIdx? (·.1) = none := by
      intro is
      induction is with
      | nil =>
        intro es h
        cases es with
        | nil => exact ⟨gs_nil, rfl, rfl⟩
        | cons e es => cases h
      | cons i is ih =>
        intro es h
        cases es with
        | nil => cases h
        | cons e es =>
          cases e with
          | Name x p =>
            have h : (c.tgt i x && tgtsOk c is es) = true := h
            simp only [Bool.and_eq_true] at h
            obtain ⟨h1, h2, h3⟩ := K.tgt h.1
            obtain ⟨k1, k2, k3⟩ := ih es h.2
            refine ⟨gs_cons (pg_name K.nd h1 h2 h3) k1 rfl, ?_, ?_⟩
            · show (assignEach _ X.env).length + 1 = _
              rw [k2] <;> rfl
            · show List.findIdx? _ ((false, _) :: assignEach _ X.env) = none
              rw [List.findIdx?_cons]
              simp only [Bool.false_eq_true, if_false]
              rw [k3] <;> rfl
          | _ => cases h
    obtain ⟨k1, k2, k3⟩ := k _ _ h
    exact g_tup K.calm k1 k2 k3
  · cases h
theorem o_bin (K : Ctx c Γ gl C W X) (o : Op) : OpR X (binaryOp o.py) (rUp X.K o.rd) := by
  cases o
  · exact o_add
  · exact o_sub
  · exact o_mul
  · exact o_fdiv K.stk
  · exact o_mod
  · exact o_pow
theorem o_cm (K : Ctx c Γ gl C W X) (o : Cm) : OpR X (compareOp o.py) (rUp X.K o.rd) := by
  have hu := K.hu
  have hu2 : X.A.units + 64 < cLine := by omega
  cases o
  · exact o_eq hu2
  · exact o_ne hu2
  · exact o_lt
  · exact o_le
  · exact o_gt
  · exact o_ge
  · exact o_isN
  · exact o_notN
  · exact o_in hu
  · exact o_notIn hu
end
theorem one_of {k : Expr → Bool} {es : List Expr} (h : one k es = true) : ∃ e, es = [e] ∧ k e = true := by
  unfold one at h
  split at h
  · exact ⟨_, rfl, h⟩
  · cases h
theorem opt_of {k : Expr → Bool} {es : Option Expr} (h : opt k es = true) : ∃ e, es = some e ∧ k e = true := by
  unfold opt at h
  split at h
  · exact ⟨_, rfl, h⟩
  · cases h
theorem two_of {k : Expr → Bool} {l : List Expr → Bool} {es : List Expr} (h : two k l es = true) : ∃ x y r, es = x :: y :: r ∧ k x = true ∧ l (y :: r) = true := by
  unfold two at h
  split at h
  · rw [Bool.and_eq_true] at h
    exact ⟨_, _, _, rfl, h.1, h.2⟩
  · cases h
theorem bop_of {o : BoolOp} {l : List Expr → Bool} {e : Expr} (h : bop o l e = true) : ∃ es p, e = .BoolOp o es p ∧ l es = true := by
  unfold bop at h
  split at h
  · rw [Bool.and_eq_true] at h
    have := of_decide_eq_true h.1
    subst this
    exact ⟨_, _, rfl, h.2⟩
  · cases h
theorem uop_of {o : UnaryOp} {l : Expr → Bool} {e : Expr} (h : uop o l e = true) : ∃ x p, e = .UnaryOp o x p ∧ l x = true := by
  unfold uop at h
  split at h
  · rw [Bool.and_eq_true] at h
    have := of_decide_eq_true h.1
    subst this
    exact ⟨_, _, rfl, h.2⟩
  · cases h
theorem Snd.of {Γ : Nat → SpD} {gl : Nat → D} {C : Ex → Addr} {px : PX} {k : Ck → Expr → Bool} {m : DTE} (hk : kn px = Kn.of k) (hm : mn Γ gl px = Mn.of m) (h : ∀ (c : Ck) (X : Cx) (W : WX) (x : Expr), Ctx c Γ gl C W X → k c x = true → PE X x (up X.K C W m)) : Snd Γ gl C px where
  e := fun c X W x K q => by rw [hk] at q; rw [hm]; exact h c X W x K q
  t := fun c X W x K q => by
    rw [hk] at q; rw [hm]
    have q' : (k c x && tstOk x) = true := q
    rw [Bool.and_eq_true] at q'
    exact t_val (h c X W x K q'.1) (tst_of q'.2)
  w := fun c X W op es pos K q => by
    rw [hk] at q; rw [hm]
    obtain ⟨e, rfl, q'⟩ := one_of (show one (fun e => k c e && tstOk e) es = true from q)
    rw [Bool.and_eq_true] at q'
    have z := t_val (h c X W _ K q'.1) (tst_of q'.2)
    cases op
    · exact t_and1 z
    · exact t_or1 z
  ve := fun c X W op es pos K q => by
    rw [hk] at q; rw [hm]
    obtain ⟨e, rfl, q'⟩ := one_of (show one (k c) es = true from q)
    exact v_one (h c X W _ K q')
  a := fun c X W es K q => by rw [hk] at q; cases q
  i := fun c X W tg x K q => by rw [hk] at q; cases q
  o := fun c X W x K q => by
    rw [hk] at q; rw [hm]
    obtain ⟨e, rfl, q'⟩ := opt_of (show opt (k c) x = true from q)
    exact d_part (h c X W _ K q')
theorem Ctx.blk {Γ : Nat → SpD} {gl : Nat → D} {C : Ex → Addr} {c : Ck} {X : Cx} {W : WX} (K : Ctx c Γ gl C W X) (scope : Scope) (s : Shared) (H : Hp) (A : Addr) (cl : List (Str × Addr)) (fp : List Addr) :
    Ctx (c.blk scope) Γ gl C W0 (X.blk s H scope (compEnvC scope cl A X.env) fp) where
  N := K.N
  nd := K.nd
  sc := by
    show relS scope X.env.scope = relS scope c.sc
    rw [K.sc]
  calm := K.calm
  stk := ⟨K.stk.seer, K.stk.tree, K.stk.room, K.stk.stk⟩
  hfn := fun x h => h
  fns := fun i x h => by
    obtain ⟨ps, f, fd, k, h1, h2, h3, h4, h5⟩ := K.fns i x h
    exact ⟨ps, f, fd, k, h1, h2, h3, h4, h5⟩
  lam := fun x h => by cases h
  gls := K.gls
  free := K.free
  exn := K.exn
  tk := takes0N
section
variable {X : Cx}
def tLenSetT (K : PySem.W.Frag) (ta : TE) : TE := fun σ H Q => ta σ H fun x H1 => ∃ (l : Addr) (ks : List (Addr × List Int)), x = V.ref l ∧ SqL K H1 l (ks.map fun p => V.ref p.1) ∧ (∀ p ∈ ks, SqT K H1 p.1 (p.2.map V.int)) ∧ ks.length < 64 ∧
  ∀ L : List (List Int), L.Nodup → (∀ k ∈ L, k ∈ ks.map (·.2)) → (∀ k ∈ ks.map (·.2), k ∈ L) → Q (.int (L.length : Nat)) H1
theorem pe_lenSetT {a : Expr} {ta : TE} {p p2 q pos : Pos} (hc : X.calm = true) (hu : X.A.units + 64 < cLine) (hg : Gl X "len") (hm : X.mg "len" = none) (hg2 : Gl X "set") (hm2 : X.mg "set" = none) (ha : PE X a ta)
    (na : starEach [a] X.env = (false, eval a X.env) :: starEach [] X.env) : PE X (.Call (.Name "len" p) [.Call (.Name "set" p2) [a] [] q] [] pos) (tLenSetT X.K ta) := by
  refine ⟨fun pins s σ H Q I h => ?_⟩
  refine Call_ (ld_blt I hg hm PySem.boot_len ?_)
  refine PyProof.Rows.callWith_builtin1 (PyProof.Rows.args_cons ?_ rfl) rfl rfl
  refine Call_ (ld_blt I hg2 hm2 PyProof.Rows.boot_set ?_)
  refine PyProof.Rows.callWith_type1 (PyProof.Rows.args_cons (thn (ha.run pins s σ H _ I h) fun v s1 ⟨x, H1, I1, r1, q1⟩ => PyProof.Rows.args_nil ?_) na) na rfl
  obtain ⟨l, ks, rfl, hq, hk, hf, q1⟩ := q1
  cases r1
  obtain ⟨its, rv, pl, hz⟩ := I1.list hq
  refine call_set_tups (P := X.prog) (w := X.w) ks (I1.ok.hd hc) pl.isList (by simpa using refs_of_vals rv) (fun p hp => I1.isT (hk p hp)) hf (by omega) fun h' tk L es ep t R g k => ?_
  refine PyProof.Rows.args_nil ?_
  obtain ⟨o, ho, hex, hd⟩ := R.ob
  have I2 : Inv X pins σ H1 { s1 with heap := h', toks := tk } := I1.kept k
  have hs := SetTR.size (s := { s1 with heap := h', toks := tk }) R
  have hfew := R.few
  refine call_len_set ho hex hd (SetTR.fits (s := { s1 with heap := h', toks := tk }) R) (by rw [hs]; omega) ⟨.int (L.length : Nat), H1, I2.tok _, ⟨_, by rw [hs]⟩, ?_⟩
  have hl := q1 (L.map (·.2)) R.nd (fun k hk => ?_) fun k hk => ?_
  · rw [List.length_map] at hl
    exact hl
  · obtain ⟨p, hp, rfl⟩ := List.mem_map.mp hk
    exact List.mem_map.mpr ⟨p, List.mem_of_mem_take (g.sub p hp), rfl⟩
  · obtain ⟨p, hp, rfl⟩ := List.mem_map.mp hk
    exact g.all p (by rw [List.take_length]; exact hp)
end
section
variable {X : Cx} {C : Ex → Addr} {W : WX}
theorem rep_ints {K : PySem.W.Frag} {H : Hp} : ∀ {k : List Int} {vs : List V}, RepL K H (k.map D.int) vs → vs = k.map V.int
  | [], vs, h => h
  | i :: k, vs, h => by
    obtain ⟨v, r, rfl, hv, hr⟩ := h
    have hv : v = .int i := hv
    rw [hv, rep_ints hr]; rfl
theorem rep_tups {K : PySem.W.Frag} {H : Hp} : ∀ {kss : List (List Int)} {vs : List V}, RepL K H (kss.map fun k => D.tup (k.map D.int)) vs → ∃ ks : List (Addr × List Int), vs = ks.map (fun p => V.ref p.1) ∧ (∀ p ∈ ks, SqT K H p.1 (p.2.map V.int)) ∧ ks.map (·.2) = kss
  | [], vs, h => ⟨[], h, fun p hp => (by cases hp), rfl⟩
  | k :: kss, vs, h => by
    obtain ⟨v, r, rfl, hv, hr⟩ := h
    obtain ⟨a, ws, rfl, ht, hl⟩ := hv
    obtain ⟨ks, rfl, h1, h2⟩ := rep_tups hr
    have e := rep_ints hl
    subst e
    refine ⟨(a, k) :: ks, rfl, fun p hp => ?_, by rw [List.map_cons, h2]⟩
    rcases List.mem_cons.mp hp with rfl | hp
    · exact ht.sq
    · exact h1 p hp
theorem d_lset {a : Expr} {ta : DTE} {p p2 q pos : Pos} (hc : X.calm = true) (hu : X.A.units + 64 < cLine) (hg : Gl X "len") (hm : X.mg "len" = none) (hg2 : Gl X "set") (hm2 : X.mg "set" = none) (ha : PE X a (up X.K C W ta))
    (na : starEach [a] X.env = (false, eval a X.env) :: starEach [] X.env) : PE X (.Call (.Name "len" p) [.Call (.Name "set" p2) [a] [] q] [] pos) (up X.K C W (dLset ta)) := by
  refine pe_imp (pe_lenSetT hc hu hg hm hg2 hm2 ha na) fun σ H Q ⟨env, g, Xd, Qd, re, rg, t, cl, cx⟩ => ?_
  refine ⟨env, g, Xd, _, re, rg, t, fun d g1 v H1 q k r rv => ?_, cx⟩
  cases d with
  | ref b =>
    obtain ⟨hc0, hv⟩ := rv
    subst hv
    cases e : g1 b with
    | none => simp only [e] at q
    | some xs =>
      simp only [e] at q
      obtain ⟨hl, kss, rfl, q⟩ := q
      obtain ⟨vs, hvs, rl⟩ := r.lst hc0 e
      obtain ⟨ks, rfl, h1, rfl⟩ := rep_tups rl
      refine ⟨_, ks, rfl, .inl (.inl hvs), h1, by simpa using hl, fun L n1 n2 n3 => ?_⟩
      exact cl _ _ _ _ (q L n1 n2 n3) k r rfl
  | _ => exact q.elim
end
section
variable {X : Cx} {C : Ex → Addr} {W : WX}
theorem d_srev {e : Expr} {ta : DTE} {k : Nat} {p1 p2 p3 pos : Pos} (ha : PE X e (up X.K C W ta)) : PE X (.Subscript e (.Slice none none (some (.UnaryOp .USub (.Constant (.int 1) k p1) p2)) p3) pos) (up X.K C W (dSrev ta)) := by
  refine pe_imp (pe_rev ha) fun σ H Q ⟨env, g, Xd, Qd, re, rg, t, cl, cx⟩ => ?_
  refine ⟨env, g, Xd, _, re, rg, t, fun d g1 v H1 q k r rv => ?_, cx⟩
  cases d with
  | ref b =>
    obtain ⟨hc0, hv⟩ := rv
    subst hv
    cases e : g1 b with
    | none => simp only [e] at q
    | some xs =>
      simp only [e] at q
      obtain ⟨vs, hvs, rl⟩ := r.lst hc0 e
      refine ⟨_, vs, rfl, .inl ⟨.inl (.inl hvs), fun p hp => ?_⟩⟩
      exact cl _ _ _ _ (q _ (r.none hp)) (k.trans (.new hp)) (r.new hp rl.rev) rep_ref
  | tup xs =>
    obtain ⟨b, vs, hv, t, rl⟩ := rv
    subst hv
    have q : Qd (.tup xs.reverse) g1 := q
    refine ⟨b, vs, rfl, .inr ⟨t.sq, fun p hp => ?_⟩⟩
    exact cl _ _ _ _ q (k.trans (.new hp)) (r.tup hp) ⟨p, vs.reverse, rfl, .inl upd_same, (rl.keep (.new hp)).rev⟩
  | _ => exact q.elim
end
end PP
namespace PP
open PySem PySem.Spec PyProof.Rows L2
section
variable {Γ : Nat → SpD} {gl : Nat → D} {C : Ex → Addr}
theorem nope {p : Prop} (h : false = true) : p := nomatch h
theorem c_bl {c : Ck} {X : Cx} {W : WX} (K : Ctx c Γ gl C W X) {b : Bl} {x : Str} {e : Expr} {es : List Expr} {p pos : Pos} {tA : DTA} (hx : x = Str.ofString b.nm) (hg : Gl X x) (ha : PA X (e :: es) (upA X.K C W tA)) (hdb : (x == ("__debug__" : Str)) = false)
    (he : starEach (e :: es) X.env = (false, eval e X.env) :: starEach es X.env) (hpl : (backTo pos (starEach es X.env)).any (·.1) = false) : PE X (.Call (.Name x p) (e :: es) [] pos) (up X.K C W (dCB b.rd tA)) := by
  subst hx
  have F := fun (s : String) (h : s ∈ bltNames) => K.free1 h
  cases b
  · exact d_callB c_len hg (F _ (by decide)) (by decide +kernel) ha (by decide) hdb he hpl
  · exact d_callB c_abs hg (F _ (by decide)) (by decide +kernel) ha (by decide) hdb he hpl
  · exact d_callB (c_max K.calm) hg (F _ (by decide)) (by decide +kernel) ha (by decide) hdb he hpl
  · exact d_callB (c_min K.calm) hg (F _ (by decide)) (by decide +kernel) ha (by decide) hdb he hpl
  · exact d_callTy c_int hg (F _ (by decide)) (by decide +kernel) ha (by decide) hdb he hpl
  · exact d_callTy c_str hg (F _ (by decide)) (by decide +kernel) ha (by decide) hdb he hpl
  · exact d_callB (c_sum K.calm) hg (F _ (by decide)) (by decide +kernel) ha (by decide) hdb he hpl
  · exact d_callB (c_all K.calm) hg (F _ (by decide)) (by decide +kernel) ha (by decide) hdb he hpl
  · exact d_callTy (c_list K.calm) hg (F _ (by decide)) (by decide +kernel) ha (by decide) hdb he hpl
  · exact d_callTy c_tuple hg (F _ (by decide)) (by decide +kernel) ha (by decide) hdb he hpl
theorem bm_few {e : Expr} {es : List Expr} {env : PySem.Env} {cpos : Pos} (h1 : noStar e = true) (h : es.all noStar = true) (hl : (e :: es).length < 29) :
    ((backTo cpos (starEach (e :: es) env)).all (fun x => !x.1) && (backToKw cpos (keywordEach [] env)).all (fun x => x.1.isSome)
      && decide ((e :: es).length + ([] : List Keyword).length + (if ([] : List Keyword).isEmpty then 0 else 1) < 30)) = true := by
  have k : (backTo cpos (starEach (e :: es) env)).any (·.1) = false := plain_star (es := e :: es) (by simp [h1, h])
  have k2 : (backTo cpos (starEach (e :: es) env)).all (fun x => !x.1) = true := by
    rw [List.all_eq_true]
    intro x hx
    rw [List.any_eq_false] at k
    simpa using k x hx
  rw [k2]
  have : (backToKw cpos (keywordEach [] env)).all (fun x => x.1.isSome) = true := rfl
  rw [this]
  simp only [Bool.true_and, List.length_nil, Nat.add_zero, List.isEmpty_nil, if_true, decide_eq_true_eq]
  omega
theorem m_of {c : Ck} {X : Cx} {W : WX} (K : Ctx c Γ gl C W X) {m : Mt} {x e : Expr} {es : List Expr} {n : Str} {ap cp : Pos} {to : DTE} {tA : DTA} (hm : m.none = false) (hn : n = Str.ofString m.nm) (hr : recOk x = true) (hl : (ap.endLine == cp.line) = true) (h1 : noStar e = true) (h2 : es.all noStar = true) (h3 : (e :: es).length < 29)
    (ho : PE X x (up X.K C W to)) (ha : PA X (e :: es) (upA X.K C W tA)) : PE X (.Call (.Attribute x n ap) (e :: es) [] cp) (up X.K C W (dMt m.rc m.rd to tA)) := by
  subst hn
  have B := @bm_few e es X.env cp h1 h2 h3
  have S := @star_of e es X.env h1
  have P := @plain_star es X.env cp h2
  cases m
  · exact d_bm (T := .list) F.plainAttrs_list F.slot_list_append F.type_list_append m_append ho ha (rec_of hr) B hl S P
  · cases hm
  · exact d_bm (T := .list) F.plainAttrs_list F.slot_list_pop F.type_list_pop m_popAt ho ha (rec_of hr) B hl S P
  · exact d_bm (T := .list) F.plainAttrs_list F.slot_list_extend F.type_list_extend m_extend ho ha (rec_of hr) B hl S P
  · cases hm
  · cases hm
  · exact d_bm (T := .list) F.plainAttrs_list F.slot_list_insert F.type_list_insert m_insert ho ha (rec_of hr) B hl S P
  · exact d_bm (T := .list) F.plainAttrs_list F.slot_list_index F.type_list_index (m_index K.hu) ho ha (rec_of hr) B hl S P
  · exact d_bm (T := .str) F.plainAttrs_str F.slot_str_split F.type_str_split m_split ho ha (rec_of hr) B hl S P
  · exact d_bm (T := .str) F.plainAttrs_str F.slot_str_join F.type_str_join m_join ho ha (rec_of hr) B hl S P
theorem m_of0 {X : Cx} {W : WX} {m : Mt} {x : Expr} {n : Str} {ap cp : Pos} {to : DTE} (hm : m.none = true) (hn : n = Str.ofString m.nm) (hr : recOk x = true) (hl : (ap.endLine == cp.line) = true)
    (ho : PE X x (up X.K C W to)) : PE X (.Call (.Attribute x n ap) [] [] cp) (up X.K C W (dMt m.rc m.rd to dNil)) := by
  subst hn
  cases m
  · cases hm
  · exact d_bm0 (T := .list) F.plainAttrs_list F.slot_list_pop F.type_list_pop m_pop ho (rec_of hr) hl
  · cases hm
  · cases hm
  · exact d_bm0 (T := .list) F.plainAttrs_list F.slot_list_clear F.type_list_clear m_clear ho (rec_of hr) hl
  · exact d_bm0 (T := .list) F.plainAttrs_list F.slot_list_reverse F.type_list_reverse m_reverse ho (rec_of hr) hl
  · cases hm
  · cases hm
  · cases hm
  · cases hm
theorem ty_mem (t : Ty) : t.nm ∈ bltNames := by cases t <;> decide
theorem ty_boot (t : Ty) : bootBuiltins (Str.ofString t.nm) = some (.type t.nm) := by cases t <;> decide +kernel
theorem ty_ne (t : Ty) : Str.ofString t.nm ≠ "__name__" := by cases t <;> decide
theorem tys_of {c : Ck} {X : Cx} {W : WX} (K : Ctx c Γ gl C W X) : ∀ {ts : List Ty} {es : List Expr}, tyNames ts es = true → (ts.all fun t => c.gl (Str.ofString t.nm)) = true → PA X es (tTys ts)
  | [], [], _, _ => pa_nil
  | t :: ts, .Name x p :: es, h, k => by
    have h : (decide (x = Str.ofString t.nm) && tyNames ts es) = true := h
    simp only [Bool.and_eq_true, decide_eq_true_eq] at h
    simp only [List.all_cons, Bool.and_eq_true] at k
    obtain ⟨g1, g2⟩ := K.glb k.1
    have e := h.1
    subst e
    exact pa_cons (pe_bltn (v := .ty t.nm) g1 (K.free1 (ty_mem t)) (ty_boot t) rfl (ty_ne t) g2) (tys_of K h.2 k.2) rfl
  | t :: ts, [], h, _ => by cases h
  | [], _ :: _, h, _ => by cases h
  | t :: ts, .BoolOp .. :: es, h, _ => by cases h
  | t :: ts, .NamedExpr .. :: es, h, _ => by cases h
  | t :: ts, .BinOp .. :: es, h, _ => by cases h
  | t :: ts, .UnaryOp .. :: es, h, _ => by cases h
  | t :: ts, .Lambda .. :: es, h, _ => by cases h
  | t :: ts, .IfExp .. :: es, h, _ => by cases h
  | t :: ts, .Dict .. :: es, h, _ => by cases h
  | t :: ts, .Set .. :: es, h, _ => by cases h
  | t :: ts, .ListComp .. :: es, h, _ => by cases h
  | t :: ts, .SetComp .. :: es, h, _ => by cases h
  | t :: ts, .DictComp .. :: es, h, _ => by cases h
  | t :: ts, .GeneratorExp .. :: es, h, _ => by cases h
  | t :: ts, .Await .. :: es, h, _ => by cases h
  | t :: ts, .Yield .. :: es, h, _ => by cases h
  | t :: ts, .YieldFrom .. :: es, h, _ => by cases h
  | t :: ts, .Compare .. :: es, h, _ => by cases h
  | t :: ts, .Call .. :: es, h, _ => by cases h
  | t :: ts, .FormattedValue .. :: es, h, _ => by cases h
  | t :: ts, .JoinedStr .. :: es, h, _ => by cases h
  | t :: ts, .Constant .. :: es, h, _ => by cases h
  | t :: ts, .Attribute .. :: es, h, _ => by cases h
  | t :: ts, .Subscript .. :: es, h, _ => by cases h
  | t :: ts, .Starred .. :: es, h, _ => by cases h
  | t :: ts, .List .. :: es, h, _ => by cases h
  | t :: ts, .Tuple .. :: es, h, _ => by cases h
  | t :: ts, .Slice .. :: es, h, _ => by cases h
theorem x_pe {c : Ck} {X : Cx} {W : WX} (K : Ctx c Γ gl C W X) {t : Option Ex} {x : Str} {p : Pos} (h1 : x = Str.ofString (xnm t)) (h2 : c.gl x = true) (h3 : xOk c t = true) : PE X (.Name x p) (tC (vX C t)) ∧ ∀ m, t = some m → ExNs X.K m (C m) := by
  obtain ⟨g1, g2⟩ := K.glb h2
  cases t with
  | none =>
    subst h1
    exact ⟨pe_bltn (v := .ty "ValueError") g1 (K.free1 (x := "ValueError") (by decide)) (by decide +kernel) rfl (by decide) g2, fun m e => by cases e⟩
  | some m =>
    subst h1
    have hm : m ∈ c.exs := by simpa [xOk] using h3
    exact ⟨pe_glob g1 (K.exn m hm).mg rfl g2, fun k e => by cases e; exact (K.exn m hm).ns⟩
theorem xs_pe {c : Ck} {X : Cx} {W : WX} (K : Ctx c Γ gl C W X) : ∀ {ts : List (Option Ex)} {es : List Expr}, xNames c ts es = true → PA X es (tXs C ts) ∧ ∀ t ∈ ts, ∀ m, t = some m → ExNs X.K m (C m) := by
  intro ts
  induction ts with
  | nil =>
    intro es h
    cases es with
    | nil => exact ⟨pa_nil, fun t z => by cases z⟩
    | cons e es => cases h
  | cons t ts ih =>
    intro es h
    cases es with
    | nil => cases h
    | cons e es =>
      unfold xNames at h
      split at h
      · rename_i z _; cases z
      · rename_i z1 z2
        cases z1; cases z2
        simp only [Bool.and_eq_true, decide_eq_true_eq] at h
        obtain ⟨⟨⟨h1, h2⟩, h3⟩, h4⟩ := h
        obtain ⟨a1, a2⟩ := x_pe K (p := _) h1 h2 h3
        obtain ⟨b1, b2⟩ := ih h4
        exact ⟨pa_cons a1 b1 rfl, fun u hu => by
          rcases List.mem_cons.mp hu with rfl | hu
          · exact a2
          · exact b2 u hu⟩
      · cases h
theorem sound (px : PX) : Snd Γ gl C px := by
  induction px with
  | v i =>
    refine .of rfl rfl fun c X W x K q => ?_
    split at q
    · simp only [Bool.and_eq_true, decide_eq_true_eq] at q
      obtain ⟨h1, h2⟩ := q
      unfold Ck.vis at h1
      simp only [Bool.and_eq_true] at h1
      refine d_var (by rw [K.N]; exact h2) ?_ (by simpa using h1.1.2) (by simpa using h1.2)
      unfold Vis
      rw [K.sc]
      have h3 := h1.1.1
      split at h3
      · exact .inl (by assumption)
      · exact .inr (.inl (by assumption))
      · exact .inr (.inr (by assumption))
      · cases h3
    · cases q
  | int i =>
    refine .of rfl rfl fun c X W x K q => ?_
    split at q
    · have := of_decide_eq_true q; subst this; exact d_const pe_int fun _ => rfl
    · cases q
  | bl b =>
    refine .of rfl rfl fun c X W x K q => ?_
    split at q
    · have := of_decide_eq_true q; subst this; exact d_const pe_bl fun _ => rfl
    · cases q
  | non =>
    refine .of rfl rfl fun c X W x K q => ?_
    split at q
    · exact d_const pe_non fun _ => rfl
    · cases q
  | str s =>
    refine .of rfl rfl fun c X W x K q => ?_
    split at q
    · have := of_decide_eq_true q; subst this; exact d_const pe_str fun _ => rfl
    · cases q
  | glo k =>
    refine .of rfl rfl fun c X W x K q => ?_
    split at q
    · simp only [Bool.and_eq_true, decide_eq_true_eq] at q
      obtain ⟨u, v, h1, h2, h3⟩ := K.gls k _ (by simpa using q.2)
      obtain ⟨g1, g2⟩ := K.glb q.1
      exact d_const (pe_glob g1 h1 h2 g2) h3
    · cases q
  | bin o a b iha ihb =>
    refine .of rfl rfl fun c X W x K q => ?_
    split at q
    · simp only [Bool.and_eq_true, decide_eq_true_eq] at q
      have e := q.1.1
      subst e
      exact d_op (f := binaryOp o.py) (o_bin K o) (iha.e c X W _ K q.1.2) (ihb.e c X W _ K q.2)
    · cases q
  | cmp o a b iha ihb =>
    have H : ∀ (c : Ck) (X : Cx) (W : WX) (x : Expr), Ctx c Γ gl C W X → (kn (.cmp o a b)).e c x = true → ∃ y z p, x = .Compare y [o.py] [z] p ∧ behindInMarks o.py z = false ∧ PE X y (up X.K C W (mn Γ gl a).e) ∧ PE X z (up X.K C W (mn Γ gl b).e) := fun c X W x K q => by
      have q : cmpK o ((kn a).e c) ((kn b).e c) x = true := q
      unfold cmpK at q
      split at q
      · simp only [Bool.and_eq_true, decide_eq_true_eq, Bool.not_eq_true'] at q
        have e := q.1.1.1
        subst e
        exact ⟨_, _, _, rfl, q.1.1.2, iha.e c X W _ K q.1.2, ihb.e c X W _ K q.2⟩
      · cases q
    have T : ∀ (c : Ck) (X : Cx) (W : WX) (x : Expr), Ctx c Γ gl C W X → (kn (.cmp o a b)).e c x = true → PT X x (upT X.K C W (dTst (dBin o.rd (mn Γ gl a).e (mn Γ gl b).e))) := fun c X W x K q => by
      obtain ⟨y, z, p, rfl, h1, h2, h3⟩ := H c X W x K q
      exact t_cmp (o_cm K o) h2 h3 h1
    have E : ∀ (c : Ck) (X : Cx) (W : WX) (x : Expr), Ctx c Γ gl C W X → (kn (.cmp o a b)).e c x = true → PE X x (up X.K C W (dBin o.rd (mn Γ gl a).e (mn Γ gl b).e)) := fun c X W x K q => by
      obtain ⟨y, z, p, rfl, h1, h2, h3⟩ := H c X W x K q
      exact d_cmp (o_cm K o) h2 h3 h1
    exact ⟨E, T, fun c X W op es pos K q => by
        obtain ⟨e, rfl, q'⟩ := one_of (show one ((kn (.cmp o a b)).e c) es = true from q)
        have z := T c X W _ K q'
        cases op
        · exact t_and1 z
        · exact t_or1 z,
      fun c X W op es pos K q => by
        obtain ⟨e, rfl, q'⟩ := one_of (show one ((kn (.cmp o a b)).e c) es = true from q)
        exact v_one (E c X W _ K q'),
      fun c X W es K q => nope q, fun c X W tg x K q => nope q,
      fun c X W x K q => by
        obtain ⟨e, rfl, q'⟩ := opt_of (show opt ((kn (.cmp o a b)).e c) x = true from q)
        exact d_part (E c X W _ K q')⟩
  | chain o p a b d iha ihb ihd =>
    have H : ∀ (c : Ck) (X : Cx) (W : WX) (x : Expr), Ctx c Γ gl C W X → chainK o p ((kn a).e c) ((kn b).e c) ((kn d).e c) x = true → ∃ y z u q, x = .Compare y [o.py, p.py] [z, u] q ∧ lastMarks [o.py, p.py] [z, u] = false ∧ PE X y (up X.K C W (mn Γ gl a).e) ∧ PE X z (up X.K C W (mn Γ gl b).e) ∧ PE X u (up X.K C W (mn Γ gl d).e) := fun c X W x K q => by
      unfold chainK at q
      split at q
      · simp only [Bool.and_eq_true, decide_eq_true_eq, Bool.not_eq_true'] at q
        have e := q.1.1.1.1.1
        have e2 := q.1.1.1.1.2
        subst e e2
        exact ⟨_, _, _, _, rfl, q.1.1.1.2, iha.e c X W _ K q.1.1.2, ihb.e c X W _ K q.1.2, ihd.e c X W _ K q.2⟩
      · cases q
    have T : ∀ (c : Ck) (X : Cx) (W : WX) (x : Expr), Ctx c Γ gl C W X → chainK o p ((kn a).e c) ((kn b).e c) ((kn d).e c) x = true → PT X x (upT X.K C W (dTst (dChain o.rd p.rd (mn Γ gl a).e (mn Γ gl b).e (mn Γ gl d).e))) := fun c X W x K q => by
      obtain ⟨y, z, u, q, rfl, h1, h2, h3, h4⟩ := H c X W x K q
      exact t_chain (o_cm K o) (o_cm K p) h2 h3 h4 h1
    have E : ∀ (c : Ck) (X : Cx) (W : WX) (x : Expr), Ctx c Γ gl C W X → chainK o p ((kn a).e c) ((kn b).e c) ((kn d).e c) x = true → PE X x (up X.K C W (dChain o.rd p.rd (mn Γ gl a).e (mn Γ gl b).e (mn Γ gl d).e)) := fun c X W x K q => by
      obtain ⟨y, z, u, q, rfl, h1, h2, h3, h4⟩ := H c X W x K q
      exact v_chain (o_cm K o) (o_cm K p) h2 h3 h4 h1
    exact ⟨E, T, fun c X W op es pos K q => by
        obtain ⟨e, rfl, q'⟩ := one_of (show one (chainK o p ((kn a).e c) ((kn b).e c) ((kn d).e c)) es = true from q)
        have z := T c X W _ K q'
        cases op
        · exact t_and1 z
        · exact t_or1 z,
      fun c X W op es pos K q => by
        obtain ⟨e, rfl, q'⟩ := one_of (show one (chainK o p ((kn a).e c) ((kn b).e c) ((kn d).e c)) es = true from q)
        exact v_one (E c X W _ K q'),
      fun c X W es K q => nope q, fun c X W tg x K q => nope q,
      fun c X W x K q => by
        obtain ⟨e, rfl, q'⟩ := opt_of (show opt (chainK o p ((kn a).e c) ((kn b).e c) ((kn d).e c)) x = true from q)
        exact d_part (E c X W _ K q')⟩
  | not a iha =>
    have E : ∀ (c : Ck) (X : Cx) (W : WX) (x : Expr), Ctx c Γ gl C W X → uop .Not ((kn a).e c) x = true → PE X x (up X.K C W (dNot (mn Γ gl a).e)) := fun c X W x K q => by
      obtain ⟨y, p, rfl, q'⟩ := uop_of q
      exact v_not (iha.e c X W _ K q')
    have T : ∀ (c : Ck) (X : Cx) (W : WX) (x : Expr), Ctx c Γ gl C W X → uop .Not ((kn a).t c) x = true → PT X x (upT X.K C W (dNotT (mn Γ gl a).t)) := fun c X W x K q => by
      obtain ⟨y, p, rfl, q'⟩ := uop_of q
      exact t_not (iha.t c X W _ K q')
    exact ⟨E, T, fun c X W op es pos K q => by
        obtain ⟨e, rfl, q'⟩ := one_of (show one (uop .Not ((kn a).t c)) es = true from q)
        have z := T c X W _ K q'
        cases op
        · exact t_and1 z
        · exact t_or1 z,
      fun c X W op es pos K q => by
        obtain ⟨e, rfl, q'⟩ := one_of (show one (uop .Not ((kn a).e c)) es = true from q)
        exact v_one (E c X W _ K q'),
      fun c X W es K q => nope q, fun c X W tg x K q => nope q,
      fun c X W x K q => by
        obtain ⟨e, rfl, q'⟩ := opt_of (show opt (uop .Not ((kn a).e c)) x = true from q)
        exact d_part (E c X W _ K q')⟩
  | neg a iha =>
    refine .of (k := fun c => uop .USub ((kn a).e c)) rfl rfl fun c X W x K q => ?_
    obtain ⟨y, p, rfl, q'⟩ := uop_of q
    exact v_neg (iha.e c X W _ K q')
  | and a b iha ihb =>
    have WT : ∀ (c : Ck) (X : Cx) (W : WX) (es : List Expr) (pos : Pos), Ctx c Γ gl C W X → two ((kn a).t c) ((kn b).w c .And) es = true → PW X (.BoolOp .And es pos) (upT X.K C W (dAndT (mn Γ gl a).t (mn Γ gl b).t)) := fun c X W es pos K q => by
      obtain ⟨x, y, r, rfl, h1, h2⟩ := two_of q
      exact t_and (iha.t c X W _ K h1) (ihb.w c X W .And _ pos K h2)
    have VE : ∀ (c : Ck) (X : Cx) (W : WX) (es : List Expr) (pos : Pos), Ctx c Γ gl C W X → two ((kn a).e c) ((kn b).ve c .And) es = true → PE X (.BoolOp .And es pos) (up X.K C W (dAnd (mn Γ gl a).e (mn Γ gl b).e)) := fun c X W es pos K q => by
      obtain ⟨x, y, r, rfl, h1, h2⟩ := two_of q
      exact v_and (iha.e c X W _ K h1) (ihb.ve c X W .And _ pos K h2)
    have E : ∀ (c : Ck) (X : Cx) (W : WX) (x : Expr), Ctx c Γ gl C W X → bop .And (two ((kn a).e c) ((kn b).ve c .And)) x = true → PE X x (up X.K C W (dAnd (mn Γ gl a).e (mn Γ gl b).e)) := fun c X W x K q => by
      obtain ⟨es, p, rfl, h⟩ := bop_of q
      exact VE c X W es p K h
    have T : ∀ (c : Ck) (X : Cx) (W : WX) (x : Expr), Ctx c Γ gl C W X → bop .And (two ((kn a).t c) ((kn b).w c .And)) x = true → PT X x (upT X.K C W (dAndT (mn Γ gl a).t (mn Γ gl b).t)) := fun c X W x K q => by
      obtain ⟨es, p, rfl, h⟩ := bop_of q
      exact (WT c X W es p K h).pt
    exact ⟨E, T, fun c X W op es pos K q => by
        have q : (one (bop .And (two ((kn a).t c) ((kn b).w c .And))) es || (decide (op = .And) && two ((kn a).t c) ((kn b).w c .And) es)) = true := q
        rw [Bool.or_eq_true] at q
        rcases q with q | q
        · obtain ⟨e, rfl, q'⟩ := one_of q
          have z := T c X W _ K q'
          cases op
          · exact t_and1 z
          · exact t_or1 z
        · rw [Bool.and_eq_true] at q
          have e := of_decide_eq_true q.1
          subst e
          exact WT c X W es pos K q.2,
      fun c X W op es pos K q => by
        have q : (one (bop .And (two ((kn a).e c) ((kn b).ve c .And))) es || (decide (op = .And) && two ((kn a).e c) ((kn b).ve c .And) es)) = true := q
        rw [Bool.or_eq_true] at q
        rcases q with q | q
        · obtain ⟨e, rfl, q'⟩ := one_of q
          exact v_one (E c X W _ K q')
        · rw [Bool.and_eq_true] at q
          have e := of_decide_eq_true q.1
          subst e
          exact VE c X W es pos K q.2,
      fun c X W es K q => nope q, fun c X W tg x K q => nope q,
      fun c X W x K q => by
        obtain ⟨e, rfl, q'⟩ := opt_of (show opt (bop .And (two ((kn a).e c) ((kn b).ve c .And))) x = true from q)
        exact d_part (E c X W _ K q')⟩
  | or a b iha ihb =>
    have WT : ∀ (c : Ck) (X : Cx) (W : WX) (es : List Expr) (pos : Pos), Ctx c Γ gl C W X → two ((kn a).t c) ((kn b).w c .Or) es = true → PW X (.BoolOp .Or es pos) (upT X.K C W (dOrT (mn Γ gl a).t (mn Γ gl b).t)) := fun c X W es pos K q => by
      obtain ⟨x, y, r, rfl, h1, h2⟩ := two_of q
      exact t_or (iha.t c X W _ K h1) (ihb.w c X W .Or _ pos K h2)
    have VE : ∀ (c : Ck) (X : Cx) (W : WX) (es : List Expr) (pos : Pos), Ctx c Γ gl C W X → two ((kn a).e c) ((kn b).ve c .Or) es = true → PE X (.BoolOp .Or es pos) (up X.K C W (dOr (mn Γ gl a).e (mn Γ gl b).e)) := fun c X W es pos K q => by
      obtain ⟨x, y, r, rfl, h1, h2⟩ := two_of q
      exact v_or (iha.e c X W _ K h1) (ihb.ve c X W .Or _ pos K h2)
    have E : ∀ (c : Ck) (X : Cx) (W : WX) (x : Expr), Ctx c Γ gl C W X → bop .Or (two ((kn a).e c) ((kn b).ve c .Or)) x = true → PE X x (up X.K C W (dOr (mn Γ gl a).e (mn Γ gl b).e)) := fun c X W x K q => by
      obtain ⟨es, p, rfl, h⟩ := bop_of q
      exact VE c X W es p K h
    have T : ∀ (c : Ck) (X : Cx) (W : WX) (x : Expr), Ctx c Γ gl C W X → bop .Or (two ((kn a).t c) ((kn b).w c .Or)) x = true → PT X x (upT X.K C W (dOrT (mn Γ gl a).t (mn Γ gl b).t)) := fun c X W x K q => by
      obtain ⟨es, p, rfl, h⟩ := bop_of q
      exact (WT c X W es p K h).pt
    exact ⟨E, T, fun c X W op es pos K q => by
        have q : (one (bop .Or (two ((kn a).t c) ((kn b).w c .Or))) es || (decide (op = .Or) && two ((kn a).t c) ((kn b).w c .Or) es)) = true := q
        rw [Bool.or_eq_true] at q
        rcases q with q | q
        · obtain ⟨e, rfl, q'⟩ := one_of q
          have z := T c X W _ K q'
          cases op
          · exact t_and1 z
          · exact t_or1 z
        · rw [Bool.and_eq_true] at q
          have e := of_decide_eq_true q.1
          subst e
          exact WT c X W es pos K q.2,
      fun c X W op es pos K q => by
        have q : (one (bop .Or (two ((kn a).e c) ((kn b).ve c .Or))) es || (decide (op = .Or) && two ((kn a).e c) ((kn b).ve c .Or) es)) = true := q
        rw [Bool.or_eq_true] at q
        rcases q with q | q
        · obtain ⟨e, rfl, q'⟩ := one_of q
          exact v_one (E c X W _ K q')
        · rw [Bool.and_eq_true] at q
          have e := of_decide_eq_true q.1
          subst e
          exact VE c X W es pos K q.2,
      fun c X W es K q => nope q, fun c X W tg x K q => nope q,
      fun c X W x K q => by
        obtain ⟨e, rfl, q'⟩ := opt_of (show opt (bop .Or (two ((kn a).e c) ((kn b).ve c .Or))) x = true from q)
        exact d_part (E c X W _ K q')⟩
  | ix a b iha ihb =>
    refine .of rfl rfl fun c X W x K q => ?_
    split at q
    · rename_i x y p
      simp only [Bool.and_eq_true] at q
      refine d_ix (iha.e c X W _ K q.1.2) (ihb.e c X W _ K q.2) ?_
      have h := q.1.1
      intro o i
      cases y <;> first | rfl | cases h
    · cases q
  | slc a lo hi iha ihl ihh =>
    refine .of rfl rfl fun c X W x K q => ?_
    split at q
    · simp only [Bool.and_eq_true] at q
      exact d_slc (iha.e c X W _ K q.1.1) (ihl.o c X W _ K q.1.2) (ihh.o c X W _ K q.2)
    · cases q
  | tup as ih =>
    refine .of rfl rfl fun c X W x K q => ?_
    split at q
    · exact d_tup (ih.a c X W _ K q)
    · cases q
  | lst as ih =>
    refine .of rfl rfl fun c X W x K q => ?_
    split at q
    · exact d_lst (ih.a c X W _ K q)
    · cases q
  | nil =>
    refine ⟨fun c X W x K q => nope q, fun c X W x K q => nope q, fun c X W op es pos K q => nope q, fun c X W op es pos K q => nope q, fun c X W es K q => ?_, fun c X W tg x K q => nope q, fun c X W x K q => nope q⟩
    cases es with
    | nil => exact d_nil
    | cons e es => cases q
  | cons a r iha ihr =>
    refine ⟨fun c X W x K q => nope q, fun c X W x K q => nope q, fun c X W op es pos K q => nope q, fun c X W op es pos K q => nope q, fun c X W es K q => ?_, fun c X W tg x K q => nope q, fun c X W x K q => nope q⟩
    cases es with
    | nil => cases q
    | cons e es =>
      have q : (noStar e && (kn a).e c e && (kn r).a c es) = true := q
      simp only [Bool.and_eq_true] at q
      exact d_cons (iha.e c X W _ K q.1.2) (ihr.a c X W _ K q.2) (star_of q.1.1)
  | call f as ih =>
    refine .of rfl rfl fun c X W x K q => ?_
    split at q
    · simp only [Bool.and_eq_true, decide_eq_true_eq] at q
      obtain ⟨ps, F⟩ := K.fns f _ q.1.1.1.2
      obtain ⟨g1, g2⟩ := K.glb q.1.1.1.1
      exact d_call F K.tk g1 (ih.a c X W _ K q.2) g2 (star_of q.1.1.2) (plain_star q.1.2)
    · simp only [Bool.and_eq_true, decide_eq_true_eq] at q
      obtain ⟨⟨q1, q2⟩, q3⟩ := q
      obtain ⟨ps, F⟩ := K.fns f _ q2
      obtain ⟨g1, g2⟩ := K.glb q1
      cases as with
      | nil => exact d_call0 F K.tk g1 g2
      | _ => cases q3
    · cases q
  | blt b as ih =>
    refine .of rfl rfl fun c X W x K q => ?_
    split at q
    · simp only [Bool.and_eq_true, decide_eq_true_eq] at q
      obtain ⟨g1, g2⟩ := K.glb q.1.1.1.1
      exact c_bl K q.1.1.1.2 g1 (ih.a c X W _ K q.2) g2 (star_of q.1.1.2) (plain_star q.1.2)
    · cases q
  | mt m o as iho iha =>
    refine .of rfl rfl fun c X W x K q => ?_
    split at q
    · simp only [Bool.and_eq_true, decide_eq_true_eq] at q
      have h := q.2
      cases as with
      | nil => exact m_of0 q.1.1.1.1.1 q.1.1.1.1.2 q.1.1.1.2 q.1.1.2 (iho.e c X W _ K q.1.2)
      | _ => cases h
    · simp only [Bool.and_eq_true, decide_eq_true_eq, Bool.not_eq_true'] at q
      exact m_of K q.1.1.1.1.1.1.1.1 q.1.1.1.1.1.1.1.2 q.1.1.1.1.1.1.2 q.1.1.1.1.1.2 q.1.1.1.1.2 q.1.1.1.2 q.1.1.2 (iho.e c X W _ K q.1.2) (iha.a c X W _ K q.2)
    · cases q
  | isi ts a ih =>
    refine .of rfl rfl fun c X W x K q => ?_
    split at q
    · simp only [Bool.and_eq_true, decide_eq_true_eq] at q
      obtain ⟨⟨⟨⟨⟨q1, q2⟩, q3⟩, q4⟩, q5⟩, q6⟩ := q
      split at q5
      · have e2 := of_decide_eq_true q5
        subst q2 e2
        obtain ⟨g1, g2⟩ := K.glb q1
        obtain ⟨g3, g4⟩ := K.glb q4
        exact d_isi1 g1 (K.free1 (x := "isinstance") (by decide)) (ih.e c X W _ K q6) g3 (K.free1 (ty_mem _)) (ty_boot _) (ty_ne _) g4 (star_of q3) rfl
      · cases q5
    · simp only [Bool.and_eq_true, decide_eq_true_eq] at q
      obtain ⟨⟨⟨⟨⟨⟨q1, q2⟩, q3⟩, q0⟩, q4⟩, q5⟩, q6⟩ := q
      subst q2
      obtain ⟨g1, g2⟩ := K.glb q1
      refine d_isiT g1 (K.free1 (x := "isinstance") (by decide)) (ih.e c X W _ K q6) (tys_of K q4 q5) ?_ (star_of q3) rfl
      exact Nat.le_trans (Nat.le_of_lt q0) (by decide +kernel)
    · cases q
  | isx ts a ih =>
    refine .of rfl rfl fun c X W x K q => ?_
    split at q
    · simp only [Bool.and_eq_true, decide_eq_true_eq] at q
      obtain ⟨⟨⟨⟨q1, q2⟩, q3⟩, q5⟩, q6⟩ := q
      split at q5
      · simp only [Bool.and_eq_true, decide_eq_true_eq] at q5
        obtain ⟨⟨e2, q7⟩, q8⟩ := q5
        subst q2
        obtain ⟨g1, g2⟩ := K.glb q1
        obtain ⟨a1, a2⟩ := x_pe K (p := _) e2 q7 q8
        exact d_isx1 g1 (K.free1 (x := "isinstance") (by decide)) (ih.e c X W _ K q6) a1 a2 (star_of q3) rfl
      · cases q5
    · simp only [Bool.and_eq_true, decide_eq_true_eq] at q
      obtain ⟨⟨⟨⟨⟨q1, q2⟩, q3⟩, q0⟩, q4⟩, q6⟩ := q
      subst q2
      obtain ⟨g1, g2⟩ := K.glb q1
      obtain ⟨a1, a2⟩ := xs_pe K q4
      refine d_isxT g1 (K.free1 (x := "isinstance") (by decide)) (ih.e c X W _ K q6) a1 a2 ?_ (star_of q3) rfl
      exact Nat.le_trans (Nat.le_of_lt q0) (by decide +kernel)
    · cases q
  | comp own tg it tst e ihi iht ihe =>
    refine .of rfl rfl fun c X W x K q => ?_
    split at q
    · rename_i elt tgE iter ifs scope pos
      simp only [Bool.and_eq_true] at q
      obtain ⟨⟨⟨⟨⟨⟨q1, q2⟩, q3⟩, q4⟩, q5⟩, q6⟩, q7⟩ := q
      have eo : (own.map fun i => (c.N.getD i "", i)).map (·.2) = own := by
        rw [List.map_map]
        exact List.map_id _
      have H := d_comp (X := X) (C := C) (W := W) (elt := elt) (tg := tgE) (iter := iter) (ifs := ifs) (scope := scope) (own := own.map fun i => (c.N.getD i "", i)) (pos := pos) (ti := (mn Γ gl it).i) (tgd := tg) (tt := (mn Γ gl tst).t) (te := (mn Γ gl e).e) K.calm K.nd (ihi.i c X W tgE iter K q5)
        (by rw [K.N, K.sc]; exact blkOk_by q1) (fun s H A cl fp => tg_of (K.blk scope s H A cl fp) q3) (fun s H A cl fp => ?_) (fun s H A cl fp => ihe.e _ _ W0 _ (K.blk scope s H A cl fp) q6) (set_of q4) ?_
      · rw [eo] at H
        exact H
      · split at q7
        · exact ⟨fun pins s σ H Q I ⟨env, g, Xd, Qd, re, rg, t, cl, cx⟩ => (pts_nil (X := X.blk _ _ scope (compEnvC scope _ _ X.env) _)).run pins s σ H Q I (cl _ _ _ t (.refl _) rg)⟩
        · cases q7
        · exact pts_one (iht.t _ _ W0 _ (K.blk scope s H A cl fp) q7)
        · cases q7
      · intro i hi
        rw [eo]
        have := List.all_eq_true.mp q2 i hi
        simpa using this
    · cases q
  | over a ih => exact ⟨fun c X W x K q => nope q, fun c X W x K q => nope q, fun c X W op es pos K q => nope q, fun c X W op es pos K q => nope q, fun c X W es K q => nope q, fun c X W tg x K q => d_iAny (ih.e c X W _ K q), fun c X W x K q => nope q⟩
  | overL a ih => exact ⟨fun c X W x K q => nope q, fun c X W x K q => nope q, fun c X W op es pos K q => nope q, fun c X W op es pos K q => nope q, fun c X W es K q => nope q, fun c X W tg x K q => d_iLst (ih.e c X W _ K q), fun c X W x K q => nope q⟩
  | dic =>
    refine .of rfl rfl fun c X W x K q => ?_
    split at q
    · exact d_dic
    · cases q
  | dnew =>
    refine .of rfl rfl fun c X W x K q => ?_
    split at q
    · exact d_dnew
    · cases q
  | vfz i =>
    refine .of rfl rfl fun c X W x K q => ?_
    split at q
    · simp only [Bool.and_eq_true, decide_eq_true_eq] at q
      obtain ⟨h1, h2⟩ := q
      unfold Ck.vis at h1
      simp only [Bool.and_eq_true] at h1
      refine d_vfz (by rw [K.N]; exact h2) ?_ (by simpa using h1.1.2) (by simpa using h1.2)
      unfold Vis
      rw [K.sc]
      have h3 := h1.1.1
      split at h3
      · exact .inl (by assumption)
      · exact .inr (.inl (by assumption))
      · exact .inr (.inr (by assumption))
      · cases h3
    · cases q
  | dic1 k i =>
    refine .of rfl rfl fun c X W x K q => ?_
    split at q
    · simp only [Bool.and_eq_true, decide_eq_true_eq] at q
      obtain ⟨rfl, h1, h2⟩ := q
      unfold Ck.vis at h1
      simp only [Bool.and_eq_true] at h1
      refine d_dic1 (by rw [K.N]; exact h2) ?_ (by simpa using h1.1.2) (by simpa using h1.2)
      unfold Vis
      rw [K.sc]
      have h3 := h1.1.1
      split at h3
      · exact .inl (by assumption)
      · exact .inr (.inl (by assumption))
      · exact .inr (.inr (by assumption))
      · cases h3
    · cases q
  | stp a b iha ihb =>
    refine .of rfl rfl fun c X W x K q => ?_
    split at q
    · rw [Bool.and_eq_true] at q
      exact d_stp (iha.e c X W _ K q.1) (ihb.e c X W _ K q.2)
    · cases q
  | lamr ns a ih =>
    refine .of rfl rfl fun c X W x K q => ?_
    split at q
    · rename_i scope _ _
      simp only [Bool.and_eq_true, decide_eq_true_eq] at q
      obtain ⟨⟨⟨⟨⟨q1, q2⟩, q3⟩, q4⟩, q5⟩, q6⟩ := q
      obtain ⟨F, M, k, hk, hr, hf⟩ := K.lam _ q1
      obtain ⟨g1, g2⟩ := K.glb q3
      have L := LamX.lamS_by (show LamX.lamSB X.env.scope scope = true by rw [K.sc]; exact q4)
      unfold noArgs at q5
      split at q5
      · refine d_lamr (fun n hn => by simpa using List.all_eq_true.mp q2 n hn) M F hk hr g1 g2 L rfl (fun _ _ _ _ _ => rfl) fun A outer s H E f c' hr2 => ih.e (c.lm scope) (lamC X A outer s H E scope f c') _ _ ⟨K.N, K.nd, rfl, rfl, ⟨K.stk.seer, K.stk.tree, hr2.mono hk, ⟨_, outer, rfl, L.gen, L.co, rfl, rfl⟩⟩, (fun x h => by cases h), fun i y hy => ?_, K.gls, K.free, K.exn, L2N.takes_of rfl rfl rfl rfl, fun x h => by cases h⟩ q6
        obtain ⟨ps, f, fd, f1, f2, f3, f4⟩ := hf i y hy
        exact ⟨ps, f, fd, k, f1, f2, f3, f4, hr2⟩
      · cases q5
    · cases q
  | range1 a ih =>
    refine ⟨fun c X W x K q => nope q, fun c X W x K q => nope q, fun c X W op es pos K q => nope q, fun c X W op es pos K q => nope q, fun c X W es K q => nope q, fun c X W tg x K q => ?_, fun c X W x K q => nope q⟩
    unfold kn at q
    dsimp only at q
    split at q
    · simp only [Bool.and_eq_true, decide_eq_true_eq] at q
      have e := q.1.1.2
      subst e
      obtain ⟨g1, g2⟩ := K.glb q.1.1.1
      exact d_range1 g1 (K.free1 (x := "range") (by decide)) (ih.e c X W _ K q.2) (star_of q.1.2)
    · cases q
  | range2 a b iha ihb =>
    refine ⟨fun c X W x K q => nope q, fun c X W x K q => nope q, fun c X W op es pos K q => nope q, fun c X W op es pos K q => nope q, fun c X W es K q => nope q, fun c X W tg x K q => ?_, fun c X W x K q => nope q⟩
    unfold kn at q
    dsimp only at q
    split at q
    · simp only [Bool.and_eq_true, decide_eq_true_eq] at q
      have e := q.1.1.1.1.2
      subst e
      obtain ⟨g1, g2⟩ := K.glb q.1.1.1.1.1
      exact d_range2 g1 (K.free1 (x := "range") (by decide)) (iha.e c X W _ K q.1.2) (ihb.e c X W _ K q.2) (by rw [star_of q.1.1.1.2, star_of q.1.1.2]; rfl) (star_of q.1.1.2)
    · cases q
  | rev a ih =>
    refine ⟨fun c X W x K q => nope q, fun c X W x K q => nope q, fun c X W op es pos K q => nope q, fun c X W op es pos K q => nope q, fun c X W es K q => nope q, fun c X W tg x K q => ?_, fun c X W x K q => nope q⟩
    unfold kn at q
    dsimp only at q
    split at q
    · simp only [Bool.and_eq_true, decide_eq_true_eq] at q
      have e := q.1.1.2
      subst e
      obtain ⟨g1, g2⟩ := K.glb q.1.1.1
      exact d_rev g1 (K.free1 (x := "reversed") (by decide)) (ih.e c X W _ K q.2) (star_of q.1.2)
    · cases q
  | zip a b iha ihb =>
    refine ⟨fun c X W x K q => nope q, fun c X W x K q => nope q, fun c X W op es pos K q => nope q, fun c X W op es pos K q => nope q, fun c X W es K q => nope q, fun c X W tg x K q => ?_, fun c X W x K q => nope q⟩
    unfold kn at q
    dsimp only at q
    split at q
    · simp only [Bool.and_eq_true, decide_eq_true_eq] at q
      obtain ⟨⟨⟨⟨⟨⟨q0, q1⟩, q2⟩, q3⟩, q4⟩, q5⟩, q6⟩ := q
      subst q2
      obtain ⟨g1, g2⟩ := K.glb q1
      cases tg with
      | Tuple es k p => exact d_zip g1 (K.free1 (x := "zip") (by decide)) (iha.e c X W _ K q5) (ihb.e c X W _ K q6) (by rw [star_of q3, star_of q4]; rfl) (star_of q4)
      | _ => cases q0
    · cases q
  | enum a ih =>
    refine ⟨fun c X W x K q => nope q, fun c X W x K q => nope q, fun c X W op es pos K q => nope q, fun c X W op es pos K q => nope q, fun c X W es K q => nope q, fun c X W tg x K q => ?_, fun c X W x K q => nope q⟩
    unfold kn at q
    dsimp only at q
    split at q
    · simp only [Bool.and_eq_true, decide_eq_true_eq] at q
      obtain ⟨⟨⟨⟨q0, q1⟩, q2⟩, q3⟩, q4⟩ := q
      subst q2
      obtain ⟨g1, g2⟩ := K.glb q1
      cases tg with
      | Tuple es k p => exact d_enum g1 (K.free1 (x := "enumerate") (by decide)) (ih.e c X W _ K q4) (star_of q3)
      | _ => cases q0
    · cases q
  | zip3 a b d iha ihb ihd =>
    refine ⟨fun c X W x K q => nope q, fun c X W x K q => nope q, fun c X W op es pos K q => nope q, fun c X W op es pos K q => nope q, fun c X W es K q => nope q, fun c X W tg x K q => ?_, fun c X W x K q => nope q⟩
    unfold kn at q
    dsimp only at q
    split at q
    · simp only [Bool.and_eq_true, decide_eq_true_eq] at q
      obtain ⟨⟨⟨⟨⟨⟨⟨⟨q0, q1⟩, q2⟩, q3⟩, q4⟩, q5⟩, q6⟩, q7⟩, q8⟩ := q
      subst q2
      obtain ⟨g1, g2⟩ := K.glb q1
      cases tg with
      | Tuple es k p => exact d_zip3 g1 (K.free1 (x := "zip") (by decide)) (iha.e c X W _ K q6) (ihb.e c X W _ K q7) (ihd.e c X W _ K q8) (star_of q3) (star_of q4) (star_of q5)
      | _ => cases q0
    · cases q
  | yes => exact ⟨fun c X W x K q => nope q, fun c X W x K q => nope q, fun c X W op es pos K q => nope q, fun c X W op es pos K q => nope q, fun c X W es K q => nope q, fun c X W tg x K q => nope q, fun c X W x K q => nope q⟩
  | hole => exact ⟨fun c X W x K q => nope q, fun c X W x K q => nope q, fun c X W op es pos K q => nope q, fun c X W op es pos K q => nope q, fun c X W es K q => nope q, fun c X W tg x K q => nope q, fun c X W x K q => by
      cases x with
      | none => exact d_noPart
      | some e => cases q⟩
  | lset a ih =>
    refine .of rfl rfl fun c X W x K q => ?_
    split at q
    · simp only [Bool.and_eq_true, decide_eq_true_eq] at q
      obtain ⟨⟨⟨⟨⟨q1, q2⟩, q3⟩, q4⟩, q5⟩, q6⟩ := q
      subst q2 q4
      obtain ⟨g1, g2⟩ := K.glb q1
      obtain ⟨g3, g4⟩ := K.glb q3
      exact d_lset K.calm (by have := K.hu; omega) g1 (K.free1 (x := "len") (by decide)) g3 (K.free1 (x := "set") (by decide)) (ih.e c X W _ K q6) (star_of q5)
    · cases q
  | tupz a b iha ihb =>
    refine .of rfl rfl fun c X W x K q => ?_
    split at q
    · simp only [Bool.and_eq_true, decide_eq_true_eq] at q
      obtain ⟨⟨⟨⟨⟨⟨⟨q1, q2⟩, q3⟩, q4⟩, q5⟩, q6⟩, q7⟩, q8⟩ := q
      subst q2 q4
      obtain ⟨g1, g2⟩ := K.glb q1
      obtain ⟨g3, g4⟩ := K.glb q3
      exact d_tupZ K.calm g1 (K.free1 (x := "tuple") (by decide)) g3 (K.free1 (x := "zip") (by decide)) (iha.e c X W _ K q7) (ihb.e c X W _ K q8) (star_of q5) (star_of q6) (plain_star (by simp [q6])) rfl
    · cases q
  | srev a ih =>
    refine .of rfl rfl fun c X W x K q => ?_
    split at q
    · exact d_srev (ih.e c X W _ K q)
    · cases q
end
end PP
namespace PP
open PySem PySem.Spec PyProof.Rows L2
structure FnAtH (X : Cx) (C : Ex → Addr) (x : Str) (sp : SpD) : Prop where
  ex : ∃ (f : Addr) (fd : FuncData) (ps : List Str) (k : Nat), X.mg x = some (.ref f) ∧ PySem.W.keepIn X.K (.ref f) = true ∧ Binds X.K fd ps [] ∧ FnHF X.prog X.w X.K X.mg X.base k f fd ps (liftSp X.K C sp) ∧ L2H.RoomH k X.A
def dTryf (ns : List Ex) (x : Ex) (i j : Nat) (sp : SpD) (t : DTS) : DTS := fun E env g =>
  t { E with ex := fun n env' g' => n ∈ ns ∧ (n.sub x = true → i < env'.length ∧ sp [.exc n] g' (fun d g'' => E.nx (((env'.set i (some (.exc n))).set j (some d)).set i none) g'') (fun _ _ => False)) ∧ (n.sub x = false → E.ex n env' g') } env g
section
variable {X : Cx} {C : Ex → Addr} {W : WX} {pos : Pos}
theorem d_tryf {ns : List Ex} {x : Ex} {i j : Nat} {n z fx : Str} {t : DTS} {sp : SpD} {body : List Stmt} {np pos' zp fp ap cp sps : Pos} (hs : X.stack = X.env :: X.outer) (hf : X.env.frame = some X.env.locals) (hex : X.ex = []) (hN : X.N.Nodup) (hi : X.N[i]? = some n) (hln : X.env.kindOf n = some .local)
    (hx : ExN X.K X.mg C x) (hg : Gl X x.nm) (hdb : (Str.ofString x.nm == ("__debug__" : Str)) = false) (hns : ∀ n ∈ ns, ExN X.K X.mg C n) (tk : L2N.Takes X W)
    (hb : ∀ (W' : WX) (pn : List (Addr × Obj)) (xe : Value → Shared → Prop), L2N.Takes (X.tr pn xe) W' → PassesOwn (model X.prog X.w) X.A X.env xe → PSs (X.tr pn xe) body (upS X.K C W' t))
    (hj : X.N[j]? = some z) (hlz : X.env.scope.names.lookup z = some .local) (hv : Vis X.env.scope n) (hd1 : (n == ("__debug__" : Str)) = false) (hd2 : (n == ("__classdict__" : Str)) = false)
    (F : FnAtH X C fx sp) (hgf : Gl X fx) (hdf : (fx == ("__debug__" : Str)) = false) :
    PS X (.Try body [.ExceptHandler (some (.Name x.nm np)) (some n) [.Assign [.Name z zp] (.Call (.Name fx fp) [.Name n ap] [] cp) sps] pos'] [] [] pos) (upS X.K C W (dTryf ns x i j sp t)) := by
  obtain ⟨f, fd, ps, k, f1, f2, f3, f4, f5⟩ := F.ex
  refine ps_imp (ps_try_fz (tb := fun W' => upS X.K C W' t) (ts := fun a => tSeq (tAsg (fun σ H Q => tCons (tVar i) tNil σ H fun vs H1 => (∃ b, Fro (X.suite a []).A H1 b) ∧ liftSp X.K C sp vs H1 Q fun _ _ _ => False) (gName j)) tNext) hs hf hex hN hi hln (c := .ref (C x)) ⟨hg, hdb, .inl hx.mg⟩ tk hb fun a pn => ?_) fun D σ H ⟨env, g, E, re, rg, q, cn, cr, cx⟩ => ?_
  · refine pss_cons (X := X.suite a pn) (ps_set (X := X.suite a pn) hN hj (.inl hlz) ?_ rfl (.inr hlz)) pss_nil
    exact peF_call (X := X.suite a pn) f4 ⟨f5.dp, f5.un⟩ hgf f1 f2 f3 (pa_cons (pe_var (X := X.suite a pn) hi hv hd1 hd2) pa_nil rfl) hdf rfl rfl
  refine ⟨env, g, _, re, rg, q, cn, cr, fun m env' g' σ' H' ⟨hm, h1, h2⟩ k re' rg' => ?_⟩
  have N := hns m hm
  refine ⟨m.sub x, N.k.exm x _ hx.ns, fun hb a oe na hc hd hf => ?_, fun hb => cx _ _ _ _ _ (h2 hb) k re' rg'⟩
  have kn := TK.new (o := .frz oe excU) na
  have hf' := hf
  obtain ⟨vs, hf1, hf2⟩ := hf'
  have rep : Rep X.K (upd H' a (.frz oe excU)) (.exc m) (.ref a) := ⟨a, rfl, oe, excU, C m, upd_same, hc, hd, hf, N.ns, N.k⟩
  obtain ⟨hl, h1⟩ := h1 hb
  have hl2 : i < σ'.length := by rw [← re'.1]; exact hl
  refine ⟨V.ref a, by rw [List.getElem?_set_self hl2], ⟨a, rfl, oe, vs, upd_same, hf1, hf2⟩, ?_⟩
  refine ⟨[.exc m], g', _, _, ⟨_, _, rfl, rep, rfl⟩, rg'.tup na, h1, fun d2 g2 v2 H2 q2 k2 r1 r2 => ?_, fun _ _ _ z => z.elim, (re'.keep kn).2.2⟩
  have w0 := (((re'.keep kn).set (i := i) rep).keep k2).set (i := j) r2
  have w := RepE.wipe w0 [i]
  exact cn _ _ _ _ q2 ((k.trans kn).trans k2) w r1
end
end PP
namespace PP
open PySem PySem.Spec PyProof.Rows L2
inductive SX where
  | nil
  | asg (tg : TgD) (e : PX) (r : SX)
  | par (i j : Nat) (a b : PX) (r : SX)
  | put (o i e : PX) (r : SX)
  | expr (e : PX) (r : SX)
  | ret (e : PX) (r : SX)
  | retN (r : SX)
  | ite (c : PX) (t u r : SX)
  | whl (c : PX) (t r : SX)
  | for_ (tg : TgD) (it : PX) (t r : SX)
  | raise (n : Ex) (r : SX)
  | try_ (ns : List Ex) (x : Ex) (i j : Nat) (t r : SX)
  | tryf (ns : List Ex) (x : Ex) (i j f : Nat) (t r : SX)
def mnS (Γ : Nat → SpD) (gl : Nat → D) : SX → DTS
  | .nil => dNop
  | .asg tg e r => dSeq (dAsg tg (mn Γ gl e).e) (mnS Γ gl r)
  | .par i j a b r => dSeq (dPar i j (mn Γ gl a).e (mn Γ gl b).e) (mnS Γ gl r)
  | .put o i e r => dSeq (dPut (mn Γ gl o).e (mn Γ gl i).e (mn Γ gl e).e) (mnS Γ gl r)
  | .expr e r => dSeq (dExpr (mn Γ gl e).e) (mnS Γ gl r)
  | .ret e r => dSeq (dRet (mn Γ gl e).e) (mnS Γ gl r)
  | .retN r => dSeq dRetN (mnS Γ gl r)
  | .ite c t u r => dSeq (dIf (mn Γ gl c).t (mnS Γ gl t) (mnS Γ gl u)) (mnS Γ gl r)
  | .whl c t r => dSeq (dWhile (mn Γ gl c).t (mnS Γ gl t)) (mnS Γ gl r)
  | .for_ tg it t r => dSeq (dFor (mn Γ gl it).i tg (mnS Γ gl t)) (mnS Γ gl r)
  | .raise n r => dSeq (dRaise n) (mnS Γ gl r)
  | .try_ ns x i j t r => dSeq (dTry ns x i (mnS Γ gl t) (dSeq (dAsg (.n j) (dVar i)) dNop)) (mnS Γ gl r)
  | .tryf ns x i j f t r => dSeq (dTryf ns x i j (Γ f) (mnS Γ gl t)) (mnS Γ gl r)
def fnK (c : Ck) : Bool := match c.sc.kind with | .function => true | _ => false
def parK (c : Ck) (i j : Nat) (x y : Str) (px py : Pos) (a b : Expr) : Bool :=
  fnK c && decide (c.N[i]? = some x) && decide (c.N[j]? = some y) && decide (i ≠ j) && c.loc x && c.loc y && decide (x ≠ y) && decide (px.line = py.line) && noStar a && noStar b && !([a, b].all (foldedForSure 8)) && !([a, b].all (constantsAlone 8))
def selfK (c : Ck) (x : Str) (p : Pos) (scope : Scope) (pos : Pos) : Bool :=
  fnK c && c.loc x && (p.line == pos.line) && !(scope.names.any fun (n, k) => n == x && (k == .local || k == .cell))
def celK (c : Ck) (x : Str) : Bool := match c.sc.names.lookup x with | some .cell => true | _ => false
def compE (c : Ck) (own : List Nat) (tg : TgD) (it tst e : PX) : Expr → Bool := (kn (.comp own tg it tst e)).e c
def stoTup : Expr → Bool
  | .Tuple vs _ _ => vs.all (foldedForSure 8)
  | _ => true
def celT (c : Ck) : List Expr → Bool
  | .Name x _ :: _ => celK c x
  | _ => false
def asgK (c : Ck) (tg : TgD) (e : PX) : Expr → Expr → Bool
  | .Name x p, .ListComp elt gs scope pos => ((match tg with | .n i => decide (c.N[i]? = some x) | _ => false) && selfK c x p scope pos && (match e with | .comp own t2 it tst el => compE c own t2 it tst el (.ListComp elt gs scope pos) | _ => false))
      || (celK c x && tgOk c tg (.Name x p) && (kn e).e c (.ListComp elt gs scope pos))
  | .Name x p, v => noComp v && tgOk c tg (.Name x p) && (kn e).e c v
  | .Tuple es k p, v => (stoTup v || celT c es) && tgOk c tg (.Tuple es k p) && (kn e).e c v
  | _, _ => false
def subOk : Expr → Bool
  | .Slice _ _ _ _ => false
  | .Starred _ _ => false
  | .Tuple _ _ _ => false
  | _ => true
def knS : SX → Ck → List Stmt → Bool
  | .nil => fun c ss => ss.isEmpty
  | .asg tg e r => fun c ss => match ss with | .Assign [t] v _ :: ss => asgK c tg e t v && knS r c ss | _ => false
  | .par i j a b r => fun c ss => match ss with | .Assign [.Tuple [.Name x px, .Name y py] _ _] (.Tuple [u, v] _ _) _ :: ss => parK c i j x y px py u v && (kn a).e c u && (kn b).e c v && knS r c ss | _ => false
  | .put o i e r => fun c ss => match ss with | .Assign [.Subscript a b _] v _ :: ss => subOk b && (kn o).e c a && (kn i).e c b && (kn e).e c v && knS r c ss | _ => false
  | .expr e r => fun c ss => match ss with | .Expr v _ :: ss => noComp v && (kn e).e c v && knS r c ss | _ => false
  | .ret e r => fun c ss => match ss with | .Return (some v) _ :: ss => (kn e).e c v && knS r c ss | _ => false
  | .retN r => fun c ss => match ss with | .Return none _ :: ss => knS r c ss | _ => false
  | .ite k t u r => fun c ss => match ss with | .If v a b _ :: ss => (kn k).t c v && knS t c a && knS u c b && knS r c ss | _ => false
  | .whl k t r => fun c ss => match ss with | .While v a [] _ :: ss => (kn k).t c v && knS t c a && knS r c ss | _ => false
  | .for_ tg it t r => fun c ss => match ss with | .For x v a [] _ :: ss => noSet v && tgOk c tg x && (kn it).i c x v && knS t c a && knS r c ss | _ => false
  | .raise n r => fun c ss => match ss with | .Raise (some (.Call (.Name x _) [.Constant (.str _) _ _] [] _)) none _ :: ss => decide (x = Str.ofString n.nm) && c.gl x && c.exs.contains n && knS r c ss | _ => false
  | .try_ ns x i j t r => fun c ss => match ss with
    | .Try b [.ExceptHandler (some (.Name y _)) (some nm) [.Assign [.Name z _] (.Name z2 _) _] _] [] [] _ :: ss =>
      decide (y = Str.ofString x.nm) && c.gl y && decide (c.N[i]? = some nm) && c.loc nm && decide (z2 = nm) && c.vis nm && decide (c.N[j]? = some z) && c.loc z && (ns.all fun n => c.exs.contains n) && c.exs.contains x && knS t c b && knS r c ss
    | _ => false
  | .tryf ns x i j f t r => fun c ss => match ss with
    | .Try b [.ExceptHandler (some (.Name y _)) (some nm) [.Assign [.Name z _] (.Call (.Name fx _) [.Name z2 _] [] _) _] _] [] [] _ :: ss =>
      decide (y = Str.ofString x.nm) && c.gl y && decide (c.N[i]? = some nm) && c.loc nm && decide (z2 = nm) && c.vis nm && decide (c.N[j]? = some z) && c.loc z && (ns.all fun n => c.exs.contains n) && c.exs.contains x && knS t c b && knS r c ss && decide (c.hot.lookup f = some fx) && c.gl fx
    | _ => false
structure SCtx (c : Ck) (Γ : Nat → SpD) (gl : Nat → D) (C : Ex → Addr) (W : WX) (X : Cx) : Prop extends Ctx c Γ gl C W X where
  own : PassesOwn (model X.prog X.w) X.A X.env X.xe
  exs : ∀ n ∈ c.exs, ExAt X C n
  stkE : X.stack = X.env :: X.outer
  frm : X.env.frame = some X.env.locals
  ex : X.ex = []
  hot : ∀ i x, c.hot.lookup i = some x → FnAtH X C x (Γ i)
section
variable {Γ : Nat → SpD} {gl : Nat → D} {C : Ex → Addr} {c : Ck} {X : Cx} {W : WX}
theorem fn_of (K : Ctx c Γ gl C W X) (h : fnK c = true) : X.env.scope.kind = .function := by
  unfold fnK at h
  rw [K.sc]
  split at h
  · assumption
  · cases h
theorem loc_of (K : Ctx c Γ gl C W X) {x : Str} (h : c.loc x = true) : X.env.scope.names.lookup x = some .local := by
  unfold Ck.loc at h
  rw [K.sc]
  split at h
  · assumption
  · cases h
theorem par_of (K : Ctx c Γ gl C W X) {i j : Nat} {x y : Str} {px py : Pos} {a b : Expr} {kt k2 : Nat} {pt pt2 : Pos} (h : parK c i j x y px py a b = true) :
    swappedStores [.Tuple [.Name x px, .Name y py] kt pt] (.Tuple [a, b] k2 pt2) X.env = pure (some [x, y]) := by
  unfold parK at h
  simp only [Bool.and_eq_true, decide_eq_true_eq, Bool.not_eq_true'] at h
  obtain ⟨⟨⟨⟨⟨⟨⟨⟨⟨⟨⟨h1, h2⟩, h3⟩, h4⟩, h5⟩, h6⟩, h7⟩, h8⟩, h9⟩, h10⟩, h11⟩, h12⟩ := h
  have kx : X.env.kindOf x = some .local := loc_of K h5
  have ky : X.env.kindOf y = some .local := loc_of K h6
  have hb : X.env.blockKind = .function := by unfold Env.blockKind; rw [fn_of K h1]; rfl
  have s1 : ([a, b].any fun | .Starred .. => true | _ => false) = false := by
    have z : ∀ {e : Expr}, noStar e = true → (match e with | .Starred .. => true | _ => false) = false := by
      intro e h
      cases e <;> first | rfl | cases h
    simp only [List.any_cons, List.any_nil, Bool.or_false]
    rw [z h9, z h10]
    rfl
  have hxy : (x == y) = false := by simpa using h7
  have hyx : (y == x) = false := by simpa using fun e => h7 (Eq.symm e)
  have he : [x, y].eraseDups = [x, y] := by
    simp [List.eraseDups_cons, hyx]
  unfold swappedStores
  simp only [s1, hb, List.filterMap_cons, List.filterMap_nil, kx, ky, List.head?, Option.map, Option.getD, Expr.pos, h8, h11, h12, beq_self_eq_true, Bool.true_and, if_true, he, List.length_cons, List.length_nil]
  have s2 := Bool.eq_false_iff.mp s1
  refine (if_neg (by decide)).trans ((if_neg s2).trans ?_)
  rfl
theorem sw_other {e : Expr} {t : Option Expr} {l : Nat} {env : PySem.Env} (h : noComp e = true) : swapsWith e t l env = pure false := by
  cases e <;> first | rfl | cases h
theorem sws_other {e t : Expr} {l : Nat} {env : PySem.Env} (h : noComp e = true) : swapsWithSole [t] e l env = pure false := sw_other (t := some t) h
theorem sws_cell {x : Str} {p pos : Pos} {elt : Expr} {gs : List Comprehension} {scope : Scope} {l : Nat} {env : PySem.Env} (h : env.scope.names.lookup x = some .cell) : swapsWithSole [.Name x p] (.ListComp elt gs scope pos) l env = pure false := by
  have ky : env.kindOf x = some .cell := h
  show swapsWith (.ListComp elt gs scope pos) (some (.Name x p)) l env = pure false
  unfold swapsWith
  simp only [ky, Bool.and_false, Bool.false_and, show (some NameKind.cell == some NameKind.local) = false from rfl]
theorem cel_of (K : Ctx c Γ gl C W X) {x : Str} (h : celK c x = true) : X.env.scope.names.lookup x = some .cell := by
  unfold celK at h
  rw [K.sc]
  split at h
  · assumption
  · cases h
theorem sto_other {x : Str} {p : Pos} {v : Expr} {env : PySem.Env} : swappedStores [.Name x p] v env = pure none := by
  cases v <;> rfl
theorem sto_tup {es : List Expr} {k : Nat} {p : Pos} {v : Expr} {env : PySem.Env} (h : stoTup v = true) : swappedStores [.Tuple es k p] v env = pure none := by
  cases v with
  | Tuple vs k2 p2 =>
    have h : vs.all (foldedForSure 8) = true := h
    unfold swappedStores
    simp only [h, if_true]
    repeat (first | rfl | split)
  | _ => rfl
theorem fm_ne {α β : Type} {f : α → Option β} {a : α} {l : List α} (h : f a = none) : ((a :: l).filterMap f).length ≠ (a :: l).length := by
  rw [List.filterMap_cons_none h]
  have := List.length_filterMap_le f l
  rw [List.length_cons]
  omega
theorem sto_cel {x : Str} {p : Pos} {es : List Expr} {k : Nat} {pos : Pos} {v : Expr} {env : PySem.Env} (h : env.scope.names.lookup x = some .cell) : swappedStores [.Tuple (.Name x p :: es) k pos] v env = pure none := by
  have hk : (env.kindOf x == some NameKind.local) = false := by
    show (env.scope.names.lookup x == some NameKind.local) = false
    rw [h]; rfl
  cases v with
  | Tuple vs k2 p2 =>
    unfold swappedStores
    dsimp only
    split
    · rfl
    · split
      · rfl
      · split
        · rfl
        · rename_i hh
          exfalso
          simp only [Bool.or_eq_true, bne_iff_ne, ne_eq, not_or, Decidable.not_not] at hh
          refine fm_ne ?_ hh.1
          show (if (env.kindOf x == some NameKind.local && _) = true then some x else none) = none
          rw [hk, Bool.false_and]
          rfl
  | _ => rfl
theorem sto_sub {a b : Expr} {p : Pos} {v : Expr} {env : PySem.Env} : swappedStores [.Subscript a b p] v env = pure none := by
  cases v <;> rfl
theorem sw_tup {es : List Expr} {k : Nat} {p : Pos} {v : Expr} {l : Nat} {env : PySem.Env} : swapsWithSole [.Tuple es k p] v l env = pure false := by
  cases v <;> rfl
theorem sw_sub {a b : Expr} {p : Pos} {v : Expr} {l : Nat} {env : PySem.Env} : swapsWithSole [.Subscript a b p] v l env = pure false := by
  cases v <;> rfl
theorem comp_parts (K : Ctx c Γ gl C W X) {own : List Nat} {tg : TgD} {it tst e : PX} {elt : Expr} {gs : List Comprehension} {scope : Scope} {pos : Pos} (q : (kn (.comp own tg it tst e)).e c (.ListComp elt gs scope pos) = true) :
    ∃ (tgE iter : Expr) (ifs : List Expr) (ow : List (Str × Nat)), gs = [⟨tgE, iter, ifs, 0⟩] ∧ ow.map (·.2) = own ∧ PI X tgE iter (upI X.K C W (mn Γ gl it).i) ∧ BlkOk X.N X.env.scope scope ow ∧
    (∀ (s : Shared) (H : Hp) (A : Addr) (cl : List (Str × Addr)) (fp : List Addr), PG (X.blk s H scope (compEnvC scope cl A X.env) fp) tgE (gUp X.K tg)) ∧
    (∀ (s : Shared) (H : Hp) (A : Addr) (cl : List (Str × Addr)) (fp : List Addr), PTs (X.blk s H scope (compEnvC scope cl A X.env) fp) ifs (upT X.K C W0 (mn Γ gl tst).t)) ∧
    (∀ (s : Shared) (H : Hp) (A : Addr) (cl : List (Str × Addr)) (fp : List Addr), PE (X.blk s H scope (compEnvC scope cl A X.env) fp) elt (up X.K C W0 (mn Γ gl e).e)) ∧
    (∀ x, foldedSetIterable iter X.env x = pure x) ∧ ∀ i ∈ tg.slots, i ∈ ow.map (·.2) := by
  unfold kn at q
  dsimp only [Kn.of] at q
  split at q
  · rename_i elt' tgE iter ifs scope' pos' z
    cases z
    simp only [Bool.and_eq_true] at q
    obtain ⟨⟨⟨⟨⟨⟨q1, q2⟩, q3⟩, q4⟩, q5⟩, q6⟩, q7⟩ := q
    have eo : (own.map fun i => (c.N.getD i "", i)).map (·.2) = own := by
      rw [List.map_map]
      exact List.map_id _
    refine ⟨tgE, iter, ifs, own.map fun i => (c.N.getD i "", i), rfl, eo, (sound it).i c X W tgE iter K q5, (by rw [K.N, K.sc]; exact blkOk_by q1), fun s H A cl fp => tg_of (K.blk scope s H A cl fp) q3, fun s H A cl fp => ?_, fun s H A cl fp => (sound e).e _ _ W0 _ (K.blk scope s H A cl fp) q6, set_of q4, ?_⟩
    · split at q7
      · exact ⟨fun pins s σ H Q I ⟨env, g, Xd, Qd, re, rg, t, cl, cx⟩ => (pts_nil (X := X.blk _ _ scope (compEnvC scope _ _ X.env) _)).run pins s σ H Q I (cl _ _ _ t (.refl _) rg)⟩
      · cases q7
      · exact pts_one ((sound tst).t _ _ W0 _ (K.blk scope s H A cl fp) q7)
      · cases q7
    · intro i hi
      rw [eo]
      have := List.all_eq_true.mp q2 i hi
      simpa using this
  · cases q
theorem asg_of (K : Ctx c Γ gl C W X) {tg : TgD} {e : PX} {t v : Expr} {pos : Pos} (h : asgK c tg e t v = true) : PS X (.Assign [t] v pos) (upS X.K C W (dAsg tg (mn Γ gl e).e)) := by
  unfold asgK at h
  split at h
  · rename_i x p elt gs scope pos'
    simp only [Bool.and_eq_true, Bool.or_eq_true] at h
    rcases h with h | h
    case inr => exact s_asg ((sound e).e c X W _ K h.2) (tg_of K h.1.2) (sws_cell (cel_of K h.1.1)) sto_other rfl
    obtain ⟨⟨h1, h2⟩, h3⟩ := h
    split at h1
    · rename_i i
      have h1 := of_decide_eq_true h1
      split at h3
      · rename_i own t2 it tst el
        obtain ⟨tgE, iter, ifs, ow, rfl, rfl, p1, p2, p3, p4, p5, p6, p7⟩ := comp_parts K h3
        unfold selfK at h2
        simp only [Bool.and_eq_true, Bool.not_eq_true'] at h2
        obtain ⟨⟨⟨a1, a2⟩, a3⟩, a4⟩ := h2
        exact s_setLc K.calm K.nd (by rw [K.N]; exact h1) (loc_of K a2) (sw_true (fn_of K a1) (loc_of K a2) a3 a4) p1 p2 p3 p4 p5 p6 p7
      · cases h3
    · cases h1
  · simp only [Bool.and_eq_true] at h
    exact s_asg ((sound e).e c X W _ K h.2) (tg_of K h.1.2) (sws_other h.1.1) sto_other rfl
  · rename_i es k p v
    simp only [Bool.and_eq_true] at h
    refine s_asg ((sound e).e c X W _ K h.2) (tg_of K h.1.2) sw_tup ?_ rfl
    rcases (Bool.or_eq_true _ _).mp h.1.1 with h1 | h1
    · exact sto_tup h1
    · unfold celT at h1
      split at h1
      · exact sto_cel (cel_of K h1)
      · cases h1
  · cases h
theorem sub_of {a b : Expr} {p : Pos} {env : PySem.Env} (h : subOk b = true) : ∀ v, assign (.Subscript a b p) env v = (do
      let ov ← holding [v] (eval a env)
      let iv ← holding [v, ov] (eval b env)
      standAt p
      holding [v, ov, iv] (setItem ov iv v)
      release [v, ov, iv] []) := by
  intro v
  cases b <;> first | rfl | cases h
theorem SCtx.tr (K : SCtx c Γ gl C W X) {W' : WX} {pn : List (Addr × Obj)} {xe : Value → Shared → Prop} (tk : L2N.Takes (X.tr pn xe) W') (po : PassesOwn (model X.prog X.w) X.A X.env xe) : SCtx c Γ gl C W' (X.tr pn xe) where
  N := K.N
  nd := K.nd
  sc := K.sc
  calm := K.calm
  stk := ⟨K.stk.seer, K.stk.tree, K.stk.room, K.stk.stk⟩
  hfn := K.hfn
  fns := fun i x h => by
    obtain ⟨ps, f, fd, k, h1, h2, h3, h4, h5⟩ := K.fns i x h
    exact ⟨ps, f, fd, k, h1, h2, h3, h4, h5⟩
  gls := K.gls
  free := K.free
  exn := K.exn
  tk := tk
  lam := fun x h => by
    obtain ⟨a, b, c⟩ := K.lam x h
    exact ⟨a, ⟨b.ex⟩, c⟩
  own := po
  exs := fun n hn => ⟨(K.exs n hn).mg, (K.exs n hn).keep, (K.exs n hn).own, (K.exs n hn).raises⟩
  stkE := K.stkE
  frm := K.frm
  ex := K.ex
  hot := fun i x h => by
    obtain ⟨f, fd, ps, k, h1, h2, h3, h4, h5⟩ := (K.hot i x h).ex
    exact ⟨f, fd, ps, k, h1, h2, h3, h4, h5⟩
theorem vis_of (K : Ctx c Γ gl C W X) {x : Str} (h1 : c.vis x = true) : Vis X.env.scope x ∧ (x == ("__debug__" : Str)) = false ∧ (x == ("__classdict__" : Str)) = false := by
  unfold Ck.vis at h1
  simp only [Bool.and_eq_true] at h1
  refine ⟨?_, by simpa using h1.1.2, by simpa using h1.2⟩
  unfold Vis
  rw [K.sc]
  have h3 := h1.1.1
  split at h3
  · exact .inl (by assumption)
  · exact .inr (.inl (by assumption))
  · exact .inr (.inr (by assumption))
  · cases h3
theorem soundS : ∀ (sx : SX) (c : Ck) (X : Cx) (W : WX) (ss : List Stmt), SCtx c Γ gl C W X → knS sx c ss = true → PSs X ss (upS X.K C W (mnS Γ gl sx)) := by
  intro sx
  induction sx with
  | nil =>
    intro c X W ss K h
    cases ss with
    | nil => exact s_nil
    | cons s ss => cases h
  | asg tg e r ih =>
    intro c X W ss K h
    unfold knS at h
    split at h
    · rw [Bool.and_eq_true] at h
      exact s_cons (asg_of K.toCtx h.1) (ih c X W _ K h.2)
    · cases h
  | par i j a b r ih =>
    intro c X W ss K h
    unfold knS at h
    split at h
    · simp only [Bool.and_eq_true] at h
      obtain ⟨⟨⟨h1, h2⟩, h3⟩, h4⟩ := h
      have hw := fun k2 pt2 kt pt => par_of (kt := kt) (pt := pt) (k2 := k2) (pt2 := pt2) K.toCtx h1
      unfold parK at h1
      simp only [Bool.and_eq_true, decide_eq_true_eq, Bool.not_eq_true'] at h1
      obtain ⟨⟨⟨⟨⟨⟨⟨⟨⟨⟨⟨a1, a2⟩, a3⟩, a4⟩, a5⟩, a6⟩, a7⟩, a8⟩, a9⟩, a10⟩, a11⟩, a12⟩ := h1
      exact s_cons (s_par K.calm K.nd (by rw [K.N]; exact a2) (by rw [K.N]; exact a3) a4 (loc_of K.toCtx a5) (loc_of K.toCtx a6) ((sound a).e c X W _ K.toCtx h2) ((sound b).e c X W _ K.toCtx h3) (star_of a9) (star_of a10) (hw _ _ _ _) sw_tup) (ih c X W _ K h4)
    · cases h
  | put o i e r ih =>
    intro c X W ss K h
    unfold knS at h
    split at h
    · simp only [Bool.and_eq_true] at h
      obtain ⟨⟨⟨⟨h1, h2⟩, h3⟩, h4⟩, h5⟩ := h
      refine s_cons (s_sub (by have := K.toCtx.hu; omega) ((sound o).e c X W _ K.toCtx h2) ((sound i).e c X W _ K.toCtx h3) ((sound e).e c X W _ K.toCtx h4) ?_ sw_sub sto_sub rfl) (ih c X W _ K h5)
      exact sub_of h1
    · cases h
  | expr e r ih =>
    intro c X W ss K h
    unfold knS at h
    split at h
    · simp only [Bool.and_eq_true] at h
      exact s_cons (s_expr ((sound e).e c X W _ K.toCtx h.1.2) (sw_other h.1.1)) (ih c X W _ K h.2)
    · cases h
  | ret e r ih =>
    intro c X W ss K h
    unfold knS at h
    split at h
    · simp only [Bool.and_eq_true] at h
      exact s_cons (s_ret ((sound e).e c X W _ K.toCtx h.1)) (ih c X W _ K h.2)
    · cases h
  | retN r ih =>
    intro c X W ss K h
    unfold knS at h
    split at h
    · exact s_cons s_retN (ih c X W _ K h)
    · cases h
  | ite k t u r ih1 ih2 ih =>
    intro c X W ss K h
    unfold knS at h
    split at h
    · simp only [Bool.and_eq_true] at h
      obtain ⟨⟨⟨h1, h2⟩, h3⟩, h4⟩ := h
      exact s_cons (s_if ((sound k).t c X W _ K.toCtx h1) (ih1 c X W _ K h2) (ih2 c X W _ K h3)) (ih c X W _ K h4)
    · cases h
  | whl k t r ih1 ih =>
    intro c X W ss K h
    unfold knS at h
    split at h
    · simp only [Bool.and_eq_true] at h
      obtain ⟨⟨h1, h2⟩, h4⟩ := h
      exact s_cons (s_while K.own ((sound k).t c X W _ K.toCtx h1) (ih1 c X W _ K h2)) (ih c X W _ K h4)
    · cases h
  | for_ tg it t r ih1 ih =>
    intro c X W ss K h
    unfold knS at h
    split at h
    · simp only [Bool.and_eq_true] at h
      obtain ⟨⟨⟨⟨h0, h1⟩, h2⟩, h3⟩, h4⟩ := h
      exact s_cons (s_for K.own K.calm ((sound it).i c X W _ _ K.toCtx h2) (tg_of K.toCtx h1) (ih1 c X W _ K h3) (set_of h0)) (ih c X W _ K h4)
    · cases h
  | raise n r ih =>
    intro c X W ss K h
    unfold knS at h
    split at h
    · simp only [Bool.and_eq_true, decide_eq_true_eq] at h
      obtain ⟨⟨⟨h0, h1⟩, h2⟩, h3⟩ := h
      subst h0
      obtain ⟨g1, g2⟩ := K.glb h1
      exact s_cons (s_raise K.calm K.tk (K.exs n (by simpa using h2)) g1 g2) (ih c X W _ K h3)
    · cases h
  | try_ ns x i j t r ih1 ih =>
    intro c X W ss K h
    unfold knS at h
    split at h
    · rename_i b y np nm z zp z2 z2p ap hp tp ss'
      simp only [Bool.and_eq_true, decide_eq_true_eq] at h
      obtain ⟨⟨⟨⟨⟨⟨⟨⟨⟨⟨⟨h1, h2⟩, h3⟩, h4⟩, h5⟩, h6⟩, h7⟩, h8⟩, h9⟩, h10⟩, h11⟩, h12⟩ := h
      subst h1 h5
      obtain ⟨g1, g2⟩ := K.glb h2
      obtain ⟨v1, v2, v3⟩ := vis_of K.toCtx h6
      have N := K.N
      refine s_cons (d_try K.stkE K.frm K.ex K.nd (by rw [N]; exact h3) (loc_of K.toCtx h4) (K.exn x (by simpa using h10)) g1 g2 (fun n hn => K.exn n (by simpa using List.all_eq_true.mp h9 n hn)) K.tk (fun W' pn xe tk po => ih1 c (X.tr pn xe) W' b (K.tr tk po) h11) fun a pn => ?_) (ih c X W _ K h12)
      exact s_cons (X := X.suite a pn) (s_set (X := X.suite a pn) K.nd (by rw [show (X.suite a pn).N = c.N from N]; exact h7) (.inl (loc_of K.toCtx h8)) (d_var (X := X.suite a pn) (by rw [show (X.suite a pn).N = c.N from N]; exact h3) v1 v2 v3) (sw_other rfl) (.inr (loc_of K.toCtx h8))) s_nil
    · cases h
  | tryf ns x i j f t r ih1 ih =>
    intro c X W ss K h
    unfold knS at h
    split at h
    · rename_i b y np nm z zp fx fp z2 z2p cp ap hp tp ss'
      simp only [Bool.and_eq_true, decide_eq_true_eq] at h
      obtain ⟨⟨⟨⟨⟨⟨⟨⟨⟨⟨⟨⟨⟨h1, h2⟩, h3⟩, h4⟩, h5⟩, h6⟩, h7⟩, h8⟩, h9⟩, h10⟩, h11⟩, h12⟩, h13⟩, h14⟩ := h
      subst h1 h5
      obtain ⟨g1, g2⟩ := K.glb h2
      obtain ⟨g3, g4⟩ := K.glb h14
      obtain ⟨v1, v2, v3⟩ := vis_of K.toCtx h6
      have N := K.N
      exact s_cons (d_tryf K.stkE K.frm K.ex K.nd (by rw [N]; exact h3) (loc_of K.toCtx h4) (K.exn x (by simpa using h10)) g1 g2 (fun n hn => K.exn n (by simpa using List.all_eq_true.mp h9 n hn)) K.tk (fun W' pn xe tk po => ih1 c (X.tr pn xe) W' b (K.tr tk po) h11) (by rw [N]; exact h7) (loc_of K.toCtx h8) v1 v2 v3 (K.hot f _ h13) g3 g4) (ih c X W _ K h12)
    · cases h
end
end PP
namespace PP
open PySem PySem.Spec PyProof.Rows L2
structure CtxV (c : Ck) (X : Cx) : Prop where
  N : X.N = c.N
  nd : X.N.Nodup
  sc : X.env.scope = c.sc
  hfn : ∀ x, c.fn x = true → X.fn x = true
structure CtxH (c : Ck) (C : Ex → Addr) (X : Cx) : Prop extends CtxV c X where
  hot : HotF X
  un : X.A.units + 65 < cLine
  free : ∀ x ∈ bltNames, X.mg (Str.ofString x) = none
  exn : ∀ n ∈ c.exs, ExN X.K X.mg C n
def hotP : PX → Bool
  | .v _ => true
  | .int _ => true
  | .bl _ => true
  | .non => true
  | .str _ => true
  | .bin .add a b => hotP a && hotP b
  | .cmp .ne a b => hotP a && hotP b
  | .cmp .eq a b => hotP a && hotP b
  | .not a => hotP a
  | .or a b => hotP a && hotP b
  | .ix a b => hotP a && hotP b
  | .tup as => hotP as
  | .lst as => hotP as
  | .nil => true
  | .cons a r => hotP a && hotP r
  | .blt .len as => hotP as
  | .isx _ a => hotP a
  | _ => false
structure SndH (Γ : Nat → SpD) (gl : Nat → D) (C : Ex → Addr) (px : PX) : Prop where
  e : ∀ (c : Ck) (X : Cx) (W : WX) (x : Expr), CtxH c C X → (kn px).e c x = true → PE X x (up X.K C W (mn Γ gl px).e)
  t : ∀ (c : Ck) (X : Cx) (W : WX) (x : Expr), CtxH c C X → (kn px).t c x = true → PT X x (upT X.K C W (mn Γ gl px).t)
  w : ∀ (c : Ck) (X : Cx) (W : WX) (op : BoolOp) (es : List Expr) (pos : Pos), CtxH c C X → (kn px).w c op es = true → PW X (.BoolOp op es pos) (upT X.K C W (mn Γ gl px).t)
  ve : ∀ (c : Ck) (X : Cx) (W : WX) (op : BoolOp) (es : List Expr) (pos : Pos), CtxH c C X → (kn px).ve c op es = true → PE X (.BoolOp op es pos) (up X.K C W (mn Γ gl px).e)
  a : ∀ (c : Ck) (X : Cx) (W : WX) (es : List Expr), CtxH c C X → (kn px).a c es = true → PA X es (upA X.K C W (mn Γ gl px).a)
theorem SndH.of {Γ : Nat → SpD} {gl : Nat → D} {C : Ex → Addr} {px : PX} {k : Ck → Expr → Bool} {m : DTE} (hk : kn px = Kn.of k) (hm : mn Γ gl px = Mn.of m) (h : ∀ (c : Ck) (X : Cx) (W : WX) (x : Expr), CtxH c C X → k c x = true → PE X x (up X.K C W m)) : SndH Γ gl C px where
  e := fun c X W x K q => by rw [hk] at q; rw [hm]; exact h c X W x K q
  t := fun c X W x K q => by
    rw [hk] at q; rw [hm]
    have q' : (k c x && tstOk x) = true := q
    rw [Bool.and_eq_true] at q'
    exact t_val (h c X W x K q'.1) (tst_of q'.2)
  w := fun c X W op es pos K q => by
    rw [hk] at q; rw [hm]
    obtain ⟨e, rfl, q'⟩ := one_of (show one (fun e => k c e && tstOk e) es = true from q)
    rw [Bool.and_eq_true] at q'
    have z := t_val (h c X W _ K q'.1) (tst_of q'.2)
    cases op
    · exact t_and1 z
    · exact t_or1 z
  ve := fun c X W op es pos K q => by
    rw [hk] at q; rw [hm]
    obtain ⟨e, rfl, q'⟩ := one_of (show one (k c) es = true from q)
    exact v_one (h c X W _ K q')
  a := fun c X W es K q => by rw [hk] at q; cases q
section
variable {Γ : Nat → SpD} {gl : Nat → D} {C : Ex → Addr} {c : Ck} {X : Cx} {W : WX}
theorem CtxH.glb {x : Str} (K : CtxH c C X) (h : c.gl x = true) : Gl X x ∧ (x == ("__debug__" : Str)) = false := by
  unfold Ck.gl at h
  simp only [Bool.and_eq_true] at h
  obtain ⟨h1, h2⟩ := h
  refine ⟨?_, by simpa using h2⟩
  show X.env.scope.names.lookup x = _
  rw [K.sc]
  split at h1
  · assumption
  · cases h1
theorem h_var {i : Nat} {x : Expr} (K : CtxV c X) (q : (kn (.v i)).e c x = true) : PE X x (up X.K C W (mn Γ gl (.v i)).e) := by
  unfold kn at q
  dsimp only [Kn.of] at q
  split at q
  · simp only [Bool.and_eq_true, decide_eq_true_eq] at q
    obtain ⟨h1, h2⟩ := q
    unfold Ck.vis at h1
    simp only [Bool.and_eq_true] at h1
    refine d_var (by rw [K.N]; exact h2) ?_ (by simpa using h1.1.2) (by simpa using h1.2)
    unfold Vis
    rw [K.sc]
    have h3 := h1.1.1
    split at h3
    · exact .inl (by assumption)
    · exact .inr (.inl (by assumption))
    · exact .inr (.inr (by assumption))
    · cases h3
  · cases q
theorem hx_pe (K : CtxH c C X) {t : Option Ex} {x : Str} {p : Pos} (h1 : x = Str.ofString (xnm t)) (h2 : c.gl x = true) (h3 : xOk c t = true) : PE X (.Name x p) (tC (vX C t)) ∧ ∀ m, t = some m → ExNs X.K m (C m) := by
  obtain ⟨g1, g2⟩ := K.glb h2
  cases t with
  | none =>
    subst h1
    exact ⟨pe_bltn (v := .ty "ValueError") g1 (K.free _ (by decide)) (by decide +kernel) rfl (by decide) g2, fun m e => by cases e⟩
  | some m =>
    subst h1
    have hm : m ∈ c.exs := by simpa [xOk] using h3
    exact ⟨pe_glob g1 (K.exn m hm).mg rfl g2, fun k e => by cases e; exact (K.exn m hm).ns⟩
theorem h_cmp {o : Cm} {a b : PX} (ho : ∀ {X : Cx}, X.A.units + 65 < cLine → OpR X (compareOp o.py) (rUp X.K o.rd)) (iha : SndH Γ gl C a) (ihb : SndH Γ gl C b) : SndH Γ gl C (.cmp o a b) := by
  have H : ∀ (c : Ck) (X : Cx) (W : WX) (x : Expr), CtxH c C X → (kn (.cmp o a b)).e c x = true → ∃ y z p, x = .Compare y [o.py] [z] p ∧ behindInMarks o.py z = false ∧ PE X y (up X.K C W (mn Γ gl a).e) ∧ PE X z (up X.K C W (mn Γ gl b).e) := fun c X W x K q => by
    have q : cmpK o ((kn a).e c) ((kn b).e c) x = true := q
    unfold cmpK at q
    split at q
    · simp only [Bool.and_eq_true, decide_eq_true_eq, Bool.not_eq_true'] at q
      have e := q.1.1.1
      subst e
      exact ⟨_, _, _, rfl, q.1.1.2, iha.e c X W _ K q.1.2, ihb.e c X W _ K q.2⟩
    · cases q
  have T : ∀ (c : Ck) (X : Cx) (W : WX) (x : Expr), CtxH c C X → (kn (.cmp o a b)).e c x = true → PT X x (upT X.K C W (dTst (dBin o.rd (mn Γ gl a).e (mn Γ gl b).e))) := fun c X W x K q => by
    obtain ⟨y, z, p, rfl, h1, h2, h3⟩ := H c X W x K q
    exact t_cmp (ho K.un) h2 h3 h1
  have E : ∀ (c : Ck) (X : Cx) (W : WX) (x : Expr), CtxH c C X → (kn (.cmp o a b)).e c x = true → PE X x (up X.K C W (dBin o.rd (mn Γ gl a).e (mn Γ gl b).e)) := fun c X W x K q => by
    obtain ⟨y, z, p, rfl, h1, h2, h3⟩ := H c X W x K q
    exact d_cmp (ho K.un) h2 h3 h1
  exact ⟨E, T, fun c X W op es pos K q => by
      obtain ⟨e, rfl, q'⟩ := one_of (show one ((kn (.cmp o a b)).e c) es = true from q)
      have z := T c X W _ K q'
      cases op
      · exact t_and1 z
      · exact t_or1 z,
    fun c X W op es pos K q => by
      obtain ⟨e, rfl, q'⟩ := one_of (show one ((kn (.cmp o a b)).e c) es = true from q)
      exact v_one (E c X W _ K q'),
    fun c X W es K q => nope q⟩
theorem hx_pes (K : CtxH c C X) : ∀ {ts : List (Option Ex)} {es : List Expr}, xNames c ts es = true → PA X es (tXs C ts) ∧ ∀ t ∈ ts, ∀ m, t = some m → ExNs X.K m (C m) := by
  intro ts
  induction ts with
  | nil =>
    intro es h
    cases es with
    | nil => exact ⟨pa_nil, fun t z => by cases z⟩
    | cons e es => cases h
  | cons t ts ih =>
    intro es h
    cases es with
    | nil => cases h
    | cons e es =>
      unfold xNames at h
      split at h
      · rename_i z _; cases z
      · rename_i z1 z2
        cases z1; cases z2
        simp only [Bool.and_eq_true, decide_eq_true_eq] at h
        obtain ⟨⟨⟨h1, h2⟩, h3⟩, h4⟩ := h
        obtain ⟨a1, a2⟩ := hx_pe K (p := _) h1 h2 h3
        obtain ⟨b1, b2⟩ := ih h4
        exact ⟨pa_cons a1 b1 rfl, fun u hu => by
          rcases List.mem_cons.mp hu with rfl | hu
          · exact a2
          · exact b2 u hu⟩
      · cases h
end
section
variable {Γ : Nat → SpD} {gl : Nat → D} {C : Ex → Addr}
theorem soundH (px : PX) (hp : hotP px = true) : SndH Γ gl C px := by
  induction px with
  | v i => exact .of rfl rfl fun c X W x K q => h_var (Γ := Γ) (gl := gl) K.toCtxV q
  | int i =>
    refine .of rfl rfl fun c X W x K q => ?_
    split at q
    · have := of_decide_eq_true q; subst this; exact d_const pe_int fun _ => rfl
    · cases q
  | bl b =>
    refine .of rfl rfl fun c X W x K q => ?_
    split at q
    · have := of_decide_eq_true q; subst this; exact d_const pe_bl fun _ => rfl
    · cases q
  | non =>
    refine .of rfl rfl fun c X W x K q => ?_
    split at q
    · exact d_const pe_non fun _ => rfl
    · cases q
  | str s =>
    refine .of rfl rfl fun c X W x K q => ?_
    split at q
    · have := of_decide_eq_true q; subst this; exact d_const pe_str fun _ => rfl
    · cases q
  | bin o a b iha ihb =>
    cases o with
    | add =>
      have hp : (hotP a && hotP b) = true := hp
      rw [Bool.and_eq_true] at hp
      refine .of rfl rfl fun c X W x K q => ?_
      split at q
      · simp only [Bool.and_eq_true, decide_eq_true_eq] at q
        have e := q.1.1
        subst e
        exact d_op (f := binaryOp Op.add.py) o_add ((iha hp.1).e c X W _ K q.1.2) ((ihb hp.2).e c X W _ K q.2)
      · cases q
    | _ => cases hp
  | cmp o a b iha ihb =>
    cases o with
    | eq =>
      have hp : (hotP a && hotP b) = true := hp
      rw [Bool.and_eq_true] at hp
      exact h_cmp (fun {X} hu => o_eq (show X.A.units + 64 < cLine by omega)) (iha hp.1) (ihb hp.2)
    | ne =>
      have hp : (hotP a && hotP b) = true := hp
      rw [Bool.and_eq_true] at hp
      exact h_cmp (fun {X} hu => o_ne (show X.A.units + 64 < cLine by omega)) (iha hp.1) (ihb hp.2)
    | _ => cases hp
  | not a iha =>
    have iha := iha hp
    have E : ∀ (c : Ck) (X : Cx) (W : WX) (x : Expr), CtxH c C X → uop .Not ((kn a).e c) x = true → PE X x (up X.K C W (dNot (mn Γ gl a).e)) := fun c X W x K q => by
      obtain ⟨y, p, rfl, q'⟩ := uop_of q
      exact v_not (iha.e c X W _ K q')
    have T : ∀ (c : Ck) (X : Cx) (W : WX) (x : Expr), CtxH c C X → uop .Not ((kn a).t c) x = true → PT X x (upT X.K C W (dNotT (mn Γ gl a).t)) := fun c X W x K q => by
      obtain ⟨y, p, rfl, q'⟩ := uop_of q
      exact t_not (iha.t c X W _ K q')
    exact ⟨E, T, fun c X W op es pos K q => by
        obtain ⟨e, rfl, q'⟩ := one_of (show one (uop .Not ((kn a).t c)) es = true from q)
        have z := T c X W _ K q'
        cases op
        · exact t_and1 z
        · exact t_or1 z,
      fun c X W op es pos K q => by
        obtain ⟨e, rfl, q'⟩ := one_of (show one (uop .Not ((kn a).e c)) es = true from q)
        exact v_one (E c X W _ K q'),
      fun c X W es K q => nope q⟩
  | or a b iha ihb =>
    have hp : (hotP a && hotP b) = true := hp
    rw [Bool.and_eq_true] at hp
    have iha := iha hp.1
    have ihb := ihb hp.2
    have WT : ∀ (c : Ck) (X : Cx) (W : WX) (es : List Expr) (pos : Pos), CtxH c C X → two ((kn a).t c) ((kn b).w c .Or) es = true → PW X (.BoolOp .Or es pos) (upT X.K C W (dOrT (mn Γ gl a).t (mn Γ gl b).t)) := fun c X W es pos K q => by
      obtain ⟨x, y, r, rfl, h1, h2⟩ := two_of q
      exact t_or (iha.t c X W _ K h1) (ihb.w c X W .Or _ pos K h2)
    have VE : ∀ (c : Ck) (X : Cx) (W : WX) (es : List Expr) (pos : Pos), CtxH c C X → two ((kn a).e c) ((kn b).ve c .Or) es = true → PE X (.BoolOp .Or es pos) (up X.K C W (dOr (mn Γ gl a).e (mn Γ gl b).e)) := fun c X W es pos K q => by
      obtain ⟨x, y, r, rfl, h1, h2⟩ := two_of q
      exact v_or (iha.e c X W _ K h1) (ihb.ve c X W .Or _ pos K h2)
    have E : ∀ (c : Ck) (X : Cx) (W : WX) (x : Expr), CtxH c C X → bop .Or (two ((kn a).e c) ((kn b).ve c .Or)) x = true → PE X x (up X.K C W (dOr (mn Γ gl a).e (mn Γ gl b).e)) := fun c X W x K q => by
      obtain ⟨es, p, rfl, h⟩ := bop_of q
      exact VE c X W es p K h
    have T : ∀ (c : Ck) (X : Cx) (W : WX) (x : Expr), CtxH c C X → bop .Or (two ((kn a).t c) ((kn b).w c .Or)) x = true → PT X x (upT X.K C W (dOrT (mn Γ gl a).t (mn Γ gl b).t)) := fun c X W x K q => by
      obtain ⟨es, p, rfl, h⟩ := bop_of q
      exact (WT c X W es p K h).pt
    exact ⟨E, T, fun c X W op es pos K q => by
        have q : (one (bop .Or (two ((kn a).t c) ((kn b).w c .Or))) es || (decide (op = .Or) && two ((kn a).t c) ((kn b).w c .Or) es)) = true := q
        rw [Bool.or_eq_true] at q
        rcases q with q | q
        · obtain ⟨e, rfl, q'⟩ := one_of q
          have z := T c X W _ K q'
          cases op
          · exact t_and1 z
          · exact t_or1 z
        · rw [Bool.and_eq_true] at q
          have e := of_decide_eq_true q.1
          subst e
          exact WT c X W es pos K q.2,
      fun c X W op es pos K q => by
        have q : (one (bop .Or (two ((kn a).e c) ((kn b).ve c .Or))) es || (decide (op = .Or) && two ((kn a).e c) ((kn b).ve c .Or) es)) = true := q
        rw [Bool.or_eq_true] at q
        rcases q with q | q
        · obtain ⟨e, rfl, q'⟩ := one_of q
          exact v_one (E c X W _ K q')
        · rw [Bool.and_eq_true] at q
          have e := of_decide_eq_true q.1
          subst e
          exact VE c X W es pos K q.2,
      fun c X W es K q => nope q⟩
  | ix a b iha ihb =>
    have hp : (hotP a && hotP b) = true := hp
    rw [Bool.and_eq_true] at hp
    refine .of rfl rfl fun c X W x K q => ?_
    split at q
    · rename_i x y p
      simp only [Bool.and_eq_true] at q
      refine d_ix ((iha hp.1).e c X W _ K q.1.2) ((ihb hp.2).e c X W _ K q.2) ?_
      have h := q.1.1
      intro o i
      cases y <;> first | rfl | cases h
    · cases q
  | tup as ih =>
    refine .of rfl rfl fun c X W x K q => ?_
    split at q
    · exact d_tup ((ih hp).a c X W _ K q)
    · cases q
  | lst as ih =>
    refine .of rfl rfl fun c X W x K q => ?_
    split at q
    · exact d_lst ((ih hp).a c X W _ K q)
    · cases q
  | nil =>
    refine ⟨fun c X W x K q => nope q, fun c X W x K q => nope q, fun c X W op es pos K q => nope q, fun c X W op es pos K q => nope q, fun c X W es K q => ?_⟩
    cases es with
    | nil => exact d_nil
    | cons e es => cases q
  | cons a r iha ihr =>
    have hp : (hotP a && hotP r) = true := hp
    rw [Bool.and_eq_true] at hp
    refine ⟨fun c X W x K q => nope q, fun c X W x K q => nope q, fun c X W op es pos K q => nope q, fun c X W op es pos K q => nope q, fun c X W es K q => ?_⟩
    cases es with
    | nil => cases q
    | cons e es =>
      have q : (noStar e && (kn a).e c e && (kn r).a c es) = true := q
      simp only [Bool.and_eq_true] at q
      exact d_cons ((iha hp.1).e c X W _ K q.1.2) ((ihr hp.2).a c X W _ K q.2) (star_of q.1.1)
  | blt b as ih =>
    cases b with
    | len =>
      have ih := ih hp
      refine .of rfl rfl fun c X W x K q => ?_
      split at q
      · simp only [Bool.and_eq_true, decide_eq_true_eq] at q
        obtain ⟨g1, g2⟩ := K.glb q.1.1.1.1
        have hx := q.1.1.1.2
        subst hx
        exact d_callB c_len g1 (K.free _ (by decide)) (by decide +kernel) (ih.a c X W _ K q.2) (by decide) g2 (star_of q.1.1.2) (plain_star q.1.2)
      · cases q
    | _ => cases hp
  | isx ts a ih =>
    have ih := ih hp
    refine .of rfl rfl fun c X W x K q => ?_
    split at q
    · simp only [Bool.and_eq_true, decide_eq_true_eq] at q
      obtain ⟨⟨⟨⟨q1, q2⟩, q3⟩, q5⟩, q6⟩ := q
      split at q5
      · simp only [Bool.and_eq_true, decide_eq_true_eq] at q5
        obtain ⟨⟨e2, q7⟩, q8⟩ := q5
        subst q2
        obtain ⟨g1, g2⟩ := K.glb q1
        obtain ⟨a1, a2⟩ := hx_pe K (p := _) e2 q7 q8
        exact d_isx1 g1 (K.free _ (by decide)) (ih.e c X W _ K q6) a1 a2 (star_of q3) rfl
      · cases q5
    · simp only [Bool.and_eq_true, decide_eq_true_eq] at q
      obtain ⟨⟨⟨⟨⟨q1, q2⟩, q3⟩, q0⟩, q4⟩, q6⟩ := q
      subst q2
      obtain ⟨g1, g2⟩ := K.glb q1
      obtain ⟨a1, a2⟩ := hx_pes K q4
      refine d_isxT g1 (K.free _ (by decide)) (ih.e c X W _ K q6) a1 a2 ?_ (star_of q3) rfl
      exact Nat.le_trans (Nat.le_of_lt q0) (by decide +kernel)
    · cases q
  | _ => cases hp
end
end PP
namespace PP
open PySem PySem.Spec PyProof.Rows L2
section
variable {Γ : Nat → SpD} {gl : Nat → D} {C : Ex → Addr} {c : Ck} {X : Cx} {W : WX}
theorem CtxV.blk (K : CtxV c X) (scope : Scope) (s : Shared) (H : Hp) (A : Addr) (cl : List (Str × Addr)) (fp : List Addr) :
    CtxV (c.blk scope) (X.blk s H scope (compEnvC scope cl A X.env) fp) where
  N := K.N
  nd := K.nd
  sc := by
    show relS scope X.env.scope = relS scope c.sc
    rw [K.sc]
  hfn := fun x h => h
theorem CtxV.tgt {i : Nat} {x : Str} (K : CtxV c X) (h : c.tgt i x = true) : X.N[i]? = some x ∧ L2.Loc X.env.scope x ∧ (X.fn x = true ∨ X.env.scope.names.lookup x = some .local) := by
  unfold Ck.tgt at h
  simp only [Bool.and_eq_true, decide_eq_true_eq] at h
  obtain ⟨h1, h2⟩ := h
  refine ⟨by rw [K.N]; exact h1, ?_, ?_⟩
  · unfold L2.Loc
    rw [K.sc]
    split at h2
    · exact .inl (by assumption)
    · exact .inr (by assumption)
    · cases h2
  · rw [K.sc]
    split at h2
    · exact .inr (by assumption)
    · exact .inl (K.hfn _ h2)
    · cases h2
theorem tgF_of {tg : TgD} {e : Expr} (K : CtxV c X) (hot : HotF X) (h : tgOk c tg e = true) : PG X e (gUp X.K tg) := by
  unfold tgOk at h
  split at h
  · obtain ⟨h1, h2, h3⟩ := K.tgt h
    exact g_name K.nd h1 h2 h3
  · rename_i is es _ _
    have k : ∀ (is : List Nat) (es : List Expr), tgtsOk c is es = true → PGs X es (gNames is) ∧ (assignEach es X.env).length = is.length ∧ (assignEach es X.env).findIdx? (·.1) = none := by
      intro is
      induction is with
      | nil =>
        intro es h
        cases es with
        | nil => exact ⟨gs_nil, rfl, rfl⟩
        | cons e es => cases h
      | cons i is ih =>
        intro es h
        cases es with
        | nil => cases h
        | cons e es =>
          cases e with
          | Name x p =>
            have h : (c.tgt i x && tgtsOk c is es) = true := h
            simp only [Bool.and_eq_true] at h
            obtain ⟨h1, h2, h3⟩ := K.tgt h.1
            obtain ⟨k1, k2, k3⟩ := ih es h.2
            refine ⟨gs_cons (pg_name K.nd h1 h2 h3) k1 rfl, ?_, ?_⟩
            · show (assignEach _ X.env).length + 1 = _
              rw [k2] <;> rfl
            · show List.findIdx? _ ((false, _) :: assignEach _ X.env) = none
              rw [List.findIdx?_cons]
              simp only [Bool.false_eq_true, if_false]
              rw [k3] <;> rfl
          | _ => cases h
    obtain ⟨k1, k2, k3⟩ := k _ _ h
    exact gF_tup hot k1 k2 k3
  · cases h
def asgH (c : Ck) (tg : TgD) (e : PX) : Expr → Expr → Bool
  | .Name x p, .ListComp elt gs scope pos => (match tg with | .n i => decide (c.N[i]? = some x) | _ => false) && selfK c x p scope pos && (match e with | .comp own t2 (.overL (.v a)) (.v b) (.v d) => compE c own t2 (.overL (.v a)) (.v b) (.v d) (.ListComp elt gs scope pos) | _ => false)
  | .Name x p, v => noComp v && tgOk c tg (.Name x p) && (hotP e && (kn e).e c v)
  | _, _ => false
def knH : SX → Ck → List Stmt → Bool
  | .nil => fun c ss => ss.isEmpty
  | .asg tg e r => fun c ss => match ss with | .Assign [t] v _ :: ss => asgH c tg e t v && knH r c ss | _ => false
  | .ret e r => fun c ss => match ss with | .Return (some v) _ :: ss => hotP e && (kn e).e c v && knH r c ss | _ => false
  | .ite k t u r => fun c ss => match ss with | .If v a b _ :: ss => hotP k && (kn k).t c v && knH t c a && knH u c b && knH r c ss | _ => false
  | _ => fun _ _ => false
theorem compH_parts (K : CtxH c C X) {own : List Nat} {tg : TgD} {a b d : Nat} {elt : Expr} {gs : List Comprehension} {scope : Scope} {pos : Pos} (q : (kn (.comp own tg (.overL (.v a)) (.v b) (.v d))).e c (.ListComp elt gs scope pos) = true) :
    ∃ (tgE iter : Expr) (ifs : List Expr) (ow : List (Str × Nat)), gs = [⟨tgE, iter, ifs, 0⟩] ∧ ow.map (·.2) = own ∧ PIF X tgE iter (upI X.K C W (mn Γ gl (.overL (.v a))).i) ∧ BlkOk X.N X.env.scope scope ow ∧
    (∀ (s : Shared) (H : Hp) (A : Addr) (cl : List (Str × Addr)) (fp : List Addr), HotF (X.blk s H scope (compEnvC scope cl A X.env) fp) → PG (X.blk s H scope (compEnvC scope cl A X.env) fp) tgE (gUp X.K tg)) ∧
    (∀ (s : Shared) (H : Hp) (A : Addr) (cl : List (Str × Addr)) (fp : List Addr), PTs (X.blk s H scope (compEnvC scope cl A X.env) fp) ifs (upT X.K C W0 (mn Γ gl (.v b)).t)) ∧
    (∀ (s : Shared) (H : Hp) (A : Addr) (cl : List (Str × Addr)) (fp : List Addr), PE (X.blk s H scope (compEnvC scope cl A X.env) fp) elt (up X.K C W0 (mn Γ gl (.v d)).e)) ∧
    (∀ x, foldedSetIterable iter X.env x = pure x) ∧ ∀ i ∈ tg.slots, i ∈ ow.map (·.2) := by
  have q0 := q
  rw [kn.eq_def] at q
  dsimp only [Kn.of] at q
  split at q
  · rename_i elt' tgE iter ifs scope' pos' z
    cases z
    simp only [Bool.and_eq_true] at q
    obtain ⟨⟨⟨⟨⟨⟨q1, q2⟩, q3⟩, q4⟩, q5⟩, q6⟩, q7⟩ := q
    have eo : (own.map fun i => (c.N.getD i "", i)).map (·.2) = own := by
      rw [List.map_map]
      exact List.map_id _
    have q5' : (kn (.v a)).e c iter = true := q5
    refine ⟨tgE, iter, ifs, own.map fun i => (c.N.getD i "", i), rfl, eo, df_lst (h_var (Γ := Γ) (gl := gl) K.toCtxV q5'), (by rw [K.N, K.sc]; exact blkOk_by q1), fun s H A cl fp hot => tgF_of (K.toCtxV.blk scope s H A cl fp) hot q3, fun s H A cl fp => ?_, fun s H A cl fp => h_var (Γ := Γ) (gl := gl) (K.toCtxV.blk scope s H A cl fp) q6, set_of q4, ?_⟩
    · split at q7
      · rename_i z; exact absurd z (by simp)
      · cases q7
      · have q7 : ((kn (.v b)).e (c.blk scope) _ && tstOk _) = true := q7
        rw [Bool.and_eq_true] at q7
        exact pts_one (t_val (h_var (Γ := Γ) (gl := gl) (K.toCtxV.blk scope s H A cl fp) q7.1) (tst_of q7.2))
      · cases q7
    · intro i hi
      rw [eo]
      have := List.all_eq_true.mp q2 i hi
      simpa using this
  · cases q
theorem asgH_of (K : CtxH c C X) {tg : TgD} {e : PX} {t v : Expr} {pos : Pos} (h : asgH c tg e t v = true) : PS X (.Assign [t] v pos) (upS X.K C W (dAsg tg (mn Γ gl e).e)) := by
  unfold asgH at h
  split at h
  · rename_i x p elt gs scope pos'
    simp only [Bool.and_eq_true] at h
    obtain ⟨⟨h1, h2⟩, h3⟩ := h
    split at h1
    · rename_i i
      have h1 := of_decide_eq_true h1
      split at h3
      · rename_i own t2 a b d
        obtain ⟨tgE, iter, ifs, ow, rfl, rfl, p1, p2, p3, p4, p5, p6, p7⟩ := compH_parts (Γ := Γ) (gl := gl) (W := W) K h3
        unfold selfK at h2
        simp only [Bool.and_eq_true, Bool.not_eq_true'] at h2
        obtain ⟨⟨⟨a1, a2⟩, a3⟩, a4⟩ := h2
        have l2 : X.env.scope.names.lookup x = some .local := by
          unfold Ck.loc at a2
          rw [K.sc]
          split at a2
          · assumption
          · cases a2
        have f1 : X.env.scope.kind = .function := by
          unfold fnK at a1
          rw [K.sc]
          split at a1
          · assumption
          · cases a1
        exact sF_setLc K.hot K.nd (by rw [K.N]; exact h1) l2 (sw_true f1 l2 a3 a4) p1 p2 p3 p4 p5 p6 p7
      · cases h3
    · cases h1
  · simp only [Bool.and_eq_true] at h
    exact s_asg ((soundH e h.2.1).e c X W _ K h.2.2) (tgF_of K.toCtxV K.hot h.1.2) (sws_other h.1.1) sto_other rfl
  · cases h
theorem soundSH : ∀ (sx : SX) (c : Ck) (X : Cx) (W : WX) (ss : List Stmt), CtxH c C X → knH sx c ss = true → PSs X ss (upS X.K C W (mnS Γ gl sx)) := by
  intro sx
  induction sx with
  | nil =>
    intro c X W ss K h
    cases ss with
    | nil => exact s_nil
    | cons s ss => cases h
  | asg tg e r ih =>
    intro c X W ss K h
    unfold knH at h
    split at h
    · rw [Bool.and_eq_true] at h
      exact s_cons (asgH_of K h.1) (ih c X W _ K h.2)
    · cases h
  | ret e r ih =>
    intro c X W ss K h
    unfold knH at h
    split at h
    · simp only [Bool.and_eq_true] at h
      exact s_cons (s_ret ((soundH e h.1.1).e c X W _ K h.1.2)) (ih c X W _ K h.2)
    · cases h
  | ite k t u r ih1 ih2 ih =>
    intro c X W ss K h
    unfold knH at h
    split at h
    · simp only [Bool.and_eq_true] at h
      obtain ⟨⟨⟨⟨h0, h1⟩, h2⟩, h3⟩, h4⟩ := h
      exact s_cons (s_if ((soundH k h0).t c X W _ K h1) (ih1 c X W _ K h2) (ih2 c X W _ K h3)) (ih c X W _ K h4)
    · cases h
  | _ => intro c X W ss K h; cases h
end
end PP
namespace PP
open PySem PySem.Spec PyProof.Rows L2
def G.le (g g' : G) : Prop := ∀ a xs, g a = some xs → g' a = some xs
theorem G.le_refl (g : G) : g.le g := fun _ _ h => h
theorem G.le_trans {g g' g'' : G} (a : g.le g') (b : g'.le g'') : g.le g'' := fun _ _ h => b _ _ (a _ _ h)
theorem G.le_up {g g' : G} {p : Addr} {xs : List D} (h : g.le g') (hp : g p = none) : g.le (g'.up p xs) := fun b ys e => by
  unfold G.up
  split
  · rename_i z; subst z; rw [hp] at e; cases e
  · exact h _ _ e
theorem RepG.le {K : PySem.W.Frag} {H : Hp} {g g' : G} (h : RepG K H g') (l : g.le g') : RepG K H g := fun a ds e => h a ds (l a ds e)
def endsOf (Q : QD) (X : XD) : DEnds where
  nx := fun _ g' => ∃ g, g.le g' ∧ Q .non g
  rt := fun d g' => ∃ g, g.le g' ∧ Q d g
  ex := fun n _ g' => ∃ g, g.le g' ∧ X n g
def startD (N : List Str) (ds : List D) : Env := ds.map some ++ List.replicate (N.length - ds.length) none
theorem rep_start {K : PySem.W.Frag} {H : Hp} {N : List Str} {ds : List D} {vs : List V} (h : RepL K H ds vs) (hT : TbOk H) : RepE K H (startD N ds) (L2.start N vs) := by
  have hl := h.length
  refine ⟨by simp [startD, L2.start, hl], fun i d e => ?_, hT⟩
  unfold startD at e
  unfold L2.start
  by_cases hi : i < ds.length
  · rw [List.getElem?_append_left (by simpa using hi)] at e
    rw [List.getElem?_append_left (by simpa [hl] using hi)]
    rw [List.getElem?_map] at e ⊢
    cases q : ds[i]? with
    | none => rw [q] at e; cases e
    | some d' =>
      rw [q] at e
      cases e
      obtain ⟨v, e1, r⟩ := h.get q
      exact ⟨v, by rw [e1]; rfl, r⟩
  · rw [List.getElem?_append_right (by simpa using hi)] at e
    rw [List.getElem?_replicate] at e
    split at e <;> cases e
theorem FnOk.late {P : Program} {w : World} {K : PySem.W.Frag} {mg : Str → Option Value} {base : Heap} {CX : CXT} {k : Nat} {f : Addr} {fd : FuncData} {ps : List Str} {sp : Sp} (len : ∀ vs H Q E, sp vs H Q E → vs.length = ps.length)
    (h : Mod K mg base → FnOk P w K mg base CX k f fd ps sp) : FnOk P w K mg base CX k f fd ps sp :=
  ⟨len, fun A outer s H args us vs Q E hr e0 hb r hsp => (h e0.mod).run A outer s H args us vs Q E hr e0 hb r hsp⟩
structure Fnd (P : Program) (w : World) (K : PySem.W.Frag) (mg : Str → Option Value) (base : Heap) (C : Ex → Addr) (k : Nat) (x : Str) (sp : SpD) : Prop where
  ex : ∃ (f : Addr) (fd : FuncData) (ps : List Str), mg x = some (.ref f) ∧ PySem.W.keepIn K (.ref f) = true ∧ Binds K fd ps [] ∧ FnOk P w K mg base (L2N.CX P w) k f fd ps (liftSp K C sp)
structure ExF (K : PySem.W.Frag) (mg : Str → Option Value) (C : Ex → Addr) (n : Ex) : Prop where
  mg : mg n.nm = some (.ref (C n))
  keep : PySem.W.keepIn K (.ref (C n)) = true
  own : ∃ bm, ExcBaseFacts "ValueError" "ValueError.__new__" "ValueError.__init__" bm ∧ PySem.W.excIn K (C n) bm "ValueError.__new__" = true
  sub : PySem.W.subIn K (.ref (C n)) (.type "BaseException") = some true
  typ : PySem.W.typeIn K (.ref (C n)) = some (.type "type")
  ns : ExNs K n (C n)
  k : ExK K n (C n)
structure ModF (P : Program) (w : World) (K : PySem.W.Frag) (mg : Str → Option Value) (base : Heap) (C : Ex → Addr) (Γ : Nat → SpD) (gl : Nat → D) (fns gls : List (Nat × Str)) (exs : List Ex) (k : Nat) : Prop where
  seer : Mod K mg base → base.NoSeer
  tree : P.given.tree = none
  fns : ∀ i x, fns.lookup i = some x → Fnd P w K mg base C k x (Γ i)
  gls : ∀ i x, (i, x) ∈ gls → ∃ u v, mg x = some u ∧ RelV v u ∧ ∀ H, Rep K H (gl i) v
  free : ∀ x ∈ bltNames, mg (Str.ofString x) = none
  exs : ∀ n ∈ exs, ExF K mg C n
def ckOf (N : List Str) (sc : Scope) (fns gls : List (Nat × Str)) (exs : List Ex) : Ck := ⟨N, sc, fun _ => true, fns, gls, exs, [], none⟩
structure FndH (P : Program) (w : World) (K : PySem.W.Frag) (mg : Str → Option Value) (base : Heap) (C : Ex → Addr) (k : Nat) (x : Str) (sp : SpD) : Prop where
  ex : ∃ (f : Addr) (fd : FuncData) (ps : List Str), mg x = some (.ref f) ∧ PySem.W.keepIn K (.ref f) = true ∧ Binds K fd ps [] ∧ FnHF P w K mg base k f fd ps (liftSp K C sp)
def ckOf2 (N : List Str) (sc : Scope) (fns gls : List (Nat × Str)) (exs : List Ex) (hot : List (Nat × Str)) : Ck := { ckOf N sc fns gls exs with hot := hot }
section
variable {P : Program} {w : World} {K : PySem.W.Frag} {mg : Str → Option Value} {base : Heap} {C : Ex → Addr} {Γ : Nat → SpD} {gl : Nat → D} {fns gls : List (Nat × Str)} {exs : List Ex} {k : Nat}
theorem ok_def2 {hot : List (Nat × Str)} {x qual : Str} {params : Arguments} {body : List Stmt} {scope : Scope} {dvs : List V} {kws : List (Str × V)} {f : Addr} {fd : FuncData} {N ps : List Str} {sx : SX} {sp : SpD}
    (M : ModF P w K mg base C Γ gl fns gls exs k) (hk : 40 ≤ k) (F : FunD K x qual params body scope dvs kws f fd) (S : FnScope N ps scope) (HF : ∀ i x, hot.lookup i = some x → FndH P w K mg base C k x (Γ i)) (chk : knS sx (ckOf2 N scope fns gls exs hot) body = true)
    (len : ∀ ds g Q E, sp ds g Q E → ds.length = ps.length) (pure : ∀ ds g Q E, sp ds g Q E → mnS Γ gl sx (endsOf Q E) (startD N ds) g) : FnOk P w K mg base (L2N.CX P w) (k + 1) f fd ps (liftSp K C sp) := by
  have len' : ∀ vs H Q E, liftSp K C sp vs H Q E → vs.length = ps.length := fun vs H Q E ⟨ds, g, Qd, Xd, r, _, h, _⟩ => by rw [r.length, len _ _ _ _ h]
  refine FnOk.late len' fun hM => F.ok S len' fun cdv A outer s H vs Q E hr ⟨ds, g, Qd, Xd, r, rg, h, cl, cx, hT⟩ => ?_
  refine ⟨_, soundS (Γ := Γ) (gl := gl) (C := C) sx _ _ (fun cls d _ H => E cls d H) body ?_ chk, ?_⟩
  · refine ⟨⟨rfl, S.nd, rfl, rfl, ⟨M.seer hM, M.tree, hr.mono hk, ⟨_, outer, rfl, S.gen, S.co, rfl, rfl⟩⟩, fun _ _ => rfl, fun i y hy => ?_, M.gls, M.free, fun n hn => ⟨(M.exs n hn).mg, (M.exs n hn).ns, (M.exs n hn).k⟩, L2N.takes_of rfl rfl rfl rfl, fun x h => by cases h⟩, passes_of rfl, fun n hn => ?_, rfl, rfl, rfl, fun i y hy => ?_⟩
    · obtain ⟨f, fd, ps, h1, h2, h3, h4⟩ := (M.fns i y hy).ex
      exact ⟨ps, f, fd, k, h1, h2, h3, h4, hr⟩
    · have e := M.exs n hn
      exact ⟨e.mg, e.keep, e.own, raises_own e.sub e.typ⟩
    · obtain ⟨f, fd, ps, h1, h2, h3, h4⟩ := (HF i y hy).ex
      exact ⟨f, fd, ps, k, h1, h2, h3, h4, L2H.roomH_of hr⟩
  · refine ⟨startD N ds, g, endsOf Qd Xd, rep_start r hT, rg, pure _ _ _ _ h, ?_, ?_, ?_⟩
    · rintro env g' σ H' ⟨g0, l, q⟩ t r1 r2
      exact cl _ _ _ _ q t (r2.le l) rfl
    · rintro d g' v H' ⟨g0, l, q⟩ t r1 r2
      exact cl _ _ _ _ q t (r1.le l) r2
    · rintro n env g' σ H' ⟨g0, l, q⟩ t r1 r2
      exact cx _ _ _ q t (r2.le l)
theorem ok_def {x qual : Str} {params : Arguments} {body : List Stmt} {scope : Scope} {dvs : List V} {kws : List (Str × V)} {f : Addr} {fd : FuncData} {N ps : List Str} {sx : SX} {sp : SpD}
    (M : ModF P w K mg base C Γ gl fns gls exs k) (hk : 40 ≤ k) (F : FunD K x qual params body scope dvs kws f fd) (S : FnScope N ps scope) (chk : knS sx (ckOf N scope fns gls exs) body = true)
    (len : ∀ ds g Q E, sp ds g Q E → ds.length = ps.length) (pure : ∀ ds g Q E, sp ds g Q E → mnS Γ gl sx (endsOf Q E) (startD N ds) g) : FnOk P w K mg base (L2N.CX P w) (k + 1) f fd ps (liftSp K C sp) :=
  ok_def2 (hot := []) M hk F S (fun _ _ h => by cases h) chk len pure
theorem ok_defH {x qual : Str} {params : Arguments} {body : List Stmt} {scope : Scope} {dvs : List V} {kws : List (Str × V)} {f : Addr} {fd : FuncData} {N ps : List Str} {sx : SX} {sp : SpD}
    (M : ModF P w K mg base C Γ gl fns gls exs k) (F : FunD K x qual params body scope dvs kws f fd) (S : FnScope N ps scope) (chk : knH sx (ckOf N scope [] [] exs) body = true)
    (len : ∀ ds g Q E, sp ds g Q E → ds.length = ps.length) (pure : ∀ ds g Q E, sp ds g Q E → mnS Γ gl sx (endsOf Q E) (startD N ds) g) : FnHF P w K mg base (k + 1) f fd ps (liftSp K C sp) := by
  have len' : ∀ vs H Q E, liftSp K C sp vs H Q E → vs.length = ps.length := fun vs H Q E ⟨ds, g, Qd, Xd, r, _, h, _⟩ => by rw [r.length, len _ _ _ _ h]
  refine fnF_of F S len' fun cdv A outer s H vs Q a hr fr ⟨ds, g, Qd, Xd, r, rg, h, cl, cx, hT⟩ => ?_
  refine ⟨_, soundSH (Γ := Γ) (gl := gl) (C := C) (W := fun _ _ _ _ => False) sx _ _ body ?_ chk, ?_⟩
  · refine ⟨⟨rfl, S.nd, rfl, fun _ _ => rfl⟩, ⟨a, fr.hd, fr.ex⟩, ?_, M.free, fun n hn => ⟨(M.exs n hn).mg, (M.exs n hn).ns, (M.exs n hn).k⟩⟩
    have := hr.un
    show A.units + 3 + 65 < cLine
    omega
  · refine ⟨startD N ds, g, endsOf Qd Xd, rep_start r hT, rg, pure _ _ _ _ h, ?_, ?_, ?_⟩
    · rintro env g' σ H' ⟨g0, l, q⟩ t r1 r2
      exact cl _ _ _ _ q t (r2.le l) rfl
    · rintro d g' v H' ⟨g0, l, q⟩ t r1 r2
      exact cl _ _ _ _ q t (r1.le l) r2
    · rintro n env g' σ H' ⟨g0, l, q⟩ t r1 r2
      exact cx _ _ _ q t (r2.le l)
end
end PP
set_option maxHeartbeats 2000000
namespace PP
open PySem PySem.Spec PyProof.Rows L2
def atomB : D → Value → Bool
  | .int i, .int j _ => decide (i = j)
  | .str x, .str y _ => decide (x = y)
  | .bl b, .bool c => b == c
  | .non, .none => true
  | _, _ => false
def atomV : D → V
  | .int i => .int i
  | .str x => .str x
  | .bl b => .bl b
  | _ => .non
def atomsB : List D → List Value → Bool
  | [], [] => true
  | d :: ds, u :: us => atomB d u && atomsB ds us
  | _, _ => false
def conB (K : PySem.W.Frag) : D → Value → Bool
  | .tup ds, .ref a => (match K.lookup a with
    | some ⟨.type c, _, .seq its _, _⟩ => decide (c = "tuple") && (decide (its.size ≤ sizeLine) && atomsB ds its.toList)
    | _ => false)
  | d, u => atomB d u
theorem atom_ok {d : D} {u : Value} (h : atomB d u = true) : RelV (atomV d) u ∧ ∀ K H, Rep K H d (atomV d) := by
  unfold atomB at h
  split at h
  · have e := of_decide_eq_true h
    subst e
    exact ⟨⟨_, rfl⟩, fun _ _ => rfl⟩
  · have e := of_decide_eq_true h
    subst e
    exact ⟨⟨_, rfl⟩, fun _ _ => rfl⟩
  · have e := eq_of_beq h
    subst e
    exact ⟨rfl, fun _ _ => rfl⟩
  · exact ⟨rfl, fun _ _ => rfl⟩
  · cases h
theorem atoms_ok : ∀ {ds : List D} {us : List Value}, atomsB ds us = true → Vals (ds.map atomV) us ∧ ∀ K H, RepL K H ds (ds.map atomV)
  | [], [], _ => ⟨.nil, fun _ _ => rfl⟩
  | [], _ :: _, h => by cases h
  | _ :: _, [], h => by cases h
  | d :: ds, u :: us, h => by
    have h : (atomB d u && atomsB ds us) = true := h
    rw [Bool.and_eq_true] at h
    obtain ⟨a, b⟩ := atom_ok h.1
    obtain ⟨c, e⟩ := atoms_ok h.2
    exact ⟨.cons a c, fun K H => ⟨_, _, rfl, b K H, e K H⟩⟩
theorem con_ok {K : PySem.W.Frag} {d : D} {u : Value} (h : conB K d u = true) : ∃ v, RelV v u ∧ ∀ H, Rep K H d v := by
  unfold conB at h
  split at h
  · rename_i ds a
    split at h
    · rename_i c od its n osl q
      simp only [Bool.and_eq_true, decide_eq_true_eq] at h
      obtain ⟨h1, h2, h3⟩ := h
      subst h1
      obtain ⟨r, e⟩ := atoms_ok h3
      exact ⟨.ref a, rfl, fun H => ⟨a, _, rfl, .inr ⟨_, its, n, q, rfl, rfl, h2, r⟩, e K H⟩⟩
    · cases h
  · obtain ⟨a, b⟩ := atom_ok h
    exact ⟨_, a, fun H => b K H⟩
def glB (K : PySem.W.Frag) (p : Str × D) : Bool := match PySem.W.nsIn K mainGlobals p.1 with
  | some (some u) => conB K p.2 u
  | _ => false
theorem gl_ok {K : PySem.W.Frag} {h : Heap} {mg : Str → Option Value} (X : K.In h) (G : h.Ns mainGlobals mg) {p : Str × D} (c : glB K p = true) : ∃ u v, mg p.1 = some u ∧ RelV v u ∧ ∀ H, Rep K H p.2 v := by
  unfold glB at c
  split at c
  · rename_i u e
    obtain ⟨v, r, rr⟩ := con_ok c
    exact ⟨u, v, PySem.W.mg_of X G e, r, rr⟩
  · cases c
def bmB (K : PySem.W.Frag) : Bool := match PySem.W.nsIn K mainGlobals "__builtins__" with
  | some (some (.ref b)) => (K.lookup b).isSome
  | _ => false
def seerB (K : PySem.W.Frag) : Bool := (K.lookup cStatics).isSome && (K.lookup sysModules).isSome && bmB K
theorem ns_back {K : PySem.W.Frag} {h base : Heap} {a : Addr} {m : Str → Option Value} (X : K.In h) (Y : K.In base) (s : (K.lookup a).isSome = true) (n : h.Ns a m) : base.Ns a m := by
  obtain ⟨o, es, ep, e, r⟩ := n
  obtain ⟨o', e'⟩ := Option.isSome_iff_exists.mp s
  have z := X _ _ e'
  rw [e] at z
  cases z
  exact ⟨o, es, ep, Y _ _ e', r⟩
theorem seer_of {K : PySem.W.Frag} {h base : Heap} {mg : Str → Option Value} (X : K.In h) (G : h.Ns mainGlobals mg) (S : h.NoSeer) (c : seerB K = true) (M : Mod K mg base) : base.NoSeer := by
  unfold seerB at c
  simp only [Bool.and_eq_true] at c
  obtain ⟨⟨c1, c2⟩, c3⟩ := c
  refine ⟨?_, ?_, M.blt, ?_⟩
  · obtain ⟨mc, n, r⟩ := S.statics
    exact ⟨mc, ns_back X M.kin c1 n, r⟩
  · obtain ⟨mc, n, r⟩ := S.mods
    exact ⟨mc, ns_back X M.kin c2 n, r⟩
  · obtain ⟨mg', bm, ob, n, e, g, r⟩ := S.main
    unfold bmB at c3
    split at c3
    · rename_i b q
      have e1 := PySem.W.mg_of X n q
      rw [e] at e1
      cases e1
      obtain ⟨o', e'⟩ := Option.isSome_iff_exists.mp c3
      have z := X _ _ e'
      rw [g] at z
      cases z
      exact ⟨mg, _, ob, M.glob, PySem.W.mg_of X G q, M.kin _ _ e', r⟩
    · cases c3
def excCB (K : PySem.W.Frag) (D : Addr) : Bool :=
  decide (PySem.W.findIn K (.ref D) "__getattribute__" = some (some (.builtin "BaseException.__getattribute__"))) && (decide (PySem.W.findIn K (.ref D) "__getattr__" = some none) && (decide (PySem.W.subIn K (.ref D) (.type "BaseException") = some true) && (PySem.W.hasDictIn K D && (decide (PySem.W.findIn K (.ref D) "__class__" = some (some (.builtin "object.__class__"))) && (decide (PySem.W.specialIn K (.builtin "object.__class__") "__get__" = some (some (.builtin "getset_descriptor.__get__"))) && (decide (PySem.W.takesIn K (.builtin "object.__class__") = some true) && decide (PySem.W.mroIn K D (.type "object") = some true)))))))
theorem excC_ok {K : PySem.W.Frag} {D : Addr} (c : excCB K D = true) : ExcC K D := by
  unfold excCB at c
  simp only [Bool.and_eq_true, decide_eq_true_eq] at c
  obtain ⟨c1, c2, c3, c4, c5, c6, c7, c8⟩ := c
  exact ⟨c1, c2, c3, c4, c5, c6, c7, c8⟩
def pairB (K : PySem.W.Frag) (n : Ex) (c : Addr) (m : Ex) : Bool := match PySem.W.nsIn K mainGlobals (Str.ofString m.nm) with
  | some (some (.ref c')) => decide (PySem.W.kitOne K (.ref c) (.ref c') = some (n.sub m)) && decide (PySem.W.exmOne K (.ref c) (.ref c') = some (n.sub m))
  | _ => true
def exB (K : PySem.W.Frag) (n : Ex) : Bool := excCB K (He.ga K (Str.ofString n.nm)) && (decide (PySem.W.kitOne K (.ref (He.ga K (Str.ofString n.nm))) (.type "ValueError") = some true) && Ex.all.all fun m => pairB K n (He.ga K (Str.ofString n.nm)) m)
theorem ex_ok {K : PySem.W.Frag} {n : Ex} (c : exB K n = true) : ExK K n (He.ga K (Str.ofString n.nm)) := by
  unfold exB at c
  simp only [Bool.and_eq_true, decide_eq_true_eq] at c
  obtain ⟨c1, c2, c3⟩ := c
  have p : ∀ m c', ExNs K m c' → PySem.W.kitOne K (.ref (He.ga K (Str.ofString n.nm))) (.ref c') = some (n.sub m) ∧ PySem.W.exmOne K (.ref (He.ga K (Str.ofString n.nm))) (.ref c') = some (n.sub m) := fun m c' e => by
    have z := List.all_eq_true.mp c3 m (Ex.mem_all m)
    unfold pairB at z
    rw [show PySem.W.nsIn K mainGlobals (Str.ofString m.nm) = some (some (.ref c')) from e] at z
    simpa using z
  exact ⟨excC_ok c1, fun m c' e => (p m c' e).1, fun m c' e => (p m c' e).2, c2⟩
abbrev AlP : Type := He.AlD × Bool
def obsP (fa : List He.Fa) (fn : List He.DefD) (tb : List (Str × D)) (ex : List Ex) (K : PySem.W.Frag) : AlP := (He.obsD fa fn K, seerB K && ((tb.all fun p => glB K p) && ex.all fun n => exB K n))
def obsPG (n : Nat) (fa : List He.Fa) (fn : List He.DefD) (tb : List (Str × D)) (ex : List Ex) (g : Addr → Option Obj) : AlP := obsP fa fn tb ex (He.frG g (He.asD g n ++ [cStatics, sysModules]))
def SaysP (fa : List He.Fa) (fn : List He.DefD) (tb : List (Str × D)) (ex : List Ex) (K : PySem.W.Frag) : Prop := obsP fa fn tb ex K = (He.valD fn, true)
def hookP (n : Nat) (fa : List He.Fa) (fn : List He.DefD) (tb : List (Str × D)) (ex : List Ex) : PySem.W.Hook where
  α := AlP
  obs := fun s => obsPG n fa fn tb ex s.heap.get?
  val := fun _ => (He.valD fn, true)
  says := fun _ h => ∃ K : PySem.W.Frag, K.In h ∧ SaysP fa fn tb ex K
  of := fun _ _ e => ⟨_, He.frG_in, e⟩
  keeps := fun _ _ _ ⟨K, hK, c⟩ k => ⟨K, PySem.W.Frag.In.keeps hK k, c⟩
theorem obsPG_eq {n : Nat} {fa : List He.Fa} {fn : List He.DefD} {tb : List (Str × D)} {ex : List Ex} {g : Addr → Option Obj} {s : Shared} (h : ∀ a, g a = s.heap.get? a) : obsPG n fa fn tb ex g = (hookP n fa fn tb ex).obs s := by
  have e : g = s.heap.get? := funext h
  rw [e] <;> rfl
section
variable {fa : List He.Fa} {fn : List He.DefD} {tb : List (Str × D)} {ex : List Ex} {K : PySem.W.Frag}
theorem SaysP.d (c : SaysP fa fn tb ex K) : He.SaysD fa fn K := congrArg Prod.fst c
theorem SaysP.all (c : SaysP fa fn tb ex K) : (seerB K && ((tb.all fun p => glB K p) && ex.all fun n => exB K n)) = true := congrArg Prod.snd c
theorem SaysP.seer (c : SaysP fa fn tb ex K) : seerB K = true := (Bool.and_eq_true_iff.mp c.all).1
theorem SaysP.gl (c : SaysP fa fn tb ex K) (i : Nat) {p : Str × D} (h : tb[i]? = some p) : glB K p = true :=
  List.all_eq_true.mp (Bool.and_eq_true_iff.mp (Bool.and_eq_true_iff.mp c.all).2).1 p (List.mem_of_getElem? h)
theorem SaysP.exB (c : SaysP fa fn tb ex K) {n : Ex} (h : n ∈ ex) : exB K n = true :=
  List.all_eq_true.mp (Bool.and_eq_true_iff.mp (Bool.and_eq_true_iff.mp c.all).2).2 n h
end
theorem walk_P {l : PySem.W.OpenLaw} {n k : Nat} {q : Program} {loose : List Str} {XP : (Str → Option Value) → Heap → Prop} {YP : World → Heap → Prop} {d : DefRec} {x : Str}
    (hn : l.most = some n) (hn2 : n ≤ sizeLine) (hdf : d.params.defaults = []) (hr : Room k callerA) (hi : importsNone q = true)
    (F : ∀ (w : World) (mg : Str → Option Value) (fa : Addr) (h : Heap), YP w h → h.Ns mainGlobals mg → mg d.name = some (.ref fa) → h.NoSeer →
      ∃ (K : PySem.W.Frag) (fd : FuncData) (sp : Sp), K.In h ∧ (∀ (s : Shared) (u : Value), BindsTo s fd ⟨[u], []⟩ [(x, u)]) ∧
        (∀ (H : Hp) (a : Addr) (ns : List Int), ns.length ≤ n → (∀ z ∈ ns, Builtin.Int.intBits z ≤ 1048576) → Only H → SqL K H a (ns.map V.int) → sp [.ref a] H (fun v _ => v = .bl true) fun _ _ _ => False) ∧
        ∀ base : Heap, K.In base → base.Ns mainGlobals mg → FnOk l.prog w K mg base (L2N.CX l.prog w) k fa fd [x] sp) :
    PySem.W.WalkO q loose XP YP l.row.toRowW d [] (fun f vs => PySem.call f vs) := by
  refine Att.attach_callB hn hdf fun w s₀ s₁ mg mb fa o pm cd doc a vs ns G Y ho hd hcd hmg hobj hints hlen hbits hg => ?_
  obtain ⟨K, fd, sp, KX, hb, hsp, hF⟩ := F w mg fa _ Y G.T.g hmg (G.T.seer hi)
  exact law_call KX G.T.g G.T.b G.T.builtins G.T.nolimit hg hobj hints (Nat.le_trans hlen hn2) hr hF hb (fun H hO hS => hsp H a ns hlen hbits hO hS) fun H e s' z => by
    obtain ⟨_, _, _, _, _, _, _, _, _, _, _, _, h⟩ := z
    exact h
end PP
namespace PP
open PySem PySem.Spec PyProof.Rows L2
theorem Fnd.mono {P : Program} {w : World} {K : PySem.W.Frag} {mg : Str → Option Value} {base : Heap} {C : Ex → Addr} {j k : Nat} {x : Str} {sp : SpD} (F : Fnd P w K mg base C j x sp) (h : j ≤ k) : Fnd P w K mg base C k x sp := by
  obtain ⟨f, fd, ps, h1, h2, h3, h4⟩ := F.ex
  exact ⟨f, fd, ps, h1, h2, h3, h4.mono h⟩
abbrev FnP (K : PySem.W.Frag) (x : Str) (st : Stmt) (f : Addr) (fd : FuncData) : Prop := FunD K x x (defArgs st) (defBody st) (defScope st) [] [] f fd
structure DefOk (Γ : Nat → SpD) (gl : Nat → D) (fns gls : List (Nat × Str)) (exs : List Ex) (st : Stmt) (sp : SpD) : Prop where
  ex : ∃ (N ps : List Str) (sx : SX), FnScope N ps (defScope st) ∧ knS sx (ckOf N (defScope st) fns gls exs) (defBody st) = true ∧
    (∀ (x : Str) (K : PySem.W.Frag) (f : Addr) (fd : FuncData), FnP K x st f fd → Binds K fd ps []) ∧ (∀ ds g Q E, sp ds g Q E → ds.length = ps.length) ∧
    ∀ ds g Q E, sp ds g Q E → mnS Γ gl sx (endsOf Q E) (startD N ds) g
section
variable {P : Program} {w : World} {K : PySem.W.Frag} {mg : Str → Option Value} {base : Heap} {C : Ex → Addr} {Γ : Nat → SpD} {gl : Nat → D} {fns gls : List (Nat × Str)} {exs : List Ex} {k : Nat}
theorem chain (i : Nat) {x : Str} {st : Stmt} {f : Addr} {fd : FuncData} (M : ModF P w K mg base C Γ gl fns gls exs k) (hk : Nat.ble 40 k = true) (F : FnP K x st f fd) (hm : mg x = some (.ref f)) (D : DefOk Γ gl fns gls exs st (Γ i)) :
    ModF P w K mg base C Γ gl ((i, x) :: fns) gls exs (k + 1) := by
  obtain ⟨N, ps, sx, S, chk, hb, len, pure⟩ := D.ex
  have hk := Nat.le_of_ble_eq_true hk
  refine ⟨M.seer, M.tree, fun j y hy => ?_, M.gls, M.free, M.exs⟩
  rw [List.lookup_cons] at hy
  split at hy
  · rename_i e
    have e := eq_of_beq e
    cases hy
    subst e
    exact ⟨f, fd, ps, hm, F.kp, hb _ _ _ _ F, ok_def M hk F S chk len pure⟩
  · exact (M.fns j y hy).mono (Nat.le_succ k)
end
structure DefOk2 (Γ : Nat → SpD) (gl : Nat → D) (fns gls : List (Nat × Str)) (exs : List Ex) (hot : List (Nat × Str)) (st : Stmt) (sp : SpD) : Prop where
  ex : ∃ (N ps : List Str) (sx : SX), FnScope N ps (defScope st) ∧ knS sx (ckOf2 N (defScope st) fns gls exs hot) (defBody st) = true ∧
    (∀ (x : Str) (K : PySem.W.Frag) (f : Addr) (fd : FuncData), FnP K x st f fd → Binds K fd ps []) ∧ (∀ ds g Q E, sp ds g Q E → ds.length = ps.length) ∧
    ∀ ds g Q E, sp ds g Q E → mnS Γ gl sx (endsOf Q E) (startD N ds) g
structure DefOkH (Γ : Nat → SpD) (gl : Nat → D) (exs : List Ex) (st : Stmt) (sp : SpD) : Prop where
  ex : ∃ (N ps : List Str) (sx : SX), FnScope N ps (defScope st) ∧ knH sx (ckOf N (defScope st) [] [] exs) (defBody st) = true ∧
    (∀ (x : Str) (K : PySem.W.Frag) (f : Addr) (fd : FuncData), FnP K x st f fd → Binds K fd ps []) ∧ (∀ ds g Q E, sp ds g Q E → ds.length = ps.length) ∧
    ∀ ds g Q E, sp ds g Q E → mnS Γ gl sx (endsOf Q E) (startD N ds) g
section
variable {P : Program} {w : World} {K : PySem.W.Frag} {mg : Str → Option Value} {base : Heap} {C : Ex → Addr} {Γ : Nat → SpD} {gl : Nat → D} {fns gls : List (Nat × Str)} {exs : List Ex} {k : Nat}
theorem ModF.up (M : ModF P w K mg base C Γ gl fns gls exs k) : ModF P w K mg base C Γ gl fns gls exs (k + 1) :=
  ⟨M.seer, M.tree, fun j y hy => (M.fns j y hy).mono (Nat.le_succ k), M.gls, M.free, M.exs⟩
theorem FndH.mono {j k : Nat} {x : Str} {sp : SpD} (F : FndH P w K mg base C j x sp) (h : Nat.ble j k = true) : FndH P w K mg base C k x sp := by
  obtain ⟨f, fd, ps, h1, h2, h3, h4⟩ := F.ex
  have h := Nat.le_of_ble_eq_true h
  exact ⟨f, fd, ps, h1, h2, h3, h4.len, fun A outer s H args us vs Q a hr fr e0 hb r hsp => h4.run A outer s H args us vs Q a (hr.mono h) fr e0 hb r hsp⟩
theorem hot1 {i : Nat} {x : Str} (h : FndH P w K mg base C k x (Γ i)) : ∀ j y, ([(i, x)] : List (Nat × Str)).lookup j = some y → FndH P w K mg base C k y (Γ j) := fun j y hy => by
  rw [List.lookup_cons] at hy
  split at hy
  · rename_i e
    have e := eq_of_beq e
    cases hy
    subst e
    exact h
  · cases hy
theorem chainH {sp : SpD} {x : Str} {st : Stmt} {f : Addr} {fd : FuncData} (M : ModF P w K mg base C Γ gl fns gls exs k) (F : FnP K x st f fd) (hm : mg x = some (.ref f)) (D : DefOkH Γ gl exs st sp) : FndH P w K mg base C (k + 1) x sp := by
  obtain ⟨N, ps, sx, S, chk, hb, len, pure⟩ := D.ex
  exact ⟨f, fd, ps, hm, F.kp, hb _ _ _ _ F, ok_defH M F S chk len pure⟩
theorem chain2 {hot : List (Nat × Str)} (i : Nat) {x : Str} {st : Stmt} {f : Addr} {fd : FuncData} (M : ModF P w K mg base C Γ gl fns gls exs k) (hk : Nat.ble 40 k = true) (HF : ∀ i x, hot.lookup i = some x → FndH P w K mg base C k x (Γ i)) (F : FnP K x st f fd) (hm : mg x = some (.ref f)) (D : DefOk2 Γ gl fns gls exs hot st (Γ i)) :
    ModF P w K mg base C Γ gl ((i, x) :: fns) gls exs (k + 1) := by
  obtain ⟨N, ps, sx, S, chk, hb, len, pure⟩ := D.ex
  have hk := Nat.le_of_ble_eq_true hk
  refine ⟨M.seer, M.tree, fun j y hy => ?_, M.gls, M.free, M.exs⟩
  rw [List.lookup_cons] at hy
  split at hy
  · rename_i e
    have e := eq_of_beq e
    cases hy
    subst e
    exact ⟨f, fd, ps, hm, F.kp, hb _ _ _ _ F, ok_def2 M hk F S HF chk len pure⟩
  · exact (M.fns j y hy).mono (Nat.le_succ k)
end
def spLaw : SpD := fun ds g Q _ => ∃ ns : List Int, ds = [.scr ns] ∧ ns.length ≤ 63 ∧ (∀ z ∈ ns, Builtin.Int.intBits z ≤ 1048576) ∧ (∀ a, g a = none) ∧ Q (.bl true) g
theorem law_end {K : PySem.W.Frag} {C : Ex → Addr} {H : Hp} {a : Addr} {ns : List Int} (hl : ns.length ≤ 63) (hb : ∀ z ∈ ns, Builtin.Int.intBits z ≤ 1048576) (hO : Only H) (hT : TbOk H) (hS : SqL K H a (ns.map V.int)) :
    liftSp K C spLaw [.ref a] H (fun v _ => v = .bl true) fun _ _ _ => False := by
  refine ⟨[.scr ns], fun _ => none, fun d _ => d = .bl true, fun _ _ => False, ⟨.ref a, [], rfl, ⟨a, rfl, ?_⟩, rfl⟩, fun _ _ e => (by cases e), ⟨ns, rfl, hl, hb, fun _ => rfl, rfl⟩, fun d g v H' e _ _ r => (by subst e; exact r), fun _ _ _ z => z.elim, hT⟩
  rcases hS with (h | ⟨o, h⟩) | h
  · rcases hO a with z | ⟨o, xs, z⟩
    · rw [h] at z; cases z
    · rw [h] at z; cases z
  · exact .inl ⟨o, h⟩
  · exact .inr h
theorem mod0 {P : Program} {w : World} {K : PySem.W.Frag} {mg : Str → Option Value} {h base : Heap} {Γ : Nat → SpD} {gl : Nat → D} {gls : List (Nat × Str)} {exs : List Ex} {fa : List He.Fa} {fn : List He.DefD} {tb : List (Str × D)}
    (X : K.In h) (G : h.Ns mainGlobals mg) (S : h.NoSeer) (c : SaysP fa fn tb exs K) (ht : P.given.tree = none)
    (htb : gls.map (fun p => (p.2, gl p.1)) = tb) (hfree : bltNames.map (fun x => He.Fa.free (Str.ofString x)) <+: fa)
    (hex : ∀ n ∈ exs, He.Fa.glo (Str.ofString n.nm) ∈ fa ∧ He.Fa.exc (Str.ofString n.nm) ∈ fa) :
    ModF P w K mg base (fun n => He.ga K (Str.ofString n.nm)) Γ gl [] gls exs 40 := by
  have fact : ∀ f ∈ fa, f.ok K = true := fun f hf => by
    obtain ⟨i, e⟩ := List.mem_iff_getElem?.mp hf
    exact c.d.fact i e
  refine ⟨fun M => seer_of X G S c.seer M, ht, fun i x e => (by cases e), fun i x hx => ?_, fun x hx => ?_, fun n hn => ?_⟩
  · have hm : (x, gl i) ∈ tb := by
      rw [← htb]
      exact List.mem_map.mpr ⟨(i, x), hx, rfl⟩
    obtain ⟨j, e⟩ := List.mem_iff_getElem?.mp hm
    exact gl_ok X G (c.gl j e)
  · exact He.free_ok X G (fact _ (hfree.subset (List.mem_map.mpr ⟨x, hx, rfl⟩)))
  · obtain ⟨h1, h2⟩ := hex n hn
    obtain ⟨a, b, d, e⟩ := He.exc_ok (fact _ h2)
    exact ⟨He.glo_ok X G (fact _ h1), b, ⟨_, F.excBase_ValueError, a⟩, d, e, He.eqO_ok (fact _ h1), ex_ok (c.exB hn)⟩
end PP
namespace PP
open PySem PySem.Spec PyProof.Rows L2
end PP
namespace PP
open PySem PySem.Spec PyProof.Rows L2
end PP
namespace PP
open PySem PySem.Spec PyProof.Rows L2
theorem G_up_same {g : G} {a : Addr} {xs : List D} : (g.up a xs) a = some xs := by simp [G.up]
theorem G_up_ne {g : G} {a b : Addr} {xs : List D} (h : b ≠ a) : (g.up a xs) b = g b := by simp [G.up, h]
theorem G_up_up {g : G} {a : Addr} {xs ys : List D} : (g.up a xs).up a ys = g.up a ys := by
  funext b; unfold G.up; split <;> rfl
theorem ne_of_known {g : G} {a p : Addr} {xs : List D} (h : g a = some xs) (hp : g p = none) : a ≠ p := fun e => by rw [e, hp] at h; cases h
theorem G_up_fresh {g : G} {a p : Addr} {xs ys : List D} (hp : g p = none) (h : g a = some xs) : (g.up p ys) a = some xs := by rw [G_up_ne (ne_of_known h hp)]; exact h
theorem G_up_none {g : G} {a b : Addr} {xs : List D} : ((g.up a xs) b = none) = (b ≠ a ∧ g b = none) := by
  unfold G.up
  by_cases h : b = a
  · simp [h]
  · simp [h]
theorem startD_len {N M : List Str} {ds : List D} (h : N.length = M.length) : startD N ds = startD M ds := by unfold startD; rw [h]
theorem sl0 : ((0 : Nat) ≤ sizeLine) = True := eq_true (by decide +kernel)
theorem sl1 : ((1 : Nat) ≤ sizeLine) = True := eq_true (by decide +kernel)
theorem sl2 : ((2 : Nat) ≤ sizeLine) = True := eq_true (by decide +kernel)
theorem sl3 : ((3 : Nat) ≤ sizeLine) = True := eq_true (by decide +kernel)
theorem sl4 : ((4 : Nat) ≤ sizeLine) = True := eq_true (by decide +kernel)
theorem slN {n : Nat} (h : n ≤ 1000) : n ≤ sizeLine := Nat.le_trans h (by decide +kernel)
section
variable {g : G} {Q : QD} {i j : Int} {a b : Addr} {xs ys : List D}
theorem add_int : dAdd (.int i) (.int j) g Q = Q (.int (i + j)) g := rfl
theorem add_tup : dAdd (.tup xs) (.tup ys) g Q = (xs.length + ys.length ≤ sizeLine ∧ Q (.tup (xs ++ ys)) g) := rfl
theorem sub_int : dSub (.int i) (.int j) g Q = Q (.int (i - j)) g := rfl
theorem mul_int : dMul (.int i) (.int j) g Q = (MulOk i j ∧ Q (.int (i * j)) g) := rfl
theorem mul_tup {k : Int} : dMul (.tup xs) (.int k) g Q = (xs ≠ [] ∧ 0 ≤ k ∧ k ≤ 1000 ∧ xs.length ≤ 1000 ∧ Q (.tup (repD k xs)) g) := rfl
theorem pow_int : dPow (.int i) (.int j) g Q = ((0 ≤ j ∧ j ≤ 1000000 ∧ i.natAbs < 2 ^ 64) ∧ Q (.int (i ^ j.toNat)) g) := rfl
theorem mod_int : dMod (.int i) (.int j) g Q = (j ≠ 0 ∧ Q (.int (i.fmod j)) g) := rfl
theorem fdiv_int : dFdiv (.int i) (.int j) g Q = (j ≠ 0 ∧ Q (.int (i.fdiv j)) g) := rfl
theorem lt_int : dLt (.int i) (.int j) g Q = Q (.bl (decide (i < j))) g := rfl
theorem le_int : dLe (.int i) (.int j) g Q = Q (.bl (decide (i ≤ j))) g := rfl
theorem gt_int : dGt (.int i) (.int j) g Q = Q (.bl (decide (j < i))) g := rfl
theorem ge_int : dGe (.int i) (.int j) g Q = Q (.bl (decide (j ≤ i))) g := rfl
theorem eq_int {n : Bool} : dEqB n (.int i) (.int j) g Q = Q (.bl (n != decide (i = j))) g := rfl
theorem neg_int : dNeg (.int i) g Q = Q (.int (-i)) g := rfl
theorem len_tup : dLen [.tup xs] g Q = Q (.int xs.length) g := rfl
theorem len_scr {ns : List Int} : dLen [.scr ns] g Q = Q (.int ns.length) g := rfl
theorem abs_int : dAbs [.int i] g Q = Q (.int (i.natAbs : Int)) g := rfl
theorem max_int : dMax [.int i, .int j] g Q = Q (.int (max i j)) g := rfl
theorem min_int : dMin [.int i, .int j] g Q = Q (.int (min i j)) g := rfl
theorem int_int : dInt [.int i] g Q = Q (.int i) g := rfl
theorem int_bl {k : Bool} : dInt [.bl k] g Q = Q (.int (if k then 1 else 0)) g := rfl
theorem r1_int {R : List D → (G → Prop) → G → Prop} : dRange1 (.int j) g R = ((-(2 ^ 62) ≤ j ∧ j < 2 ^ 62) ∧ R (rangeD 0 j.toNat) (fun _ => True) g) := rfl
theorem r2_int {R : List D → (G → Prop) → G → Prop} : dRange2 (.int i) (.int j) g R = ((-(2 ^ 62) ≤ i ∧ i < 2 ^ 62 ∧ -(2 ^ 62) ≤ j ∧ j < 2 ^ 62) ∧ R (rangeD i (j - i).toNat) (fun _ => True) g) := rfl
theorem tuple_tup : dTuple [.tup xs] g Q = Q (.tup xs) g := rfl
theorem list_tup : dList [.tup xs] g Q = ∀ p, g p = none → Q (.ref p) (g.up p xs) := rfl
theorem over_tup {R : List D → (G → Prop) → G → Prop} : dOver (.tup xs) g R = R xs (fun _ => True) g := rfl
theorem rev_tup {R : List D → (G → Prop) → G → Prop} : dRev (.tup xs) g R = R xs.reverse (fun _ => True) g := rfl
theorem enum_tup {R : List D → (G → Prop) → G → Prop} : dEnum (.tup xs) g R = R (enumD xs) (fun _ => True) g := rfl
theorem zip_tup {R : List D → (G → Prop) → G → Prop} : dZip (.tup xs) (.tup ys) g R = R (zipD xs ys) (fun _ => True) g := rfl
theorem slc_tup {lo hi : Option Int} : dSl (.tup xs) lo hi g Q = Q (.tup (cut xs lo hi)) g := rfl
theorem ix_tup : dIx (.tup xs) (.int i) g Q = (match atI xs i with | some d => Q d g | none => False) := rfl
theorem ix_scr {ns : List Int} : dIx (.scr ns) (.int i) g Q = (match atI ns i with | some n => Q (.int n) g | none => False) := rfl
theorem set_ref {v : D} {N : G → Prop} (h : g a = some xs) : dSet (.ref a) (.int i) v g N = (match ixN xs.length i with | some j => N (g.up a (xs.set j v)) | none => False) := by unfold dSet; simp only [h] <;> rfl
theorem isi_any {ts : List Ty} {d : D} : dIsi ts d g Q = (knownD g d ∧ Q (.bl (ts.any fun t => isTy t d)) g) := rfl
theorem at_mk {nx : Env → G → Prop} {rt : QD} {ex : Ex → Env → G → Prop} {env : Env} : DEnds.at ⟨nx, rt, ex⟩ env = fun n g => ex n env g := rfl
theorem add_ref (h : g a = some xs) (h' : g b = some ys) : dAdd (.ref a) (.ref b) g Q = (xs.length + ys.length ≤ sizeLine ∧ ∀ p, g p = none → Q (.ref p) (g.up p (xs ++ ys))) := by unfold dAdd; simp only [h, h'] <;> rfl
theorem mul_ref {k : Int} (h : g a = some xs) : dMul (.ref a) (.int k) g Q = (-(2 ^ 63) ≤ k ∧ k < 2 ^ 63 ∧ xs.length * k.toNat ≤ sizeLine ∧ ∀ p, g p = none → Q (.ref p) (g.up p (repD k xs))) := by unfold dMul; simp only [h] <;> rfl
theorem len_ref (h : g a = some xs) : dLen [.ref a] g Q = Q (.int xs.length) g := by unfold dLen; simp only [h] <;> rfl
theorem tuple_ref (h : g a = some xs) : dTuple [.ref a] g Q = Q (.tup xs) g := by unfold dTuple; simp only [h] <;> rfl
theorem over_ref {R : List D → (G → Prop) → G → Prop} (h : g a = some xs) : dOver (.ref a) g R = R xs (fun g' => g' a = some xs) g := by unfold dOver; simp only [h] <;> rfl
theorem slc_ref {lo hi : Option Int} (h : g a = some xs) : dSl (.ref a) lo hi g Q = ∀ p, g p = none → Q (.ref p) (g.up p (cut xs lo hi)) := by unfold dSl; simp only [h] <;> rfl
theorem ix_ref (h : g a = some xs) : dIx (.ref a) (.int i) g Q = (match atI xs i with | some d => Q d g | none => False) := by unfold dIx; simp only [h] <;> rfl
theorem pop_ref (h : g a = some xs) : mPop (.ref a) [] g Q = (match xs[xs.length - 1]? with | some y => Q y (g.up a xs.dropLast) | none => False) := by unfold mPop; simp only [h] <;> rfl
theorem rc_ref : recv .list (.ref a) g = ((g a).isSome = true) := rfl
theorem known_tup : knownD g (.tup xs) = True := rfl
end
section
variable {α : Type}
theorem atI_at {xs : List α} {i : Int} {k : Nat} {x : α} (hi : i = (k : Int)) (h : xs[k]? = some x) : atI xs i = some x := by
  have hk : k < xs.length := by
    rcases Nat.lt_or_ge k xs.length with z | z
    · exact z
    · rw [List.getElem?_eq_none z] at h; cases h
  subst hi
  unfold atI ixN
  rw [if_pos (by omega), if_pos (by omega)]
  exact h
theorem atI_0 {x : α} {xs : List α} : atI (x :: xs) 0 = some x := atI_at (k := 0) rfl rfl
theorem atI_1 {x y : α} {xs : List α} : atI (x :: y :: xs) 1 = some y := atI_at (k := 1) rfl rfl
theorem atI_2 {x y z : α} {xs : List α} : atI (x :: y :: z :: xs) 2 = some z := atI_at (k := 2) rfl rfl
theorem atI_mem {xs : List α} {k : Nat} (h : k < xs.length) : ∃ x, atI xs (k : Int) = some x ∧ x ∈ xs := ⟨xs[k], atI_at rfl (List.getElem?_eq_getElem h), List.getElem_mem h⟩
end
section
variable {g : G} {Q : QD} {a : Addr} {xs : List D} {i : Int}
theorem ix_some (h : g a = some xs) (h0 : 0 ≤ i) (h1 : i < xs.length) (k : ∀ x ∈ xs, Q x g) : dIx (.ref a) (.int i) g Q := by
  rw [ix_ref h]
  obtain ⟨x, e, hx⟩ := atI_mem (xs := xs) (k := i.toNat) (by omega)
  rw [show i = (i.toNat : Int) by omega, e]
  exact k x hx
end
theorem for_inv {stay : G → Prop} {body : D → Env → G → (Env → G → Prop) → Prop} {fin : Env → G → Prop} {items : List D} (I : Nat → Env → G → Prop)
    (st : ∀ k env g, I k env g → stay g)
    (step : ∀ k x env g N, items[k]? = some x → I k env g → (∀ env' g', I (k + 1) env' g' → N env' g') → body x env g N)
    (done : ∀ env g, I items.length env g → fin env g) {env : Env} {g : G} (h0 : I 0 env g) : forD stay body fin items env g := by
  have H : ∀ (rest : List D) (k : Nat) (env : Env) (g : G), (∀ j, rest[j]? = items[k + j]?) → k + rest.length = items.length → I k env g → forD stay body fin rest env g := by
    intro rest
    induction rest with
    | nil => intro k env g _ hl h; exact ⟨st _ _ _ h, done _ _ (by rw [← hl]; exact h)⟩
    | cons x rest ih =>
      intro k env g hr hl h
      refine ⟨st _ _ _ h, step k x env g _ ((hr 0).symm) h fun env' g' h' => ih (k + 1) env' g' (fun j => ?_) (by simp at hl; omega) h'⟩
      rw [show k + 1 + j = k + (j + 1) by omega, ← hr (j + 1)]
      rfl
  exact H items 0 env g (fun j => by rw [Nat.zero_add]) (by simp) h0
theorem comp_inv {stay : G → Prop} {p : Addr} {body : D → G → (Option D → G → Prop) → Prop} {fin : G → Prop} {items : List D} (I : Nat → List D → G → Prop)
    (st : ∀ k acc g, I k acc g → stay g)
    (step : ∀ k x acc g N, items[k]? = some x → I k acc g → (∀ d g', g' p = some acc → I (k + 1) (acc ++ [d]) (g'.up p (acc ++ [d])) → N (some d) g') → (∀ g', g' p = some acc → I (k + 1) acc g' → N none g') → body x g N)
    (done : ∀ acc g, I items.length acc g → fin g) {g : G} (h0 : I 0 [] g) : compD stay p body fin items [] g := by
  have H : ∀ (rest : List D) (k : Nat) (acc : List D) (g : G), (∀ j, rest[j]? = items[k + j]?) → k + rest.length = items.length → I k acc g → compD stay p body fin rest acc g := by
    intro rest
    induction rest with
    | nil => intro k acc g _ hl h; exact ⟨st _ _ _ h, done _ _ (by rw [← hl]; exact h)⟩
    | cons x rest ih =>
      intro k acc g hr hl h
      have hr' : ∀ j, rest[j]? = items[k + 1 + j]? := fun j => by
        rw [show k + 1 + j = k + (j + 1) by omega, ← hr (j + 1)]
        rfl
      exact ⟨st _ _ _ h, step k x acc g _ ((hr 0).symm) h (fun d g' e h' => ⟨e, ih (k + 1) _ _ hr' (by simp at hl; omega) h'⟩) fun g' e h' => ⟨e, ih (k + 1) _ _ hr' (by simp at hl; omega) h'⟩⟩
  exact H items 0 [] g (fun j => by rw [Nat.zero_add]) (by simp) h0
theorem range_at {lo : Int} {n k : Nat} {x : D} (h : (rangeD lo n)[k]? = some x) : k < n ∧ x = .int (lo + k) := by
  unfold rangeD at h
  rw [List.getElem?_map] at h
  cases q : (List.range n)[k]? with
  | none => rw [q] at h; cases h
  | some j =>
    rw [q] at h
    cases h
    rw [List.getElem?_eq_some_iff] at q
    obtain ⟨hk, e⟩ := q
    simp at hk e
    exact ⟨hk, by rw [e]⟩
theorem range_len {lo : Int} {n : Nat} : (rangeD lo n).length = n := by simp [rangeD]
def num (q : Rat) : D := .tup [.int q.num, .int q.den]
def nums (qs : List Rat) : List D := qs.map num
theorem nums_len (qs : List Rat) : (nums qs).length = qs.length := List.length_map ..
theorem nums_at {qs : List Rat} {k : Nat} {x : D} (h : (nums qs)[k]? = some x) : ∃ q, qs[k]? = some q ∧ x = num q := by
  unfold nums at h
  rw [List.getElem?_map] at h
  cases q : qs[k]? with
  | none => rw [q] at h; cases h
  | some j => rw [q] at h; cases h; exact ⟨j, rfl, rfl⟩
theorem atI_nums {qs : List Rat} {i : Int} {k : Nat} {q : Rat} (hi : i = (k : Int)) (h : qs[k]? = some q) : atI (nums qs) i = some (num q) := atI_at hi (by unfold nums; rw [List.getElem?_map, h]; rfl)
theorem ix_num0 {q : Rat} {g : G} {Q : QD} : dIx (num q) (.int 0) g Q = Q (.int q.num) g := by
  unfold dIx num; simp only [atI_0]
theorem ix_num1 {q : Rat} {g : G} {Q : QD} : dIx (num q) (.int 1) g Q = Q (.int q.den) g := by
  unfold dIx num; simp only [atI_1]
theorem len_num {q : Rat} {g : G} {Q : QD} : dLen [num q] g Q = Q (.int 2) g := rfl
theorem num_0 : D.tup [.int 0, .int 1] = num 0 := rfl
theorem num_1 : D.tup [.int 1, .int 1] = num 1 := rfl
theorem num_inj {p q : Rat} (h : num p = num q) : p = q := by
  unfold num at h
  simp only [D.tup.injEq, List.cons.injEq, D.int.injEq, and_true] at h
  exact Rat.ext h.1 (by omega)
def bits (n : Nat) : Nat := n.log2 + 1
def sz (q : Rat) : Nat := max (bits q.num.natAbs) (bits q.den)
theorem lt_bits (n : Nat) : n < 2 ^ bits n := Nat.lt_log2_self
theorem bits_le {n b : Nat} (h : n < 2 ^ b) (hb : 0 < b) : bits n ≤ b := by
  unfold bits
  by_cases h0 : n = 0
  · subst h0; simp; omega
  · have := (Nat.log2_lt h0).mpr h; omega
theorem sz_num (q : Rat) : q.num.natAbs < 2 ^ sz q := Nat.lt_of_lt_of_le (lt_bits _) (Nat.pow_le_pow_right (by decide) (Nat.le_max_left ..))
theorem sz_den (q : Rat) : q.den < 2 ^ sz q := Nat.lt_of_lt_of_le (lt_bits _) (Nat.pow_le_pow_right (by decide) (Nat.le_max_right ..))
theorem sz_le {q : Rat} {b : Nat} (h1 : q.num.natAbs < 2 ^ b) (h2 : q.den < 2 ^ b) (hb : 0 < b) : sz q ≤ b := Nat.max_le.mpr ⟨bits_le h1 hb, bits_le h2 hb⟩
theorem sz_pos (q : Rat) : 0 < sz q := Nat.lt_of_lt_of_le (Nat.succ_pos _) (Nat.le_max_left ..)
theorem sz_divInt {t b : Int} {c : Nat} (ht : t.natAbs < 2 ^ c) (hb : b.natAbs < 2 ^ c) (h0 : b ≠ 0) : sz (Rat.divInt t b) ≤ c := by
  have hc : 0 < c := by
    rcases Nat.eq_zero_or_pos c with z | z
    · subst z; simp at hb; omega
    · exact z
  refine sz_le ?_ ?_ hc
  · rw [Rat.num_divInt, Int.natAbs_ediv_of_dvd ?_]
    · refine Nat.lt_of_le_of_lt (Nat.div_le_self _ _) ?_
      rw [Int.natAbs_mul]
      have : b.sign.natAbs ≤ 1 := by
        rcases Int.lt_trichotomy b 0 with z | z | z
        · rw [Int.sign_eq_neg_one_of_neg z]; decide
        · exact absurd z h0
        · rw [Int.sign_eq_one_of_pos z]; decide
      calc b.sign.natAbs * t.natAbs ≤ 1 * t.natAbs := Nat.mul_le_mul_right _ this
        _ < 2 ^ c := by rw [Nat.one_mul]; exact ht
    · exact Int.dvd_trans (Int.gcd_dvd_right ..) (Int.dvd_mul_left ..)
  · rw [Rat.den_divInt, if_neg h0]
    exact Nat.lt_of_le_of_lt (Nat.div_le_self _ _) hb
theorem num_bits (q : Rat) : bits q.num.natAbs ≤ sz q := Nat.le_max_left ..
theorem den_bits (q : Rat) : bits q.den ≤ sz q := Nat.le_max_right ..
theorem sz_mul (p q : Rat) : sz (p * q) ≤ sz p + sz q := by
  have h : Rat.divInt (p.num * q.num) (p.den * q.den) = p * q := by
    rw [← Rat.divInt_mul_divInt, Rat.num_divInt_den, Rat.num_divInt_den]
  rw [← h]
  have a := num_bits p; have b := num_bits q; have c := den_bits p; have d := den_bits q
  refine sz_divInt ?_ ?_ ?_
  · rw [Int.natAbs_mul, Nat.pow_add]
    exact Nat.mul_lt_mul'' (sz_num p) (sz_num q)
  · rw [Int.natAbs_mul, Nat.pow_add]
    exact Nat.mul_lt_mul'' (sz_den p) (sz_den q)
  · have := p.den_nz; have := q.den_nz
    exact Int.mul_ne_zero (by omega) (by omega)
theorem sz_neg (p : Rat) : sz (-p) = sz p := by unfold sz; rw [show (-p).num = -p.num from rfl, show (-p).den = p.den from rfl, Int.natAbs_neg]
theorem sz_add (p q : Rat) : sz (p + q) ≤ sz p + sz q + 1 := by
  have h : Rat.divInt (p.num * q.den + q.num * p.den) (p.den * q.den) = p + q := by
    have := p.den_nz; have := q.den_nz
    rw [← Rat.divInt_add_divInt _ _ (by omega) (by omega), Rat.num_divInt_den, Rat.num_divInt_den]
  rw [← h]
  refine sz_divInt ?_ ?_ ?_
  · have h1 : (p.num * q.den).natAbs < 2 ^ (sz p + sz q) := by
      rw [Int.natAbs_mul, Nat.pow_add]
      exact Nat.mul_lt_mul'' (sz_num p) (sz_den q)
    have h2 : (q.num * p.den).natAbs < 2 ^ (sz p + sz q) := by
      rw [Int.natAbs_mul, Nat.pow_add, Nat.mul_comm (2 ^ sz p)]
      exact Nat.mul_lt_mul'' (sz_num q) (sz_den p)
    have h3 := Int.natAbs_add_le (p.num * q.den) (q.num * p.den)
    rw [Nat.pow_succ]
    omega
  · rw [Int.natAbs_mul]
    refine Nat.lt_of_lt_of_le ?_ (Nat.pow_le_pow_right (by decide) (Nat.le_succ _))
    rw [Nat.pow_add]
    exact Nat.mul_lt_mul'' (sz_den p) (sz_den q)
  · have := p.den_nz; have := q.den_nz
    exact Int.mul_ne_zero (by omega) (by omega)
theorem sz_sub (p q : Rat) : sz (p - q) ≤ sz p + sz q + 1 := by
  rw [Rat.sub_eq_add_neg, ← sz_neg q]
  exact sz_add p (-q)
theorem sz_inv (q : Rat) : sz q⁻¹ ≤ sz q := by
  by_cases h : q = 0
  · subst h; rw [Rat.inv_zero]; exact Nat.le_refl _
  · have e : Rat.divInt q.den q.num = q⁻¹ := by rw [← Rat.inv_divInt, Rat.num_divInt_den]
    rw [← e]
    exact sz_divInt (sz_den q) (sz_num q) (fun z => h (Rat.num_eq_zero.mp z))
theorem sz_div (p q : Rat) : sz (p / q) ≤ sz p + sz q := by
  rw [Rat.div_def]
  exact Nat.le_trans (sz_mul _ _) (Nat.add_le_add_left (sz_inv q) _)
theorem sz_0 : sz 0 = 1 := by decide
theorem sz_1 : sz 1 = 1 := by decide
theorem mulOk_of {i j : Int} {a b : Nat} (h1 : i.natAbs < 2 ^ a) (h2 : j.natAbs < 2 ^ b) (h : a + b ≤ 100000000) : MulOk i j := by
  unfold MulOk
  have k : ∀ {n a : Nat}, n < 2 ^ a → n.log2 < a ∨ (n.log2 = 0 ∧ a = 0) := fun {n a} h => by
    by_cases h0 : n = 0
    · subst h0
      by_cases ha : a = 0
      · exact .inr ⟨by simp, ha⟩
      · exact .inl (by simp; omega)
    · exact .inl ((Nat.log2_lt h0).mpr h)
  rcases k h1 with h1 | h1 <;> rcases k h2 with h2 | h2 <;> omega
theorem mulOk_num (p q : Rat) (h : sz p + sz q ≤ 100000000) : MulOk p.num q.num := mulOk_of (sz_num p) (sz_num q) h
theorem mulOk_den (p q : Rat) (h : sz p + sz q ≤ 100000000) : MulOk (p.den : Int) (q.den : Int) := mulOk_of (sz_den p) (sz_den q) h
theorem mulOk_nd (p q : Rat) (h : sz p + sz q ≤ 100000000) : MulOk p.num (q.den : Int) := mulOk_of (sz_num p) (sz_den q) h
theorem mulOk_dn (p q : Rat) (h : sz p + sz q ≤ 100000000) : MulOk (p.den : Int) q.num := mulOk_of (sz_den p) (sz_num q) h
end PP
namespace PP
open PySem PySem.Spec PyProof.Rows L2
def sx_shared_part : SX :=
  (.asg (.n 0) (.blt .abs (.cons (.v 0) .nil))
  (.asg (.n 1) (.blt .abs (.cons (.v 1) .nil))
  (.whl (.cmp .gt (.v 1) (.int 0))
    (.par 0 1 (.v 1) (.bin .mod (.v 0) (.v 1)) .nil)
  (.ret (.v 0) .nil))))
abbrev ns_shared_part : List Str := ["one", "other"]
def sx_law_lowest : SX :=
  (.asg (.n 2) (.blt .abs (.cons (.v 0) .nil))
  (.asg (.n 3) (.blt .abs (.cons (.v 1) .nil))
  (.whl (.cmp .gt (.v 3) (.int 0))
    (.par 2 3 (.v 3) (.bin .mod (.v 2) (.v 3)) .nil)
  (.ite (.cmp .lt (.v 1) (.int 0))
    (.asg (.n 2) (.bin .sub (.int 0) (.v 2)) .nil)
    .nil
  (.ret (.tup (.cons (.bin .fdiv (.v 0) (.v 2)) (.cons (.bin .fdiv (.v 1) (.v 2)) .nil))) .nil)))))
abbrev ns_law_lowest : List Str := ["_law_top_here", "_law_bottom", "_law_one", "_law_other"]
def sx_lowest : SX :=
  (.asg (.n 2) (.call 0 (.cons (.v 0) (.cons (.v 1) .nil)))
  (.ite (.cmp .lt (.v 1) (.int 0))
    (.asg (.n 2) (.bin .sub (.int 0) (.v 2)) .nil)
    .nil
  (.ret (.tup (.cons (.bin .fdiv (.v 0) (.v 2)) (.cons (.bin .fdiv (.v 1) (.v 2)) .nil))) .nil)))
abbrev ns_lowest : List Str := ["top", "bottom", "part"]
def spShared : SpD := fun ds g Q _ => ∃ a b : Int, ds = [.int a, .int b] ∧ Q (.int (Int.gcd a b)) g
theorem gcd_turn {a b : Nat} (h : 0 < b) : Nat.gcd b (a % b) = Nat.gcd a b := by
  rw [Nat.gcd_comm b, ← Nat.gcd_rec, Nat.gcd_comm]
theorem fmod_nat (a b : Nat) : Int.fmod (a : Int) (b : Int) = ((a % b : Nat) : Int) := by
  rw [Int.fmod_eq_emod_of_nonneg _ (by omega)]
  rfl
theorem pure_shared_part {Γ : Nat → SpD} {gl : Nat → D} {ds g Q E} (h : spShared ds g Q E) : mnS Γ gl sx_shared_part (endsOf Q E) (startD ns_shared_part ds) g := by
  obtain ⟨a, b, rfl, h⟩ := h
  simp only [sx_shared_part, mnS, dLamr, mn, Mn.of, Op.rd, Cm.rd, Bl.rd, Mt.rd, Mt.rc, dNop, dSeq, dExpr, dRet, dRetN, dIf, gD, dAsg, dPar, dPut, dRaise, dVar, dC, dBin, dUn, dNil, dCons, dTup, dLst, dTst, dAndT, dOrT, dNotT, dYes, dAnd, dOr, dNot, dChain, dCall, dCB, dMt, dLset, dSrev, dTry, dIsx, dEmp, dDic1, dStp, xsub, Ex.sub, dSlc, dPart, dNoPart, dIAny, dI1, dI2, dI3, dFor, dComp, compB, wipeD, startD, endsOf, at_mk, setAll, add_int, sub_int, mul_int, mul_tup, pow_int, mod_int, fdiv_int, lt_int, le_int, gt_int, ge_int, eq_int, neg_int, len_tup, len_scr, abs_int, max_int, min_int, int_int, int_bl, r1_int, r2_int, tuple_tup, list_tup, over_tup, rev_tup, enum_tup, zip_tup, slc_tup, add_tup, isi_any, ix_tup, ix_scr, ix_num0, ix_num1, len_num, num_0, num_1, atI_0, atI_1, atI_2, List.map, List.cons_append, List.nil_append, List.getElem?_cons_zero, List.getElem?_cons_succ, List.getElem?_nil, List.set_cons_zero, List.set_cons_succ, List.replicate, List.length_cons, List.length_nil, List.foldr_cons, List.foldr_nil, Nat.reduceAdd, Nat.reduceSub, List.replicate_succ, List.replicate_zero, G_up_same, decide_eq_true_eq, Bool.not_eq_true', Bool.false_eq_true, if_true, if_false, ite_true, ite_false, and_true, true_and, reduceCtorEq, Bool.not_true, Bool.not_false, Bool.false_bne, Bool.true_bne, sl0, sl1, sl2, sl3, sl4]
  refine ⟨fun m env g' => g' = g ∧ ∃ x : Nat, env = [some (.int x), some (.int m)] ∧ Nat.gcd x m = Int.gcd a b, ⟨b.natAbs, rfl, a.natAbs, rfl, rfl⟩, ?_⟩
  rintro m env g' ⟨rfl, x, rfl, hx⟩
  try simp only [mnS, dLamr, mn, Mn.of, Op.rd, Cm.rd, Bl.rd, Mt.rd, Mt.rc, dNop, dSeq, dExpr, dRet, dRetN, dIf, gD, dAsg, dPar, dPut, dRaise, dVar, dC, dBin, dUn, dNil, dCons, dTup, dLst, dTst, dAndT, dOrT, dNotT, dYes, dAnd, dOr, dNot, dChain, dCall, dCB, dMt, dLset, dSrev, dTry, dIsx, dEmp, dDic1, dStp, xsub, Ex.sub, dSlc, dPart, dNoPart, dIAny, dI1, dI2, dI3, dFor, dComp, compB, wipeD, startD, endsOf, at_mk, setAll, add_int, sub_int, mul_int, mul_tup, pow_int, mod_int, fdiv_int, lt_int, le_int, gt_int, ge_int, eq_int, neg_int, len_tup, len_scr, abs_int, max_int, min_int, int_int, int_bl, r1_int, r2_int, tuple_tup, list_tup, over_tup, rev_tup, enum_tup, zip_tup, slc_tup, add_tup, isi_any, ix_tup, ix_scr, ix_num0, ix_num1, len_num, num_0, num_1, atI_0, atI_1, atI_2, List.map, List.cons_append, List.nil_append, List.getElem?_cons_zero, List.getElem?_cons_succ, List.getElem?_nil, List.set_cons_zero, List.set_cons_succ, List.replicate, List.length_cons, List.length_nil, List.foldr_cons, List.foldr_nil, Nat.reduceAdd, Nat.reduceSub, List.replicate_succ, List.replicate_zero, G_up_same, decide_eq_true_eq, Bool.not_eq_true', Bool.false_eq_true, if_true, if_false, ite_true, ite_false, and_true, true_and, reduceCtorEq, Bool.not_true, Bool.not_false, Bool.false_bne, Bool.true_bne, sl0, sl1, sl2, sl3, sl4]
  split
  · rename_i hb
    refine ⟨by omega, x % m, Nat.mod_lt _ (by omega), m, by rw [fmod_nat], ?_⟩
    rw [gcd_turn (by omega), hx]
  · rename_i hb
    have : m = 0 := by omega
    subst this
    rw [Nat.gcd_zero_right] at hx
    exact ⟨_, G.le_refl _, by rw [hx]; exact h⟩
theorem num_divInt_eq (t b : Int) (hb : b ≠ 0) : num (Rat.divInt t b) = .tup [.int (t.fdiv (b.sign * (Int.gcd t b : Int))), .int (b.fdiv (b.sign * (Int.gcd t b : Int)))] := by
  have hg : (0 : Int) < (Int.gcd t b : Int) := by
    have := Int.gcd_pos_of_ne_zero_right t hb
    omega
  have e1 : (Int.gcd t b : Int) ∣ t := Int.gcd_dvd_left ..
  have e2 : (Int.gcd t b : Int) ∣ b := Int.gcd_dvd_right ..
  unfold num
  rw [Rat.num_divInt, Rat.den_divInt, if_neg hb, Int.gcd_comm b t]
  obtain ⟨x, hx⟩ := e1
  obtain ⟨y, hy⟩ := e2
  have hn : b.natAbs = Int.gcd t b * y.natAbs := by
    have := congrArg Int.natAbs hy
    rw [Int.natAbs_mul, Int.natAbs_natCast] at this
    exact this
  have hgn : 0 < Int.gcd t b := by omega
  generalize Int.gcd t b = d at *
  rcases Int.lt_or_gt_of_ne hb with hs | hs
  · rw [Int.sign_eq_neg_one_of_neg hs]
    have hy0 : y < 0 := by
      rcases Int.lt_or_le y 0 with z | z
      · exact z
      · have := Int.mul_nonneg (Int.le_of_lt hg) z; omega
    have d1 : (-1 * t / (d : Int)) = -x := by
      rw [hx, show -1 * ((d : Int) * x) = (d : Int) * (-x) by rw [Int.mul_neg]; omega, Int.mul_ediv_cancel_left _ (by omega)]
    have d2 : (b.natAbs / d) = y.natAbs := by rw [hn, Nat.mul_div_cancel_left _ hgn]
    have d3 : Int.fdiv t (-1 * (d : Int)) = -x := by
      rw [hx, show (d : Int) * x = (-x) * (-1 * (d : Int)) by rw [Int.neg_mul, ← Int.mul_neg]; simp [Int.mul_comm]]
      exact Int.mul_fdiv_cancel _ (by omega)
    have d4 : Int.fdiv b (-1 * (d : Int)) = -y := by
      rw [hy, show (d : Int) * y = (-y) * (-1 * (d : Int)) by rw [Int.neg_mul, ← Int.mul_neg]; simp [Int.mul_comm]]
      exact Int.mul_fdiv_cancel _ (by omega)
    rw [d1, d2, d3, d4, show ((y.natAbs : Int)) = -y by omega]
  · rw [Int.sign_eq_one_of_pos hs]
    have hy0 : 0 < y := by
      rcases Int.lt_or_le 0 y with z | z
      · exact z
      · have := Int.mul_nonpos_of_nonneg_of_nonpos (Int.le_of_lt hg) z; omega
    have d1 : (1 * t / (d : Int)) = x := by rw [hx, Int.one_mul, Int.mul_ediv_cancel_left _ (by omega)]
    have d2 : (b.natAbs / d) = y.natAbs := by rw [hn, Nat.mul_div_cancel_left _ hgn]
    have d3 : Int.fdiv t (1 * (d : Int)) = x := by
      rw [hx, Int.one_mul, Int.mul_comm]
      exact Int.mul_fdiv_cancel _ (by omega)
    have d4 : Int.fdiv b (1 * (d : Int)) = y := by
      rw [hy, Int.one_mul, Int.mul_comm]
      exact Int.mul_fdiv_cancel _ (by omega)
    rw [d1, d2, d3, d4, show ((y.natAbs : Int)) = y by omega]
def spLowest : SpD := fun ds g Q _ => ∃ t b : Int, ds = [.int t, .int b] ∧ b ≠ 0 ∧ Q (num (Rat.divInt t b)) g
theorem c_lowest {t b : Int} {g : G} {Q : QD} {X : XD} : spLowest [.int t, .int b] g Q X ↔ b ≠ 0 ∧ Q (num (Rat.divInt t b)) g :=
  ⟨fun ⟨_, _, e, h⟩ => by simp only [List.cons.injEq, D.int.injEq, and_true] at e; obtain ⟨rfl, rfl⟩ := e; exact h, fun h => ⟨t, b, rfl, h⟩⟩
theorem pure_lowest {Γ : Nat → SpD} {gl : Nat → D} (h0 : Γ 0 = spShared) {ds g Q E} (h : spLowest ds g Q E) : mnS Γ gl sx_lowest (endsOf Q E) (startD ns_lowest ds) g := by
  obtain ⟨t, b, rfl, hb, h⟩ := h
  rw [num_divInt_eq t b hb] at h
  have hg := Int.gcd_pos_of_ne_zero_right t hb
  simp only [sx_lowest, h0, spShared, mnS, dLamr, mn, Mn.of, Op.rd, Cm.rd, Bl.rd, Mt.rd, Mt.rc, dNop, dSeq, dExpr, dRet, dRetN, dIf, gD, dAsg, dPar, dPut, dRaise, dVar, dC, dBin, dUn, dNil, dCons, dTup, dLst, dTst, dAndT, dOrT, dNotT, dYes, dAnd, dOr, dNot, dChain, dCall, dCB, dMt, dLset, dSrev, dTry, dIsx, dEmp, dDic1, dStp, xsub, Ex.sub, dSlc, dPart, dNoPart, dIAny, dI1, dI2, dI3, dFor, dComp, compB, wipeD, startD, endsOf, at_mk, setAll, add_int, sub_int, mul_int, mul_tup, pow_int, mod_int, fdiv_int, lt_int, le_int, gt_int, ge_int, eq_int, neg_int, len_tup, len_scr, abs_int, max_int, min_int, int_int, int_bl, r1_int, r2_int, tuple_tup, list_tup, over_tup, rev_tup, enum_tup, zip_tup, slc_tup, add_tup, isi_any, ix_tup, ix_scr, ix_num0, ix_num1, len_num, num_0, num_1, atI_0, atI_1, atI_2, List.map, List.cons_append, List.nil_append, List.getElem?_cons_zero, List.getElem?_cons_succ, List.getElem?_nil, List.set_cons_zero, List.set_cons_succ, List.replicate, List.length_cons, List.length_nil, List.foldr_cons, List.foldr_nil, Nat.reduceAdd, Nat.reduceSub, List.replicate_succ, List.replicate_zero, G_up_same, decide_eq_true_eq, Bool.not_eq_true', Bool.false_eq_true, if_true, if_false, ite_true, ite_false, and_true, true_and, reduceCtorEq, Bool.not_true, Bool.not_false, Bool.false_bne, Bool.true_bne, sl0, sl1, sl2, sl3, sl4]
  refine ⟨t, b, rfl, ?_⟩
  split
  · rename_i hs
    rw [Int.sign_eq_neg_one_of_neg hs] at h
    rw [show (0 : Int) - (Int.gcd t b : Int) = -1 * (Int.gcd t b : Int) by omega]
    exact ⟨by omega, by omega, _, G.le_refl _, h⟩
  · rename_i hs
    rw [Int.sign_eq_one_of_pos (by omega), Int.one_mul] at h
    exact ⟨by omega, by omega, _, G.le_refl _, h⟩
theorem pure_law_lowest {Γ : Nat → SpD} {gl : Nat → D} {ds g Q E} (h : spLowest ds g Q E) : mnS Γ gl sx_law_lowest (endsOf Q E) (startD ns_law_lowest ds) g := by
  obtain ⟨t, b, rfl, hb, h⟩ := h
  rw [num_divInt_eq t b hb] at h
  have hg := Int.gcd_pos_of_ne_zero_right t hb
  simp only [sx_law_lowest, mnS, dLamr, mn, Mn.of, Op.rd, Cm.rd, Bl.rd, Mt.rd, Mt.rc, dNop, dSeq, dExpr, dRet, dRetN, dIf, gD, dAsg, dPar, dPut, dRaise, dVar, dC, dBin, dUn, dNil, dCons, dTup, dLst, dTst, dAndT, dOrT, dNotT, dYes, dAnd, dOr, dNot, dChain, dCall, dCB, dMt, dLset, dSrev, dTry, dIsx, dEmp, dDic1, dStp, xsub, Ex.sub, dSlc, dPart, dNoPart, dIAny, dI1, dI2, dI3, dFor, dComp, compB, wipeD, startD, endsOf, at_mk, setAll, add_int, sub_int, mul_int, mul_tup, pow_int, mod_int, fdiv_int, lt_int, le_int, gt_int, ge_int, eq_int, neg_int, len_tup, len_scr, abs_int, max_int, min_int, int_int, int_bl, r1_int, r2_int, tuple_tup, list_tup, over_tup, rev_tup, enum_tup, zip_tup, slc_tup, add_tup, isi_any, ix_tup, ix_scr, ix_num0, ix_num1, len_num, num_0, num_1, atI_0, atI_1, atI_2, List.map, List.cons_append, List.nil_append, List.getElem?_cons_zero, List.getElem?_cons_succ, List.getElem?_nil, List.set_cons_zero, List.set_cons_succ, List.replicate, List.length_cons, List.length_nil, List.foldr_cons, List.foldr_nil, Nat.reduceAdd, Nat.reduceSub, List.replicate_succ, List.replicate_zero, G_up_same, decide_eq_true_eq, Bool.not_eq_true', Bool.false_eq_true, if_true, if_false, ite_true, ite_false, and_true, true_and, reduceCtorEq, Bool.not_true, Bool.not_false, Bool.false_bne, Bool.true_bne, sl0, sl1, sl2, sl3, sl4]
  refine ⟨fun m env g' => g' = g ∧ ∃ x : Nat, env = [some (.int t), some (.int b), some (.int x), some (.int m)] ∧ Nat.gcd x m = Int.gcd t b, ⟨b.natAbs, rfl, t.natAbs, rfl, rfl⟩, ?_⟩
  rintro m env g' ⟨rfl, x, rfl, hx⟩
  try simp only [mnS, dLamr, mn, Mn.of, Op.rd, Cm.rd, Bl.rd, Mt.rd, Mt.rc, dNop, dSeq, dExpr, dRet, dRetN, dIf, gD, dAsg, dPar, dPut, dRaise, dVar, dC, dBin, dUn, dNil, dCons, dTup, dLst, dTst, dAndT, dOrT, dNotT, dYes, dAnd, dOr, dNot, dChain, dCall, dCB, dMt, dLset, dSrev, dTry, dIsx, dEmp, dDic1, dStp, xsub, Ex.sub, dSlc, dPart, dNoPart, dIAny, dI1, dI2, dI3, dFor, dComp, compB, wipeD, startD, endsOf, at_mk, setAll, add_int, sub_int, mul_int, mul_tup, pow_int, mod_int, fdiv_int, lt_int, le_int, gt_int, ge_int, eq_int, neg_int, len_tup, len_scr, abs_int, max_int, min_int, int_int, int_bl, r1_int, r2_int, tuple_tup, list_tup, over_tup, rev_tup, enum_tup, zip_tup, slc_tup, add_tup, isi_any, ix_tup, ix_scr, ix_num0, ix_num1, len_num, num_0, num_1, atI_0, atI_1, atI_2, List.map, List.cons_append, List.nil_append, List.getElem?_cons_zero, List.getElem?_cons_succ, List.getElem?_nil, List.set_cons_zero, List.set_cons_succ, List.replicate, List.length_cons, List.length_nil, List.foldr_cons, List.foldr_nil, Nat.reduceAdd, Nat.reduceSub, List.replicate_succ, List.replicate_zero, G_up_same, decide_eq_true_eq, Bool.not_eq_true', Bool.false_eq_true, if_true, if_false, ite_true, ite_false, and_true, true_and, reduceCtorEq, Bool.not_true, Bool.not_false, Bool.false_bne, Bool.true_bne, sl0, sl1, sl2, sl3, sl4]
  split
  · rename_i hb
    refine ⟨by omega, x % m, Nat.mod_lt _ (by omega), m, by rw [fmod_nat], ?_⟩
    rw [gcd_turn (by omega), hx]
  · rename_i hb'
    have : m = 0 := by omega
    subst this
    rw [Nat.gcd_zero_right] at hx
    subst hx
    split
    · rename_i hs
      rw [Int.sign_eq_neg_one_of_neg hs] at h
      rw [show (0 : Int) - (Int.gcd t b : Int) = -1 * (Int.gcd t b : Int) by omega]
      exact ⟨by omega, by omega, _, G.le_refl _, h⟩
    · rename_i hs
      rw [Int.sign_eq_one_of_pos (by omega), Int.one_mul] at h
      exact ⟨by omega, by omega, _, G.le_refl _, h⟩
end PP
namespace PP
open PySem PySem.Spec PyProof.Rows L2
def sx_minus : SX :=
  (.ret (.call 1 (.cons (.bin .sub (.bin .mul (.ix (.v 0) (.int 0)) (.ix (.v 1) (.int 1))) (.bin .mul (.ix (.v 1) (.int 0)) (.ix (.v 0) (.int 1)))) (.cons (.bin .mul (.ix (.v 0) (.int 1)) (.ix (.v 1) (.int 1))) .nil))) .nil)
abbrev ns_minus : List Str := ["a", "b"]
def sx_times : SX :=
  (.ret (.call 1 (.cons (.bin .mul (.ix (.v 0) (.int 0)) (.ix (.v 1) (.int 0))) (.cons (.bin .mul (.ix (.v 0) (.int 1)) (.ix (.v 1) (.int 1))) .nil))) .nil)
abbrev ns_times : List Str := ["a", "b"]
def sx_over : SX :=
  (.ite (.cmp .eq (.ix (.v 1) (.int 0)) (.int 0))
    (.raise .number .nil)
    .nil
  (.ret (.call 1 (.cons (.bin .mul (.ix (.v 0) (.int 0)) (.ix (.v 1) (.int 1))) (.cons (.bin .mul (.ix (.v 0) (.int 1)) (.ix (.v 1) (.int 0))) .nil))) .nil))
abbrev ns_over : List Str := ["a", "b"]
def sx_law_plus : SX :=
  (.ret (.call 5 (.cons (.bin .add (.bin .mul (.ix (.v 0) (.int 0)) (.ix (.v 1) (.int 1))) (.bin .mul (.ix (.v 1) (.int 0)) (.ix (.v 0) (.int 1)))) (.cons (.bin .mul (.ix (.v 0) (.int 1)) (.ix (.v 1) (.int 1))) .nil))) .nil)
abbrev ns_law_plus : List Str := ["_law_a", "_law_b"]
def sx_law_minus : SX :=
  (.ret (.call 5 (.cons (.bin .sub (.bin .mul (.ix (.v 0) (.int 0)) (.ix (.v 1) (.int 1))) (.bin .mul (.ix (.v 1) (.int 0)) (.ix (.v 0) (.int 1)))) (.cons (.bin .mul (.ix (.v 0) (.int 1)) (.ix (.v 1) (.int 1))) .nil))) .nil)
abbrev ns_law_minus : List Str := ["_law_a", "_law_b"]
def sx_law_times : SX :=
  (.ret (.call 5 (.cons (.bin .mul (.ix (.v 0) (.int 0)) (.ix (.v 1) (.int 0))) (.cons (.bin .mul (.ix (.v 0) (.int 1)) (.ix (.v 1) (.int 1))) .nil))) .nil)
abbrev ns_law_times : List Str := ["_law_a", "_law_b"]
theorem den_ne (q : Rat) : (q.den : Int) ≠ 0 := by have := q.den_nz; omega
theorem add_parts (p q : Rat) : Rat.divInt (p.num * q.den + q.num * p.den) (p.den * q.den) = p + q := by
  rw [← Rat.divInt_add_divInt _ _ (den_ne p) (den_ne q), Rat.num_divInt_den, Rat.num_divInt_den]
theorem sub_parts (p q : Rat) : Rat.divInt (p.num * q.den - q.num * p.den) (p.den * q.den) = p - q := by
  rw [← Rat.divInt_sub_divInt _ _ (den_ne p) (den_ne q), Rat.num_divInt_den, Rat.num_divInt_den]
theorem mul_parts (p q : Rat) : Rat.divInt (p.num * q.num) (p.den * q.den) = p * q := by
  rw [← Rat.divInt_mul_divInt, Rat.num_divInt_den, Rat.num_divInt_den]
theorem div_parts (p q : Rat) : Rat.divInt (p.num * q.den) (p.den * q.num) = p / q := by
  rw [← Rat.divInt_mul_divInt, Rat.num_divInt_den, Rat.div_def, ← Rat.inv_divInt, Rat.num_divInt_den]
theorem den_mul_ne (p q : Rat) : (p.den : Int) * (q.den : Int) ≠ 0 := Int.mul_ne_zero (den_ne p) (den_ne q)
def spBin (f : Rat → Rat → Rat) : SpD := fun ds g Q _ => ∃ p q : Rat, ds = [num p, num q] ∧ sz p + sz q ≤ 100000000 ∧ Q (num (f p q)) g
abbrev spPlus : SpD := spBin fun p q => p + q
abbrev spMinus : SpD := spBin fun p q => p - q
abbrev spTimes : SpD := spBin fun p q => p * q
def spOver : SpD := fun ds g Q X => ∃ p q : Rat, ds = [num p, num q] ∧ sz p + sz q ≤ 100000000 ∧ (q = 0 → X .number g) ∧ (q ≠ 0 → Q (num (p / q)) g)
theorem c_bin {f : Rat → Rat → Rat} {p q : Rat} {g : G} {Q : QD} {X : XD} : spBin f [num p, num q] g Q X ↔ sz p + sz q ≤ 100000000 ∧ Q (num (f p q)) g :=
  ⟨fun ⟨_, _, e, h⟩ => by simp only [List.cons.injEq, and_true] at e; rw [num_inj e.1, num_inj e.2]; exact h, fun h => ⟨p, q, rfl, h⟩⟩
theorem c_over {p q : Rat} {g : G} {Q : QD} {X : XD} : spOver [num p, num q] g Q X ↔ sz p + sz q ≤ 100000000 ∧ (q = 0 → X .number g) ∧ (q ≠ 0 → Q (num (p / q)) g) :=
  ⟨fun ⟨_, _, e, h⟩ => by simp only [List.cons.injEq, and_true] at e; rw [num_inj e.1, num_inj e.2]; exact h, fun h => ⟨p, q, rfl, h⟩⟩
section
variable {Γ : Nat → SpD} {gl : Nat → D} {ds : List D} {g : G} {Q : QD} {E : XD}
theorem pure_minus (h1 : Γ 1 = spLowest) (h : spMinus ds g Q E) : mnS Γ gl sx_minus (endsOf Q E) (startD ns_minus ds) g := by
  obtain ⟨p, q, rfl, hs, h⟩ := h
  simp only [sx_minus, h1, spLowest, mnS, dLamr, mn, Mn.of, Op.rd, Cm.rd, Bl.rd, Mt.rd, Mt.rc, dNop, dSeq, dExpr, dRet, dRetN, dIf, gD, dAsg, dPar, dPut, dRaise, dVar, dC, dBin, dUn, dNil, dCons, dTup, dLst, dTst, dAndT, dOrT, dNotT, dYes, dAnd, dOr, dNot, dChain, dCall, dCB, dMt, dLset, dSrev, dTry, dIsx, dEmp, dDic1, dStp, xsub, Ex.sub, dSlc, dPart, dNoPart, dIAny, dI1, dI2, dI3, dFor, dComp, compB, wipeD, startD, endsOf, at_mk, setAll, add_int, sub_int, mul_int, mul_tup, pow_int, mod_int, fdiv_int, lt_int, le_int, gt_int, ge_int, eq_int, neg_int, len_tup, len_scr, abs_int, max_int, min_int, int_int, int_bl, r1_int, r2_int, tuple_tup, list_tup, over_tup, rev_tup, enum_tup, zip_tup, slc_tup, add_tup, isi_any, ix_tup, ix_scr, ix_num0, ix_num1, len_num, num_0, num_1, atI_0, atI_1, atI_2, List.map, List.cons_append, List.nil_append, List.getElem?_cons_zero, List.getElem?_cons_succ, List.getElem?_nil, List.set_cons_zero, List.set_cons_succ, List.replicate, List.length_cons, List.length_nil, List.foldr_cons, List.foldr_nil, Nat.reduceAdd, Nat.reduceSub, List.replicate_succ, List.replicate_zero, G_up_same, decide_eq_true_eq, Bool.not_eq_true', Bool.false_eq_true, if_true, if_false, ite_true, ite_false, and_true, true_and, reduceCtorEq, Bool.not_true, Bool.not_false, Bool.false_bne, Bool.true_bne, sl0, sl1, sl2, sl3, sl4]
  exact ⟨mulOk_nd p q hs, mulOk_nd q p (by omega), mulOk_den p q hs, _, _, rfl, den_mul_ne p q, _, G.le_refl _, by rw [sub_parts]; exact h⟩
theorem pure_times (h1 : Γ 1 = spLowest) (h : spTimes ds g Q E) : mnS Γ gl sx_times (endsOf Q E) (startD ns_times ds) g := by
  obtain ⟨p, q, rfl, hs, h⟩ := h
  simp only [sx_times, h1, spLowest, mnS, dLamr, mn, Mn.of, Op.rd, Cm.rd, Bl.rd, Mt.rd, Mt.rc, dNop, dSeq, dExpr, dRet, dRetN, dIf, gD, dAsg, dPar, dPut, dRaise, dVar, dC, dBin, dUn, dNil, dCons, dTup, dLst, dTst, dAndT, dOrT, dNotT, dYes, dAnd, dOr, dNot, dChain, dCall, dCB, dMt, dLset, dSrev, dTry, dIsx, dEmp, dDic1, dStp, xsub, Ex.sub, dSlc, dPart, dNoPart, dIAny, dI1, dI2, dI3, dFor, dComp, compB, wipeD, startD, endsOf, at_mk, setAll, add_int, sub_int, mul_int, mul_tup, pow_int, mod_int, fdiv_int, lt_int, le_int, gt_int, ge_int, eq_int, neg_int, len_tup, len_scr, abs_int, max_int, min_int, int_int, int_bl, r1_int, r2_int, tuple_tup, list_tup, over_tup, rev_tup, enum_tup, zip_tup, slc_tup, add_tup, isi_any, ix_tup, ix_scr, ix_num0, ix_num1, len_num, num_0, num_1, atI_0, atI_1, atI_2, List.map, List.cons_append, List.nil_append, List.getElem?_cons_zero, List.getElem?_cons_succ, List.getElem?_nil, List.set_cons_zero, List.set_cons_succ, List.replicate, List.length_cons, List.length_nil, List.foldr_cons, List.foldr_nil, Nat.reduceAdd, Nat.reduceSub, List.replicate_succ, List.replicate_zero, G_up_same, decide_eq_true_eq, Bool.not_eq_true', Bool.false_eq_true, if_true, if_false, ite_true, ite_false, and_true, true_and, reduceCtorEq, Bool.not_true, Bool.not_false, Bool.false_bne, Bool.true_bne, sl0, sl1, sl2, sl3, sl4]
  exact ⟨mulOk_num p q hs, mulOk_den p q hs, _, _, rfl, den_mul_ne p q, _, G.le_refl _, by rw [mul_parts]; exact h⟩
theorem pure_law_plus (h1 : Γ 5 = spLowest) (h : spPlus ds g Q E) : mnS Γ gl sx_law_plus (endsOf Q E) (startD ns_law_plus ds) g := by
  obtain ⟨p, q, rfl, hs, h⟩ := h
  simp only [sx_law_plus, h1, spLowest, mnS, dLamr, mn, Mn.of, Op.rd, Cm.rd, Bl.rd, Mt.rd, Mt.rc, dNop, dSeq, dExpr, dRet, dRetN, dIf, gD, dAsg, dPar, dPut, dRaise, dVar, dC, dBin, dUn, dNil, dCons, dTup, dLst, dTst, dAndT, dOrT, dNotT, dYes, dAnd, dOr, dNot, dChain, dCall, dCB, dMt, dLset, dSrev, dTry, dIsx, dEmp, dDic1, dStp, xsub, Ex.sub, dSlc, dPart, dNoPart, dIAny, dI1, dI2, dI3, dFor, dComp, compB, wipeD, startD, endsOf, at_mk, setAll, add_int, sub_int, mul_int, mul_tup, pow_int, mod_int, fdiv_int, lt_int, le_int, gt_int, ge_int, eq_int, neg_int, len_tup, len_scr, abs_int, max_int, min_int, int_int, int_bl, r1_int, r2_int, tuple_tup, list_tup, over_tup, rev_tup, enum_tup, zip_tup, slc_tup, add_tup, isi_any, ix_tup, ix_scr, ix_num0, ix_num1, len_num, num_0, num_1, atI_0, atI_1, atI_2, List.map, List.cons_append, List.nil_append, List.getElem?_cons_zero, List.getElem?_cons_succ, List.getElem?_nil, List.set_cons_zero, List.set_cons_succ, List.replicate, List.length_cons, List.length_nil, List.foldr_cons, List.foldr_nil, Nat.reduceAdd, Nat.reduceSub, List.replicate_succ, List.replicate_zero, G_up_same, decide_eq_true_eq, Bool.not_eq_true', Bool.false_eq_true, if_true, if_false, ite_true, ite_false, and_true, true_and, reduceCtorEq, Bool.not_true, Bool.not_false, Bool.false_bne, Bool.true_bne, sl0, sl1, sl2, sl3, sl4]
  exact ⟨mulOk_nd p q hs, mulOk_nd q p (by omega), mulOk_den p q hs, _, _, rfl, den_mul_ne p q, _, G.le_refl _, by rw [add_parts]; exact h⟩
theorem pure_law_minus (h1 : Γ 5 = spLowest) (h : spMinus ds g Q E) : mnS Γ gl sx_law_minus (endsOf Q E) (startD ns_law_minus ds) g := by
  obtain ⟨p, q, rfl, hs, h⟩ := h
  simp only [sx_law_minus, h1, spLowest, mnS, dLamr, mn, Mn.of, Op.rd, Cm.rd, Bl.rd, Mt.rd, Mt.rc, dNop, dSeq, dExpr, dRet, dRetN, dIf, gD, dAsg, dPar, dPut, dRaise, dVar, dC, dBin, dUn, dNil, dCons, dTup, dLst, dTst, dAndT, dOrT, dNotT, dYes, dAnd, dOr, dNot, dChain, dCall, dCB, dMt, dLset, dSrev, dTry, dIsx, dEmp, dDic1, dStp, xsub, Ex.sub, dSlc, dPart, dNoPart, dIAny, dI1, dI2, dI3, dFor, dComp, compB, wipeD, startD, endsOf, at_mk, setAll, add_int, sub_int, mul_int, mul_tup, pow_int, mod_int, fdiv_int, lt_int, le_int, gt_int, ge_int, eq_int, neg_int, len_tup, len_scr, abs_int, max_int, min_int, int_int, int_bl, r1_int, r2_int, tuple_tup, list_tup, over_tup, rev_tup, enum_tup, zip_tup, slc_tup, add_tup, isi_any, ix_tup, ix_scr, ix_num0, ix_num1, len_num, num_0, num_1, atI_0, atI_1, atI_2, List.map, List.cons_append, List.nil_append, List.getElem?_cons_zero, List.getElem?_cons_succ, List.getElem?_nil, List.set_cons_zero, List.set_cons_succ, List.replicate, List.length_cons, List.length_nil, List.foldr_cons, List.foldr_nil, Nat.reduceAdd, Nat.reduceSub, List.replicate_succ, List.replicate_zero, G_up_same, decide_eq_true_eq, Bool.not_eq_true', Bool.false_eq_true, if_true, if_false, ite_true, ite_false, and_true, true_and, reduceCtorEq, Bool.not_true, Bool.not_false, Bool.false_bne, Bool.true_bne, sl0, sl1, sl2, sl3, sl4]
  exact ⟨mulOk_nd p q hs, mulOk_nd q p (by omega), mulOk_den p q hs, _, _, rfl, den_mul_ne p q, _, G.le_refl _, by rw [sub_parts]; exact h⟩
theorem pure_law_times (h1 : Γ 5 = spLowest) (h : spTimes ds g Q E) : mnS Γ gl sx_law_times (endsOf Q E) (startD ns_law_times ds) g := by
  obtain ⟨p, q, rfl, hs, h⟩ := h
  simp only [sx_law_times, h1, spLowest, mnS, dLamr, mn, Mn.of, Op.rd, Cm.rd, Bl.rd, Mt.rd, Mt.rc, dNop, dSeq, dExpr, dRet, dRetN, dIf, gD, dAsg, dPar, dPut, dRaise, dVar, dC, dBin, dUn, dNil, dCons, dTup, dLst, dTst, dAndT, dOrT, dNotT, dYes, dAnd, dOr, dNot, dChain, dCall, dCB, dMt, dLset, dSrev, dTry, dIsx, dEmp, dDic1, dStp, xsub, Ex.sub, dSlc, dPart, dNoPart, dIAny, dI1, dI2, dI3, dFor, dComp, compB, wipeD, startD, endsOf, at_mk, setAll, add_int, sub_int, mul_int, mul_tup, pow_int, mod_int, fdiv_int, lt_int, le_int, gt_int, ge_int, eq_int, neg_int, len_tup, len_scr, abs_int, max_int, min_int, int_int, int_bl, r1_int, r2_int, tuple_tup, list_tup, over_tup, rev_tup, enum_tup, zip_tup, slc_tup, add_tup, isi_any, ix_tup, ix_scr, ix_num0, ix_num1, len_num, num_0, num_1, atI_0, atI_1, atI_2, List.map, List.cons_append, List.nil_append, List.getElem?_cons_zero, List.getElem?_cons_succ, List.getElem?_nil, List.set_cons_zero, List.set_cons_succ, List.replicate, List.length_cons, List.length_nil, List.foldr_cons, List.foldr_nil, Nat.reduceAdd, Nat.reduceSub, List.replicate_succ, List.replicate_zero, G_up_same, decide_eq_true_eq, Bool.not_eq_true', Bool.false_eq_true, if_true, if_false, ite_true, ite_false, and_true, true_and, reduceCtorEq, Bool.not_true, Bool.not_false, Bool.false_bne, Bool.true_bne, sl0, sl1, sl2, sl3, sl4]
  exact ⟨mulOk_num p q hs, mulOk_den p q hs, _, _, rfl, den_mul_ne p q, _, G.le_refl _, by rw [mul_parts]; exact h⟩
theorem pure_over (h1 : Γ 1 = spLowest) (h : spOver ds g Q E) : mnS Γ gl sx_over (endsOf Q E) (startD ns_over ds) g := by
  obtain ⟨p, q, rfl, hs, h0, h⟩ := h
  simp only [sx_over, h1, spLowest, mnS, dLamr, mn, Mn.of, Op.rd, Cm.rd, Bl.rd, Mt.rd, Mt.rc, dNop, dSeq, dExpr, dRet, dRetN, dIf, gD, dAsg, dPar, dPut, dRaise, dVar, dC, dBin, dUn, dNil, dCons, dTup, dLst, dTst, dAndT, dOrT, dNotT, dYes, dAnd, dOr, dNot, dChain, dCall, dCB, dMt, dLset, dSrev, dTry, dIsx, dEmp, dDic1, dStp, xsub, Ex.sub, dSlc, dPart, dNoPart, dIAny, dI1, dI2, dI3, dFor, dComp, compB, wipeD, startD, endsOf, at_mk, setAll, add_int, sub_int, mul_int, mul_tup, pow_int, mod_int, fdiv_int, lt_int, le_int, gt_int, ge_int, eq_int, neg_int, len_tup, len_scr, abs_int, max_int, min_int, int_int, int_bl, r1_int, r2_int, tuple_tup, list_tup, over_tup, rev_tup, enum_tup, zip_tup, slc_tup, add_tup, isi_any, ix_tup, ix_scr, ix_num0, ix_num1, len_num, num_0, num_1, atI_0, atI_1, atI_2, List.map, List.cons_append, List.nil_append, List.getElem?_cons_zero, List.getElem?_cons_succ, List.getElem?_nil, List.set_cons_zero, List.set_cons_succ, List.replicate, List.length_cons, List.length_nil, List.foldr_cons, List.foldr_nil, Nat.reduceAdd, Nat.reduceSub, List.replicate_succ, List.replicate_zero, G_up_same, decide_eq_true_eq, Bool.not_eq_true', Bool.false_eq_true, if_true, if_false, ite_true, ite_false, and_true, true_and, reduceCtorEq, Bool.not_true, Bool.not_false, Bool.false_bne, Bool.true_bne, sl0, sl1, sl2, sl3, sl4, Bool.false_bne]
  split
  · rename_i z
    exact ⟨_, G.le_refl _, h0 (Rat.num_eq_zero.mp z)⟩
  · rename_i z
    have hq : q ≠ 0 := fun e => z (Rat.num_eq_zero.mpr e)
    exact ⟨mulOk_nd p q hs, mulOk_dn p q hs, _, _, rfl, Int.mul_ne_zero (den_ne p) z, _, G.le_refl _, by rw [div_parts]; exact h hq⟩
end
end PP
namespace PP
open PySem PySem.Spec PyProof.Rows L2
def sx_law_pen : SX :=
  (.asg (.n 2) (.bin .add (.bin .mul (.int 7919) (.v 1)) (.int 5))
  (.ite (.cmp .lt (.v 1) (.blt .len (.cons (.v 0) .nil)))
    (.asg (.n 2) (.ix (.v 0) (.v 1)) .nil)
    (.ite (.cmp .gt (.blt .len (.cons (.v 0) .nil)) (.int 0))
      (.asg (.n 2) (.bin .add (.ix (.v 0) (.bin .mod (.v 1) (.blt .len (.cons (.v 0) .nil)))) (.bin .mul (.int 48271) (.v 1))) .nil)
      .nil .nil)
  (.ite (.cmp .ge (.v 2) (.bin .pow (.int 10) (.int 18)))
    (.ret (.lst (.cons (.bin .sub (.v 2) (.bin .pow (.int 10) (.int 18))) (.cons (.bin .mod (.v 2) (.int 2147483587)) (.cons (.int 0) .nil)))) .nil)
    .nil
  (.ret (.lst (.cons (.int 0) (.cons (.bin .add (.bin .mod (.v 2) (.int 2147483587)) (.bin .mul (.int 2147483629) (.v 1))) (.cons (.int 0) .nil)))) .nil))))
abbrev ns_law_pen : List Str := ["_law_script", "_law_k", "_law_cell"]
def sx_law_draw : SX :=
  (.put (.v 0) (.int 2) (.bin .add (.ix (.v 0) (.int 2)) (.int 1))
  (.ite (.cmp .gt (.ix (.v 0) (.int 0)) (.int 0))
    (.asg (.n 3) (.bin .mod (.ix (.v 0) (.int 0)) (.v 1))
    (.put (.v 0) (.int 0) (.bin .fdiv (.ix (.v 0) (.int 0)) (.v 1))
    (.ret (.v 3) .nil)))
    .nil
  (.asg (.n 2) (.bin .mod (.bin .mul (.bin .add (.bin .add (.ix (.v 0) (.int 1)) (.bin .mul (.int 40503) (.ix (.v 0) (.int 2)))) (.int 1)) (.int 48271)) (.int 2147483647))
  (.asg (.n 2) (.bin .mod (.bin .mul (.v 2) (.bin .add (.bin .add (.bin .mod (.v 2) (.int 65521)) (.ix (.v 0) (.int 2))) (.int 3))) (.int 2147483629))
  (.ret (.bin .mod (.bin .fdiv (.bin .mod (.bin .mul (.v 2) (.bin .add (.bin .mod (.v 2) (.int 8191)) (.int 7))) (.int 2147483563)) (.int 3)) (.v 1)) .nil)))))
abbrev ns_law_draw : List Str := ["_law_pen_here", "_law_many", "_law_number", "_law_drawn"]
def PenL (xs : List D) (n : Nat) : Prop := ∃ x0 x1 x2 : Int, xs = [.int x0, .int x1, .int x2] ∧ 0 ≤ x1 ∧ x1 < 2 ^ 60 ∧ 0 ≤ x2 ∧ x2 ≤ n
theorem PenL.mono {xs : List D} {n m : Nat} (h : PenL xs n) (l : n ≤ m) : PenL xs m := by
  obtain ⟨x0, x1, x2, e, a, b, c, d⟩ := h
  exact ⟨x0, x1, x2, e, a, b, c, by omega⟩
theorem mulOk_small {i j : Int} (h1 : i.natAbs < 2 ^ 64) (h2 : j.natAbs < 2 ^ 64) : MulOk i j := mulOk_of h1 h2 (by decide)
def spDraw : SpD := fun ds g Q _ => ∃ (a : Addr) (m : Int) (xs : List D) (n : Nat), ds = [.ref a, .int m] ∧ 0 < m ∧ g a = some xs ∧ PenL xs n ∧ n < 2 ^ 50 ∧
  ∀ (d : Nat) xs', (d : Int) < m → PenL xs' (n + 1) → Q (.int d) (g.up a xs')
theorem ixN_3 : ixN 3 0 = some 0 ∧ ixN 3 1 = some 1 ∧ ixN 3 2 = some 2 := by decide
theorem fmod_lt {a m : Int} (h : 0 < m) : 0 ≤ a.fmod m ∧ a.fmod m < m := ⟨Int.fmod_nonneg_of_pos a h, Int.fmod_lt_of_pos a h⟩
theorem pure_law_draw {Γ : Nat → SpD} {gl : Nat → D} {ds : List D} {g : G} {Q : QD} {E : XD} (h : spDraw ds g Q E) : mnS Γ gl sx_law_draw (endsOf Q E) (startD ns_law_draw ds) g := by
  obtain ⟨a, m, xs, n, rfl, hm, hg, ⟨x0, x1, x2, rfl, h1, h2, h3, h4⟩, hn, h⟩ := h
  have fin : ∀ (d : Int) xs', 0 ≤ d → d < m → PenL xs' (n + 1) → Q (.int d) (g.up a xs') := fun d xs' a1 a2 a3 => by
    have := h d.toNat xs' (by omega) a3
    rwa [show ((d.toNat : Nat) : Int) = d by omega] at this
  simp only [sx_law_draw, mnS, dLamr, mn, Mn.of, Op.rd, Cm.rd, Bl.rd, Mt.rd, Mt.rc, dNop, dSeq, dExpr, dRet, dRetN, dIf, gD, dAsg, dPar, dPut, dRaise, dVar, dC, dBin, dUn, dNil, dCons, dTup, dLst, dTst, dAndT, dOrT, dNotT, dYes, dAnd, dOr, dNot, dChain, dCall, dCB, dMt, dLset, dSrev, dTry, dIsx, dEmp, dDic1, dStp, xsub, Ex.sub, dSlc, dPart, dNoPart, dIAny, dI1, dI2, dI3, dFor, dComp, compB, wipeD, startD, endsOf, at_mk, setAll, add_int, sub_int, mul_int, mul_tup, pow_int, mod_int, fdiv_int, lt_int, le_int, gt_int, ge_int, eq_int, neg_int, len_tup, len_scr, abs_int, max_int, min_int, int_int, int_bl, r1_int, r2_int, tuple_tup, list_tup, over_tup, rev_tup, enum_tup, zip_tup, slc_tup, add_tup, isi_any, ix_tup, ix_scr, ix_num0, ix_num1, len_num, num_0, num_1, atI_0, atI_1, atI_2, List.map, List.cons_append, List.nil_append, List.getElem?_cons_zero, List.getElem?_cons_succ, List.getElem?_nil, List.set_cons_zero, List.set_cons_succ, List.replicate, List.length_cons, List.length_nil, List.foldr_cons, List.foldr_nil, Nat.reduceAdd, Nat.reduceSub, List.replicate_succ, List.replicate_zero, G_up_same, decide_eq_true_eq, Bool.not_eq_true', Bool.false_eq_true, if_true, if_false, ite_true, ite_false, and_true, true_and, reduceCtorEq, Bool.not_true, Bool.not_false, Bool.false_bne, Bool.true_bne, sl0, sl1, sl2, sl3, sl4, ix_ref hg, set_ref hg, set_ref G_up_same, ixN_3, ix_ref G_up_same]
  have P := @fmod_lt x0 m hm
  split
  · rename_i hx
    refine ⟨by omega, by omega, _, G.le_refl _, ?_⟩
    rw [G_up_up]
    exact fin _ _ P.1 P.2 ⟨_, _, _, rfl, h1, h2, by omega, by omega⟩
  · rename_i hx
    refine ⟨mulOk_small (by decide) (by omega), mulOk_of (a := 80) (b := 16) (by omega) (by decide) (by decide), by decide, ?_⟩
    generalize hy : Int.fmod _ 2147483647 = y
    have hy1 : 0 ≤ y ∧ y < 2147483647 := by rw [← hy]; exact fmod_lt (by decide)
    have hz := @fmod_lt y 65521 (by decide)
    refine ⟨by decide, mulOk_small (by omega) (by omega), by decide, ?_⟩
    generalize hw : Int.fmod _ 2147483629 = w
    have hw1 : 0 ≤ w ∧ w < 2147483629 := by rw [← hw]; exact fmod_lt (by decide)
    have hv := @fmod_lt w 8191 (by decide)
    refine ⟨by decide, mulOk_small (by omega) (by omega), by decide, by decide, by omega, _, G.le_refl _, ?_⟩
    have R := @fmod_lt (Int.fdiv (Int.fmod (w * (Int.fmod w 8191 + 7)) 2147483563) 3) m hm
    exact fin _ _ R.1 R.2 ⟨_, _, _, rfl, h1, h2, by omega, by omega⟩
def spPen : SpD := fun ds g Q _ => ∃ (ns : List Int) (k : Nat), ds = [.scr ns, .int k] ∧ k ≤ 1000 ∧ (∀ z ∈ ns, Builtin.Int.intBits z ≤ 1048576) ∧ ∀ p xs, g p = none → PenL xs 0 → Q (.ref p) (g.up p xs)
theorem pure_law_pen {Γ : Nat → SpD} {gl : Nat → D} {ds : List D} {g : G} {Q : QD} {E : XD} (h : spPen ds g Q E) : mnS Γ gl sx_law_pen (endsOf Q E) (startD ns_law_pen ds) g := by
  obtain ⟨ns, k, rfl, hk, hb, h⟩ := h
  have fin : ∀ c : Int, (if ((10 : Int) ^ 18 ≤ c) then (∀ p, g p = none → ∃ g', g'.le (g.up p [.int (c - 10 ^ 18), .int (c.fmod 2147483587), .int 0]) ∧ Q (.ref p) g') else (MulOk 2147483629 k ∧ ∀ p, g p = none → ∃ g', g'.le (g.up p [.int 0, .int (c.fmod 2147483587 + 2147483629 * k), .int 0]) ∧ Q (.ref p) g')) := fun c => by
    have P := @fmod_lt c 2147483587 (by decide)
    split
    · intro p hp
      exact ⟨_, G.le_refl _, h p _ hp ⟨_, _, _, rfl, P.1, by omega, by decide, by decide⟩⟩
    · refine ⟨mulOk_small (by decide) (by omega), fun p hp => ?_⟩
      exact ⟨_, G.le_refl _, h p _ hp ⟨_, _, _, rfl, by omega, by omega, by decide, by decide⟩⟩
  have e18 : ((10 : Int) ^ (18 : Int).toNat) = 10 ^ 18 := rfl
  simp only [sx_law_pen, mnS, dLamr, mn, Mn.of, Op.rd, Cm.rd, Bl.rd, Mt.rd, Mt.rc, dNop, dSeq, dExpr, dRet, dRetN, dIf, gD, dAsg, dPar, dPut, dRaise, dVar, dC, dBin, dUn, dNil, dCons, dTup, dLst, dTst, dAndT, dOrT, dNotT, dYes, dAnd, dOr, dNot, dChain, dCall, dCB, dMt, dLset, dSrev, dTry, dIsx, dEmp, dDic1, dStp, xsub, Ex.sub, dSlc, dPart, dNoPart, dIAny, dI1, dI2, dI3, dFor, dComp, compB, wipeD, startD, endsOf, at_mk, setAll, add_int, sub_int, mul_int, mul_tup, pow_int, mod_int, fdiv_int, lt_int, le_int, gt_int, ge_int, eq_int, neg_int, len_tup, len_scr, abs_int, max_int, min_int, int_int, int_bl, r1_int, r2_int, tuple_tup, list_tup, over_tup, rev_tup, enum_tup, zip_tup, slc_tup, add_tup, isi_any, ix_tup, ix_scr, ix_num0, ix_num1, len_num, num_0, num_1, atI_0, atI_1, atI_2, List.map, List.cons_append, List.nil_append, List.getElem?_cons_zero, List.getElem?_cons_succ, List.getElem?_nil, List.set_cons_zero, List.set_cons_succ, List.replicate, List.length_cons, List.length_nil, List.foldr_cons, List.foldr_nil, Nat.reduceAdd, Nat.reduceSub, List.replicate_succ, List.replicate_zero, G_up_same, decide_eq_true_eq, Bool.not_eq_true', Bool.false_eq_true, if_true, if_false, ite_true, ite_false, and_true, true_and, reduceCtorEq, Bool.not_true, Bool.not_false, Bool.false_bne, Bool.true_bne, sl0, sl1, sl2, sl3, sl4]
  have pw : (0 : Int) ≤ 18 ∧ (18 : Int) ≤ 1000000 ∧ (10 : Int).natAbs < 2 ^ 64 := by decide
  refine ⟨mulOk_small (by decide) (by omega), ?_⟩
  split
  · rename_i hlt
    have hlt : k < ns.length := by omega
    rw [atI_at (k := k) (x := ns[k]) rfl (List.getElem?_eq_getElem hlt)]
    try simp only [mnS, dLamr, mn, Mn.of, Op.rd, Cm.rd, Bl.rd, Mt.rd, Mt.rc, dNop, dSeq, dExpr, dRet, dRetN, dIf, gD, dAsg, dPar, dPut, dRaise, dVar, dC, dBin, dUn, dNil, dCons, dTup, dLst, dTst, dAndT, dOrT, dNotT, dYes, dAnd, dOr, dNot, dChain, dCall, dCB, dMt, dLset, dSrev, dTry, dIsx, dEmp, dDic1, dStp, xsub, Ex.sub, dSlc, dPart, dNoPart, dIAny, dI1, dI2, dI3, dFor, dComp, compB, wipeD, startD, endsOf, at_mk, setAll, add_int, sub_int, mul_int, mul_tup, pow_int, mod_int, fdiv_int, lt_int, le_int, gt_int, ge_int, eq_int, neg_int, len_tup, len_scr, abs_int, max_int, min_int, int_int, int_bl, r1_int, r2_int, tuple_tup, list_tup, over_tup, rev_tup, enum_tup, zip_tup, slc_tup, add_tup, isi_any, ix_tup, ix_scr, ix_num0, ix_num1, len_num, num_0, num_1, atI_0, atI_1, atI_2, List.map, List.cons_append, List.nil_append, List.getElem?_cons_zero, List.getElem?_cons_succ, List.getElem?_nil, List.set_cons_zero, List.set_cons_succ, List.replicate, List.length_cons, List.length_nil, List.foldr_cons, List.foldr_nil, Nat.reduceAdd, Nat.reduceSub, List.replicate_succ, List.replicate_zero, G_up_same, decide_eq_true_eq, Bool.not_eq_true', Bool.false_eq_true, if_true, if_false, ite_true, ite_false, and_true, true_and, reduceCtorEq, Bool.not_true, Bool.not_false, Bool.false_bne, Bool.true_bne, sl0, sl1, sl2, sl3, sl4]
    refine ⟨pw, ?_⟩
    have F := fin ns[k]
    split
    · rename_i c
      rw [e18] at c ⊢
      rw [if_pos c] at F
      exact ⟨by decide, by decide, F⟩
    · rename_i c
      rw [e18] at c
      rw [if_neg c] at F
      exact ⟨by decide, F.1, F.2⟩
  · split
    · rename_i h0
      have hm := @fmod_lt (k : Int) ns.length h0
      have hlt : ((k : Int).fmod ns.length).toNat < ns.length := by omega
      rw [atI_at (k := ((k : Int).fmod ns.length).toNat) (x := ns[((k : Int).fmod ns.length).toNat]) (by omega) (List.getElem?_eq_getElem hlt)]
      try simp only [mnS, dLamr, mn, Mn.of, Op.rd, Cm.rd, Bl.rd, Mt.rd, Mt.rc, dNop, dSeq, dExpr, dRet, dRetN, dIf, gD, dAsg, dPar, dPut, dRaise, dVar, dC, dBin, dUn, dNil, dCons, dTup, dLst, dTst, dAndT, dOrT, dNotT, dYes, dAnd, dOr, dNot, dChain, dCall, dCB, dMt, dLset, dSrev, dTry, dIsx, dEmp, dDic1, dStp, xsub, Ex.sub, dSlc, dPart, dNoPart, dIAny, dI1, dI2, dI3, dFor, dComp, compB, wipeD, startD, endsOf, at_mk, setAll, add_int, sub_int, mul_int, mul_tup, pow_int, mod_int, fdiv_int, lt_int, le_int, gt_int, ge_int, eq_int, neg_int, len_tup, len_scr, abs_int, max_int, min_int, int_int, int_bl, r1_int, r2_int, tuple_tup, list_tup, over_tup, rev_tup, enum_tup, zip_tup, slc_tup, add_tup, isi_any, ix_tup, ix_scr, ix_num0, ix_num1, len_num, num_0, num_1, atI_0, atI_1, atI_2, List.map, List.cons_append, List.nil_append, List.getElem?_cons_zero, List.getElem?_cons_succ, List.getElem?_nil, List.set_cons_zero, List.set_cons_succ, List.replicate, List.length_cons, List.length_nil, List.foldr_cons, List.foldr_nil, Nat.reduceAdd, Nat.reduceSub, List.replicate_succ, List.replicate_zero, G_up_same, decide_eq_true_eq, Bool.not_eq_true', Bool.false_eq_true, if_true, if_false, ite_true, ite_false, and_true, true_and, reduceCtorEq, Bool.not_true, Bool.not_false, Bool.false_bne, Bool.true_bne, sl0, sl1, sl2, sl3, sl4]
      refine ⟨by omega, mulOk_small (by decide) (by omega), pw, ?_⟩
      have F := fin (ns[((k : Int).fmod ns.length).toNat] + 48271 * k)
      split
      · rename_i c
        rw [e18] at c ⊢
        rw [if_pos c] at F
        exact ⟨by decide, by decide, F⟩
      · rename_i c
        rw [e18] at c
        rw [if_neg c] at F
        exact ⟨by decide, F.1, F.2⟩
    · refine ⟨pw, ?_⟩
      have F := fin (7919 * k + 5)
      split
      · rename_i c
        rw [e18] at c ⊢
        rw [if_pos c] at F
        exact ⟨by decide, by decide, F⟩
      · rename_i c
        rw [e18] at c
        rw [if_neg c] at F
        exact ⟨by decide, F.1, F.2⟩
end PP
namespace PP
open PySem PySem.Spec PyProof.Rows L2
mutual
def plainP : PyData → Bool
  | .none => true
  | .int _ => true
  | .str _ => true
  | .list xs => plainPs xs
  | .tuple xs => plainPs xs
  | .bool _ => false
  | .dict _ => false
def plainPs : List PyData → Bool
  | [] => true
  | x :: xs => plainP x && plainPs xs
end
mutual
theorem eqv_eq : ∀ (p q : PyData), plainP p = true → plainP q = true → (PyData.eqv p q = true ↔ p = q)
  | .none, q, _, hq => by cases q <;> first | (simp [PyData.eqv]; done) | (cases hq; done)
  | .int i, q, _, hq => by cases q <;> first | (simp [PyData.eqv]; done) | (cases hq; done)
  | .str i, q, _, hq => by cases q <;> first | (simp [PyData.eqv]; done) | (cases hq; done)
  | .list xs, q, hp, hq => by
    cases q with
    | list ys =>
      rw [PyData.eqv, eqvs_eq xs ys hp hq]
      simp
    | _ => first | (simp [PyData.eqv]; done) | (cases hq; done)
  | .tuple xs, q, hp, hq => by
    cases q with
    | tuple ys =>
      rw [PyData.eqv, eqvs_eq xs ys hp hq]
      simp
    | _ => first | (simp [PyData.eqv]; done) | (cases hq; done)
  | .bool _, _, hp, _ => by cases hp
  | .dict _, _, hp, _ => by cases hp
theorem eqvs_eq : ∀ (xs ys : List PyData), plainPs xs = true → plainPs ys = true → (PyData.eqvAll xs ys = true ↔ xs = ys)
  | [], ys, _, _ => by cases ys <;> simp [PyData.eqvAll]
  | x :: xs, ys, hx, hy => by
    cases ys with
    | nil => simp [PyData.eqvAll]
    | cons y ys =>
      have hx : (plainP x && plainPs xs) = true := hx
      have hy : (plainP y && plainPs ys) = true := hy
      rw [Bool.and_eq_true] at hx hy
      rw [PyData.eqvAll, Bool.and_eq_true, eqv_eq x y hx.1 hy.1, eqvs_eq xs ys hx.2 hy.2]
      simp
end
structure Nice (k : Nat) (p : PyData) : Prop where
  lay : p.canLay0 = true
  plain : plainP p = true
  deep : p.depth ≤ k
theorem Nice.shaped {k : Nat} {p : PyData} (h : Nice k p) (hk : k ≤ 64) : SeqAt.shaped p = true := by
  unfold SeqAt.shaped
  rw [h.lay, decide_eq_true (Nat.le_trans h.deep hk)]
  rfl
theorem Nice.mono {k j : Nat} {p : PyData} (h : Nice k p) (hk : k ≤ j) : Nice j p := ⟨h.lay, h.plain, Nat.le_trans h.deep hk⟩
theorem nice_int (i : Int) : Nice 0 (.int i) := ⟨rfl, rfl, Nat.le_refl _⟩
theorem nices {k : Nat} : ∀ {xs : List PyData}, (∀ x ∈ xs, Nice k x) → PyData.canLayAll0 xs = true ∧ plainPs xs = true ∧ PyData.depthAll xs ≤ k
  | [], _ => ⟨rfl, rfl, Nat.zero_le _⟩
  | x :: xs, h => by
    obtain ⟨a, b, c⟩ := nices (xs := xs) fun y hy => h y (List.mem_cons_of_mem _ hy)
    have hx := h x (List.mem_cons_self ..)
    refine ⟨?_, ?_, ?_⟩
    · rw [PyData.canLayAll0, hx.lay, a]; rfl
    · rw [plainPs, hx.plain, b]; rfl
    · rw [PyData.depthAll]; exact Nat.max_le.mpr ⟨hx.deep, c⟩
theorem nice_list {k : Nat} {xs : List PyData} (h : ∀ x ∈ xs, Nice k x) : Nice (k + 1) (.list xs) := by
  obtain ⟨a, b, c⟩ := nices h
  exact ⟨by rw [PyData.canLay0]; exact a, by rw [plainP]; exact b, by rw [PyData.depth]; omega⟩
theorem nice_tup {k : Nat} {xs : List PyData} (h : ∀ x ∈ xs, Nice k x) : Nice (k + 1) (.tuple xs) := by
  obtain ⟨a, b, c⟩ := nices h
  exact ⟨by rw [PyData.canLay0]; exact a, by rw [plainP]; exact b, by rw [PyData.depth]; omega⟩
def npy (q : Rat) : PyData := .tuple [.int q.num, .int q.den]
theorem npy_inj {p q : Rat} (h : npy p = npy q) : p = q := by
  unfold npy at h
  simp only [PyData.tuple.injEq, List.cons.injEq, PyData.int.injEq, and_true] at h
  exact Rat.ext h.1 (by omega)
theorem nice_num (q : Rat) : Nice 1 (npy q) := nice_tup (k := 0) fun x hx => by
  rcases List.mem_cons.mp hx with e | hx
  · subst e; exact nice_int _
  · rcases List.mem_cons.mp hx with e | hx
    · subst e; exact nice_int _
    · cases hx
def npys (qs : List Rat) : List PyData := qs.map npy
theorem npys_inj {ps qs : List Rat} (h : npys ps = npys qs) : ps = qs := (List.map_inj_right fun _ _ => npy_inj).mp h
theorem nice_nums (qs : List Rat) : ∀ x ∈ npys qs, Nice 1 x := fun x hx => by
  obtain ⟨q, _, rfl⟩ := List.mem_map.mp hx
  exact nice_num q
section
variable {g : G} {Q : QD}
theorem pyW_num {f : Addr → Option PyData} (q : Rat) : pyW f (num q) = some (npy q) := rfl
theorem pyWL_nums {f : Addr → Option PyData} : ∀ qs : List Rat, pyWL f (nums qs) = some (npys qs)
  | [] => rfl
  | q :: qs => by
    show pyWL f (num q :: nums qs) = some (npy q :: npys qs)
    rw [pyWL, pyW_num, pyWL_nums qs]
theorem py_num (q : Rat) : py g (num q) = some (npy q) := rfl
theorem py_nums (qs : List Rat) : py g (.tup (nums qs)) = some (.tuple (npys qs)) := by
  unfold py
  rw [pyW, pyWL_nums]
theorem pyN_list {n : Nat} {a : Addr} {qs : List Rat} (h : g a = some (nums qs)) : pyN (n + 1) g a = some (.list (npys qs)) := by
  rw [pyN]
  simp only [h, pyWL_nums]
theorem py_list {a : Addr} {qs : List Rat} (h : g a = some (nums qs)) : py g (.ref a) = some (.list (npys qs)) := by
  unfold py
  rw [pyW]
  exact pyN_list h
theorem eq_rule {n : Bool} {x y : D} {k : Nat} {p q : PyData} (hx : py g x = some p) (hy : py g y = some q) (np : Nice k p) (nq : Nice k q) (hk : k ≤ 64) (h1 : p = q → Q (.bl (!n)) g) (h2 : p ≠ q → Q (.bl n) g) : dEqB n x y g Q := by
  have gen : (match py g x, py g y with
    | some p, some q => SeqAt.shaped p = true ∧ SeqAt.shaped q = true ∧ Q (.bl (n != PyData.eqv p q)) g
    | _, _ => False) := by
    simp only [hx, hy]
    refine ⟨np.shaped hk, nq.shaped hk, ?_⟩
    by_cases e : p = q
    · rw [(eqv_eq p q np.plain nq.plain).mpr e, Bool.bne_true]; exact h1 e
    · rw [Bool.eq_false_iff.mpr fun z => e ((eqv_eq p q np.plain nq.plain).mp z), Bool.bne_false]; exact h2 e
  unfold dEqB
  split
  · rename_i i j
    cases hx; cases hy
    by_cases e : i = j
    · rw [decide_eq_true e, Bool.bne_true]; exact h1 (by rw [e])
    · rw [decide_eq_false e, Bool.bne_false]; exact h2 fun z => e (by cases z; rfl)
  · rename_i i j
    cases hx; cases hy
    by_cases e : i = j
    · rw [decide_eq_true e, Bool.bne_true]; exact h1 (by rw [e])
    · rw [decide_eq_false e, Bool.bne_false]; exact h2 fun z => e (by cases z; rfl)
  · cases hx; exact absurd np.plain (by simp [plainP])
  · exact gen
theorem eq_num {n : Bool} {p q : Rat} (h1 : p = q → Q (.bl (!n)) g) (h2 : p ≠ q → Q (.bl n) g) : dEqB n (num p) (num q) g Q :=
  eq_rule (py_num p) (py_num q) (nice_num p) (nice_num q) (by decide) (fun e => h1 (npy_inj e)) fun e => h2 fun z => e (by rw [z])
theorem eq_tup {n : Bool} {p q : List Rat} (h1 : p = q → Q (.bl (!n)) g) (h2 : p ≠ q → Q (.bl n) g) : dEqB n (.tup (nums p)) (.tup (nums q)) g Q :=
  eq_rule (py_nums p) (py_nums q) (nice_tup (nice_nums p)) (nice_tup (nice_nums q)) (by decide) (fun e => h1 (npys_inj (by injection e))) fun e => h2 fun z => e (by rw [z])
theorem eq_list {n : Bool} {a b : Addr} {p q : List Rat} (ha : g a = some (nums p)) (hb : g b = some (nums q)) (h1 : p = q → Q (.bl (!n)) g) (h2 : p ≠ q → Q (.bl n) g) : dEqB n (.ref a) (.ref b) g Q :=
  eq_rule (py_list ha) (py_list hb) (nice_list (nice_nums p)) (nice_list (nice_nums q)) (by decide) (fun e => h1 (npys_inj (by injection e))) fun e => h2 fun z => e (by rw [z])
end
def sx_law_whole : SX :=
  (.ret (.and (.isi [.int] (.v 0)) (.not (.isi [.bool] (.v 0)))) .nil)
abbrev ns_law_whole : List Str := ["_law_thing"]
def sx_law_is_number : SX :=
  (.ite (.or (.not (.isi [.tuple] (.v 0))) (.or (.cmp .ne (.blt .len (.cons (.v 0) .nil)) (.int 2)) (.or (.not (.call 6 (.cons (.ix (.v 0) (.int 0)) .nil))) (.not (.call 6 (.cons (.ix (.v 0) (.int 1)) .nil))))))
    (.ret (.bl false) .nil)
    .nil
  (.ret (.and (.cmp .gt (.ix (.v 0) (.int 1)) (.int 0)) (.cmp .eq (.call 5 (.cons (.ix (.v 0) (.int 0)) (.cons (.ix (.v 0) (.int 1)) .nil))) (.v 0))) .nil))
abbrev ns_law_is_number : List Str := ["_law_thing"]
def isWhole : D → Bool
  | .int _ => true
  | _ => false
def spWhole : SpD := fun ds g Q _ => ∃ d, ds = [d] ∧ knownD g d ∧ Q (.bl (isWhole d)) g
section
variable {Γ : Nat → SpD} {gl : Nat → D} {ds : List D} {g : G} {Q : QD} {E : XD}
theorem pure_law_whole (h : spWhole ds g Q E) : mnS Γ gl sx_law_whole (endsOf Q E) (startD ns_law_whole ds) g := by
  obtain ⟨d, rfl, hk, h⟩ := h
  simp only [sx_law_whole, mnS, dLamr, mn, Mn.of, Op.rd, Cm.rd, Bl.rd, Mt.rd, Mt.rc, dNop, dSeq, dExpr, dRet, dRetN, dIf, gD, dAsg, dPar, dPut, dRaise, dVar, dC, dBin, dUn, dNil, dCons, dTup, dLst, dTst, dAndT, dOrT, dNotT, dYes, dAnd, dOr, dNot, dChain, dCall, dCB, dMt, dLset, dSrev, dTry, dIsx, dEmp, dDic1, dStp, xsub, Ex.sub, dSlc, dPart, dNoPart, dIAny, dI1, dI2, dI3, dFor, dComp, compB, wipeD, startD, endsOf, at_mk, setAll, add_int, sub_int, mul_int, mul_tup, pow_int, mod_int, fdiv_int, lt_int, le_int, gt_int, ge_int, eq_int, neg_int, len_tup, len_scr, abs_int, max_int, min_int, int_int, int_bl, r1_int, r2_int, tuple_tup, list_tup, over_tup, rev_tup, enum_tup, zip_tup, slc_tup, add_tup, isi_any, ix_tup, ix_scr, ix_num0, ix_num1, len_num, num_0, num_1, atI_0, atI_1, atI_2, List.map, List.cons_append, List.nil_append, List.getElem?_cons_zero, List.getElem?_cons_succ, List.getElem?_nil, List.set_cons_zero, List.set_cons_succ, List.replicate, List.length_cons, List.length_nil, List.foldr_cons, List.foldr_nil, Nat.reduceAdd, Nat.reduceSub, List.replicate_succ, List.replicate_zero, G_up_same, decide_eq_true_eq, Bool.not_eq_true', Bool.false_eq_true, if_true, if_false, ite_true, ite_false, and_true, true_and, reduceCtorEq, Bool.not_true, Bool.not_false, Bool.false_bne, Bool.true_bne, sl0, sl1, sl2, sl3, sl4]
  refine ⟨hk, ?_⟩
  cases d <;> first | exact ⟨hk, _, G.le_refl _, h⟩ | exact ⟨_, G.le_refl _, h⟩
theorem c_whole_int {i : Int} {g : G} {Q : QD} {X : XD} : spWhole [.int i] g Q X ↔ Q (.bl true) g :=
  ⟨fun ⟨_, e, _, h⟩ => by simp only [List.cons.injEq, and_true] at e; subst e; exact h, fun h => ⟨_, rfl, trivial, h⟩⟩
def spIsNum : SpD := fun ds g Q _ => ∃ q : Rat, ds = [num q] ∧ Q (.bl true) g
theorem c_isnum {q : Rat} {g : G} {Q : QD} {X : XD} : spIsNum [num q] g Q X ↔ Q (.bl true) g :=
  ⟨fun ⟨_, e, h⟩ => h, fun h => ⟨q, rfl, h⟩⟩
theorem pure_law_is_number (h5 : Γ 5 = spLowest) (h6 : Γ 6 = spWhole) (h : spIsNum ds g Q E) : mnS Γ gl sx_law_is_number (endsOf Q E) (startD ns_law_is_number ds) g := by
  obtain ⟨q, rfl, h⟩ := h
  have i1 : ([Ty.tuple].any fun t => isTy t (num q)) = true := rfl
  have hd : (0 : Int) < q.den := by have := q.den_pos; omega
  have k : knownD g (num q) := trivial
  simp only [sx_law_is_number, h5, h6, mnS, dLamr, mn, Mn.of, Op.rd, Cm.rd, Bl.rd, Mt.rd, Mt.rc, dNop, dSeq, dExpr, dRet, dRetN, dIf, gD, dAsg, dPar, dPut, dRaise, dVar, dC, dBin, dUn, dNil, dCons, dTup, dLst, dTst, dAndT, dOrT, dNotT, dYes, dAnd, dOr, dNot, dChain, dCall, dCB, dMt, dLset, dSrev, dTry, dIsx, dEmp, dDic1, dStp, xsub, Ex.sub, dSlc, dPart, dNoPart, dIAny, dI1, dI2, dI3, dFor, dComp, compB, wipeD, startD, endsOf, at_mk, setAll, add_int, sub_int, mul_int, mul_tup, pow_int, mod_int, fdiv_int, lt_int, le_int, gt_int, ge_int, eq_int, neg_int, len_tup, len_scr, abs_int, max_int, min_int, int_int, int_bl, r1_int, r2_int, tuple_tup, list_tup, over_tup, rev_tup, enum_tup, zip_tup, slc_tup, add_tup, isi_any, ix_tup, ix_scr, ix_num0, ix_num1, len_num, num_0, num_1, atI_0, atI_1, atI_2, List.map, List.cons_append, List.nil_append, List.getElem?_cons_zero, List.getElem?_cons_succ, List.getElem?_nil, List.set_cons_zero, List.set_cons_succ, List.replicate, List.length_cons, List.length_nil, List.foldr_cons, List.foldr_nil, Nat.reduceAdd, Nat.reduceSub, List.replicate_succ, List.replicate_zero, G_up_same, decide_eq_true_eq, Bool.not_eq_true', Bool.false_eq_true, if_true, if_false, ite_true, ite_false, and_true, true_and, reduceCtorEq, Bool.not_true, Bool.not_false, Bool.false_bne, Bool.true_bne, sl0, sl1, sl2, sl3, sl4, i1, Bool.not_true, eq_int, decide_true, Bool.bne_true, c_whole_int, c_lowest, hd, Rat.num_divInt_den]
  exact ⟨k, by omega, eq_num (fun _ => ⟨_, G.le_refl _, h⟩) fun z => absurd rfl z⟩
end
end PP
namespace PP
open PySem PySem.Spec PyProof.Rows L2
def sx_law_number_v2 : SX :=
  (.ite (.cmp .gt (.call 4 (.cons (.v 0) (.cons (.int 6) .nil))) (.int 0))
    (.ret (.call 5 (.cons (.bin .sub (.call 4 (.cons (.v 0) (.cons (.int 19) .nil))) (.int 9)) (.cons (.bin .add (.int 1) (.call 4 (.cons (.v 0) (.cons (.ix (.lst (.cons (.int 1) (.cons (.int 4) .nil))) (.call 4 (.cons (.v 0) (.cons (.int 2) .nil)))) .nil)))) .nil))) .nil)
    .nil
  (.ret (.call 5 (.cons (.bin .sub (.call 4 (.cons (.v 0) (.cons (.int 199) .nil))) (.int 99)) (.cons (.bin .add (.int 1) (.call 4 (.cons (.v 0) (.cons (.int 9) .nil)))) .nil))) .nil))
abbrev ns_law_number_v2 : List Str := ["_law_pen_here"]
section
variable {Γ : Nat → SpD} {gl : Nat → D} {ds : List D} {g : G} {Q : QD} {E X : XD}
theorem c_draw {a : Addr} {m : Int} {xs : List D} {n : Nat} (h : g a = some xs) (hm : 0 < m) (hp : PenL xs n) (hn : n < 2 ^ 50) (k : ∀ (d : Nat) xs', (d : Int) < m → PenL xs' (n + 1) → Q (.int d) (g.up a xs')) : spDraw [.ref a, .int m] g Q X :=
  ⟨a, m, xs, n, rfl, hm, h, hp, hn, k⟩
def spPenFn (R : D → Prop) (c : Nat) : SpD := fun ds g Q _ => ∃ (a : Addr) (xs : List D) (n : Nat), ds = [.ref a] ∧ g a = some xs ∧ PenL xs n ∧ n + c < 2 ^ 50 ∧ ∀ d xs', R d → PenL xs' (n + c) → Q d (g.up a xs')
theorem c_penFn {R : D → Prop} {c : Nat} {a : Addr} {xs : List D} {n : Nat} (h : g a = some xs) (hp : PenL xs n) (hn : n + c < 2 ^ 50) (k : ∀ d xs', R d → PenL xs' (n + c) → Q d (g.up a xs')) : spPenFn R c [.ref a] g Q X :=
  ⟨a, xs, n, rfl, h, hp, hn, k⟩
def isNumD (b : Nat) (d : D) : Prop := ∃ q : Rat, d = num q ∧ sz q ≤ b
theorem isNum_div {t b : Int} {c : Nat} (ht : t.natAbs < 2 ^ c) (hb : b.natAbs < 2 ^ c) (h0 : b ≠ 0) : isNumD c (num (Rat.divInt t b)) := ⟨_, rfl, sz_divInt ht hb h0⟩
theorem pure_law_number_v2 (h4 : Γ 4 = spDraw) (h5 : Γ 5 = spLowest) (h : spPenFn (isNumD 16) 4 ds g Q E) : mnS Γ gl sx_law_number_v2 (endsOf Q E) (startD ns_law_number_v2 ds) g := by
  obtain ⟨a, xs, n, rfl, hg, hp, hn, h⟩ := h
  simp only [sx_law_number_v2, h4, h5, mnS, dLamr, mn, Mn.of, Op.rd, Cm.rd, Bl.rd, Mt.rd, Mt.rc, dNop, dSeq, dExpr, dRet, dRetN, dIf, gD, dAsg, dPar, dPut, dRaise, dVar, dC, dBin, dUn, dNil, dCons, dTup, dLst, dTst, dAndT, dOrT, dNotT, dYes, dAnd, dOr, dNot, dChain, dCall, dCB, dMt, dLset, dSrev, dTry, dIsx, dEmp, dDic1, dStp, xsub, Ex.sub, dSlc, dPart, dNoPart, dIAny, dI1, dI2, dI3, dFor, dComp, compB, wipeD, startD, endsOf, at_mk, setAll, add_int, sub_int, mul_int, mul_tup, pow_int, mod_int, fdiv_int, lt_int, le_int, gt_int, ge_int, eq_int, neg_int, len_tup, len_scr, abs_int, max_int, min_int, int_int, int_bl, r1_int, r2_int, tuple_tup, list_tup, over_tup, rev_tup, enum_tup, zip_tup, slc_tup, add_tup, isi_any, ix_tup, ix_scr, ix_num0, ix_num1, len_num, num_0, num_1, atI_0, atI_1, atI_2, List.map, List.cons_append, List.nil_append, List.getElem?_cons_zero, List.getElem?_cons_succ, List.getElem?_nil, List.set_cons_zero, List.set_cons_succ, List.replicate, List.length_cons, List.length_nil, List.foldr_cons, List.foldr_nil, Nat.reduceAdd, Nat.reduceSub, List.replicate_succ, List.replicate_zero, G_up_same, decide_eq_true_eq, Bool.not_eq_true', Bool.false_eq_true, if_true, if_false, ite_true, ite_false, and_true, true_and, reduceCtorEq, Bool.not_true, Bool.not_false, Bool.false_bne, Bool.true_bne, sl0, sl1, sl2, sl3, sl4]
  refine c_draw hg (by decide) hp (by omega) fun w xs1 hw p1 => ?_
  try simp only [mnS, dLamr, mn, Mn.of, Op.rd, Cm.rd, Bl.rd, Mt.rd, Mt.rc, dNop, dSeq, dExpr, dRet, dRetN, dIf, gD, dAsg, dPar, dPut, dRaise, dVar, dC, dBin, dUn, dNil, dCons, dTup, dLst, dTst, dAndT, dOrT, dNotT, dYes, dAnd, dOr, dNot, dChain, dCall, dCB, dMt, dLset, dSrev, dTry, dIsx, dEmp, dDic1, dStp, xsub, Ex.sub, dSlc, dPart, dNoPart, dIAny, dI1, dI2, dI3, dFor, dComp, compB, wipeD, startD, endsOf, at_mk, setAll, add_int, sub_int, mul_int, mul_tup, pow_int, mod_int, fdiv_int, lt_int, le_int, gt_int, ge_int, eq_int, neg_int, len_tup, len_scr, abs_int, max_int, min_int, int_int, int_bl, r1_int, r2_int, tuple_tup, list_tup, over_tup, rev_tup, enum_tup, zip_tup, slc_tup, add_tup, isi_any, ix_tup, ix_scr, ix_num0, ix_num1, len_num, num_0, num_1, atI_0, atI_1, atI_2, List.map, List.cons_append, List.nil_append, List.getElem?_cons_zero, List.getElem?_cons_succ, List.getElem?_nil, List.set_cons_zero, List.set_cons_succ, List.replicate, List.length_cons, List.length_nil, List.foldr_cons, List.foldr_nil, Nat.reduceAdd, Nat.reduceSub, List.replicate_succ, List.replicate_zero, G_up_same, decide_eq_true_eq, Bool.not_eq_true', Bool.false_eq_true, if_true, if_false, ite_true, ite_false, and_true, true_and, reduceCtorEq, Bool.not_true, Bool.not_false, Bool.false_bne, Bool.true_bne, sl0, sl1, sl2, sl3, sl4]
  split
  · refine c_draw G_up_same (by decide) p1 (by omega) fun d1 xs2 hd1 p2 => ?_
    simp only [mnS, dLamr, mn, Mn.of, Op.rd, Cm.rd, Bl.rd, Mt.rd, Mt.rc, dNop, dSeq, dExpr, dRet, dRetN, dIf, gD, dAsg, dPar, dPut, dRaise, dVar, dC, dBin, dUn, dNil, dCons, dTup, dLst, dTst, dAndT, dOrT, dNotT, dYes, dAnd, dOr, dNot, dChain, dCall, dCB, dMt, dLset, dSrev, dTry, dIsx, dEmp, dDic1, dStp, xsub, Ex.sub, dSlc, dPart, dNoPart, dIAny, dI1, dI2, dI3, dFor, dComp, compB, wipeD, startD, endsOf, at_mk, setAll, add_int, sub_int, mul_int, mul_tup, pow_int, mod_int, fdiv_int, lt_int, le_int, gt_int, ge_int, eq_int, neg_int, len_tup, len_scr, abs_int, max_int, min_int, int_int, int_bl, r1_int, r2_int, tuple_tup, list_tup, over_tup, rev_tup, enum_tup, zip_tup, slc_tup, add_tup, isi_any, ix_tup, ix_scr, ix_num0, ix_num1, len_num, num_0, num_1, atI_0, atI_1, atI_2, List.map, List.cons_append, List.nil_append, List.getElem?_cons_zero, List.getElem?_cons_succ, List.getElem?_nil, List.set_cons_zero, List.set_cons_succ, List.replicate, List.length_cons, List.length_nil, List.foldr_cons, List.foldr_nil, Nat.reduceAdd, Nat.reduceSub, List.replicate_succ, List.replicate_zero, G_up_same, decide_eq_true_eq, Bool.not_eq_true', Bool.false_eq_true, if_true, if_false, ite_true, ite_false, and_true, true_and, reduceCtorEq, Bool.not_true, Bool.not_false, Bool.false_bne, Bool.true_bne, sl0, sl1, sl2, sl3, sl4, G_up_up]
    intro p hp
    refine c_draw (G_up_fresh hp G_up_same) (by decide) p2 (by omega) fun d2 xs3 hd2 p3 => ?_
    have hne := ne_of_known (g := g.up a xs2) G_up_same hp
    refine ix_some ((G_up_ne (Ne.symm hne)).trans G_up_same) (by omega) hd2 fun x hx => ?_
    have hx' : ∃ m : Int, x = .int m ∧ 0 < m ∧ m ≤ 4 := by
      simp at hx
      rcases hx with e | e <;> exact ⟨_, e, by decide, by decide⟩
    obtain ⟨m, rfl, hm, hm2⟩ := hx'
    refine c_draw G_up_same hm p3 (by omega) fun d3 xs4 hd3 p4 => ?_
    simp only [mnS, dLamr, mn, Mn.of, Op.rd, Cm.rd, Bl.rd, Mt.rd, Mt.rc, dNop, dSeq, dExpr, dRet, dRetN, dIf, gD, dAsg, dPar, dPut, dRaise, dVar, dC, dBin, dUn, dNil, dCons, dTup, dLst, dTst, dAndT, dOrT, dNotT, dYes, dAnd, dOr, dNot, dChain, dCall, dCB, dMt, dLset, dSrev, dTry, dIsx, dEmp, dDic1, dStp, xsub, Ex.sub, dSlc, dPart, dNoPart, dIAny, dI1, dI2, dI3, dFor, dComp, compB, wipeD, startD, endsOf, at_mk, setAll, add_int, sub_int, mul_int, mul_tup, pow_int, mod_int, fdiv_int, lt_int, le_int, gt_int, ge_int, eq_int, neg_int, len_tup, len_scr, abs_int, max_int, min_int, int_int, int_bl, r1_int, r2_int, tuple_tup, list_tup, over_tup, rev_tup, enum_tup, zip_tup, slc_tup, add_tup, isi_any, ix_tup, ix_scr, ix_num0, ix_num1, len_num, num_0, num_1, atI_0, atI_1, atI_2, List.map, List.cons_append, List.nil_append, List.getElem?_cons_zero, List.getElem?_cons_succ, List.getElem?_nil, List.set_cons_zero, List.set_cons_succ, List.replicate, List.length_cons, List.length_nil, List.foldr_cons, List.foldr_nil, Nat.reduceAdd, Nat.reduceSub, List.replicate_succ, List.replicate_zero, G_up_same, decide_eq_true_eq, Bool.not_eq_true', Bool.false_eq_true, if_true, if_false, ite_true, ite_false, and_true, true_and, reduceCtorEq, Bool.not_true, Bool.not_false, Bool.false_bne, Bool.true_bne, sl0, sl1, sl2, sl3, sl4, c_lowest]
    exact ⟨by omega, g.up a xs4, (by intro b ys hb; simp only [G.up] at *; grind), h _ _ (isNum_div (by omega) (by omega) (by omega)) p4⟩
  · refine c_draw G_up_same (by decide) p1 (by omega) fun d1 xs2 hd1 p2 => ?_
    simp only [mnS, dLamr, mn, Mn.of, Op.rd, Cm.rd, Bl.rd, Mt.rd, Mt.rc, dNop, dSeq, dExpr, dRet, dRetN, dIf, gD, dAsg, dPar, dPut, dRaise, dVar, dC, dBin, dUn, dNil, dCons, dTup, dLst, dTst, dAndT, dOrT, dNotT, dYes, dAnd, dOr, dNot, dChain, dCall, dCB, dMt, dLset, dSrev, dTry, dIsx, dEmp, dDic1, dStp, xsub, Ex.sub, dSlc, dPart, dNoPart, dIAny, dI1, dI2, dI3, dFor, dComp, compB, wipeD, startD, endsOf, at_mk, setAll, add_int, sub_int, mul_int, mul_tup, pow_int, mod_int, fdiv_int, lt_int, le_int, gt_int, ge_int, eq_int, neg_int, len_tup, len_scr, abs_int, max_int, min_int, int_int, int_bl, r1_int, r2_int, tuple_tup, list_tup, over_tup, rev_tup, enum_tup, zip_tup, slc_tup, add_tup, isi_any, ix_tup, ix_scr, ix_num0, ix_num1, len_num, num_0, num_1, atI_0, atI_1, atI_2, List.map, List.cons_append, List.nil_append, List.getElem?_cons_zero, List.getElem?_cons_succ, List.getElem?_nil, List.set_cons_zero, List.set_cons_succ, List.replicate, List.length_cons, List.length_nil, List.foldr_cons, List.foldr_nil, Nat.reduceAdd, Nat.reduceSub, List.replicate_succ, List.replicate_zero, G_up_same, decide_eq_true_eq, Bool.not_eq_true', Bool.false_eq_true, if_true, if_false, ite_true, ite_false, and_true, true_and, reduceCtorEq, Bool.not_true, Bool.not_false, Bool.false_bne, Bool.true_bne, sl0, sl1, sl2, sl3, sl4, G_up_up]
    refine c_draw G_up_same (by decide) p2 (by omega) fun d2 xs3 hd2 p3 => ?_
    simp only [mnS, dLamr, mn, Mn.of, Op.rd, Cm.rd, Bl.rd, Mt.rd, Mt.rc, dNop, dSeq, dExpr, dRet, dRetN, dIf, gD, dAsg, dPar, dPut, dRaise, dVar, dC, dBin, dUn, dNil, dCons, dTup, dLst, dTst, dAndT, dOrT, dNotT, dYes, dAnd, dOr, dNot, dChain, dCall, dCB, dMt, dLset, dSrev, dTry, dIsx, dEmp, dDic1, dStp, xsub, Ex.sub, dSlc, dPart, dNoPart, dIAny, dI1, dI2, dI3, dFor, dComp, compB, wipeD, startD, endsOf, at_mk, setAll, add_int, sub_int, mul_int, mul_tup, pow_int, mod_int, fdiv_int, lt_int, le_int, gt_int, ge_int, eq_int, neg_int, len_tup, len_scr, abs_int, max_int, min_int, int_int, int_bl, r1_int, r2_int, tuple_tup, list_tup, over_tup, rev_tup, enum_tup, zip_tup, slc_tup, add_tup, isi_any, ix_tup, ix_scr, ix_num0, ix_num1, len_num, num_0, num_1, atI_0, atI_1, atI_2, List.map, List.cons_append, List.nil_append, List.getElem?_cons_zero, List.getElem?_cons_succ, List.getElem?_nil, List.set_cons_zero, List.set_cons_succ, List.replicate, List.length_cons, List.length_nil, List.foldr_cons, List.foldr_nil, Nat.reduceAdd, Nat.reduceSub, List.replicate_succ, List.replicate_zero, G_up_same, decide_eq_true_eq, Bool.not_eq_true', Bool.false_eq_true, if_true, if_false, ite_true, ite_false, and_true, true_and, reduceCtorEq, Bool.not_true, Bool.not_false, Bool.false_bne, Bool.true_bne, sl0, sl1, sl2, sl3, sl4, c_lowest, G_up_up]
    exact ⟨by omega, _, G.le_refl _, h _ _ (isNum_div (by omega) (by omega) (by omega)) (p3.mono (by omega))⟩
end
end PP
namespace PP
open PySem PySem.Spec PyProof.Rows L2
def G.lea (a : Addr) (g g' : G) : Prop := ∀ b xs, b ≠ a → g b = some xs → g' b = some xs
theorem G.lea_refl {a : Addr} {g : G} : G.lea a g g := fun _ _ _ h => h
theorem G.lea_of {a : Addr} {g g' : G} (h : g.le g') : G.lea a g g' := fun _ _ _ e => h _ _ e
theorem G.lea_fin {a : Addr} {g g' : G} {xs : List D} (h : G.lea a g g') (e : g' a = some xs) : (g.up a xs).le g' := fun b ys q => by
  by_cases hb : b = a
  · subst hb; rw [G_up_same] at q; rw [e]; exact q
  · rw [G_up_ne hb] at q; exact h _ _ hb q
theorem G.le_new {g : G} {p : Addr} {xs : List D} (hp : g p = none) : g.le (g.up p xs) := G.le_up (G.le_refl g) hp
def SeqD (g : G) (d : D) (xs : List D) : Prop := d = .tup xs ∨ ∃ a, d = .ref a ∧ g a = some xs
theorem SeqD.tup {g : G} {xs : List D} : SeqD g (.tup xs) xs := .inl rfl
theorem SeqD.ref {g : G} {a : Addr} {xs : List D} (h : g a = some xs) : SeqD g (.ref a) xs := .inr ⟨a, rfl, h⟩
theorem over_seq {g : G} {d : D} {xs : List D} {R : List D → (G → Prop) → G → Prop} (h : SeqD g d xs) (k : ∀ stay : G → Prop, (∀ g', g.le g' → stay g') → R xs stay g) : dOver d g R := by
  rcases h with rfl | ⟨a, rfl, h⟩
  · exact k _ fun _ _ => trivial
  · rw [over_ref h]; exact k _ fun _ l => l _ _ h
theorem len_seq {g : G} {d : D} {xs : List D} {Q : QD} (h : SeqD g d xs) : dLen [d] g Q = Q (.int xs.length) g := by
  rcases h with rfl | ⟨a, rfl, h⟩
  · rfl
  · exact len_ref h
theorem ix_seq {g : G} {d : D} {xs : List D} {i : Int} {Q : QD} (h : SeqD g d xs) : dIx d (.int i) g Q = (match atI xs i with | some d => Q d g | none => False) := by
  rcases h with rfl | ⟨a, rfl, h⟩
  · rfl
  · exact ix_ref h
theorem SeqD.le {g g' : G} {d : D} {xs : List D} (h : SeqD g d xs) (l : g.le g') : SeqD g' d xs := by
  rcases h with rfl | ⟨a, rfl, h⟩
  · exact .tup
  · exact .ref (l _ _ h)
theorem cut_to {α : Type} {xs : List α} {k : Nat} (h : k ≤ xs.length) : cut xs none (some (k : Int)) = xs.take k := by
  unfold cut HT.sIx
  have h1 : ¬ ((k : Int) < 0) := by omega
  simp [h1, h]
theorem atI_last {α : Type} {xs : List α} {x : α} : atI (xs ++ [x]) (-1) = some x := by
  unfold atI ixN
  rw [if_neg (by omega), if_pos (by simp; omega)]
  simp
  rw [show (-1 + ((xs.length : Int) + 1)).toNat = xs.length by omega]
  simp
def ev (c : List Rat) (x : Rat) : Rat := c.foldr (fun a r => a + x * r) 0
theorem ev_nil (x : Rat) : ev [] x = 0 := rfl
theorem ev_cons (a : Rat) (c : List Rat) (x : Rat) : ev (a :: c) x = a + x * ev c x := rfl
def trim : List Rat → List Rat
  | [] => []
  | a :: c => match trim c with
    | [] => if a = 0 then [] else [a]
    | b :: r => a :: b :: r
def Tight (c : List Rat) : Prop := ∀ q, c.getLast? = some q → q ≠ 0
theorem ev_zeros (k : Nat) (x : Rat) : ev (List.replicate k 0) x = 0 := by
  induction k with
  | zero => rfl
  | succ k ih => rw [List.replicate_succ, ev_cons, ih]; grind
theorem ev_append_zeros (c : List Rat) (k : Nat) (x : Rat) : ev (c ++ List.replicate k 0) x = ev c x := by
  induction c with
  | nil => exact ev_zeros k x
  | cons a c ih => rw [List.cons_append, ev_cons, ev_cons, ih]
theorem trim_zeros (k : Nat) : trim (List.replicate k 0) = [] := by
  induction k with
  | zero => rfl
  | succ k ih => rw [List.replicate_succ, trim, ih]; simp
theorem trim_of {c r : List Rat} {k : Nat} (h : c = r ++ List.replicate k 0) (hl : Tight r) : trim c = r := by
  subst h
  induction r with
  | nil => exact trim_zeros k
  | cons a r ih =>
    rw [List.cons_append, trim]
    cases r with
    | nil =>
      rw [List.nil_append, trim_zeros]
      have := hl a rfl
      simp [this]
    | cons b r =>
      rw [ih (fun q hq => hl q (by simpa using hq))]
theorem trim_split (c : List Rat) : ∃ k, c = trim c ++ List.replicate k 0 := by
  induction c with
  | nil => exact ⟨0, rfl⟩
  | cons a c ih =>
    obtain ⟨k, hk⟩ := ih
    rw [trim]
    cases e : trim c with
    | nil =>
      rw [e] at hk
      by_cases ha : a = 0
      · exact ⟨k + 1, by simp only [ha, if_true]; rw [List.replicate_succ, List.nil_append]; exact congrArg _ hk⟩
      · exact ⟨k, by simp only [ha, if_false]; exact congrArg _ hk⟩
    | cons b r =>
      rw [e] at hk
      exact ⟨k, by simp only [List.cons_append]; exact congrArg _ hk⟩
theorem trim_tight (c : List Rat) : Tight (trim c) := by
  induction c with
  | nil => intro q h; cases h
  | cons a c ih =>
    rw [trim]
    cases e : trim c with
    | nil =>
      by_cases ha : a = 0
      · simp only [ha, if_true]; intro q h; cases h
      · simp only [ha, if_false]; intro q h; cases h; exact ha
    | cons b r =>
      rw [e] at ih
      intro q h
      exact ih q (by simpa using h)
theorem trim_self {c : List Rat} (h : Tight c) : trim c = c := trim_of (k := 0) (by simp) h
theorem ev_trim (c : List Rat) (x : Rat) : ev (trim c) x = ev c x := by
  obtain ⟨k, hk⟩ := trim_split c
  conv => rhs; rw [hk]
  rw [ev_append_zeros]
theorem trim_len (c : List Rat) : (trim c).length ≤ c.length := by
  obtain ⟨k, hk⟩ := trim_split c
  have := congrArg List.length hk
  simp at this
  omega
theorem trim_mem {c : List Rat} {q : Rat} (h : q ∈ trim c) : q ∈ c := by
  obtain ⟨k, hk⟩ := trim_split c
  rw [hk]
  exact List.mem_append_left _ h
def sx_curve_of : SX :=
  (.asg (.n 1) (.blt .len (.cons (.v 0) .nil))
  (.whl (.and (.cmp .gt (.v 1) (.int 0)) (.cmp .eq (.ix (.v 0) (.bin .sub (.v 1) (.int 1))) (.glo 0)))
    (.asg (.n 1) (.bin .sub (.v 1) (.int 1)) .nil)
  (.ret (.blt .tuple (.cons (.slc (.v 0) .hole (.v 1)) .nil)) .nil)))
abbrev ns_curve_of : List Str := ["numbers", "many"]
def sx_law_at : SX :=
  (.asg (.n 2) (.tup (.cons (.int 0) (.cons (.int 1) .nil)))
  (.asg (.n 3) (.tup (.cons (.int 1) (.cons (.int 1) .nil)))
  (.for_ (.n 4) (.over (.v 0))
    (.asg (.n 2) (.call 25 (.cons (.v 2) (.cons (.call 26 (.cons (.v 4) (.cons (.v 3) .nil))) .nil)))
    (.asg (.n 3) (.call 26 (.cons (.v 3) (.cons (.v 1) .nil))) .nil))
  (.ret (.v 2) .nil))))
abbrev ns_law_at : List Str := ["_law_curve", "_law_x", "_law_found", "_law_power", "_law_number_here"]
def sx_law_is_curve : SX :=
  (.ite (.or (.not (.isi [.tuple] (.v 0))) (.not (.blt .all (.cons (.comp [1] (.n 1) (.over (.v 0)) .yes (.call 7 (.cons (.v 1) .nil))) .nil))))
    (.ret (.bl false) .nil)
    .nil
  (.ret (.or (.cmp .eq (.v 0) (.tup .nil)) (.cmp .ne (.ix (.v 0) (.neg (.int 1))) (.tup (.cons (.int 0) (.cons (.int 1) .nil))))) .nil))
abbrev ns_law_is_curve : List Str := ["_law_thing", "_law_number_here"]
section
variable {Γ : Nat → SpD} {gl : Nat → D} {ds : List D} {g : G} {Q : QD} {E X : XD}
def spCurveOf : SpD := fun ds g Q _ => ∃ a qs, ds = [.ref a] ∧ g a = some (nums qs) ∧ Q (.tup (nums (trim qs))) g
theorem c_curveOf {a : Addr} {qs : List Rat} (h : g a = some (nums qs)) (k : Q (.tup (nums (trim qs))) g) : spCurveOf [.ref a] g Q X := ⟨a, qs, rfl, h, k⟩
theorem pure_curve_of (hg : gl 0 = .tup [.int 0, .int 1]) (h : spCurveOf ds g Q E) : mnS Γ gl sx_curve_of (endsOf Q E) (startD ns_curve_of ds) g := by
  obtain ⟨a, qs, rfl, ha, h⟩ := h
  simp only [sx_curve_of, hg, mnS, dLamr, mn, Mn.of, Op.rd, Cm.rd, Bl.rd, Mt.rd, Mt.rc, dNop, dSeq, dExpr, dRet, dRetN, dIf, gD, dAsg, dPar, dPut, dRaise, dVar, dC, dBin, dUn, dNil, dCons, dTup, dLst, dTst, dAndT, dOrT, dNotT, dYes, dAnd, dOr, dNot, dChain, dCall, dCB, dMt, dLset, dSrev, dTry, dIsx, dEmp, dDic1, dStp, xsub, Ex.sub, dSlc, dPart, dNoPart, dIAny, dI1, dI2, dI3, dFor, dComp, compB, wipeD, startD, endsOf, at_mk, setAll, add_int, sub_int, mul_int, mul_tup, pow_int, mod_int, fdiv_int, lt_int, le_int, gt_int, ge_int, eq_int, neg_int, len_tup, len_scr, abs_int, max_int, min_int, int_int, int_bl, r1_int, r2_int, tuple_tup, list_tup, over_tup, rev_tup, enum_tup, zip_tup, slc_tup, add_tup, isi_any, ix_tup, ix_scr, ix_num0, ix_num1, len_num, num_0, num_1, atI_0, atI_1, atI_2, List.map, List.cons_append, List.nil_append, List.getElem?_cons_zero, List.getElem?_cons_succ, List.getElem?_nil, List.set_cons_zero, List.set_cons_succ, List.replicate, List.length_cons, List.length_nil, List.foldr_cons, List.foldr_nil, Nat.reduceAdd, Nat.reduceSub, List.replicate_succ, List.replicate_zero, G_up_same, decide_eq_true_eq, Bool.not_eq_true', Bool.false_eq_true, if_true, if_false, ite_true, ite_false, and_true, true_and, reduceCtorEq, Bool.not_true, Bool.not_false, Bool.false_bne, Bool.true_bne, sl0, sl1, sl2, sl3, sl4, len_ref ha, nums_len]
  refine ⟨fun m env g' => g' = g ∧ env = [some (.ref a), some (.int m)] ∧ ∃ k, m + k = qs.length ∧ qs = qs.take m ++ List.replicate k 0, ⟨qs.length, rfl, rfl, 0, by omega, by simp⟩, ?_⟩
  rintro m env g' ⟨rfl, rfl, k, hk, hq⟩
  try simp only [mnS, dLamr, mn, Mn.of, Op.rd, Cm.rd, Bl.rd, Mt.rd, Mt.rc, dNop, dSeq, dExpr, dRet, dRetN, dIf, gD, dAsg, dPar, dPut, dRaise, dVar, dC, dBin, dUn, dNil, dCons, dTup, dLst, dTst, dAndT, dOrT, dNotT, dYes, dAnd, dOr, dNot, dChain, dCall, dCB, dMt, dLset, dSrev, dTry, dIsx, dEmp, dDic1, dStp, xsub, Ex.sub, dSlc, dPart, dNoPart, dIAny, dI1, dI2, dI3, dFor, dComp, compB, wipeD, startD, endsOf, at_mk, setAll, add_int, sub_int, mul_int, mul_tup, pow_int, mod_int, fdiv_int, lt_int, le_int, gt_int, ge_int, eq_int, neg_int, len_tup, len_scr, abs_int, max_int, min_int, int_int, int_bl, r1_int, r2_int, tuple_tup, list_tup, over_tup, rev_tup, enum_tup, zip_tup, slc_tup, add_tup, isi_any, ix_tup, ix_scr, ix_num0, ix_num1, len_num, num_0, num_1, atI_0, atI_1, atI_2, List.map, List.cons_append, List.nil_append, List.getElem?_cons_zero, List.getElem?_cons_succ, List.getElem?_nil, List.set_cons_zero, List.set_cons_succ, List.replicate, List.length_cons, List.length_nil, List.foldr_cons, List.foldr_nil, Nat.reduceAdd, Nat.reduceSub, List.replicate_succ, List.replicate_zero, G_up_same, decide_eq_true_eq, Bool.not_eq_true', Bool.false_eq_true, if_true, if_false, ite_true, ite_false, and_true, true_and, reduceCtorEq, Bool.not_true, Bool.not_false, Bool.false_bne, Bool.true_bne, sl0, sl1, sl2, sl3, sl4]
  have fin : ∀ p, g' p = none → Tight (qs.take m) → ∃ g0, g0.le (g'.up p (nums (qs.take m))) ∧ Q (.tup (nums (qs.take m))) g0 := fun p hp ht =>
    ⟨g', G.le_new hp, by rw [← trim_of hq ht]; exact h⟩
  have hcut : cut (nums qs) none (some (m : Int)) = nums (qs.take m) := by
    rw [cut_to (by rw [nums_len]; omega)]
    unfold nums
    rw [List.map_take]
  split
  · rename_i hm
    have hm : 0 < m := by omega
    have hlt : m - 1 < qs.length := by omega
    rw [ix_ref ha, show ((m : Int) - 1) = ((m - 1 : Nat) : Int) by omega, atI_nums rfl (List.getElem?_eq_getElem hlt)]
    have e1 : qs.take m = qs.take (m - 1) ++ [qs[m - 1]] := by
      conv => lhs; rw [show m = m - 1 + 1 by omega]
      rw [List.take_succ_eq_append_getElem hlt]
    refine eq_num (fun e => ?_) fun e => ?_
    · simp only [mnS, dLamr, mn, Mn.of, Op.rd, Cm.rd, Bl.rd, Mt.rd, Mt.rc, dNop, dSeq, dExpr, dRet, dRetN, dIf, gD, dAsg, dPar, dPut, dRaise, dVar, dC, dBin, dUn, dNil, dCons, dTup, dLst, dTst, dAndT, dOrT, dNotT, dYes, dAnd, dOr, dNot, dChain, dCall, dCB, dMt, dLset, dSrev, dTry, dIsx, dEmp, dDic1, dStp, xsub, Ex.sub, dSlc, dPart, dNoPart, dIAny, dI1, dI2, dI3, dFor, dComp, compB, wipeD, startD, endsOf, at_mk, setAll, add_int, sub_int, mul_int, mul_tup, pow_int, mod_int, fdiv_int, lt_int, le_int, gt_int, ge_int, eq_int, neg_int, len_tup, len_scr, abs_int, max_int, min_int, int_int, int_bl, r1_int, r2_int, tuple_tup, list_tup, over_tup, rev_tup, enum_tup, zip_tup, slc_tup, add_tup, isi_any, ix_tup, ix_scr, ix_num0, ix_num1, len_num, num_0, num_1, atI_0, atI_1, atI_2, List.map, List.cons_append, List.nil_append, List.getElem?_cons_zero, List.getElem?_cons_succ, List.getElem?_nil, List.set_cons_zero, List.set_cons_succ, List.replicate, List.length_cons, List.length_nil, List.foldr_cons, List.foldr_nil, Nat.reduceAdd, Nat.reduceSub, List.replicate_succ, List.replicate_zero, G_up_same, decide_eq_true_eq, Bool.not_eq_true', Bool.false_eq_true, if_true, if_false, ite_true, ite_false, and_true, true_and, reduceCtorEq, Bool.not_true, Bool.not_false, Bool.false_bne, Bool.true_bne, sl0, sl1, sl2, sl3, sl4, Bool.not_false]
      refine ⟨m - 1, by omega, rfl, k + 1, by omega, ?_⟩
      conv => lhs; rw [hq]
      rw [e1, e, List.append_assoc, List.replicate_succ]
      rfl
    · simp only [mnS, dLamr, mn, Mn.of, Op.rd, Cm.rd, Bl.rd, Mt.rd, Mt.rc, dNop, dSeq, dExpr, dRet, dRetN, dIf, gD, dAsg, dPar, dPut, dRaise, dVar, dC, dBin, dUn, dNil, dCons, dTup, dLst, dTst, dAndT, dOrT, dNotT, dYes, dAnd, dOr, dNot, dChain, dCall, dCB, dMt, dLset, dSrev, dTry, dIsx, dEmp, dDic1, dStp, xsub, Ex.sub, dSlc, dPart, dNoPart, dIAny, dI1, dI2, dI3, dFor, dComp, compB, wipeD, startD, endsOf, at_mk, setAll, add_int, sub_int, mul_int, mul_tup, pow_int, mod_int, fdiv_int, lt_int, le_int, gt_int, ge_int, eq_int, neg_int, len_tup, len_scr, abs_int, max_int, min_int, int_int, int_bl, r1_int, r2_int, tuple_tup, list_tup, over_tup, rev_tup, enum_tup, zip_tup, slc_tup, add_tup, isi_any, ix_tup, ix_scr, ix_num0, ix_num1, len_num, num_0, num_1, atI_0, atI_1, atI_2, List.map, List.cons_append, List.nil_append, List.getElem?_cons_zero, List.getElem?_cons_succ, List.getElem?_nil, List.set_cons_zero, List.set_cons_succ, List.replicate, List.length_cons, List.length_nil, List.foldr_cons, List.foldr_nil, Nat.reduceAdd, Nat.reduceSub, List.replicate_succ, List.replicate_zero, G_up_same, decide_eq_true_eq, Bool.not_eq_true', Bool.false_eq_true, if_true, if_false, ite_true, ite_false, and_true, true_and, reduceCtorEq, Bool.not_true, Bool.not_false, Bool.false_bne, Bool.true_bne, sl0, sl1, sl2, sl3, sl4, slc_ref ha, hcut]
      intro p hp
      rw [tuple_ref G_up_same]
      exact fin p hp fun q hq2 => by
        rw [e1, List.getLast?_append] at hq2
        simp at hq2
        rw [← hq2]; exact e
  · rename_i hm
    have hm : m = 0 := by omega
    simp only [mnS, dLamr, mn, Mn.of, Op.rd, Cm.rd, Bl.rd, Mt.rd, Mt.rc, dNop, dSeq, dExpr, dRet, dRetN, dIf, gD, dAsg, dPar, dPut, dRaise, dVar, dC, dBin, dUn, dNil, dCons, dTup, dLst, dTst, dAndT, dOrT, dNotT, dYes, dAnd, dOr, dNot, dChain, dCall, dCB, dMt, dLset, dSrev, dTry, dIsx, dEmp, dDic1, dStp, xsub, Ex.sub, dSlc, dPart, dNoPart, dIAny, dI1, dI2, dI3, dFor, dComp, compB, wipeD, startD, endsOf, at_mk, setAll, add_int, sub_int, mul_int, mul_tup, pow_int, mod_int, fdiv_int, lt_int, le_int, gt_int, ge_int, eq_int, neg_int, len_tup, len_scr, abs_int, max_int, min_int, int_int, int_bl, r1_int, r2_int, tuple_tup, list_tup, over_tup, rev_tup, enum_tup, zip_tup, slc_tup, add_tup, isi_any, ix_tup, ix_scr, ix_num0, ix_num1, len_num, num_0, num_1, atI_0, atI_1, atI_2, List.map, List.cons_append, List.nil_append, List.getElem?_cons_zero, List.getElem?_cons_succ, List.getElem?_nil, List.set_cons_zero, List.set_cons_succ, List.replicate, List.length_cons, List.length_nil, List.foldr_cons, List.foldr_nil, Nat.reduceAdd, Nat.reduceSub, List.replicate_succ, List.replicate_zero, G_up_same, decide_eq_true_eq, Bool.not_eq_true', Bool.false_eq_true, if_true, if_false, ite_true, ite_false, and_true, true_and, reduceCtorEq, Bool.not_true, Bool.not_false, Bool.false_bne, Bool.true_bne, sl0, sl1, sl2, sl3, sl4, slc_ref ha, hcut]
    intro p hp
    rw [tuple_ref G_up_same]
    exact fin p hp fun q hq2 => by subst hm; cases hq2
def Szs (b : Nat) (qs : List Rat) : Prop := ∀ q ∈ qs, sz q ≤ b
theorem Szs.at {b : Nat} {qs : List Rat} {k : Nat} {q : Rat} (h : Szs b qs) (e : qs[k]? = some q) : sz q ≤ b := h q (List.mem_of_getElem? e)
theorem Szs.trim {b : Nat} {qs : List Rat} (h : Szs b qs) : Szs b (PP.trim qs) := fun q hq => h q (trim_mem hq)
theorem Szs.mono {b c : Nat} {qs : List Rat} (h : Szs b qs) (l : b ≤ c) : Szs c qs := fun q hq => Nat.le_trans (h q hq) l
theorem drop_one6 {qs : List Rat} {k : Nat} {q : Rat} (h : qs[k]? = some q) : qs.drop k = q :: qs.drop (k + 1) := by
  have hlt : k < qs.length := by
    rcases Nat.lt_or_ge k qs.length with z | z
    · exact z
    · rw [List.getElem?_eq_none z] at h; cases h
  rw [List.drop_eq_getElem_cons hlt]
  rw [List.getElem?_eq_getElem hlt] at h
  cases h; rfl
theorem take_one6 {qs : List Rat} {k : Nat} {q : Rat} (h : qs[k]? = some q) : qs.take (k + 1) = qs.take k ++ [q] := by
  have hlt : k < qs.length := by
    rcases Nat.lt_or_ge k qs.length with z | z
    · exact z
    · rw [List.getElem?_eq_none z] at h; cases h
  rw [List.take_succ_eq_append_getElem hlt]
  rw [List.getElem?_eq_getElem hlt] at h
  cases h; rfl
theorem ev_snoc (c : List Rat) (a x : Rat) : ev (c ++ [a]) x = ev c x + a * x ^ c.length := by
  induction c with
  | nil => rw [List.nil_append, ev_cons, ev_nil, List.length_nil, Rat.pow_zero]; grind
  | cons b c ih => rw [List.cons_append, ev_cons, ev_cons, ih, List.length_cons, Rat.pow_succ]; grind
def EvOk (qs : List Rat) (x : Rat) : Prop := ∃ M b bx, sz x ≤ bx ∧ Szs b qs ∧ (∀ k, k ≤ qs.length → sz (ev (qs.drop k) x) ≤ M) ∧ (∀ k, k ≤ qs.length → sz (ev (qs.take k) x) ≤ M) ∧ (∀ k, k ≤ qs.length → sz (x ^ k) ≤ k * bx + 1) ∧ M + b + (qs.length + 2) * (bx + 2) ≤ 100000000
theorem sz_powk (x : Rat) (bx : Nat) (hx : sz x ≤ bx) : ∀ k : Nat, sz (x ^ k) ≤ k * bx + 1
  | 0 => by rw [Rat.pow_zero, show sz (1 : Rat) = 1 by decide]; omega
  | k + 1 => by
    have h1 := sz_powk x bx hx k
    have h2 := sz_mul (x ^ k) x
    rw [Rat.pow_succ, Nat.succ_mul]
    omega
theorem evOk_szs {qs : List Rat} {x : Rat} (b bx : Nat) (hb : Szs b qs) (hx : sz x ≤ bx) (hs : (qs.length + 2) * (b + (qs.length + 2) * (bx + 2)) ≤ 40000000) : EvOk qs x := by
  have hbig : b + (qs.length + 2) * (bx + 2) ≤ (qs.length + 2) * (b + (qs.length + 2) * (bx + 2)) := Nat.le_mul_of_pos_left _ (by omega)
  have h0 : sz (0 : Rat) = 1 := sz_0
  have hM : ∀ k, k ≤ qs.length → k * (b + (qs.length + 2) * (bx + 2)) + 1 ≤ 40000000 := fun k hk => by
    have h1 : k * (b + (qs.length + 2) * (bx + 2)) ≤ qs.length * (b + (qs.length + 2) * (bx + 2)) := Nat.mul_le_mul_right _ hk
    have h2 : qs.length * (b + (qs.length + 2) * (bx + 2)) + 2 * (b + (qs.length + 2) * (bx + 2)) ≤ 40000000 := by rw [← Nat.add_mul]; exact hs
    have h3 : 2 * 2 ≤ (qs.length + 2) * (bx + 2) := Nat.mul_le_mul (by omega) (by omega)
    omega
  have hL : b + bx + 1 ≤ b + (qs.length + 2) * (bx + 2) := by
    have : bx + 2 ≤ (qs.length + 2) * (bx + 2) := Nat.le_mul_of_pos_left _ (by omega)
    omega
  refine ⟨40000000, b, bx, hx, hb, fun k hk => ?_, fun k hk => ?_, fun k _ => sz_powk x bx hx k, by omega⟩
  · have key : ∀ j, j ≤ qs.length → sz (ev (qs.drop (qs.length - j)) x) ≤ j * (b + (qs.length + 2) * (bx + 2)) + 1 := by
      intro j
      induction j with
      | zero => intro _; rw [Nat.sub_zero, List.drop_length, ev_nil, h0]; omega
      | succ j ih =>
        intro hj
        have := ih (by omega)
        have hlt : qs.length - (j + 1) < qs.length := by omega
        have hq := List.getElem?_eq_getElem hlt
        rw [drop_one6 hq, show qs.length - (j + 1) + 1 = qs.length - j by omega, ev_cons]
        have h1 := hb.at hq
        have h2 := sz_mul x (ev (qs.drop (qs.length - j)) x)
        have h3 := sz_add qs[qs.length - (j + 1)] (x * ev (qs.drop (qs.length - j)) x)
        rw [Nat.succ_mul]
        omega
    have := key (qs.length - k) (by omega)
    rw [show qs.length - (qs.length - k) = k by omega] at this
    have := hM (qs.length - k) (by omega)
    omega
  · have key : ∀ j, j ≤ qs.length → sz (ev (qs.take j) x) ≤ j * (b + (qs.length + 2) * (bx + 2)) + 1 := by
      intro j
      induction j with
      | zero => intro _; rw [List.take_zero, ev_nil, h0]; omega
      | succ j ih =>
        intro hj
        have := ih (by omega)
        have hlt : j < qs.length := by omega
        have hq := List.getElem?_eq_getElem hlt
        rw [take_one6 hq, ev_snoc, List.length_take, Nat.min_eq_left (by omega)]
        have h1 := hb.at hq
        have h2 := sz_mul qs[j] (x ^ j)
        have h3 := sz_add (ev (qs.take j) x) (qs[j] * x ^ j)
        have h4 := sz_powk x bx hx j
        have h5 : j * bx ≤ qs.length * bx := Nat.mul_le_mul_right _ (by omega)
        have h6 : qs.length * bx + 4 + 2 * bx ≤ (qs.length + 2) * (bx + 2) := by rw [Nat.add_mul, Nat.mul_add]; omega
        rw [Nat.succ_mul]
        omega
    have := key k hk
    have := hM k hk
    omega
def spEv : SpD := fun ds g Q _ => ∃ d x qs, ds = [d, num x] ∧ SeqD g d (nums qs) ∧ EvOk qs x ∧ Q (num (ev qs x)) g
theorem c_ev' {d : D} {x : Rat} {qs : List Rat} (b bx : Nat) (hd : SeqD g d (nums qs)) (hb : Szs b qs) (hx : sz x ≤ bx) (hs : (qs.length + 2) * (b + (qs.length + 2) * (bx + 2)) ≤ 40000000) (k : Q (num (ev qs x)) g) : spEv [d, num x] g Q X := ⟨d, x, qs, rfl, hd, evOk_szs b bx hb hx hs, k⟩
theorem pure_law_at (h25 : Γ 25 = spPlus) (h26 : Γ 26 = spTimes) (h : spEv ds g Q E) : mnS Γ gl sx_law_at (endsOf Q E) (startD ns_law_at ds) g := by
  obtain ⟨d, x, qs, rfl, hd, ⟨M, b, bx, hx, hb, _, hM, hP, hs⟩, h⟩ := h
  simp only [sx_law_at, h25, h26, mnS, dLamr, mn, Mn.of, Op.rd, Cm.rd, Bl.rd, Mt.rd, Mt.rc, dNop, dSeq, dExpr, dRet, dRetN, dIf, gD, dAsg, dPar, dPut, dRaise, dVar, dC, dBin, dUn, dNil, dCons, dTup, dLst, dTst, dAndT, dOrT, dNotT, dYes, dAnd, dOr, dNot, dChain, dCall, dCB, dMt, dLset, dSrev, dTry, dIsx, dEmp, dDic1, dStp, xsub, Ex.sub, dSlc, dPart, dNoPart, dIAny, dI1, dI2, dI3, dFor, dComp, compB, wipeD, startD, endsOf, at_mk, setAll, add_int, sub_int, mul_int, mul_tup, pow_int, mod_int, fdiv_int, lt_int, le_int, gt_int, ge_int, eq_int, neg_int, len_tup, len_scr, abs_int, max_int, min_int, int_int, int_bl, r1_int, r2_int, tuple_tup, list_tup, over_tup, rev_tup, enum_tup, zip_tup, slc_tup, add_tup, isi_any, ix_tup, ix_scr, ix_num0, ix_num1, len_num, num_0, num_1, atI_0, atI_1, atI_2, List.map, List.cons_append, List.nil_append, List.getElem?_cons_zero, List.getElem?_cons_succ, List.getElem?_nil, List.set_cons_zero, List.set_cons_succ, List.replicate, List.length_cons, List.length_nil, List.foldr_cons, List.foldr_nil, Nat.reduceAdd, Nat.reduceSub, List.replicate_succ, List.replicate_zero, G_up_same, decide_eq_true_eq, Bool.not_eq_true', Bool.false_eq_true, if_true, if_false, ite_true, ite_false, and_true, true_and, reduceCtorEq, Bool.not_true, Bool.not_false, Bool.false_bne, Bool.true_bne, sl0, sl1, sl2, sl3, sl4]
  refine over_seq hd fun stay hst => ?_
  have h6 : qs.length * bx + 4 + 2 * bx ≤ (qs.length + 2) * (bx + 2) := by rw [Nat.add_mul, Nat.mul_add]; omega
  refine for_inv (fun k env g' => g' = g ∧ ∃ y w o, env = [some d, some (num x), some (num y), some (num w), o] ∧ y = ev (qs.take k) x ∧ w = x ^ k ∧ k ≤ qs.length) (fun k env g' e => hst _ (by rw [e.1]; exact G.le_refl _)) ?_ ?_ ⟨rfl, 0, 1, none, rfl, by rw [List.take_zero, ev_nil], by rw [Rat.pow_zero], by omega⟩
  · rintro k y env g' N hk ⟨rfl, v, w, o, rfl, hv, hw, hk2⟩ hN
    obtain ⟨q, hq, rfl⟩ := nums_at hk
    have hk3 : k < qs.length := by
      rcases Nat.lt_or_ge k qs.length with z | z
      · exact z
      · rw [List.getElem?_eq_none z] at hq; cases hq
    have hq1 := hb.at hq
    have hsv := hM k hk2
    have hsw := hP k hk2
    rw [← hv] at hsv
    rw [← hw] at hsw
    have hm : k * bx ≤ qs.length * bx := Nat.mul_le_mul_right _ hk2
    have hmul := sz_mul q w
    simp only [mnS, dLamr, mn, Mn.of, Op.rd, Cm.rd, Bl.rd, Mt.rd, Mt.rc, dNop, dSeq, dExpr, dRet, dRetN, dIf, gD, dAsg, dPar, dPut, dRaise, dVar, dC, dBin, dUn, dNil, dCons, dTup, dLst, dTst, dAndT, dOrT, dNotT, dYes, dAnd, dOr, dNot, dChain, dCall, dCB, dMt, dLset, dSrev, dTry, dIsx, dEmp, dDic1, dStp, xsub, Ex.sub, dSlc, dPart, dNoPart, dIAny, dI1, dI2, dI3, dFor, dComp, compB, wipeD, startD, endsOf, at_mk, setAll, add_int, sub_int, mul_int, mul_tup, pow_int, mod_int, fdiv_int, lt_int, le_int, gt_int, ge_int, eq_int, neg_int, len_tup, len_scr, abs_int, max_int, min_int, int_int, int_bl, r1_int, r2_int, tuple_tup, list_tup, over_tup, rev_tup, enum_tup, zip_tup, slc_tup, add_tup, isi_any, ix_tup, ix_scr, ix_num0, ix_num1, len_num, num_0, num_1, atI_0, atI_1, atI_2, List.map, List.cons_append, List.nil_append, List.getElem?_cons_zero, List.getElem?_cons_succ, List.getElem?_nil, List.set_cons_zero, List.set_cons_succ, List.replicate, List.length_cons, List.length_nil, List.foldr_cons, List.foldr_nil, Nat.reduceAdd, Nat.reduceSub, List.replicate_succ, List.replicate_zero, G_up_same, decide_eq_true_eq, Bool.not_eq_true', Bool.false_eq_true, if_true, if_false, ite_true, ite_false, and_true, true_and, reduceCtorEq, Bool.not_true, Bool.not_false, Bool.false_bne, Bool.true_bne, sl0, sl1, sl2, sl3, sl4, c_bin]
    refine ⟨by omega, by omega, by omega, hN _ _ ⟨rfl, _, _, _, rfl, ?_, ?_, by omega⟩⟩
    · rw [take_one6 hq, ev_snoc, hv, hw, List.length_take, Nat.min_eq_left (by omega)]
    · rw [hw, Rat.pow_succ]
  · rintro env g' ⟨rfl, v, w, o, rfl, hv, -⟩
    try simp only [mnS, dLamr, mn, Mn.of, Op.rd, Cm.rd, Bl.rd, Mt.rd, Mt.rc, dNop, dSeq, dExpr, dRet, dRetN, dIf, gD, dAsg, dPar, dPut, dRaise, dVar, dC, dBin, dUn, dNil, dCons, dTup, dLst, dTst, dAndT, dOrT, dNotT, dYes, dAnd, dOr, dNot, dChain, dCall, dCB, dMt, dLset, dSrev, dTry, dIsx, dEmp, dDic1, dStp, xsub, Ex.sub, dSlc, dPart, dNoPart, dIAny, dI1, dI2, dI3, dFor, dComp, compB, wipeD, startD, endsOf, at_mk, setAll, add_int, sub_int, mul_int, mul_tup, pow_int, mod_int, fdiv_int, lt_int, le_int, gt_int, ge_int, eq_int, neg_int, len_tup, len_scr, abs_int, max_int, min_int, int_int, int_bl, r1_int, r2_int, tuple_tup, list_tup, over_tup, rev_tup, enum_tup, zip_tup, slc_tup, add_tup, isi_any, ix_tup, ix_scr, ix_num0, ix_num1, len_num, num_0, num_1, atI_0, atI_1, atI_2, List.map, List.cons_append, List.nil_append, List.getElem?_cons_zero, List.getElem?_cons_succ, List.getElem?_nil, List.set_cons_zero, List.set_cons_succ, List.replicate, List.length_cons, List.length_nil, List.foldr_cons, List.foldr_nil, Nat.reduceAdd, Nat.reduceSub, List.replicate_succ, List.replicate_zero, G_up_same, decide_eq_true_eq, Bool.not_eq_true', Bool.false_eq_true, if_true, if_false, ite_true, ite_false, and_true, true_and, reduceCtorEq, Bool.not_true, Bool.not_false, Bool.false_bne, Bool.true_bne, sl0, sl1, sl2, sl3, sl4]
    refine ⟨_, G.le_refl _, ?_⟩
    rw [hv]
    simp only [nums_len, List.take_length]
    exact h
def spIsCurve : SpD := fun ds g Q _ => ∃ qs, ds = [.tup (nums qs)] ∧ Tight qs ∧ qs.length ≤ sizeLine ∧ Q (.bl true) g
theorem c_isCurve {qs : List Rat} (ht : Tight qs) (hl : qs.length ≤ sizeLine) (k : Q (.bl true) g) : spIsCurve [.tup (nums qs)] g Q X := ⟨qs, rfl, ht, hl, k⟩
theorem boolsD_true (k : Nat) : boolsD (List.replicate k (.bl true)) = some (List.replicate k true) := by
  induction k with
  | zero => rfl
  | succ k ih => rw [List.replicate_succ, boolsD, ih]; rfl
theorem all_ref {a : Addr} {k : Nat} (h : g a = some (List.replicate k (.bl true))) : dAll [.ref a] g Q = Q (.bl true) g := by
  unfold dAll
  simp only [h, boolsD_true]
  rw [show (List.replicate k true).all id = true by simp] <;> rfl
theorem isi_tup {xs : List D} : isTy .tuple (.tup xs) = true := rfl
theorem pure_law_is_curve (h7 : Γ 7 = spIsNum) (h : spIsCurve ds g Q E) : mnS Γ gl sx_law_is_curve (endsOf Q E) (startD ns_law_is_curve ds) g := by
  obtain ⟨qs, rfl, ht, hl, h⟩ := h
  simp only [sx_law_is_curve, h7, mnS, dLamr, mn, Mn.of, Op.rd, Cm.rd, Bl.rd, Mt.rd, Mt.rc, dNop, dSeq, dExpr, dRet, dRetN, dIf, gD, dAsg, dPar, dPut, dRaise, dVar, dC, dBin, dUn, dNil, dCons, dTup, dLst, dTst, dAndT, dOrT, dNotT, dYes, dAnd, dOr, dNot, dChain, dCall, dCB, dMt, dLset, dSrev, dTry, dIsx, dEmp, dDic1, dStp, xsub, Ex.sub, dSlc, dPart, dNoPart, dIAny, dI1, dI2, dI3, dFor, dComp, compB, wipeD, startD, endsOf, at_mk, setAll, add_int, sub_int, mul_int, mul_tup, pow_int, mod_int, fdiv_int, lt_int, le_int, gt_int, ge_int, eq_int, neg_int, len_tup, len_scr, abs_int, max_int, min_int, int_int, int_bl, r1_int, r2_int, tuple_tup, list_tup, over_tup, rev_tup, enum_tup, zip_tup, slc_tup, add_tup, isi_any, ix_tup, ix_scr, ix_num0, ix_num1, len_num, num_0, num_1, atI_0, atI_1, atI_2, List.map, List.cons_append, List.nil_append, List.getElem?_cons_zero, List.getElem?_cons_succ, List.getElem?_nil, List.set_cons_zero, List.set_cons_succ, List.replicate, List.length_cons, List.length_nil, List.foldr_cons, List.foldr_nil, Nat.reduceAdd, Nat.reduceSub, List.replicate_succ, List.replicate_zero, G_up_same, decide_eq_true_eq, Bool.not_eq_true', Bool.false_eq_true, if_true, if_false, ite_true, ite_false, and_true, true_and, reduceCtorEq, Bool.not_true, Bool.not_false, Bool.false_bne, Bool.true_bne, sl0, sl1, sl2, sl3, sl4, known_tup, List.any_cons, List.any_nil, isi_tup, Bool.true_or, Bool.not_true, nums_len]
  refine ⟨hl, fun p hp => ?_⟩
  refine comp_inv (fun k acc g' => acc = List.replicate k (.bl true) ∧ g' = g.up p acc) (fun k acc g' _ => trivial) ?_ ?_ ⟨rfl, rfl⟩
  · rintro k x acc g' N hk ⟨rfl, rfl⟩ h1 h2
    obtain ⟨q, hq, rfl⟩ := nums_at hk
    simp only [mnS, dLamr, mn, Mn.of, Op.rd, Cm.rd, Bl.rd, Mt.rd, Mt.rc, dNop, dSeq, dExpr, dRet, dRetN, dIf, gD, dAsg, dPar, dPut, dRaise, dVar, dC, dBin, dUn, dNil, dCons, dTup, dLst, dTst, dAndT, dOrT, dNotT, dYes, dAnd, dOr, dNot, dChain, dCall, dCB, dMt, dLset, dSrev, dTry, dIsx, dEmp, dDic1, dStp, xsub, Ex.sub, dSlc, dPart, dNoPart, dIAny, dI1, dI2, dI3, dFor, dComp, compB, wipeD, startD, endsOf, at_mk, setAll, add_int, sub_int, mul_int, mul_tup, pow_int, mod_int, fdiv_int, lt_int, le_int, gt_int, ge_int, eq_int, neg_int, len_tup, len_scr, abs_int, max_int, min_int, int_int, int_bl, r1_int, r2_int, tuple_tup, list_tup, over_tup, rev_tup, enum_tup, zip_tup, slc_tup, add_tup, isi_any, ix_tup, ix_scr, ix_num0, ix_num1, len_num, num_0, num_1, atI_0, atI_1, atI_2, List.map, List.cons_append, List.nil_append, List.getElem?_cons_zero, List.getElem?_cons_succ, List.getElem?_nil, List.set_cons_zero, List.set_cons_succ, List.replicate, List.length_cons, List.length_nil, List.foldr_cons, List.foldr_nil, Nat.reduceAdd, Nat.reduceSub, List.replicate_succ, List.replicate_zero, G_up_same, decide_eq_true_eq, Bool.not_eq_true', Bool.false_eq_true, if_true, if_false, ite_true, ite_false, and_true, true_and, reduceCtorEq, Bool.not_true, Bool.not_false, Bool.false_bne, Bool.true_bne, sl0, sl1, sl2, sl3, sl4, c_isnum]
    exact h1 _ _ G_up_same ⟨by rw [List.replicate_succ', ], G_up_up⟩
  · rintro acc g' ⟨rfl, rfl⟩
    rw [all_ref G_up_same]
    try simp only [mnS, dLamr, mn, Mn.of, Op.rd, Cm.rd, Bl.rd, Mt.rd, Mt.rc, dNop, dSeq, dExpr, dRet, dRetN, dIf, gD, dAsg, dPar, dPut, dRaise, dVar, dC, dBin, dUn, dNil, dCons, dTup, dLst, dTst, dAndT, dOrT, dNotT, dYes, dAnd, dOr, dNot, dChain, dCall, dCB, dMt, dLset, dSrev, dTry, dIsx, dEmp, dDic1, dStp, xsub, Ex.sub, dSlc, dPart, dNoPart, dIAny, dI1, dI2, dI3, dFor, dComp, compB, wipeD, startD, endsOf, at_mk, setAll, add_int, sub_int, mul_int, mul_tup, pow_int, mod_int, fdiv_int, lt_int, le_int, gt_int, ge_int, eq_int, neg_int, len_tup, len_scr, abs_int, max_int, min_int, int_int, int_bl, r1_int, r2_int, tuple_tup, list_tup, over_tup, rev_tup, enum_tup, zip_tup, slc_tup, add_tup, isi_any, ix_tup, ix_scr, ix_num0, ix_num1, len_num, num_0, num_1, atI_0, atI_1, atI_2, List.map, List.cons_append, List.nil_append, List.getElem?_cons_zero, List.getElem?_cons_succ, List.getElem?_nil, List.set_cons_zero, List.set_cons_succ, List.replicate, List.length_cons, List.length_nil, List.foldr_cons, List.foldr_nil, Nat.reduceAdd, Nat.reduceSub, List.replicate_succ, List.replicate_zero, G_up_same, decide_eq_true_eq, Bool.not_eq_true', Bool.false_eq_true, if_true, if_false, ite_true, ite_false, and_true, true_and, reduceCtorEq, Bool.not_true, Bool.not_false, Bool.false_bne, Bool.true_bne, sl0, sl1, sl2, sl3, sl4]
    refine eq_tup (q := []) (fun e => ?_) fun e => ?_
    · exact ⟨_, G.le_new hp, h⟩
    · try simp only [mnS, dLamr, mn, Mn.of, Op.rd, Cm.rd, Bl.rd, Mt.rd, Mt.rc, dNop, dSeq, dExpr, dRet, dRetN, dIf, gD, dAsg, dPar, dPut, dRaise, dVar, dC, dBin, dUn, dNil, dCons, dTup, dLst, dTst, dAndT, dOrT, dNotT, dYes, dAnd, dOr, dNot, dChain, dCall, dCB, dMt, dLset, dSrev, dTry, dIsx, dEmp, dDic1, dStp, xsub, Ex.sub, dSlc, dPart, dNoPart, dIAny, dI1, dI2, dI3, dFor, dComp, compB, wipeD, startD, endsOf, at_mk, setAll, add_int, sub_int, mul_int, mul_tup, pow_int, mod_int, fdiv_int, lt_int, le_int, gt_int, ge_int, eq_int, neg_int, len_tup, len_scr, abs_int, max_int, min_int, int_int, int_bl, r1_int, r2_int, tuple_tup, list_tup, over_tup, rev_tup, enum_tup, zip_tup, slc_tup, add_tup, isi_any, ix_tup, ix_scr, ix_num0, ix_num1, len_num, num_0, num_1, atI_0, atI_1, atI_2, List.map, List.cons_append, List.nil_append, List.getElem?_cons_zero, List.getElem?_cons_succ, List.getElem?_nil, List.set_cons_zero, List.set_cons_succ, List.replicate, List.length_cons, List.length_nil, List.foldr_cons, List.foldr_nil, Nat.reduceAdd, Nat.reduceSub, List.replicate_succ, List.replicate_zero, G_up_same, decide_eq_true_eq, Bool.not_eq_true', Bool.false_eq_true, if_true, if_false, ite_true, ite_false, and_true, true_and, reduceCtorEq, Bool.not_true, Bool.not_false, Bool.false_bne, Bool.true_bne, sl0, sl1, sl2, sl3, sl4]
      rcases List.eq_nil_or_concat qs with rfl | ⟨r, q, rfl⟩
      · exact absurd rfl e
      · simp only [List.concat_eq_append]
        rw [show nums (r ++ [q]) = nums r ++ [num q] by simp [nums], atI_last]
        refine eq_num (fun e2 => ?_) fun e2 => ?_
        · exact absurd e2 (ht q (by simp))
        · exact ⟨_, G.le_new hp, h⟩
end
end PP
namespace PP
open PySem PySem.Spec PyProof.Rows L2
section
variable {Γ : Nat → SpD} {gl : Nat → D} {g : G} {Q : QD}
def trimT (i : Nat) : PX := .and (.cmp .ne (.v i) (.lst .nil)) (.cmp .eq (.ix (.v i) (.neg (.int 1))) (.tup (.cons (.int 0) (.cons (.int 1) .nil))))
def trimB (i : Nat) : SX := .expr (.mt .pop (.v i) .nil) .nil
def trimD (Γ : Nat → SpD) (gl : Nat → D) (i : Nat) (t : DTS) : DTS := dSeq (dWhile (mn Γ gl (trimT i)).t (mnS Γ gl (trimB i))) t
theorem mnS_trim {i : Nat} {r : SX} : mnS Γ gl (.whl (.and (.cmp .ne (.v i) (.lst .nil)) (.cmp .eq (.ix (.v i) (.neg (.int 1))) (.tup (.cons (.int 0) (.cons (.int 1) .nil))))) (.expr (.mt .pop (.v i) .nil) .nil) r) = trimD Γ gl i (mnS Γ gl r) := rfl
theorem trim_ok {i : Nat} {t : DTS} {E : DEnds} {env : Env} {a : Addr} {qs : List Rat} (he : env[i]? = some (some (.ref a))) (ha : g a = some (nums qs)) (k : ∀ g', (g.up a (nums (trim qs))).le g' → t E env g') : trimD Γ gl i t E env g := by
  unfold trimD trimT trimB
  try simp only [mnS, dLamr, mn, Mn.of, Op.rd, Cm.rd, Bl.rd, Mt.rd, Mt.rc, dNop, dSeq, dExpr, dRet, dRetN, dIf, gD, dAsg, dPar, dPut, dRaise, dVar, dC, dBin, dUn, dNil, dCons, dTup, dLst, dTst, dAndT, dOrT, dNotT, dYes, dAnd, dOr, dNot, dChain, dCall, dCB, dMt, dLset, dSrev, dTry, dIsx, dEmp, dDic1, dStp, xsub, Ex.sub, dSlc, dPart, dNoPart, dIAny, dI1, dI2, dI3, dFor, dComp, compB, wipeD, startD, endsOf, at_mk, setAll, add_int, sub_int, mul_int, mul_tup, pow_int, mod_int, fdiv_int, lt_int, le_int, gt_int, ge_int, eq_int, neg_int, len_tup, len_scr, abs_int, max_int, min_int, int_int, int_bl, r1_int, r2_int, tuple_tup, list_tup, over_tup, rev_tup, enum_tup, zip_tup, slc_tup, add_tup, isi_any, ix_tup, ix_scr, ix_num0, ix_num1, len_num, num_0, num_1, atI_0, atI_1, atI_2, List.map, List.cons_append, List.nil_append, List.getElem?_cons_zero, List.getElem?_cons_succ, List.getElem?_nil, List.set_cons_zero, List.set_cons_succ, List.replicate, List.length_cons, List.length_nil, List.foldr_cons, List.foldr_nil, Nat.reduceAdd, Nat.reduceSub, List.replicate_succ, List.replicate_zero, G_up_same, decide_eq_true_eq, Bool.not_eq_true', Bool.false_eq_true, if_true, if_false, ite_true, ite_false, and_true, true_and, reduceCtorEq, Bool.not_true, Bool.not_false, Bool.false_bne, Bool.true_bne, sl0, sl1, sl2, sl3, sl4]
  refine ⟨fun m env' g' => env' = env ∧ ∃ z, qs = z ++ List.replicate (qs.length - m) 0 ∧ m = z.length ∧ (g.up a (nums z)).le g', ⟨qs.length, rfl, qs, by simp, rfl, by rw [show g.up a (nums qs) = g from funext fun b => by unfold G.up; split <;> simp_all]; exact G.le_refl _⟩, ?_⟩
  rintro m env' g' ⟨rfl, z, hz, rfl, hl⟩
  simp only [mnS, dLamr, mn, Mn.of, Op.rd, Cm.rd, Bl.rd, Mt.rd, Mt.rc, dNop, dSeq, dExpr, dRet, dRetN, dIf, gD, dAsg, dPar, dPut, dRaise, dVar, dC, dBin, dUn, dNil, dCons, dTup, dLst, dTst, dAndT, dOrT, dNotT, dYes, dAnd, dOr, dNot, dChain, dCall, dCB, dMt, dLset, dSrev, dTry, dIsx, dEmp, dDic1, dStp, xsub, Ex.sub, dSlc, dPart, dNoPart, dIAny, dI1, dI2, dI3, dFor, dComp, compB, wipeD, startD, endsOf, at_mk, setAll, add_int, sub_int, mul_int, mul_tup, pow_int, mod_int, fdiv_int, lt_int, le_int, gt_int, ge_int, eq_int, neg_int, len_tup, len_scr, abs_int, max_int, min_int, int_int, int_bl, r1_int, r2_int, tuple_tup, list_tup, over_tup, rev_tup, enum_tup, zip_tup, slc_tup, add_tup, isi_any, ix_tup, ix_scr, ix_num0, ix_num1, len_num, num_0, num_1, atI_0, atI_1, atI_2, List.map, List.cons_append, List.nil_append, List.getElem?_cons_zero, List.getElem?_cons_succ, List.getElem?_nil, List.set_cons_zero, List.set_cons_succ, List.replicate, List.length_cons, List.length_nil, List.foldr_cons, List.foldr_nil, Nat.reduceAdd, Nat.reduceSub, List.replicate_succ, List.replicate_zero, G_up_same, decide_eq_true_eq, Bool.not_eq_true', Bool.false_eq_true, if_true, if_false, ite_true, ite_false, and_true, true_and, reduceCtorEq, Bool.not_true, Bool.not_false, Bool.false_bne, Bool.true_bne, sl0, sl1, sl2, sl3, sl4, he]
  intro p hp
  have hga : g' a = some (nums z) := hl _ _ G_up_same
  have hl2 := G.le_trans hl (G.le_new (xs := []) hp)
  have hgp : (g'.up p []) a = some (nums z) := G_up_fresh hp hga
  refine eq_list (q := []) hgp G_up_same (fun e => ?_) fun e => ?_
  · subst e
    exact k _ (by rw [trim_of (r := []) hz (fun q h => by cases h)]; exact hl2)
  · try simp only [mnS, dLamr, mn, Mn.of, Op.rd, Cm.rd, Bl.rd, Mt.rd, Mt.rc, dNop, dSeq, dExpr, dRet, dRetN, dIf, gD, dAsg, dPar, dPut, dRaise, dVar, dC, dBin, dUn, dNil, dCons, dTup, dLst, dTst, dAndT, dOrT, dNotT, dYes, dAnd, dOr, dNot, dChain, dCall, dCB, dMt, dLset, dSrev, dTry, dIsx, dEmp, dDic1, dStp, xsub, Ex.sub, dSlc, dPart, dNoPart, dIAny, dI1, dI2, dI3, dFor, dComp, compB, wipeD, startD, endsOf, at_mk, setAll, add_int, sub_int, mul_int, mul_tup, pow_int, mod_int, fdiv_int, lt_int, le_int, gt_int, ge_int, eq_int, neg_int, len_tup, len_scr, abs_int, max_int, min_int, int_int, int_bl, r1_int, r2_int, tuple_tup, list_tup, over_tup, rev_tup, enum_tup, zip_tup, slc_tup, add_tup, isi_any, ix_tup, ix_scr, ix_num0, ix_num1, len_num, num_0, num_1, atI_0, atI_1, atI_2, List.map, List.cons_append, List.nil_append, List.getElem?_cons_zero, List.getElem?_cons_succ, List.getElem?_nil, List.set_cons_zero, List.set_cons_succ, List.replicate, List.length_cons, List.length_nil, List.foldr_cons, List.foldr_nil, Nat.reduceAdd, Nat.reduceSub, List.replicate_succ, List.replicate_zero, G_up_same, decide_eq_true_eq, Bool.not_eq_true', Bool.false_eq_true, if_true, if_false, ite_true, ite_false, and_true, true_and, reduceCtorEq, Bool.not_true, Bool.not_false, Bool.false_bne, Bool.true_bne, sl0, sl1, sl2, sl3, sl4]
    rcases List.eq_nil_or_concat z with rfl | ⟨r, q, rfl⟩
    · exact absurd rfl e
    · simp only [List.concat_eq_append] at *
      have en : nums (r ++ [q]) = nums r ++ [num q] := by simp [nums]
      rw [ix_ref hgp, en, show (-1 : Int) = -1 from rfl]
      simp only [atI_last]
      refine eq_num (fun e2 => ?_) fun e2 => ?_
      · subst e2
        simp only [mnS, dLamr, mn, Mn.of, Op.rd, Cm.rd, Bl.rd, Mt.rd, Mt.rc, dNop, dSeq, dExpr, dRet, dRetN, dIf, gD, dAsg, dPar, dPut, dRaise, dVar, dC, dBin, dUn, dNil, dCons, dTup, dLst, dTst, dAndT, dOrT, dNotT, dYes, dAnd, dOr, dNot, dChain, dCall, dCB, dMt, dLset, dSrev, dTry, dIsx, dEmp, dDic1, dStp, xsub, Ex.sub, dSlc, dPart, dNoPart, dIAny, dI1, dI2, dI3, dFor, dComp, compB, wipeD, startD, endsOf, at_mk, setAll, add_int, sub_int, mul_int, mul_tup, pow_int, mod_int, fdiv_int, lt_int, le_int, gt_int, ge_int, eq_int, neg_int, len_tup, len_scr, abs_int, max_int, min_int, int_int, int_bl, r1_int, r2_int, tuple_tup, list_tup, over_tup, rev_tup, enum_tup, zip_tup, slc_tup, add_tup, isi_any, ix_tup, ix_scr, ix_num0, ix_num1, len_num, num_0, num_1, atI_0, atI_1, atI_2, List.map, List.cons_append, List.nil_append, List.getElem?_cons_zero, List.getElem?_cons_succ, List.getElem?_nil, List.set_cons_zero, List.set_cons_succ, List.replicate, List.length_cons, List.length_nil, List.foldr_cons, List.foldr_nil, Nat.reduceAdd, Nat.reduceSub, List.replicate_succ, List.replicate_zero, G_up_same, decide_eq_true_eq, Bool.not_eq_true', Bool.false_eq_true, if_true, if_false, ite_true, ite_false, and_true, true_and, reduceCtorEq, Bool.not_true, Bool.not_false, Bool.false_bne, Bool.true_bne, sl0, sl1, sl2, sl3, sl4, he, rc_ref, hgp, Option.isSome_some, pop_ref hgp, en]
        rw [show (nums r ++ [num 0])[(nums r ++ [num 0]).length - 1]? = some (num 0) by simp]
        simp only [List.dropLast_concat]
        have hlen := congrArg List.length hz
        simp at hlen
        refine ⟨r.length, by simp, r, ?_, rfl, ?_⟩
        · conv => lhs; rw [hz]
          rw [List.append_assoc]
          congr 1
          simp
          rw [show qs.length - r.length = qs.length - (r.length + 1) + 1 by omega, List.replicate_succ]
        · intro b ys hb
          by_cases hba : b = a
          · subst hba; rw [G_up_same] at hb ⊢; exact hb
          · rw [G_up_ne hba] at hb ⊢
            exact hl2 _ _ (by rw [G_up_ne hba]; exact hb)
      · try simp only [mnS, dLamr, mn, Mn.of, Op.rd, Cm.rd, Bl.rd, Mt.rd, Mt.rc, dNop, dSeq, dExpr, dRet, dRetN, dIf, gD, dAsg, dPar, dPut, dRaise, dVar, dC, dBin, dUn, dNil, dCons, dTup, dLst, dTst, dAndT, dOrT, dNotT, dYes, dAnd, dOr, dNot, dChain, dCall, dCB, dMt, dLset, dSrev, dTry, dIsx, dEmp, dDic1, dStp, xsub, Ex.sub, dSlc, dPart, dNoPart, dIAny, dI1, dI2, dI3, dFor, dComp, compB, wipeD, startD, endsOf, at_mk, setAll, add_int, sub_int, mul_int, mul_tup, pow_int, mod_int, fdiv_int, lt_int, le_int, gt_int, ge_int, eq_int, neg_int, len_tup, len_scr, abs_int, max_int, min_int, int_int, int_bl, r1_int, r2_int, tuple_tup, list_tup, over_tup, rev_tup, enum_tup, zip_tup, slc_tup, add_tup, isi_any, ix_tup, ix_scr, ix_num0, ix_num1, len_num, num_0, num_1, atI_0, atI_1, atI_2, List.map, List.cons_append, List.nil_append, List.getElem?_cons_zero, List.getElem?_cons_succ, List.getElem?_nil, List.set_cons_zero, List.set_cons_succ, List.replicate, List.length_cons, List.length_nil, List.foldr_cons, List.foldr_nil, Nat.reduceAdd, Nat.reduceSub, List.replicate_succ, List.replicate_zero, G_up_same, decide_eq_true_eq, Bool.not_eq_true', Bool.false_eq_true, if_true, if_false, ite_true, ite_false, and_true, true_and, reduceCtorEq, Bool.not_true, Bool.not_false, Bool.false_bne, Bool.true_bne, sl0, sl1, sl2, sl3, sl4]
        exact k _ (by rw [trim_of hz (fun q' h => by simp at h; rw [← h]; exact e2)]; exact hl2)
theorem comp_pen {R : D → Prop} {c : Nat} {a p : Addr} {m n : Nat} {lo : Int} {xs : List D} {fin : G → Prop} {i j : Nat} {env : Env} (he : env[j]? = some (some (.ref a))) (hij : i ≠ j) (hp : g p = none) (ha : g a = some xs) (hx : PenL xs n) (hb : n + m * c < 2 ^ 50)
    (k : ∀ ys xs', ys.length = m → (∀ y ∈ ys, R y) → PenL xs' (n + m * c) → fin ((g.up a xs').up p ys)) :
    compD (fun _ => True) p (compB (.n i) env dYes (dCall (spPenFn R c) (dCons (dVar j) dNil))) fin (rangeD lo m) [] (g.up p []) := by
  have hne : a ≠ p := ne_of_known ha hp
  refine comp_inv (fun k acc g' => acc.length = k ∧ (∀ y ∈ acc, R y) ∧ k ≤ m ∧ ∃ xs', PenL xs' (n + k * c) ∧ g' = (g.up a xs').up p acc) (fun _ _ _ _ => trivial) ?_ ?_ ⟨rfl, fun _ h => (by cases h), Nat.zero_le _, xs, by simpa using hx, ?_⟩
  · rintro k x acc g' N hk ⟨hl, hR, hkm, xs', hx', rfl⟩ h1 -
    have hkm := (range_at hk).1
    have hmul : (k + 1) * c ≤ m * c := Nat.mul_le_mul_right _ hkm
    have hmul2 : (k + 1) * c = k * c + c := Nat.succ_mul ..
    simp only [mnS, dLamr, mn, Mn.of, Op.rd, Cm.rd, Bl.rd, Mt.rd, Mt.rc, dNop, dSeq, dExpr, dRet, dRetN, dIf, gD, dAsg, dPar, dPut, dRaise, dVar, dC, dBin, dUn, dNil, dCons, dTup, dLst, dTst, dAndT, dOrT, dNotT, dYes, dAnd, dOr, dNot, dChain, dCall, dCB, dMt, dLset, dSrev, dTry, dIsx, dEmp, dDic1, dStp, xsub, Ex.sub, dSlc, dPart, dNoPart, dIAny, dI1, dI2, dI3, dFor, dComp, compB, wipeD, startD, endsOf, at_mk, setAll, add_int, sub_int, mul_int, mul_tup, pow_int, mod_int, fdiv_int, lt_int, le_int, gt_int, ge_int, eq_int, neg_int, len_tup, len_scr, abs_int, max_int, min_int, int_int, int_bl, r1_int, r2_int, tuple_tup, list_tup, over_tup, rev_tup, enum_tup, zip_tup, slc_tup, add_tup, isi_any, ix_tup, ix_scr, ix_num0, ix_num1, len_num, num_0, num_1, atI_0, atI_1, atI_2, List.map, List.cons_append, List.nil_append, List.getElem?_cons_zero, List.getElem?_cons_succ, List.getElem?_nil, List.set_cons_zero, List.set_cons_succ, List.replicate, List.length_cons, List.length_nil, List.foldr_cons, List.foldr_nil, Nat.reduceAdd, Nat.reduceSub, List.replicate_succ, List.replicate_zero, G_up_same, decide_eq_true_eq, Bool.not_eq_true', Bool.false_eq_true, if_true, if_false, ite_true, ite_false, and_true, true_and, reduceCtorEq, Bool.not_true, Bool.not_false, Bool.false_bne, Bool.true_bne, sl0, sl1, sl2, sl3, sl4, List.getElem?_set_ne hij, he]
    refine c_penFn (xs := xs') (n := n + k * c) (by rw [G_up_ne hne, G_up_same]) hx' (by omega) fun d xs'' hd hx'' => ?_
    have e : (((g.up a xs').up p acc).up a xs'').up p (acc ++ [d]) = (g.up a xs'').up p (acc ++ [d]) := by
      funext b; simp only [G.up]; grind
    refine h1 _ _ (by rw [G_up_ne (Ne.symm hne), G_up_same]) ⟨by simp [hl], fun y hy => ?_, hkm, xs'', by rw [hmul2]; simpa [Nat.add_assoc] using hx'', e⟩
    rcases List.mem_append.mp hy with hy | hy
    · exact hR y hy
    · rw [List.mem_singleton.mp hy]; exact hd
  · rintro acc g' ⟨hl, hR, -, xs', hx', rfl⟩
    rw [range_len] at hl hx'
    exact k _ _ hl hR hx'
  · rw [show g.up a xs = g from funext fun b => by unfold G.up; split <;> simp_all]
theorem nums_of {b : Nat} : ∀ {ys : List D}, (∀ y ∈ ys, isNumD b y) → ∃ qs, ys = nums qs ∧ Szs b qs
  | [], _ => ⟨[], rfl, fun _ h => (by cases h)⟩
  | y :: ys, h => by
    obtain ⟨q, e, hq⟩ := h y (List.mem_cons_self ..)
    obtain ⟨qs, e2, hs⟩ := nums_of (ys := ys) fun z hz => h z (List.mem_cons_of_mem _ hz)
    refine ⟨q :: qs, by rw [e, e2]; rfl, fun z hz => ?_⟩
    rcases List.mem_cons.mp hz with rfl | hz
    · exact hq
    · exact hs z hz
theorem nums_set {zs : List Rat} {k : Nat} {q : Rat} : (nums zs).set k (num q) = nums (zs.set k q) := by unfold nums; rw [List.map_set]
theorem nums_app {ys zs : List Rat} : nums ys ++ nums zs = nums (ys ++ zs) := by unfold nums; rw [List.map_append]
theorem nums_snoc {ys : List Rat} {q : Rat} : nums ys ++ [num q] = nums (ys ++ [q]) := nums_app (zs := [q])
theorem repD_num {k : Int} {q : Rat} : repD k [num q] = nums (List.replicate k.toNat q) := by
  unfold repD nums
  rw [List.map_replicate]
  induction k.toNat with
  | zero => rfl
  | succ n ih => rw [List.replicate_succ, List.flatten_cons, ih, List.replicate_succ]; rfl
theorem ixN_at {n k : Nat} {i : Int} (hi : i = (k : Int)) (h : k < n) : ixN n i = some k := by
  subst hi
  unfold ixN
  rw [if_pos (by omega), if_pos (by omega)]
  simp
theorem Szs.set {b : Nat} {zs : List Rat} {k : Nat} {q : Rat} (h : Szs b zs) (hq : sz q ≤ b) : Szs b (zs.set k q) := fun z hz => by
  rcases List.mem_or_eq_of_mem_set hz with e | e
  · exact h z e
  · rw [e]; exact hq
structure KN (o : G) (a : Addr) (g : G) (L : List (Addr × List D)) : Prop where
  get : ∀ (i : Nat) (b : Addr) (xs : List D), L[i]? = some (b, xs) → g b = some xs
  nd : (L.map Prod.fst).Nodup
  own : ∀ b ∈ L.map Prod.fst, b = a ∨ o b = none
  lea : G.lea a o g
theorem KN.start {o : G} {a : Addr} {xs : List D} (h : o a = some xs) : KN o a o [(a, xs)] where
  get := fun i b ys e => by
    cases i with
    | zero => cases e; exact h
    | succ i => cases e
  nd := by simp
  own := fun b hb => .inl (by simpa using hb)
  lea := G.lea_refl
theorem KN.start' {o : G} {a : Addr} {xs : List D} (h : o a = none) : KN o a (o.up a xs) [(a, xs)] where
  get := fun i b ys e => by
    cases i with
    | zero => cases e; exact G_up_same
    | succ i => cases e
  nd := by simp
  own := fun b hb => .inl (by simpa using hb)
  lea := G.lea_of (G.le_new h)
theorem KN.mem {o : G} {a : Addr} {g : G} {L : List (Addr × List D)} (K : KN o a g L) {b : Addr} (h : b ∈ L.map Prod.fst) : ∃ xs, g b = some xs := by
  obtain ⟨⟨c, xs⟩, hx, e⟩ := List.mem_map.mp h
  obtain ⟨i, hi⟩ := List.mem_iff_getElem?.mp hx
  cases e
  exact ⟨xs, K.get i c xs hi⟩
theorem KN.new {o : G} {a : Addr} {g : G} {L : List (Addr × List D)} {p : Addr} {ys : List D} (K : KN o a g L) (ha : (g a).isSome = true) (hp : g p = none) : KN o a (g.up p ys) (L ++ [(p, ys)]) where
  get := fun i b xs e => by
    rw [List.getElem?_append] at e
    split at e
    · exact G_up_fresh hp (K.get i b xs e)
    · rw [List.getElem?_singleton] at e
      split at e
      · cases e; exact G_up_same
      · cases e
  nd := by
    rw [List.map_append, List.nodup_append]
    refine ⟨K.nd, by simp, fun b hb c hc e => ?_⟩
    simp at hc
    obtain ⟨xs, hx⟩ := K.mem hb
    rw [e, hc, hp] at hx
    cases hx
  own := fun b hb => by
    rw [List.map_append] at hb
    rcases List.mem_append.mp hb with hb | hb
    · exact K.own b hb
    · simp at hb
      subst hb
      refine .inr ?_
      cases e : o b with
      | none => rfl
      | some zs =>
        have hba : b ≠ a := fun z => by rw [← z, hp] at ha; cases ha
        rw [K.lea b zs hba e] at hp
        cases hp
  lea := fun b xs n e => G_up_fresh hp (K.lea b xs n e)
theorem KN.put {o : G} {a : Addr} {g : G} {L : List (Addr × List D)} {b : Addr} {xs ys : List D} (K : KN o a g L) (i : Nat) (h : L[i]? = some (b, xs)) : KN o a (g.up b ys) (L.set i (b, ys)) where
  get := fun j c zs e => by
    rw [List.getElem?_set] at e
    split at e
    · split at e
      · cases e; exact G_up_same
      · cases e
    · rename_i hij
      have hcb : c ≠ b := fun z => by
        subst z
        have h1 := congrArg (Option.map Prod.fst) h
        have h2 := congrArg (Option.map Prod.fst) e
        rw [← List.getElem?_map] at h1 h2
        exact hij ((List.getElem?_inj (by
          rcases Nat.lt_or_ge i (L.map Prod.fst).length with z | z
          · exact z
          · rw [List.getElem?_eq_none z] at h1; cases h1) K.nd).mp (h1.trans h2.symm))
      rw [G_up_ne hcb]
      exact K.get j c zs e
  nd := by
    have e : (L.set i (b, ys)).map Prod.fst = L.map Prod.fst := by
      rw [List.map_set]
      refine List.ext_getElem? fun j => ?_
      rw [List.getElem?_set]
      split
      · rename_i z; subst z
        rw [List.getElem?_map, h]
        split
        · rfl
        · rename_i w
          exfalso; apply w
          rw [List.length_map]
          rcases Nat.lt_or_ge i L.length with z | z
          · exact z
          · rw [List.getElem?_eq_none z] at h; cases h
      · rfl
    rw [e]; exact K.nd
  own := fun c hc => by
    obtain ⟨⟨d, zs⟩, hx, e⟩ := List.mem_map.mp hc
    cases e
    rcases List.mem_or_eq_of_mem_set hx with z | z
    · exact K.own _ (List.mem_map.mpr ⟨_, z, rfl⟩)
    · cases z
      exact K.own _ (List.mem_map.mpr ⟨_, List.mem_of_getElem? h, rfl⟩)
  lea := fun c zs n e => by
    have hcb : c ≠ b := fun z => by
      rcases K.own b (List.mem_map.mpr ⟨_, List.mem_of_getElem? h, rfl⟩) with w | w
      · exact n (z.trans w)
      · rw [z, w] at e; cases e
    rw [G_up_ne hcb]
    exact K.lea c zs n e
theorem KN.pick {o : G} {a : Addr} {g : G} {L : List (Addr × List D)} (K : KN o a g L) (is : List Nat) (h : is.Nodup) : KN o a g (is.filterMap fun i => L[i]?) where
  get := fun i b xs e => by
    have hm := List.mem_of_getElem? e
    obtain ⟨j, _, hj⟩ := List.mem_filterMap.mp hm
    exact K.get j b xs hj
  nd := by
    have key : ∀ (is : List Nat), is.Nodup → ((is.filterMap fun i => L[i]?).map Prod.fst).Nodup ∧ ∀ b ∈ (is.filterMap fun i => L[i]?).map Prod.fst, ∃ i ∈ is, (L.map Prod.fst)[i]? = some b := by
      intro is
      induction is with
      | nil => exact fun _ => ⟨.nil, fun b hb => by cases hb⟩
      | cons i is ih =>
        intro h
        rw [List.nodup_cons] at h
        obtain ⟨a1, a2⟩ := ih h.2
        cases e : L[i]? with
        | none =>
          rw [List.filterMap_cons_none e]
          exact ⟨a1, fun b hb => by obtain ⟨j, h1, h2⟩ := a2 b hb; exact ⟨j, List.mem_cons_of_mem _ h1, h2⟩⟩
        | some c =>
          rw [List.filterMap_cons_some e, List.map_cons]
          have ei : (L.map Prod.fst)[i]? = some c.1 := by rw [List.getElem?_map, e]; rfl
          refine ⟨List.nodup_cons.mpr ⟨fun hc => ?_, a1⟩, fun b hb => ?_⟩
          · obtain ⟨j, h1, h2⟩ := a2 _ hc
            have hlt : i < (L.map Prod.fst).length := by
              rcases Nat.lt_or_ge i (L.map Prod.fst).length with z | z
              · exact z
              · rw [List.getElem?_eq_none z] at ei; cases ei
            have := (List.getElem?_inj hlt K.nd).mp (ei.trans h2.symm)
            subst this
            exact h.1 h1
          · rcases List.mem_cons.mp hb with rfl | hb
            · exact ⟨i, List.mem_cons_self .., ei⟩
            · obtain ⟨j, h1, h2⟩ := a2 b hb
              exact ⟨j, List.mem_cons_of_mem _ h1, h2⟩
    exact (key is h).1
  own := fun b hb => by
    obtain ⟨⟨c, xs⟩, hx, e⟩ := List.mem_map.mp hb
    obtain ⟨j, _, hj⟩ := List.mem_filterMap.mp hx
    cases e
    exact K.own _ (List.mem_map.mpr ⟨_, List.mem_of_getElem? hj, rfl⟩)
  lea := K.lea
theorem KN.le {o : G} {a : Addr} {g g' : G} {L : List (Addr × List D)} (K : KN o a g L) (h : g.le g') : KN o a g' L := ⟨fun i b xs e => h _ _ (K.get i b xs e), K.nd, K.own, fun b xs n e => h _ _ (K.lea b xs n e)⟩
theorem KN.fin0 {o : G} {a : Addr} {g : G} {L : List (Addr × List D)} {xs : List D} (K : KN o a g L) (i : Nat) (h : L[i]? = some (a, xs)) : (o.up a xs).le g := G.lea_fin K.lea (K.get i a xs h)
theorem KN.fin {o : G} {a : Addr} {g : G} {L : List (Addr × List D)} (K : KN o a g L) (h : o a = none) : o.le g := fun b xs e => K.lea b xs (fun z => by rw [z, h] at e; cases e) e
theorem KN.arg {o : G} {a b : Addr} {g : G} {L : List (Addr × List D)} {xs : List D} (K : KN o a g L) (n : b ≠ a) (h : o b = some xs) : g b = some xs := K.lea b xs n h
section
variable {o : G} {a : Addr} {xs : List D} {n : Nat} {L : List (Addr × List D)} {X : XD}
theorem K_draw {m : Int} (K : KN o a g ((a, xs) :: L)) (hm : 0 < m) (hp : PenL xs n) (hn : n < 2 ^ 50) (k : ∀ (d : Nat) xs' g', (d : Int) < m → PenL xs' (n + 1) → KN o a g' ((a, xs') :: L) → Q (.int d) g') : spDraw [.ref a, .int m] g Q X :=
  c_draw (K.get 0 _ _ rfl) hm hp hn fun d xs' hd hp' => k d xs' _ hd hp' (K.put 0 rfl)
theorem K_pen {R : D → Prop} {c : Nat} (K : KN o a g ((a, xs) :: L)) (hp : PenL xs n) (hn : n + c < 2 ^ 50) (k : ∀ d xs' g', R d → PenL xs' (n + c) → KN o a g' ((a, xs') :: L) → Q d g') : spPenFn R c [.ref a] g Q X :=
  c_penFn (K.get 0 _ _ rfl) hp hn fun d xs' hd hp' => k d xs' _ hd hp' (K.put 0 rfl)
theorem K_new {p : Addr} {ys : List D} (K : KN o a g ((a, xs) :: L)) (hp : g p = none) : KN o a (g.up p ys) ((a, xs) :: (L ++ [(p, ys)])) := K.new (by rw [K.get 0 _ _ rfl]; rfl) hp
theorem K_comp {R : D → Prop} {c : Nat} {p : Addr} {m : Nat} {lo : Int} {fin : G → Prop} {i j : Nat} {env : Env} (K : KN o a g ((a, xs) :: L)) (he : env[j]? = some (some (.ref a))) (hij : i ≠ j) (hp : g p = none) (hx : PenL xs n) (hb : n + m * c < 2 ^ 50)
    (k : ∀ ys xs' g', ys.length = m → (∀ y ∈ ys, R y) → PenL xs' (n + m * c) → KN o a g' ((a, xs') :: (L ++ [(p, ys)])) → fin g') :
    compD (fun _ => True) p (compB (.n i) env dYes (dCall (spPenFn R c) (dCons (dVar j) dNil))) fin (rangeD lo m) [] (g.up p []) :=
  comp_pen he hij hp (K.get 0 _ _ rfl) hx hb fun ys xs' h1 h2 h3 => by
    have K' : KN o a (g.up a xs') ((a, xs') :: L) := K.put 0 rfl
    have hpa : p ≠ a := fun z => by rw [z, K.get 0 _ _ rfl] at hp; cases hp
    exact k ys xs' _ h1 h2 h3 (K_new K' (by rw [G_up_ne hpa]; exact hp))
end
end
end PP
namespace PP
open PySem PySem.Spec PyProof.Rows L2
def coef (c : List Rat) (k : Nat) : Rat := c.getD k 0
theorem coef_cons_zero {a : Rat} {c : List Rat} : coef (a :: c) 0 = a := rfl
theorem coef_cons_succ {a : Rat} {c : List Rat} {k : Nat} : coef (a :: c) (k + 1) = coef c k := rfl
theorem coef_at {c : List Rat} {k : Nat} {q : Rat} (h : c[k]? = some q) : coef c k = q := by
  unfold coef
  rw [List.getD_eq_getElem?_getD, h]
  rfl
theorem coef_out {c : List Rat} {k : Nat} (h : c.length ≤ k) : coef c k = 0 := by
  unfold coef
  rw [List.getD_eq_getElem?_getD, List.getElem?_eq_none h]
  rfl
theorem coef_lt {c : List Rat} {k : Nat} (h : k < c.length) : c[k]? = some (coef c k) := by
  rw [coef_at (List.getElem?_eq_getElem h)]
  exact List.getElem?_eq_getElem h
theorem ev_map_add {α : Type} (f g : α → Rat) (l : List α) (x : Rat) : ev (l.map fun k => f k + g k) x = ev (l.map f) x + ev (l.map g) x := by
  induction l with
  | nil => simp only [List.map_nil, ev_nil]; grind
  | cons a l ih => simp only [List.map_cons, ev_cons, ih]; grind
theorem ev_map_sub {α : Type} (f g : α → Rat) (l : List α) (x : Rat) : ev (l.map fun k => f k - g k) x = ev (l.map f) x - ev (l.map g) x := by
  induction l with
  | nil => simp only [List.map_nil, ev_nil]; grind
  | cons a l ih => simp only [List.map_cons, ev_cons, ih]; grind
theorem ev_map_mul (q : Rat) (c : List Rat) (x : Rat) : ev (c.map fun a => a * q) x = ev c x * q := by
  induction c with
  | nil => simp only [List.map_nil, ev_nil]; grind
  | cons a l ih => simp only [List.map_cons, ev_cons, ih]; grind
theorem range_coef {c : List Rat} {n : Nat} (h : c.length ≤ n) : (List.range n).map (coef c) = c ++ List.replicate (n - c.length) 0 := by
  refine List.ext_getElem? fun i => ?_
  rw [List.getElem?_map, List.getElem?_append]
  by_cases hi : i < n
  · rw [List.getElem?_range hi]
    by_cases hc : i < c.length
    · rw [if_pos hc]; exact (coef_lt hc).symm
    · rw [if_neg hc, List.getElem?_replicate, if_pos (by omega)]
      exact congrArg some (coef_out (by omega))
  · rw [List.getElem?_eq_none (by simp; omega), if_neg (by omega), List.getElem?_eq_none (by simp; omega)]
    rfl
theorem ev_range_coef {c : List Rat} {n : Nat} (h : c.length ≤ n) (x : Rat) : ev ((List.range n).map (coef c)) x = ev c x := by
  rw [range_coef h, ev_append_zeros]
theorem ev_set (c : List Rat) (k : Nat) (v x : Rat) (h : k < c.length) : ev (c.set k v) x = ev c x + (v - coef c k) * x ^ k := by
  induction c generalizing k with
  | nil => simp at h
  | cons a c ih =>
    cases k with
    | zero => rw [List.set_cons_zero, ev_cons, ev_cons, coef_cons_zero, Rat.pow_zero]; grind
    | succ k => rw [List.set_cons_succ, ev_cons, ev_cons, coef_cons_succ, ih k (by simpa using h), Rat.pow_succ]; grind
theorem ev_app (c d : List Rat) (x : Rat) : ev (c ++ d) x = ev c x + x ^ c.length * ev d x := by
  induction c with
  | nil => rw [List.nil_append, ev_nil, List.length_nil, Rat.pow_zero]; grind
  | cons a c ih => rw [List.cons_append, ev_cons, ev_cons, ih, List.length_cons, Rat.pow_succ]; grind
def divl : List Rat → Rat → List Rat
  | [], _ => []
  | _ :: c, r => match c with
    | [] => []
    | _ :: _ => ev c r :: divl c r
theorem divl_len (c : List Rat) (r : Rat) : (divl c r).length = c.length - 1 := by
  induction c with
  | nil => rfl
  | cons a c ih =>
    cases c with
    | nil => rfl
    | cons b c => rw [divl, List.length_cons, ih]; simp
theorem divl_ev (c : List Rat) (r x : Rat) : ev c x = ev c r + (x - r) * ev (divl c r) x := by
  induction c with
  | nil => simp only [ev_nil, divl]; grind
  | cons a c ih =>
    cases c with
    | nil => simp only [ev_nil, divl, ev_cons]; grind
    | cons b c =>
      rw [divl, ev_cons a, ev_cons a, ev_cons (ev (b :: c) r)]
      grind
theorem roots : ∀ (xs : List Rat) (c : List Rat), xs.Nodup → (∀ x ∈ xs, ev c x = 0) → c.length ≤ xs.length → ∀ x, ev c x = 0 := by
  intro xs
  induction xs with
  | nil =>
    intro c _ _ hl x
    cases c with
    | nil => rfl
    | cons b c => simp at hl
  | cons r xs ih =>
    intro c hn hr hl x
    rw [List.nodup_cons] at hn
    have h0 := hr r (List.mem_cons_self ..)
    have hq := ih (divl c r) hn.2 (fun y hy => by
      have e := divl_ev c r y
      rw [hr y (List.mem_cons_of_mem _ hy), h0] at e
      have hyr : y - r ≠ 0 := fun z => hn.1 (by rw [show r = y by grind]; exact hy)
      grind) (by rw [divl_len]; simp at hl; omega)
    rw [divl_ev c r x, h0, hq x]
    grind
theorem ints_nodup (n : Nat) (a : Rat) : ((List.range n).map fun i : Nat => a + 1 + (i : Rat)).Nodup := by
  rw [List.Nodup, List.pairwise_map]
  have key : ∀ i j : Nat, i ≠ j → a + 1 + (i : Rat) ≠ a + 1 + (j : Rat) := fun i j hij e => hij (Rat.natCast_inj.mp (by grind))
  exact List.Pairwise.imp (fun {i j} hij => key i j hij) (List.nodup_range (n := n))
theorem roots_off {c : List Rat} {a : Rat} (h : ∀ x, a < x → ev c x = 0) (x : Rat) : ev c x = 0 := by
  refine roots ((List.range c.length).map fun i : Nat => a + 1 + (i : Rat)) c (ints_nodup _ _) (fun y hy => ?_) (by simp) x
  obtain ⟨i, _, rfl⟩ := List.mem_map.mp hy
  refine h _ ?_
  have : (0 : Rat) ≤ (i : Rat) := Rat.natCast_nonneg
  grind
theorem coefs_zero {c : List Rat} (h : ∀ x, ev c x = 0) : c = List.replicate c.length 0 := by
  induction c with
  | nil => rfl
  | cons a c ih =>
    have ha : a = 0 := by
      have := h 0
      rw [ev_cons] at this
      grind
    have hc : ∀ x, ev c x = 0 := roots_off (a := 0) fun x hx => by
      have := h x
      rw [ev_cons, ha] at this
      have hx0 : x ≠ 0 := by grind
      grind
    rw [List.length_cons, List.replicate_succ, ha, ← ih hc]
def padd : List Rat → List Rat → List Rat
  | [], q => q
  | a :: p, [] => a :: p
  | a :: p, b :: q => (a + b) :: padd p q
theorem padd_ev (p q : List Rat) (x : Rat) : ev (padd p q) x = ev p x + ev q x := by
  induction p generalizing q with
  | nil => rw [padd, ev_nil]; grind
  | cons a p ih =>
    cases q with
    | nil => rw [padd, ev_nil]; grind
    | cons b q => rw [padd, ev_cons, ev_cons, ev_cons, ih]; grind
def pmul : List Rat → List Rat → List Rat
  | [], _ => []
  | a :: p, q => padd (q.map fun b => b * a) (0 :: pmul p q)
theorem pmul_ev (p q : List Rat) (x : Rat) : ev (pmul p q) x = ev p x * ev q x := by
  induction p with
  | nil => rw [pmul, ev_nil]; grind
  | cons a p ih => rw [pmul, padd_ev, ev_map_mul, ev_cons, ev_cons, ih]; grind
def pneg (q : List Rat) : List Rat := q.map fun b => b * (-1)
theorem pneg_ev (q : List Rat) (x : Rat) : ev (pneg q) x = - ev q x := by
  rw [pneg, ev_map_mul]; grind
theorem padd_len (p q : List Rat) : (padd p q).length = max p.length q.length := by
  induction p generalizing q with
  | nil => rw [padd]; simp
  | cons a p ih =>
    cases q with
    | nil => simp [padd]
    | cons b q => rw [padd, List.length_cons, ih]; simp
theorem pneg_len (q : List Rat) : (pneg q).length = q.length := by simp [pneg]
theorem trim_congr {c d : List Rat} (h : ∀ x, ev c x = ev d x) : trim c = trim d := by
  have hz : ∀ (c d : List Rat), (∀ x, ev c x = ev d x) → c.length ≤ d.length → trim c = trim d := by
    intro c
    induction c with
    | nil =>
      intro d h _
      have := coefs_zero (c := d) fun x => by rw [← h x]; rfl
      rw [this, trim_zeros]
      rfl
    | cons a c ih =>
      intro d h hl
      cases d with
      | nil => simp at hl
      | cons b d =>
        have hab : a = b := by
          have := h 0
          rw [ev_cons, ev_cons] at this
          grind
        have hcd : ∀ x, ev c x = ev d x := fun x => by
          have := roots_off (c := padd c (pneg d)) (a := 0) (fun x hx => by
            have := h x
            rw [ev_cons, ev_cons, hab] at this
            rw [padd_ev, pneg_ev]
            have hx0 : x ≠ 0 := by grind
            grind) x
          rw [padd_ev, pneg_ev] at this
          grind
        rw [trim, trim, ih d hcd (by simpa using hl), hab]
  rcases Nat.le_total c.length d.length with l | l
  · exact hz c d h l
  · exact (hz d c (fun x => (h x).symm) l).symm
theorem tight_congr {c d : List Rat} (hc : Tight c) (hd : Tight d) (h : ∀ x, ev c x = ev d x) : c = d := by
  rw [← trim_self hc, ← trim_self hd]; exact trim_congr h
def PolyF (f : Rat → Rat) : Prop := ∃ c, ∀ x, f x = ev c x
theorem PolyF.of (c : List Rat) : PolyF (ev c) := ⟨c, fun _ => rfl⟩
theorem PolyF.con (a : Rat) : PolyF fun _ => a := ⟨[a], fun x => by rw [ev_cons, ev_nil]; grind⟩
theorem PolyF.id : PolyF fun x => x := ⟨[0, 1], fun x => by rw [ev_cons, ev_cons, ev_nil]; grind⟩
theorem PolyF.add {f g : Rat → Rat} (hf : PolyF f) (hg : PolyF g) : PolyF fun x => f x + g x := by
  obtain ⟨c, hc⟩ := hf; obtain ⟨d, hd⟩ := hg
  exact ⟨padd c d, fun x => by show f x + g x = _; rw [padd_ev, hc, hd]⟩
theorem PolyF.mul {f g : Rat → Rat} (hf : PolyF f) (hg : PolyF g) : PolyF fun x => f x * g x := by
  obtain ⟨c, hc⟩ := hf; obtain ⟨d, hd⟩ := hg
  exact ⟨pmul c d, fun x => by show f x * g x = _; rw [pmul_ev, hc, hd]⟩
theorem PolyF.sub {f g : Rat → Rat} (hf : PolyF f) (hg : PolyF g) : PolyF fun x => f x - g x := by
  obtain ⟨c, hc⟩ := hf; obtain ⟨d, hd⟩ := hg
  exact ⟨padd c (pneg d), fun x => by show f x - g x = _; rw [padd_ev, pneg_ev, hc, hd]; grind⟩
theorem PolyF.eq {f g : Rat → Rat} (hf : PolyF f) (hg : PolyF g) (r : Rat) (h : ∀ x, x ≠ r → f x = g x) (x : Rat) : f x = g x := by
  obtain ⟨c, hc⟩ := hf.sub hg
  have := roots_off (c := c) (a := r) (fun y hy => by rw [← hc y]; show f y - g y = 0; rw [h y (by grind)]; grind) x
  rw [← hc x] at this
  have this : f x - g x = 0 := this
  grind
def evd : List Rat → Rat → Rat
  | [], _ => 0
  | _ :: c, x => ev c x + x * evd c x
theorem evd_divl (c : List Rat) (r : Rat) : evd c r = ev (divl c r) r := by
  induction c with
  | nil => rfl
  | cons a c ih =>
    cases c with
    | nil => rw [evd, evd, divl, ev_nil]; grind
    | cons b c => rw [evd, divl, ev_cons (ev (b :: c) r), ih]
theorem evd_mul {p q s : List Rat} (h : ∀ x, ev s x = ev p x * ev q x) (r : Rat) : evd s r = evd p r * ev q r + ev p r * evd q r := by
  rw [evd_divl, evd_divl, evd_divl]
  refine PolyF.eq (f := ev (divl s r)) (g := fun y => ev (divl p r) y * ev q y + ev p r * ev (divl q r) y) (.of _) (((PolyF.of _).mul (.of _)).add ((PolyF.con _).mul (.of _))) r (fun y hy => ?_) r
  have a := divl_ev s r y
  have b := divl_ev p r y
  have c := divl_ev q r y
  rw [h y, h r] at a
  have hyr : y - r ≠ 0 := fun z => hy (by grind)
  grind
def dl (c : List Rat) : List Rat := (List.range (c.length - 1)).map fun i => ((i + 1 : Nat) : Rat) * coef c (i + 1)
theorem dl_aux (c : List Rat) (n : Nat) (x : Rat) : ev ((List.range c.length).map fun i => ((i + n : Nat) : Rat) * coef c i) x = n * ev c x + x * evd c x := by
  induction c generalizing n with
  | nil => simp only [List.length_nil, List.range_zero, List.map_nil, ev_nil, evd]; grind
  | cons a c ih =>
    rw [List.length_cons, List.range_succ_eq_map, List.map_cons, List.map_map, ev_cons]
    have e : ((fun i => ((i + n : Nat) : Rat) * coef (a :: c) i) ∘ Nat.succ) = fun i => ((i + (n + 1) : Nat) : Rat) * coef c i := by
      funext i
      show ((i + 1 + n : Nat) : Rat) * coef (a :: c) (i + 1) = _
      rw [coef_cons_succ, show i + 1 + n = i + (n + 1) by omega]
    rw [e, ih, ev_cons, evd, coef_cons_zero, Nat.zero_add, Rat.natCast_add]
    grind
theorem dl_ev (c : List Rat) (x : Rat) : ev (dl c) x = evd c x := by
  cases c with
  | nil => rfl
  | cons a c =>
    have := dl_aux c 1 x
    unfold dl
    simp only [List.length_cons, Nat.add_sub_cancel, coef_cons_succ]
    rw [this, evd]
    simp
end PP
namespace PP
open PySem PySem.Spec PyProof.Rows L2
def sx_number_at : SX :=
  (.ite (.cmp .lt (.v 1) (.blt .len (.cons (.v 0) .nil)))
    (.ret (.ix (.v 0) (.v 1)) .nil)
    .nil
  (.ret (.glo 0) .nil))
abbrev ns_number_at : List Str := ["curve", "k"]
def sx_lessened : SX :=
  (.asg (.n 2) (.blt .max (.cons (.blt .len (.cons (.v 0) .nil)) (.cons (.blt .len (.cons (.v 1) .nil)) .nil)))
  (.ret (.call 23 (.cons (.comp [3] (.n 3) (.range1 (.v 2)) .yes (.call 12 (.cons (.call 30 (.cons (.v 0) (.cons (.v 3) .nil))) (.cons (.call 30 (.cons (.v 1) (.cons (.v 3) .nil))) .nil)))) .nil)) .nil))
abbrev ns_lessened : List Str := ["one", "other", "many", "k"]
def sx_scaled : SX :=
  (.ret (.call 23 (.cons (.comp [2] (.n 2) (.over (.v 0)) .yes (.call 13 (.cons (.v 2) (.cons (.v 1) .nil)))) .nil)) .nil)
abbrev ns_scaled : List Str := ["curve", "number", "own"]
def sx_slope_of : SX :=
  (.ret (.call 23 (.cons (.comp [1] (.n 1) (.range2 (.int 1) (.blt .len (.cons (.v 0) .nil))) .yes (.call 13 (.cons (.tup (.cons (.v 1) (.cons (.int 1) .nil))) (.cons (.ix (.v 0) (.v 1)) .nil)))) .nil)) .nil)
abbrev ns_slope_of : List Str := ["curve", "k"]
theorem num_int {i : Int} : D.tup [.int i, .int 1] = num (i : Rat) := rfl
theorem pow_add' (x : Rat) (m n : Nat) : x ^ (m + n) = x ^ m * x ^ n := by
  induction n with
  | zero => rw [Nat.add_zero, Rat.pow_zero]; grind
  | succ n ih => rw [Nat.add_succ, Rat.pow_succ, ih, Rat.pow_succ]; grind
theorem comp_nums {stay : G → Prop} {p : Addr} {body : D → G → (Option D → G → Prop) → Prop} {fin : G → Prop} {items : List D} {g : G} (f : Nat → Rat)
    (st : ∀ acc, stay (g.up p acc))
    (step : ∀ k x acc N, items[k]? = some x → k < items.length → N (some (num (f k))) (g.up p acc) → body x (g.up p acc) N)
    (done : fin (g.up p (nums ((List.range items.length).map f)))) : compD stay p body fin items [] (g.up p []) := by
  refine comp_inv (fun k acc g' => acc = nums ((List.range k).map f) ∧ g' = g.up p acc) (fun k acc g' e => by rw [e.2]; exact st _) ?_ ?_ ⟨rfl, rfl⟩
  · rintro k x acc g' N hk ⟨rfl, rfl⟩ h1 -
    have hlt : k < items.length := by
      rcases Nat.lt_or_ge k items.length with z | z
      · exact z
      · rw [List.getElem?_eq_none z] at hk; cases hk
    have e : nums ((List.range k).map f) ++ [num (f k)] = nums ((List.range (k + 1)).map f) := by
      rw [List.range_succ, List.map_append, ← nums_app]; rfl
    refine step k x _ N hk hlt (h1 _ _ G_up_same ⟨e, by rw [G_up_up]⟩)
  · rintro acc g' ⟨rfl, rfl⟩
    exact done
theorem Szs.range {b n : Nat} {f : Nat → Rat} (h : ∀ k, k < n → sz (f k) ≤ b) : Szs b ((List.range n).map f) := fun q hq => by
  obtain ⟨k, hk, rfl⟩ := List.mem_map.mp hq
  exact h k (by simpa using hk)
theorem Szs.coef {b : Nat} {c : List Rat} (h : Szs b c) (hb : 0 < b) (k : Nat) : sz (PP.coef c k) ≤ b := by
  rcases Nat.lt_or_ge k c.length with z | z
  · exact h.at (coef_lt z)
  · rw [coef_out z, sz_0]; exact hb
theorem Szs.nil {b : Nat} : Szs b [] := fun _ h => by cases h
theorem tight_nil : Tight [] := fun _ h => by cases h
section
variable {Γ : Nat → SpD} {gl : Nat → D} {ds : List D} {g : G} {Q : QD} {E X : XD}
def spNumberAt : SpD := fun ds g Q _ => ∃ d c k, ds = [d, .int ((k : Nat) : Int)] ∧ SeqD g d (nums c) ∧ Q (num (coef c k)) g
theorem c_numberAt {d : D} {c : List Rat} {i : Int} {k : Nat} (hi : i = k) (h : SeqD g d (nums c)) (q : Q (num (coef c k)) g) : spNumberAt [d, .int i] g Q X := ⟨d, c, k, by rw [hi], h, q⟩
theorem pure_number_at (hg : gl 0 = .tup [.int 0, .int 1]) (h : spNumberAt ds g Q E) : mnS Γ gl sx_number_at (endsOf Q E) (startD ns_number_at ds) g := by
  obtain ⟨d, c, k, rfl, hd, h⟩ := h
  simp only [sx_number_at, hg, mnS, dLamr, mn, Mn.of, Op.rd, Cm.rd, Bl.rd, Mt.rd, Mt.rc, dNop, dSeq, dExpr, dRet, dRetN, dIf, gD, dAsg, dPar, dPut, dRaise, dVar, dC, dBin, dUn, dNil, dCons, dTup, dLst, dTst, dAndT, dOrT, dNotT, dYes, dAnd, dOr, dNot, dChain, dCall, dCB, dMt, dLset, dSrev, dTry, dIsx, dEmp, dDic1, dStp, xsub, Ex.sub, dSlc, dPart, dNoPart, dIAny, dI1, dI2, dI3, dFor, dComp, compB, wipeD, startD, endsOf, at_mk, setAll, add_int, sub_int, mul_int, mul_tup, pow_int, mod_int, fdiv_int, lt_int, le_int, gt_int, ge_int, eq_int, neg_int, len_tup, len_scr, abs_int, max_int, min_int, int_int, int_bl, r1_int, r2_int, tuple_tup, list_tup, over_tup, rev_tup, enum_tup, zip_tup, slc_tup, add_tup, isi_any, ix_tup, ix_scr, ix_num0, ix_num1, len_num, num_0, num_1, atI_0, atI_1, atI_2, List.map, List.cons_append, List.nil_append, List.getElem?_cons_zero, List.getElem?_cons_succ, List.getElem?_nil, List.set_cons_zero, List.set_cons_succ, List.replicate, List.length_cons, List.length_nil, List.foldr_cons, List.foldr_nil, Nat.reduceAdd, Nat.reduceSub, List.replicate_succ, List.replicate_zero, G_up_same, decide_eq_true_eq, Bool.not_eq_true', Bool.false_eq_true, if_true, if_false, ite_true, ite_false, and_true, true_and, reduceCtorEq, Bool.not_true, Bool.not_false, Bool.false_bne, Bool.true_bne, sl0, sl1, sl2, sl3, sl4, len_seq hd, ix_seq hd, nums_len]
  split
  · rename_i hk
    rw [atI_nums rfl (coef_lt (by omega))]
    exact ⟨_, G.le_refl _, h⟩
  · rename_i hk
    exact ⟨_, G.le_refl _, by rw [coef_out (by omega)] at h; exact h⟩
def spTwo (len : Nat → Nat → Nat) (siz : Nat → Nat → Nat → Nat → Nat) (f : Rat → Rat → Rat) : SpD := fun ds g Q _ => ∃ p q b c, ds = [.tup (nums p), .tup (nums q)] ∧ Szs b p ∧ Szs c q ∧ 0 < b ∧ 0 < c ∧ siz p.length q.length b c ≤ 100000000 ∧ p.length ≤ 100 ∧ q.length ≤ 100 ∧
  ∀ r, Tight r → r.length ≤ len p.length q.length → Szs (siz p.length q.length b c) r → (∀ x, ev r x = f (ev p x) (ev q x)) → Q (.tup (nums r)) g
abbrev spLessened : SpD := spTwo (fun n m => max n m) (fun _ _ b c => b + c + 1) fun a b => a - b
theorem c_twoB {len : Nat → Nat → Nat} {siz : Nat → Nat → Nat → Nat → Nat} {f : Rat → Rat → Rat} {p q : List Rat} (b c : Nat) (hp : Szs b p) (hq : Szs c q) (hb : 0 < b) (hc : 0 < c) (hs : siz p.length q.length b c ≤ 100000000) (hl : p.length ≤ 100) (hl2 : q.length ≤ 100)
    (k : ∀ r, Tight r → r.length ≤ len p.length q.length → Szs (siz p.length q.length b c) r → (∀ x, ev r x = f (ev p x) (ev q x)) → Q (.tup (nums r)) g) : spTwo len siz f [.tup (nums p), .tup (nums q)] g Q X := ⟨p, q, b, c, rfl, hp, hq, hb, hc, hs, hl, hl2, k⟩
theorem pure_lessened (h12 : Γ 12 = spMinus) (h23 : Γ 23 = spCurveOf) (h30 : Γ 30 = spNumberAt) (h : spLessened ds g Q E) : mnS Γ gl sx_lessened (endsOf Q E) (startD ns_lessened ds) g := by
  obtain ⟨p, q, b, c, rfl, hp, hq, hb, hc, hs, hl, hl2, h⟩ := h
  have hs : b + c + 1 ≤ 100000000 := hs
  simp only [sx_lessened, h12, h23, h30, mnS, dLamr, mn, Mn.of, Op.rd, Cm.rd, Bl.rd, Mt.rd, Mt.rc, dNop, dSeq, dExpr, dRet, dRetN, dIf, gD, dAsg, dPar, dPut, dRaise, dVar, dC, dBin, dUn, dNil, dCons, dTup, dLst, dTst, dAndT, dOrT, dNotT, dYes, dAnd, dOr, dNot, dChain, dCall, dCB, dMt, dLset, dSrev, dTry, dIsx, dEmp, dDic1, dStp, xsub, Ex.sub, dSlc, dPart, dNoPart, dIAny, dI1, dI2, dI3, dFor, dComp, compB, wipeD, startD, endsOf, at_mk, setAll, add_int, sub_int, mul_int, mul_tup, pow_int, mod_int, fdiv_int, lt_int, le_int, gt_int, ge_int, eq_int, neg_int, len_tup, len_scr, abs_int, max_int, min_int, int_int, int_bl, r1_int, r2_int, tuple_tup, list_tup, over_tup, rev_tup, enum_tup, zip_tup, slc_tup, add_tup, isi_any, ix_tup, ix_scr, ix_num0, ix_num1, len_num, num_0, num_1, atI_0, atI_1, atI_2, List.map, List.cons_append, List.nil_append, List.getElem?_cons_zero, List.getElem?_cons_succ, List.getElem?_nil, List.set_cons_zero, List.set_cons_succ, List.replicate, List.length_cons, List.length_nil, List.foldr_cons, List.foldr_nil, Nat.reduceAdd, Nat.reduceSub, List.replicate_succ, List.replicate_zero, G_up_same, decide_eq_true_eq, Bool.not_eq_true', Bool.false_eq_true, if_true, if_false, ite_true, ite_false, and_true, true_and, reduceCtorEq, Bool.not_true, Bool.not_false, Bool.false_bne, Bool.true_bne, sl0, sl1, sl2, sl3, sl4, range_len, nums_len]
  refine ⟨by omega, slN (by omega), fun s hs0 => ?_⟩
  refine comp_nums (fun k => coef p k - coef q k) (fun _ => trivial) (fun k x acc N hk hlt hN => ?_) ?_
  · obtain ⟨_, rfl⟩ := range_at hk
    try simp only [mnS, dLamr, mn, Mn.of, Op.rd, Cm.rd, Bl.rd, Mt.rd, Mt.rc, dNop, dSeq, dExpr, dRet, dRetN, dIf, gD, dAsg, dPar, dPut, dRaise, dVar, dC, dBin, dUn, dNil, dCons, dTup, dLst, dTst, dAndT, dOrT, dNotT, dYes, dAnd, dOr, dNot, dChain, dCall, dCB, dMt, dLset, dSrev, dTry, dIsx, dEmp, dDic1, dStp, xsub, Ex.sub, dSlc, dPart, dNoPart, dIAny, dI1, dI2, dI3, dFor, dComp, compB, wipeD, startD, endsOf, at_mk, setAll, add_int, sub_int, mul_int, mul_tup, pow_int, mod_int, fdiv_int, lt_int, le_int, gt_int, ge_int, eq_int, neg_int, len_tup, len_scr, abs_int, max_int, min_int, int_int, int_bl, r1_int, r2_int, tuple_tup, list_tup, over_tup, rev_tup, enum_tup, zip_tup, slc_tup, add_tup, isi_any, ix_tup, ix_scr, ix_num0, ix_num1, len_num, num_0, num_1, atI_0, atI_1, atI_2, List.map, List.cons_append, List.nil_append, List.getElem?_cons_zero, List.getElem?_cons_succ, List.getElem?_nil, List.set_cons_zero, List.set_cons_succ, List.replicate, List.length_cons, List.length_nil, List.foldr_cons, List.foldr_nil, Nat.reduceAdd, Nat.reduceSub, List.replicate_succ, List.replicate_zero, G_up_same, decide_eq_true_eq, Bool.not_eq_true', Bool.false_eq_true, if_true, if_false, ite_true, ite_false, and_true, true_and, reduceCtorEq, Bool.not_true, Bool.not_false, Bool.false_bne, Bool.true_bne, sl0, sl1, sl2, sl3, sl4]
    refine c_numberAt (k := k) (by omega) .tup ?_
    refine c_numberAt (k := k) (by omega) .tup ?_
    simp only [c_bin]
    have := hp.coef hb k; have := hq.coef hc k
    exact ⟨by omega, hN⟩
  · refine c_curveOf G_up_same ?_
    simp only [range_len]
    refine ⟨g, G.le_new hs0, h _ (trim_tight _) (Nat.le_trans (trim_len _) ?_) (Szs.trim (Szs.range fun k _ => ?_)) fun x => ?_⟩
    · simp; omega
    · have := hp.coef hb k; have := hq.coef hc k
      exact Nat.le_trans (sz_sub _ _) (show _ ≤ b + c + 1 by omega)
    · rw [ev_trim, ev_map_sub, ev_range_coef (by omega), ev_range_coef (by omega)]
def spScaled : SpD := fun ds g Q _ => ∃ p q b c, ds = [.tup (nums p), num q] ∧ Szs b p ∧ sz q ≤ c ∧ b + c ≤ 100000000 ∧ p.length ≤ 100 ∧
  ∀ r, Tight r → r.length ≤ p.length → Szs (b + c) r → (∀ x, ev r x = ev p x * q) → Q (.tup (nums r)) g
theorem c_scaledB {p : List Rat} {q : Rat} (b c : Nat) (hp : Szs b p) (hq : sz q ≤ c) (hs : b + c ≤ 100000000) (hl : p.length ≤ 100)
    (k : ∀ r, Tight r → r.length ≤ p.length → Szs (b + c) r → (∀ x, ev r x = ev p x * q) → Q (.tup (nums r)) g) : spScaled [.tup (nums p), num q] g Q X := ⟨p, q, b, c, rfl, hp, hq, hs, hl, k⟩
theorem range_mul (p : List Rat) (q : Rat) : (List.range p.length).map (fun k => coef p k * q) = p.map fun a => a * q := by
  refine List.ext_getElem? fun i => ?_
  rw [List.getElem?_map, List.getElem?_map]
  by_cases hi : i < p.length
  · rw [List.getElem?_range hi, coef_lt hi]; rfl
  · rw [List.getElem?_eq_none (by simp; omega), List.getElem?_eq_none (by omega)]; rfl
theorem pure_scaled (h13 : Γ 13 = spTimes) (h23 : Γ 23 = spCurveOf) (h : spScaled ds g Q E) : mnS Γ gl sx_scaled (endsOf Q E) (startD ns_scaled ds) g := by
  obtain ⟨p, q, b, c, rfl, hp, hq, hs, hl, h⟩ := h
  simp only [sx_scaled, h13, h23, mnS, dLamr, mn, Mn.of, Op.rd, Cm.rd, Bl.rd, Mt.rd, Mt.rc, dNop, dSeq, dExpr, dRet, dRetN, dIf, gD, dAsg, dPar, dPut, dRaise, dVar, dC, dBin, dUn, dNil, dCons, dTup, dLst, dTst, dAndT, dOrT, dNotT, dYes, dAnd, dOr, dNot, dChain, dCall, dCB, dMt, dLset, dSrev, dTry, dIsx, dEmp, dDic1, dStp, xsub, Ex.sub, dSlc, dPart, dNoPart, dIAny, dI1, dI2, dI3, dFor, dComp, compB, wipeD, startD, endsOf, at_mk, setAll, add_int, sub_int, mul_int, mul_tup, pow_int, mod_int, fdiv_int, lt_int, le_int, gt_int, ge_int, eq_int, neg_int, len_tup, len_scr, abs_int, max_int, min_int, int_int, int_bl, r1_int, r2_int, tuple_tup, list_tup, over_tup, rev_tup, enum_tup, zip_tup, slc_tup, add_tup, isi_any, ix_tup, ix_scr, ix_num0, ix_num1, len_num, num_0, num_1, atI_0, atI_1, atI_2, List.map, List.cons_append, List.nil_append, List.getElem?_cons_zero, List.getElem?_cons_succ, List.getElem?_nil, List.set_cons_zero, List.set_cons_succ, List.replicate, List.length_cons, List.length_nil, List.foldr_cons, List.foldr_nil, Nat.reduceAdd, Nat.reduceSub, List.replicate_succ, List.replicate_zero, G_up_same, decide_eq_true_eq, Bool.not_eq_true', Bool.false_eq_true, if_true, if_false, ite_true, ite_false, and_true, true_and, reduceCtorEq, Bool.not_true, Bool.not_false, Bool.false_bne, Bool.true_bne, sl0, sl1, sl2, sl3, sl4, nums_len]
  refine ⟨slN (by omega), fun s hs0 => ?_⟩
  refine comp_nums (fun k => coef p k * q) (fun _ => trivial) (fun k x acc N hk hlt hN => ?_) ?_
  · obtain ⟨a, ha, rfl⟩ := nums_at hk
    rw [coef_at ha] at hN
    simp only [mnS, dLamr, mn, Mn.of, Op.rd, Cm.rd, Bl.rd, Mt.rd, Mt.rc, dNop, dSeq, dExpr, dRet, dRetN, dIf, gD, dAsg, dPar, dPut, dRaise, dVar, dC, dBin, dUn, dNil, dCons, dTup, dLst, dTst, dAndT, dOrT, dNotT, dYes, dAnd, dOr, dNot, dChain, dCall, dCB, dMt, dLset, dSrev, dTry, dIsx, dEmp, dDic1, dStp, xsub, Ex.sub, dSlc, dPart, dNoPart, dIAny, dI1, dI2, dI3, dFor, dComp, compB, wipeD, startD, endsOf, at_mk, setAll, add_int, sub_int, mul_int, mul_tup, pow_int, mod_int, fdiv_int, lt_int, le_int, gt_int, ge_int, eq_int, neg_int, len_tup, len_scr, abs_int, max_int, min_int, int_int, int_bl, r1_int, r2_int, tuple_tup, list_tup, over_tup, rev_tup, enum_tup, zip_tup, slc_tup, add_tup, isi_any, ix_tup, ix_scr, ix_num0, ix_num1, len_num, num_0, num_1, atI_0, atI_1, atI_2, List.map, List.cons_append, List.nil_append, List.getElem?_cons_zero, List.getElem?_cons_succ, List.getElem?_nil, List.set_cons_zero, List.set_cons_succ, List.replicate, List.length_cons, List.length_nil, List.foldr_cons, List.foldr_nil, Nat.reduceAdd, Nat.reduceSub, List.replicate_succ, List.replicate_zero, G_up_same, decide_eq_true_eq, Bool.not_eq_true', Bool.false_eq_true, if_true, if_false, ite_true, ite_false, and_true, true_and, reduceCtorEq, Bool.not_true, Bool.not_false, Bool.false_bne, Bool.true_bne, sl0, sl1, sl2, sl3, sl4, c_bin]
    have := hp.at ha
    exact ⟨by omega, hN⟩
  · refine c_curveOf G_up_same ?_
    rw [nums_len, range_mul]
    refine ⟨g, G.le_new hs0, h _ (trim_tight _) (Nat.le_trans (trim_len _) (by simp)) (Szs.trim fun z hz => ?_) fun x => ?_⟩
    · obtain ⟨a, ha, rfl⟩ := List.mem_map.mp hz
      have := hp a ha
      exact Nat.le_trans (sz_mul _ _) (by omega)
    · rw [ev_trim, ev_map_mul]
def spSlopeOf : SpD := fun ds g Q _ => ∃ d p b, ds = [d] ∧ SeqD g d (nums p) ∧ Szs b p ∧ b ≤ 40000000 ∧ p.length ≤ 100 ∧ Q (.tup (nums (trim (dl p)))) g
theorem c_slopeOf {p : List Rat} (b : Nat) (hp : Szs b p) (hs : b ≤ 40000000) (hl : p.length ≤ 100) (k : Q (.tup (nums (trim (dl p)))) g) : spSlopeOf [.tup (nums p)] g Q X := ⟨_, p, b, rfl, .tup, hp, hs, hl, k⟩
theorem sz_nat {n : Nat} (h : n ≤ 1000) : sz (n : Rat) ≤ 10 := sz_le (b := 10) (by rw [Rat.num_natCast]; omega) (by rw [Rat.den_natCast]; decide) (by decide)
theorem Szs.dl {b : Nat} {p : List Rat} (h : Szs b p) (hl : p.length ≤ 100) : Szs (b + 10) (PP.dl p) := Szs.range fun k hk => by
  have h1 := sz_nat (n := k + 1) (by omega)
  have h2 : sz (PP.coef p (k + 1)) ≤ b := h.at (coef_lt (by omega))
  exact Nat.le_trans (sz_mul _ _) (by omega)
theorem pure_slope_of (h13 : Γ 13 = spTimes) (h23 : Γ 23 = spCurveOf) (h : spSlopeOf ds g Q E) : mnS Γ gl sx_slope_of (endsOf Q E) (startD ns_slope_of ds) g := by
  obtain ⟨d, p, b, rfl, hd, hp, hs, hl, h⟩ := h
  simp only [sx_slope_of, h13, h23, mnS, dLamr, mn, Mn.of, Op.rd, Cm.rd, Bl.rd, Mt.rd, Mt.rc, dNop, dSeq, dExpr, dRet, dRetN, dIf, gD, dAsg, dPar, dPut, dRaise, dVar, dC, dBin, dUn, dNil, dCons, dTup, dLst, dTst, dAndT, dOrT, dNotT, dYes, dAnd, dOr, dNot, dChain, dCall, dCB, dMt, dLset, dSrev, dTry, dIsx, dEmp, dDic1, dStp, xsub, Ex.sub, dSlc, dPart, dNoPart, dIAny, dI1, dI2, dI3, dFor, dComp, compB, wipeD, startD, endsOf, at_mk, setAll, add_int, sub_int, mul_int, mul_tup, pow_int, mod_int, fdiv_int, lt_int, le_int, gt_int, ge_int, eq_int, neg_int, len_tup, len_scr, abs_int, max_int, min_int, int_int, int_bl, r1_int, r2_int, tuple_tup, list_tup, over_tup, rev_tup, enum_tup, zip_tup, slc_tup, add_tup, isi_any, ix_tup, ix_scr, ix_num0, ix_num1, len_num, num_0, num_1, atI_0, atI_1, atI_2, List.map, List.cons_append, List.nil_append, List.getElem?_cons_zero, List.getElem?_cons_succ, List.getElem?_nil, List.set_cons_zero, List.set_cons_succ, List.replicate, List.length_cons, List.length_nil, List.foldr_cons, List.foldr_nil, Nat.reduceAdd, Nat.reduceSub, List.replicate_succ, List.replicate_zero, G_up_same, decide_eq_true_eq, Bool.not_eq_true', Bool.false_eq_true, if_true, if_false, ite_true, ite_false, and_true, true_and, reduceCtorEq, Bool.not_true, Bool.not_false, Bool.false_bne, Bool.true_bne, sl0, sl1, sl2, sl3, sl4, range_len, len_seq hd, nums_len]
  refine ⟨by omega, slN (by omega), fun s hs0 => ?_⟩
  refine comp_nums (fun k => ((k + 1 : Nat) : Rat) * coef p (k + 1)) (fun _ => trivial) (fun k x acc N hk hlt hN => ?_) ?_
  · obtain ⟨hk2, rfl⟩ := range_at hk
    have hk3 : k + 1 < p.length := by omega
    have e : (1 : Int) + (k : Nat) = ((k + 1 : Nat) : Int) := by omega
    simp only [mnS, dLamr, mn, Mn.of, Op.rd, Cm.rd, Bl.rd, Mt.rd, Mt.rc, dNop, dSeq, dExpr, dRet, dRetN, dIf, gD, dAsg, dPar, dPut, dRaise, dVar, dC, dBin, dUn, dNil, dCons, dTup, dLst, dTst, dAndT, dOrT, dNotT, dYes, dAnd, dOr, dNot, dChain, dCall, dCB, dMt, dLset, dSrev, dTry, dIsx, dEmp, dDic1, dStp, xsub, Ex.sub, dSlc, dPart, dNoPart, dIAny, dI1, dI2, dI3, dFor, dComp, compB, wipeD, startD, endsOf, at_mk, setAll, add_int, sub_int, mul_int, mul_tup, pow_int, mod_int, fdiv_int, lt_int, le_int, gt_int, ge_int, eq_int, neg_int, len_tup, len_scr, abs_int, max_int, min_int, int_int, int_bl, r1_int, r2_int, tuple_tup, list_tup, over_tup, rev_tup, enum_tup, zip_tup, slc_tup, add_tup, isi_any, ix_tup, ix_scr, ix_num0, ix_num1, len_num, num_0, num_1, atI_0, atI_1, atI_2, List.map, List.cons_append, List.nil_append, List.getElem?_cons_zero, List.getElem?_cons_succ, List.getElem?_nil, List.set_cons_zero, List.set_cons_succ, List.replicate, List.length_cons, List.length_nil, List.foldr_cons, List.foldr_nil, Nat.reduceAdd, Nat.reduceSub, List.replicate_succ, List.replicate_zero, G_up_same, decide_eq_true_eq, Bool.not_eq_true', Bool.false_eq_true, if_true, if_false, ite_true, ite_false, and_true, true_and, reduceCtorEq, Bool.not_true, Bool.not_false, Bool.false_bne, Bool.true_bne, sl0, sl1, sl2, sl3, sl4, num_int, e, ix_seq (hd.le (G.le_new hs0))]
    rw [atI_nums rfl (coef_lt hk3)]
    have h1 := sz_nat (n := k + 1) (by omega)
    have h2 := hp.at (coef_lt hk3)
    simp only [Rat.intCast_natCast, c_bin]
    exact ⟨by omega, hN⟩
  · refine c_curveOf G_up_same ?_
    rw [range_len, show ((p.length : Int) - 1).toNat = p.length - 1 by omega]
    exact ⟨g, G.le_new hs0, h⟩
def cb (m j i : Nat) : Nat := min j (i + 1) - (i + 1 - m)
end
end PP
namespace PP
open PySem PySem.Spec PyProof.Rows L2
def sx_law_curve : SX :=
  (.asg (.n 2) (.comp [3] (.n 3) (.range1 (.call 4 (.cons (.v 0) (.cons (.bin .add (.v 1) (.int 1)) .nil)))) .yes (.call 36 (.cons (.v 0) .nil)))
  (.whl (.and (.cmp .ne (.v 2) (.lst .nil)) (.cmp .eq (.ix (.v 2) (.neg (.int 1))) (.tup (.cons (.int 0) (.cons (.int 1) .nil)))))
    (.expr (.mt .pop (.v 2) .nil) .nil)
  (.ret (.blt .tuple (.cons (.v 2) .nil)) .nil)))
abbrev ns_law_curve : List Str := ["_law_pen_here", "_law_most", "_law_some", "_law_k"]
def sx_law_slope_at : SX :=
  (.ret (.call 27 (.cons (.comp [2] (.n 2) (.range2 (.int 1) (.blt .len (.cons (.v 0) .nil))) .yes (.call 26 (.cons (.tup (.cons (.v 2) (.cons (.int 1) .nil))) (.cons (.ix (.v 0) (.v 2)) .nil)))) (.cons (.v 1) .nil))) .nil)
abbrev ns_law_slope_at : List Str := ["_law_curve_here", "_law_x", "_law_k"]
section
variable {Γ : Nat → SpD} {gl : Nat → D} {ds : List D} {g : G} {Q : QD} {E X : XD}
def spCurveDrawn : SpD := fun ds g Q _ => ∃ (a : Addr) (xs : List D) (n m : Nat), ds = [.ref a, .int (m : Int)] ∧ m ≤ 40 ∧ g a = some xs ∧ PenL xs n ∧ n + 200 < 2 ^ 50 ∧
  ∀ c xs', Tight c → c.length ≤ m → Szs 16 c → PenL xs' (n + 200) → Q (.tup (nums c)) (g.up a xs')
theorem K_curve {o : G} {a : Addr} {xs : List D} {n : Nat} {L : List (Addr × List D)} {i : Int} (m : Nat) (hi : i = (m : Int)) (K : KN o a g ((a, xs) :: L)) (hm : m ≤ 40) (hp : PenL xs n) (hn : n + 200 < 2 ^ 50)
    (k : ∀ c xs' g', Tight c → c.length ≤ m → Szs 16 c → PenL xs' (n + 200) → KN o a g' ((a, xs') :: L) → Q (.tup (nums c)) g') : spCurveDrawn [.ref a, .int i] g Q X :=
  ⟨a, xs, n, m, by rw [hi], hm, K.get 0 _ _ rfl, hp, hn, fun c xs' h1 h2 h3 h4 => k c xs' _ h1 h2 h3 h4 (K.put 0 rfl)⟩
theorem pure_law_curve (h4 : Γ 4 = spDraw) (h36 : Γ 36 = spPenFn (isNumD 16) 4) (h : spCurveDrawn ds g Q E) : mnS Γ gl sx_law_curve (endsOf Q E) (startD ns_law_curve ds) g := by
  obtain ⟨a, xs, n, m, rfl, hm, ha, hp, hn, h⟩ := h
  have K : KN g a g [(a, xs)] := KN.start ha
  simp only [↓mnS_trim, sx_law_curve, h4, h36, mnS, dLamr, mn, Mn.of, Op.rd, Cm.rd, Bl.rd, Mt.rd, Mt.rc, dNop, dSeq, dExpr, dRet, dRetN, dIf, gD, dAsg, dPar, dPut, dRaise, dVar, dC, dBin, dUn, dNil, dCons, dTup, dLst, dTst, dAndT, dOrT, dNotT, dYes, dAnd, dOr, dNot, dChain, dCall, dCB, dMt, dLset, dSrev, dTry, dIsx, dEmp, dDic1, dStp, xsub, Ex.sub, dSlc, dPart, dNoPart, dIAny, dI1, dI2, dI3, dFor, dComp, compB, wipeD, startD, endsOf, at_mk, setAll, add_int, sub_int, mul_int, mul_tup, pow_int, mod_int, fdiv_int, lt_int, le_int, gt_int, ge_int, eq_int, neg_int, len_tup, len_scr, abs_int, max_int, min_int, int_int, int_bl, r1_int, r2_int, tuple_tup, list_tup, over_tup, rev_tup, enum_tup, zip_tup, slc_tup, add_tup, isi_any, ix_tup, ix_scr, ix_num0, ix_num1, len_num, num_0, num_1, atI_0, atI_1, atI_2, List.map, List.cons_append, List.nil_append, List.getElem?_cons_zero, List.getElem?_cons_succ, List.getElem?_nil, List.set_cons_zero, List.set_cons_succ, List.replicate, List.length_cons, List.length_nil, List.foldr_cons, List.foldr_nil, Nat.reduceAdd, Nat.reduceSub, List.replicate_succ, List.replicate_zero, G_up_same, decide_eq_true_eq, Bool.not_eq_true', Bool.false_eq_true, if_true, if_false, ite_true, ite_false, and_true, true_and, reduceCtorEq, Bool.not_true, Bool.not_false, Bool.false_bne, Bool.true_bne, sl0, sl1, sl2, sl3, sl4]
  refine K_draw K (by omega) hp (by omega) fun d xs1 g1 hd p1 K => ?_
  simp only [mnS, dLamr, mn, Mn.of, Op.rd, Cm.rd, Bl.rd, Mt.rd, Mt.rc, dNop, dSeq, dExpr, dRet, dRetN, dIf, gD, dAsg, dPar, dPut, dRaise, dVar, dC, dBin, dUn, dNil, dCons, dTup, dLst, dTst, dAndT, dOrT, dNotT, dYes, dAnd, dOr, dNot, dChain, dCall, dCB, dMt, dLset, dSrev, dTry, dIsx, dEmp, dDic1, dStp, xsub, Ex.sub, dSlc, dPart, dNoPart, dIAny, dI1, dI2, dI3, dFor, dComp, compB, wipeD, startD, endsOf, at_mk, setAll, add_int, sub_int, mul_int, mul_tup, pow_int, mod_int, fdiv_int, lt_int, le_int, gt_int, ge_int, eq_int, neg_int, len_tup, len_scr, abs_int, max_int, min_int, int_int, int_bl, r1_int, r2_int, tuple_tup, list_tup, over_tup, rev_tup, enum_tup, zip_tup, slc_tup, add_tup, isi_any, ix_tup, ix_scr, ix_num0, ix_num1, len_num, num_0, num_1, atI_0, atI_1, atI_2, List.map, List.cons_append, List.nil_append, List.getElem?_cons_zero, List.getElem?_cons_succ, List.getElem?_nil, List.set_cons_zero, List.set_cons_succ, List.replicate, List.length_cons, List.length_nil, List.foldr_cons, List.foldr_nil, Nat.reduceAdd, Nat.reduceSub, List.replicate_succ, List.replicate_zero, G_up_same, decide_eq_true_eq, Bool.not_eq_true', Bool.false_eq_true, if_true, if_false, ite_true, ite_false, and_true, true_and, reduceCtorEq, Bool.not_true, Bool.not_false, Bool.false_bne, Bool.true_bne, sl0, sl1, sl2, sl3, sl4, range_len]
  refine ⟨by omega, slN (by omega), fun s hs => ?_⟩
  refine K_comp K rfl (by decide) hs p1 (by omega) fun ys xs2 g2 hy1 hy2 p2 K => ?_
  obtain ⟨qs, rfl, hqs⟩ := nums_of hy2
  rw [nums_len] at hy1
  refine trim_ok rfl (K.get 1 _ _ rfl) fun g3 hl => ?_
  have K := (K.put (ys := nums (trim qs)) 1 rfl).le hl
  simp only [mnS, dLamr, mn, Mn.of, Op.rd, Cm.rd, Bl.rd, Mt.rd, Mt.rc, dNop, dSeq, dExpr, dRet, dRetN, dIf, gD, dAsg, dPar, dPut, dRaise, dVar, dC, dBin, dUn, dNil, dCons, dTup, dLst, dTst, dAndT, dOrT, dNotT, dYes, dAnd, dOr, dNot, dChain, dCall, dCB, dMt, dLset, dSrev, dTry, dIsx, dEmp, dDic1, dStp, xsub, Ex.sub, dSlc, dPart, dNoPart, dIAny, dI1, dI2, dI3, dFor, dComp, compB, wipeD, startD, endsOf, at_mk, setAll, add_int, sub_int, mul_int, mul_tup, pow_int, mod_int, fdiv_int, lt_int, le_int, gt_int, ge_int, eq_int, neg_int, len_tup, len_scr, abs_int, max_int, min_int, int_int, int_bl, r1_int, r2_int, tuple_tup, list_tup, over_tup, rev_tup, enum_tup, zip_tup, slc_tup, add_tup, isi_any, ix_tup, ix_scr, ix_num0, ix_num1, len_num, num_0, num_1, atI_0, atI_1, atI_2, List.map, List.cons_append, List.nil_append, List.getElem?_cons_zero, List.getElem?_cons_succ, List.getElem?_nil, List.set_cons_zero, List.set_cons_succ, List.replicate, List.length_cons, List.length_nil, List.foldr_cons, List.foldr_nil, Nat.reduceAdd, Nat.reduceSub, List.replicate_succ, List.replicate_zero, G_up_same, decide_eq_true_eq, Bool.not_eq_true', Bool.false_eq_true, if_true, if_false, ite_true, ite_false, and_true, true_and, reduceCtorEq, Bool.not_true, Bool.not_false, Bool.false_bne, Bool.true_bne, sl0, sl1, sl2, sl3, sl4, tuple_ref (K.get 1 _ _ rfl)]
  exact ⟨_, K.fin0 0 rfl, h _ _ (trim_tight _) (Nat.le_trans (trim_len _) (by omega)) hqs.trim (p2.mono (by omega))⟩
def spSlopeAt : SpD := fun ds g Q _ => ∃ d x qs b bx, ds = [d, num x] ∧ SeqD g d (nums qs) ∧ Szs b qs ∧ sz x ≤ bx ∧ qs.length ≤ 40 ∧ (qs.length + 2) * (b + 10 + (qs.length + 2) * (bx + 2)) ≤ 40000000 ∧ Q (num (evd qs x)) g
end
end PP
namespace PP
open PySem PySem.Spec PyProof.Rows L2
theorem lt_of_at {α : Type} {xs : List α} {k : Nat} {x : α} (h : xs[k]? = some x) : k < xs.length := by
  rcases Nat.lt_or_ge k xs.length with z | z
  · exact z
  · rw [List.getElem?_eq_none z] at h; cases h
end PP
namespace PP
open PySem PySem.Spec PyProof.Rows L2
structure Pt where
  x : Rat
  h : Rat
  s : Option Rat
def Pt.w (p : Pt) : Nat := match p.s with
  | none => 1
  | some _ => 2
def PtSz (b : Nat) (ps : List Pt) : Prop := ∀ p ∈ ps, sz p.x ≤ b ∧ sz p.h ≤ b ∧ ∀ s, p.s = some s → sz s ≤ b
theorem PtSz.snoc {b : Nat} {ps : List Pt} {p : Pt} (h : PtSz b ps) (hx : sz p.x ≤ b) (hh : sz p.h ≤ b) (hs : ∀ s, p.s = some s → sz s ≤ b) : PtSz b (ps ++ [p]) := fun q hq => by
  rcases List.mem_append.mp hq with hq | hq
  · exact h q hq
  · rw [List.mem_singleton.mp hq]; exact ⟨hx, hh, hs⟩
end PP
namespace PP
open PySem PySem.Spec PyProof.Rows L2
abbrev Told : Type := Rat × Nat × Rat
def tellP (p : Pt) : List Told := match p.s with
  | none => [(p.x, 0, p.h)]
  | some s => [(p.x, 0, p.h), (p.x, 1, s)]
def tells : List Pt → List Told
  | [] => []
  | p :: ps => tellP p ++ tells ps
theorem SeqD.lea {g g' : G} {a : Addr} {d : D} {xs : List D} (h : SeqD g d xs) (l : G.lea a g g') (ha : g a = none) : SeqD g' d xs := by
  rcases h with rfl | ⟨b, rfl, h⟩
  · exact .tup
  · exact .ref (l b xs (fun e => by rw [e, ha] at h; cases h) h)
end PP
namespace PP
open PySem PySem.Spec PyProof.Rows L2
section
variable {Γ : Nat → SpD} {gl : Nat → D} {ds : List D} {g : G} {Q : QD} {E X : XD}
theorem comp_dl {p : Addr} {c : List Rat} {b : Nat} {fin : G → Prop} {env : Env} {i j : Nat} {d : D} (he : env[j]? = some (some d)) (hij : i ≠ j) (hi : i < env.length) (hd : ∀ g', g.le g' → SeqD g' d (nums c)) (hc : Szs b c) (hl : c.length ≤ 100) (hb : b ≤ 40000000) (hp : g p = none) (h : fin (g.up p (nums (dl c)))) :
    compD (fun _ => True) p (compB (.n i) env dYes (dCall spTimes (dCons (dTup (dCons (dVar i) (dCons (dC (.int 1)) dNil))) (dCons (dBin dIx (dVar j) (dVar i)) dNil)))) fin (rangeD 1 (c.length - 1)) [] (g.up p []) := by
  refine comp_nums (fun k => ((k + 1 : Nat) : Rat) * coef c (k + 1)) (fun _ => trivial) (fun k x acc N hk hlt hN => ?_) ?_
  · obtain ⟨hk2, rfl⟩ := range_at hk
    have hk3 : k + 1 < c.length := by omega
    have e : (1 : Int) + (k : Nat) = ((k + 1 : Nat) : Int) := by omega
    simp only [mnS, dLamr, mn, Mn.of, Op.rd, Cm.rd, Bl.rd, Mt.rd, Mt.rc, dNop, dSeq, dExpr, dRet, dRetN, dIf, gD, dAsg, dPar, dPut, dRaise, dVar, dC, dBin, dUn, dNil, dCons, dTup, dLst, dTst, dAndT, dOrT, dNotT, dYes, dAnd, dOr, dNot, dChain, dCall, dCB, dMt, dLset, dSrev, dTry, dIsx, dEmp, dDic1, dStp, xsub, Ex.sub, dSlc, dPart, dNoPart, dIAny, dI1, dI2, dI3, dFor, dComp, compB, wipeD, startD, endsOf, at_mk, setAll, add_int, sub_int, mul_int, mul_tup, pow_int, mod_int, fdiv_int, lt_int, le_int, gt_int, ge_int, eq_int, neg_int, len_tup, len_scr, abs_int, max_int, min_int, int_int, int_bl, r1_int, r2_int, tuple_tup, list_tup, over_tup, rev_tup, enum_tup, zip_tup, slc_tup, add_tup, isi_any, ix_tup, ix_scr, ix_num0, ix_num1, len_num, num_0, num_1, atI_0, atI_1, atI_2, List.map, List.cons_append, List.nil_append, List.getElem?_cons_zero, List.getElem?_cons_succ, List.getElem?_nil, List.set_cons_zero, List.set_cons_succ, List.replicate, List.length_cons, List.length_nil, List.foldr_cons, List.foldr_nil, Nat.reduceAdd, Nat.reduceSub, List.replicate_succ, List.replicate_zero, G_up_same, decide_eq_true_eq, Bool.not_eq_true', Bool.false_eq_true, if_true, if_false, ite_true, ite_false, and_true, true_and, reduceCtorEq, Bool.not_true, Bool.not_false, Bool.false_bne, Bool.true_bne, sl0, sl1, sl2, sl3, sl4, num_int, e, List.getElem?_set_ne hij, he, List.getElem?_set_self hi, ix_seq (hd _ (G.le_new hp))]
    rw [atI_nums rfl (coef_lt hk3)]
    have h1 := sz_nat (n := k + 1) (by omega)
    have h2 := hc.at (coef_lt hk3)
    simp only [Rat.intCast_natCast, c_bin]
    exact ⟨by omega, hN⟩
  · rw [range_len]
    exact h
theorem pure_law_slope_at (h26 : Γ 26 = spTimes) (h27 : Γ 27 = spEv) (h : spSlopeAt ds g Q E) : mnS Γ gl sx_law_slope_at (endsOf Q E) (startD ns_law_slope_at ds) g := by
  obtain ⟨d, x, c, b, bx, rfl, hd, hc, hx, hl, hb, h⟩ := h
  simp only [sx_law_slope_at, h26, h27, mnS, dLamr, mn, Mn.of, Op.rd, Cm.rd, Bl.rd, Mt.rd, Mt.rc, dNop, dSeq, dExpr, dRet, dRetN, dIf, gD, dAsg, dPar, dPut, dRaise, dVar, dC, dBin, dUn, dNil, dCons, dTup, dLst, dTst, dAndT, dOrT, dNotT, dYes, dAnd, dOr, dNot, dChain, dCall, dCB, dMt, dLset, dSrev, dTry, dIsx, dEmp, dDic1, dStp, xsub, Ex.sub, dSlc, dPart, dNoPart, dIAny, dI1, dI2, dI3, dFor, dComp, compB, wipeD, startD, endsOf, at_mk, setAll, add_int, sub_int, mul_int, mul_tup, pow_int, mod_int, fdiv_int, lt_int, le_int, gt_int, ge_int, eq_int, neg_int, len_tup, len_scr, abs_int, max_int, min_int, int_int, int_bl, r1_int, r2_int, tuple_tup, list_tup, over_tup, rev_tup, enum_tup, zip_tup, slc_tup, add_tup, isi_any, ix_tup, ix_scr, ix_num0, ix_num1, len_num, num_0, num_1, atI_0, atI_1, atI_2, List.map, List.cons_append, List.nil_append, List.getElem?_cons_zero, List.getElem?_cons_succ, List.getElem?_nil, List.set_cons_zero, List.set_cons_succ, List.replicate, List.length_cons, List.length_nil, List.foldr_cons, List.foldr_nil, Nat.reduceAdd, Nat.reduceSub, List.replicate_succ, List.replicate_zero, G_up_same, decide_eq_true_eq, Bool.not_eq_true', Bool.false_eq_true, if_true, if_false, ite_true, ite_false, and_true, true_and, reduceCtorEq, Bool.not_true, Bool.not_false, Bool.false_bne, Bool.true_bne, sl0, sl1, sl2, sl3, sl4, range_len, len_seq hd, nums_len]
  have hb1 : b + 10 + (c.length + 2) * (bx + 2) ≤ (c.length + 2) * (b + 10 + (c.length + 2) * (bx + 2)) := Nat.le_mul_of_pos_left _ (by omega)
  rw [show ((c.length : Int) - 1).toNat = c.length - 1 by omega]
  refine ⟨by omega, slN (by omega), fun s hs => ?_⟩
  refine comp_dl rfl (by decide) (by simp) (fun g' l => hd.le l) hc (by omega) (show b ≤ 40000000 by omega) hs ?_
  have hdl : (dl c).length ≤ c.length := by simp [dl]
  refine c_ev' (b + 10) bx (.ref G_up_same) (hc.dl (by omega)) hx (Nat.le_trans (Nat.mul_le_mul (Nat.add_le_add_right hdl 2) (Nat.add_le_add_left (Nat.mul_le_mul_right _ (Nat.add_le_add_right hdl 2)) _)) hb) ?_
  refine ⟨g, G.le_new hs, ?_⟩
  rw [dl_ev]
  exact h
end
end PP
namespace PP
open PySem PySem.Spec PyProof.Rows L2
def tx (ts : List Told) (i : Nat) : Rat := (ts.getD i (0, 0, 0)).1
def tk (ts : List Told) (i : Nat) : Nat := (ts.getD i (0, 0, 0)).2.1
def tv (ts : List Told) (i : Nat) : Rat := (ts.getD i (0, 0, 0)).2.2
def hAt (ts : List Told) : Nat → Rat
  | 0 => tv ts 0
  | i + 1 => if tk ts (i + 1) = 0 then tv ts (i + 1) else hAt ts i
def tabT (ts : List Told) : Nat → Nat → Rat
  | 0, i => hAt ts i
  | k + 1, i => if tx ts (i + (k + 1)) = tx ts i then tv ts (i + (k + 1)) else (tabT ts k (i + 1) - tabT ts k i) / (tx ts (i + (k + 1)) - tx ts i)
def rowT (ts : List Told) (k : Nat) : List Rat := (List.range (ts.length - k)).map (tabT ts k)
def TSz (b : Nat) (ts : List Told) : Prop := ∀ t ∈ ts, sz t.1 ≤ b ∧ sz t.2.2 ≤ b
theorem TSz.tx {b : Nat} {ts : List Told} (h : TSz b ts) {i : Nat} (hi : i < ts.length) : sz (PP.tx ts i) ≤ b ∧ sz (tv ts i) ≤ b := by
  unfold PP.tx tv
  rw [List.getD_eq_getElem?_getD, List.getElem?_eq_getElem hi]
  exact h _ (List.getElem_mem hi)
end PP
namespace PP
open PySem PySem.Spec PyProof.Rows L2
end PP
namespace PP
open PySem PySem.Spec PyProof.Rows L2
structure TG (ts : List Told) : Prop where
  near : ∀ i j, i < j → j < ts.length → tx ts i = tx ts j → j = i + 1 ∧ tk ts j ≠ 0
  back : ∀ i, i < ts.length → tk ts i ≠ 0 → ∃ j, i = j + 1 ∧ tx ts j = tx ts i ∧ tk ts j = 0
theorem TG.nil : TG [] := ⟨fun i j _ h => (by cases h), fun i h => (by cases h)⟩
section
variable {ts : List Told}
def pr (ts : List Told) (i : Nat) : Nat → Rat → Rat
  | 0, _ => 1
  | k + 1, x => pr ts i k x * (x - tx ts (i + k))
def Sl (f : Rat → Rat) (a s : Rat) : Prop := ∃ c, ∀ x, f x = f a + s * (x - a) + (x - a) * (x - a) * ev c x
theorem Sl.congr {f g : Rat → Rat} {a s : Rat} (h : Sl f a s) (e : ∀ x, g x = f x) : Sl g a s := by
  obtain ⟨c, hc⟩ := h
  exact ⟨c, fun x => by rw [e x, e a]; exact hc x⟩
theorem Sl.evd {r : List Rat} {a s : Rat} (h : Sl (ev r) a s) : PP.evd r a = s := by
  obtain ⟨c, hc⟩ := h
  rw [evd_divl]
  have := PolyF.eq (f := ev (divl r a)) (g := fun y => s + (y - a) * ev c y) (.of _) ((PolyF.con s).add ((PolyF.id.sub (PolyF.con a)).mul (.of c))) a (fun y hy => by
    have e1 := hc y
    have e2 := divl_ev r a y
    have hya : y - a ≠ 0 := fun z => hy (by grind)
    show ev (divl r a) y = s + (y - a) * ev c y
    grind) a
  rw [this]
  grind
end
end PP
namespace PP
open PySem PySem.Spec PyProof.Rows L2
end PP
namespace PP
open PySem PySem.Spec PyProof.Rows L2
end PP
namespace PP
open PySem PySem.Spec PyProof.Rows L2
end PP
namespace PP
open PySem PySem.Spec PyProof.Rows L2
end PP
namespace PP
open PySem PySem.Spec PyProof.Rows L2
end PP
namespace PP
open PySem PySem.Spec PyProof.Rows L2
def mark (x : Rat) (k : Nat) (v : Rat) (t : Told) : Rat := if t.1 = x ∧ t.2.1 = k then v else 0
end PP
namespace PP
open PySem PySem.Spec PyProof.Rows L2
section
variable {Γ : Nat → SpD} {gl : Nat → D} {ds : List D} {g : G} {Q : QD} {X : XD}
theorem KN.init {o : G} {a : Addr} {g : G} {L : List (Addr × List D)} {y : Addr × List D} (K : KN o a g (L ++ [y])) : KN o a g L where
  get := fun i b xs e => K.get i b xs (by rw [List.getElem?_append_left (lt_of_at e)]; exact e)
  nd := by have := K.nd; rw [List.map_append, List.nodup_append] at this; exact this.1
  own := fun b hb => K.own b (by rw [List.map_append]; exact List.mem_append_left _ hb)
  lea := K.lea
end
end PP
namespace PP
open PySem PySem.Spec PyProof.Rows L2
end PP
namespace PP
open PySem PySem.Spec PyProof.Rows L2
structure TabG (g : G) (p : Addr) (rs : List Addr) (rows : List (List Rat)) : Prop where
  top : g p = some (rs.map D.ref)
  row : ∀ (k : Nat) (r : Addr) (c : List Rat), rs[k]? = some r → rows[k]? = some c → g r = some (nums c)
  len : rs.length = rows.length
theorem TabG.le {g g' : G} {p : Addr} {rs : List Addr} {rows : List (List Rat)} (T : TabG g p rs rows) (l : g.le g') : TabG g' p rs rows := ⟨l _ _ T.top, fun k r c h1 h2 => l _ _ (T.row k r c h1 h2), T.len⟩
theorem TabG.get {g : G} {p : Addr} {rs : List Addr} {rows : List (List Rat)} (T : TabG g p rs rows) {k : Nat} {r : Addr} (h : rs[k]? = some r) : ∃ c, rows[k]? = some c ∧ g r = some (nums c) := by
  have hl := lt_of_at h
  have e := List.getElem?_eq_getElem (show k < rows.length by rw [← T.len]; exact hl)
  exact ⟨_, e, T.row k r _ h e⟩
section
variable {Γ : Nat → SpD} {gl : Nat → D} {ds : List D} {g : G} {Q : QD} {E X : XD}
def hts (ps : List Pt) : List Rat := rowT (tells ps) 0
end
end PP
namespace PP
open PySem PySem.Spec PyProof.Rows L2
end PP
namespace PP
open PySem PySem.Spec PyProof.Rows L2
end PP
namespace PP
open PySem PySem.Spec PyProof.Rows L2
def Grid (N M : Nat) (q : Rat) : Prop := ∃ t : Int, q * (N : Rat) = (t : Rat) ∧ t.natAbs ≤ M
theorem Grid.add {N M L : Nat} {p q : Rat} (h1 : Grid N M p) (h2 : Grid N L q) : Grid N (M + L) (p + q) := by
  obtain ⟨t, e1, b1⟩ := h1
  obtain ⟨u, e2, b2⟩ := h2
  refine ⟨t + u, ?_, by omega⟩
  rw [Rat.intCast_add, ← e1, ← e2]; grind
theorem Grid.sub {N M L : Nat} {p q : Rat} (h1 : Grid N M p) (h2 : Grid N L q) : Grid N (M + L) (p - q) := by
  obtain ⟨t, e1, b1⟩ := h1
  obtain ⟨u, e2, b2⟩ := h2
  refine ⟨t - u, ?_, by omega⟩
  rw [Rat.intCast_sub, ← e1, ← e2]; grind
theorem Grid.mono {N M L : Nat} {p : Rat} (h : Grid N M p) (l : M ≤ L) : Grid N L p := by
  obtain ⟨t, e, b⟩ := h
  exact ⟨t, e, by omega⟩
theorem Grid.sz {N M b : Nat} {q : Rat} (h : Grid N M q) (hN : 0 < N) (hM : M < 2 ^ b) (hb : N < 2 ^ b) : PP.sz q ≤ b := by
  obtain ⟨t, e, h⟩ := h
  have hn : (N : Rat) ≠ 0 := fun z => by
    have : N = 0 := by exact_mod_cast z
    omega
  have e2 : q = Rat.divInt t (N : Int) := by
    rw [Rat.divInt_eq_div, ← e, Rat.intCast_natCast]
    grind
  rw [e2]
  exact sz_divInt (by omega) (by omega) (by omega)
end PP
namespace PP
open PySem PySem.Spec PyProof.Rows L2
end PP
namespace PP
open PySem PySem.Spec PyProof.Rows L2
def bin : Nat → Nat → Nat
  | _, 0 => 1
  | 0, _ + 1 => 0
  | m + 1, j + 1 => bin m j + bin m (j + 1)
end PP
namespace PP
open PySem PySem.Spec PyProof.Rows L2
end PP
namespace PP
open PySem PySem.Spec PyProof.Rows L2
end PP
namespace PP
open PySem PySem.Spec PyProof.Rows L2
end PP
namespace PP
open PySem PySem.Spec PyProof.Rows L2
theorem line_list (a b : Rat) : ∀ d : List Rat, ∃ f : List Rat, f.length ≤ d.length ∧ ∀ x, ev f x = ev d (a * x + b)
  | [] => ⟨[], Nat.le_refl _, fun x => rfl⟩
  | q :: d => by
    obtain ⟨f, hf, h⟩ := line_list a b d
    refine ⟨padd [q] (padd (0 :: f.map fun z => z * a) (f.map fun z => z * b)), ?_, fun x => ?_⟩
    · simp only [padd_len, List.length_cons, List.length_nil, List.length_map]; omega
    · rw [padd_ev, padd_ev, ev_cons 0, ev_map_mul, ev_map_mul, ev_cons, ev_nil, ev_cons, h]; grind
theorem tight_least {c d : List Rat} (hc : Tight c) (h : ∀ x, ev c x = ev d x) : c.length ≤ d.length := by
  have : c = trim d := tight_congr hc (trim_tight d) fun x => by rw [h, ev_trim]
  rw [this]
  exact trim_len d
structure Aff (c : List Rat) (lo hi : Rat) (al : List Rat) : Prop where
  tight : Tight al
  ev : ∀ t, PP.ev al t = PP.ev c ((hi - lo) * t + lo)
theorem Aff.len {c al : List Rat} {lo hi : Rat} (h : Aff c lo hi al) (hc : Tight c) (hne : hi - lo ≠ 0) : al.length = c.length := by
  obtain ⟨f, hf, hfe⟩ := line_list (hi - lo) lo c
  have h1 := tight_least h.tight (d := f) fun t => by rw [h.ev, hfe]
  obtain ⟨e, he, hee⟩ := line_list (1 / (hi - lo)) (-(lo / (hi - lo))) al
  have h2 := tight_least hc (d := e) fun x => by
    rw [hee, h.ev]
    congr 1
    grind
  omega
theorem Aff.one {c al am : List Rat} {lo hi : Rat} (h : Aff c lo hi al) (h' : Aff c lo hi am) : al = am := tight_congr h.tight h'.tight fun t => by rw [h.ev, h'.ev]
def nb (e : Nat → Rat) : Nat → Nat → Rat
  | 0, _ => 0
  | n + 1, j => nb e n j + (bin j n : Rat) * e n
def ek (al : List Rat) (k : Nat) : Rat := coef al k / (bin (al.length - 1) k : Rat)
end PP
namespace PP
open PySem PySem.Spec PyProof.Rows L2
end PP
namespace PP
open PySem PySem.Spec PyProof.Rows L2
theorem unit_num (d : Nat) (h : d ≤ 100) : ∃ q : Rat, 0 < q ∧ sz q ≤ 10 ∧ D.tup [.int 1, .int (1 + (d : Int))] = num q := by
  let q : Rat := { num := 1, den := 1 + d, den_nz := by omega, reduced := Nat.coprime_one_left _ }
  refine ⟨q, ?_, sz_le (b := 10) (by show (1 : Int).natAbs < 2 ^ 10; decide) (by show 1 + d < 2 ^ 10; omega) (by decide), ?_⟩
  · have h0 : 0 ≤ q := Rat.num_nonneg.mp (by show (0 : Int) ≤ 1; decide)
    have h1 : q ≠ 0 := fun z => by
      have := congrArg Rat.num z
      have h2 : (1 : Int) = 0 := this
      cases h2
    grind
  · show _ = D.tup [.int 1, .int ((1 + d : Nat) : Int)]
    rw [Int.natCast_add]; rfl
end PP
namespace PP
open PySem PySem.Spec PyProof.Rows L2
end PP
namespace PP
open PySem PySem.Spec PyProof.Rows L2
end PP
namespace PP
open PySem PySem.Spec PyProof.Rows L2
end PP
namespace PP
open PySem PySem.Spec PyProof.Rows L2
end PP
namespace PP
open PySem PySem.Spec PyProof.Rows L2
end PP
namespace PP
open PySem PySem.Spec PyProof.Rows L2
end PP
namespace PP
open PySem PySem.Spec PyProof.Rows L2
end PP
namespace PP
open PySem PySem.Spec PyProof.Rows L2
theorem take_one {α : Type} {l : List α} {i : Nat} {a : α} (h : l[i]? = some a) : l.take (i + 1) = l.take i ++ [a] := by
  have hl := lt_of_at h
  rw [List.take_succ_eq_append_getElem hl]
  rw [List.getElem?_eq_getElem hl] at h
  rw [Option.some.inj h]
end PP
namespace PP
open PySem PySem.Spec PyProof.Rows L2
def sg (c : List Rat) : List Bool := (c.filter fun q => decide (q ≠ 0)).map fun q => decide (0 < q)
end PP
namespace PP
open PySem PySem.Spec PyProof.Rows L2
theorem coefs_eq {c d : List Rat} (h : ∀ x, ev c x = ev d x) (k : Nat) : coef c k = coef d k := by
  have e := trim_congr h
  have ct : ∀ (c : List Rat) (k : Nat), coef (trim c) k = coef c k := fun c k => by
    obtain ⟨m, hm⟩ := trim_split c
    by_cases hk : k < (trim c).length
    · have h1 := coef_lt hk
      have h2 : c[k]? = some (coef (trim c) k) := by
        have h3 : (trim c ++ List.replicate m 0)[k]? = some (coef (trim c) k) := by rw [List.getElem?_append_left hk]; exact h1
        rw [← hm] at h3
        exact h3
      exact (coef_at h2).symm
    · rw [coef_out (by omega)]
      by_cases hc : k < c.length
      · have h2 : c[k]? = some 0 := by
          rw [hm, List.getElem?_append_right (by omega), List.getElem?_replicate, if_pos]
          have := congrArg List.length hm
          simp at this
          omega
        exact (coef_at h2).symm
      · rw [coef_out (by omega)]
  rw [← ct c, ← ct d, e]
theorem less_len {r s t : List Rat} {N : Nat} (ht : Tight t) (hl : t.length ≤ N + 1) (hc : coef r N = coef s N) (he : ∀ x, ev t x = ev r x - ev s x) (hr : r.length ≤ N + 1) (hs : s.length ≤ N + 1) : t.length ≤ N := by
  have h1 : ∀ x, ev t x = ev ((List.range (N + 1)).map fun k => coef r k - coef s k) x := fun x => by
    rw [he, ev_map_sub, ev_range_coef hr, ev_range_coef hs]
  have h2 := coefs_eq h1 N
  have h3 : coef ((List.range (N + 1)).map fun k => coef r k - coef s k) N = 0 := by
    have : ((List.range (N + 1)).map fun k => coef r k - coef s k)[N]? = some (coef r N - coef s N) := by
      rw [List.getElem?_map, List.getElem?_range (by omega)]; rfl
    rw [coef_at this, hc]; grind
  rw [h3] at h2
  rcases Nat.lt_or_ge N t.length with h | h
  · rcases List.eq_nil_or_concat t with rfl | ⟨q, a, rfl⟩
    · simp at h
    · simp only [List.concat_eq_append, List.length_append, List.length_cons, List.length_nil] at *
      have e : q.length = N := by omega
      have : (q ++ [a])[N]? = some a := by rw [← e]; simp
      rw [coef_at this] at h2
      subst h2
      exact absurd rfl (ht 0 (by simp))
  · exact h
theorem ev_lift (k : Nat) (o : List Rat) (x : Rat) : ev (List.replicate k 0 ++ o) x = x ^ k * ev o x := by
  rw [ev_app, ev_zeros, List.length_replicate]; grind
theorem coef_lift (d k : Nat) (o : List Rat) : coef (List.replicate d 0 ++ o) (d + k) = coef o k := by
  by_cases h : k < o.length
  · refine coef_at ?_
    rw [List.getElem?_append_right (by simp), List.length_replicate, Nat.add_sub_cancel_left]
    exact coef_lt h
  · rw [coef_out (by simp; omega), coef_out (by omega)]
theorem coef_setne {t : List Rat} {d i : Nat} {q : Rat} (h : d ≠ i) (hi : i < t.length) : coef (t.set d q) i = coef t i :=
  coef_at (by rw [List.getElem?_set_ne h]; exact coef_lt hi)
theorem coef_seteq {t : List Rat} {d : Nat} {q : Rat} (hi : d < t.length) : coef (t.set d q) d = q := coef_at (List.getElem?_set_self hi)
theorem rep_zero (d : Nat) : repD (d : Int) [num 0] = nums (List.replicate d 0) := by
  unfold repD
  rw [Int.toNat_natCast]
  induction d with
  | zero => rfl
  | succ d ih => rw [List.replicate_succ, List.flatten_cons, ih, List.replicate_succ]; rfl
def sx_divided_1 : SX :=
  (.ret (.tup (.cons (.call 23 (.cons (.v 2) .nil)) (.cons (.v 3) .nil))) .nil)
def sx_divided_2 : SX :=
  (.asg (.n 2) (.comp [5] (.n 5) (.range1 (.blt .max (.cons (.int 0) (.cons (.bin .add (.bin .sub (.blt .len (.cons (.v 0) .nil)) (.blt .len (.cons (.v 1) .nil))) (.int 1)) .nil)))) .yes (.glo 0))
  (.asg (.n 3) (.v 0)
  (.whl (.cmp .ge (.blt .len (.cons (.v 3) .nil)) (.blt .len (.cons (.v 1) .nil)))
    (.asg (.n 4) (.bin .sub (.blt .len (.cons (.v 3) .nil)) (.blt .len (.cons (.v 1) .nil)))
    (.put (.v 2) (.v 4) (.call 14 (.cons (.ix (.v 3) (.neg (.int 1))) (.cons (.ix (.v 1) (.neg (.int 1))) .nil)))
    (.asg (.n 3) (.call 32 (.cons (.v 3) (.cons (.bin .add (.bin .mul (.tup (.cons (.glo 0) .nil)) (.v 4)) (.call 33 (.cons (.v 1) (.cons (.ix (.v 2) (.v 4)) .nil)))) .nil))) .nil)))
  sx_divided_1)))
def sx_divided : SX :=
  (.ite (.cmp .eq (.v 1) (.tup .nil))
    (.raise .ncurve .nil)
    .nil
  sx_divided_2)
abbrev ns_divided : List Str := ["one", "other", "often", "rest", "at", "k"]
section
variable {Γ : Nat → SpD} {gl : Nat → D} {ds : List D} {g : G} {Q : QD} {E X : XD}
structure DivOk (p o t r : List Rat) : Prop where
  tt : Tight t
  tr : Tight r
  lt : t.length = p.length + 1 - o.length
  lr : r.length < o.length
  e : ∀ x, ev p x = ev t x * ev o x + ev r x
end
end PP
namespace PP
open PySem PySem.Spec PyProof.Rows L2
end PP
namespace PP
open PySem PySem.Spec PyProof.Rows L2
theorem pmul_le (p q : List Rat) : (pmul p q).length ≤ p.length + q.length := by
  induction p with
  | nil => simp [pmul]
  | cons a p ih => rw [pmul, padd_len]; simp; omega
theorem tight_ne {d : List Rat} (h : d ≠ []) (ht : Tight d) : ∃ d0 a, d = d0 ++ [a] ∧ a ≠ 0 := by
  rcases List.eq_nil_or_concat d with rfl | ⟨q, a, rfl⟩
  · exact absurd rfl h
  · exact ⟨q, a, List.concat_eq_append .., ht a (by simp)⟩
theorem tight_snoc {d : List Rat} {a : Rat} (h : a ≠ 0) : Tight (d ++ [a]) := fun q hq => by
  simp at hq
  subst hq
  exact h
theorem tight_prod {d o : List Rat} (hd0 : d ≠ []) (ho0 : o ≠ []) (hd : Tight d) (ho : Tight o) : ∃ c, Tight c ∧ c.length + 1 = d.length + o.length ∧ (∀ x, ev c x = ev d x * ev o x) ∧ c.getLast? = some (d.getLast hd0 * o.getLast ho0) := by
  obtain ⟨d0, a, rfl, ha⟩ := tight_ne hd0 hd
  obtain ⟨o0, b, rfl, hb⟩ := tight_ne ho0 ho
  have hab : a * b ≠ 0 := fun z => by rcases Rat.mul_eq_zero.mp z with h | h; exact ha h; exact hb h
  refine ⟨(List.range (d0.length + o0.length)).map (coef (padd (pmul d0 o0) (padd (List.replicate o0.length 0 ++ d0.map fun q => q * b) (List.replicate d0.length 0 ++ o0.map fun q => q * a)))) ++ [a * b], tight_snoc hab, by simp; omega, fun x => ?_, by simp⟩
  have hl := pmul_le d0 o0
  rw [ev_snoc, ev_range_coef (by rw [padd_len, padd_len]; simp; omega), padd_ev, padd_ev, pmul_ev, ev_lift, ev_lift, ev_map_mul, ev_map_mul, ev_snoc, ev_snoc, List.length_map, List.length_range, pow_add']
  grind
theorem DivOk.uniq {p o t r t' r' : List Rat} (ho : Tight o) (h : DivOk p o t r) (h' : DivOk p o t' r') : t = t' ∧ r = r' := by
  have h0 : o ≠ [] := fun z => by have := h.lr; rw [z] at this; simp at this
  have key : ∀ x, ev t x = ev t' x := by
    by_cases hd : trim (padd t (pneg t')) = []
    · intro x
      have := ev_trim (padd t (pneg t')) x
      rw [hd, ev_nil, padd_ev, pneg_ev] at this
      grind
    · obtain ⟨c, hc, hcl, hce, -⟩ := tight_prod hd h0 (trim_tight _) ho
      have e : c = trim (padd r' (pneg r)) := tight_congr hc (trim_tight _) fun x => by
        rw [hce, ev_trim, ev_trim, padd_ev, padd_ev, pneg_ev, pneg_ev]
        have a := h.e x
        have b := h'.e x
        grind
      have l1 := trim_len (padd r' (pneg r))
      rw [padd_len, pneg_len, ← e] at l1
      have l2 := h.lr
      have l3 := h'.lr
      have l4 : 0 < (trim (padd t (pneg t'))).length := List.length_pos_iff.mpr hd
      omega
  refine ⟨tight_congr h.tt h'.tt key, tight_congr h.tr h'.tr fun x => ?_⟩
  have a := h.e x
  have b := h'.e x
  rw [key x] at a
  grind
end PP
namespace PP
open PySem PySem.Spec PyProof.Rows L2
def Dv (c p : List Rat) : Prop := ∃ q, ∀ x, ev p x = ev c x * ev q x
theorem dv_nil {c : List Rat} : Dv c [] := ⟨[], fun x => by rw [ev_nil]; grind⟩
theorem dv_refl {c : List Rat} : Dv c c := ⟨[1], fun x => by rw [ev_cons, ev_nil]; grind⟩
theorem dv_trans {a b c : List Rat} (h : Dv a b) (h' : Dv b c) : Dv a c := by
  obtain ⟨q, hq⟩ := h
  obtain ⟨r, hr⟩ := h'
  exact ⟨pmul q r, fun x => by rw [hr, hq, pmul_ev]; grind⟩
theorem dv_sub {c p o t r : List Rat} (h : ∀ x, ev p x = ev t x * ev o x + ev r x) (h1 : Dv c p) (h2 : Dv c o) : Dv c r := by
  obtain ⟨q, hq⟩ := h1
  obtain ⟨s, hs⟩ := h2
  refine ⟨padd q (pneg (pmul t s)), fun x => ?_⟩
  have a := h x
  rw [hq x, hs x] at a
  rw [padd_ev, pneg_ev, pmul_ev]
  grind
theorem dv_add {c p o t r : List Rat} (h : ∀ x, ev p x = ev t x * ev o x + ev r x) (h1 : Dv c r) (h2 : Dv c o) : Dv c p := by
  obtain ⟨q, hq⟩ := h1
  obtain ⟨s, hs⟩ := h2
  refine ⟨padd q (pmul t s), fun x => ?_⟩
  have a := h x
  rw [hq x, hs x] at a
  rw [padd_ev, pmul_ev]
  grind
theorem dv_scale {a b : List Rat} {k : Rat} (hk : k ≠ 0) (h : ∀ x, ev a x = ev b x * k) : Dv a b ∧ Dv b a :=
  ⟨⟨[1 / k], fun x => by rw [ev_cons, ev_nil, h x]; grind⟩, ⟨[k], fun x => by rw [ev_cons, ev_nil, h x]; grind⟩⟩
theorem dv_len {c p : List Rat} (hc : Tight c) (hp : Tight p) (h : Dv c p) (hp0 : p ≠ []) : c ≠ [] ∧ c.length ≤ p.length := by
  obtain ⟨q, hq⟩ := h
  have hc0 : c ≠ [] := fun z => by
    have := tight_congr hp tight_nil fun x => by rw [hq, z, ev_nil]; grind
    exact hp0 this
  refine ⟨hc0, ?_⟩
  by_cases hq0 : trim q = []
  · have := tight_congr hp tight_nil fun x => by rw [hq, ← ev_trim q, hq0, ev_nil]; grind
    exact absurd this hp0
  · obtain ⟨r, hr, hrl, hre, -⟩ := tight_prod hc0 hq0 hc (trim_tight q)
    have e : r = p := tight_congr hr hp fun x => by rw [hre, hq, ev_trim]
    have := List.length_pos_iff.mpr hq0
    rw [e] at hrl
    omega
theorem dv_eq {c p : List Rat} (hc : Tight c) (hp : Tight p) (c1 : c.getLast? = some 1) (p1 : p.getLast? = some 1) (h : Dv c p) (h' : Dv p c) : c = p := by
  have hc0 : c ≠ [] := fun z => by rw [z] at c1; cases c1
  have hp0 : p ≠ [] := fun z => by rw [z] at p1; cases p1
  have l := (dv_len hp hc h' hc0).2
  obtain ⟨q, hq⟩ := h
  have hq0 : trim q ≠ [] := fun z => hp0 (tight_congr hp tight_nil fun x => by rw [hq, ← ev_trim q, z, ev_nil]; grind)
  obtain ⟨r, hr, hrl, hre, hlast⟩ := tight_prod hq0 hc0 (trim_tight q) hc
  have e : r = p := tight_congr hr hp fun x => by rw [hre, hq, ev_trim]; grind
  subst e
  have : (trim q).length = 1 := by have := List.length_pos_iff.mpr hq0; omega
  obtain ⟨k, hk⟩ := List.length_eq_one_iff.mp this
  have hk1 : k = 1 := by
    rw [p1] at hlast
    have a : (trim q).getLast hq0 = k := by simp [hk]
    have b : c.getLast hc0 = 1 := by
      have := List.getLast?_eq_getLast hc0
      rw [c1] at this
      exact (Option.some.inj this).symm
    rw [a, b] at hlast
    have := Option.some.inj hlast
    grind
  refine tight_congr hc hp fun x => ?_
  rw [hq, ← ev_trim q, hk, ev_cons, ev_nil, hk1]
  grind
def monic (p : List Rat) : List Rat := p.map fun a => a * (1 / p.getLast?.getD 0)
theorem monic_ev (p : List Rat) (x : Rat) : ev (monic p) x = ev p x * (1 / p.getLast?.getD 0) := ev_map_mul ..
theorem last_ne {p : List Rat} (hp : Tight p) (h : p ≠ []) : p.getLast?.getD 0 ≠ 0 := by
  obtain ⟨d, a, rfl, ha⟩ := tight_ne h hp
  simpa using ha
theorem monic_last {p : List Rat} (hp : Tight p) (h : p ≠ []) : (monic p).getLast? = some 1 := by
  obtain ⟨d, a, rfl, ha⟩ := tight_ne h hp
  simp [monic]
  grind
theorem monic_tight {p : List Rat} (hp : Tight p) (h : p ≠ []) : Tight (monic p) := fun q hq => by
  rw [monic_last hp h] at hq
  cases hq
  decide
theorem monic_dv {p : List Rat} (hp : Tight p) (h : p ≠ []) : Dv (monic p) p ∧ Dv p (monic p) := dv_scale (by have := last_ne hp h; grind) (monic_ev p)
structure GcdOk (p o d : List Rat) : Prop where
  t : Tight d
  m : d.getLast? = some 1
  c : ∀ c, Dv c d ↔ Dv c p ∧ Dv c o
theorem GcdOk.ne {p o d : List Rat} (h : GcdOk p o d) : d ≠ [] := fun z => by have := h.m; rw [z] at this; cases this
theorem GcdOk.d1 {p o d : List Rat} (h : GcdOk p o d) : Dv d p := ((h.c d).mp dv_refl).1
theorem GcdOk.d2 {p o d : List Rat} (h : GcdOk p o d) : Dv d o := ((h.c d).mp dv_refl).2
theorem GcdOk.uniq {p o d p' o' d' : List Rat} (h : GcdOk p o d) (h' : GcdOk p' o' d') (e : ∀ c, Dv c p ∧ Dv c o ↔ Dv c p' ∧ Dv c o') : d = d' :=
  dv_eq h.t h'.t h.m h'.m ((h'.c d).mpr ((e d).mp ((h.c d).mp dv_refl))) ((h.c d').mpr ((e d').mpr ((h'.c d').mp dv_refl)))
def sx_with_last_one : SX :=
  (.ret (.call 33 (.cons (.v 0) (.cons (.call 14 (.cons (.glo 1) (.cons (.ix (.v 0) (.neg (.int 1))) .nil))) .nil))) .nil)
abbrev ns_with_last_one : List Str := ["curve"]
def sx_common_part_1 : SX :=
  (.ret (.call 49 (.cons (.v 0) .nil)) .nil)
def sx_common_part_2 : SX :=
  (.whl (.cmp .ne (.v 1) (.tup .nil))
    (.par 0 1 (.v 1) (.ix (.call 44 (.cons (.v 0) (.cons (.v 1) .nil))) (.int 1)) .nil)
  sx_common_part_1)
def sx_common_part : SX :=
  (.ite (.and (.cmp .eq (.v 0) (.tup .nil)) (.cmp .eq (.v 1) (.tup .nil)))
    (.raise .ncurve .nil)
    .nil
  sx_common_part_2)
abbrev ns_common_part : List Str := ["one", "other"]
section
variable {Γ : Nat → SpD} {gl : Nat → D} {ds : List D} {g : G} {Q : QD} {E X : XD}
def spLastOne : SpD := fun ds g Q _ => ∃ p b, ds = [.tup (nums p)] ∧ Szs b p ∧ Tight p ∧ p ≠ [] ∧ b ≤ 49000000 ∧ p.length ≤ 100 ∧ Q (.tup (nums (monic p))) g
theorem pure_with_last_one (h14 : Γ 14 = spOver) (h33 : Γ 33 = spScaled) (hg1 : gl 1 = .tup [.int 1, .int 1]) (h : spLastOne ds g Q E) : mnS Γ gl sx_with_last_one (endsOf Q E) (startD ns_with_last_one ds) g := by
  obtain ⟨p, b, rfl, hp, ht, h0, hb, hl, h⟩ := h
  obtain ⟨d, l, rfl, hl0⟩ := tight_ne h0 ht
  have hs := hp l (by simp)
  have h2 := sz_div 1 l
  have h1 := sz_1
  have e1 : atI (nums (d ++ [l])) (-1) = some (num l) := by
    rw [show nums (d ++ [l]) = nums d ++ [num l] by simp [nums]]; exact atI_last
  simp only [sx_with_last_one, h14, h33, hg1, mnS, dLamr, mn, Mn.of, Op.rd, Cm.rd, Bl.rd, Mt.rd, Mt.rc, dNop, dSeq, dExpr, dRet, dRetN, dIf, gD, dAsg, dPar, dPut, dRaise, dVar, dC, dBin, dUn, dNil, dCons, dTup, dLst, dTst, dAndT, dOrT, dNotT, dYes, dAnd, dOr, dNot, dChain, dCall, dCB, dMt, dLset, dSrev, dTry, dIsx, dEmp, dDic1, dStp, xsub, Ex.sub, dSlc, dPart, dNoPart, dIAny, dI1, dI2, dI3, dFor, dComp, compB, wipeD, startD, endsOf, at_mk, setAll, add_int, sub_int, mul_int, mul_tup, pow_int, mod_int, fdiv_int, lt_int, le_int, gt_int, ge_int, eq_int, neg_int, len_tup, len_scr, abs_int, max_int, min_int, int_int, int_bl, r1_int, r2_int, tuple_tup, list_tup, over_tup, rev_tup, enum_tup, zip_tup, slc_tup, add_tup, isi_any, ix_tup, ix_scr, ix_num0, ix_num1, len_num, num_0, num_1, atI_0, atI_1, atI_2, List.map, List.cons_append, List.nil_append, List.getElem?_cons_zero, List.getElem?_cons_succ, List.getElem?_nil, List.set_cons_zero, List.set_cons_succ, List.replicate, List.length_cons, List.length_nil, List.foldr_cons, List.foldr_nil, Nat.reduceAdd, Nat.reduceSub, List.replicate_succ, List.replicate_zero, G_up_same, decide_eq_true_eq, Bool.not_eq_true', Bool.false_eq_true, if_true, if_false, ite_true, ite_false, and_true, true_and, reduceCtorEq, Bool.not_true, Bool.not_false, Bool.false_bne, Bool.true_bne, sl0, sl1, sl2, sl3, sl4, e1, num_1, c_over]
  refine ⟨by omega, fun z => absurd z hl0, fun _ => ?_⟩
  refine c_scaledB b (b + 1) hp (by omega) (by omega) hl fun r hr hrl hrs hre => ?_
  have e : r = monic (d ++ [l]) := tight_congr hr (monic_tight ht h0) fun x => by rw [hre, monic_ev]; simp
  subst e
  exact ⟨_, G.le_refl _, h⟩
end
end PP
namespace PP
open PySem PySem.Spec PyProof.Rows L2
def lpr : List Rat → Rat → Rat
  | [], _ => 1
  | k :: ks, x => (x - k) * lpr ks x
end PP
namespace PP
open PySem PySem.Spec PyProof.Rows L2
end PP
namespace PP
open PySem PySem.Spec PyProof.Rows L2
theorem Szs.take {b : Nat} {ks : List Rat} (h : Szs b ks) (j : Nat) : Szs b (ks.take j) := fun z hz => h z (List.mem_of_mem_take hz)
def GoodK (ks : List Rat) : Prop := ks ≠ [] ∧ ks.length ≤ 12 ∧ ks.Nodup
theorem GoodK.pos {ks : List Rat} (h : GoodK ks) : 0 < ks.length := List.length_pos_iff.mpr h.1
end PP
namespace PP
open PySem PySem.Spec PyProof.Rows L2
end PP
namespace PP
open PySem PySem.Spec PyProof.Rows L2
end PP
namespace PP
open PySem PySem.Spec PyProof.Rows L2
end PP
namespace PP
open PySem PySem.Spec PyProof.Rows L2
end PP
namespace PP
open PySem PySem.Spec PyProof.Rows L2
def sx_law_refusal_v5 : SX :=
  (.asg (.n 1) (.lst (.cons (.tup (.cons (.str "many") (.cons (.isx [some .many] (.v 0)) .nil))) (.cons (.tup (.cons (.str "points") (.cons (.isx [some .npoints] (.v 0)) .nil))) .nil)))
  (.asg (.n 1) (.bin .add (.v 1) (.lst (.cons (.tup (.cons (.str "point") (.cons (.isx [some .npoint] (.v 0)) .nil))) (.cons (.tup (.cons (.str "number") (.cons (.isx [some .number] (.v 0)) .nil))) .nil))))
  (.asg (.n 1) (.bin .add (.v 1) (.lst (.cons (.tup (.cons (.str "curve") (.cons (.isx [some .ncurve] (.v 0)) .nil))) (.cons (.tup (.cons (.str "stretch") (.cons (.isx [some .stretch] (.v 0)) .nil))) .nil))))
  (.asg (.n 1) (.bin .add (.v 1) (.lst (.cons (.tup (.cons (.str "deep") (.cons (.isx [some .deep] (.v 0)) .nil))) (.cons (.tup (.cons (.str "few") (.cons (.isx [some .few] (.v 0)) .nil))) .nil))))
  (.asg (.n 1) (.bin .add (.v 1) (.lst (.cons (.tup (.cons (.str "text") (.cons (.isx [some .text] (.v 0)) .nil))) (.cons (.tup (.cons (.str "row") (.cons (.isx [some .row] (.v 0)) .nil))) .nil))))
  (.asg (.n 2) (.comp [3, 4] (.t [3, 4]) (.overL (.v 1)) (.v 4) (.v 3))
  (.ite (.or (.cmp .ne (.blt .len (.cons (.v 2) .nil)) (.int 1)) (.not (.isx [none] (.v 0))))
    (.ret (.str "other") .nil)
    .nil
  (.ret (.ix (.v 2) (.int 0)) .nil))))))))
abbrev ns_law_refusal_v5 : List Str := ["_law_caught", "_law_some", "_law_found", "_law_word", "_law_one"]
def Ex.word : Ex → Str
  | .curve => "other"
  | .number => "number"
  | .ncurve => "curve"
  | .npoints => "points"
  | .many => "many"
  | .npoint => "point"
  | .stretch => "stretch"
  | .deep => "deep"
  | .few => "few"
  | .text => "text"
  | .row => "row"
def spRefusal : SpD := fun ds g Q _ => ∃ n : Ex, ds = [.exc n] ∧ Q (.str n.word) g
abbrev wd (rows : List (Str × Bool)) : List D := rows.map fun r => D.tup [.str r.1, .bl r.2]
abbrev wds (rows : List (Str × Bool)) : List D := (rows.filter (·.2)).map fun r => D.str r.1
theorem take_s48 {α : Type} {xs : List α} {k : Nat} {x : α} (h : xs[k]? = some x) : xs.take (k + 1) = xs.take k ++ [x] := by
  rw [List.take_add_one, h] <;> rfl
theorem words_comp {g : G} {rows : List (Str × Bool)} {p q : Addr} {e0 e1 e2 : Option D} {fin : G → Prop} (hp : g p = some (wd rows)) (hq : g q = none) (h : fin (g.up q (wds rows))) :
    compD (fun g' => g' p = some (wd rows)) q (compB (.t [3, 4]) [e0, e1, e2, none, none] (dTst (dVar 4)) (dVar 3)) fin (wd rows) [] (g.up q []) := by
  have hpq := ne_of_known hp hq
  refine comp_inv (fun k acc g' => acc = wds (rows.take k) ∧ g' = g.up q acc) (fun k acc g' e => by rw [e.2, G_up_ne hpq]; exact hp) ?_ ?_ ⟨rfl, rfl⟩
  · rintro k x acc g' N hk ⟨rfl, rfl⟩ h1 h2
    rw [List.getElem?_map] at hk
    cases hr : rows[k]? with
    | none => rw [hr] at hk; cases hk
    | some r =>
      rw [hr] at hk
      cases hk
      obtain ⟨w, b⟩ := r
      have e : wds (rows.take (k + 1)) = wds (rows.take k) ++ if b = true then [D.str w] else [] := by
        rw [take_s48 hr]
        cases b <;> simp [wds]
      cases b with
      | true =>
        simp [mnS, dLamr, mn, Mn.of, Op.rd, Cm.rd, Bl.rd, Mt.rd, Mt.rc, dNop, dSeq, dExpr, dRet, dRetN, dIf, gD, dAsg, dPar, dPut, dRaise, dVar, dC, dBin, dUn, dNil, dCons, dTup, dLst, dTst, dAndT, dOrT, dNotT, dYes, dAnd, dOr, dNot, dChain, dCall, dCB, dMt, dLset, dSrev, dTry, dIsx, dEmp, dDic1, dStp, xsub, Ex.sub, dSlc, dPart, dNoPart, dIAny, dI1, dI2, dI3, dFor, dComp, compB, wipeD, startD, endsOf, at_mk, setAll, add_int, sub_int, mul_int, mul_tup, pow_int, mod_int, fdiv_int, lt_int, le_int, gt_int, ge_int, eq_int, neg_int, len_tup, len_scr, abs_int, max_int, min_int, int_int, int_bl, r1_int, r2_int, tuple_tup, list_tup, over_tup, rev_tup, enum_tup, zip_tup, slc_tup, add_tup, isi_any, ix_tup, ix_scr, ix_num0, ix_num1, len_num, num_0, num_1, atI_0, atI_1, atI_2, List.map, List.cons_append, List.nil_append, List.getElem?_cons_zero, List.getElem?_cons_succ, List.getElem?_nil, List.set_cons_zero, List.set_cons_succ, List.replicate, List.length_cons, List.length_nil, List.foldr_cons, List.foldr_nil, Nat.reduceAdd, Nat.reduceSub, List.replicate_succ, List.replicate_zero, G_up_same, decide_eq_true_eq, Bool.not_eq_true', Bool.false_eq_true, if_true, if_false, ite_true, ite_false, and_true, true_and, reduceCtorEq, Bool.not_true, Bool.not_false, Bool.false_bne, Bool.true_bne, sl0, sl1, sl2, sl3, sl4]
        exact h1 _ _ G_up_same ⟨by rw [e]; simp, by rw [G_up_up]⟩
      | false =>
        simp [mnS, dLamr, mn, Mn.of, Op.rd, Cm.rd, Bl.rd, Mt.rd, Mt.rc, dNop, dSeq, dExpr, dRet, dRetN, dIf, gD, dAsg, dPar, dPut, dRaise, dVar, dC, dBin, dUn, dNil, dCons, dTup, dLst, dTst, dAndT, dOrT, dNotT, dYes, dAnd, dOr, dNot, dChain, dCall, dCB, dMt, dLset, dSrev, dTry, dIsx, dEmp, dDic1, dStp, xsub, Ex.sub, dSlc, dPart, dNoPart, dIAny, dI1, dI2, dI3, dFor, dComp, compB, wipeD, startD, endsOf, at_mk, setAll, add_int, sub_int, mul_int, mul_tup, pow_int, mod_int, fdiv_int, lt_int, le_int, gt_int, ge_int, eq_int, neg_int, len_tup, len_scr, abs_int, max_int, min_int, int_int, int_bl, r1_int, r2_int, tuple_tup, list_tup, over_tup, rev_tup, enum_tup, zip_tup, slc_tup, add_tup, isi_any, ix_tup, ix_scr, ix_num0, ix_num1, len_num, num_0, num_1, atI_0, atI_1, atI_2, List.map, List.cons_append, List.nil_append, List.getElem?_cons_zero, List.getElem?_cons_succ, List.getElem?_nil, List.set_cons_zero, List.set_cons_succ, List.replicate, List.length_cons, List.length_nil, List.foldr_cons, List.foldr_nil, Nat.reduceAdd, Nat.reduceSub, List.replicate_succ, List.replicate_zero, G_up_same, decide_eq_true_eq, Bool.not_eq_true', Bool.false_eq_true, if_true, if_false, ite_true, ite_false, and_true, true_and, reduceCtorEq, Bool.not_true, Bool.not_false, Bool.false_bne, Bool.true_bne, sl0, sl1, sl2, sl3, sl4]
        exact h2 _ G_up_same ⟨by rw [e]; simp, rfl⟩
  · rintro acc g' ⟨rfl, rfl⟩
    rw [List.length_map, List.take_length]
    exact h
def rowsX (n : Ex) : List (Str × Bool) := [("many", [some Ex.many].any (xsub n)), ("points", [some Ex.npoints].any (xsub n)), ("point", [some Ex.npoint].any (xsub n)), ("number", [some Ex.number].any (xsub n)), ("curve", [some Ex.ncurve].any (xsub n)), ("stretch", [some Ex.stretch].any (xsub n)), ("deep", [some Ex.deep].any (xsub n)), ("few", [some Ex.few].any (xsub n)), ("text", [some Ex.text].any (xsub n)), ("row", [some Ex.row].any (xsub n))]
theorem rowsX_wds (n : Ex) : wds (rowsX n) = if n = .curve then [] else [.str n.word] := by cases n <;> rfl
theorem overL_ref {a : Addr} {g : G} {xs : List D} {R : List D → (G → Prop) → G → Prop} (h : g a = some xs) : dOverL (.ref a) g R = R xs (fun g' => g' a = some xs) g := by
  unfold dOverL
  simp only [h]
theorem le_up48 {g g1 : G} {p : Addr} {xs : List D} (a : g.le g1) (b : g1 p = none) : g.le (g1.up p xs) :=
  G.le_up a (by cases hh : g p with | none => rfl | some ys => have := a _ _ hh; rw [b] at this; cases this)
theorem add_step48 {g0 g1 : G} {p q : Addr} {xs ys : List D} {Q : QD} (l : g0.le g1) (hp : g1 p = some xs) (hs : xs.length + ys.length ≤ 10) (hq : g1 q = none) (k : ∀ r g2, g0.le g2 → g2 r = some (xs ++ ys) → Q (.ref r) g2) :
    dAdd (.ref p) (.ref q) (g1.up q ys) Q := by
  have hpq := ne_of_known hp hq
  rw [add_ref (xs := xs) (ys := ys) (by rw [G_up_ne hpq]; exact hp) G_up_same]
  exact ⟨Nat.le_trans hs (by decide), fun r hr => k r _ (le_up48 (le_up48 l hq) hr) G_up_same⟩
section
variable {Γ : Nat → SpD} {gl : Nat → D} {ds : List D} {g : G} {Q : QD}
theorem pure_law_refusal_v5 {E : XD} (h : spRefusal ds g Q E) : mnS Γ gl sx_law_refusal_v5 (endsOf Q E) (startD ns_law_refusal_v5 ds) g := by
  obtain ⟨n, rfl, h⟩ := h
  have LU : ∀ {g1 : G} {p : Addr} {xs : List D}, g.le g1 → g1 p = none → g.le (g1.up p xs) := le_up48
  simp only [sx_law_refusal_v5, mnS, dLamr, mn, Mn.of, Op.rd, Cm.rd, Bl.rd, Mt.rd, Mt.rc, dNop, dSeq, dExpr, dRet, dRetN, dIf, gD, dAsg, dPar, dPut, dRaise, dVar, dC, dBin, dUn, dNil, dCons, dTup, dLst, dTst, dAndT, dOrT, dNotT, dYes, dAnd, dOr, dNot, dChain, dCall, dCB, dMt, dLset, dSrev, dTry, dIsx, dEmp, dDic1, dStp, xsub, Ex.sub, dSlc, dPart, dNoPart, dIAny, dI1, dI2, dI3, dFor, dComp, compB, wipeD, startD, endsOf, at_mk, setAll, add_int, sub_int, mul_int, mul_tup, pow_int, mod_int, fdiv_int, lt_int, le_int, gt_int, ge_int, eq_int, neg_int, len_tup, len_scr, abs_int, max_int, min_int, int_int, int_bl, r1_int, r2_int, tuple_tup, list_tup, over_tup, rev_tup, enum_tup, zip_tup, slc_tup, add_tup, isi_any, ix_tup, ix_scr, ix_num0, ix_num1, len_num, num_0, num_1, atI_0, atI_1, atI_2, List.map, List.cons_append, List.nil_append, List.getElem?_cons_zero, List.getElem?_cons_succ, List.getElem?_nil, List.set_cons_zero, List.set_cons_succ, List.replicate, List.length_cons, List.length_nil, List.foldr_cons, List.foldr_nil, Nat.reduceAdd, Nat.reduceSub, List.replicate_succ, List.replicate_zero, G_up_same, decide_eq_true_eq, Bool.not_eq_true', Bool.false_eq_true, if_true, if_false, ite_true, ite_false, and_true, true_and, reduceCtorEq, Bool.not_true, Bool.not_false, Bool.false_bne, Bool.true_bne, sl0, sl1, sl2, sl3, sl4]
  intro p1 n1 q1 m1
  refine add_step48 (LU (G.le_refl g) n1) G_up_same (by simp) m1 fun p2 g2 l2 h2 => ?_
  intro q2 m2
  refine add_step48 l2 h2 (by simp) m2 fun p3 g3 l3 h3 => ?_
  intro q3 m3
  refine add_step48 l3 h3 (by simp) m3 fun p4 g4 l4 h4 => ?_
  intro q4 m4
  refine add_step48 l4 h4 (by simp) m4 fun p5 g5 l5 h5 => ?_
  have h5 : g5 p5 = some (wd (rowsX n)) := h5
  simp only [dILst, mnS, dLamr, mn, Mn.of, Op.rd, Cm.rd, Bl.rd, Mt.rd, Mt.rc, dNop, dSeq, dExpr, dRet, dRetN, dIf, gD, dAsg, dPar, dPut, dRaise, dVar, dC, dBin, dUn, dNil, dCons, dTup, dLst, dTst, dAndT, dOrT, dNotT, dYes, dAnd, dOr, dNot, dChain, dCall, dCB, dMt, dLset, dSrev, dTry, dIsx, dEmp, dDic1, dStp, xsub, Ex.sub, dSlc, dPart, dNoPart, dIAny, dI1, dI2, dI3, dFor, dComp, compB, wipeD, startD, endsOf, at_mk, setAll, add_int, sub_int, mul_int, mul_tup, pow_int, mod_int, fdiv_int, lt_int, le_int, gt_int, ge_int, eq_int, neg_int, len_tup, len_scr, abs_int, max_int, min_int, int_int, int_bl, r1_int, r2_int, tuple_tup, list_tup, over_tup, rev_tup, enum_tup, zip_tup, slc_tup, add_tup, isi_any, ix_tup, ix_scr, ix_num0, ix_num1, len_num, num_0, num_1, atI_0, atI_1, atI_2, List.map, List.cons_append, List.nil_append, List.getElem?_cons_zero, List.getElem?_cons_succ, List.getElem?_nil, List.set_cons_zero, List.set_cons_succ, List.replicate, List.length_cons, List.length_nil, List.foldr_cons, List.foldr_nil, Nat.reduceAdd, Nat.reduceSub, List.replicate_succ, List.replicate_zero, G_up_same, decide_eq_true_eq, Bool.not_eq_true', Bool.false_eq_true, if_true, if_false, ite_true, ite_false, and_true, true_and, reduceCtorEq, Bool.not_true, Bool.not_false, Bool.false_bne, Bool.true_bne, sl0, sl1, sl2, sl3, sl4]
  rw [overL_ref h5]
  refine ⟨by show 10 ≤ sizeLine; decide, fun q5 m5 => words_comp h5 m5 ?_⟩
  have L := LU (xs := wds (rowsX n)) l5 m5
  have hq : (g5.up q5 (wds (rowsX n))) q5 = some (wds (rowsX n)) := G_up_same
  generalize g5.up q5 (wds (rowsX n)) = g6 at L hq
  rw [rowsX_wds] at hq
  rw [len_ref hq]
  cases n <;> simp [mnS, dLamr, mn, Mn.of, Op.rd, Cm.rd, Bl.rd, Mt.rd, Mt.rc, dNop, dSeq, dExpr, dRet, dRetN, dIf, gD, dAsg, dPar, dPut, dRaise, dVar, dC, dBin, dUn, dNil, dCons, dTup, dLst, dTst, dAndT, dOrT, dNotT, dYes, dAnd, dOr, dNot, dChain, dCall, dCB, dMt, dLset, dSrev, dTry, dIsx, dEmp, dDic1, dStp, xsub, Ex.sub, dSlc, dPart, dNoPart, dIAny, dI1, dI2, dI3, dFor, dComp, compB, wipeD, startD, endsOf, at_mk, setAll, add_int, sub_int, mul_int, mul_tup, pow_int, mod_int, fdiv_int, lt_int, le_int, gt_int, ge_int, eq_int, neg_int, len_tup, len_scr, abs_int, max_int, min_int, int_int, int_bl, r1_int, r2_int, tuple_tup, list_tup, over_tup, rev_tup, enum_tup, zip_tup, slc_tup, add_tup, isi_any, ix_tup, ix_scr, ix_num0, ix_num1, len_num, num_0, num_1, atI_0, atI_1, atI_2, List.map, List.cons_append, List.nil_append, List.getElem?_cons_zero, List.getElem?_cons_succ, List.getElem?_nil, List.set_cons_zero, List.set_cons_succ, List.replicate, List.length_cons, List.length_nil, List.foldr_cons, List.foldr_nil, Nat.reduceAdd, Nat.reduceSub, List.replicate_succ, List.replicate_zero, G_up_same, decide_eq_true_eq, Bool.not_eq_true', Bool.false_eq_true, if_true, if_false, ite_true, ite_false, and_true, true_and, reduceCtorEq, Bool.not_true, Bool.not_false, Bool.false_bne, Bool.true_bne, sl0, sl1, sl2, sl3, sl4] at hq ⊢ <;> first | exact ⟨_, L, h⟩ | (rw [ix_ref hq]; exact ⟨_, L, h⟩)
end
end PP
namespace PP
open PySem PySem.Spec PyProof.Rows L2
end PP
namespace PP
open PySem PySem.Spec PyProof.Rows L2
end PP
namespace PP
open PySem PySem.Spec PyProof.Rows L2
open TL (numL numL_lt numL_step numL_digits numL_ne numL_free numL_val numL_inj numL_len joinL)
abbrev St (l : List Nat) : Str := _root_.SX.S l
end PP
namespace PP
open PySem PySem.Spec PyProof.Rows L2
open TL (numL numL_lt numL_step numL_digits numL_ne numL_free numL_val numL_inj numL_len joinL)
end PP
namespace PP
open PySem PySem.Spec PyProof.Rows L2
end PP
namespace PP
open PySem PySem.Spec PyProof.Rows L2
def HtD (D : Int) (h : Nat) (p : List Rat) : Prop := ∀ i, ∃ N : Int, coef p i * (D : Rat) = (N : Rat) ∧ N.natAbs < 2 ^ h
def Ht (h : Nat) (p : List Rat) : Prop := ∃ D : Int, D ≠ 0 ∧ D.natAbs < 2 ^ h ∧ HtD D h p
theorem int_ne {D : Int} (h : D ≠ 0) : (D : Rat) ≠ 0 := fun z => h (Rat.intCast_eq_zero_iff.mp z)
theorem sz_fr {q : Rat} {N D : Int} {h : Nat} (e : q * (D : Rat) = (N : Rat)) (h0 : D ≠ 0) (hD : D.natAbs < 2 ^ h) (hN : N.natAbs < 2 ^ h) : sz q ≤ h := by
  have hd := int_ne h0
  have e2 : q = Rat.divInt N D := by
    rw [Rat.divInt_eq_div, ← e]
    grind
  rw [e2]
  exact sz_divInt hN hD h0
theorem HtD.mono {D : Int} {h k : Nat} {p : List Rat} (a : HtD D h p) (l : h ≤ k) : HtD D k p := fun i => by
  obtain ⟨N, e, b⟩ := a i
  exact ⟨N, e, Nat.lt_of_lt_of_le b (Nat.pow_le_pow_right (by decide) l)⟩
theorem Ht.mono {h k : Nat} {p : List Rat} (a : Ht h p) (l : h ≤ k) : Ht k p := by
  obtain ⟨D, a1, a2, a3⟩ := a
  exact ⟨D, a1, Nat.lt_of_lt_of_le a2 (Nat.pow_le_pow_right (by decide) l), a3.mono l⟩
theorem Ht.pos {h : Nat} {p : List Rat} (a : Ht h p) : 0 < h := by
  obtain ⟨D, a1, a2, a3⟩ := a
  rcases Nat.eq_zero_or_pos h with z | z
  · subst z; omega
  · exact z
theorem HtD.szs {D : Int} {h : Nat} {p : List Rat} (a : HtD D h p) (h0 : D ≠ 0) (hD : D.natAbs < 2 ^ h) : Szs h p := fun q hq => by
  obtain ⟨i, hi⟩ := List.mem_iff_getElem?.mp hq
  obtain ⟨N, e, b⟩ := a i
  rw [coef_at hi] at e
  exact sz_fr e h0 hD b
theorem Ht.szs {h : Nat} {p : List Rat} (a : Ht h p) : Szs h p := by
  obtain ⟨D, a1, a2, a3⟩ := a
  exact a3.szs a1 a2
theorem HtD.congr {D : Int} {h : Nat} {p q : List Rat} (a : HtD D h p) (e : ∀ x, ev p x = ev q x) : HtD D h q := fun i => by
  rw [← coefs_eq e i]; exact a i
theorem Ht.congr {h : Nat} {p q : List Rat} (a : Ht h p) (e : ∀ x, ev p x = ev q x) : Ht h q := by
  obtain ⟨D, a1, a2, a3⟩ := a
  exact ⟨D, a1, a2, a3.congr e⟩
theorem HtD.nil {D : Int} {h : Nat} : HtD D h [] := fun i => ⟨0, by rw [coef_out (Nat.zero_le _)]; grind, Nat.two_pow_pos _⟩
theorem Ht.nil : Ht 1 [] := ⟨1, by decide, by decide, .nil⟩
theorem Ht.one : Ht 1 [1] := ⟨1, by decide, by decide, fun i => by
  cases i with
  | zero => exact ⟨1, by rw [coef_cons_zero]; decide +kernel, by decide⟩
  | succ i => exact ⟨0, by rw [coef_cons_succ, coef_out (Nat.zero_le _)]; grind, by decide⟩⟩
theorem coef_range {f : Nat → Rat} {n i : Nat} (h : i < n) : coef ((List.range n).map f) i = f i := coef_at (by rw [List.getElem?_map, List.getElem?_range h]; rfl)
theorem coef_add {t r s : List Rat} (h : ∀ x, ev t x = ev r x + ev s x) (i : Nat) : coef t i = coef r i + coef s i := by
  have e := coefs_eq (c := t) (d := (List.range (r.length + s.length + i + 1)).map fun k => coef r k + coef s k) (fun x => by rw [h, ev_map_add, ev_range_coef (by omega), ev_range_coef (by omega)]) i
  rw [e, coef_range (by omega)]
theorem coef_sub {t r s : List Rat} (h : ∀ x, ev t x = ev r x - ev s x) (i : Nat) : coef t i = coef r i - coef s i := by
  have e := coefs_eq (c := t) (d := (List.range (r.length + s.length + i + 1)).map fun k => coef r k - coef s k) (fun x => by rw [h, ev_map_sub, ev_range_coef (by omega), ev_range_coef (by omega)]) i
  rw [e, coef_range (by omega)]
theorem coef_map {r : List Rat} {q : Rat} (i : Nat) : coef (r.map fun a => a * q) i = coef r i * q := by
  by_cases h : i < r.length
  · exact coef_at (by rw [List.getElem?_map, coef_lt h]; rfl)
  · rw [coef_out (by simp; omega), coef_out (by omega)]; grind
theorem coef_scale {t r : List Rat} {q : Rat} (h : ∀ x, ev t x = ev r x * q) (i : Nat) : coef t i = coef r i * q := by
  rw [coefs_eq (c := t) (d := r.map fun a => a * q) (fun x => by rw [h, ev_map_mul]) i, coef_map]
theorem coef_low {d i : Nat} {o : List Rat} (h : i < d) : coef (List.replicate d 0 ++ o) i = 0 := coef_at (by rw [List.getElem?_append_left (by simpa using h), List.getElem?_replicate, if_pos h])
theorem coef_liftc (d : Nat) (o : List Rat) (i : Nat) : coef (List.replicate d 0 ++ o) i = if d ≤ i then coef o (i - d) else 0 := by
  split
  · rename_i h
    have := coef_lift d (i - d) o
    rw [show d + (i - d) = i by omega] at this
    exact this
  · exact coef_low (by omega)
theorem pw_mul {a b A B : Nat} (h1 : a < 2 ^ A) (h2 : b < 2 ^ B) : a * b < 2 ^ (A + B) := by rw [Nat.pow_add]; exact Nat.mul_lt_mul'' h1 h2
theorem pw_sub {x y : Int} {A : Nat} (h1 : x.natAbs < 2 ^ A) (h2 : y.natAbs < 2 ^ A) : (x - y).natAbs < 2 ^ (A + 1) := by
  rw [Nat.pow_succ]; omega
theorem pw_add {x y : Int} {A : Nat} (h1 : x.natAbs < 2 ^ A) (h2 : y.natAbs < 2 ^ A) : (x + y).natAbs < 2 ^ (A + 1) := by
  rw [Nat.pow_succ]; omega
theorem HtD.step {D E Nc : Int} {A B d m k : Nat} {r o t : List Rat} {s : Rat} (hr : HtD D A r) (ho : HtD E B o) (hc : coef o k * (E : Rat) = (Nc : Rat)) (hs : s * coef o k = coef r m) (hN : Nc.natAbs < 2 ^ B)
    (e : ∀ x, ev t x = ev r x - ev (List.replicate d 0 ++ o.map fun q => q * s) x) : HtD (D * Nc) (A + B + 1) t := fun i => by
  obtain ⟨Na, ea, ba⟩ := hr m
  obtain ⟨N, e1, b1⟩ := hr i
  have ec := coef_sub e i
  rw [coef_liftc] at ec
  split at ec
  · rename_i hd
    obtain ⟨M, e2, b2⟩ := ho (i - d)
    rw [coef_map] at ec
    refine ⟨N * Nc - M * Na, ?_, ?_⟩
    · rw [ec, Rat.intCast_sub, Rat.intCast_mul, Rat.intCast_mul, Rat.intCast_mul, ← e1, ← e2, ← ea, ← hc, ← hs]
      grind
    · refine pw_sub ?_ ?_
      · rw [Int.natAbs_mul]; exact pw_mul b1 hN
      · rw [Int.natAbs_mul, Nat.add_comm]; exact pw_mul b2 ba
  · rename_i hd
    refine ⟨N * Nc, ?_, ?_⟩
    · rw [ec, Rat.intCast_mul, Rat.intCast_mul, ← e1]
      grind
    · rw [Int.natAbs_mul, Nat.pow_succ]
      have := pw_mul b1 hN
      omega
theorem HtD.sub {D E : Int} {A B : Nat} {p q r : List Rat} (hp : HtD D A p) (hq : HtD E B q) (hD : D.natAbs < 2 ^ A) (hE : E.natAbs < 2 ^ B) (e : ∀ x, ev r x = ev p x - ev q x) : HtD (D * E) (A + B + 1) r := fun i => by
  obtain ⟨N, e1, b1⟩ := hp i
  obtain ⟨M, e2, b2⟩ := hq i
  refine ⟨N * E - M * D, ?_, ?_⟩
  · rw [coef_sub e i, Rat.intCast_sub, Rat.intCast_mul, Rat.intCast_mul, Rat.intCast_mul, ← e1, ← e2]
    grind
  · refine pw_sub ?_ ?_
    · rw [Int.natAbs_mul]; exact pw_mul b1 hE
    · rw [Int.natAbs_mul, Nat.add_comm]; exact pw_mul b2 hD
theorem mul_nz {D E : Int} (h : D ≠ 0) (h' : E ≠ 0) : D * E ≠ 0 := fun z => (Int.mul_eq_zero.mp z).elim h h'
theorem Ht.sub {A B : Nat} {p q r : List Rat} (hp : Ht A p) (hq : Ht B q) (e : ∀ x, ev r x = ev p x - ev q x) : Ht (A + B + 1) r := by
  obtain ⟨D, a1, a2, a3⟩ := hp
  obtain ⟨E, b1, b2, b3⟩ := hq
  refine ⟨D * E, mul_nz a1 b1, ?_, a3.sub b3 a2 b2 e⟩
  rw [Int.natAbs_mul, Nat.pow_succ]
  have := pw_mul a2 b2
  omega
theorem Ht.scale {A B : Nat} {p r : List Rat} {q : Rat} (hp : Ht A p) (hq : sz q ≤ B) (e : ∀ x, ev r x = ev p x * q) : Ht (A + B) r := by
  obtain ⟨D, a1, a2, a3⟩ := hp
  have h1 := Nat.lt_of_lt_of_le (sz_num q) (Nat.pow_le_pow_right (by decide) hq)
  have h2 := Nat.lt_of_lt_of_le (sz_den q) (Nat.pow_le_pow_right (by decide) hq)
  have hd : (q.den : Int) ≠ 0 := by have := q.den_nz; omega
  refine ⟨D * q.den, mul_nz a1 hd, ?_, fun i => ?_⟩
  · rw [Int.natAbs_mul]; exact pw_mul a2 (by simpa using h2)
  · obtain ⟨N, e1, b1⟩ := a3 i
    refine ⟨N * q.num, ?_, ?_⟩
    · rw [coef_scale e i, Rat.intCast_mul, Rat.intCast_mul, ← e1]
      have : q * ((q.den : Int) : Rat) = (q.num : Rat) := by
        have h3 : ((q.den : Int) : Rat) ≠ 0 := int_ne hd
        have h4 : q = Rat.divInt q.num q.den := (Rat.num_divInt_den q).symm
        rw [Rat.divInt_eq_div] at h4
        conv => lhs; rw [h4]
        grind
      rw [← this]; grind
    · rw [Int.natAbs_mul]; exact pw_mul b1 h1
theorem Ht.monic {A k : Nat} {p r : List Rat} (hp : Ht A p) (hk : coef p k ≠ 0) (e : ∀ x, ev r x = ev p x * (1 / coef p k)) : Ht A r := by
  obtain ⟨D, a1, a2, a3⟩ := hp
  obtain ⟨M, e2, b2⟩ := a3 k
  have hM : M ≠ 0 := fun z => by
    rw [z] at e2
    have := int_ne a1
    have e3 : coef p k * (D : Rat) = 0 := e2
    rcases Rat.mul_eq_zero.mp e3 with z | z
    · exact hk z
    · exact this z
  refine ⟨M, hM, b2, fun i => ?_⟩
  obtain ⟨N, e1, b1⟩ := a3 i
  refine ⟨N, ?_, b1⟩
  rw [coef_scale e i, ← e2, ← e1]
  grind
theorem HtD.mul {D E : Int} {A B : Nat} : ∀ {p q : List Rat}, HtD D A p → HtD E B q → ∀ i, ∃ N : Int, coef (pmul p q) i * ((D * E : Int) : Rat) = (N : Rat) ∧ N.natAbs ≤ p.length * 2 ^ (A + B)
  | [], q, _, _, i => ⟨0, by rw [pmul, coef_out (Nat.zero_le _)]; grind, by simp⟩
  | a :: p, q, hp, hq, i => by
    have hp' : HtD D A p := fun i => by
      have := hp (i + 1)
      rw [coef_cons_succ] at this
      exact this
    obtain ⟨N0, e0, b0⟩ := hp 0
    rw [coef_cons_zero] at e0
    obtain ⟨M, e1, b1⟩ := hq i
    have ec : coef (pmul (a :: p) q) i = coef q i * a + coef (0 :: pmul p q) i := by
      rw [pmul, coef_add (t := padd (q.map fun b => b * a) (0 :: pmul p q)) (fun x => padd_ev _ _ x) i, coef_map]
    have hb : (M * N0).natAbs ≤ 2 ^ (A + B) := by
      rw [Int.natAbs_mul, Nat.add_comm]; exact Nat.le_of_lt (pw_mul b1 b0)
    cases i with
    | zero =>
      refine ⟨M * N0, ?_, ?_⟩
      · rw [ec, coef_cons_zero, Rat.intCast_mul, Rat.intCast_mul, ← e0, ← e1]; grind
      · rw [List.length_cons, Nat.succ_mul]; omega
    | succ i =>
      obtain ⟨N, e2, b2⟩ := HtD.mul hp' hq i
      refine ⟨M * N0 + N, ?_, ?_⟩
      · rw [ec, coef_cons_succ, Rat.intCast_add, ← e2, Rat.intCast_mul, Rat.intCast_mul, ← e0, ← e1]; grind
      · rw [List.length_cons, Nat.succ_mul]
        have := Int.natAbs_add_le (M * N0) N
        omega
theorem Ht.mul {A B m : Nat} {p q r : List Rat} (hp : Ht A p) (hq : Ht B q) (hl : p.length < 2 ^ m) (e : ∀ x, ev r x = ev p x * ev q x) : Ht (A + B + m) r := by
  obtain ⟨D, a1, a2, a3⟩ := hp
  obtain ⟨E, b1, b2, b3⟩ := hq
  refine ⟨D * E, mul_nz a1 b1, ?_, fun i => ?_⟩
  · rw [Int.natAbs_mul, Nat.pow_add]
    exact Nat.lt_of_lt_of_le (pw_mul a2 b2) (Nat.le_mul_of_pos_right _ (Nat.two_pow_pos _))
  · obtain ⟨N, e1, b⟩ := HtD.mul a3 b3 i
    refine ⟨N, ?_, ?_⟩
    · rw [coefs_eq (c := r) (d := pmul p q) (fun x => by rw [e, pmul_ev]) i]; exact e1
    · refine Nat.lt_of_le_of_lt b ?_
      rw [Nat.pow_add 2 (A + B) m, Nat.mul_comm]
      exact (Nat.mul_lt_mul_left (Nat.two_pow_pos _)).mpr hl
end PP
namespace PP
open PySem PySem.Spec PyProof.Rows L2
theorem rj_nz {D N : Int} (j : Nat) (h : D ≠ 0) (h' : N ≠ 0) : D * N ^ j ≠ 0 := mul_nz h (by
  induction j with
  | zero => rw [Int.pow_zero]; decide
  | succ j ih => rw [Int.pow_succ]; exact mul_nz ih h')
theorem pw_pow {N : Int} {B : Nat} (m : Nat) (h : N.natAbs < 2 ^ B) : (N ^ m).natAbs < 2 ^ (m * B) ∨ m = 0 := by
  induction m with
  | zero => exact .inr rfl
  | succ m ih =>
    left
    rw [Int.pow_succ, Int.natAbs_mul, Nat.succ_mul]
    rcases ih with h' | rfl
    · exact pw_mul h' h
    · rw [Int.pow_zero, Nat.zero_mul, Nat.zero_add]; simpa using h
theorem pw_pows {N : Int} {A B x : Nat} (m : Nat) (hx : x < 2 ^ A) (h : N.natAbs < 2 ^ B) : x * (N ^ m).natAbs < 2 ^ (A + m * B) := by
  rcases pw_pow m h with h' | rfl
  · exact pw_mul hx h'
  · rw [Int.pow_zero, Nat.zero_mul, Nat.add_zero]; simpa using hx
theorem rj_lt {D N : Int} {A B j : Nat} (h : D.natAbs < 2 ^ A) (h' : N.natAbs < 2 ^ B) : (D * N ^ j).natAbs < 2 ^ (A + j * B) := by
  rw [Int.natAbs_mul]; exact pw_pows j h h'
theorem coef_zeros (n i : Nat) : coef (List.replicate n 0) i = 0 := by
  by_cases h : i < n
  · exact coef_at (by rw [List.getElem?_replicate, if_pos h])
  · exact coef_out (by rw [List.length_replicate]; omega)
theorem set_ht {F : Int} {H d : Nat} {t : List Rat} {q : Rat} (h : HtD F H t) (hq : ∃ N : Int, q * (F : Rat) = (N : Rat) ∧ N.natAbs < 2 ^ H) : HtD F H (t.set d q) := fun i => by
  by_cases hi : i < t.length
  · by_cases hd : d = i
    · subst hd; rw [coef_seteq hi]; exact hq
    · rw [coef_setne hd hi]; exact h i
  · have := h i
    rw [coef_out (by omega)] at this
    rw [coef_out (by rw [List.length_set]; omega)]
    exact this
def divB (n m A B : Nat) : Nat := A + (n + 1 - m) * (B + 1)
section
variable {Γ : Nat → SpD} {gl : Nat → D} {ds : List D} {g : G} {Q : QD} {E X : XD}
def spDivH : SpD := fun ds g Q X => ∃ p o A B, ds = [.tup (nums p), .tup (nums o)] ∧ Ht A p ∧ Ht B o ∧ Tight p ∧ Tight o ∧ p.length ≤ 50 ∧ o.length ≤ 50 ∧ 2 * divB p.length o.length A B + 10 ≤ 100000000 ∧ (o = [] → X .ncurve g) ∧
  (o ≠ [] → ∀ t r, DivOk p o t r → Ht (divB p.length o.length A B) t → Ht (divB p.length o.length A B) r → Q (.tup [.tup (nums t), .tup (nums r)]) g)
theorem dividedH_2 (h14 : Γ 14 = spOver) (h23 : Γ 23 = spCurveOf) (h32 : Γ 32 = spLessened) (h33 : Γ 33 = spScaled) (hg0 : gl 0 = .tup [.int 0, .int 1])
    {p o : List Rat} {A B : Nat} (hp : Ht A p) (ho : Ht B o) (htp : Tight p) (hto : Tight o) (hl : p.length ≤ 50) (hlo : o.length ≤ 50) (hB : 2 * divB p.length o.length A B + 10 ≤ 100000000) (h0 : o ≠ [])
    (h : ∀ t r, DivOk p o t r → Ht (divB p.length o.length A B) t → Ht (divB p.length o.length A B) r → Q (.tup [.tup (nums t), .tup (nums r)]) g) :
    mnS Γ gl sx_divided_2 { nx := fun _ _ => False, rt := fun d g' => ∃ g, g.le g' ∧ Q d g, ex := fun n x g' => ∃ g, g.le g' ∧ E n g } [some (.tup (nums p)), some (.tup (nums o)), none, none, none, none] g := by
  obtain ⟨Dp, dp0, dpA, dpH⟩ := hp
  obtain ⟨Do, do0, doB, doH⟩ := ho
  obtain ⟨o0, c, rfl⟩ : ∃ o0 c, o = o0 ++ [c] := by
    rcases List.eq_nil_or_concat o with rfl | ⟨q, a, rfl⟩
    · exact absurd rfl h0
    · exact ⟨q, a, List.concat_eq_append ..⟩
  have hc : c ≠ 0 := hto c (by simp)
  have k2 : coef (o0 ++ [c]) o0.length = c := coef_at (by simp)
  obtain ⟨Nc, ec, bc⟩ := doH o0.length
  have nc0 : Nc ≠ 0 := fun z => by
    rw [z, k2] at ec
    rcases Rat.mul_eq_zero.mp ec with z | z
    · exact hc z
    · exact int_ne do0 z
  have hpos : 0 < (o0 ++ [c]).length := List.length_pos_iff.mpr h0
  have hos2 := doH.szs do0 doB
  have hsc : sz c ≤ B := hos2 c (by simp)
  simp only [sx_divided_2, h14, h32, h33, hg0, mnS, dLamr, mn, Mn.of, Op.rd, Cm.rd, Bl.rd, Mt.rd, Mt.rc, dNop, dSeq, dExpr, dRet, dRetN, dIf, gD, dAsg, dPar, dPut, dRaise, dVar, dC, dBin, dUn, dNil, dCons, dTup, dLst, dTst, dAndT, dOrT, dNotT, dYes, dAnd, dOr, dNot, dChain, dCall, dCB, dMt, dLset, dSrev, dTry, dIsx, dEmp, dDic1, dStp, xsub, Ex.sub, dSlc, dPart, dNoPart, dIAny, dI1, dI2, dI3, dFor, dComp, compB, wipeD, startD, endsOf, at_mk, setAll, add_int, sub_int, mul_int, mul_tup, pow_int, mod_int, fdiv_int, lt_int, le_int, gt_int, ge_int, eq_int, neg_int, len_tup, len_scr, abs_int, max_int, min_int, int_int, int_bl, r1_int, r2_int, tuple_tup, list_tup, over_tup, rev_tup, enum_tup, zip_tup, slc_tup, add_tup, isi_any, ix_tup, ix_scr, ix_num0, ix_num1, len_num, num_0, num_1, atI_0, atI_1, atI_2, List.map, List.cons_append, List.nil_append, List.getElem?_cons_zero, List.getElem?_cons_succ, List.getElem?_nil, List.set_cons_zero, List.set_cons_succ, List.replicate, List.length_cons, List.length_nil, List.foldr_cons, List.foldr_nil, Nat.reduceAdd, Nat.reduceSub, List.replicate_succ, List.replicate_zero, G_up_same, decide_eq_true_eq, Bool.not_eq_true', Bool.false_eq_true, if_true, if_false, ite_true, ite_false, and_true, true_and, reduceCtorEq, Bool.not_true, Bool.not_false, Bool.false_bne, Bool.true_bne, sl0, sl1, sl2, sl3, sl4, nums_len, range_len]
  refine ⟨by omega, slN (by omega), fun s hs => ?_⟩
  refine comp_nums (fun _ => 0) (fun _ => trivial) (fun k x acc N hk hlt hN => hN) ?_
  rw [range_len]
  have en : (max 0 ((p.length : Int) - ((o0 ++ [c]).length : Int) + 1)).toNat = p.length + 1 - (o0 ++ [c]).length := by omega
  rw [en]
  have ez : (List.range (p.length + 1 - (o0 ++ [c]).length)).map (fun _ => (0 : Rat)) = List.replicate (p.length + 1 - (o0 ++ [c]).length) 0 := by rw [List.map_const', List.length_range]
  rw [ez]
  have l0 := G.le_new (xs := nums (List.replicate (p.length + 1 - (o0 ++ [c]).length) 0)) hs
  have hs0 : (g.up s (nums (List.replicate (p.length + 1 - (o0 ++ [c]).length) 0))) s = some (nums (List.replicate (p.length + 1 - (o0 ++ [c]).length) 0)) := G_up_same
  generalize g.up s (nums (List.replicate (p.length + 1 - (o0 ++ [c]).length) 0)) = g0 at l0 hs0
  refine ⟨fun m env g' => ∃ t r j o4, env = [some (.tup (nums p)), some (.tup (nums (o0 ++ [c]))), some (.ref s), some (.tup (nums r)), o4, none] ∧ m = r.length ∧ g.le g' ∧ g' s = some (nums t) ∧ t.length = p.length + 1 - (o0 ++ [c]).length ∧ Tight r ∧ (∀ x, ev p x = ev t x * ev (o0 ++ [c]) x + ev r x) ∧ r.length + j ≤ p.length ∧ j ≤ p.length + 1 - (o0 ++ [c]).length ∧ HtD (Dp * Nc ^ j) (A + j * (B + 1)) r ∧ HtD (Dp * Nc ^ (p.length + 1 - (o0 ++ [c]).length)) (divB p.length (o0 ++ [c]).length A B) t ∧ (∀ i, i + (o0 ++ [c]).length ≤ r.length → coef t i = 0) ∧ (r.length = p.length ∨ coef t (p.length - (o0 ++ [c]).length) ≠ 0),
    ⟨p.length, _, p, 0, _, rfl, rfl, l0, hs0, by simp, htp, fun x => by rw [ev_zeros]; grind, Nat.le_refl _, Nat.zero_le _, by rw [Int.pow_zero, Int.mul_one, Nat.zero_mul]; exact dpH, fun i => ⟨0, by rw [coef_zeros]; grind, Nat.two_pow_pos _⟩, fun i hi => ?_, .inl rfl⟩, ?_⟩
  · rw [coef_at (q := 0)]
    rw [List.getElem?_replicate, if_pos (by omega)]
  rintro m env g' ⟨t, r, j, o4, rfl, rfl, l, hst, htl, htr, he, hj, hjn, hrs, hts, hz, hnz⟩
  simp only [mnS, dLamr, mn, Mn.of, Op.rd, Cm.rd, Bl.rd, Mt.rd, Mt.rc, dNop, dSeq, dExpr, dRet, dRetN, dIf, gD, dAsg, dPar, dPut, dRaise, dVar, dC, dBin, dUn, dNil, dCons, dTup, dLst, dTst, dAndT, dOrT, dNotT, dYes, dAnd, dOr, dNot, dChain, dCall, dCB, dMt, dLset, dSrev, dTry, dIsx, dEmp, dDic1, dStp, xsub, Ex.sub, dSlc, dPart, dNoPart, dIAny, dI1, dI2, dI3, dFor, dComp, compB, wipeD, startD, endsOf, at_mk, setAll, add_int, sub_int, mul_int, mul_tup, pow_int, mod_int, fdiv_int, lt_int, le_int, gt_int, ge_int, eq_int, neg_int, len_tup, len_scr, abs_int, max_int, min_int, int_int, int_bl, r1_int, r2_int, tuple_tup, list_tup, over_tup, rev_tup, enum_tup, zip_tup, slc_tup, add_tup, isi_any, ix_tup, ix_scr, ix_num0, ix_num1, len_num, num_0, num_1, atI_0, atI_1, atI_2, List.map, List.cons_append, List.nil_append, List.getElem?_cons_zero, List.getElem?_cons_succ, List.getElem?_nil, List.set_cons_zero, List.set_cons_succ, List.replicate, List.length_cons, List.length_nil, List.foldr_cons, List.foldr_nil, Nat.reduceAdd, Nat.reduceSub, List.replicate_succ, List.replicate_zero, G_up_same, decide_eq_true_eq, Bool.not_eq_true', Bool.false_eq_true, if_true, if_false, ite_true, ite_false, and_true, true_and, reduceCtorEq, Bool.not_true, Bool.not_false, Bool.false_bne, Bool.true_bne, sl0, sl1, sl2, sl3, sl4, nums_len]
  split
  · rename_i hlt
    have hlt : (o0 ++ [c]).length ≤ r.length := by simp at hlt ⊢; omega
    obtain ⟨r0, a, rfl⟩ : ∃ r0 a, r = r0 ++ [a] := by
      rcases List.eq_nil_or_concat r with rfl | ⟨q, a, rfl⟩
      · simp at hlt
      · exact ⟨q, a, List.concat_eq_append ..⟩
    have ha : a ≠ 0 := htr a (by simp)
    have hdv : divB p.length (o0 ++ [c]).length A B = A + (p.length + 1 - (o0 ++ [c]).length) * (B + 1) := rfl
    have hrz := rj_nz j dp0 nc0
    have hrb := rj_lt (j := j) dpA bc
    have hrs2 := hrs.szs hrz (Nat.lt_of_lt_of_le hrb (Nat.pow_le_pow_right (by decide) (by rw [Nat.mul_succ]; omega)))
    have hY : A + (j + 1) * (B + 1) ≤ divB p.length (o0 ++ [c]).length A B := by
      rw [hdv]
      exact Nat.add_le_add_left (Nat.mul_le_mul_right _ (by omega)) _
    rw [Nat.succ_mul] at hY
    have hsa : sz a ≤ A + j * (B + 1) := hrs2 a (by simp)
    have hsp := sz_pos a
    have hsq := sz_div a c
    have er : nums (r0 ++ [a]) = nums r0 ++ [num a] := by simp [nums]
    have eo : nums (o0 ++ [c]) = nums o0 ++ [num c] := by simp [nums]
    obtain ⟨d, hd⟩ : ∃ d, (r0 ++ [a]).length = d + (o0 ++ [c]).length := ⟨(r0 ++ [a]).length - (o0 ++ [c]).length, by omega⟩
    have ed : (((r0 ++ [a]).length : Nat) : Int) - (((o0 ++ [c]).length : Nat) : Int) = (d : Int) := by omega
    have e1 : atI (nums (r0 ++ [a])) (-1) = some (num a) := by rw [er, atI_last]
    have e2 : atI (nums (o0 ++ [c])) (-1) = some (num c) := by rw [eo, atI_last]
    have hdt : d < t.length := by omega
    simp only [ed, e1, e2, c_over]
    refine ⟨by omega, fun z => absurd z hc, fun _ => ?_⟩
    rw [set_ref hst, nums_len, ixN_at rfl hdt]
    refine ⟨by simp, by omega, by omega, by decide, ?_⟩
    rw [nums_set, ix_ref G_up_same, atI_nums rfl (show (t.set d (a / c))[d]? = some (a / c) from List.getElem?_set_self hdt)]
    refine c_scaledB B (A + j * (B + 1) + B) hos2 (by omega) (by omega) (by omega) fun r1 hr1 hr1l hr1s hr1e => ?_
    rw [rep_zero, add_tup, nums_app]
    refine ⟨slN (by simp [nums_len]; omega), ?_⟩
    have hs2 : Szs (A + j * (B + 1) + 2 * B) (List.replicate d 0 ++ r1) := fun q hq => by
      rcases List.mem_append.mp hq with hq | hq
      · rw [List.eq_of_mem_replicate hq, sz_0]; omega
      · have := hr1s q hq; omega
    have hsl : (List.replicate d 0 ++ r1).length ≤ (r0 ++ [a]).length := by rw [List.length_append, List.length_replicate]; omega
    refine c_twoB (A + j * (B + 1)) (A + j * (B + 1) + 2 * B) hrs2 hs2 (by omega) (by omega) (show A + j * (B + 1) + (A + j * (B + 1) + 2 * B) + 1 ≤ 100000000 by omega) (by omega) (by omega) fun r2 hr2 hr2l hr2s hr2e => ?_
    have hr2l : r2.length ≤ max (r0 ++ [a]).length (List.replicate d 0 ++ r1).length := hr2l
    have hrl : (r0 ++ [a]).length = r0.length + 1 := by simp
    have hol : (o0 ++ [c]).length = o0.length + 1 := by simp
    have hlen : r2.length ≤ r0.length := by
      refine less_len hr2 (by omega) ?_ hr2e (by omega) (by omega)
      have k1 : coef (r0 ++ [a]) r0.length = a := coef_at (by simp)
      have k3 := coefs_eq (c := r1) (d := (o0 ++ [c]).map fun q => q * (a / c)) (fun x => by rw [hr1e, ev_map_mul]) o0.length
      have k4 : coef ((o0 ++ [c]).map fun q => q * (a / c)) o0.length = c * (a / c) := coef_at (by simp)
      rw [k1, show r0.length = d + o0.length by omega, coef_lift, k3, k4]
      grind
    have hg0 : g s = none := hs
    refine ⟨r2.length, by omega, t.set d (a / c), r2, j + 1, _, rfl, rfl, ?_, G_up_same, by rw [List.length_set]; exact htl, hr2, fun x => ?_, by omega, by omega, ?_, ?_, fun i hi => ?_, ?_⟩
    · intro y ys hy
      have : y ≠ s := fun z => by subst z; rw [hs] at hy; cases hy
      rw [G_up_ne this]; exact l _ _ hy
    · rw [ev_set _ _ _ _ hdt, hz d (by omega), hr2e, ev_lift, hr1e, he x]; grind
    · have k1 : coef (r0 ++ [a]) r0.length = a := coef_at (by simp)
      have := hrs.step (d := d) (m := r0.length) (k := o0.length) (s := a / c) (t := r2) doH ec (by rw [k1, k2]; grind) bc (fun x => by rw [hr2e, ev_lift, ev_lift, hr1e, ev_map_mul])
      rw [Int.pow_succ, ← Int.mul_assoc, Nat.succ_mul]
      exact this.mono (by omega)
    · have k1 : coef (r0 ++ [a]) r0.length = a := coef_at (by simp)
      obtain ⟨Na, ea, ba⟩ := hrs r0.length
      rw [k1] at ea
      rw [k2] at ec
      obtain ⟨m, hm⟩ : ∃ m, p.length + 1 - (o0 ++ [c]).length = j + 1 + m := ⟨p.length + 1 - (o0 ++ [c]).length - (j + 1), by omega⟩
      refine set_ht hts ⟨Na * Do * Nc ^ m, ?_, ?_⟩
      · rw [hm, Int.pow_add, Int.pow_succ, Rat.intCast_mul, Rat.intCast_mul, Rat.intCast_mul, Rat.intCast_mul (Na * Do) _, Rat.intCast_mul Na Do, ← ea, ← ec, Rat.intCast_mul]
        grind
      · rw [hdv, hm, Int.natAbs_mul, Int.natAbs_mul]
        have b1 := pw_pows m (pw_mul ba doB) bc
        refine Nat.lt_of_lt_of_le b1 (Nat.pow_le_pow_right (by decide) ?_)
        have e3 : m * B ≤ m * (B + 1) := Nat.mul_le_mul_left _ (by omega)
        rw [Nat.add_mul, Nat.add_mul, Nat.one_mul]
        omega
    · rw [coef_setne (by omega) (by omega)]; exact hz i (by omega)
    · right
      by_cases hdd : d = p.length - (o0 ++ [c]).length
      · rw [← hdd, coef_seteq hdt]
        intro z
        have : a = (a / c) * c := by grind
        rw [z] at this
        exact ha (by rw [this]; grind)
      · rcases hnz with hnz | hnz
        · exact absurd (by omega) hdd
        · rw [coef_setne hdd (by omega)]; exact hnz
  · rename_i hlt
    have hlt : r.length < (o0 ++ [c]).length := by simp at hlt ⊢; omega
    simp only [sx_divided_1, h23, mnS, dLamr, mn, Mn.of, Op.rd, Cm.rd, Bl.rd, Mt.rd, Mt.rc, dNop, dSeq, dExpr, dRet, dRetN, dIf, gD, dAsg, dPar, dPut, dRaise, dVar, dC, dBin, dUn, dNil, dCons, dTup, dLst, dTst, dAndT, dOrT, dNotT, dYes, dAnd, dOr, dNot, dChain, dCall, dCB, dMt, dLset, dSrev, dTry, dIsx, dEmp, dDic1, dStp, xsub, Ex.sub, dSlc, dPart, dNoPart, dIAny, dI1, dI2, dI3, dFor, dComp, compB, wipeD, startD, endsOf, at_mk, setAll, add_int, sub_int, mul_int, mul_tup, pow_int, mod_int, fdiv_int, lt_int, le_int, gt_int, ge_int, eq_int, neg_int, len_tup, len_scr, abs_int, max_int, min_int, int_int, int_bl, r1_int, r2_int, tuple_tup, list_tup, over_tup, rev_tup, enum_tup, zip_tup, slc_tup, add_tup, isi_any, ix_tup, ix_scr, ix_num0, ix_num1, len_num, num_0, num_1, atI_0, atI_1, atI_2, List.map, List.cons_append, List.nil_append, List.getElem?_cons_zero, List.getElem?_cons_succ, List.getElem?_nil, List.set_cons_zero, List.set_cons_succ, List.replicate, List.length_cons, List.length_nil, List.foldr_cons, List.foldr_nil, Nat.reduceAdd, Nat.reduceSub, List.replicate_succ, List.replicate_zero, G_up_same, decide_eq_true_eq, Bool.not_eq_true', Bool.false_eq_true, if_true, if_false, ite_true, ite_false, and_true, true_and, reduceCtorEq, Bool.not_true, Bool.not_false, Bool.false_bne, Bool.true_bne, sl0, sl1, sl2, sl3, sl4]
    have hmono : A + j * (B + 1) ≤ divB p.length (o0 ++ [c]).length A B := Nat.add_le_add_left (Nat.mul_le_mul_right _ hjn) _
    have htt : Tight t := fun q hq => by
      rcases hnz with hnz | hnz
      · have : t.length = 0 := by omega
        rw [List.eq_nil_of_length_eq_zero this] at hq
        cases hq
      · rcases List.eq_nil_or_concat t with rfl | ⟨z, w, rfl⟩
        · cases hq
        · rw [List.concat_eq_append] at *
          simp at hq
          subst hq
          have e : z.length = p.length - (o0 ++ [c]).length := by simp at htl ⊢; omega
          have : (z ++ [w])[p.length - (o0 ++ [c]).length]? = some w := by rw [← e]; simp
          rw [coef_at this] at hnz
          exact hnz
    refine c_curveOf hst ?_
    rw [trim_self htt]
    exact ⟨g, l, h t r ⟨htt, htr, htl, hlt, he⟩ ⟨Dp * Nc ^ (p.length + 1 - (o0 ++ [c]).length), rj_nz _ dp0 nc0, Nat.lt_of_lt_of_le (rj_lt dpA bc) (Nat.pow_le_pow_right (by decide) (by unfold divB; rw [Nat.mul_succ]; omega)), hts⟩ ⟨Dp * Nc ^ j, rj_nz j dp0 nc0, Nat.lt_of_lt_of_le (rj_lt dpA bc) (Nat.pow_le_pow_right (by decide) (Nat.le_trans (by rw [Nat.mul_succ]; omega) hmono)), hrs.mono hmono⟩⟩
theorem pure_divided__H (h14 : Γ 14 = spOver) (h23 : Γ 23 = spCurveOf) (h32 : Γ 32 = spLessened) (h33 : Γ 33 = spScaled) (hg0 : gl 0 = .tup [.int 0, .int 1]) (h : spDivH ds g Q E) : mnS Γ gl sx_divided (endsOf Q E) (startD ns_divided ds) g := by
  obtain ⟨p, o, A, B, rfl, hp, ho, htp, hto, hl, hlo, hB, hX, h⟩ := h
  simp only [sx_divided, mnS, dLamr, mn, Mn.of, Op.rd, Cm.rd, Bl.rd, Mt.rd, Mt.rc, dNop, dSeq, dExpr, dRet, dRetN, dIf, gD, dAsg, dPar, dPut, dRaise, dVar, dC, dBin, dUn, dNil, dCons, dTup, dLst, dTst, dAndT, dOrT, dNotT, dYes, dAnd, dOr, dNot, dChain, dCall, dCB, dMt, dLset, dSrev, dTry, dIsx, dEmp, dDic1, dStp, xsub, Ex.sub, dSlc, dPart, dNoPart, dIAny, dI1, dI2, dI3, dFor, dComp, compB, wipeD, startD, endsOf, at_mk, setAll, add_int, sub_int, mul_int, mul_tup, pow_int, mod_int, fdiv_int, lt_int, le_int, gt_int, ge_int, eq_int, neg_int, len_tup, len_scr, abs_int, max_int, min_int, int_int, int_bl, r1_int, r2_int, tuple_tup, list_tup, over_tup, rev_tup, enum_tup, zip_tup, slc_tup, add_tup, isi_any, ix_tup, ix_scr, ix_num0, ix_num1, len_num, num_0, num_1, atI_0, atI_1, atI_2, List.map, List.cons_append, List.nil_append, List.getElem?_cons_zero, List.getElem?_cons_succ, List.getElem?_nil, List.set_cons_zero, List.set_cons_succ, List.replicate, List.length_cons, List.length_nil, List.foldr_cons, List.foldr_nil, Nat.reduceAdd, Nat.reduceSub, List.replicate_succ, List.replicate_zero, G_up_same, decide_eq_true_eq, Bool.not_eq_true', Bool.false_eq_true, if_true, if_false, ite_true, ite_false, and_true, true_and, reduceCtorEq, Bool.not_true, Bool.not_false, Bool.false_bne, Bool.true_bne, sl0, sl1, sl2, sl3, sl4]
  refine eq_tup (q := []) (fun e => ?_) fun e => ?_
  · try simp only [mnS, dLamr, mn, Mn.of, Op.rd, Cm.rd, Bl.rd, Mt.rd, Mt.rc, dNop, dSeq, dExpr, dRet, dRetN, dIf, gD, dAsg, dPar, dPut, dRaise, dVar, dC, dBin, dUn, dNil, dCons, dTup, dLst, dTst, dAndT, dOrT, dNotT, dYes, dAnd, dOr, dNot, dChain, dCall, dCB, dMt, dLset, dSrev, dTry, dIsx, dEmp, dDic1, dStp, xsub, Ex.sub, dSlc, dPart, dNoPart, dIAny, dI1, dI2, dI3, dFor, dComp, compB, wipeD, startD, endsOf, at_mk, setAll, add_int, sub_int, mul_int, mul_tup, pow_int, mod_int, fdiv_int, lt_int, le_int, gt_int, ge_int, eq_int, neg_int, len_tup, len_scr, abs_int, max_int, min_int, int_int, int_bl, r1_int, r2_int, tuple_tup, list_tup, over_tup, rev_tup, enum_tup, zip_tup, slc_tup, add_tup, isi_any, ix_tup, ix_scr, ix_num0, ix_num1, len_num, num_0, num_1, atI_0, atI_1, atI_2, List.map, List.cons_append, List.nil_append, List.getElem?_cons_zero, List.getElem?_cons_succ, List.getElem?_nil, List.set_cons_zero, List.set_cons_succ, List.replicate, List.length_cons, List.length_nil, List.foldr_cons, List.foldr_nil, Nat.reduceAdd, Nat.reduceSub, List.replicate_succ, List.replicate_zero, G_up_same, decide_eq_true_eq, Bool.not_eq_true', Bool.false_eq_true, if_true, if_false, ite_true, ite_false, and_true, true_and, reduceCtorEq, Bool.not_true, Bool.not_false, Bool.false_bne, Bool.true_bne, sl0, sl1, sl2, sl3, sl4]
    exact ⟨_, G.le_refl _, hX e⟩
  · try simp only [mnS, dLamr, mn, Mn.of, Op.rd, Cm.rd, Bl.rd, Mt.rd, Mt.rc, dNop, dSeq, dExpr, dRet, dRetN, dIf, gD, dAsg, dPar, dPut, dRaise, dVar, dC, dBin, dUn, dNil, dCons, dTup, dLst, dTst, dAndT, dOrT, dNotT, dYes, dAnd, dOr, dNot, dChain, dCall, dCB, dMt, dLset, dSrev, dTry, dIsx, dEmp, dDic1, dStp, xsub, Ex.sub, dSlc, dPart, dNoPart, dIAny, dI1, dI2, dI3, dFor, dComp, compB, wipeD, startD, endsOf, at_mk, setAll, add_int, sub_int, mul_int, mul_tup, pow_int, mod_int, fdiv_int, lt_int, le_int, gt_int, ge_int, eq_int, neg_int, len_tup, len_scr, abs_int, max_int, min_int, int_int, int_bl, r1_int, r2_int, tuple_tup, list_tup, over_tup, rev_tup, enum_tup, zip_tup, slc_tup, add_tup, isi_any, ix_tup, ix_scr, ix_num0, ix_num1, len_num, num_0, num_1, atI_0, atI_1, atI_2, List.map, List.cons_append, List.nil_append, List.getElem?_cons_zero, List.getElem?_cons_succ, List.getElem?_nil, List.set_cons_zero, List.set_cons_succ, List.replicate, List.length_cons, List.length_nil, List.foldr_cons, List.foldr_nil, Nat.reduceAdd, Nat.reduceSub, List.replicate_succ, List.replicate_zero, G_up_same, decide_eq_true_eq, Bool.not_eq_true', Bool.false_eq_true, if_true, if_false, ite_true, ite_false, and_true, true_and, reduceCtorEq, Bool.not_true, Bool.not_false, Bool.false_bne, Bool.true_bne, sl0, sl1, sl2, sl3, sl4]
    exact dividedH_2 h14 h23 h32 h33 hg0 hp ho htp hto hl hlo hB e (h e)
theorem c_divH {p o : List Rat} (A B : Nat) (hp : Ht A p) (ho : Ht B o) (htp : Tight p) (hto : Tight o) (hl : p.length ≤ 50) (hlo : o.length ≤ 50) (hB : 2 * divB p.length o.length A B + 10 ≤ 100000000) (h0 : o ≠ [])
    (k : ∀ t r, DivOk p o t r → Ht (divB p.length o.length A B) t → Ht (divB p.length o.length A B) r → Q (.tup [.tup (nums t), .tup (nums r)]) g) : spDivH [.tup (nums p), .tup (nums o)] g Q X :=
  ⟨p, o, A, B, rfl, hp, ho, htp, hto, hl, hlo, hB, fun e => absurd e h0, fun _ => k⟩
end
end PP
namespace PP
open PySem PySem.Spec PyProof.Rows L2
theorem Ht.add {A B : Nat} {p q r : List Rat} (hp : Ht A p) (hq : Ht B q) (e : ∀ x, ev r x = ev p x + ev q x) : Ht (A + B + 1) r := by
  obtain ⟨D, a1, a2, a3⟩ := hp
  obtain ⟨E, b1, b2, b3⟩ := hq
  refine ⟨D * E, mul_nz a1 b1, ?_, fun i => ?_⟩
  · rw [Int.natAbs_mul, Nat.pow_succ]
    have := pw_mul a2 b2
    omega
  · obtain ⟨N, e1, h1⟩ := a3 i
    obtain ⟨M, e2, h2⟩ := b3 i
    refine ⟨N * E + M * D, ?_, ?_⟩
    · rw [coef_add e i, Rat.intCast_add, Rat.intCast_mul, Rat.intCast_mul, Rat.intCast_mul, ← e1, ← e2]
      grind
    · refine pw_add ?_ ?_
      · rw [Int.natAbs_mul]; exact pw_mul h1 b2
      · rw [Int.natAbs_mul, Nat.add_comm]; exact pw_mul h2 a2
end PP
namespace PP
open PySem PySem.Spec PyProof.Rows L2
def plB (a b : Nat) : Nat → Nat
  | 0 => a
  | 1 => b
  | k + 2 => plB a b k + 2 * (plB a b (k + 1) + 1)
def vlB (a b : Nat) : Nat → Nat
  | 0 => 1
  | 1 => 1
  | k + 2 => vlB a b k + vlB a b (k + 1) + plB a b (k + 2) + 6
theorem plB_up (a b k : Nat) : plB a b (k + 1) + 1 ≤ plB a b (k + 2) := by rw [plB]; omega
theorem plB_mono {a b k d : Nat} : plB a b (k + 1) ≤ plB a b (k + 1 + d) := by
  induction d with
  | zero => exact Nat.le_refl _
  | succ d ih =>
    have := plB_up a b (k + d)
    rw [show k + 1 + (d + 1) = k + d + 2 by omega]
    rw [show k + d + 1 = k + 1 + d by omega] at this
    omega
theorem plB_step {a b k : Nat} : ∀ {d : Nat}, 1 ≤ d → plB a b k + (d + 1) * (plB a b (k + 1) + 1) ≤ plB a b (k + 1 + d)
  | 0, h => absurd h (by decide)
  | 1, _ => by rw [show k + 1 + 1 = k + 2 by omega, plB]; exact Nat.le_refl _
  | d + 2, _ => by
    have h1 := plB_step (a := a) (b := b) (k := k) (d := d + 1) (by omega)
    have h2 : plB a b (k + 1 + (d + 2)) = plB a b (k + 1 + d) + 2 * (plB a b (k + 1 + (d + 1)) + 1) := by
      rw [show k + 1 + (d + 2) = (k + 1 + d) + 2 by omega, plB, show k + 1 + d + 1 = k + 1 + (d + 1) by omega]
    have h3 : plB a b (k + 1) ≤ plB a b (k + 1 + (d + 1)) := plB_mono
    have h4 : (d + 2 + 1) * (plB a b (k + 1) + 1) = (d + 1 + 1) * (plB a b (k + 1) + 1) + (plB a b (k + 1) + 1) := Nat.succ_mul ..
    rw [h2, h4]
    omega
theorem vlB_up (a b k : Nat) : vlB a b k ≤ vlB a b (k + 1) := by
  cases k with
  | zero => exact Nat.le_refl _
  | succ k => rw [show k + 1 + 1 = k + 2 by omega, vlB]; omega
theorem vlB_mono {a b k j : Nat} (h : k ≤ j) : vlB a b k ≤ vlB a b j := by
  induction h with
  | refl => exact Nat.le_refl _
  | step _ ih => exact Nat.le_trans ih (vlB_up ..)
theorem vlB_step {a b k d : Nat} (h : 1 ≤ d) : vlB a b k + (plB a b (k + 1 + d) + vlB a b (k + 1) + 4) + 1 ≤ vlB a b (k + 1 + d) := by
  obtain ⟨e, rfl⟩ : ∃ e, d = e + 1 := ⟨d - 1, by omega⟩
  have h1 : vlB a b k ≤ vlB a b (k + e) := vlB_mono (by omega)
  have h2 : vlB a b (k + 1) ≤ vlB a b (k + e + 1) := vlB_mono (by omega)
  rw [show k + 1 + (e + 1) = k + e + 2 by omega, vlB]
  omega
def dvB (a b k d : Nat) : Nat := plB a b k + (d + 1) * (plB a b (k + 1) + 1)
structure PairR (ks ys : List Rat) (w : Nat) (r v : List Rat) : Prop where
  tr : Tight r
  tv : Tight v
  v0 : v ≠ []
  lr : r.length ≤ w
  lv : v.length + w ≤ ks.length + 1
  on : ∀ p ∈ ks.zip ys, ev r p.1 = ev v p.1 * p.2
  bez : ∃ ra va : List Rat, ∃ s : Rat, (s = 1 ∨ s = -1) ∧ (∀ x, ev ra x * ev v x - ev r x * ev va x = s * lpr ks x) ∧ ∀ p ∈ ks.zip ys, ev ra p.1 = ev va p.1 * p.2
structure PairS (ks ys : List Rat) (h0 h1 k : Nat) (ra va r v : List Rat) : Prop where
  tra : Tight ra
  tr : Tight r
  tva : Tight va
  tv : Tight v
  lt : r.length < ra.length
  idx : k + ra.length ≤ ks.length + 1
  lv : v.length + ra.length = ks.length + 2
  lva : va.length < v.length
  onA : ∀ p ∈ ks.zip ys, ev ra p.1 = ev va p.1 * p.2
  on : ∀ p ∈ ks.zip ys, ev r p.1 = ev v p.1 * p.2
  bez : ∃ s : Rat, (s = 1 ∨ s = -1) ∧ (∀ x, ev ra x * ev v x - ev r x * ev va x = s * lpr ks x)
  hra : Ht (plB h0 h1 k) ra
  hr : Ht (plB h0 h1 (k + 1)) r
  hva : Ht (vlB h0 h1 k) va
  hv : Ht (vlB h0 h1 (k + 1)) v
theorem PairS.fin {ks ys ra va r v : List Rat} {h0 h1 k w : Nat} (h : PairS ks ys h0 h1 k ra va r v) (h2 : w < ra.length) (h3 : r.length ≤ w) : PairR ks ys w r v where
  tr := h.tr
  tv := h.tv
  v0 := fun z => by have := h.lva; rw [z] at this; simp at this
  lr := h3
  lv := by have := h.lv; omega
  on := h.on
  bez := by
    obtain ⟨s, h1, h2⟩ := h.bez
    exact ⟨ra, va, s, h1, h2, h.onA⟩
theorem PairS.step {ks ys ra va r v t r2 v2 : List Rat} {h0 h1 k : Nat} (hk : ks.length ≤ 12) (h : PairS ks ys h0 h1 k ra va r v) (hr0 : r ≠ []) (hd : DivOk ra r t r2) (ht : Ht (dvB h0 h1 k (ra.length - r.length)) t) (hr2 : Ht (dvB h0 h1 k (ra.length - r.length)) r2)
    (tv2 : Tight v2) (ev2 : ∀ x, ev v2 x = ev va x - ev t x * ev v x) : PairS ks ys h0 h1 (k + (ra.length - r.length)) r v r2 v2 := by
  have hlt := h.lt
  have hidx := h.idx
  have hlv := h.lv
  have hlva := h.lva
  have hd1 : 1 ≤ ra.length - r.length := by omega
  have hvl : 0 < v.length := by omega
  have htl := hd.lt
  have tlen : t.length = ra.length - r.length + 1 := by omega
  -- the length of v2
  have hv2 : v2.length = t.length + v.length - 1 := by
    obtain ⟨c, hc, hcl, hce, hlast⟩ := tight_prod (d := t) (o := v) (fun z => by rw [z] at tlen; simp at tlen) (fun z => by rw [z] at hvl; simp at hvl) hd.tt h.tv
    have hcl : c.length = t.length + v.length - 1 := by omega
    have e1 : ∀ x, ev c x = ev va x - ev v2 x := fun x => by rw [hce, ev2]; grind
    have e2 : ∀ x, ev v2 x = ev va x - ev c x := fun x => by rw [hce, ev2]
    have up : v2.length ≤ t.length + v.length - 1 := by
      rcases Nat.lt_or_ge (t.length + v.length - 1) v2.length with z | z
      · have k1 := coef_sub e2 (v2.length - 1)
        rw [coef_out (c := va) (by omega), coef_out (c := c) (by omega)] at k1
        rcases List.eq_nil_or_concat v2 with rfl | ⟨q, b, rfl⟩
        · simp at z
        · rw [List.concat_eq_append] at *
          have k2 : coef (q ++ [b]) ((q ++ [b]).length - 1) = b := coef_at (by simp)
          rw [k2] at k1
          exact absurd (by rw [k1]; grind) (tv2 b (by simp))
      · exact z
    have dn : c.length ≤ v2.length := by
      rcases Nat.lt_or_ge v2.length c.length with z | z
      · have k1 := coef_sub e1 (c.length - 1)
        rw [coef_out (c := va) (by omega), coef_out (c := v2) (by omega)] at k1
        rcases List.eq_nil_or_concat c with rfl | ⟨q, b, rfl⟩
        · simp at z
        · rw [List.concat_eq_append] at *
          have k2 : coef (q ++ [b]) ((q ++ [b]).length - 1) = b := coef_at (by simp)
          rw [k2] at k1
          exact absurd (by rw [k1]; grind) (hc b (by simp))
      · exact z
    omega
  have hp1 := plB_step (a := h0) (b := h1) (k := k) hd1
  have hR : dvB h0 h1 k (ra.length - r.length) ≤ plB h0 h1 (k + 1 + (ra.length - r.length)) := hp1
  have e1 : k + 1 + (ra.length - r.length) = k + (ra.length - r.length) + 1 := by omega
  refine ⟨h.tr, hd.tr, h.tv, tv2, hd.lr, by omega, by omega, by omega, h.on, fun p hp => ?_, ?_, ?_, ?_, ?_, ?_⟩
  · have a1 := h.onA p hp
    have a2 := h.on p hp
    have a3 := hd.e p.1
    rw [ev2]
    grind
  · obtain ⟨s, hs, hb⟩ := h.bez
    refine ⟨-s, ?_, fun x => ?_⟩
    · rcases hs with rfl | rfl
      · exact .inr rfl
      · exact .inl (by grind)
    · have a3 := hd.e x
      have a4 := hb x
      rw [ev2]
      grind
  · have : plB h0 h1 (k + 1) ≤ plB h0 h1 (k + 1 + (ra.length - r.length - 1)) := plB_mono
    rw [show k + 1 + (ra.length - r.length - 1) = k + (ra.length - r.length) by omega] at this
    exact h.hr.mono this
  · rw [← e1]; exact hr2.mono hR
  · exact h.hv.mono (vlB_mono (by omega))
  · have m1 := Ht.mul (m := 4) (r := pmul t v) ht h.hv (show t.length < 16 by omega) (fun x => pmul_ev t v x)
    have m2 := h.hva.sub (r := v2) m1 (fun x => by rw [ev2, pmul_ev])
    have m3 := vlB_step (a := h0) (b := h1) (k := k) hd1
    rw [← e1]
    exact m2.mono (by omega)
end PP
namespace PP
open PySem PySem.Spec PyProof.Rows L2
theorem ev_htD {D : Int} {h bx : Nat} {x : Rat} (hx : sz x ≤ bx) : ∀ {p : List Rat}, HtD D h p → ∃ N : Int, ev p x * ((D * (x.den : Int) ^ p.length : Int) : Rat) = (N : Rat) ∧ N.natAbs < 2 ^ (h + p.length * (bx + 1))
  | [], _ => ⟨0, by rw [ev_nil]; grind, Nat.two_pow_pos _⟩
  | a :: p, hp => by
    have hp' : HtD D h p := fun i => by
      have := hp (i + 1)
      rw [coef_cons_succ] at this
      exact this
    obtain ⟨Na, ea, ba⟩ := hp 0
    rw [coef_cons_zero] at ea
    obtain ⟨N, e, b⟩ := ev_htD hx hp'
    have h1 := Nat.lt_of_lt_of_le (sz_num x) (Nat.pow_le_pow_right (by decide) hx)
    have h2 : (x.den : Int).natAbs < 2 ^ bx := by simpa using Nat.lt_of_lt_of_le (sz_den x) (Nat.pow_le_pow_right (by decide) hx)
    have hd : (x.den : Int) ≠ 0 := by have := x.den_nz; omega
    have h3 : ((x.den : Int) : Rat) ≠ 0 := int_ne hd
    have h4 : x * ((x.den : Int) : Rat) = (x.num : Rat) := by
      have h5 : x = Rat.divInt x.num x.den := (Rat.num_divInt_den x).symm
      rw [Rat.divInt_eq_div] at h5
      conv => lhs; arg 1; rw [h5]
      grind
    refine ⟨Na * (x.den : Int) ^ (p.length + 1) + x.num * N, ?_, ?_⟩
    · rw [ev_cons, List.length_cons, Rat.intCast_add, Rat.intCast_mul, Rat.intCast_mul, Rat.intCast_mul, ← ea, ← e, ← h4, Int.pow_succ, Rat.intCast_mul, Rat.intCast_mul]
      grind
    · rw [List.length_cons, show h + (p.length + 1) * (bx + 1) = (h + p.length * (bx + 1) + bx) + 1 by rw [Nat.succ_mul]; omega]
      refine pw_add ?_ ?_
      · rw [Int.natAbs_mul]
        refine Nat.lt_of_lt_of_le (pw_pows (p.length + 1) ba h2) (Nat.pow_le_pow_right (by decide) ?_)
        rw [Nat.succ_mul, Nat.mul_succ]; omega
      · rw [Int.natAbs_mul, Nat.mul_comm]; exact pw_mul b h1
theorem ev_sz {D : Int} {h bx : Nat} {x : Rat} {p : List Rat} (h0 : D ≠ 0) (hD : D.natAbs < 2 ^ h) (hp : HtD D h p) (hx : sz x ≤ bx) : sz (ev p x) ≤ h + p.length * (bx + 1) := by
  obtain ⟨N, e, b⟩ := ev_htD hx hp
  have hd : (x.den : Int) ≠ 0 := by have := x.den_nz; omega
  have h2 : (x.den : Int).natAbs < 2 ^ bx := by simpa using Nat.lt_of_lt_of_le (sz_den x) (Nat.pow_le_pow_right (by decide) hx)
  refine sz_fr e (rj_nz _ h0 hd) (Nat.lt_of_lt_of_le (rj_lt hD h2) (Nat.pow_le_pow_right (by decide) ?_)) b
  rw [Nat.mul_succ]; omega
theorem coef_drop (p : List Rat) (k i : Nat) : coef (p.drop k) i = coef p (k + i) := by
  unfold coef
  rw [List.getD_eq_getElem?_getD, List.getD_eq_getElem?_getD, List.getElem?_drop]
theorem coef_take (p : List Rat) (k i : Nat) : coef (p.take k) i = if i < k then coef p i else 0 := by
  unfold coef
  rw [List.getD_eq_getElem?_getD, List.getD_eq_getElem?_getD, List.getElem?_take]
  split <;> rfl
theorem HtD.drop {D : Int} {h : Nat} {p : List Rat} (a : HtD D h p) (k : Nat) : HtD D h (p.drop k) := fun i => by rw [coef_drop]; exact a _
theorem HtD.take {D : Int} {h : Nat} {p : List Rat} (a : HtD D h p) (k : Nat) : HtD D h (p.take k) := fun i => by
  rw [coef_take]
  split
  · exact a _
  · exact ⟨0, by grind, Nat.two_pow_pos _⟩
theorem Ht.ev {h bx : Nat} {x : Rat} {p : List Rat} (a : Ht h p) (hx : sz x ≤ bx) : sz (PP.ev p x) ≤ h + p.length * (bx + 1) := by
  obtain ⟨D, a1, a2, a3⟩ := a
  exact ev_sz a1 a2 a3 hx
end PP
namespace PP
open PySem PySem.Spec PyProof.Rows L2
end PP
namespace PP
open PySem PySem.Spec PyProof.Rows L2
theorem div_exact {r v t z c : List Rat} (tc : Tight c) (tv : Tight v) (v0 : v ≠ []) (tr : Tight r) (hd : DivOk r v t z) (h : ∀ x, ev r x = ev v x * ev c x) : z = [] ∧ t = c := by
  have hvl := List.length_pos_iff.mpr v0
  have hd2 : DivOk r v c [] := by
    refine ⟨tc, (fun q hq => by cases hq), ?_, (by simpa using hvl), fun x => by rw [h, ev_nil]; grind⟩
    by_cases hc : c = []
    · subst hc
      have : r = [] := tight_congr tr tight_nil fun x => by rw [h, ev_nil]; grind
      subst this
      simp; omega
    · obtain ⟨d, hdt, hdl, hde, -⟩ := tight_prod v0 hc tv tc
      have : d = r := tight_congr hdt tr fun x => by rw [hde, h]
      subst this
      omega
  obtain ⟨e1, e2⟩ := DivOk.uniq tv hd hd2
  exact ⟨e2, e1⟩
end PP
namespace PP
open PySem PySem.Spec PyProof.Rows L2
end PP
namespace PP
open PySem PySem.Spec PyProof.Rows L2
end PP
namespace PP
open PySem PySem.Spec PyProof.Rows L2
end PP
namespace PP
open PySem PySem.Spec PyProof.Rows L2
end PP
namespace PP
open PySem PySem.Spec PyProof.Rows L2
end PP
namespace PP
open PySem PySem.Spec PyProof.Rows L2
end PP
namespace PP
open PySem PySem.Spec PyProof.Rows L2
end PP
namespace PP
open PySem PySem.Spec PyProof.Rows L2
end PP
namespace PP
open PySem PySem.Spec PyProof.Rows L2
def sx_ask_curve : SX :=
  (.ite (.cmp .eq (.v 0) (.tup .nil))
    (.raise .ncurve .nil)
    .nil .nil)
abbrev ns_ask_curve : List Str := ["curve"]
def sx_lone_part : SX :=
  (.expr (.call 185 (.cons (.v 0) .nil))
  (.ret (.ix (.call 44 (.cons (.v 0) (.cons (.call 50 (.cons (.v 0) (.cons (.call 41 (.cons (.v 0) .nil)) .nil))) .nil))) (.int 0)) .nil))
abbrev ns_lone_part : List Str := ["curve"]
theorem Ht.monic1 {M : Nat} {p : List Rat} (h : Ht M p) (ht : Tight p) (h0 : p ≠ []) : Ht M (PP.monic p) := by
  obtain ⟨d, a, rfl, ha⟩ := tight_ne h0 ht
  have e : coef (d ++ [a]) d.length = a := coef_at (by simp)
  refine Ht.monic (k := d.length) h (by rw [e]; exact ha) fun x => ?_
  rw [monic_ev, e]
  simp
def comM (M a b N : Nat) : Bool := (List.range (N + 1)).all fun k => (List.range (N + 1)).all fun d => d == 0 || decide (N < k + d + 1) || decide (dvB a b k d ≤ M)
theorem comM_at {M a b N k d : Nat} (h : comM M a b N = true) (h1 : 1 ≤ d) (h2 : k + d + 1 ≤ N) : dvB a b k d ≤ M := by
  have := List.all_eq_true.mp (List.all_eq_true.mp h k (List.mem_range.mpr (by omega))) d (List.mem_range.mpr (by omega))
  simp only [Bool.or_eq_true, beq_iff_eq, decide_eq_true_eq] at this
  rcases this with (h | h) | h
  · omega
  · omega
  · exact h
section
variable {Γ : Nat → SpD} {gl : Nat → D} {ds : List D} {g : G} {Q : QD} {E X : XD}
def spComL : SpD := fun ds g Q _ => ∃ p o A B M, ds = [.tup (nums p), .tup (nums o)] ∧ Ht A p ∧ Ht B o ∧ Tight p ∧ Tight o ∧ p.length ≤ 50 ∧ o.length ≤ 50 ∧ ¬ (p = [] ∧ o = []) ∧ A ≤ M ∧ B ≤ M ∧ M ≤ 48000000 ∧ divB p.length o.length A B ≤ M ∧ comM M B (divB p.length o.length A B) o.length = true ∧
  ∀ d, GcdOk p o d → Ht M d → Q (.tup (nums d)) g
theorem pure_common_part__L {E : XD} (h44 : Γ 44 = spDivH) (h49 : Γ 49 = spLastOne) (h : spComL ds g Q E) : mnS Γ gl sx_common_part (endsOf Q E) (startD ns_common_part ds) g := by
  obtain ⟨p, o, A, B, M, rfl, hp, ho, htp, hto, hlp, hlo, hne, hA, hB, hM, hd1, hco, h⟩ := h
  have main : mnS Γ gl sx_common_part_2 (endsOf Q E) [some (.tup (nums p)), some (.tup (nums o))] g := by
    simp only [sx_common_part_2, sx_common_part_1, h44, h49, mnS, dLamr, mn, Mn.of, Op.rd, Cm.rd, Bl.rd, Mt.rd, Mt.rc, dNop, dSeq, dExpr, dRet, dRetN, dIf, gD, dAsg, dPar, dPut, dRaise, dVar, dC, dBin, dUn, dNil, dCons, dTup, dLst, dTst, dAndT, dOrT, dNotT, dYes, dAnd, dOr, dNot, dChain, dCall, dCB, dMt, dLset, dSrev, dTry, dIsx, dEmp, dDic1, dStp, xsub, Ex.sub, dSlc, dPart, dNoPart, dIAny, dI1, dI2, dI3, dFor, dComp, compB, wipeD, startD, endsOf, at_mk, setAll, add_int, sub_int, mul_int, mul_tup, pow_int, mod_int, fdiv_int, lt_int, le_int, gt_int, ge_int, eq_int, neg_int, len_tup, len_scr, abs_int, max_int, min_int, int_int, int_bl, r1_int, r2_int, tuple_tup, list_tup, over_tup, rev_tup, enum_tup, zip_tup, slc_tup, add_tup, isi_any, ix_tup, ix_scr, ix_num0, ix_num1, len_num, num_0, num_1, atI_0, atI_1, atI_2, List.map, List.cons_append, List.nil_append, List.getElem?_cons_zero, List.getElem?_cons_succ, List.getElem?_nil, List.set_cons_zero, List.set_cons_succ, List.replicate, List.length_cons, List.length_nil, List.foldr_cons, List.foldr_nil, Nat.reduceAdd, Nat.reduceSub, List.replicate_succ, List.replicate_zero, G_up_same, decide_eq_true_eq, Bool.not_eq_true', Bool.false_eq_true, if_true, if_false, ite_true, ite_false, and_true, true_and, reduceCtorEq, Bool.not_true, Bool.not_false, Bool.false_bne, Bool.true_bne, sl0, sl1, sl2, sl3, sl4]
    refine ⟨fun n env g' => ∃ p' o', env = [some (.tup (nums p')), some (.tup (nums o'))] ∧ g' = g ∧ n = o'.length ∧ Tight p' ∧ Tight o' ∧ p'.length ≤ 50 ∧ o'.length ≤ 50 ∧ (∀ c, Dv c p' ∧ Dv c o' ↔ Dv c p ∧ Dv c o) ∧ ¬ (p' = [] ∧ o' = []) ∧
        ((p' = p ∧ o' = o) ∨ ∃ k, k + p'.length ≤ o.length ∧ o'.length < p'.length ∧ Ht (plB B (divB p.length o.length A B) k) p' ∧ Ht (plB B (divB p.length o.length A B) (k + 1)) o' ∧ Ht M p'),
      ⟨_, p, o, rfl, rfl, rfl, htp, hto, hlp, hlo, fun c => Iff.rfl, hne, .inl ⟨rfl, rfl⟩⟩, ?_⟩
    rintro n env g' ⟨p', o', rfl, rfl, rfl, htp, hto, hlp, hlo, hcd, hne, hst⟩
    try simp only [mnS, dLamr, mn, Mn.of, Op.rd, Cm.rd, Bl.rd, Mt.rd, Mt.rc, dNop, dSeq, dExpr, dRet, dRetN, dIf, gD, dAsg, dPar, dPut, dRaise, dVar, dC, dBin, dUn, dNil, dCons, dTup, dLst, dTst, dAndT, dOrT, dNotT, dYes, dAnd, dOr, dNot, dChain, dCall, dCB, dMt, dLset, dSrev, dTry, dIsx, dEmp, dDic1, dStp, xsub, Ex.sub, dSlc, dPart, dNoPart, dIAny, dI1, dI2, dI3, dFor, dComp, compB, wipeD, startD, endsOf, at_mk, setAll, add_int, sub_int, mul_int, mul_tup, pow_int, mod_int, fdiv_int, lt_int, le_int, gt_int, ge_int, eq_int, neg_int, len_tup, len_scr, abs_int, max_int, min_int, int_int, int_bl, r1_int, r2_int, tuple_tup, list_tup, over_tup, rev_tup, enum_tup, zip_tup, slc_tup, add_tup, isi_any, ix_tup, ix_scr, ix_num0, ix_num1, len_num, num_0, num_1, atI_0, atI_1, atI_2, List.map, List.cons_append, List.nil_append, List.getElem?_cons_zero, List.getElem?_cons_succ, List.getElem?_nil, List.set_cons_zero, List.set_cons_succ, List.replicate, List.length_cons, List.length_nil, List.foldr_cons, List.foldr_nil, Nat.reduceAdd, Nat.reduceSub, List.replicate_succ, List.replicate_zero, G_up_same, decide_eq_true_eq, Bool.not_eq_true', Bool.false_eq_true, if_true, if_false, ite_true, ite_false, and_true, true_and, reduceCtorEq, Bool.not_true, Bool.not_false, Bool.false_bne, Bool.true_bne, sl0, sl1, sl2, sl3, sl4]
    refine eq_tup (q := []) (fun e => ?_) fun e => ?_
    · subst e
      try simp only [mnS, dLamr, mn, Mn.of, Op.rd, Cm.rd, Bl.rd, Mt.rd, Mt.rc, dNop, dSeq, dExpr, dRet, dRetN, dIf, gD, dAsg, dPar, dPut, dRaise, dVar, dC, dBin, dUn, dNil, dCons, dTup, dLst, dTst, dAndT, dOrT, dNotT, dYes, dAnd, dOr, dNot, dChain, dCall, dCB, dMt, dLset, dSrev, dTry, dIsx, dEmp, dDic1, dStp, xsub, Ex.sub, dSlc, dPart, dNoPart, dIAny, dI1, dI2, dI3, dFor, dComp, compB, wipeD, startD, endsOf, at_mk, setAll, add_int, sub_int, mul_int, mul_tup, pow_int, mod_int, fdiv_int, lt_int, le_int, gt_int, ge_int, eq_int, neg_int, len_tup, len_scr, abs_int, max_int, min_int, int_int, int_bl, r1_int, r2_int, tuple_tup, list_tup, over_tup, rev_tup, enum_tup, zip_tup, slc_tup, add_tup, isi_any, ix_tup, ix_scr, ix_num0, ix_num1, len_num, num_0, num_1, atI_0, atI_1, atI_2, List.map, List.cons_append, List.nil_append, List.getElem?_cons_zero, List.getElem?_cons_succ, List.getElem?_nil, List.set_cons_zero, List.set_cons_succ, List.replicate, List.length_cons, List.length_nil, List.foldr_cons, List.foldr_nil, Nat.reduceAdd, Nat.reduceSub, List.replicate_succ, List.replicate_zero, G_up_same, decide_eq_true_eq, Bool.not_eq_true', Bool.false_eq_true, if_true, if_false, ite_true, ite_false, and_true, true_and, reduceCtorEq, Bool.not_true, Bool.not_false, Bool.false_bne, Bool.true_bne, sl0, sl1, sl2, sl3, sl4]
      have h0 : p' ≠ [] := fun z => hne ⟨z, rfl⟩
      have hmd := monic_dv htp h0
      have hsz : Ht M p' := by
        rcases hst with ⟨rfl, _⟩ | ⟨k, _, _, _, _, hk2⟩
        · exact hp.mono hA
        · exact hk2
      refine ⟨p', M, rfl, hsz.szs, htp, h0, by omega, by omega, ?_⟩
      refine ⟨_, G.le_refl _, h _ ⟨monic_tight htp h0, monic_last htp h0, fun c => ?_⟩ (hsz.monic1 htp h0)⟩
      rw [← hcd c]
      exact ⟨fun q => ⟨dv_trans q hmd.1, dv_nil⟩, fun q => dv_trans q.1 hmd.2⟩
    · try simp only [mnS, dLamr, mn, Mn.of, Op.rd, Cm.rd, Bl.rd, Mt.rd, Mt.rc, dNop, dSeq, dExpr, dRet, dRetN, dIf, gD, dAsg, dPar, dPut, dRaise, dVar, dC, dBin, dUn, dNil, dCons, dTup, dLst, dTst, dAndT, dOrT, dNotT, dYes, dAnd, dOr, dNot, dChain, dCall, dCB, dMt, dLset, dSrev, dTry, dIsx, dEmp, dDic1, dStp, xsub, Ex.sub, dSlc, dPart, dNoPart, dIAny, dI1, dI2, dI3, dFor, dComp, compB, wipeD, startD, endsOf, at_mk, setAll, add_int, sub_int, mul_int, mul_tup, pow_int, mod_int, fdiv_int, lt_int, le_int, gt_int, ge_int, eq_int, neg_int, len_tup, len_scr, abs_int, max_int, min_int, int_int, int_bl, r1_int, r2_int, tuple_tup, list_tup, over_tup, rev_tup, enum_tup, zip_tup, slc_tup, add_tup, isi_any, ix_tup, ix_scr, ix_num0, ix_num1, len_num, num_0, num_1, atI_0, atI_1, atI_2, List.map, List.cons_append, List.nil_append, List.getElem?_cons_zero, List.getElem?_cons_succ, List.getElem?_nil, List.set_cons_zero, List.set_cons_succ, List.replicate, List.length_cons, List.length_nil, List.foldr_cons, List.foldr_nil, Nat.reduceAdd, Nat.reduceSub, List.replicate_succ, List.replicate_zero, G_up_same, decide_eq_true_eq, Bool.not_eq_true', Bool.false_eq_true, if_true, if_false, ite_true, ite_false, and_true, true_and, reduceCtorEq, Bool.not_true, Bool.not_false, Bool.false_bne, Bool.true_bne, sl0, sl1, sl2, sl3, sl4]
      have hol := List.length_pos_iff.mpr e
      have next : ∀ A' B' : Nat, Ht A' p' → Ht B' o' → 2 * divB p'.length o'.length A' B' + 10 ≤ 100000000 → B' ≤ M → (∀ r, r.length < o'.length → Ht (divB p'.length o'.length A' B') r → ∃ k, k + o'.length ≤ o.length ∧ Ht (plB B (divB p.length o.length A B) k) o' ∧ Ht (plB B (divB p.length o.length A B) (k + 1)) r) →
          spDivH [.tup (nums p'), .tup (nums o')] g' (fun d g1 => dIx d (.int 1) g1 fun x g2 => ∃ n', n' < o'.length ∧ ∃ p'_1 o'_1, [some (D.tup (nums o')), some x] = [some (.tup (nums p'_1)), some (.tup (nums o'_1))] ∧ g2 = g' ∧ n' = o'_1.length ∧ Tight p'_1 ∧ Tight o'_1 ∧ p'_1.length ≤ 50 ∧ o'_1.length ≤ 50 ∧ (∀ c, Dv c p'_1 ∧ Dv c o'_1 ↔ Dv c p ∧ Dv c o) ∧ ¬ (p'_1 = [] ∧ o'_1 = []) ∧
            ((p'_1 = p ∧ o'_1 = o) ∨ ∃ k, k + p'_1.length ≤ o.length ∧ o'_1.length < p'_1.length ∧ Ht (plB B (divB p.length o.length A B) k) p'_1 ∧ Ht (plB B (divB p.length o.length A B) (k + 1)) o'_1 ∧ Ht M p'_1)) (fun n g => ∃ g_1 : G, g_1.le g ∧ E n g_1) := by
        intro A' B' hA' hB' hd hB49 hk
        refine c_divH A' B' hA' hB' htp hto hlp hlo hd e fun t r hdv ht hr => ?_
        try simp only [mnS, dLamr, mn, Mn.of, Op.rd, Cm.rd, Bl.rd, Mt.rd, Mt.rc, dNop, dSeq, dExpr, dRet, dRetN, dIf, gD, dAsg, dPar, dPut, dRaise, dVar, dC, dBin, dUn, dNil, dCons, dTup, dLst, dTst, dAndT, dOrT, dNotT, dYes, dAnd, dOr, dNot, dChain, dCall, dCB, dMt, dLset, dSrev, dTry, dIsx, dEmp, dDic1, dStp, xsub, Ex.sub, dSlc, dPart, dNoPart, dIAny, dI1, dI2, dI3, dFor, dComp, compB, wipeD, startD, endsOf, at_mk, setAll, add_int, sub_int, mul_int, mul_tup, pow_int, mod_int, fdiv_int, lt_int, le_int, gt_int, ge_int, eq_int, neg_int, len_tup, len_scr, abs_int, max_int, min_int, int_int, int_bl, r1_int, r2_int, tuple_tup, list_tup, over_tup, rev_tup, enum_tup, zip_tup, slc_tup, add_tup, isi_any, ix_tup, ix_scr, ix_num0, ix_num1, len_num, num_0, num_1, atI_0, atI_1, atI_2, List.map, List.cons_append, List.nil_append, List.getElem?_cons_zero, List.getElem?_cons_succ, List.getElem?_nil, List.set_cons_zero, List.set_cons_succ, List.replicate, List.length_cons, List.length_nil, List.foldr_cons, List.foldr_nil, Nat.reduceAdd, Nat.reduceSub, List.replicate_succ, List.replicate_zero, G_up_same, decide_eq_true_eq, Bool.not_eq_true', Bool.false_eq_true, if_true, if_false, ite_true, ite_false, and_true, true_and, reduceCtorEq, Bool.not_true, Bool.not_false, Bool.false_bne, Bool.true_bne, sl0, sl1, sl2, sl3, sl4]
        obtain ⟨k, k1, k2, k3⟩ := hk r hdv.lr hr
        have hrl := hdv.lr
        refine ⟨r.length, hrl, o', r, rfl, rfl, hto, hdv.tr, hlo, by omega, fun c => ?_, fun z => e z.1, .inr ⟨k, k1, hrl, k2, k3, hB'.mono hB49⟩⟩
        rw [← hcd c]
        exact ⟨fun q => ⟨dv_add hdv.e q.2 q.1, q.1⟩, fun q => ⟨q.2, dv_sub hdv.e q.1 q.2⟩⟩
      rcases hst with ⟨rfl, rfl⟩ | ⟨k, k1, k2, k3, k4, k5⟩
      · exact next A B hp ho (by omega) hB fun r hrl hr => ⟨0, by omega, ho, hr⟩
      · have hd0 := comM_at (k := k) (d := p'.length - o'.length) hco (by omega) (by omega)
        have hdv : divB p'.length o'.length (plB B (divB p.length o.length A B) k) (plB B (divB p.length o.length A B) (k + 1)) = dvB B (divB p.length o.length A B) k (p'.length - o'.length) := by
          unfold divB dvB
          rw [show p'.length + 1 - o'.length = p'.length - o'.length + 1 by omega]
        have hb1 : plB B (divB p.length o.length A B) (k + 1) ≤ dvB B (divB p.length o.length A B) k (p'.length - o'.length) := by
          unfold dvB
          rw [Nat.succ_mul]
          omega
        have hst := plB_step (a := B) (b := divB p.length o.length A B) (k := k) (d := p'.length - o'.length) (by omega)
        refine next _ _ k3 k4 (by rw [hdv]; omega) (by omega) fun r hrl hr => ⟨k + (p'.length - o'.length), by omega, ?_, ?_⟩
        · have := plB_mono (a := B) (b := divB p.length o.length A B) (k := k) (d := p'.length - o'.length - 1)
          rw [show k + 1 + (p'.length - o'.length - 1) = k + (p'.length - o'.length) by omega] at this
          exact k4.mono this
        · rw [hdv] at hr
          rw [show k + (p'.length - o'.length) + 1 = k + 1 + (p'.length - o'.length) by omega]
          exact hr.mono hst
  simp only [sx_common_part, mnS, dLamr, mn, Mn.of, Op.rd, Cm.rd, Bl.rd, Mt.rd, Mt.rc, dNop, dSeq, dExpr, dRet, dRetN, dIf, gD, dAsg, dPar, dPut, dRaise, dVar, dC, dBin, dUn, dNil, dCons, dTup, dLst, dTst, dAndT, dOrT, dNotT, dYes, dAnd, dOr, dNot, dChain, dCall, dCB, dMt, dLset, dSrev, dTry, dIsx, dEmp, dDic1, dStp, xsub, Ex.sub, dSlc, dPart, dNoPart, dIAny, dI1, dI2, dI3, dFor, dComp, compB, wipeD, startD, endsOf, at_mk, setAll, add_int, sub_int, mul_int, mul_tup, pow_int, mod_int, fdiv_int, lt_int, le_int, gt_int, ge_int, eq_int, neg_int, len_tup, len_scr, abs_int, max_int, min_int, int_int, int_bl, r1_int, r2_int, tuple_tup, list_tup, over_tup, rev_tup, enum_tup, zip_tup, slc_tup, add_tup, isi_any, ix_tup, ix_scr, ix_num0, ix_num1, len_num, num_0, num_1, atI_0, atI_1, atI_2, List.map, List.cons_append, List.nil_append, List.getElem?_cons_zero, List.getElem?_cons_succ, List.getElem?_nil, List.set_cons_zero, List.set_cons_succ, List.replicate, List.length_cons, List.length_nil, List.foldr_cons, List.foldr_nil, Nat.reduceAdd, Nat.reduceSub, List.replicate_succ, List.replicate_zero, G_up_same, decide_eq_true_eq, Bool.not_eq_true', Bool.false_eq_true, if_true, if_false, ite_true, ite_false, and_true, true_and, reduceCtorEq, Bool.not_true, Bool.not_false, Bool.false_bne, Bool.true_bne, sl0, sl1, sl2, sl3, sl4]
  refine eq_tup (q := []) (fun e => ?_) fun e => ?_
  · try simp only [mnS, dLamr, mn, Mn.of, Op.rd, Cm.rd, Bl.rd, Mt.rd, Mt.rc, dNop, dSeq, dExpr, dRet, dRetN, dIf, gD, dAsg, dPar, dPut, dRaise, dVar, dC, dBin, dUn, dNil, dCons, dTup, dLst, dTst, dAndT, dOrT, dNotT, dYes, dAnd, dOr, dNot, dChain, dCall, dCB, dMt, dLset, dSrev, dTry, dIsx, dEmp, dDic1, dStp, xsub, Ex.sub, dSlc, dPart, dNoPart, dIAny, dI1, dI2, dI3, dFor, dComp, compB, wipeD, startD, endsOf, at_mk, setAll, add_int, sub_int, mul_int, mul_tup, pow_int, mod_int, fdiv_int, lt_int, le_int, gt_int, ge_int, eq_int, neg_int, len_tup, len_scr, abs_int, max_int, min_int, int_int, int_bl, r1_int, r2_int, tuple_tup, list_tup, over_tup, rev_tup, enum_tup, zip_tup, slc_tup, add_tup, isi_any, ix_tup, ix_scr, ix_num0, ix_num1, len_num, num_0, num_1, atI_0, atI_1, atI_2, List.map, List.cons_append, List.nil_append, List.getElem?_cons_zero, List.getElem?_cons_succ, List.getElem?_nil, List.set_cons_zero, List.set_cons_succ, List.replicate, List.length_cons, List.length_nil, List.foldr_cons, List.foldr_nil, Nat.reduceAdd, Nat.reduceSub, List.replicate_succ, List.replicate_zero, G_up_same, decide_eq_true_eq, Bool.not_eq_true', Bool.false_eq_true, if_true, if_false, ite_true, ite_false, and_true, true_and, reduceCtorEq, Bool.not_true, Bool.not_false, Bool.false_bne, Bool.true_bne, sl0, sl1, sl2, sl3, sl4]
    refine eq_tup (q := []) (fun e2 => absurd ⟨e, e2⟩ hne) fun e2 => ?_
    try simp only [mnS, dLamr, mn, Mn.of, Op.rd, Cm.rd, Bl.rd, Mt.rd, Mt.rc, dNop, dSeq, dExpr, dRet, dRetN, dIf, gD, dAsg, dPar, dPut, dRaise, dVar, dC, dBin, dUn, dNil, dCons, dTup, dLst, dTst, dAndT, dOrT, dNotT, dYes, dAnd, dOr, dNot, dChain, dCall, dCB, dMt, dLset, dSrev, dTry, dIsx, dEmp, dDic1, dStp, xsub, Ex.sub, dSlc, dPart, dNoPart, dIAny, dI1, dI2, dI3, dFor, dComp, compB, wipeD, startD, endsOf, at_mk, setAll, add_int, sub_int, mul_int, mul_tup, pow_int, mod_int, fdiv_int, lt_int, le_int, gt_int, ge_int, eq_int, neg_int, len_tup, len_scr, abs_int, max_int, min_int, int_int, int_bl, r1_int, r2_int, tuple_tup, list_tup, over_tup, rev_tup, enum_tup, zip_tup, slc_tup, add_tup, isi_any, ix_tup, ix_scr, ix_num0, ix_num1, len_num, num_0, num_1, atI_0, atI_1, atI_2, List.map, List.cons_append, List.nil_append, List.getElem?_cons_zero, List.getElem?_cons_succ, List.getElem?_nil, List.set_cons_zero, List.set_cons_succ, List.replicate, List.length_cons, List.length_nil, List.foldr_cons, List.foldr_nil, Nat.reduceAdd, Nat.reduceSub, List.replicate_succ, List.replicate_zero, G_up_same, decide_eq_true_eq, Bool.not_eq_true', Bool.false_eq_true, if_true, if_false, ite_true, ite_false, and_true, true_and, reduceCtorEq, Bool.not_true, Bool.not_false, Bool.false_bne, Bool.true_bne, sl0, sl1, sl2, sl3, sl4]
    exact main
  · try simp only [mnS, dLamr, mn, Mn.of, Op.rd, Cm.rd, Bl.rd, Mt.rd, Mt.rc, dNop, dSeq, dExpr, dRet, dRetN, dIf, gD, dAsg, dPar, dPut, dRaise, dVar, dC, dBin, dUn, dNil, dCons, dTup, dLst, dTst, dAndT, dOrT, dNotT, dYes, dAnd, dOr, dNot, dChain, dCall, dCB, dMt, dLset, dSrev, dTry, dIsx, dEmp, dDic1, dStp, xsub, Ex.sub, dSlc, dPart, dNoPart, dIAny, dI1, dI2, dI3, dFor, dComp, compB, wipeD, startD, endsOf, at_mk, setAll, add_int, sub_int, mul_int, mul_tup, pow_int, mod_int, fdiv_int, lt_int, le_int, gt_int, ge_int, eq_int, neg_int, len_tup, len_scr, abs_int, max_int, min_int, int_int, int_bl, r1_int, r2_int, tuple_tup, list_tup, over_tup, rev_tup, enum_tup, zip_tup, slc_tup, add_tup, isi_any, ix_tup, ix_scr, ix_num0, ix_num1, len_num, num_0, num_1, atI_0, atI_1, atI_2, List.map, List.cons_append, List.nil_append, List.getElem?_cons_zero, List.getElem?_cons_succ, List.getElem?_nil, List.set_cons_zero, List.set_cons_succ, List.replicate, List.length_cons, List.length_nil, List.foldr_cons, List.foldr_nil, Nat.reduceAdd, Nat.reduceSub, List.replicate_succ, List.replicate_zero, G_up_same, decide_eq_true_eq, Bool.not_eq_true', Bool.false_eq_true, if_true, if_false, ite_true, ite_false, and_true, true_and, reduceCtorEq, Bool.not_true, Bool.not_false, Bool.false_bne, Bool.true_bne, sl0, sl1, sl2, sl3, sl4]
    exact main
end
end PP
namespace PP
open PySem PySem.Spec PyProof.Rows L2
theorem szs_ht {B : Nat} : ∀ {b : List Rat}, Szs B b → Ht (b.length * B + 1) b
  | [], _ => Ht.nil.mono (by simp)
  | q :: b, h => by
    obtain ⟨D, a1, a2, a3⟩ := szs_ht (b := b) fun z hz => h z (List.mem_cons_of_mem _ hz)
    have hq : sz q ≤ B := h q (List.mem_cons_self ..)
    have h1 := Nat.lt_of_lt_of_le (sz_num q) (Nat.pow_le_pow_right (by decide) hq)
    have h2 := Nat.lt_of_lt_of_le (sz_den q) (Nat.pow_le_pow_right (by decide) hq)
    have hd : (q.den : Int) ≠ 0 := by have := q.den_nz; omega
    have e : (q :: b).length * B + 1 = b.length * B + 1 + B := by rw [List.length_cons, Nat.succ_mul]; omega
    rw [e]
    refine ⟨D * q.den, mul_nz a1 hd, ?_, fun i => ?_⟩
    · rw [Int.natAbs_mul]; exact pw_mul a2 (by simpa using h2)
    · match i with
      | 0 =>
        refine ⟨q.num * D, ?_, by rw [Int.natAbs_mul, Nat.add_comm (b.length * B + 1) B]; exact pw_mul h1 a2⟩
        rw [coef_cons_zero, Rat.intCast_mul, Rat.intCast_mul]
        have : q * ((q.den : Int) : Rat) = (q.num : Rat) := by
          have h3 : ((q.den : Int) : Rat) ≠ 0 := int_ne hd
          have h4 : q = Rat.divInt q.num q.den := (Rat.num_divInt_den q).symm
          rw [Rat.divInt_eq_div] at h4
          conv => lhs; rw [h4]
          grind
        rw [← this]; grind
      | i + 1 =>
        obtain ⟨N, e1, b1⟩ := a3 i
        refine ⟨N * q.den, ?_, by rw [Int.natAbs_mul]; exact pw_mul b1 (by simpa using h2)⟩
        rw [coef_cons_succ, Rat.intCast_mul, Rat.intCast_mul, ← e1]; grind
theorem Ht.slope {A : Nat} {c : List Rat} (h : Ht A c) (hl : c.length ≤ 12) : Ht (A + 4) (trim (dl c)) := by
  obtain ⟨D, a1, a2, a3⟩ := h
  refine Ht.congr (p := dl c) ⟨D, a1, Nat.lt_of_lt_of_le a2 (Nat.pow_le_pow_right (by decide) (by omega)), fun i => ?_⟩ fun x => (ev_trim _ _).symm
  by_cases hi : i < c.length - 1
  · obtain ⟨N, e1, b1⟩ := a3 (i + 1)
    refine ⟨((i + 1 : Nat) : Int) * N, ?_, ?_⟩
    · unfold dl
      rw [coef_range hi, Rat.intCast_mul, ← e1, Rat.intCast_natCast]; grind
    · rw [Int.natAbs_mul, Nat.pow_add, Nat.mul_comm (2 ^ A)]
      exact Nat.mul_lt_mul'' (by omega) b1
  · exact ⟨0, by rw [coef_out (by simp [dl]; omega)]; grind, Nat.two_pow_pos _⟩
def loneOk (n A M : Nat) : Bool := decide (A + 4 ≤ M) && decide (M ≤ 38000000) && decide (2 * (A + n * (M + 1)) + 10 ≤ 100000000) && (List.range n).all fun m => decide (divB n m A (A + 4) ≤ M) && comM M (A + 4) (divB n m A (A + 4)) m
def LoneIs (c t : List Rat) : Prop := ∃ d r, GcdOk c (trim (dl c)) d ∧ DivOk c d t r
section
variable {Γ : Nat → SpD} {gl : Nat → D} {ds : List D} {g : G} {Q : QD} {E X : XD}
def spAskC : SpD := fun ds g Q X => ∃ c : List Rat, ds = [.tup (nums c)] ∧ (c = [] → X .ncurve g) ∧ (c ≠ [] → Q .non g)
theorem pure_ask_curve (h : spAskC ds g Q E) : mnS Γ gl sx_ask_curve (endsOf Q E) (startD ns_ask_curve ds) g := by
  obtain ⟨c, rfl, h1, h2⟩ := h
  simp only [sx_ask_curve, mnS, dLamr, mn, Mn.of, Op.rd, Cm.rd, Bl.rd, Mt.rd, Mt.rc, dNop, dSeq, dExpr, dRet, dRetN, dIf, gD, dAsg, dPar, dPut, dRaise, dVar, dC, dBin, dUn, dNil, dCons, dTup, dLst, dTst, dAndT, dOrT, dNotT, dYes, dAnd, dOr, dNot, dChain, dCall, dCB, dMt, dLset, dSrev, dTry, dIsx, dEmp, dDic1, dStp, xsub, Ex.sub, dSlc, dPart, dNoPart, dIAny, dI1, dI2, dI3, dFor, dComp, compB, wipeD, startD, endsOf, at_mk, setAll, add_int, sub_int, mul_int, mul_tup, pow_int, mod_int, fdiv_int, lt_int, le_int, gt_int, ge_int, eq_int, neg_int, len_tup, len_scr, abs_int, max_int, min_int, int_int, int_bl, r1_int, r2_int, tuple_tup, list_tup, over_tup, rev_tup, enum_tup, zip_tup, slc_tup, add_tup, isi_any, ix_tup, ix_scr, ix_num0, ix_num1, len_num, num_0, num_1, atI_0, atI_1, atI_2, List.map, List.cons_append, List.nil_append, List.getElem?_cons_zero, List.getElem?_cons_succ, List.getElem?_nil, List.set_cons_zero, List.set_cons_succ, List.replicate, List.length_cons, List.length_nil, List.foldr_cons, List.foldr_nil, Nat.reduceAdd, Nat.reduceSub, List.replicate_succ, List.replicate_zero, G_up_same, decide_eq_true_eq, Bool.not_eq_true', Bool.false_eq_true, if_true, if_false, ite_true, ite_false, and_true, true_and, reduceCtorEq, Bool.not_true, Bool.not_false, Bool.false_bne, Bool.true_bne, sl0, sl1, sl2, sl3, sl4]
  refine eq_tup (q := []) (fun e => ?_) fun e => ?_
  · try simp only [mnS, dLamr, mn, Mn.of, Op.rd, Cm.rd, Bl.rd, Mt.rd, Mt.rc, dNop, dSeq, dExpr, dRet, dRetN, dIf, gD, dAsg, dPar, dPut, dRaise, dVar, dC, dBin, dUn, dNil, dCons, dTup, dLst, dTst, dAndT, dOrT, dNotT, dYes, dAnd, dOr, dNot, dChain, dCall, dCB, dMt, dLset, dSrev, dTry, dIsx, dEmp, dDic1, dStp, xsub, Ex.sub, dSlc, dPart, dNoPart, dIAny, dI1, dI2, dI3, dFor, dComp, compB, wipeD, startD, endsOf, at_mk, setAll, add_int, sub_int, mul_int, mul_tup, pow_int, mod_int, fdiv_int, lt_int, le_int, gt_int, ge_int, eq_int, neg_int, len_tup, len_scr, abs_int, max_int, min_int, int_int, int_bl, r1_int, r2_int, tuple_tup, list_tup, over_tup, rev_tup, enum_tup, zip_tup, slc_tup, add_tup, isi_any, ix_tup, ix_scr, ix_num0, ix_num1, len_num, num_0, num_1, atI_0, atI_1, atI_2, List.map, List.cons_append, List.nil_append, List.getElem?_cons_zero, List.getElem?_cons_succ, List.getElem?_nil, List.set_cons_zero, List.set_cons_succ, List.replicate, List.length_cons, List.length_nil, List.foldr_cons, List.foldr_nil, Nat.reduceAdd, Nat.reduceSub, List.replicate_succ, List.replicate_zero, G_up_same, decide_eq_true_eq, Bool.not_eq_true', Bool.false_eq_true, if_true, if_false, ite_true, ite_false, and_true, true_and, reduceCtorEq, Bool.not_true, Bool.not_false, Bool.false_bne, Bool.true_bne, sl0, sl1, sl2, sl3, sl4]
    exact ⟨_, G.le_refl _, h1 e⟩
  · try simp only [mnS, dLamr, mn, Mn.of, Op.rd, Cm.rd, Bl.rd, Mt.rd, Mt.rc, dNop, dSeq, dExpr, dRet, dRetN, dIf, gD, dAsg, dPar, dPut, dRaise, dVar, dC, dBin, dUn, dNil, dCons, dTup, dLst, dTst, dAndT, dOrT, dNotT, dYes, dAnd, dOr, dNot, dChain, dCall, dCB, dMt, dLset, dSrev, dTry, dIsx, dEmp, dDic1, dStp, xsub, Ex.sub, dSlc, dPart, dNoPart, dIAny, dI1, dI2, dI3, dFor, dComp, compB, wipeD, startD, endsOf, at_mk, setAll, add_int, sub_int, mul_int, mul_tup, pow_int, mod_int, fdiv_int, lt_int, le_int, gt_int, ge_int, eq_int, neg_int, len_tup, len_scr, abs_int, max_int, min_int, int_int, int_bl, r1_int, r2_int, tuple_tup, list_tup, over_tup, rev_tup, enum_tup, zip_tup, slc_tup, add_tup, isi_any, ix_tup, ix_scr, ix_num0, ix_num1, len_num, num_0, num_1, atI_0, atI_1, atI_2, List.map, List.cons_append, List.nil_append, List.getElem?_cons_zero, List.getElem?_cons_succ, List.getElem?_nil, List.set_cons_zero, List.set_cons_succ, List.replicate, List.length_cons, List.length_nil, List.foldr_cons, List.foldr_nil, Nat.reduceAdd, Nat.reduceSub, List.replicate_succ, List.replicate_zero, G_up_same, decide_eq_true_eq, Bool.not_eq_true', Bool.false_eq_true, if_true, if_false, ite_true, ite_false, and_true, true_and, reduceCtorEq, Bool.not_true, Bool.not_false, Bool.false_bne, Bool.true_bne, sl0, sl1, sl2, sl3, sl4]
    exact ⟨_, G.le_refl _, h2 e⟩
end
end PP
namespace PP
open PySem PySem.Spec PyProof.Rows L2
end PP
namespace PP
open PySem PySem.Spec PyProof.Rows L2
def qb (x y l h : Rat) : List Rat := [(l - x) * (l - y), ((l - x) * (h - y) + (l - y) * (h - x)) / 2, (h - x) * (h - y)]
end PP
namespace PP
open PySem PySem.Spec PyProof.Rows L2
section
variable {Γ : Nat → SpD} {gl : Nat → D} {ds : List D} {g : G} {Q : QD} {X : XD}
def xx (u : Nat) : Rat := Rat.divInt (u : Int) 196608
end
end PP
namespace PP
open PySem PySem.Spec PyProof.Rows L2
def Cop (a b : List Rat) : Prop := ∃ u v : List Rat, ∀ x, ev u x * ev a x + ev v x * ev b x = 1
theorem Cop.symm {a b : List Rat} (h : Cop a b) : Cop b a := by
  obtain ⟨u, v, h⟩ := h
  exact ⟨v, u, fun x => by have := h x; grind⟩
theorem Cop.mul {a b c m : List Rat} (h : Cop a b) (h' : Cop a c) (e : ∀ x, ev m x = ev b x * ev c x) : Cop a m := by
  obtain ⟨u, v, h⟩ := h
  obtain ⟨u', v', h'⟩ := h'
  refine ⟨padd (pmul u (padd (pmul u' a) (pmul v' c))) (pmul u' (pmul v b)), pmul v v', fun x => ?_⟩
  have h1 := h x
  have h2 := h' x
  simp only [padd_ev, pmul_ev, e]
  have h3 : (ev u x * ev a x + ev v x * ev b x) * (ev u' x * ev a x + ev v' x * ev c x) = 1 := by rw [h1, h2]; grind
  grind
theorem Cop.add {a b m : List Rat} (z : List Rat) (h : Cop a b) (e : ∀ x, ev m x = ev b x + ev a x * ev z x) : Cop a m := by
  obtain ⟨u, v, h⟩ := h
  refine ⟨padd u (pneg (pmul v z)), v, fun x => ?_⟩
  have h1 := h x
  simp only [padd_ev, pneg_ev, pmul_ev, e]
  grind
theorem Cop.scale {a b m : List Rat} {k : Rat} (hk : k ≠ 0) (h : Cop a b) (e : ∀ x, ev m x = ev b x * k) : Cop a m := by
  obtain ⟨u, v, h⟩ := h
  refine ⟨u, v.map fun q => q * (1 / k), fun x => ?_⟩
  have h1 := h x
  rw [ev_map_mul, e]
  have : ev v x * (1 / k) * (ev b x * k) = ev v x * ev b x := by grind
  rw [this]; exact h1
theorem Cop.congr {a b a' b' : List Rat} (h : Cop a b) (e : ∀ x, ev a' x = ev a x) (e' : ∀ x, ev b' x = ev b x) : Cop a' b' := by
  obtain ⟨u, v, h⟩ := h
  exact ⟨u, v, fun x => by rw [e, e']; exact h x⟩
theorem Cop.one {a b : List Rat} {k : Rat} (hk : k ≠ 0) (e : ∀ x, ev b x = k) : Cop a b := ⟨[], [1 / k], fun x => by rw [ev_nil, ev_cons, ev_nil, e]; grind⟩
theorem Cop.dv {a b d : List Rat} (h : Cop a b) (h1 : Dv d a) (h2 : Dv d b) : Dv d [1] := by
  obtain ⟨u, v, h⟩ := h
  obtain ⟨q, hq⟩ := h1
  obtain ⟨s, hs⟩ := h2
  refine ⟨padd (pmul u q) (pmul v s), fun x => ?_⟩
  have := h x
  rw [padd_ev, pmul_ev, pmul_ev, ev_cons, ev_nil]
  rw [hq, hs] at this
  grind
theorem Cop.gcd {a b : List Rat} (h : Cop a b) : GcdOk a b [1] := by
  refine ⟨fun q hq => by cases hq; decide, rfl, fun d => ⟨fun ⟨q, hq⟩ => ⟨⟨pmul q a, fun x => ?_⟩, ⟨pmul q b, fun x => ?_⟩⟩, fun z => h.dv z.1 z.2⟩⟩
  · have := hq x; rw [ev_cons, ev_nil] at this; rw [pmul_ev]; grind
  · have := hq x; rw [ev_cons, ev_nil] at this; rw [pmul_ev]; grind
theorem gcd_of {c s D L M : List Rat} (ht : Tight D) (hm : D.getLast? = some 1) (hc : ∀ x, ev c x = ev D x * ev L x) (hs : ∀ x, ev s x = ev D x * ev M x) (h : Cop L M) : GcdOk c s D := by
  refine ⟨ht, hm, fun d => ⟨fun ⟨q, hq⟩ => ⟨⟨pmul q L, fun x => by rw [hc, hq, pmul_ev]; grind⟩, ⟨pmul q M, fun x => by rw [hs, hq, pmul_ev]; grind⟩⟩, fun ⟨⟨q, hq⟩, ⟨r, hr⟩⟩ => ?_⟩⟩
  obtain ⟨u, v, h⟩ := h
  refine ⟨padd (pmul u q) (pmul v r), fun x => ?_⟩
  have h1 := h x
  have h2 := hq x
  have h3 := hr x
  rw [hc] at h2
  rw [hs] at h3
  rw [padd_ev, pmul_ev, pmul_ev]
  have : ev D x = ev D x * (ev u x * ev L x + ev v x * ev M x) := by rw [h1]; grind
  grind
theorem lone_of {c t D L M : List Rat} (hct : Tight c) (hL : Tight L) (ht : Tight D) (hm : D.getLast? = some 1) (hc : ∀ x, ev c x = ev D x * ev L x) (hs : ∀ x, evd c x = ev D x * ev M x) (h : Cop L M) (hl : LoneIs c t) : t = L := by
  obtain ⟨d, r, hd, hv⟩ := hl
  have hg : GcdOk c (trim (dl c)) D := gcd_of ht hm hc (fun x => by rw [ev_trim, dl_ev, hs]) h
  have e : d = D := hd.uniq hg fun _ => Iff.rfl
  subst e
  exact (div_exact hL hd.t hd.ne hct hv hc).2
theorem div_ex {b : List Rat} (hb : Tight b) (hb0 : b ≠ []) : ∀ (n : Nat) (a : List Rat), Tight a → a.length ≤ n → ∃ q r : List Rat, Tight r ∧ r.length < b.length ∧ ∀ x, ev a x = ev q x * ev b x + ev r x
  | 0, a, ha, hl => by
    have : a = [] := List.length_eq_zero_iff.mp (by omega)
    subst this
    exact ⟨[], [], tight_nil, List.length_pos_iff.mpr hb0, fun x => by rw [ev_nil]; grind⟩
  | n + 1, a, ha, hl => by
    by_cases hlt : a.length < b.length
    · exact ⟨[], a, ha, hlt, fun x => by rw [ev_nil]; grind⟩
    · have hpb := List.length_pos_iff.mpr hb0
      have ha0 : a ≠ [] := fun z => by rw [z] at hlt; simp at hlt; exact hb0 (List.length_eq_zero_iff.mp (by simp [hlt]))
      obtain ⟨a1, al, ea, hal⟩ := tight_ne ha0 ha
      obtain ⟨b1, be, eb, hbe⟩ := tight_ne hb0 hb
      have hla : a.length = a1.length + 1 := by rw [ea]; simp
      have hlb : b.length = b1.length + 1 := by rw [eb]; simp
      let s := List.replicate (a1.length - b1.length) (0 : Rat) ++ b.map fun q => q * (al / be)
      have hsl : s.length = a1.length + 1 := by simp [s]; omega
      have hse : ∀ x, ev s x = x ^ (a1.length - b1.length) * (ev b x * (al / be)) := fun x => by rw [show s = _ from rfl, ev_lift, ev_map_mul]
      have hsc : coef s a1.length = al := by
        have h1 := coef_lift (a1.length - b1.length) b1.length (b.map fun q => q * (al / be))
        rw [show a1.length - b1.length + b1.length = a1.length by omega, coef_map] at h1
        rw [show s = _ from rfl, h1, show coef b b1.length = be from coef_at (by rw [eb]; simp)]
        grind
      have hac : coef a a1.length = al := coef_at (by rw [ea]; simp)
      have hte : ∀ x, ev (trim (padd a (pneg s))) x = ev a x - ev s x := fun x => by rw [ev_trim, padd_ev, pneg_ev]; grind
      have htl := less_len (r := a) (s := s) (t := trim (padd a (pneg s))) (N := a1.length) (trim_tight _) (by
        have := trim_len (padd a (pneg s))
        have : (padd a (pneg s)).length ≤ a1.length + 1 := by
          rw [padd_len]; simp [pneg]; omega
        omega) (by rw [hac, hsc]) hte (by omega) (by omega)
      obtain ⟨q, r, hr, hrl, he⟩ := div_ex hb hb0 n (trim (padd a (pneg s))) (trim_tight _) (by omega)
      refine ⟨padd q (List.replicate (a1.length - b1.length) 0 ++ [al / be]), r, hr, hrl, fun x => ?_⟩
      have h1 := he x
      rw [hte, hse] at h1
      rw [padd_ev, ev_lift, ev_cons, ev_nil]
      grind
theorem bez_ex : ∀ (n : Nat) (a b : List Rat), Tight a → Tight b → b.length ≤ n → ¬ (a = [] ∧ b = []) → ∃ g u v : List Rat, Tight g ∧ g ≠ [] ∧ Dv g a ∧ Dv g b ∧ ∀ x, ev g x = ev u x * ev a x + ev v x * ev b x
  | 0, a, b, ha, hb, hl, hne => by
    have e : b = [] := List.length_eq_zero_iff.mp (by omega)
    subst e
    exact ⟨a, [1], [], ha, fun z => hne ⟨z, rfl⟩, dv_refl, dv_nil, fun x => by rw [ev_cons, ev_nil]; grind⟩
  | n + 1, a, b, ha, hb, hl, hne => by
    by_cases e : b = []
    · subst e
      exact ⟨a, [1], [], ha, fun z => hne ⟨z, rfl⟩, dv_refl, dv_nil, fun x => by rw [ev_cons, ev_nil]; grind⟩
    · obtain ⟨q, r, hr, hrl, he⟩ := div_ex hb e a.length a ha (Nat.le_refl _)
      obtain ⟨g, u, v, h1, h2, h3, h4, h5⟩ := bez_ex n b r hb hr (by omega) fun z => e z.1
      refine ⟨g, v, padd u (pneg (pmul v q)), h1, h2, dv_add he h4 h3, h3, fun x => ?_⟩
      have := he x
      rw [h5, padd_ev, pneg_ev, pmul_ev]
      grind
theorem dl_ne {p : List Rat} (hp : Tight p) (h2 : 2 ≤ p.length) : trim (dl p) ≠ [] := fun z => by
  have h0 : ∀ x, ev (dl p) x = ev [] x := fun x => by rw [← ev_trim (dl p), z]
  have h1 := coefs_eq h0 (p.length - 2)
  obtain ⟨d, a, e, ha⟩ := tight_ne (fun z => by rw [z] at h2; simp at h2) hp
  have hd : p.length = d.length + 1 := by rw [e]; simp
  have hc : coef p (p.length - 2 + 1) = a := coef_at (by rw [show p.length - 2 + 1 = d.length by omega, e]; simp)
  rw [coef_out (c := []) (Nat.zero_le _)] at h1
  unfold dl at h1
  rw [coef_range (by omega), hc] at h1
  rcases Rat.mul_eq_zero.mp h1 with w | w
  · have : ((p.length - 2 + 1 : Nat) : Rat) = ((0 : Nat) : Rat) := w
    have := Rat.natCast_inj.mp this
    omega
  · exact ha w
def ppw (p : List Rat) : Nat → List Rat
  | 0 => [1]
  | n + 1 => pmul (ppw p n) p
theorem ppw_ev (p : List Rat) (n : Nat) (x : Rat) : ev (ppw p (n + 1)) x = ev (ppw p n) x * ev p x := by rw [ppw, pmul_ev]
theorem ppw_slope (p : List Rat) : ∀ n, ∃ z : List Rat, ∀ x, evd (ppw p n) x * ev p x = ev (ppw p n) x * ev z x
  | 0 => ⟨[], fun x => by rw [ppw, evd, evd, ev_nil]; grind⟩
  | n + 1 => by
    obtain ⟨z, hz⟩ := ppw_slope p n
    refine ⟨padd z (dl p), fun x => ?_⟩
    have h1 := hz x
    rw [evd_mul (p := ppw p n) (q := p) (fun y => ppw_ev p n y), ppw_ev, padd_ev, dl_ev]
    have : ev (ppw p n) x * ev p x * (ev z x + evd p x) = (ev (ppw p n) x * ev z x) * ev p x + ev (ppw p n) x * evd p x * ev p x := by grind
    rw [this, ← h1]; grind
theorem ppw_len {p : List Rat} (hp : Tight p) (h2 : 2 ≤ p.length) : ∀ n, ∃ q : List Rat, Tight q ∧ n + 1 ≤ q.length ∧ ∀ x, ev q x = ev (ppw p n) x
  | 0 => ⟨[1], fun q hq => by cases hq; decide, by simp, fun x => rfl⟩
  | n + 1 => by
    obtain ⟨q, h3, h4, h5⟩ := ppw_len hp h2 n
    obtain ⟨c, c1, c2, c3, _⟩ := tight_prod (d := q) (o := p) (fun z => by rw [z] at h4; simp at h4) (fun z => by rw [z] at h2; simp at h2) h3 hp
    exact ⟨c, c1, by omega, fun x => by rw [c3, h5, ppw_ev]⟩
theorem least_dv {A B p : List Rat} (hp : Tight p) (h2 : 2 ≤ p.length) (pA : Dv p A) (pB : Dv p B) (least : ∀ q : List Rat, Tight q → 2 ≤ q.length → Dv q A → Dv q B → p.length ≤ q.length) : Cop p (trim (dl p)) := by
  have hd := dl_ne hp h2
  have hl : (trim (dl p)).length < p.length := Nat.lt_of_le_of_lt (trim_len _) (by simp [dl]; omega)
  obtain ⟨g, u, v, g1, g2, g3, g4, g5⟩ := bez_ex _ p (trim (dl p)) hp (trim_tight _) (Nat.le_refl _) fun z => hd z.2
  have gl := (dv_len g1 (trim_tight _) g4 hd).2
  have g1l : g.length < 2 := by
    rcases Nat.lt_or_ge g.length 2 with z | z
    · exact z
    · have := least g g1 z (dv_trans g3 pA) (dv_trans g3 pB)
      omega
  match g, g1, g2, g1l, g5 with
  | [k], g1, _, _, g5 =>
    have hk : k ≠ 0 := g1 k rfl
    refine ⟨u.map fun q => q * (1 / k), v.map fun q => q * (1 / k), fun x => ?_⟩
    have := g5 x
    rw [ev_cons, ev_nil] at this
    rw [ev_map_mul, ev_map_mul]
    have e : ev u x * (1 / k) * ev p x + ev v x * (1 / k) * ev (trim (dl p)) x = (ev u x * ev p x + ev v x * ev (trim (dl p)) x) * (1 / k) := by grind
    rw [e, ← this]; grind
  | [], _, g2, _, _ => exact absurd rfl g2
theorem lone_free {c t : List Rat} (hc : Tight c) (hc0 : c ≠ []) (hl : LoneIs c t) : Tight t ∧ t ≠ [] ∧ Dv t c ∧ ∀ e, Tight e → Dv e t → Dv e (trim (dl t)) → e.length < 2 := by
  obtain ⟨d, r, hd, hv⟩ := hl
  obtain ⟨q, hq⟩ := hd.d1
  obtain ⟨-, et⟩ := div_exact (trim_tight q) hd.t hd.ne hc hv (fun x => by rw [hq, ev_trim])
  have hct : ∀ x, ev c x = ev d x * ev t x := fun x => by rw [hq, et, ev_trim]
  have ht0 : t ≠ [] := fun z => hc0 (tight_congr hc tight_nil fun x => by rw [hct, z, ev_nil]; grind)
  refine ⟨hv.tt, ht0, ⟨d, fun x => by rw [hct]; grind⟩, fun e he e1 e2 => ?_⟩
  rcases Nat.lt_or_ge e.length 2 with z | z
  · exact z
  exfalso
  -- a divisor of least length
  have ex : ∃ n, ∃ p : List Rat, p.length = n ∧ Tight p ∧ 2 ≤ p.length ∧ Dv p t ∧ Dv p (trim (dl t)) := ⟨_, e, rfl, he, z, e1, e2⟩
  obtain ⟨p, hp, h2, pt, ps, least⟩ : ∃ p : List Rat, Tight p ∧ 2 ≤ p.length ∧ Dv p t ∧ Dv p (trim (dl t)) ∧ ∀ q : List Rat, Tight q → 2 ≤ q.length → Dv q t → Dv q (trim (dl t)) → p.length ≤ q.length := by
    have key : ∀ n, (∃ p : List Rat, p.length = n ∧ Tight p ∧ 2 ≤ p.length ∧ Dv p t ∧ Dv p (trim (dl t))) → ∃ p : List Rat, Tight p ∧ 2 ≤ p.length ∧ Dv p t ∧ Dv p (trim (dl t)) ∧ ∀ q : List Rat, Tight q → 2 ≤ q.length → Dv q t → Dv q (trim (dl t)) → p.length ≤ q.length := fun n => by
      induction n using Nat.strongRecOn with
      | _ n ih =>
        rintro ⟨p, hn, a1, a2, a3, a4⟩
        by_cases w : ∃ q : List Rat, Tight q ∧ 2 ≤ q.length ∧ Dv q t ∧ Dv q (trim (dl t)) ∧ q.length < n
        · obtain ⟨q, b1, b2, b3, b4, b5⟩ := w
          exact ih _ b5 ⟨q, rfl, b1, b2, b3, b4⟩
        · refine ⟨p, a1, a2, a3, a4, fun q b1 b2 b3 b4 => ?_⟩
          rcases Nat.lt_or_ge q.length n with v | v
          · exact absurd ⟨q, b1, b2, b3, b4, v⟩ w
          · omega
    obtain ⟨n, h⟩ := ex
    exact key n h
  have cop := least_dv hp h2 pt ps least
  -- p goes into t twice
  obtain ⟨t1, h1⟩ := pt
  obtain ⟨s1, hs1⟩ := ps
  have htd : ∀ x, evd t x = evd p x * ev t1 x + ev p x * evd t1 x := fun x => evd_mul h1 x
  obtain ⟨t2, h3⟩ : Dv p t1 := by
    obtain ⟨u, v, cuv⟩ := cop
    refine ⟨padd (pmul u t1) (pmul v (padd s1 (pneg (dl t1)))), fun x => ?_⟩
    have c1 := cuv x
    have c2 := hs1 x
    have c3 := htd x
    rw [ev_trim, dl_ev] at c1 c2
    rw [padd_ev, pmul_ev, pmul_ev, padd_ev, pneg_ev, dl_ev]
    rw [c2] at c3
    have e1 : ev t1 x = (ev u x * ev p x + ev v x * evd p x) * ev t1 x := by rw [c1]; grind
    rw [e1]
    have e2 : evd p x * ev t1 x = ev p x * ev s1 x - ev p x * evd t1 x := by grind
    have e3 : (ev u x * ev p x + ev v x * evd p x) * ev t1 x = ev u x * ev p x * ev t1 x + ev v x * (evd p x * ev t1 x) := by grind
    rw [← e1, e1, e3, e2]; grind
  -- so every power of p goes into d
  have pw : ∀ n, Dv (ppw p n) d := fun n => by
    induction n with
    | zero => exact ⟨d, fun x => by rw [ppw, ev_cons, ev_nil]; grind⟩
    | succ n ih =>
      obtain ⟨d1, hd1⟩ := ih
      obtain ⟨z, hz⟩ := ppw_slope p (n + 1)
      have hcw : ∀ x, ev c x = ev (ppw p (n + 1)) x * ev (pmul p (pmul d1 t2)) x := fun x => by
        rw [hct, hd1, h1, h3, ppw_ev, pmul_ev, pmul_ev]; grind
      refine (hd.c _).mpr ⟨⟨_, hcw⟩, ⟨padd (pmul z (pmul d1 t2)) (dl (pmul p (pmul d1 t2))), fun x => ?_⟩⟩
      rw [ev_trim, dl_ev, evd_mul hcw, padd_ev, dl_ev, pmul_ev p, pmul_ev z]
      have := hz x
      have e4 : evd (ppw p (n + 1)) x * (ev p x * ev (pmul d1 t2) x) = (evd (ppw p (n + 1)) x * ev p x) * ev (pmul d1 t2) x := by grind
      rw [e4, this]; grind
  obtain ⟨w, w1, w2, w3⟩ := ppw_len hp h2 d.length
  obtain ⟨y, hy⟩ := pw d.length
  have := (dv_len w1 hd.t ⟨y, fun x => by rw [hy, w3]⟩ hd.ne).2
  omega
end PP
namespace PP
open PySem PySem.Spec PyProof.Rows L2
structure KnownC (c L : List Rat) : Prop where
  tc : Tight c
  c0 : c ≠ []
  tL : Tight L
  L0 : L ≠ []
  ex : ∃ D M : List Rat, Tight D ∧ D.getLast? = some 1 ∧ (∀ x, ev c x = ev D x * ev L x) ∧ (∀ x, evd c x = ev D x * ev M x) ∧ Cop L M
theorem KnownC.lone {c L : List Rat} (h : KnownC c L) : ∀ t, LoneIs c t → t = L := fun t ht => by
  obtain ⟨D, M, h1, h2, h3, h4, h5⟩ := h.ex
  exact lone_of h.tc h.tL h1 h2 h3 h4 h5 ht
theorem KnownC.num {k : Rat} (hk : k ≠ 0) : KnownC [k] [k] := by
  have ht : Tight [k] := fun q hq => by cases hq; exact hk
  refine ⟨ht, by simp, ht, by simp, [1], [], fun q hq => by cases hq; decide, rfl, fun x => ?_, fun x => ?_, (Cop.one (a := []) (b := [k]) hk fun x => ?_).symm⟩
  · rw [ev_cons, ev_nil, ev_cons, ev_nil]; grind
  · rw [evd, evd, ev_nil]; grind
  · rw [ev_cons, ev_nil]; grind
structure Prm (q : List Rat) : Prop where
  t : Tight q
  m : q.getLast? = some 1
  cop : Cop q (dl q)
theorem Prm.ne {q : List Rat} (h : Prm q) : q ≠ [] := fun z => by have := h.m; rw [z] at this; cases this
theorem KnownC.step {c c' L L' q : List Rat} {e : Nat} (h : KnownC c L) (hq : Prm q) (hqL : Cop q L) (tc' : Tight c') (tL' : Tight L') (hc : ∀ x, ev c' x = ev c x * ev (ppw q (e + 1)) x) (hL : ∀ x, ev L' x = ev L x * ev q x) : KnownC c' L' := by
  obtain ⟨D, M, h1, h2, h3, h4, h5⟩ := h.ex
  have zero : ∀ {a b : List Rat}, Tight a → a ≠ [] → Tight b → b ≠ [] → ¬ ∀ x, ev a x * ev b x = 0 := fun {a b} ta a0 tb b0 z => by
    obtain ⟨r, r1, r2, r3, _⟩ := tight_prod a0 b0 ta tb
    have : r = [] := tight_congr r1 tight_nil fun x => by rw [r3, z, ev_nil]
    have p1 := List.length_pos_iff.mpr a0
    have p2 := List.length_pos_iff.mpr b0
    rw [this] at r2
    simp at r2
    omega
  have pwt : ∀ n, ∃ p : List Rat, Tight p ∧ p.getLast? = some 1 ∧ ∀ x, ev p x = ev (ppw q n) x := fun n => by
    induction n with
    | zero => exact ⟨[1], fun z hz => by cases hz; decide, rfl, fun x => rfl⟩
    | succ n ih =>
      obtain ⟨p, p1, p2, p3⟩ := ih
      have p0 : p ≠ [] := fun z => by rw [z] at p2; cases p2
      obtain ⟨r, r1, r2, r3, r4⟩ := tight_prod p0 hq.ne p1 hq.t
      refine ⟨r, r1, ?_, fun x => by rw [r3, p3, ppw_ev]⟩
      rw [r4]
      have a1 : p.getLast p0 = 1 := by
        have := List.getLast?_eq_some_getLast p0
        rw [p2] at this
        exact (Option.some.inj this).symm
      have a2 : q.getLast hq.ne = 1 := by
        have := List.getLast?_eq_some_getLast hq.ne
        rw [hq.m] at this
        exact (Option.some.inj this).symm
      rw [a1, a2, Rat.mul_one]
  obtain ⟨w, w1, w2, w3⟩ := pwt e
  have w0 : w ≠ [] := fun z => by rw [z] at w2; cases w2
  have D0 : D ≠ [] := fun z => by rw [z] at h2; cases h2
  obtain ⟨E, E1, E2, E3, E4⟩ := tight_prod D0 w0 h1 w1
  have hEl : E.getLast? = some 1 := by
    rw [E4]
    have a1 : D.getLast D0 = 1 := by
      have := List.getLast?_eq_some_getLast D0
      rw [h2] at this
      exact (Option.some.inj this).symm
    have a2 : w.getLast w0 = 1 := by
      have := List.getLast?_eq_some_getLast w0
      rw [w2] at this
      exact (Option.some.inj this).symm
    rw [a1, a2, Rat.mul_one]
  have pd : ∀ n x, evd (ppw q (n + 1)) x = ((n + 1 : Nat) : Rat) * (ev (ppw q n) x * evd q x) := fun n => by
    induction n with
    | zero => intro x; rw [evd_mul (p := ppw q 0) (q := q) (fun y => ppw_ev q 0 y), ppw, evd, evd, ev_nil, ev_cons, ev_nil, show ((0 + 1 : Nat) : Rat) = 1 from rfl]; grind
    | succ n ih =>
      intro x
      rw [evd_mul (p := ppw q (n + 1)) (q := q) (fun y => ppw_ev q (n + 1) y), ih, ppw_ev, Rat.natCast_add (n + 1) 1, show ((1 : Nat) : Rat) = 1 from rfl]; grind
  have he : ((e + 1 : Nat) : Rat) ≠ 0 := fun z => by
    have : ((e + 1 : Nat) : Rat) = ((0 : Nat) : Rat) := z
    have := Rat.natCast_inj.mp this
    omega
  have hL0 : L' ≠ [] := fun z => zero h.tL h.L0 hq.t hq.ne fun x => by rw [← hL, z, ev_nil]
  obtain ⟨v, v1, v2, v3⟩ := pwt (e + 1)
  have v0 : v ≠ [] := fun z => by rw [z] at v2; cases v2
  have hc0 : c' ≠ [] := fun z => zero h.tc h.c0 v1 v0 fun x => by rw [v3, ← hc, z, ev_nil]
  refine ⟨tc', hc0, tL', hL0, E, padd (pmul M q) ((pmul (dl q) L).map fun a => a * ((e + 1 : Nat) : Rat)), E1, hEl, fun x => ?_, fun x => ?_, ?_⟩
  · rw [hc, h3, E3, w3, hL, ppw_ev]; grind
  · rw [evd_mul hc, h4, h3, pd, E3, w3, ppw_ev, padd_ev, pmul_ev, ev_map_mul, pmul_ev, dl_ev]; grind
  · have k1 : Cop L (padd (pmul M q) ((pmul (dl q) L).map fun a => a * ((e + 1 : Nat) : Rat))) :=
      Cop.add ((dl q).map fun a => a * ((e + 1 : Nat) : Rat)) (Cop.mul h5 hqL.symm (m := pmul M q) fun x => pmul_ev _ _ _) fun x => by
        rw [padd_ev, ev_map_mul, pmul_ev (dl q), ev_map_mul]; grind
    have k2 : Cop q (padd (pmul M q) ((pmul (dl q) L).map fun a => a * ((e + 1 : Nat) : Rat))) :=
      Cop.add M (Cop.scale he (Cop.mul hq.cop hqL (m := pmul (dl q) L) fun x => pmul_ev _ _ _) (m := (pmul (dl q) L).map fun a => a * ((e + 1 : Nat) : Rat)) fun x => ev_map_mul ..) fun x => by
        rw [padd_ev, pmul_ev M]; grind
    exact (Cop.mul k1.symm k2.symm (m := L') hL).symm
theorem prm_line (r : Rat) : Prm [0 - r, 1] := by
  refine ⟨show Tight ([0 - r] ++ [1]) from tight_snoc (by decide), rfl, Cop.one (k := 1) (by decide) fun x => ?_⟩
  rw [dl_ev, evd, evd, evd, ev_cons, ev_nil]; grind
theorem prm_bow {a b : Rat} (h : 4 * a - b * b ≠ 0) : Prm [a, b, 1] := by
  refine ⟨show Tight ([a, b] ++ [1]) from tight_snoc (by decide), rfl, [4 / (4 * a - b * b)], [(0 - b) / (4 * a - b * b), (0 - 2) / (4 * a - b * b)], fun x => ?_⟩
  rw [dl_ev, evd, evd, evd, evd]
  simp only [ev_cons, ev_nil]
  have e : (4 * a - b * b) * (1 / (4 * a - b * b)) = 1 := by grind
  generalize hz : 4 * a - b * b = z at *
  have e4 : 4 / z = 4 * (1 / z) := by grind
  have e5 : (0 - b) / z = (0 - b) * (1 / z) := by grind
  have e6 : (0 - 2) / z = (0 - 2) * (1 / z) := by grind
  rw [e4, e5, e6]
  generalize 1 / z = y at *
  have : z * y = (4 * a - b * b) * y := by rw [hz]
  grind
theorem cop_bow {a b r : Rat} (h : a + b * r + r * r ≠ 0) : Cop [a, b, 1] [0 - r, 1] := by
  refine ⟨[1 / (a + b * r + r * r)], [(0 - (b + r)) / (a + b * r + r * r), (0 - 1) / (a + b * r + r * r)], fun x => ?_⟩
  simp only [ev_cons, ev_nil]
  have e : (a + b * r + r * r) * (1 / (a + b * r + r * r)) = 1 := by grind
  generalize hz : a + b * r + r * r = z at *
  have e5 : (0 - (b + r)) / z = (0 - (b + r)) * (1 / z) := by grind
  have e6 : (0 - 1) / z = (0 - 1) * (1 / z) := by grind
  rw [e5, e6]
  generalize 1 / z = y at *
  have : z * y = (a + b * r + r * r) * y := by rw [hz]
  grind
end PP
namespace PP
open PySem PySem.Spec PyProof.Rows L2
def sx_law_product_v2_1 : SX :=
  (.ret (.blt .tuple (.cons (.v 2) .nil)) .nil)
def sx_law_product_v2_2 : SX :=
  (.asg (.n 2) (.bin .mul (.lst (.cons (.tup (.cons (.int 0) (.cons (.int 1) .nil))) .nil)) (.bin .sub (.bin .add (.blt .len (.cons (.v 0) .nil)) (.blt .len (.cons (.v 1) .nil))) (.int 1)))
  (.for_ (.n 3) (.range1 (.blt .len (.cons (.v 0) .nil)))
    (.for_ (.n 4) (.range1 (.blt .len (.cons (.v 1) .nil)))
      (.put (.v 2) (.bin .add (.v 3) (.v 4)) (.call 25 (.cons (.ix (.v 2) (.bin .add (.v 3) (.v 4))) (.cons (.call 26 (.cons (.ix (.v 0) (.v 3)) (.cons (.ix (.v 1) (.v 4)) .nil))) .nil))) .nil) .nil)
  sx_law_product_v2_1))
def sx_law_product_v2 : SX :=
  (.ite (.or (.cmp .eq (.v 0) (.tup .nil)) (.cmp .eq (.v 1) (.tup .nil)))
    (.ret (.tup .nil) .nil)
    .nil
  sx_law_product_v2_2)
abbrev ns_law_product_v2 : List Str := ["_law_one", "_law_other", "_law_found", "_law_j", "_law_k"]
theorem prod_tight {p q f : List Rat} (hp0 : p ≠ []) (hq0 : q ≠ []) (hp : Tight p) (hq : Tight q) (hf : f.length = p.length + q.length - 1) (e : ∀ x, ev f x = ev p x * ev q x) : Tight f := by
  obtain ⟨r, r1, r2, r3, _⟩ := tight_prod hp0 hq0 hp hq
  have : f = r := by
    refine List.ext_getElem? fun i => ?_
    have hc := coefs_eq (c := f) (d := r) (fun x => by rw [e, r3]) i
    by_cases hi : i < f.length
    · rw [coef_lt hi, coef_lt (by omega), hc]
    · rw [List.getElem?_eq_none (by omega), List.getElem?_eq_none (by omega)]
  rw [this]; exact r1
section
variable {Γ : Nat → SpD} {gl : Nat → D} {ds : List D} {g : G} {Q : QD} {E X : XD}
def spProdT : SpD := fun ds g Q _ => ∃ (p q : List Rat) (b c : Nat), ds = [.tup (nums p), .tup (nums q)] ∧ p ≠ [] ∧ q ≠ [] ∧ Tight p ∧ Tight q ∧ Szs b p ∧ Szs c q ∧ min p.length q.length * (b + c + 1) + 1 ≤ 49000000 ∧ p.length ≤ 100 ∧ q.length ≤ 100 ∧
  ∀ f, Tight f → f.length = p.length + q.length - 1 → Szs (min p.length q.length * (b + c + 1) + 1) f → (∀ x, ev f x = ev p x * ev q x) → Q (.tup (nums f)) g
theorem pure_law_product_v2 (h25 : Γ 25 = spPlus) (h26 : Γ 26 = spTimes) (h : spProdT ds g Q E) : mnS Γ gl sx_law_product_v2 (endsOf Q E) (startD ns_law_product_v2 ds) g := by
  obtain ⟨p, q, b, c, rfl, hp0, hq0, htp, htq, hp, hq, hs, hl, hl2, h⟩ := h
  have hpp := List.length_pos_iff.mpr hp0
  have hqq := List.length_pos_iff.mpr hq0
  simp only [sx_law_product_v2, mnS, dLamr, mn, Mn.of, Op.rd, Cm.rd, Bl.rd, Mt.rd, Mt.rc, dNop, dSeq, dExpr, dRet, dRetN, dIf, gD, dAsg, dPar, dPut, dRaise, dVar, dC, dBin, dUn, dNil, dCons, dTup, dLst, dTst, dAndT, dOrT, dNotT, dYes, dAnd, dOr, dNot, dChain, dCall, dCB, dMt, dLset, dSrev, dTry, dIsx, dEmp, dDic1, dStp, xsub, Ex.sub, dSlc, dPart, dNoPart, dIAny, dI1, dI2, dI3, dFor, dComp, compB, wipeD, startD, endsOf, at_mk, setAll, add_int, sub_int, mul_int, mul_tup, pow_int, mod_int, fdiv_int, lt_int, le_int, gt_int, ge_int, eq_int, neg_int, len_tup, len_scr, abs_int, max_int, min_int, int_int, int_bl, r1_int, r2_int, tuple_tup, list_tup, over_tup, rev_tup, enum_tup, zip_tup, slc_tup, add_tup, isi_any, ix_tup, ix_scr, ix_num0, ix_num1, len_num, num_0, num_1, atI_0, atI_1, atI_2, List.map, List.cons_append, List.nil_append, List.getElem?_cons_zero, List.getElem?_cons_succ, List.getElem?_nil, List.set_cons_zero, List.set_cons_succ, List.replicate, List.length_cons, List.length_nil, List.foldr_cons, List.foldr_nil, Nat.reduceAdd, Nat.reduceSub, List.replicate_succ, List.replicate_zero, G_up_same, decide_eq_true_eq, Bool.not_eq_true', Bool.false_eq_true, if_true, if_false, ite_true, ite_false, and_true, true_and, reduceCtorEq, Bool.not_true, Bool.not_false, Bool.false_bne, Bool.true_bne, sl0, sl1, sl2, sl3, sl4]
  refine eq_tup (q := []) (fun z => absurd z hp0) fun _ => ?_
  try simp only [mnS, dLamr, mn, Mn.of, Op.rd, Cm.rd, Bl.rd, Mt.rd, Mt.rc, dNop, dSeq, dExpr, dRet, dRetN, dIf, gD, dAsg, dPar, dPut, dRaise, dVar, dC, dBin, dUn, dNil, dCons, dTup, dLst, dTst, dAndT, dOrT, dNotT, dYes, dAnd, dOr, dNot, dChain, dCall, dCB, dMt, dLset, dSrev, dTry, dIsx, dEmp, dDic1, dStp, xsub, Ex.sub, dSlc, dPart, dNoPart, dIAny, dI1, dI2, dI3, dFor, dComp, compB, wipeD, startD, endsOf, at_mk, setAll, add_int, sub_int, mul_int, mul_tup, pow_int, mod_int, fdiv_int, lt_int, le_int, gt_int, ge_int, eq_int, neg_int, len_tup, len_scr, abs_int, max_int, min_int, int_int, int_bl, r1_int, r2_int, tuple_tup, list_tup, over_tup, rev_tup, enum_tup, zip_tup, slc_tup, add_tup, isi_any, ix_tup, ix_scr, ix_num0, ix_num1, len_num, num_0, num_1, atI_0, atI_1, atI_2, List.map, List.cons_append, List.nil_append, List.getElem?_cons_zero, List.getElem?_cons_succ, List.getElem?_nil, List.set_cons_zero, List.set_cons_succ, List.replicate, List.length_cons, List.length_nil, List.foldr_cons, List.foldr_nil, Nat.reduceAdd, Nat.reduceSub, List.replicate_succ, List.replicate_zero, G_up_same, decide_eq_true_eq, Bool.not_eq_true', Bool.false_eq_true, if_true, if_false, ite_true, ite_false, and_true, true_and, reduceCtorEq, Bool.not_true, Bool.not_false, Bool.false_bne, Bool.true_bne, sl0, sl1, sl2, sl3, sl4]
  refine eq_tup (q := []) (fun z => absurd z hq0) fun _ => ?_
  simp only [sx_law_product_v2_2, h25, h26, mnS, dLamr, mn, Mn.of, Op.rd, Cm.rd, Bl.rd, Mt.rd, Mt.rc, dNop, dSeq, dExpr, dRet, dRetN, dIf, gD, dAsg, dPar, dPut, dRaise, dVar, dC, dBin, dUn, dNil, dCons, dTup, dLst, dTst, dAndT, dOrT, dNotT, dYes, dAnd, dOr, dNot, dChain, dCall, dCB, dMt, dLset, dSrev, dTry, dIsx, dEmp, dDic1, dStp, xsub, Ex.sub, dSlc, dPart, dNoPart, dIAny, dI1, dI2, dI3, dFor, dComp, compB, wipeD, startD, endsOf, at_mk, setAll, add_int, sub_int, mul_int, mul_tup, pow_int, mod_int, fdiv_int, lt_int, le_int, gt_int, ge_int, eq_int, neg_int, len_tup, len_scr, abs_int, max_int, min_int, int_int, int_bl, r1_int, r2_int, tuple_tup, list_tup, over_tup, rev_tup, enum_tup, zip_tup, slc_tup, add_tup, isi_any, ix_tup, ix_scr, ix_num0, ix_num1, len_num, num_0, num_1, atI_0, atI_1, atI_2, List.map, List.cons_append, List.nil_append, List.getElem?_cons_zero, List.getElem?_cons_succ, List.getElem?_nil, List.set_cons_zero, List.set_cons_succ, List.replicate, List.length_cons, List.length_nil, List.foldr_cons, List.foldr_nil, Nat.reduceAdd, Nat.reduceSub, List.replicate_succ, List.replicate_zero, G_up_same, decide_eq_true_eq, Bool.not_eq_true', Bool.false_eq_true, if_true, if_false, ite_true, ite_false, and_true, true_and, reduceCtorEq, Bool.not_true, Bool.not_false, Bool.false_bne, Bool.true_bne, sl0, sl1, sl2, sl3, sl4, nums_len]
  intro s hs0
  rw [mul_ref G_up_same]
  refine ⟨by omega, by omega, slN (by simp; omega), fun u hu => ?_⟩
  rw [repD_num, show ((p.length : Int) + (q.length : Int) - 1).toNat = p.length + q.length - 1 by omega]
  have hus : u ≠ s := fun z => by rw [z, G_up_same] at hu; cases hu
  have hu0 : g u = none := by rw [G_up_none] at hu; exact hu.2
  refine ⟨by omega, ?_⟩
  have hmin : min p.length q.length * (b + c + 1) + 1 ≤ 49000000 := hs
  refine for_inv (fun j env g' => ∃ f o3 o4, env = [some (.tup (nums p)), some (.tup (nums q)), some (.ref u), o3, o4] ∧ g' = (g.up s [num 0]).up u (nums f) ∧ f.length = p.length + q.length - 1 ∧ (∀ x, ev f x = ev (p.take j) x * ev q x) ∧ j ≤ p.length ∧
      ∀ i v, f[i]? = some v → ∃ t, sz v ≤ t * (b + c + 1) + 1 ∧ t ≤ cb q.length j i) (fun _ _ _ _ => trivial) ?_ ?_
      ⟨List.replicate (p.length + q.length - 1) 0, none, none, rfl, rfl, by simp, fun x => by rw [List.take_zero, ev_nil, ev_zeros]; grind, Nat.zero_le _, fun i v hv => ⟨0, (by
        rw [List.getElem?_replicate] at hv
        split at hv
        · cases hv; rw [sz_0]; omega
        · cases hv), Nat.zero_le _⟩⟩
  · rintro j x env g' N hk ⟨f, o3, o4, rfl, rfl, hf, hev, hj, hsz⟩ hN
    obtain ⟨hk1, rfl⟩ := range_at hk
    have hja : j < p.length := by omega
    have ha : p[j]? = some (coef p j) := coef_lt hja
    generalize coef p j = a at ha
    have hsa := hp.at ha
    simp only [mnS, dLamr, mn, Mn.of, Op.rd, Cm.rd, Bl.rd, Mt.rd, Mt.rc, dNop, dSeq, dExpr, dRet, dRetN, dIf, gD, dAsg, dPar, dPut, dRaise, dVar, dC, dBin, dUn, dNil, dCons, dTup, dLst, dTst, dAndT, dOrT, dNotT, dYes, dAnd, dOr, dNot, dChain, dCall, dCB, dMt, dLset, dSrev, dTry, dIsx, dEmp, dDic1, dStp, xsub, Ex.sub, dSlc, dPart, dNoPart, dIAny, dI1, dI2, dI3, dFor, dComp, compB, wipeD, startD, endsOf, at_mk, setAll, add_int, sub_int, mul_int, mul_tup, pow_int, mod_int, fdiv_int, lt_int, le_int, gt_int, ge_int, eq_int, neg_int, len_tup, len_scr, abs_int, max_int, min_int, int_int, int_bl, r1_int, r2_int, tuple_tup, list_tup, over_tup, rev_tup, enum_tup, zip_tup, slc_tup, add_tup, isi_any, ix_tup, ix_scr, ix_num0, ix_num1, len_num, num_0, num_1, atI_0, atI_1, atI_2, List.map, List.cons_append, List.nil_append, List.getElem?_cons_zero, List.getElem?_cons_succ, List.getElem?_nil, List.set_cons_zero, List.set_cons_succ, List.replicate, List.length_cons, List.length_nil, List.foldr_cons, List.foldr_nil, Nat.reduceAdd, Nat.reduceSub, List.replicate_succ, List.replicate_zero, G_up_same, decide_eq_true_eq, Bool.not_eq_true', Bool.false_eq_true, if_true, if_false, ite_true, ite_false, and_true, true_and, reduceCtorEq, Bool.not_true, Bool.not_false, Bool.false_bne, Bool.true_bne, sl0, sl1, sl2, sl3, sl4, nums_len]
    refine ⟨by omega, ?_⟩
    refine for_inv (fun k env g' => ∃ f o4, env = [some (.tup (nums p)), some (.tup (nums q)), some (.ref u), some (.int (0 + (j : Nat) : Int)), o4] ∧ g' = (g.up s [num 0]).up u (nums f) ∧ f.length = p.length + q.length - 1 ∧ (∀ x, ev f x = ev (p.take j) x * ev q x + a * x ^ j * ev (q.take k) x) ∧ k ≤ q.length ∧
      ∀ i v, f[i]? = some v → ∃ t, sz v ≤ t * (b + c + 1) + 1 ∧ t ≤ if i < j + k then cb q.length (j + 1) i else cb q.length j i) (fun _ _ _ _ => trivial) ?_ ?_
      ⟨f, _, rfl, rfl, hf, fun x => by rw [hev x, List.take_zero, ev_nil]; grind, Nat.zero_le _, fun i v hv => by
        obtain ⟨t, h1, h2⟩ := hsz i v hv
        refine ⟨t, h1, ?_⟩
        unfold cb at *
        split <;> omega⟩
    · rintro k y env g' M hk2 ⟨f, o4, rfl, rfl, hf, hev, hk3, hsz⟩ hM
      obtain ⟨hk4, rfl⟩ := range_at hk2
      have hka : k < q.length := by omega
      have ha2 : q[k]? = some (coef q k) := coef_lt hka
      generalize coef q k = a2 at ha2
      have hsa2 := hq.at ha2
      have hjk : j + k < f.length := by omega
      have hB : b + c + 1 ≤ min p.length q.length * (b + c + 1) := Nat.le_mul_of_pos_left _ (by omega)
      obtain ⟨t, ht1, ht2⟩ := hsz (j + k) _ (coef_lt hjk)
      rw [if_neg (by omega)] at ht2
      have htm : t + 1 ≤ min p.length q.length := by unfold cb at ht2; omega
      have htB : (t + 1) * (b + c + 1) ≤ min p.length q.length * (b + c + 1) := Nat.mul_le_mul_right _ htm
      have htB2 : (t + 1) * (b + c + 1) = t * (b + c + 1) + (b + c + 1) := Nat.succ_mul ..
      have hmul := sz_mul a a2
      have hadd := sz_add (coef f (j + k)) (a * a2)
      have ejk : (j : Int) + (k : Int) = ((j + k : Nat) : Int) := by omega
      simp only [mnS, dLamr, mn, Mn.of, Op.rd, Cm.rd, Bl.rd, Mt.rd, Mt.rc, dNop, dSeq, dExpr, dRet, dRetN, dIf, gD, dAsg, dPar, dPut, dRaise, dVar, dC, dBin, dUn, dNil, dCons, dTup, dLst, dTst, dAndT, dOrT, dNotT, dYes, dAnd, dOr, dNot, dChain, dCall, dCB, dMt, dLset, dSrev, dTry, dIsx, dEmp, dDic1, dStp, xsub, Ex.sub, dSlc, dPart, dNoPart, dIAny, dI1, dI2, dI3, dFor, dComp, compB, wipeD, startD, endsOf, at_mk, setAll, add_int, sub_int, mul_int, mul_tup, pow_int, mod_int, fdiv_int, lt_int, le_int, gt_int, ge_int, eq_int, neg_int, len_tup, len_scr, abs_int, max_int, min_int, int_int, int_bl, r1_int, r2_int, tuple_tup, list_tup, over_tup, rev_tup, enum_tup, zip_tup, slc_tup, add_tup, isi_any, ix_tup, ix_scr, ix_num0, ix_num1, len_num, num_0, num_1, atI_0, atI_1, atI_2, List.map, List.cons_append, List.nil_append, List.getElem?_cons_zero, List.getElem?_cons_succ, List.getElem?_nil, List.set_cons_zero, List.set_cons_succ, List.replicate, List.length_cons, List.length_nil, List.foldr_cons, List.foldr_nil, Nat.reduceAdd, Nat.reduceSub, List.replicate_succ, List.replicate_zero, G_up_same, decide_eq_true_eq, Bool.not_eq_true', Bool.false_eq_true, if_true, if_false, ite_true, ite_false, and_true, true_and, reduceCtorEq, Bool.not_true, Bool.not_false, Bool.false_bne, Bool.true_bne, sl0, sl1, sl2, sl3, sl4, Int.zero_add, ejk]
      rw [ix_ref G_up_same, atI_nums rfl (coef_lt hjk), atI_nums rfl ha]
      simp only []
      rw [atI_nums rfl ha2]
      simp only [c_bin]
      refine ⟨by omega, by omega, ?_⟩
      rw [set_ref G_up_same, nums_len, ixN_at rfl hjk]
      simp only [nums_set, G_up_up]
      refine hM _ _ ⟨_, _, by rw [Int.zero_add], rfl, by rw [List.length_set]; exact hf, fun x => ?_, hka, fun i v hv => ?_⟩
      · rw [ev_set _ _ _ _ hjk, hev x, take_one ha2, ev_snoc, List.length_take, Nat.min_eq_left (by omega), pow_add']
        grind
      · rw [List.getElem?_set] at hv
        split at hv
        · rename_i hi
          cases hv
          refine ⟨t + 1, by omega, ?_⟩
          rw [if_pos (by omega)]
          unfold cb at *
          omega
        · rename_i hi
          obtain ⟨t', h1, h2⟩ := hsz i v hv
          refine ⟨t', h1, ?_⟩
          by_cases hlt : i < j + k
          · rw [if_pos hlt] at h2; rw [if_pos (by omega)]; exact h2
          · rw [if_neg hlt] at h2; rw [if_neg (by omega)]; exact h2
    · rintro env g' ⟨f, o4, rfl, rfl, hf, hev, -, hsz⟩
      rw [range_len, show ((q.length : Int)).toNat = q.length by omega] at hev hsz
      refine hN _ _ ⟨f, _, _, rfl, rfl, hf, fun x => ?_, hja, fun i v hv => ?_⟩
      · rw [hev x, take_one ha, ev_snoc, List.length_take, Nat.min_eq_left (by omega), List.take_length]
        grind
      · obtain ⟨t', h1, h2⟩ := hsz i v hv
        refine ⟨t', h1, Nat.le_trans h2 ?_⟩
        unfold cb
        split <;> omega
  · rintro env g' ⟨f, o3, o4, rfl, rfl, hf, hev, -, hsz⟩
    simp only [sx_law_product_v2_1, mnS, dLamr, mn, Mn.of, Op.rd, Cm.rd, Bl.rd, Mt.rd, Mt.rc, dNop, dSeq, dExpr, dRet, dRetN, dIf, gD, dAsg, dPar, dPut, dRaise, dVar, dC, dBin, dUn, dNil, dCons, dTup, dLst, dTst, dAndT, dOrT, dNotT, dYes, dAnd, dOr, dNot, dChain, dCall, dCB, dMt, dLset, dSrev, dTry, dIsx, dEmp, dDic1, dStp, xsub, Ex.sub, dSlc, dPart, dNoPart, dIAny, dI1, dI2, dI3, dFor, dComp, compB, wipeD, startD, endsOf, at_mk, setAll, add_int, sub_int, mul_int, mul_tup, pow_int, mod_int, fdiv_int, lt_int, le_int, gt_int, ge_int, eq_int, neg_int, len_tup, len_scr, abs_int, max_int, min_int, int_int, int_bl, r1_int, r2_int, tuple_tup, list_tup, over_tup, rev_tup, enum_tup, zip_tup, slc_tup, add_tup, isi_any, ix_tup, ix_scr, ix_num0, ix_num1, len_num, num_0, num_1, atI_0, atI_1, atI_2, List.map, List.cons_append, List.nil_append, List.getElem?_cons_zero, List.getElem?_cons_succ, List.getElem?_nil, List.set_cons_zero, List.set_cons_succ, List.replicate, List.length_cons, List.length_nil, List.foldr_cons, List.foldr_nil, Nat.reduceAdd, Nat.reduceSub, List.replicate_succ, List.replicate_zero, G_up_same, decide_eq_true_eq, Bool.not_eq_true', Bool.false_eq_true, if_true, if_false, ite_true, ite_false, and_true, true_and, reduceCtorEq, Bool.not_true, Bool.not_false, Bool.false_bne, Bool.true_bne, sl0, sl1, sl2, sl3, sl4, tuple_ref G_up_same]
    rw [range_len, show ((p.length : Int)).toNat = p.length by omega] at hev hsz
    have hfe : ∀ x, ev f x = ev p x * ev q x := fun x => by rw [hev x, List.take_length]
    refine ⟨_, G.le_trans (G.le_new hs0) (G.le_new hu), h f (prod_tight hp0 hq0 htp htq hf hfe) hf (fun v hv => ?_) hfe⟩
    obtain ⟨i, hi⟩ := List.mem_iff_getElem?.mp hv
    obtain ⟨t, h1, h2⟩ := hsz i v hi
    have ht : t ≤ min p.length q.length := by unfold cb at h2; omega
    exact Nat.le_trans h1 (Nat.succ_le_succ (Nat.mul_le_mul_right _ ht))
end
end PP
namespace PP
open PySem PySem.Spec PyProof.Rows L2
def sx_law_known_v5_1 : SX :=
  (.ret (.tup (.cons (.v 2) (.cons (.vfz 4) (.cons (.v 3) .nil)))) .nil)
def sx_law_known_v5_2 : SX :=
  (.asg (.n 6) (.call 4 (.cons (.v 0) (.cons (.int 3) .nil)))
  (.ite (.and (.cmp .gt (.v 6) (.int 0)) (.cmp .lt (.bin .add (.blt .len (.cons (.v 2) .nil)) (.bin .mul (.int 2) (.v 6))) (.int 6)))
    (.asg (.n 8) (.tup (.cons (.tup (.cons (.bin .add (.int 1) (.call 4 (.cons (.v 0) (.cons (.int 3) .nil)))) (.cons (.int 1) .nil))) (.cons (.tup (.cons (.bin .sub (.call 4 (.cons (.v 0) (.cons (.int 3) .nil))) (.int 1)) (.cons (.int 1) .nil))) (.cons (.tup (.cons (.int 1) (.cons (.int 1) .nil))) .nil))))
    (.asg (.n 3) (.call 187 (.cons (.v 3) (.cons (.v 8) .nil)))
    (.for_ (.n 9) (.range1 (.v 6))
      (.asg (.n 2) (.call 187 (.cons (.v 2) (.cons (.v 8) .nil))) .nil) .nil)))
    .nil
  sx_law_known_v5_1))
def sx_law_known_v5_3 : SX :=
  (.asg (.n 2) (.tup (.cons (.v 1) .nil))
  (.asg (.n 3) (.tup (.cons (.v 1) .nil))
  (.asg (.n 4) .dnew
  (.for_ (.n 5) (.range1 (.call 4 (.cons (.v 0) (.cons (.int 4) .nil))))
    (.asg (.n 7) (.ix (.lst (.cons (.call 5 (.cons (.bin .sub (.call 4 (.cons (.v 0) (.cons (.int 17) .nil))) (.int 8)) (.cons (.int 4) .nil))) (.cons (.call 36 (.cons (.v 0) .nil)) .nil))) (.blt .int (.cons (.cmp .eq (.call 4 (.cons (.v 0) (.cons (.int 3) .nil))) (.int 0)) .nil)))
    (.asg (.n 6) (.bin .add (.int 1) (.call 4 (.cons (.v 0) (.cons (.int 3) .nil))))
    (.ite (.and (.cmp .nin (.v 7) (.v 4)) (.cmp .lt (.bin .add (.blt .len (.cons (.v 2) .nil)) (.v 6)) (.int 6)))
      (.put (.v 4) (.v 7) (.v 6)
      (.asg (.n 10) (.tup (.cons (.call 35 (.cons (.tup (.cons (.int 0) (.cons (.int 1) .nil))) (.cons (.v 7) .nil))) (.cons (.tup (.cons (.int 1) (.cons (.int 1) .nil))) .nil)))
      (.asg (.n 3) (.call 187 (.cons (.v 3) (.cons (.v 10) .nil)))
      (.for_ (.n 9) (.range1 (.v 6))
        (.asg (.n 2) (.call 187 (.cons (.v 2) (.cons (.v 10) .nil))) .nil) .nil))))
      .nil .nil)))
  sx_law_known_v5_2))))
def sx_law_known_v5 : SX :=
  (.asg (.n 1) (.call 36 (.cons (.v 0) .nil))
  (.ite (.cmp .eq (.ix (.v 1) (.int 0)) (.int 0))
    (.asg (.n 1) (.tup (.cons (.int 1) (.cons (.bin .add (.int 1) (.call 4 (.cons (.v 0) (.cons (.int 9) .nil)))) .nil))) .nil)
    .nil
  sx_law_known_v5_3))
abbrev ns_law_known_v5 : List Str := ["_law_pen_here", "_law_top", "_law_curve_here", "_law_lone", "_law_places", "_law_k", "_law_often", "_law_x", "_law_bow", "_law_j", "_law_line"]
def lin : List Rat → Rat → Rat
  | [], _ => 1
  | r :: rs, x => (x - r) * lin rs x
theorem lin_snoc (rs : List Rat) (r x : Rat) : lin (rs ++ [r]) x = lin rs x * (x - r) := by
  induction rs with
  | nil => simp only [List.nil_append, lin]; grind
  | cons a rs ih => simp only [List.cons_append, lin, ih]; grind
theorem lin_zero {rs : List Rat} {x : Rat} : lin rs x = 0 ↔ x ∈ rs := by
  induction rs with
  | nil => simp only [lin, List.not_mem_nil, iff_false]; decide
  | cons a rs ih =>
    rw [lin, Rat.mul_eq_zero, ih, List.mem_cons]
    constructor
    · rintro (h | h)
      · exact .inl (by grind)
      · exact .inr h
    · rintro (h | h)
      · exact .inl (by rw [h]; grind)
      · exact .inr h
abbrev ln (x : Rat) : List Rat := [0 - x, 1]
theorem ln_ev (x y : Rat) : ev (ln x) y = y - x := by rw [ev_cons, ev_cons, ev_nil]; grind
theorem ln_tight (x : Rat) : Tight (ln x) := (prm_line x).t
theorem ln_ht {x : Rat} (h : sz x ≤ 16) : Ht 16 (ln x) := by
  have h1 := Nat.lt_of_lt_of_le (sz_num x) (Nat.pow_le_pow_right (by decide) h)
  have h2 := Nat.lt_of_lt_of_le (sz_den x) (Nat.pow_le_pow_right (by decide) h)
  have hd : (x.den : Int) ≠ 0 := by have := x.den_nz; omega
  refine ⟨x.den, hd, by simpa using h2, fun i => ?_⟩
  match i with
  | 0 =>
    refine ⟨-x.num, ?_, by rw [Int.natAbs_neg]; exact h1⟩
    rw [coef_cons_zero]
    have h3 : ((x.den : Int) : Rat) ≠ 0 := int_ne hd
    have h4 : x = Rat.divInt x.num x.den := (Rat.num_divInt_den x).symm
    rw [Rat.divInt_eq_div] at h4
    conv => lhs; rw [h4]
    rw [Rat.intCast_neg]
    grind
  | 1 => exact ⟨x.den, by rw [coef_cons_succ, coef_cons_zero]; grind, by simpa using h2⟩
  | i + 2 => exact ⟨0, by rw [coef_out (by simp)]; grind, Nat.two_pow_pos _⟩
theorem cop_off {L : List Rat} {r : Rat} (h : ev L r ≠ 0) : Cop (ln r) L := by
  refine ⟨(divl L r).map fun a => a * (0 - 1 / ev L r), [1 / ev L r], fun x => ?_⟩
  rw [ev_map_mul, ln_ev, ev_cons, ev_nil, divl_ev L r x]
  have e : ev L r * (1 / ev L r) = 1 := by grind
  generalize 1 / ev L r = y at *
  grind
structure KI (c L rs : List Rat) : Prop where
  kc : KnownC c L
  hc : Ht (17 + 19 * (c.length - 1)) c
  hL : Ht (17 + 19 * (L.length - 1)) L
  lc : c.length ≤ 5
  lL : L.length = rs.length + 1
  le : L.length ≤ c.length
  nd : rs.Nodup
  rz : Szs 16 rs
  zc : ∀ x, ev c x = 0 ↔ x ∈ rs
  sg : ∃ k : Rat, k ≠ 0 ∧ ∀ x, ev L x = k * lin rs x
  bow : ∀ a b : Rat, (∀ r ∈ rs, a + b * r + r * r ≠ 0) → Cop [a, b, 1] L
theorem KI.zL {c L rs : List Rat} (h : KI c L rs) (x : Rat) : ev L x = 0 ↔ x ∈ rs := by
  obtain ⟨k, hk, e⟩ := h.sg
  rw [e, Rat.mul_eq_zero, lin_zero]
  exact ⟨fun z => z.elim (fun w => absurd w hk) id, .inr⟩
theorem KI.start {k : Rat} (hk : k ≠ 0) (hs : sz k ≤ 16) : KI [k] [k] [] := by
  have hh : Ht 17 [k] := Ht.scale (q := k) Ht.one hs fun x => by simp only [ev_cons, ev_nil]; grind
  refine ⟨.num hk, hh, hh, by simp, rfl, Nat.le_refl _, List.nodup_nil, .nil, fun x => ?_, ⟨k, hk, fun x => ?_⟩, fun a b _ => Cop.one hk fun x => ?_⟩
  · simp only [ev_cons, ev_nil, List.not_mem_nil, iff_false]; grind
  · simp only [ev_cons, ev_nil, lin]; grind
  · simp only [ev_cons, ev_nil]; grind
structure Pw (A w : Nat) (c q f : List Rat) (j : Nat) : Prop where
  t : Tight f
  ne : f ≠ []
  len : f.length = c.length + j * (q.length - 1)
  h : Ht (A + (w + 3) * j) f
  e : ∀ x, ev f x = ev c x * ev (ppw q j) x
theorem Pw.start {A w : Nat} {c q : List Rat} (t : Tight c) (ne : c ≠ []) (h : Ht A c) : Pw A w c q c 0 := ⟨t, ne, by simp, by simpa using h, fun x => by rw [ppw, ev_cons, ev_nil]; grind⟩
theorem Pw.next {A w : Nat} {c q f f' : List Rat} {j : Nat} (h : Pw A w c q f j) (hq : Ht w q) (ht : Tight f') (q1 : 2 ≤ q.length) (hl : f'.length = f.length + q.length - 1) (l5 : f.length ≤ 7) (e : ∀ x, ev f' x = ev f x * ev q x) : Pw A w c q f' (j + 1) := by
  have hf := List.length_pos_iff.mpr h.ne
  have hl2 := h.len
  refine ⟨ht, fun z => by rw [z] at hl; simp at hl; omega, ?_, ?_, fun x => by rw [e, h.e, ppw_ev]; grind⟩
  · rw [Nat.succ_mul]; omega
  · have := Ht.mul (m := 3) h.h hq (by omega) e
    rw [Nat.mul_succ]
    exact this.mono (by omega)
theorem KI.step {c L rs c' L' : List Rat} {x : Rat} {e : Nat} (h : KI c L rs) (hx : x ∉ rs) (xs : sz x ≤ 16) (hc : Pw (17 + 19 * (c.length - 1)) 16 c (ln x) c' (e + 1)) (hL : Pw (17 + 19 * (L.length - 1)) 16 L (ln x) L' 1) (l5 : c'.length ≤ 5) : KI c' L' (rs ++ [x]) := by
  have hl1 := hc.len
  have hl2 := hL.len
  have ll : (ln x).length = 2 := rfl
  rw [ll] at hl1 hl2
  have eL : ∀ y, ev L' y = ev L y * ev (ln x) y := fun y => by rw [hL.e, ppw_ev, ppw, ev_cons, ev_nil]; grind
  have hle := h.le
  have hlL := h.lL
  have nd' : (rs ++ [x]).Nodup := List.nodup_append.mpr ⟨h.nd, by simp, fun a ha b hb z => by rw [List.mem_singleton.mp hb] at z; exact hx (z ▸ ha)⟩
  refine ⟨h.kc.step (prm_line x) (cop_off fun z => hx ((h.zL x).mp z)) hc.t hL.t hc.e eL, hc.h.mono (by omega), hL.h.mono (by omega), l5, by rw [hl2]; simp; omega, by omega, nd', fun q hq => ?_, fun y => ?_, ?_, fun a b hab => ?_⟩
  · rcases List.mem_append.mp hq with hq | hq
    · exact h.rz q hq
    · rw [List.mem_singleton.mp hq]; exact xs
  · have pz : ∀ n, ev (ppw (ln x) (n + 1)) y = 0 ↔ y = x := fun n => by
      induction n with
      | zero => rw [ppw_ev, ppw, ev_cons, ev_nil, ln_ev]; constructor <;> intro z <;> grind
      | succ n ih =>
        rw [ppw_ev, Rat.mul_eq_zero, ih, ln_ev]
        constructor
        · rintro (z | z)
          · exact z
          · grind
        · exact .inl
    rw [hc.e, Rat.mul_eq_zero, h.zc, pz, List.mem_append, List.mem_singleton]
  · obtain ⟨k, hk, ek⟩ := h.sg
    exact ⟨k, hk, fun y => by rw [eL, ek, lin_snoc, ln_ev]; grind⟩
  · exact Cop.mul (h.bow a b fun r hr => hab r (List.mem_append_left _ hr)) (cop_bow (hab x (by simp))) eL
structure KF (c L rs : List Rat) : Prop where
  kc : KnownC c L
  hc : Ht 93 c
  hL : Ht 74 L
  lc : c.length ≤ 5
  lL : L.length ≤ 5
  nd : rs.Nodup
  rl : rs.length ≤ 3
  rz : Szs 16 rs
  zc : ∀ x, ev c x = 0 ↔ x ∈ rs
  sg : ∃ (k : Rat) (b : Rat → Rat), k ≠ 0 ∧ (∀ x, 0 < b x) ∧ ∀ x, ev L x = k * lin rs x * b x
theorem KF.zL {c L rs : List Rat} (h : KF c L rs) (x : Rat) : ev L x = 0 ↔ x ∈ rs := by
  obtain ⟨k, b, hk, hb, e⟩ := h.sg
  have := hb x
  rw [e, Rat.mul_eq_zero, Rat.mul_eq_zero, lin_zero]
  constructor
  · rintro ((z | z) | z)
    · exact absurd z hk
    · exact z
    · grind
  · exact fun z => .inl (.inr z)
theorem KI.fin {c L rs : List Rat} (h : KI c L rs) (hr : rs.length ≤ 3) : KF c L rs := by
  have h1 := h.lc
  have h2 := h.lL
  obtain ⟨k, hk, e⟩ := h.sg
  exact ⟨h.kc, h.hc.mono (by omega), h.hL.mono (by omega), h1, by omega, h.nd, hr, h.rz, h.zc, k, fun _ => 1, hk, fun _ => (by decide : (0 : Rat) < 1), fun x => by rw [e]; grind⟩
theorem bow_pos {a b : Rat} (h : 0 < 4 * a - b * b) (x : Rat) : 0 < a + b * x + x * x := by
  have : 0 ≤ (2 * x + b) * (2 * x + b) := by
    rcases (Rat.le_total : 0 ≤ 2 * x + b ∨ 2 * x + b ≤ 0) with z | z
    · exact Rat.mul_nonneg z z
    · have : (2 * x + b) * (2 * x + b) = (-(2 * x + b)) * (-(2 * x + b)) := by grind
      rw [this]
      exact Rat.mul_nonneg (by grind) (by grind)
  grind
theorem bow_ev (a b x : Rat) : ev [a, b, 1] x = a + b * x + x * x := by simp only [ev_cons, ev_nil]; grind
theorem KI.last {c L rs c' L' : List Rat} {a b : Rat} {e : Nat} (h : KI c L rs) (hab : 0 < 4 * a - b * b) (hc : Pw (17 + 19 * (c.length - 1)) 7 c [a, b, 1] c' (e + 1)) (hL : Pw (17 + 19 * (L.length - 1)) 7 L [a, b, 1] L' 1) (l5 : c'.length ≤ 5) : KF c' L' rs := by
  have hl1 := hc.len
  have hl2 := hL.len
  have ll : [a, b, 1].length = 3 := rfl
  rw [ll] at hl1 hl2
  have eL : ∀ y, ev L' y = ev L y * ev [a, b, 1] y := fun y => by rw [hL.e, ppw_ev, ppw, ev_cons, ev_nil]; grind
  have hle := h.le
  have hlL := h.lL
  have hp := bow_pos hab
  have hne : ∀ x, a + b * x + x * x ≠ 0 := fun x z => by have := hp x; grind
  obtain ⟨k, hk, ek⟩ := h.sg
  refine ⟨h.kc.step (prm_bow (fun z => by rw [z] at hab; exact absurd hab (by decide))) (h.bow a b fun r _ => hne r) hc.t hL.t hc.e eL, hc.h.mono (by omega), hL.h.mono (by omega), l5, by omega, h.nd, by omega, h.rz, fun y => ?_, k, fun x => a + b * x + x * x, hk, hp, fun x => by rw [eL, ek, bow_ev]⟩
  have pz : ∀ n, ev (ppw [a, b, 1] n) y ≠ 0 := fun n => by
    induction n with
    | zero => rw [ppw, ev_cons, ev_nil]; grind
    | succ n ih =>
      rw [ppw_ev, bow_ev]
      intro z
      rcases Rat.mul_eq_zero.mp z with z | z
      · exact ih z
      · exact hne y z
  rw [hc.e, Rat.mul_eq_zero, h.zc]
  exact ⟨fun z => z.elim id fun w => absurd w (pz _), .inl⟩
end PP
namespace PP
open PySem PySem.Spec PyProof.Rows L2
section
variable {Γ : Nat → SpD} {gl : Nat → D} {ds : List D} {g : G} {Q : QD} {E X : XD}
theorem nums_mem {rs : List Rat} {x : Rat} : num x ∈ nums rs ↔ x ∈ rs := by
  unfold nums
  constructor
  · intro h
    obtain ⟨y, hy, e⟩ := List.mem_map.mp h
    rw [← num_inj e]; exact hy
  · exact fun h => List.mem_map.mpr ⟨x, h, rfl⟩
theorem nin_num {d : Addr} {rs : List Rat} {x : Rat} (h : g d = some (nums rs)) (k : Q (.bl (decide (x ∉ rs))) g) : dIn true (num x) (.dct d) g Q := by
  refine ⟨rfl, ⟨[x.num, x.den], rfl⟩, nums rs, h, fun b hb => ?_⟩
  have hb : b = true ↔ x ∉ rs := hb.trans (not_congr nums_mem)
  have : b = decide (x ∉ rs) := by
    cases b with
    | true => exact (decide_eq_true (hb.mp rfl)).symm
    | false => exact (decide_eq_false fun z => by cases hb.mpr z).symm
  rw [this]; exact k
theorem put_num {d : Addr} {rs : List Rat} {x : Rat} {v : D} {N : G → Prop} (h : g d = some (nums rs)) (hl : rs.length ≤ 100) (hx : x ∉ rs) (k : N (g.up d (nums (rs ++ [x])))) : dSet (.dct d) (num x) v g N := by
  refine ⟨[x.num, x.den], nums rs, rfl, h, by rw [nums_len]; exact slN (by omega), fun ks' h1 h2 => ?_⟩
  rw [h2 fun z => hx (nums_mem.mp z)]
  have : nums rs ++ [tD [x.num, (x.den : Int)]] = nums (rs ++ [x]) := nums_snoc
  rw [this]; exact k
theorem G.le_del {g g' : G} {d : Addr} (h : g.le g') (hd : g d = none) : g.le (g'.del d) := fun b xs e => by
  unfold G.del
  split
  · rename_i z; rw [z, hd] at e; cases e
  · exact h _ _ e
theorem c_prodT {p q : List Rat} (b c : Nat) (hp0 : p ≠ []) (hq0 : q ≠ []) (tp : Tight p) (tq : Tight q) (hp : Szs b p) (hq : Szs c q) (hb : b ≤ 1000) (hc : c ≤ 1000) (hl : p.length ≤ 100) (hl2 : q.length ≤ 100)
    (k : ∀ f, Tight f → f.length = p.length + q.length - 1 → (∀ x, ev f x = ev p x * ev q x) → Q (.tup (nums f)) g) : spProdT [.tup (nums p), .tup (nums q)] g Q X :=
  ⟨p, q, b, c, rfl, hp0, hq0, tp, tq, hp, hq, (by
    have h1 : min p.length q.length * (b + c + 1) ≤ 100 * 2001 := Nat.mul_le_mul (by omega) (by omega)
    omega), hl, hl2, fun f h1 h2 _ h4 => k f h1 h2 h4⟩
theorem c_pw {A w j : Nat} {c q f : List Rat} (h : Pw A w c q f j) (hA : A + (w + 3) * j ≤ 900) (hw : w ≤ 100) (hq : Ht w q) (tq : Tight q) (q1 : 2 ≤ q.length) (q2 : q.length ≤ 3) (l5 : f.length ≤ 7) (k : ∀ f', Pw A w c q f' (j + 1) → Q (.tup (nums f')) g) : spProdT [.tup (nums f), .tup (nums q)] g Q X :=
  c_prodT _ _ h.ne (fun z => by rw [z] at q1; cases q1) h.t tq h.h.szs hq.szs (by omega) (by omega) (by omega) (by omega) fun f' t l e => k f' (h.next hq t q1 l l5 e)
def spKnown : SpD := fun ds g Q _ => ∃ (a : Addr) (xs : List D) (n : Nat), ds = [.ref a] ∧ g a = some xs ∧ PenL xs n ∧ n + 60 < 2 ^ 50 ∧
  ∀ c L rs xs', KF c L rs → PenL xs' (n + 60) → Q (.tup [.tup (nums c), .dfz (nums rs), .tup (nums L)]) (g.up a xs')
theorem K_known {o : G} {a : Addr} {xs : List D} {n : Nat} {L : List (Addr × List D)} (K : KN o a g ((a, xs) :: L)) (hp : PenL xs n) (hn : n + 60 < 2 ^ 50)
    (k : ∀ c l rs xs' g', KF c l rs → PenL xs' (n + 60) → KN o a g' ((a, xs') :: L) → Q (.tup [.tup (nums c), .dfz (nums rs), .tup (nums l)]) g') : spKnown [.ref a] g Q X :=
  ⟨a, xs, n, rfl, K.get 0 _ _ rfl, hp, hn, fun c l rs xs' h1 h2 => k c l rs xs' _ h1 h2 (K.put 0 rfl)⟩
theorem pure_law_known_v5 (h4 : Γ 4 = spDraw) (h5 : Γ 5 = spLowest) (h35 : Γ 35 = spMinus) (h36 : Γ 36 = spPenFn (isNumD 16) 4) (h187 : Γ 187 = spProdT) (h : spKnown ds g Q E) : mnS Γ gl sx_law_known_v5 (endsOf Q E) (startD ns_law_known_v5 ds) g := by
  obtain ⟨a, xs, n, rfl, ha, hp, hn, h⟩ := h
  have K : KN g a g [(a, xs)] := KN.start ha
  simp only [sx_law_known_v5, h4, h36, mnS, dLamr, mn, Mn.of, Op.rd, Cm.rd, Bl.rd, Mt.rd, Mt.rc, dNop, dSeq, dExpr, dRet, dRetN, dIf, gD, dAsg, dPar, dPut, dRaise, dVar, dC, dBin, dUn, dNil, dCons, dTup, dLst, dTst, dAndT, dOrT, dNotT, dYes, dAnd, dOr, dNot, dChain, dCall, dCB, dMt, dLset, dSrev, dTry, dIsx, dEmp, dDic1, dStp, xsub, Ex.sub, dSlc, dPart, dNoPart, dIAny, dI1, dI2, dI3, dFor, dComp, compB, wipeD, startD, endsOf, at_mk, setAll, add_int, sub_int, mul_int, mul_tup, pow_int, mod_int, fdiv_int, lt_int, le_int, gt_int, ge_int, eq_int, neg_int, len_tup, len_scr, abs_int, max_int, min_int, int_int, int_bl, r1_int, r2_int, tuple_tup, list_tup, over_tup, rev_tup, enum_tup, zip_tup, slc_tup, add_tup, isi_any, ix_tup, ix_scr, ix_num0, ix_num1, len_num, num_0, num_1, atI_0, atI_1, atI_2, List.map, List.cons_append, List.nil_append, List.getElem?_cons_zero, List.getElem?_cons_succ, List.getElem?_nil, List.set_cons_zero, List.set_cons_succ, List.replicate, List.length_cons, List.length_nil, List.foldr_cons, List.foldr_nil, Nat.reduceAdd, Nat.reduceSub, List.replicate_succ, List.replicate_zero, G_up_same, decide_eq_true_eq, Bool.not_eq_true', Bool.false_eq_true, if_true, if_false, ite_true, ite_false, and_true, true_and, reduceCtorEq, Bool.not_true, Bool.not_false, Bool.false_bne, Bool.true_bne, sl0, sl1, sl2, sl3, sl4]
  refine K_pen K hp (by omega) fun d1 xs1 g1 hd1 p1 K => ?_
  obtain ⟨k0, rfl, hk0⟩ := hd1
  -- behind the top
  have main : ∀ (k : Rat) xs2 g2, k ≠ 0 → sz k ≤ 16 → PenL xs2 (n + 5) → KN g a g2 [(a, xs2)] →
      mnS Γ gl sx_law_known_v5_3 (endsOf Q E) [some (.ref a), some (num k), none, none, none, none, none, none, none, none, none] g2 := fun k xs2 g2 hk hs p2 K => by
    simp only [sx_law_known_v5_3, h4, h5, h35, h36, h187, mnS, dLamr, mn, Mn.of, Op.rd, Cm.rd, Bl.rd, Mt.rd, Mt.rc, dNop, dSeq, dExpr, dRet, dRetN, dIf, gD, dAsg, dPar, dPut, dRaise, dVar, dC, dBin, dUn, dNil, dCons, dTup, dLst, dTst, dAndT, dOrT, dNotT, dYes, dAnd, dOr, dNot, dChain, dCall, dCB, dMt, dLset, dSrev, dTry, dIsx, dEmp, dDic1, dStp, xsub, Ex.sub, dSlc, dPart, dNoPart, dIAny, dI1, dI2, dI3, dFor, dComp, compB, wipeD, startD, endsOf, at_mk, setAll, add_int, sub_int, mul_int, mul_tup, pow_int, mod_int, fdiv_int, lt_int, le_int, gt_int, ge_int, eq_int, neg_int, len_tup, len_scr, abs_int, max_int, min_int, int_int, int_bl, r1_int, r2_int, tuple_tup, list_tup, over_tup, rev_tup, enum_tup, zip_tup, slc_tup, add_tup, isi_any, ix_tup, ix_scr, ix_num0, ix_num1, len_num, num_0, num_1, atI_0, atI_1, atI_2, List.map, List.cons_append, List.nil_append, List.getElem?_cons_zero, List.getElem?_cons_succ, List.getElem?_nil, List.set_cons_zero, List.set_cons_succ, List.replicate, List.length_cons, List.length_nil, List.foldr_cons, List.foldr_nil, Nat.reduceAdd, Nat.reduceSub, List.replicate_succ, List.replicate_zero, G_up_same, decide_eq_true_eq, Bool.not_eq_true', Bool.false_eq_true, if_true, if_false, ite_true, ite_false, and_true, true_and, reduceCtorEq, Bool.not_true, Bool.not_false, Bool.false_bne, Bool.true_bne, sl0, sl1, sl2, sl3, sl4]
    intro d hd
    have hda : d ≠ a := fun z => by rw [z, K.get 0 _ _ rfl] at hd; cases hd
    have K := K_new (ys := []) K hd
    refine K_draw K (by decide) p2 (by omega) fun m xs3 g3 hm p3 K => ?_
    try simp only [mnS, dLamr, mn, Mn.of, Op.rd, Cm.rd, Bl.rd, Mt.rd, Mt.rc, dNop, dSeq, dExpr, dRet, dRetN, dIf, gD, dAsg, dPar, dPut, dRaise, dVar, dC, dBin, dUn, dNil, dCons, dTup, dLst, dTst, dAndT, dOrT, dNotT, dYes, dAnd, dOr, dNot, dChain, dCall, dCB, dMt, dLset, dSrev, dTry, dIsx, dEmp, dDic1, dStp, xsub, Ex.sub, dSlc, dPart, dNoPart, dIAny, dI1, dI2, dI3, dFor, dComp, compB, wipeD, startD, endsOf, at_mk, setAll, add_int, sub_int, mul_int, mul_tup, pow_int, mod_int, fdiv_int, lt_int, le_int, gt_int, ge_int, eq_int, neg_int, len_tup, len_scr, abs_int, max_int, min_int, int_int, int_bl, r1_int, r2_int, tuple_tup, list_tup, over_tup, rev_tup, enum_tup, zip_tup, slc_tup, add_tup, isi_any, ix_tup, ix_scr, ix_num0, ix_num1, len_num, num_0, num_1, atI_0, atI_1, atI_2, List.map, List.cons_append, List.nil_append, List.getElem?_cons_zero, List.getElem?_cons_succ, List.getElem?_nil, List.set_cons_zero, List.set_cons_succ, List.replicate, List.length_cons, List.length_nil, List.foldr_cons, List.foldr_nil, Nat.reduceAdd, Nat.reduceSub, List.replicate_succ, List.replicate_zero, G_up_same, decide_eq_true_eq, Bool.not_eq_true', Bool.false_eq_true, if_true, if_false, ite_true, ite_false, and_true, true_and, reduceCtorEq, Bool.not_true, Bool.not_false, Bool.false_bne, Bool.true_bne, sl0, sl1, sl2, sl3, sl4]
    refine ⟨by omega, ?_⟩
    refine for_inv (fun j env g' => ∃ c L rs o5 o6 o7 o9 o10 xs', env = [some (.ref a), some (num k), some (.tup (nums c)), some (.tup (nums L)), some (.dct d), o5, o6, o7, none, o9, o10] ∧ j ≤ m ∧ rs.length ≤ j ∧ KI c L rs ∧ PenL xs' (n + 6 + 7 * j) ∧ KN g a g' [(a, xs'), (d, nums rs)]) (fun _ _ _ _ => trivial) ?_ ?_
      ⟨[k], [k], [], _, _, _, _, _, _, rfl, Nat.zero_le _, Nat.zero_le _, .start hk hs, p3.mono (by omega), K⟩
    · rintro j x env g' N hj ⟨c, L, rs, o5, o6, o7, o9, o10, xs', rfl, hjm, hrj, hI, p4, K⟩ hN
      obtain ⟨hj1, rfl⟩ := range_at hj
      have hjm : j < m := by omega
      try simp only [mnS, dLamr, mn, Mn.of, Op.rd, Cm.rd, Bl.rd, Mt.rd, Mt.rc, dNop, dSeq, dExpr, dRet, dRetN, dIf, gD, dAsg, dPar, dPut, dRaise, dVar, dC, dBin, dUn, dNil, dCons, dTup, dLst, dTst, dAndT, dOrT, dNotT, dYes, dAnd, dOr, dNot, dChain, dCall, dCB, dMt, dLset, dSrev, dTry, dIsx, dEmp, dDic1, dStp, xsub, Ex.sub, dSlc, dPart, dNoPart, dIAny, dI1, dI2, dI3, dFor, dComp, compB, wipeD, startD, endsOf, at_mk, setAll, add_int, sub_int, mul_int, mul_tup, pow_int, mod_int, fdiv_int, lt_int, le_int, gt_int, ge_int, eq_int, neg_int, len_tup, len_scr, abs_int, max_int, min_int, int_int, int_bl, r1_int, r2_int, tuple_tup, list_tup, over_tup, rev_tup, enum_tup, zip_tup, slc_tup, add_tup, isi_any, ix_tup, ix_scr, ix_num0, ix_num1, len_num, num_0, num_1, atI_0, atI_1, atI_2, List.map, List.cons_append, List.nil_append, List.getElem?_cons_zero, List.getElem?_cons_succ, List.getElem?_nil, List.set_cons_zero, List.set_cons_succ, List.replicate, List.length_cons, List.length_nil, List.foldr_cons, List.foldr_nil, Nat.reduceAdd, Nat.reduceSub, List.replicate_succ, List.replicate_zero, G_up_same, decide_eq_true_eq, Bool.not_eq_true', Bool.false_eq_true, if_true, if_false, ite_true, ite_false, and_true, true_and, reduceCtorEq, Bool.not_true, Bool.not_false, Bool.false_bne, Bool.true_bne, sl0, sl1, sl2, sl3, sl4]
      refine K_draw K (by decide) p4 (by omega) fun e1 ys1 g5 he1 p5 K => ?_
      simp only [mnS, dLamr, mn, Mn.of, Op.rd, Cm.rd, Bl.rd, Mt.rd, Mt.rc, dNop, dSeq, dExpr, dRet, dRetN, dIf, gD, dAsg, dPar, dPut, dRaise, dVar, dC, dBin, dUn, dNil, dCons, dTup, dLst, dTst, dAndT, dOrT, dNotT, dYes, dAnd, dOr, dNot, dChain, dCall, dCB, dMt, dLset, dSrev, dTry, dIsx, dEmp, dDic1, dStp, xsub, Ex.sub, dSlc, dPart, dNoPart, dIAny, dI1, dI2, dI3, dFor, dComp, compB, wipeD, startD, endsOf, at_mk, setAll, add_int, sub_int, mul_int, mul_tup, pow_int, mod_int, fdiv_int, lt_int, le_int, gt_int, ge_int, eq_int, neg_int, len_tup, len_scr, abs_int, max_int, min_int, int_int, int_bl, r1_int, r2_int, tuple_tup, list_tup, over_tup, rev_tup, enum_tup, zip_tup, slc_tup, add_tup, isi_any, ix_tup, ix_scr, ix_num0, ix_num1, len_num, num_0, num_1, atI_0, atI_1, atI_2, List.map, List.cons_append, List.nil_append, List.getElem?_cons_zero, List.getElem?_cons_succ, List.getElem?_nil, List.set_cons_zero, List.set_cons_succ, List.replicate, List.length_cons, List.length_nil, List.foldr_cons, List.foldr_nil, Nat.reduceAdd, Nat.reduceSub, List.replicate_succ, List.replicate_zero, G_up_same, decide_eq_true_eq, Bool.not_eq_true', Bool.false_eq_true, if_true, if_false, ite_true, ite_false, and_true, true_and, reduceCtorEq, Bool.not_true, Bool.not_false, Bool.false_bne, Bool.true_bne, sl0, sl1, sl2, sl3, sl4, c_lowest]
      refine ⟨by decide, K_pen K p5 (by omega) fun dx ys2 g6 hdx p6 K => ?_⟩
      obtain ⟨y, rfl, hy⟩ := hdx
      intro p hpn
      have K := K_new (ys := [num (Rat.divInt ((e1 : Int) - 8) 4), num y]) K hpn
      refine K_draw K (by decide) p6 (by omega) fun e3 ys3 g7 he3 p7 K => ?_
      try simp only [mnS, dLamr, mn, Mn.of, Op.rd, Cm.rd, Bl.rd, Mt.rd, Mt.rc, dNop, dSeq, dExpr, dRet, dRetN, dIf, gD, dAsg, dPar, dPut, dRaise, dVar, dC, dBin, dUn, dNil, dCons, dTup, dLst, dTst, dAndT, dOrT, dNotT, dYes, dAnd, dOr, dNot, dChain, dCall, dCB, dMt, dLset, dSrev, dTry, dIsx, dEmp, dDic1, dStp, xsub, Ex.sub, dSlc, dPart, dNoPart, dIAny, dI1, dI2, dI3, dFor, dComp, compB, wipeD, startD, endsOf, at_mk, setAll, add_int, sub_int, mul_int, mul_tup, pow_int, mod_int, fdiv_int, lt_int, le_int, gt_int, ge_int, eq_int, neg_int, len_tup, len_scr, abs_int, max_int, min_int, int_int, int_bl, r1_int, r2_int, tuple_tup, list_tup, over_tup, rev_tup, enum_tup, zip_tup, slc_tup, add_tup, isi_any, ix_tup, ix_scr, ix_num0, ix_num1, len_num, num_0, num_1, atI_0, atI_1, atI_2, List.map, List.cons_append, List.nil_append, List.getElem?_cons_zero, List.getElem?_cons_succ, List.getElem?_nil, List.set_cons_zero, List.set_cons_succ, List.replicate, List.length_cons, List.length_nil, List.foldr_cons, List.foldr_nil, Nat.reduceAdd, Nat.reduceSub, List.replicate_succ, List.replicate_zero, G_up_same, decide_eq_true_eq, Bool.not_eq_true', Bool.false_eq_true, if_true, if_false, ite_true, ite_false, and_true, true_and, reduceCtorEq, Bool.not_true, Bool.not_false, Bool.false_bne, Bool.true_bne, sl0, sl1, sl2, sl3, sl4]
      refine ix_some (K.get 2 _ _ rfl) (by split <;> omega) (by simp only [List.length_cons, List.length_nil]; split <;> omega) fun z hz => ?_
      have hz : ∃ z' : Rat, z = num z' ∧ sz z' ≤ 16 := by
        simp only [List.mem_cons, List.not_mem_nil, or_false] at hz
        rcases hz with rfl | rfl
        · exact ⟨_, rfl, sz_divInt (c := 16) (by omega) (by decide) (by decide)⟩
        · exact ⟨y, rfl, hy⟩
      obtain ⟨z, rfl, hzs⟩ := hz
      refine K_draw K (by decide) p7 (by omega) fun e4 ys4 g8 he4 p8 K => ?_
      have K := K.pick [0, 1] (by decide)
      try simp only [mnS, dLamr, mn, Mn.of, Op.rd, Cm.rd, Bl.rd, Mt.rd, Mt.rc, dNop, dSeq, dExpr, dRet, dRetN, dIf, gD, dAsg, dPar, dPut, dRaise, dVar, dC, dBin, dUn, dNil, dCons, dTup, dLst, dTst, dAndT, dOrT, dNotT, dYes, dAnd, dOr, dNot, dChain, dCall, dCB, dMt, dLset, dSrev, dTry, dIsx, dEmp, dDic1, dStp, xsub, Ex.sub, dSlc, dPart, dNoPart, dIAny, dI1, dI2, dI3, dFor, dComp, compB, wipeD, startD, endsOf, at_mk, setAll, add_int, sub_int, mul_int, mul_tup, pow_int, mod_int, fdiv_int, lt_int, le_int, gt_int, ge_int, eq_int, neg_int, len_tup, len_scr, abs_int, max_int, min_int, int_int, int_bl, r1_int, r2_int, tuple_tup, list_tup, over_tup, rev_tup, enum_tup, zip_tup, slc_tup, add_tup, isi_any, ix_tup, ix_scr, ix_num0, ix_num1, len_num, num_0, num_1, atI_0, atI_1, atI_2, List.map, List.cons_append, List.nil_append, List.getElem?_cons_zero, List.getElem?_cons_succ, List.getElem?_nil, List.set_cons_zero, List.set_cons_succ, List.replicate, List.length_cons, List.length_nil, List.foldr_cons, List.foldr_nil, Nat.reduceAdd, Nat.reduceSub, List.replicate_succ, List.replicate_zero, G_up_same, decide_eq_true_eq, Bool.not_eq_true', Bool.false_eq_true, if_true, if_false, ite_true, ite_false, and_true, true_and, reduceCtorEq, Bool.not_true, Bool.not_false, Bool.false_bne, Bool.true_bne, sl0, sl1, sl2, sl3, sl4]
      refine nin_num (K.get 1 _ _ rfl) ?_
      have skip : N [some (.ref a), some (num k), some (.tup (nums c)), some (.tup (nums L)), some (.dct d), some (.int (0 + (j : Int))), some (.int (1 + (e4 : Int))), some (num z), none, o9, o10] g8 :=
        hN _ _ ⟨c, L, rs, _, _, _, _, _, ys4, rfl, hjm, by omega, hI, p8.mono (by omega), K⟩
      by_cases hzr : z ∈ rs
      · simp only [hzr, not_true_eq_false, decide_false, mnS, dLamr, mn, Mn.of, Op.rd, Cm.rd, Bl.rd, Mt.rd, Mt.rc, dNop, dSeq, dExpr, dRet, dRetN, dIf, gD, dAsg, dPar, dPut, dRaise, dVar, dC, dBin, dUn, dNil, dCons, dTup, dLst, dTst, dAndT, dOrT, dNotT, dYes, dAnd, dOr, dNot, dChain, dCall, dCB, dMt, dLset, dSrev, dTry, dIsx, dEmp, dDic1, dStp, xsub, Ex.sub, dSlc, dPart, dNoPart, dIAny, dI1, dI2, dI3, dFor, dComp, compB, wipeD, startD, endsOf, at_mk, setAll, add_int, sub_int, mul_int, mul_tup, pow_int, mod_int, fdiv_int, lt_int, le_int, gt_int, ge_int, eq_int, neg_int, len_tup, len_scr, abs_int, max_int, min_int, int_int, int_bl, r1_int, r2_int, tuple_tup, list_tup, over_tup, rev_tup, enum_tup, zip_tup, slc_tup, add_tup, isi_any, ix_tup, ix_scr, ix_num0, ix_num1, len_num, num_0, num_1, atI_0, atI_1, atI_2, List.map, List.cons_append, List.nil_append, List.getElem?_cons_zero, List.getElem?_cons_succ, List.getElem?_nil, List.set_cons_zero, List.set_cons_succ, List.replicate, List.length_cons, List.length_nil, List.foldr_cons, List.foldr_nil, Nat.reduceAdd, Nat.reduceSub, List.replicate_succ, List.replicate_zero, G_up_same, decide_eq_true_eq, Bool.not_eq_true', Bool.false_eq_true, if_true, if_false, ite_true, ite_false, and_true, true_and, reduceCtorEq, Bool.not_true, Bool.not_false, Bool.false_bne, Bool.true_bne, sl0, sl1, sl2, sl3, sl4]
        exact skip
      simp only [hzr, not_false_eq_true, decide_true, mnS, dLamr, mn, Mn.of, Op.rd, Cm.rd, Bl.rd, Mt.rd, Mt.rc, dNop, dSeq, dExpr, dRet, dRetN, dIf, gD, dAsg, dPar, dPut, dRaise, dVar, dC, dBin, dUn, dNil, dCons, dTup, dLst, dTst, dAndT, dOrT, dNotT, dYes, dAnd, dOr, dNot, dChain, dCall, dCB, dMt, dLset, dSrev, dTry, dIsx, dEmp, dDic1, dStp, xsub, Ex.sub, dSlc, dPart, dNoPart, dIAny, dI1, dI2, dI3, dFor, dComp, compB, wipeD, startD, endsOf, at_mk, setAll, add_int, sub_int, mul_int, mul_tup, pow_int, mod_int, fdiv_int, lt_int, le_int, gt_int, ge_int, eq_int, neg_int, len_tup, len_scr, abs_int, max_int, min_int, int_int, int_bl, r1_int, r2_int, tuple_tup, list_tup, over_tup, rev_tup, enum_tup, zip_tup, slc_tup, add_tup, isi_any, ix_tup, ix_scr, ix_num0, ix_num1, len_num, num_0, num_1, atI_0, atI_1, atI_2, List.map, List.cons_append, List.nil_append, List.getElem?_cons_zero, List.getElem?_cons_succ, List.getElem?_nil, List.set_cons_zero, List.set_cons_succ, List.replicate, List.length_cons, List.length_nil, List.foldr_cons, List.foldr_nil, Nat.reduceAdd, Nat.reduceSub, List.replicate_succ, List.replicate_zero, G_up_same, decide_eq_true_eq, Bool.not_eq_true', Bool.false_eq_true, if_true, if_false, ite_true, ite_false, and_true, true_and, reduceCtorEq, Bool.not_true, Bool.not_false, Bool.false_bne, Bool.true_bne, sl0, sl1, sl2, sl3, sl4, nums_len]
      split
      case isFalse => exact skip
      rename_i hlen
      have hlen : c.length + (1 + e4) < 6 := by omega
      have hrl := hI.lL
      have hrl2 := hI.le
      refine put_num (K.get 1 _ _ rfl) (by omega) hzr ?_
      have K := K.put (ys := nums (rs ++ [z])) 1 rfl
      have s0 : sz (0 : Rat) = 1 := rfl
      simp only [c_bin]
      refine ⟨by omega, ?_⟩
      have eln : D.tup [num (0 - z), num 1] = .tup (nums (ln z)) := rfl
      simp only [eln, mnS, dLamr, mn, Mn.of, Op.rd, Cm.rd, Bl.rd, Mt.rd, Mt.rc, dNop, dSeq, dExpr, dRet, dRetN, dIf, gD, dAsg, dPar, dPut, dRaise, dVar, dC, dBin, dUn, dNil, dCons, dTup, dLst, dTst, dAndT, dOrT, dNotT, dYes, dAnd, dOr, dNot, dChain, dCall, dCB, dMt, dLset, dSrev, dTry, dIsx, dEmp, dDic1, dStp, xsub, Ex.sub, dSlc, dPart, dNoPart, dIAny, dI1, dI2, dI3, dFor, dComp, compB, wipeD, startD, endsOf, at_mk, setAll, add_int, sub_int, mul_int, mul_tup, pow_int, mod_int, fdiv_int, lt_int, le_int, gt_int, ge_int, eq_int, neg_int, len_tup, len_scr, abs_int, max_int, min_int, int_int, int_bl, r1_int, r2_int, tuple_tup, list_tup, over_tup, rev_tup, enum_tup, zip_tup, slc_tup, add_tup, isi_any, ix_tup, ix_scr, ix_num0, ix_num1, len_num, num_0, num_1, atI_0, atI_1, atI_2, List.map, List.cons_append, List.nil_append, List.getElem?_cons_zero, List.getElem?_cons_succ, List.getElem?_nil, List.set_cons_zero, List.set_cons_succ, List.replicate, List.length_cons, List.length_nil, List.foldr_cons, List.foldr_nil, Nat.reduceAdd, Nat.reduceSub, List.replicate_succ, List.replicate_zero, G_up_same, decide_eq_true_eq, Bool.not_eq_true', Bool.false_eq_true, if_true, if_false, ite_true, ite_false, and_true, true_and, reduceCtorEq, Bool.not_true, Bool.not_false, Bool.false_bne, Bool.true_bne, sl0, sl1, sl2, sl3, sl4]
      have l1 := hI.lc
      refine c_pw (Pw.start (w := 16) (q := ln z) hI.kc.tL hI.kc.L0 hI.hL) (by omega) (by decide) (ln_ht hzs) (ln_tight z) (by simp) (by simp) (by omega) fun L' hL' => ?_
      try simp only [mnS, dLamr, mn, Mn.of, Op.rd, Cm.rd, Bl.rd, Mt.rd, Mt.rc, dNop, dSeq, dExpr, dRet, dRetN, dIf, gD, dAsg, dPar, dPut, dRaise, dVar, dC, dBin, dUn, dNil, dCons, dTup, dLst, dTst, dAndT, dOrT, dNotT, dYes, dAnd, dOr, dNot, dChain, dCall, dCB, dMt, dLset, dSrev, dTry, dIsx, dEmp, dDic1, dStp, xsub, Ex.sub, dSlc, dPart, dNoPart, dIAny, dI1, dI2, dI3, dFor, dComp, compB, wipeD, startD, endsOf, at_mk, setAll, add_int, sub_int, mul_int, mul_tup, pow_int, mod_int, fdiv_int, lt_int, le_int, gt_int, ge_int, eq_int, neg_int, len_tup, len_scr, abs_int, max_int, min_int, int_int, int_bl, r1_int, r2_int, tuple_tup, list_tup, over_tup, rev_tup, enum_tup, zip_tup, slc_tup, add_tup, isi_any, ix_tup, ix_scr, ix_num0, ix_num1, len_num, num_0, num_1, atI_0, atI_1, atI_2, List.map, List.cons_append, List.nil_append, List.getElem?_cons_zero, List.getElem?_cons_succ, List.getElem?_nil, List.set_cons_zero, List.set_cons_succ, List.replicate, List.length_cons, List.length_nil, List.foldr_cons, List.foldr_nil, Nat.reduceAdd, Nat.reduceSub, List.replicate_succ, List.replicate_zero, G_up_same, decide_eq_true_eq, Bool.not_eq_true', Bool.false_eq_true, if_true, if_false, ite_true, ite_false, and_true, true_and, reduceCtorEq, Bool.not_true, Bool.not_false, Bool.false_bne, Bool.true_bne, sl0, sl1, sl2, sl3, sl4]
      refine ⟨by omega, ?_⟩
      refine for_inv (fun i env g' => ∃ f o9, env = [some (.ref a), some (num k), some (.tup (nums f)), some (.tup (nums L')), some (.dct d), some (.int (0 + (j : Int))), some (.int (1 + (e4 : Int))), some (num z), none, o9, some (.tup (nums (ln z)))] ∧ g' = g8.up d (nums (rs ++ [z])) ∧ Pw (17 + 19 * (c.length - 1)) 16 c (ln z) f i) (fun _ _ _ _ => trivial) ?_ ?_
        ⟨c, _, rfl, rfl, .start hI.kc.tc hI.kc.c0 hI.hc⟩
      · rintro i x env g' M hi ⟨f, o9, rfl, rfl, hf⟩ hM
        obtain ⟨hi1, rfl⟩ := range_at hi
        have hfl := hf.len
        have ll : (ln z).length = 2 := rfl
        rw [ll] at hfl
        try simp only [mnS, dLamr, mn, Mn.of, Op.rd, Cm.rd, Bl.rd, Mt.rd, Mt.rc, dNop, dSeq, dExpr, dRet, dRetN, dIf, gD, dAsg, dPar, dPut, dRaise, dVar, dC, dBin, dUn, dNil, dCons, dTup, dLst, dTst, dAndT, dOrT, dNotT, dYes, dAnd, dOr, dNot, dChain, dCall, dCB, dMt, dLset, dSrev, dTry, dIsx, dEmp, dDic1, dStp, xsub, Ex.sub, dSlc, dPart, dNoPart, dIAny, dI1, dI2, dI3, dFor, dComp, compB, wipeD, startD, endsOf, at_mk, setAll, add_int, sub_int, mul_int, mul_tup, pow_int, mod_int, fdiv_int, lt_int, le_int, gt_int, ge_int, eq_int, neg_int, len_tup, len_scr, abs_int, max_int, min_int, int_int, int_bl, r1_int, r2_int, tuple_tup, list_tup, over_tup, rev_tup, enum_tup, zip_tup, slc_tup, add_tup, isi_any, ix_tup, ix_scr, ix_num0, ix_num1, len_num, num_0, num_1, atI_0, atI_1, atI_2, List.map, List.cons_append, List.nil_append, List.getElem?_cons_zero, List.getElem?_cons_succ, List.getElem?_nil, List.set_cons_zero, List.set_cons_succ, List.replicate, List.length_cons, List.length_nil, List.foldr_cons, List.foldr_nil, Nat.reduceAdd, Nat.reduceSub, List.replicate_succ, List.replicate_zero, G_up_same, decide_eq_true_eq, Bool.not_eq_true', Bool.false_eq_true, if_true, if_false, ite_true, ite_false, and_true, true_and, reduceCtorEq, Bool.not_true, Bool.not_false, Bool.false_bne, Bool.true_bne, sl0, sl1, sl2, sl3, sl4]
        refine c_pw hf (by omega) (by decide) (ln_ht hzs) (ln_tight z) (by simp) (by simp) (by omega) fun f' hf' => ?_
        exact hM _ _ ⟨f', _, rfl, rfl, hf'⟩
      · rintro env g' ⟨f, o9, rfl, rfl, hf⟩
        rw [range_len, show ((1 : Int) + (e4 : Int)).toNat = e4 + 1 by omega] at hf
        have hfl := hf.len
        have ll : (ln z).length = 2 := rfl
        rw [ll] at hfl
        exact hN _ _ ⟨f, L', rs ++ [z], _, _, _, _, _, ys4, rfl, hjm, by simp; omega, hI.step hzr hzs hf hL' (by omega), p8.mono (by omega), K⟩
    · rintro env g' ⟨c, L, rs, o5, o6, o7, o9, o10, xs', rfl, hjm, hrj, hI, p4, K⟩
      rw [range_len, show ((m : Int)).toNat = m by omega] at hrj p4
      have last : ∀ c L xs5 g5 o6 o8 o9, KF c L rs → PenL xs5 (n + 60) → KN g a g5 [(a, xs5), (d, nums rs)] → mnS Γ gl sx_law_known_v5_1 (endsOf Q E) [some (.ref a), some (num k), some (.tup (nums c)), some (.tup (nums L)), some (.dct d), o5, o6, o7, o8, o9, o10] g5 := fun c L xs5 g5 o6 o8 o9 hF p5 K => by
        simp only [sx_law_known_v5_1, mnS, dLamr, mn, Mn.of, Op.rd, Cm.rd, Bl.rd, Mt.rd, Mt.rc, dNop, dSeq, dExpr, dRet, dRetN, dIf, gD, dAsg, dPar, dPut, dRaise, dVar, dC, dBin, dUn, dNil, dCons, dTup, dLst, dTst, dAndT, dOrT, dNotT, dYes, dAnd, dOr, dNot, dChain, dCall, dCB, dMt, dLset, dSrev, dTry, dIsx, dEmp, dDic1, dStp, xsub, Ex.sub, dSlc, dPart, dNoPart, dIAny, dI1, dI2, dI3, dFor, dComp, compB, wipeD, startD, endsOf, at_mk, setAll, add_int, sub_int, mul_int, mul_tup, pow_int, mod_int, fdiv_int, lt_int, le_int, gt_int, ge_int, eq_int, neg_int, len_tup, len_scr, abs_int, max_int, min_int, int_int, int_bl, r1_int, r2_int, tuple_tup, list_tup, over_tup, rev_tup, enum_tup, zip_tup, slc_tup, add_tup, isi_any, ix_tup, ix_scr, ix_num0, ix_num1, len_num, num_0, num_1, atI_0, atI_1, atI_2, List.map, List.cons_append, List.nil_append, List.getElem?_cons_zero, List.getElem?_cons_succ, List.getElem?_nil, List.set_cons_zero, List.set_cons_succ, List.replicate, List.length_cons, List.length_nil, List.foldr_cons, List.foldr_nil, Nat.reduceAdd, Nat.reduceSub, List.replicate_succ, List.replicate_zero, G_up_same, decide_eq_true_eq, Bool.not_eq_true', Bool.false_eq_true, if_true, if_false, ite_true, ite_false, and_true, true_and, reduceCtorEq, Bool.not_true, Bool.not_false, Bool.false_bne, Bool.true_bne, sl0, sl1, sl2, sl3, sl4, dVfz, K.get 1 _ _ rfl]
        have hdn : g d = none := (K.own d (by simp)).elim (fun z => absurd z hda) id
        exact ⟨_, G.le_del (K.fin0 0 rfl) (by rw [G_up_ne hda]; exact hdn), h c L rs xs5 hF p5⟩
      simp only [sx_law_known_v5_2, h4, h187, mnS, dLamr, mn, Mn.of, Op.rd, Cm.rd, Bl.rd, Mt.rd, Mt.rc, dNop, dSeq, dExpr, dRet, dRetN, dIf, gD, dAsg, dPar, dPut, dRaise, dVar, dC, dBin, dUn, dNil, dCons, dTup, dLst, dTst, dAndT, dOrT, dNotT, dYes, dAnd, dOr, dNot, dChain, dCall, dCB, dMt, dLset, dSrev, dTry, dIsx, dEmp, dDic1, dStp, xsub, Ex.sub, dSlc, dPart, dNoPart, dIAny, dI1, dI2, dI3, dFor, dComp, compB, wipeD, startD, endsOf, at_mk, setAll, add_int, sub_int, mul_int, mul_tup, pow_int, mod_int, fdiv_int, lt_int, le_int, gt_int, ge_int, eq_int, neg_int, len_tup, len_scr, abs_int, max_int, min_int, int_int, int_bl, r1_int, r2_int, tuple_tup, list_tup, over_tup, rev_tup, enum_tup, zip_tup, slc_tup, add_tup, isi_any, ix_tup, ix_scr, ix_num0, ix_num1, len_num, num_0, num_1, atI_0, atI_1, atI_2, List.map, List.cons_append, List.nil_append, List.getElem?_cons_zero, List.getElem?_cons_succ, List.getElem?_nil, List.set_cons_zero, List.set_cons_succ, List.replicate, List.length_cons, List.length_nil, List.foldr_cons, List.foldr_nil, Nat.reduceAdd, Nat.reduceSub, List.replicate_succ, List.replicate_zero, G_up_same, decide_eq_true_eq, Bool.not_eq_true', Bool.false_eq_true, if_true, if_false, ite_true, ite_false, and_true, true_and, reduceCtorEq, Bool.not_true, Bool.not_false, Bool.false_bne, Bool.true_bne, sl0, sl1, sl2, sl3, sl4]
      refine K_draw K (by decide) p4 (by omega) fun e1 ys1 g5 he1 p5 K => ?_
      have hI1 := hI.lc
      have hI2 := hI.lL
      have hI3 := hI.le
      have done := last c L ys1 g5 (some (.int (e1 : Int))) none o9 (hI.fin (by omega)) (p5.mono (by omega)) K
      simp only [mnS, dLamr, mn, Mn.of, Op.rd, Cm.rd, Bl.rd, Mt.rd, Mt.rc, dNop, dSeq, dExpr, dRet, dRetN, dIf, gD, dAsg, dPar, dPut, dRaise, dVar, dC, dBin, dUn, dNil, dCons, dTup, dLst, dTst, dAndT, dOrT, dNotT, dYes, dAnd, dOr, dNot, dChain, dCall, dCB, dMt, dLset, dSrev, dTry, dIsx, dEmp, dDic1, dStp, xsub, Ex.sub, dSlc, dPart, dNoPart, dIAny, dI1, dI2, dI3, dFor, dComp, compB, wipeD, startD, endsOf, at_mk, setAll, add_int, sub_int, mul_int, mul_tup, pow_int, mod_int, fdiv_int, lt_int, le_int, gt_int, ge_int, eq_int, neg_int, len_tup, len_scr, abs_int, max_int, min_int, int_int, int_bl, r1_int, r2_int, tuple_tup, list_tup, over_tup, rev_tup, enum_tup, zip_tup, slc_tup, add_tup, isi_any, ix_tup, ix_scr, ix_num0, ix_num1, len_num, num_0, num_1, atI_0, atI_1, atI_2, List.map, List.cons_append, List.nil_append, List.getElem?_cons_zero, List.getElem?_cons_succ, List.getElem?_nil, List.set_cons_zero, List.set_cons_succ, List.replicate, List.length_cons, List.length_nil, List.foldr_cons, List.foldr_nil, Nat.reduceAdd, Nat.reduceSub, List.replicate_succ, List.replicate_zero, G_up_same, decide_eq_true_eq, Bool.not_eq_true', Bool.false_eq_true, if_true, if_false, ite_true, ite_false, and_true, true_and, reduceCtorEq, Bool.not_true, Bool.not_false, Bool.false_bne, Bool.true_bne, sl0, sl1, sl2, sl3, sl4, nums_len]
      split
      case isFalse => exact done
      rename_i h1
      refine ⟨mulOk_small (by decide) (by omega), ?_⟩
      split
      case isFalse => exact done
      rename_i h2
      refine K_draw K (by decide) p5 (by omega) fun e2 ys2 g6 he2 p6 K => ?_
      try simp only [mnS, dLamr, mn, Mn.of, Op.rd, Cm.rd, Bl.rd, Mt.rd, Mt.rc, dNop, dSeq, dExpr, dRet, dRetN, dIf, gD, dAsg, dPar, dPut, dRaise, dVar, dC, dBin, dUn, dNil, dCons, dTup, dLst, dTst, dAndT, dOrT, dNotT, dYes, dAnd, dOr, dNot, dChain, dCall, dCB, dMt, dLset, dSrev, dTry, dIsx, dEmp, dDic1, dStp, xsub, Ex.sub, dSlc, dPart, dNoPart, dIAny, dI1, dI2, dI3, dFor, dComp, compB, wipeD, startD, endsOf, at_mk, setAll, add_int, sub_int, mul_int, mul_tup, pow_int, mod_int, fdiv_int, lt_int, le_int, gt_int, ge_int, eq_int, neg_int, len_tup, len_scr, abs_int, max_int, min_int, int_int, int_bl, r1_int, r2_int, tuple_tup, list_tup, over_tup, rev_tup, enum_tup, zip_tup, slc_tup, add_tup, isi_any, ix_tup, ix_scr, ix_num0, ix_num1, len_num, num_0, num_1, atI_0, atI_1, atI_2, List.map, List.cons_append, List.nil_append, List.getElem?_cons_zero, List.getElem?_cons_succ, List.getElem?_nil, List.set_cons_zero, List.set_cons_succ, List.replicate, List.length_cons, List.length_nil, List.foldr_cons, List.foldr_nil, Nat.reduceAdd, Nat.reduceSub, List.replicate_succ, List.replicate_zero, G_up_same, decide_eq_true_eq, Bool.not_eq_true', Bool.false_eq_true, if_true, if_false, ite_true, ite_false, and_true, true_and, reduceCtorEq, Bool.not_true, Bool.not_false, Bool.false_bne, Bool.true_bne, sl0, sl1, sl2, sl3, sl4]
      refine K_draw K (by decide) p6 (by omega) fun e3 ys3 g7 he3 p7 K => ?_
      try simp only [mnS, dLamr, mn, Mn.of, Op.rd, Cm.rd, Bl.rd, Mt.rd, Mt.rc, dNop, dSeq, dExpr, dRet, dRetN, dIf, gD, dAsg, dPar, dPut, dRaise, dVar, dC, dBin, dUn, dNil, dCons, dTup, dLst, dTst, dAndT, dOrT, dNotT, dYes, dAnd, dOr, dNot, dChain, dCall, dCB, dMt, dLset, dSrev, dTry, dIsx, dEmp, dDic1, dStp, xsub, Ex.sub, dSlc, dPart, dNoPart, dIAny, dI1, dI2, dI3, dFor, dComp, compB, wipeD, startD, endsOf, at_mk, setAll, add_int, sub_int, mul_int, mul_tup, pow_int, mod_int, fdiv_int, lt_int, le_int, gt_int, ge_int, eq_int, neg_int, len_tup, len_scr, abs_int, max_int, min_int, int_int, int_bl, r1_int, r2_int, tuple_tup, list_tup, over_tup, rev_tup, enum_tup, zip_tup, slc_tup, add_tup, isi_any, ix_tup, ix_scr, ix_num0, ix_num1, len_num, num_0, num_1, atI_0, atI_1, atI_2, List.map, List.cons_append, List.nil_append, List.getElem?_cons_zero, List.getElem?_cons_succ, List.getElem?_nil, List.set_cons_zero, List.set_cons_succ, List.replicate, List.length_cons, List.length_nil, List.foldr_cons, List.foldr_nil, Nat.reduceAdd, Nat.reduceSub, List.replicate_succ, List.replicate_zero, G_up_same, decide_eq_true_eq, Bool.not_eq_true', Bool.false_eq_true, if_true, if_false, ite_true, ite_false, and_true, true_and, reduceCtorEq, Bool.not_true, Bool.not_false, Bool.false_bne, Bool.true_bne, sl0, sl1, sl2, sl3, sl4]
      have ebw : D.tup [D.tup [.int (1 + (e2 : Int)), .int 1], D.tup [.int ((e3 : Int) - 1), .int 1], num 1] = .tup (nums [((1 + (e2 : Int) : Int) : Rat), (((e3 : Int) - 1 : Int) : Rat), 1]) := rfl
      rw [ebw]
      have hdis : 0 < 4 * ((1 + (e2 : Int) : Int) : Rat) - (((e3 : Int) - 1 : Int) : Rat) * (((e3 : Int) - 1 : Int) : Rat) := by
        have h3 : e2 = 0 ∨ e2 = 1 ∨ e2 = 2 := by omega
        have h4 : e3 = 0 ∨ e3 = 1 ∨ e3 = 2 := by omega
        rcases h3 with rfl | rfl | rfl <;> rcases h4 with rfl | rfl | rfl <;> decide +kernel
      have hbs : Szs 2 [((1 + (e2 : Int) : Int) : Rat), (((e3 : Int) - 1 : Int) : Rat), 1] := fun q hq => by
        simp only [List.mem_cons, List.not_mem_nil, or_false] at hq
        rcases hq with rfl | rfl | rfl
        · exact sz_le (b := 2) (by rw [Rat.num_intCast]; omega) (by rw [Rat.den_intCast]; decide) (by decide)
        · exact sz_le (b := 2) (by rw [Rat.num_intCast]; omega) (by rw [Rat.den_intCast]; decide) (by decide)
        · decide
      have hbt : Tight [((1 + (e2 : Int) : Int) : Rat), (((e3 : Int) - 1 : Int) : Rat), 1] := show Tight ([((1 + (e2 : Int) : Int) : Rat), (((e3 : Int) - 1 : Int) : Rat)] ++ [1]) from tight_snoc (by decide)
      generalize ((1 + (e2 : Int) : Int) : Rat) = ba at hdis hbs hbt ⊢
      generalize (((e3 : Int) - 1 : Int) : Rat) = bb at hdis hbs hbt ⊢
      have hbh : Ht 7 [ba, bb, 1] := szs_ht hbs
      refine c_pw (Pw.start (w := 7) (q := [ba, bb, 1]) hI.kc.tL hI.kc.L0 hI.hL) (by omega) (by decide) hbh hbt (by simp) (by simp) (by omega) fun L' hL' => ?_
      refine ⟨by omega, ?_⟩
      refine for_inv (fun i env g' => ∃ f o9, env = [some (.ref a), some (num k), some (.tup (nums f)), some (.tup (nums L')), some (.dct d), o5, some (.int (e1 : Int)), o7, some (.tup (nums [ba, bb, 1])), o9, o10] ∧ g' = g7 ∧ Pw (17 + 19 * (c.length - 1)) 7 c [ba, bb, 1] f i) (fun _ _ _ _ => trivial) ?_ ?_
        ⟨c, _, rfl, rfl, .start hI.kc.tc hI.kc.c0 hI.hc⟩
      · rintro i x env g' M hi ⟨f, o9, rfl, rfl, hf⟩ hM
        obtain ⟨hi1, rfl⟩ := range_at hi
        have hfl := hf.len
        have ll : [ba, bb, (1 : Rat)].length = 3 := rfl
        rw [ll] at hfl
        try simp only [mnS, dLamr, mn, Mn.of, Op.rd, Cm.rd, Bl.rd, Mt.rd, Mt.rc, dNop, dSeq, dExpr, dRet, dRetN, dIf, gD, dAsg, dPar, dPut, dRaise, dVar, dC, dBin, dUn, dNil, dCons, dTup, dLst, dTst, dAndT, dOrT, dNotT, dYes, dAnd, dOr, dNot, dChain, dCall, dCB, dMt, dLset, dSrev, dTry, dIsx, dEmp, dDic1, dStp, xsub, Ex.sub, dSlc, dPart, dNoPart, dIAny, dI1, dI2, dI3, dFor, dComp, compB, wipeD, startD, endsOf, at_mk, setAll, add_int, sub_int, mul_int, mul_tup, pow_int, mod_int, fdiv_int, lt_int, le_int, gt_int, ge_int, eq_int, neg_int, len_tup, len_scr, abs_int, max_int, min_int, int_int, int_bl, r1_int, r2_int, tuple_tup, list_tup, over_tup, rev_tup, enum_tup, zip_tup, slc_tup, add_tup, isi_any, ix_tup, ix_scr, ix_num0, ix_num1, len_num, num_0, num_1, atI_0, atI_1, atI_2, List.map, List.cons_append, List.nil_append, List.getElem?_cons_zero, List.getElem?_cons_succ, List.getElem?_nil, List.set_cons_zero, List.set_cons_succ, List.replicate, List.length_cons, List.length_nil, List.foldr_cons, List.foldr_nil, Nat.reduceAdd, Nat.reduceSub, List.replicate_succ, List.replicate_zero, G_up_same, decide_eq_true_eq, Bool.not_eq_true', Bool.false_eq_true, if_true, if_false, ite_true, ite_false, and_true, true_and, reduceCtorEq, Bool.not_true, Bool.not_false, Bool.false_bne, Bool.true_bne, sl0, sl1, sl2, sl3, sl4]
        refine c_pw hf (by omega) (by decide) hbh hbt (by simp) (by simp) (by omega) fun f' hf' => ?_
        exact hM _ _ ⟨f', _, rfl, rfl, hf'⟩
      · rintro env g' ⟨f, o9, rfl, rfl, hf⟩
        obtain ⟨e0, rfl⟩ : ∃ e0, e1 = e0 + 1 := ⟨e1 - 1, by omega⟩
        rw [range_len, show (((e0 + 1 : Nat) : Int)).toNat = e0 + 1 by omega] at hf
        have hfl := hf.len
        have ll : [ba, bb, (1 : Rat)].length = 3 := rfl
        rw [ll] at hfl
        exact last f L' ys3 _ _ _ o9 (hI.last hdis hf hL' (by omega)) (p7.mono (by omega)) K
  try simp only [mnS, dLamr, mn, Mn.of, Op.rd, Cm.rd, Bl.rd, Mt.rd, Mt.rc, dNop, dSeq, dExpr, dRet, dRetN, dIf, gD, dAsg, dPar, dPut, dRaise, dVar, dC, dBin, dUn, dNil, dCons, dTup, dLst, dTst, dAndT, dOrT, dNotT, dYes, dAnd, dOr, dNot, dChain, dCall, dCB, dMt, dLset, dSrev, dTry, dIsx, dEmp, dDic1, dStp, xsub, Ex.sub, dSlc, dPart, dNoPart, dIAny, dI1, dI2, dI3, dFor, dComp, compB, wipeD, startD, endsOf, at_mk, setAll, add_int, sub_int, mul_int, mul_tup, pow_int, mod_int, fdiv_int, lt_int, le_int, gt_int, ge_int, eq_int, neg_int, len_tup, len_scr, abs_int, max_int, min_int, int_int, int_bl, r1_int, r2_int, tuple_tup, list_tup, over_tup, rev_tup, enum_tup, zip_tup, slc_tup, add_tup, isi_any, ix_tup, ix_scr, ix_num0, ix_num1, len_num, num_0, num_1, atI_0, atI_1, atI_2, List.map, List.cons_append, List.nil_append, List.getElem?_cons_zero, List.getElem?_cons_succ, List.getElem?_nil, List.set_cons_zero, List.set_cons_succ, List.replicate, List.length_cons, List.length_nil, List.foldr_cons, List.foldr_nil, Nat.reduceAdd, Nat.reduceSub, List.replicate_succ, List.replicate_zero, G_up_same, decide_eq_true_eq, Bool.not_eq_true', Bool.false_eq_true, if_true, if_false, ite_true, ite_false, and_true, true_and, reduceCtorEq, Bool.not_true, Bool.not_false, Bool.false_bne, Bool.true_bne, sl0, sl1, sl2, sl3, sl4]
  split
  · refine K_draw K (by decide) p1 (by omega) fun d xs2 g2 hd p2 K => ?_
    obtain ⟨q, q0, qs, qe⟩ := unit_num d (by omega)
    try simp only [mnS, dLamr, mn, Mn.of, Op.rd, Cm.rd, Bl.rd, Mt.rd, Mt.rc, dNop, dSeq, dExpr, dRet, dRetN, dIf, gD, dAsg, dPar, dPut, dRaise, dVar, dC, dBin, dUn, dNil, dCons, dTup, dLst, dTst, dAndT, dOrT, dNotT, dYes, dAnd, dOr, dNot, dChain, dCall, dCB, dMt, dLset, dSrev, dTry, dIsx, dEmp, dDic1, dStp, xsub, Ex.sub, dSlc, dPart, dNoPart, dIAny, dI1, dI2, dI3, dFor, dComp, compB, wipeD, startD, endsOf, at_mk, setAll, add_int, sub_int, mul_int, mul_tup, pow_int, mod_int, fdiv_int, lt_int, le_int, gt_int, ge_int, eq_int, neg_int, len_tup, len_scr, abs_int, max_int, min_int, int_int, int_bl, r1_int, r2_int, tuple_tup, list_tup, over_tup, rev_tup, enum_tup, zip_tup, slc_tup, add_tup, isi_any, ix_tup, ix_scr, ix_num0, ix_num1, len_num, num_0, num_1, atI_0, atI_1, atI_2, List.map, List.cons_append, List.nil_append, List.getElem?_cons_zero, List.getElem?_cons_succ, List.getElem?_nil, List.set_cons_zero, List.set_cons_succ, List.replicate, List.length_cons, List.length_nil, List.foldr_cons, List.foldr_nil, Nat.reduceAdd, Nat.reduceSub, List.replicate_succ, List.replicate_zero, G_up_same, decide_eq_true_eq, Bool.not_eq_true', Bool.false_eq_true, if_true, if_false, ite_true, ite_false, and_true, true_and, reduceCtorEq, Bool.not_true, Bool.not_false, Bool.false_bne, Bool.true_bne, sl0, sl1, sl2, sl3, sl4]
    rw [qe]
    exact main q xs2 g2 (fun z => by rw [z] at q0; exact absurd q0 (by decide)) (by omega) p2 K
  · rename_i hne
    exact main k0 xs1 g1 (fun z => hne (by rw [z]; rfl)) hk0 (p1.mono (by omega)) K
end
end PP
namespace PP
open PySem PySem.Spec PyProof.Rows L2
def sx_law_refused_v12 : SX :=
  (.asg (.n 0) .non
  (.tryf [.ncurve, .number] .curve 1 0 407
    (.expr (.call 186 (.cons (.tup .nil) .nil)) .nil)
  (.ret (.cmp .eq (.v 0) (.str "curve")) .nil)))
abbrev ns_law_refused_v12 : List Str := ["_law_word", "e"]
def sx_law_k39_v5_1 : SX :=
  (.ret (.call 411 .nil) .nil)
def sx_law_k39_v5_2 : SX :=
  (.asg (.n 4) (.bin .add (.call 37 (.cons (.v 1) (.cons (.int 5) .nil))) (.tup (.cons (.tup (.cons (.int 1) (.cons (.bin .add (.int 1) (.call 4 (.cons (.v 1) (.cons (.int 4) .nil)))) .nil))) .nil)))
  (.asg (.n 2) (.call 186 (.cons (.v 4) .nil))
  (.asg (.n 5) (.blt .tuple (.cons (.comp [9] (.n 9) (.range2 (.int 1) (.blt .len (.cons (.v 2) .nil))) .yes (.call 26 (.cons (.tup (.cons (.v 9) (.cons (.int 1) .nil))) (.cons (.ix (.v 2) (.v 9)) .nil)))) .nil))
  (.ite (.or (.not (.call 28 (.cons (.v 2) .nil))) (.or (.cmp .ne (.ix (.call 44 (.cons (.v 4) (.cons (.v 2) .nil))) (.int 1)) (.tup .nil)) (.cmp .ne (.call 50 (.cons (.v 2) (.cons (.v 5) .nil))) (.tup (.cons (.tup (.cons (.int 1) (.cons (.int 1) .nil))) .nil)))))
    (.ret (.bl false) .nil)
    .nil
  sx_law_k39_v5_1))))
def sx_law_k39_v5_3 : SX :=
  (.for_ (.n 3) (.over (.v 7))
    (.ite (.or (.cmp .ne (.call 27 (.cons (.v 2) (.cons (.v 3) .nil))) (.tup (.cons (.int 0) (.cons (.int 1) .nil)))) (.cmp .eq (.call 75 (.cons (.v 2) (.cons (.v 3) .nil))) (.tup (.cons (.int 0) (.cons (.int 1) .nil)))))
      (.ret (.bl false) .nil)
      .nil .nil)
  sx_law_k39_v5_2)
def sx_law_k39_v5 : SX :=
  (.asg (.n 1) (.call 3 (.cons (.v 0) (.cons (.int 0) .nil)))
  (.asg (.t [6, 7, 8]) (.call 443 (.cons (.v 1) .nil))
  (.asg (.n 2) (.call 186 (.cons (.v 6) .nil))
  (.ite (.or (.not (.call 28 (.cons (.v 2) .nil))) (.cmp .ne (.v 2) (.v 8)))
    (.ret (.bl false) .nil)
    .nil
  sx_law_k39_v5_3))))
abbrev ns_law_k39_v5 : List Str := ["_law_script", "_law_pen_here", "_law_found", "_law_x", "_law_other", "_law_slope", "_law_curve_here", "_law_places", "_law_lone", "_law_k"]
theorem sqfree {c t : List Rat} (hc : Tight c) (hc0 : c ≠ []) (hl : LoneIs c t) {r : Rat} (h : ev t r = 0) : evd t r ≠ 0 := fun z => by
  obtain ⟨-, -, -, hf⟩ := lone_free hc hc0 hl
  have h1 : Dv (ln r) t := ⟨divl t r, fun x => by rw [ln_ev, divl_ev t r x, h]; grind⟩
  have h2 : Dv (ln r) (trim (dl t)) := ⟨divl (trim (dl t)) r, fun x => by rw [ln_ev, divl_ev (trim (dl t)) r x, ev_trim, dl_ev, z]; grind⟩
  have := hf _ (ln_tight r) h1 h2
  exact absurd this (by simp)
theorem dl_tight {t : List Rat} (ht : Tight t) : Tight (dl t) := by
  by_cases h2 : 2 ≤ t.length
  · obtain ⟨d, a, e, ha⟩ := tight_ne (fun z => by rw [z] at h2; simp at h2) ht
    have hd : t.length = d.length + 1 := by rw [e]; simp
    intro q hq
    unfold dl at hq
    rw [List.getLast?_map, show t.length - 1 = (d.length - 1) + 1 by omega, List.range_succ, List.getLast?_append] at hq
    simp only [List.getLast?_singleton, Option.some_or, Option.map_some, Option.some.injEq] at hq
    rw [show d.length - 1 + 1 = d.length by omega] at hq
    have hc : coef t d.length = a := coef_at (by rw [e]; simp)
    rw [← hq, hc]
    intro z
    rcases Rat.mul_eq_zero.mp z with w | w
    · have : ((d.length : Nat) : Rat) = ((0 : Nat) : Rat) := w
      have := Rat.natCast_inj.mp this
      omega
    · exact ha w
  · have : dl t = [] := by unfold dl; rw [show t.length - 1 = 0 by omega]; rfl
    rw [this]; exact tight_nil
section
variable {Γ : Nat → SpD} {gl : Nat → D} {ds : List D} {g : G} {Q : QD} {X : XD}
def spLone39 : SpD := fun ds g Q X => ∃ (c : List Rat) (A M : Nat), ds = [.tup (nums c)] ∧ Tight c ∧ c.length ≤ 12 ∧ Ht A c ∧ loneOk c.length A M = true ∧ (c = [] → X .ncurve g) ∧ (c ≠ [] → ∀ t, LoneIs c t → Ht (A + c.length * (M + 1)) t → Q (.tup (nums t)) g)
theorem pure_lone_part__k39 {E : XD} (h41 : Γ 41 = spSlopeOf) (h44 : Γ 44 = spDivH) (h50 : Γ 50 = spComL) (h185 : Γ 185 = spAskC) (h : spLone39 ds g Q E) : mnS Γ gl sx_lone_part (endsOf Q E) (startD ns_lone_part ds) g := by
  obtain ⟨c, A, M, rfl, ht, hl, hA, hok, h1, h2⟩ := h
  unfold loneOk at hok
  simp only [Bool.and_eq_true, decide_eq_true_eq] at hok
  obtain ⟨⟨⟨o1, o2⟩, o3⟩, o4⟩ := hok
  simp only [sx_lone_part, h41, h44, h50, h185, mnS, dLamr, mn, Mn.of, Op.rd, Cm.rd, Bl.rd, Mt.rd, Mt.rc, dNop, dSeq, dExpr, dRet, dRetN, dIf, gD, dAsg, dPar, dPut, dRaise, dVar, dC, dBin, dUn, dNil, dCons, dTup, dLst, dTst, dAndT, dOrT, dNotT, dYes, dAnd, dOr, dNot, dChain, dCall, dCB, dMt, dLset, dSrev, dTry, dIsx, dEmp, dDic1, dStp, xsub, Ex.sub, dSlc, dPart, dNoPart, dIAny, dI1, dI2, dI3, dFor, dComp, compB, wipeD, startD, endsOf, at_mk, setAll, add_int, sub_int, mul_int, mul_tup, pow_int, mod_int, fdiv_int, lt_int, le_int, gt_int, ge_int, eq_int, neg_int, len_tup, len_scr, abs_int, max_int, min_int, int_int, int_bl, r1_int, r2_int, tuple_tup, list_tup, over_tup, rev_tup, enum_tup, zip_tup, slc_tup, add_tup, isi_any, ix_tup, ix_scr, ix_num0, ix_num1, len_num, num_0, num_1, atI_0, atI_1, atI_2, List.map, List.cons_append, List.nil_append, List.getElem?_cons_zero, List.getElem?_cons_succ, List.getElem?_nil, List.set_cons_zero, List.set_cons_succ, List.replicate, List.length_cons, List.length_nil, List.foldr_cons, List.foldr_nil, Nat.reduceAdd, Nat.reduceSub, List.replicate_succ, List.replicate_zero, G_up_same, decide_eq_true_eq, Bool.not_eq_true', Bool.false_eq_true, if_true, if_false, ite_true, ite_false, and_true, true_and, reduceCtorEq, Bool.not_true, Bool.not_false, Bool.false_bne, Bool.true_bne, sl0, sl1, sl2, sl3, sl4]
  refine ⟨c, rfl, fun e => ⟨_, G.le_refl _, h1 e⟩, fun hne => ?_⟩
  have h2 := h2 hne
  have hp := List.length_pos_iff.mpr hne
  have hsl : (trim (dl c)).length < c.length := Nat.lt_of_le_of_lt (trim_len _) (by simp [dl]; omega)
  have o4 := List.all_eq_true.mp o4 _ (List.mem_range.mpr hsl)
  simp only [Bool.and_eq_true, decide_eq_true_eq] at o4
  refine c_slopeOf A hA.szs (by omega) (by omega) ?_
  refine ⟨c, trim (dl c), A, A + 4, M, rfl, hA, hA.slope hl, ht, trim_tight _, by omega, by omega, fun z => hne z.1, by omega, o1, by omega, o4.1, o4.2, fun d hd hdM => ?_⟩
  have hd1 := List.length_pos_iff.mpr hd.ne
  have hdB : divB c.length d.length A M ≤ A + c.length * (M + 1) := Nat.add_le_add_left (Nat.mul_le_mul_right _ (by omega)) _
  have hdl := (dv_len hd.t ht hd.d1 hne).2
  refine c_divH A M hA hdM ht hd.t (by omega) (by omega) (by omega) hd.ne fun t r hdv hT _ => ?_
  try simp only [mnS, dLamr, mn, Mn.of, Op.rd, Cm.rd, Bl.rd, Mt.rd, Mt.rc, dNop, dSeq, dExpr, dRet, dRetN, dIf, gD, dAsg, dPar, dPut, dRaise, dVar, dC, dBin, dUn, dNil, dCons, dTup, dLst, dTst, dAndT, dOrT, dNotT, dYes, dAnd, dOr, dNot, dChain, dCall, dCB, dMt, dLset, dSrev, dTry, dIsx, dEmp, dDic1, dStp, xsub, Ex.sub, dSlc, dPart, dNoPart, dIAny, dI1, dI2, dI3, dFor, dComp, compB, wipeD, startD, endsOf, at_mk, setAll, add_int, sub_int, mul_int, mul_tup, pow_int, mod_int, fdiv_int, lt_int, le_int, gt_int, ge_int, eq_int, neg_int, len_tup, len_scr, abs_int, max_int, min_int, int_int, int_bl, r1_int, r2_int, tuple_tup, list_tup, over_tup, rev_tup, enum_tup, zip_tup, slc_tup, add_tup, isi_any, ix_tup, ix_scr, ix_num0, ix_num1, len_num, num_0, num_1, atI_0, atI_1, atI_2, List.map, List.cons_append, List.nil_append, List.getElem?_cons_zero, List.getElem?_cons_succ, List.getElem?_nil, List.set_cons_zero, List.set_cons_succ, List.replicate, List.length_cons, List.length_nil, List.foldr_cons, List.foldr_nil, Nat.reduceAdd, Nat.reduceSub, List.replicate_succ, List.replicate_zero, G_up_same, decide_eq_true_eq, Bool.not_eq_true', Bool.false_eq_true, if_true, if_false, ite_true, ite_false, and_true, true_and, reduceCtorEq, Bool.not_true, Bool.not_false, Bool.false_bne, Bool.true_bne, sl0, sl1, sl2, sl3, sl4]
  exact ⟨_, G.le_refl _, h2 t ⟨d, r, hd, hdv⟩ (hT.mono hdB)⟩
theorem lone97 (n : Nat) (h : n ≤ 6) : loneOk n 97 10000 = true := by
  have : ∀ n : Fin 7, loneOk n.val 97 10000 = true := by decide +kernel
  exact this ⟨n, by omega⟩
theorem com39 (n : Nat) (h : n ≤ 6) (h1 : 1 ≤ n) : divB n (n - 1) 60103 60107 ≤ 6000000 ∧ comM 6000000 60107 (divB n (n - 1) 60103 60107) (n - 1) = true := by
  have : ∀ n : Fin 7, 1 ≤ n.val → divB n.val (n.val - 1) 60103 60107 ≤ 6000000 ∧ comM 6000000 60107 (divB n.val (n.val - 1) 60103 60107) (n.val - 1) = true := by decide +kernel
  exact this ⟨n, by omega⟩ h1
def spRefused39 : SpD := fun ds g Q _ => ds = [] ∧ Q (.bl true) g
theorem pure_law_refused_v12 {E : XD} (h186 : Γ 186 = spLone39) (h407 : Γ 407 = spRefusal) (h : spRefused39 ds g Q E) : mnS Γ gl sx_law_refused_v12 (endsOf Q E) (startD ns_law_refused_v12 ds) g := by
  obtain ⟨rfl, h⟩ := h
  simp only [sx_law_refused_v12, h186, h407, mnS, dLamr, mn, Mn.of, Op.rd, Cm.rd, Bl.rd, Mt.rd, Mt.rc, dNop, dSeq, dExpr, dRet, dRetN, dIf, gD, dAsg, dPar, dPut, dRaise, dVar, dC, dBin, dUn, dNil, dCons, dTup, dLst, dTst, dAndT, dOrT, dNotT, dYes, dAnd, dOr, dNot, dChain, dCall, dCB, dMt, dLset, dSrev, dTry, dIsx, dEmp, dDic1, dStp, xsub, Ex.sub, dSlc, dPart, dNoPart, dIAny, dI1, dI2, dI3, dFor, dComp, compB, wipeD, startD, endsOf, at_mk, setAll, add_int, sub_int, mul_int, mul_tup, pow_int, mod_int, fdiv_int, lt_int, le_int, gt_int, ge_int, eq_int, neg_int, len_tup, len_scr, abs_int, max_int, min_int, int_int, int_bl, r1_int, r2_int, tuple_tup, list_tup, over_tup, rev_tup, enum_tup, zip_tup, slc_tup, add_tup, isi_any, ix_tup, ix_scr, ix_num0, ix_num1, len_num, num_0, num_1, atI_0, atI_1, atI_2, List.map, List.cons_append, List.nil_append, List.getElem?_cons_zero, List.getElem?_cons_succ, List.getElem?_nil, List.set_cons_zero, List.set_cons_succ, List.replicate, List.length_cons, List.length_nil, List.foldr_cons, List.foldr_nil, Nat.reduceAdd, Nat.reduceSub, List.replicate_succ, List.replicate_zero, G_up_same, decide_eq_true_eq, Bool.not_eq_true', Bool.false_eq_true, if_true, if_false, ite_true, ite_false, and_true, true_and, reduceCtorEq, Bool.not_true, Bool.not_false, Bool.false_bne, Bool.true_bne, sl0, sl1, sl2, sl3, sl4]
  refine ⟨slN (Nat.zero_le _), [], 97, 10000, rfl, tight_nil, by decide, Ht.nil.mono (by decide), lone97 0 (by decide), fun _ => ⟨by simp, fun _ => ⟨by decide, .ncurve, rfl, ?_⟩, fun z => by simp [Ex.sub] at z⟩, fun z => absurd rfl z⟩
  simp [mnS, dLamr, mn, Mn.of, Op.rd, Cm.rd, Bl.rd, Mt.rd, Mt.rc, dNop, dSeq, dExpr, dRet, dRetN, dIf, gD, dAsg, dPar, dPut, dRaise, dVar, dC, dBin, dUn, dNil, dCons, dTup, dLst, dTst, dAndT, dOrT, dNotT, dYes, dAnd, dOr, dNot, dChain, dCall, dCB, dMt, dLset, dSrev, dTry, dIsx, dEmp, dDic1, dStp, xsub, Ex.sub, dSlc, dPart, dNoPart, dIAny, dI1, dI2, dI3, dFor, dComp, compB, wipeD, startD, endsOf, at_mk, setAll, add_int, sub_int, mul_int, mul_tup, pow_int, mod_int, fdiv_int, lt_int, le_int, gt_int, ge_int, eq_int, neg_int, len_tup, len_scr, abs_int, max_int, min_int, int_int, int_bl, r1_int, r2_int, tuple_tup, list_tup, over_tup, rev_tup, enum_tup, zip_tup, slc_tup, add_tup, isi_any, ix_tup, ix_scr, ix_num0, ix_num1, len_num, num_0, num_1, atI_0, atI_1, atI_2, List.map, List.cons_append, List.nil_append, List.getElem?_cons_zero, List.getElem?_cons_succ, List.getElem?_nil, List.set_cons_zero, List.set_cons_succ, List.replicate, List.length_cons, List.length_nil, List.foldr_cons, List.foldr_nil, Nat.reduceAdd, Nat.reduceSub, List.replicate_succ, List.replicate_zero, G_up_same, decide_eq_true_eq, Bool.not_eq_true', Bool.false_eq_true, if_true, if_false, ite_true, ite_false, and_true, true_and, reduceCtorEq, Bool.not_true, Bool.not_false, Bool.false_bne, Bool.true_bne, sl0, sl1, sl2, sl3, sl4, Ex.word]
  exact ⟨_, G.le_refl _, h⟩
theorem k39_2 {E : XD} {a : Addr} {o g' : G} {xs : List D} {n : Nat} {o2 o3 o4 o5 o9 : Option D} {ns : List Int} {c L rs : List Rat} (h4 : Γ 4 = spDraw) (h26 : Γ 26 = spTimes) (h28 : Γ 28 = spIsCurve) (h37 : Γ 37 = spCurveDrawn) (h44 : Γ 44 = spDivH) (h50 : Γ 50 = spComL) (h186 : Γ 186 = spLone39) (h411 : Γ 411 = spRefused39)
    (K : KN o a g' [(a, xs)]) (hp : PenL xs n) (hn : n + 300 < 2 ^ 50) (fin : ∀ g', ∃ g0 : G, g0.le g' ∧ Q (.bl true) g0) :
    mnS Γ gl sx_law_k39_v5_2 (endsOf Q E) [some (.scr ns), some (.ref a), o2, o3, o4, o5, some (.tup (nums c)), some (.dfz (nums rs)), some (.tup (nums L)), o9] g' := by
  simp only [sx_law_k39_v5_2, h4, h26, h28, h37, h44, h50, h186, mnS, dLamr, mn, Mn.of, Op.rd, Cm.rd, Bl.rd, Mt.rd, Mt.rc, dNop, dSeq, dExpr, dRet, dRetN, dIf, gD, dAsg, dPar, dPut, dRaise, dVar, dC, dBin, dUn, dNil, dCons, dTup, dLst, dTst, dAndT, dOrT, dNotT, dYes, dAnd, dOr, dNot, dChain, dCall, dCB, dMt, dLset, dSrev, dTry, dIsx, dEmp, dDic1, dStp, xsub, Ex.sub, dSlc, dPart, dNoPart, dIAny, dI1, dI2, dI3, dFor, dComp, compB, wipeD, startD, endsOf, at_mk, setAll, add_int, sub_int, mul_int, mul_tup, pow_int, mod_int, fdiv_int, lt_int, le_int, gt_int, ge_int, eq_int, neg_int, len_tup, len_scr, abs_int, max_int, min_int, int_int, int_bl, r1_int, r2_int, tuple_tup, list_tup, over_tup, rev_tup, enum_tup, zip_tup, slc_tup, add_tup, isi_any, ix_tup, ix_scr, ix_num0, ix_num1, len_num, num_0, num_1, atI_0, atI_1, atI_2, List.map, List.cons_append, List.nil_append, List.getElem?_cons_zero, List.getElem?_cons_succ, List.getElem?_nil, List.set_cons_zero, List.set_cons_succ, List.replicate, List.length_cons, List.length_nil, List.foldr_cons, List.foldr_nil, Nat.reduceAdd, Nat.reduceSub, List.replicate_succ, List.replicate_zero, G_up_same, decide_eq_true_eq, Bool.not_eq_true', Bool.false_eq_true, if_true, if_false, ite_true, ite_false, and_true, true_and, reduceCtorEq, Bool.not_true, Bool.not_false, Bool.false_bne, Bool.true_bne, sl0, sl1, sl2, sl3, sl4]
  refine K_curve 5 rfl K (by decide) hp (by omega) fun c1 xs1 g1 hc1 hc2 hc3 p1 K => ?_
  refine K_draw K (by decide) p1 (by omega) fun d xs2 g2 hd p2 K => ?_
  obtain ⟨q, q0, qs, qe⟩ := unit_num d (by omega)
  try simp only [mnS, dLamr, mn, Mn.of, Op.rd, Cm.rd, Bl.rd, Mt.rd, Mt.rc, dNop, dSeq, dExpr, dRet, dRetN, dIf, gD, dAsg, dPar, dPut, dRaise, dVar, dC, dBin, dUn, dNil, dCons, dTup, dLst, dTst, dAndT, dOrT, dNotT, dYes, dAnd, dOr, dNot, dChain, dCall, dCB, dMt, dLset, dSrev, dTry, dIsx, dEmp, dDic1, dStp, xsub, Ex.sub, dSlc, dPart, dNoPart, dIAny, dI1, dI2, dI3, dFor, dComp, compB, wipeD, startD, endsOf, at_mk, setAll, add_int, sub_int, mul_int, mul_tup, pow_int, mod_int, fdiv_int, lt_int, le_int, gt_int, ge_int, eq_int, neg_int, len_tup, len_scr, abs_int, max_int, min_int, int_int, int_bl, r1_int, r2_int, tuple_tup, list_tup, over_tup, rev_tup, enum_tup, zip_tup, slc_tup, add_tup, isi_any, ix_tup, ix_scr, ix_num0, ix_num1, len_num, num_0, num_1, atI_0, atI_1, atI_2, List.map, List.cons_append, List.nil_append, List.getElem?_cons_zero, List.getElem?_cons_succ, List.getElem?_nil, List.set_cons_zero, List.set_cons_succ, List.replicate, List.length_cons, List.length_nil, List.foldr_cons, List.foldr_nil, Nat.reduceAdd, Nat.reduceSub, List.replicate_succ, List.replicate_zero, G_up_same, decide_eq_true_eq, Bool.not_eq_true', Bool.false_eq_true, if_true, if_false, ite_true, ite_false, and_true, true_and, reduceCtorEq, Bool.not_true, Bool.not_false, Bool.false_bne, Bool.true_bne, sl0, sl1, sl2, sl3, sl4]
  rw [qe]
  have ec : nums c1 ++ [num q] = nums (c1 ++ [q]) := nums_snoc
  rw [ec]
  have q00 : q ≠ 0 := fun z => by rw [z] at q0; exact absurd q0 (by decide)
  have ht : Tight (c1 ++ [q]) := tight_snoc q00
  have hne : c1 ++ [q] ≠ [] := by simp
  have hl : (c1 ++ [q]).length ≤ 6 := by simp; omega
  have hs : Szs 16 (c1 ++ [q]) := fun z hz => by
    rcases List.mem_append.mp hz with hz | hz
    · exact hc3 z hz
    · rw [List.mem_singleton.mp hz]; omega
  generalize c1 ++ [q] = c0 at ht hne hl hs ⊢
  refine ⟨slN (by simp [nums_len]; omega), ?_⟩
  have hh : Ht 97 c0 := (szs_ht hs).mono (by omega)
  refine ⟨c0, 97, 10000, rfl, ht, by omega, hh, lone97 _ hl, fun z => absurd z hne, fun _ t htl htH => ?_⟩
  have htH := htH.mono (show 97 + c0.length * 10001 ≤ 60103 by omega)
  obtain ⟨t1, t2, t3, t4⟩ := lone_free ht hne htl
  have htl2 := (dv_len t1 ht t3 hne).2
  have htp := List.length_pos_iff.mpr t2
  simp only [mnS, dLamr, mn, Mn.of, Op.rd, Cm.rd, Bl.rd, Mt.rd, Mt.rc, dNop, dSeq, dExpr, dRet, dRetN, dIf, gD, dAsg, dPar, dPut, dRaise, dVar, dC, dBin, dUn, dNil, dCons, dTup, dLst, dTst, dAndT, dOrT, dNotT, dYes, dAnd, dOr, dNot, dChain, dCall, dCB, dMt, dLset, dSrev, dTry, dIsx, dEmp, dDic1, dStp, xsub, Ex.sub, dSlc, dPart, dNoPart, dIAny, dI1, dI2, dI3, dFor, dComp, compB, wipeD, startD, endsOf, at_mk, setAll, add_int, sub_int, mul_int, mul_tup, pow_int, mod_int, fdiv_int, lt_int, le_int, gt_int, ge_int, eq_int, neg_int, len_tup, len_scr, abs_int, max_int, min_int, int_int, int_bl, r1_int, r2_int, tuple_tup, list_tup, over_tup, rev_tup, enum_tup, zip_tup, slc_tup, add_tup, isi_any, ix_tup, ix_scr, ix_num0, ix_num1, len_num, num_0, num_1, atI_0, atI_1, atI_2, List.map, List.cons_append, List.nil_append, List.getElem?_cons_zero, List.getElem?_cons_succ, List.getElem?_nil, List.set_cons_zero, List.set_cons_succ, List.replicate, List.length_cons, List.length_nil, List.foldr_cons, List.foldr_nil, Nat.reduceAdd, Nat.reduceSub, List.replicate_succ, List.replicate_zero, G_up_same, decide_eq_true_eq, Bool.not_eq_true', Bool.false_eq_true, if_true, if_false, ite_true, ite_false, and_true, true_and, reduceCtorEq, Bool.not_true, Bool.not_false, Bool.false_bne, Bool.true_bne, sl0, sl1, sl2, sl3, sl4, range_len, nums_len]
  rw [show ((t.length : Int) - 1).toNat = t.length - 1 by omega]
  refine ⟨by omega, slN (by omega), fun s hs0 => ?_⟩
  refine comp_dl rfl (by decide) (by simp) (fun g' l => .tup) htH.szs (by omega) (by decide) hs0 ?_
  simp only [mnS, dLamr, mn, Mn.of, Op.rd, Cm.rd, Bl.rd, Mt.rd, Mt.rc, dNop, dSeq, dExpr, dRet, dRetN, dIf, gD, dAsg, dPar, dPut, dRaise, dVar, dC, dBin, dUn, dNil, dCons, dTup, dLst, dTst, dAndT, dOrT, dNotT, dYes, dAnd, dOr, dNot, dChain, dCall, dCB, dMt, dLset, dSrev, dTry, dIsx, dEmp, dDic1, dStp, xsub, Ex.sub, dSlc, dPart, dNoPart, dIAny, dI1, dI2, dI3, dFor, dComp, compB, wipeD, startD, endsOf, at_mk, setAll, add_int, sub_int, mul_int, mul_tup, pow_int, mod_int, fdiv_int, lt_int, le_int, gt_int, ge_int, eq_int, neg_int, len_tup, len_scr, abs_int, max_int, min_int, int_int, int_bl, r1_int, r2_int, tuple_tup, list_tup, over_tup, rev_tup, enum_tup, zip_tup, slc_tup, add_tup, isi_any, ix_tup, ix_scr, ix_num0, ix_num1, len_num, num_0, num_1, atI_0, atI_1, atI_2, List.map, List.cons_append, List.nil_append, List.getElem?_cons_zero, List.getElem?_cons_succ, List.getElem?_nil, List.set_cons_zero, List.set_cons_succ, List.replicate, List.length_cons, List.length_nil, List.foldr_cons, List.foldr_nil, Nat.reduceAdd, Nat.reduceSub, List.replicate_succ, List.replicate_zero, G_up_same, decide_eq_true_eq, Bool.not_eq_true', Bool.false_eq_true, if_true, if_false, ite_true, ite_false, and_true, true_and, reduceCtorEq, Bool.not_true, Bool.not_false, Bool.false_bne, Bool.true_bne, sl0, sl1, sl2, sl3, sl4, tuple_ref G_up_same]
  have hdl := dl_tight t1
  have hdll : (dl t).length = t.length - 1 := by simp [dl]
  have hdh : Ht 60107 (dl t) := (htH.slope (by omega)).congr fun x => ev_trim _ _
  refine c_isCurve t1 (slN (by omega)) ?_
  try simp only [mnS, dLamr, mn, Mn.of, Op.rd, Cm.rd, Bl.rd, Mt.rd, Mt.rc, dNop, dSeq, dExpr, dRet, dRetN, dIf, gD, dAsg, dPar, dPut, dRaise, dVar, dC, dBin, dUn, dNil, dCons, dTup, dLst, dTst, dAndT, dOrT, dNotT, dYes, dAnd, dOr, dNot, dChain, dCall, dCB, dMt, dLset, dSrev, dTry, dIsx, dEmp, dDic1, dStp, xsub, Ex.sub, dSlc, dPart, dNoPart, dIAny, dI1, dI2, dI3, dFor, dComp, compB, wipeD, startD, endsOf, at_mk, setAll, add_int, sub_int, mul_int, mul_tup, pow_int, mod_int, fdiv_int, lt_int, le_int, gt_int, ge_int, eq_int, neg_int, len_tup, len_scr, abs_int, max_int, min_int, int_int, int_bl, r1_int, r2_int, tuple_tup, list_tup, over_tup, rev_tup, enum_tup, zip_tup, slc_tup, add_tup, isi_any, ix_tup, ix_scr, ix_num0, ix_num1, len_num, num_0, num_1, atI_0, atI_1, atI_2, List.map, List.cons_append, List.nil_append, List.getElem?_cons_zero, List.getElem?_cons_succ, List.getElem?_nil, List.set_cons_zero, List.set_cons_succ, List.replicate, List.length_cons, List.length_nil, List.foldr_cons, List.foldr_nil, Nat.reduceAdd, Nat.reduceSub, List.replicate_succ, List.replicate_zero, G_up_same, decide_eq_true_eq, Bool.not_eq_true', Bool.false_eq_true, if_true, if_false, ite_true, ite_false, and_true, true_and, reduceCtorEq, Bool.not_true, Bool.not_false, Bool.false_bne, Bool.true_bne, sl0, sl1, sl2, sl3, sl4]
  refine c_divH 97 60103 hh htH ht t1 (by omega) (by omega) ?_ t2 fun u r hdv _ _ => ?_
  · have : divB c0.length t.length 97 60103 ≤ 97 + 6 * 60104 := Nat.add_le_add_left (Nat.mul_le_mul_right _ (by omega)) _
    omega
  try simp only [mnS, dLamr, mn, Mn.of, Op.rd, Cm.rd, Bl.rd, Mt.rd, Mt.rc, dNop, dSeq, dExpr, dRet, dRetN, dIf, gD, dAsg, dPar, dPut, dRaise, dVar, dC, dBin, dUn, dNil, dCons, dTup, dLst, dTst, dAndT, dOrT, dNotT, dYes, dAnd, dOr, dNot, dChain, dCall, dCB, dMt, dLset, dSrev, dTry, dIsx, dEmp, dDic1, dStp, xsub, Ex.sub, dSlc, dPart, dNoPart, dIAny, dI1, dI2, dI3, dFor, dComp, compB, wipeD, startD, endsOf, at_mk, setAll, add_int, sub_int, mul_int, mul_tup, pow_int, mod_int, fdiv_int, lt_int, le_int, gt_int, ge_int, eq_int, neg_int, len_tup, len_scr, abs_int, max_int, min_int, int_int, int_bl, r1_int, r2_int, tuple_tup, list_tup, over_tup, rev_tup, enum_tup, zip_tup, slc_tup, add_tup, isi_any, ix_tup, ix_scr, ix_num0, ix_num1, len_num, num_0, num_1, atI_0, atI_1, atI_2, List.map, List.cons_append, List.nil_append, List.getElem?_cons_zero, List.getElem?_cons_succ, List.getElem?_nil, List.set_cons_zero, List.set_cons_succ, List.replicate, List.length_cons, List.length_nil, List.foldr_cons, List.foldr_nil, Nat.reduceAdd, Nat.reduceSub, List.replicate_succ, List.replicate_zero, G_up_same, decide_eq_true_eq, Bool.not_eq_true', Bool.false_eq_true, if_true, if_false, ite_true, ite_false, and_true, true_and, reduceCtorEq, Bool.not_true, Bool.not_false, Bool.false_bne, Bool.true_bne, sl0, sl1, sl2, sl3, sl4]
  refine eq_tup (q := []) (fun e => ?_) fun e => ?_
  case _ =>
    try simp only [mnS, dLamr, mn, Mn.of, Op.rd, Cm.rd, Bl.rd, Mt.rd, Mt.rc, dNop, dSeq, dExpr, dRet, dRetN, dIf, gD, dAsg, dPar, dPut, dRaise, dVar, dC, dBin, dUn, dNil, dCons, dTup, dLst, dTst, dAndT, dOrT, dNotT, dYes, dAnd, dOr, dNot, dChain, dCall, dCB, dMt, dLset, dSrev, dTry, dIsx, dEmp, dDic1, dStp, xsub, Ex.sub, dSlc, dPart, dNoPart, dIAny, dI1, dI2, dI3, dFor, dComp, compB, wipeD, startD, endsOf, at_mk, setAll, add_int, sub_int, mul_int, mul_tup, pow_int, mod_int, fdiv_int, lt_int, le_int, gt_int, ge_int, eq_int, neg_int, len_tup, len_scr, abs_int, max_int, min_int, int_int, int_bl, r1_int, r2_int, tuple_tup, list_tup, over_tup, rev_tup, enum_tup, zip_tup, slc_tup, add_tup, isi_any, ix_tup, ix_scr, ix_num0, ix_num1, len_num, num_0, num_1, atI_0, atI_1, atI_2, List.map, List.cons_append, List.nil_append, List.getElem?_cons_zero, List.getElem?_cons_succ, List.getElem?_nil, List.set_cons_zero, List.set_cons_succ, List.replicate, List.length_cons, List.length_nil, List.foldr_cons, List.foldr_nil, Nat.reduceAdd, Nat.reduceSub, List.replicate_succ, List.replicate_zero, G_up_same, decide_eq_true_eq, Bool.not_eq_true', Bool.false_eq_true, if_true, if_false, ite_true, ite_false, and_true, true_and, reduceCtorEq, Bool.not_true, Bool.not_false, Bool.false_bne, Bool.true_bne, sl0, sl1, sl2, sl3, sl4]
    obtain ⟨m1, m2⟩ := com39 t.length (by omega) htp
    rw [← hdll] at m1 m2
    refine ⟨t, dl t, 60103, 60107, 6000000, rfl, htH, hdh, t1, hdl, by omega, by omega, fun z => t2 z.1, by omega, by omega, by omega, m1, m2, fun d hd hdM => ?_⟩
    clear hdM
    have hd1 : d = [1] := by
      have := t4 d hd.t hd.d1 (by rw [trim_self hdl]; exact hd.d2)
      have hm := hd.m
      match d, this, hm with
      | [w], _, hm => simp at hm; rw [hm]
      | [], _, hm => cases hm
    refine eq_tup (q := [1]) (fun e => ?_) fun e => absurd hd1 e
    simp only [mnS, dLamr, mn, Mn.of, Op.rd, Cm.rd, Bl.rd, Mt.rd, Mt.rc, dNop, dSeq, dExpr, dRet, dRetN, dIf, gD, dAsg, dPar, dPut, dRaise, dVar, dC, dBin, dUn, dNil, dCons, dTup, dLst, dTst, dAndT, dOrT, dNotT, dYes, dAnd, dOr, dNot, dChain, dCall, dCB, dMt, dLset, dSrev, dTry, dIsx, dEmp, dDic1, dStp, xsub, Ex.sub, dSlc, dPart, dNoPart, dIAny, dI1, dI2, dI3, dFor, dComp, compB, wipeD, startD, endsOf, at_mk, setAll, add_int, sub_int, mul_int, mul_tup, pow_int, mod_int, fdiv_int, lt_int, le_int, gt_int, ge_int, eq_int, neg_int, len_tup, len_scr, abs_int, max_int, min_int, int_int, int_bl, r1_int, r2_int, tuple_tup, list_tup, over_tup, rev_tup, enum_tup, zip_tup, slc_tup, add_tup, isi_any, ix_tup, ix_scr, ix_num0, ix_num1, len_num, num_0, num_1, atI_0, atI_1, atI_2, List.map, List.cons_append, List.nil_append, List.getElem?_cons_zero, List.getElem?_cons_succ, List.getElem?_nil, List.set_cons_zero, List.set_cons_succ, List.replicate, List.length_cons, List.length_nil, List.foldr_cons, List.foldr_nil, Nat.reduceAdd, Nat.reduceSub, List.replicate_succ, List.replicate_zero, G_up_same, decide_eq_true_eq, Bool.not_eq_true', Bool.false_eq_true, if_true, if_false, ite_true, ite_false, and_true, true_and, reduceCtorEq, Bool.not_true, Bool.not_false, Bool.false_bne, Bool.true_bne, sl0, sl1, sl2, sl3, sl4, sx_law_k39_v5_1, h411]
    exact ⟨rfl, fin _⟩
  case _ =>
    exfalso
    obtain ⟨w, hw⟩ := t3
    exact e (div_exact (trim_tight w) t1 t2 ht hdv fun x => by rw [hw, ev_trim]).1
theorem pure_law_k39_v5 {E : XD} (h3 : Γ 3 = spPen) (h4 : Γ 4 = spDraw) (h26 : Γ 26 = spTimes) (h27 : Γ 27 = spEv) (h28 : Γ 28 = spIsCurve) (h37 : Γ 37 = spCurveDrawn) (h44 : Γ 44 = spDivH) (h50 : Γ 50 = spComL) (h75 : Γ 75 = spSlopeAt) (h186 : Γ 186 = spLone39) (h411 : Γ 411 = spRefused39) (h443 : Γ 443 = spKnown) (h : spLaw ds g Q E) : mnS Γ gl sx_law_k39_v5 (endsOf Q E) (startD ns_law_k39_v5 ds) g := by
  obtain ⟨ns, rfl, hl, hb, h0, h⟩ := h
  have fin : ∀ g', ∃ g0 : G, g0.le g' ∧ Q (.bl true) g0 := fun g' => ⟨g, fun a xs e => (by rw [h0] at e; cases e), h⟩
  simp only [sx_law_k39_v5, h3, h28, h186, h443, mnS, dLamr, mn, Mn.of, Op.rd, Cm.rd, Bl.rd, Mt.rd, Mt.rc, dNop, dSeq, dExpr, dRet, dRetN, dIf, gD, dAsg, dPar, dPut, dRaise, dVar, dC, dBin, dUn, dNil, dCons, dTup, dLst, dTst, dAndT, dOrT, dNotT, dYes, dAnd, dOr, dNot, dChain, dCall, dCB, dMt, dLset, dSrev, dTry, dIsx, dEmp, dDic1, dStp, xsub, Ex.sub, dSlc, dPart, dNoPart, dIAny, dI1, dI2, dI3, dFor, dComp, compB, wipeD, startD, endsOf, at_mk, setAll, add_int, sub_int, mul_int, mul_tup, pow_int, mod_int, fdiv_int, lt_int, le_int, gt_int, ge_int, eq_int, neg_int, len_tup, len_scr, abs_int, max_int, min_int, int_int, int_bl, r1_int, r2_int, tuple_tup, list_tup, over_tup, rev_tup, enum_tup, zip_tup, slc_tup, add_tup, isi_any, ix_tup, ix_scr, ix_num0, ix_num1, len_num, num_0, num_1, atI_0, atI_1, atI_2, List.map, List.cons_append, List.nil_append, List.getElem?_cons_zero, List.getElem?_cons_succ, List.getElem?_nil, List.set_cons_zero, List.set_cons_succ, List.replicate, List.length_cons, List.length_nil, List.foldr_cons, List.foldr_nil, Nat.reduceAdd, Nat.reduceSub, List.replicate_succ, List.replicate_zero, G_up_same, decide_eq_true_eq, Bool.not_eq_true', Bool.false_eq_true, if_true, if_false, ite_true, ite_false, and_true, true_and, reduceCtorEq, Bool.not_true, Bool.not_false, Bool.false_bne, Bool.true_bne, sl0, sl1, sl2, sl3, sl4]
  refine ⟨ns, 0, rfl, by omega, hb, fun a xs0 ha p0 => ?_⟩
  have K : KN g a (g.up a xs0) [(a, xs0)] := KN.start' ha
  refine K_known K p0 (by omega) fun c L rs xs1 g1 hF p1 K => ?_
  try simp only [mnS, dLamr, mn, Mn.of, Op.rd, Cm.rd, Bl.rd, Mt.rd, Mt.rc, dNop, dSeq, dExpr, dRet, dRetN, dIf, gD, dAsg, dPar, dPut, dRaise, dVar, dC, dBin, dUn, dNil, dCons, dTup, dLst, dTst, dAndT, dOrT, dNotT, dYes, dAnd, dOr, dNot, dChain, dCall, dCB, dMt, dLset, dSrev, dTry, dIsx, dEmp, dDic1, dStp, xsub, Ex.sub, dSlc, dPart, dNoPart, dIAny, dI1, dI2, dI3, dFor, dComp, compB, wipeD, startD, endsOf, at_mk, setAll, add_int, sub_int, mul_int, mul_tup, pow_int, mod_int, fdiv_int, lt_int, le_int, gt_int, ge_int, eq_int, neg_int, len_tup, len_scr, abs_int, max_int, min_int, int_int, int_bl, r1_int, r2_int, tuple_tup, list_tup, over_tup, rev_tup, enum_tup, zip_tup, slc_tup, add_tup, isi_any, ix_tup, ix_scr, ix_num0, ix_num1, len_num, num_0, num_1, atI_0, atI_1, atI_2, List.map, List.cons_append, List.nil_append, List.getElem?_cons_zero, List.getElem?_cons_succ, List.getElem?_nil, List.set_cons_zero, List.set_cons_succ, List.replicate, List.length_cons, List.length_nil, List.foldr_cons, List.foldr_nil, Nat.reduceAdd, Nat.reduceSub, List.replicate_succ, List.replicate_zero, G_up_same, decide_eq_true_eq, Bool.not_eq_true', Bool.false_eq_true, if_true, if_false, ite_true, ite_false, and_true, true_and, reduceCtorEq, Bool.not_true, Bool.not_false, Bool.false_bne, Bool.true_bne, sl0, sl1, sl2, sl3, sl4]
  have hlc := hF.lc
  have hlL := hF.lL
  refine ⟨c, 97, 10000, rfl, hF.kc.tc, by omega, hF.hc.mono (by decide), lone97 _ (by omega), fun z => absurd z hF.kc.c0, fun _ t htl _ => ?_⟩
  have hsq : ∀ r, ev t r = 0 → evd t r ≠ 0 := fun r => sqfree hF.kc.tc hF.kc.c0 htl
  obtain rfl := hF.kc.lone t htl
  try simp only [mnS, dLamr, mn, Mn.of, Op.rd, Cm.rd, Bl.rd, Mt.rd, Mt.rc, dNop, dSeq, dExpr, dRet, dRetN, dIf, gD, dAsg, dPar, dPut, dRaise, dVar, dC, dBin, dUn, dNil, dCons, dTup, dLst, dTst, dAndT, dOrT, dNotT, dYes, dAnd, dOr, dNot, dChain, dCall, dCB, dMt, dLset, dSrev, dTry, dIsx, dEmp, dDic1, dStp, xsub, Ex.sub, dSlc, dPart, dNoPart, dIAny, dI1, dI2, dI3, dFor, dComp, compB, wipeD, startD, endsOf, at_mk, setAll, add_int, sub_int, mul_int, mul_tup, pow_int, mod_int, fdiv_int, lt_int, le_int, gt_int, ge_int, eq_int, neg_int, len_tup, len_scr, abs_int, max_int, min_int, int_int, int_bl, r1_int, r2_int, tuple_tup, list_tup, over_tup, rev_tup, enum_tup, zip_tup, slc_tup, add_tup, isi_any, ix_tup, ix_scr, ix_num0, ix_num1, len_num, num_0, num_1, atI_0, atI_1, atI_2, List.map, List.cons_append, List.nil_append, List.getElem?_cons_zero, List.getElem?_cons_succ, List.getElem?_nil, List.set_cons_zero, List.set_cons_succ, List.replicate, List.length_cons, List.length_nil, List.foldr_cons, List.foldr_nil, Nat.reduceAdd, Nat.reduceSub, List.replicate_succ, List.replicate_zero, G_up_same, decide_eq_true_eq, Bool.not_eq_true', Bool.false_eq_true, if_true, if_false, ite_true, ite_false, and_true, true_and, reduceCtorEq, Bool.not_true, Bool.not_false, Bool.false_bne, Bool.true_bne, sl0, sl1, sl2, sl3, sl4]
  refine c_isCurve hF.kc.tL (slN (by omega)) ?_
  try simp only [mnS, dLamr, mn, Mn.of, Op.rd, Cm.rd, Bl.rd, Mt.rd, Mt.rc, dNop, dSeq, dExpr, dRet, dRetN, dIf, gD, dAsg, dPar, dPut, dRaise, dVar, dC, dBin, dUn, dNil, dCons, dTup, dLst, dTst, dAndT, dOrT, dNotT, dYes, dAnd, dOr, dNot, dChain, dCall, dCB, dMt, dLset, dSrev, dTry, dIsx, dEmp, dDic1, dStp, xsub, Ex.sub, dSlc, dPart, dNoPart, dIAny, dI1, dI2, dI3, dFor, dComp, compB, wipeD, startD, endsOf, at_mk, setAll, add_int, sub_int, mul_int, mul_tup, pow_int, mod_int, fdiv_int, lt_int, le_int, gt_int, ge_int, eq_int, neg_int, len_tup, len_scr, abs_int, max_int, min_int, int_int, int_bl, r1_int, r2_int, tuple_tup, list_tup, over_tup, rev_tup, enum_tup, zip_tup, slc_tup, add_tup, isi_any, ix_tup, ix_scr, ix_num0, ix_num1, len_num, num_0, num_1, atI_0, atI_1, atI_2, List.map, List.cons_append, List.nil_append, List.getElem?_cons_zero, List.getElem?_cons_succ, List.getElem?_nil, List.set_cons_zero, List.set_cons_succ, List.replicate, List.length_cons, List.length_nil, List.foldr_cons, List.foldr_nil, Nat.reduceAdd, Nat.reduceSub, List.replicate_succ, List.replicate_zero, G_up_same, decide_eq_true_eq, Bool.not_eq_true', Bool.false_eq_true, if_true, if_false, ite_true, ite_false, and_true, true_and, reduceCtorEq, Bool.not_true, Bool.not_false, Bool.false_bne, Bool.true_bne, sl0, sl1, sl2, sl3, sl4]
  refine eq_tup (fun _ => ?_) fun z => absurd rfl z
  simp only [mnS, dLamr, mn, Mn.of, Op.rd, Cm.rd, Bl.rd, Mt.rd, Mt.rc, dNop, dSeq, dExpr, dRet, dRetN, dIf, gD, dAsg, dPar, dPut, dRaise, dVar, dC, dBin, dUn, dNil, dCons, dTup, dLst, dTst, dAndT, dOrT, dNotT, dYes, dAnd, dOr, dNot, dChain, dCall, dCB, dMt, dLset, dSrev, dTry, dIsx, dEmp, dDic1, dStp, xsub, Ex.sub, dSlc, dPart, dNoPart, dIAny, dI1, dI2, dI3, dFor, dComp, compB, wipeD, startD, endsOf, at_mk, setAll, add_int, sub_int, mul_int, mul_tup, pow_int, mod_int, fdiv_int, lt_int, le_int, gt_int, ge_int, eq_int, neg_int, len_tup, len_scr, abs_int, max_int, min_int, int_int, int_bl, r1_int, r2_int, tuple_tup, list_tup, over_tup, rev_tup, enum_tup, zip_tup, slc_tup, add_tup, isi_any, ix_tup, ix_scr, ix_num0, ix_num1, len_num, num_0, num_1, atI_0, atI_1, atI_2, List.map, List.cons_append, List.nil_append, List.getElem?_cons_zero, List.getElem?_cons_succ, List.getElem?_nil, List.set_cons_zero, List.set_cons_succ, List.replicate, List.length_cons, List.length_nil, List.foldr_cons, List.foldr_nil, Nat.reduceAdd, Nat.reduceSub, List.replicate_succ, List.replicate_zero, G_up_same, decide_eq_true_eq, Bool.not_eq_true', Bool.false_eq_true, if_true, if_false, ite_true, ite_false, and_true, true_and, reduceCtorEq, Bool.not_true, Bool.not_false, Bool.false_bne, Bool.true_bne, sl0, sl1, sl2, sl3, sl4, sx_law_k39_v5_3, h27, h75]
  refine for_inv (fun j env g' => ∃ o3, env = [some (.scr ns), some (.ref a), some (.tup (nums t)), o3, none, none, some (.tup (nums c)), some (.dfz (nums rs)), some (.tup (nums t)), none] ∧ g' = g1) (fun _ _ _ _ => trivial) ?_ ?_ ⟨_, rfl, rfl⟩
  · rintro j x env g' N hj ⟨o3, rfl, rfl⟩ hN
    obtain ⟨r, hr, rfl⟩ := nums_at hj
    have hrm := List.mem_of_getElem? hr
    have hrs := hF.rz r hrm
    have hz := (hF.zL r).mpr hrm
    try simp only [mnS, dLamr, mn, Mn.of, Op.rd, Cm.rd, Bl.rd, Mt.rd, Mt.rc, dNop, dSeq, dExpr, dRet, dRetN, dIf, gD, dAsg, dPar, dPut, dRaise, dVar, dC, dBin, dUn, dNil, dCons, dTup, dLst, dTst, dAndT, dOrT, dNotT, dYes, dAnd, dOr, dNot, dChain, dCall, dCB, dMt, dLset, dSrev, dTry, dIsx, dEmp, dDic1, dStp, xsub, Ex.sub, dSlc, dPart, dNoPart, dIAny, dI1, dI2, dI3, dFor, dComp, compB, wipeD, startD, endsOf, at_mk, setAll, add_int, sub_int, mul_int, mul_tup, pow_int, mod_int, fdiv_int, lt_int, le_int, gt_int, ge_int, eq_int, neg_int, len_tup, len_scr, abs_int, max_int, min_int, int_int, int_bl, r1_int, r2_int, tuple_tup, list_tup, over_tup, rev_tup, enum_tup, zip_tup, slc_tup, add_tup, isi_any, ix_tup, ix_scr, ix_num0, ix_num1, len_num, num_0, num_1, atI_0, atI_1, atI_2, List.map, List.cons_append, List.nil_append, List.getElem?_cons_zero, List.getElem?_cons_succ, List.getElem?_nil, List.set_cons_zero, List.set_cons_succ, List.replicate, List.length_cons, List.length_nil, List.foldr_cons, List.foldr_nil, Nat.reduceAdd, Nat.reduceSub, List.replicate_succ, List.replicate_zero, G_up_same, decide_eq_true_eq, Bool.not_eq_true', Bool.false_eq_true, if_true, if_false, ite_true, ite_false, and_true, true_and, reduceCtorEq, Bool.not_true, Bool.not_false, Bool.false_bne, Bool.true_bne, sl0, sl1, sl2, sl3, sl4]
    refine c_ev' 74 16 .tup hF.hL.szs hrs ?_ ?_
    · have h9 : (t.length + 2) * (16 + 2) ≤ 7 * 18 := Nat.mul_le_mul_right _ (by omega)
      exact Nat.le_trans (Nat.mul_le_mul (show t.length + 2 ≤ 7 by omega) (Nat.add_le_add_left h9 74)) (by decide)
    try simp only [mnS, dLamr, mn, Mn.of, Op.rd, Cm.rd, Bl.rd, Mt.rd, Mt.rc, dNop, dSeq, dExpr, dRet, dRetN, dIf, gD, dAsg, dPar, dPut, dRaise, dVar, dC, dBin, dUn, dNil, dCons, dTup, dLst, dTst, dAndT, dOrT, dNotT, dYes, dAnd, dOr, dNot, dChain, dCall, dCB, dMt, dLset, dSrev, dTry, dIsx, dEmp, dDic1, dStp, xsub, Ex.sub, dSlc, dPart, dNoPart, dIAny, dI1, dI2, dI3, dFor, dComp, compB, wipeD, startD, endsOf, at_mk, setAll, add_int, sub_int, mul_int, mul_tup, pow_int, mod_int, fdiv_int, lt_int, le_int, gt_int, ge_int, eq_int, neg_int, len_tup, len_scr, abs_int, max_int, min_int, int_int, int_bl, r1_int, r2_int, tuple_tup, list_tup, over_tup, rev_tup, enum_tup, zip_tup, slc_tup, add_tup, isi_any, ix_tup, ix_scr, ix_num0, ix_num1, len_num, num_0, num_1, atI_0, atI_1, atI_2, List.map, List.cons_append, List.nil_append, List.getElem?_cons_zero, List.getElem?_cons_succ, List.getElem?_nil, List.set_cons_zero, List.set_cons_succ, List.replicate, List.length_cons, List.length_nil, List.foldr_cons, List.foldr_nil, Nat.reduceAdd, Nat.reduceSub, List.replicate_succ, List.replicate_zero, G_up_same, decide_eq_true_eq, Bool.not_eq_true', Bool.false_eq_true, if_true, if_false, ite_true, ite_false, and_true, true_and, reduceCtorEq, Bool.not_true, Bool.not_false, Bool.false_bne, Bool.true_bne, sl0, sl1, sl2, sl3, sl4]
    refine eq_num (q := 0) (fun e => ?_) fun e => absurd hz e
    try simp only [mnS, dLamr, mn, Mn.of, Op.rd, Cm.rd, Bl.rd, Mt.rd, Mt.rc, dNop, dSeq, dExpr, dRet, dRetN, dIf, gD, dAsg, dPar, dPut, dRaise, dVar, dC, dBin, dUn, dNil, dCons, dTup, dLst, dTst, dAndT, dOrT, dNotT, dYes, dAnd, dOr, dNot, dChain, dCall, dCB, dMt, dLset, dSrev, dTry, dIsx, dEmp, dDic1, dStp, xsub, Ex.sub, dSlc, dPart, dNoPart, dIAny, dI1, dI2, dI3, dFor, dComp, compB, wipeD, startD, endsOf, at_mk, setAll, add_int, sub_int, mul_int, mul_tup, pow_int, mod_int, fdiv_int, lt_int, le_int, gt_int, ge_int, eq_int, neg_int, len_tup, len_scr, abs_int, max_int, min_int, int_int, int_bl, r1_int, r2_int, tuple_tup, list_tup, over_tup, rev_tup, enum_tup, zip_tup, slc_tup, add_tup, isi_any, ix_tup, ix_scr, ix_num0, ix_num1, len_num, num_0, num_1, atI_0, atI_1, atI_2, List.map, List.cons_append, List.nil_append, List.getElem?_cons_zero, List.getElem?_cons_succ, List.getElem?_nil, List.set_cons_zero, List.set_cons_succ, List.replicate, List.length_cons, List.length_nil, List.foldr_cons, List.foldr_nil, Nat.reduceAdd, Nat.reduceSub, List.replicate_succ, List.replicate_zero, G_up_same, decide_eq_true_eq, Bool.not_eq_true', Bool.false_eq_true, if_true, if_false, ite_true, ite_false, and_true, true_and, reduceCtorEq, Bool.not_true, Bool.not_false, Bool.false_bne, Bool.true_bne, sl0, sl1, sl2, sl3, sl4]
    refine ⟨_, r, t, 74, 16, rfl, .tup, hF.hL.szs, hrs, by omega, ?_, ?_⟩
    · have h9 : (t.length + 2) * (16 + 2) ≤ 7 * 18 := Nat.mul_le_mul_right _ (by omega)
      exact Nat.le_trans (Nat.mul_le_mul (show t.length + 2 ≤ 7 by omega) (Nat.add_le_add_left h9 84)) (by decide)
    refine eq_num (q := 0) (fun e => absurd e (hsq r hz)) fun e => ?_
    try simp only [mnS, dLamr, mn, Mn.of, Op.rd, Cm.rd, Bl.rd, Mt.rd, Mt.rc, dNop, dSeq, dExpr, dRet, dRetN, dIf, gD, dAsg, dPar, dPut, dRaise, dVar, dC, dBin, dUn, dNil, dCons, dTup, dLst, dTst, dAndT, dOrT, dNotT, dYes, dAnd, dOr, dNot, dChain, dCall, dCB, dMt, dLset, dSrev, dTry, dIsx, dEmp, dDic1, dStp, xsub, Ex.sub, dSlc, dPart, dNoPart, dIAny, dI1, dI2, dI3, dFor, dComp, compB, wipeD, startD, endsOf, at_mk, setAll, add_int, sub_int, mul_int, mul_tup, pow_int, mod_int, fdiv_int, lt_int, le_int, gt_int, ge_int, eq_int, neg_int, len_tup, len_scr, abs_int, max_int, min_int, int_int, int_bl, r1_int, r2_int, tuple_tup, list_tup, over_tup, rev_tup, enum_tup, zip_tup, slc_tup, add_tup, isi_any, ix_tup, ix_scr, ix_num0, ix_num1, len_num, num_0, num_1, atI_0, atI_1, atI_2, List.map, List.cons_append, List.nil_append, List.getElem?_cons_zero, List.getElem?_cons_succ, List.getElem?_nil, List.set_cons_zero, List.set_cons_succ, List.replicate, List.length_cons, List.length_nil, List.foldr_cons, List.foldr_nil, Nat.reduceAdd, Nat.reduceSub, List.replicate_succ, List.replicate_zero, G_up_same, decide_eq_true_eq, Bool.not_eq_true', Bool.false_eq_true, if_true, if_false, ite_true, ite_false, and_true, true_and, reduceCtorEq, Bool.not_true, Bool.not_false, Bool.false_bne, Bool.true_bne, sl0, sl1, sl2, sl3, sl4]
    exact hN _ _ ⟨_, rfl, rfl⟩
  · rintro env g' ⟨o3, rfl, rfl⟩
    exact k39_2 h4 h26 h28 h37 h44 h50 h186 h411 K p1 (by omega) fin
end
end PP
set_option maxHeartbeats 0
namespace PK39
open PySem PySem.Spec PyProof.Rows L2 PP
def top (i : Nat) : Stmt := PySem.Challenge.pw_onecurve_k39_lone_parts.main.body.getD i (.Pass ⟨0, 0, 0, 0⟩)
def gl : Nat → D
  | 0 => .tup [.int 0, .int 1]
  | 1 => .tup [.int 1, .int 1]
  | _ => .non
def gls : List (Nat × Str) := [(0, "NOUGHT"), (1, "ONE")]
def exs : List Ex := [.number, .ncurve, .npoint, .npoints, .row, .stretch, .text, .deep, .few, .many, .curve]
def Γ : Nat → SpD
  | 0 => spShared
  | 1 => spLowest
  | 12 => spMinus
  | 13 => spTimes
  | 14 => spOver
  | 23 => spCurveOf
  | 30 => spNumberAt
  | 32 => spLessened
  | 33 => spScaled
  | 41 => spSlopeOf
  | 44 => spDivH
  | 49 => spLastOne
  | 50 => spComL
  | 185 => spAskC
  | 186 => spLone39
  | 3 => spPen
  | 4 => spDraw
  | 5 => spLowest
  | 25 => spPlus
  | 35 => spMinus
  | 26 => spTimes
  | 36 => spPenFn (isNumD 16) 4
  | 27 => spEv
  | 75 => spSlopeAt
  | 37 => spCurveDrawn
  | 6 => spWhole
  | 7 => spIsNum
  | 28 => spIsCurve
  | 407 => spRefusal
  | 187 => spProdT
  | 443 => spKnown
  | 411 => spRefused39
  | _ => fun _ _ _ _ => False
abbrev F0 : List (Nat × Str) := []
abbrev F1 : List (Nat × Str) := (0, "shared_part") :: F0
abbrev F2 : List (Nat × Str) := (1, "lowest") :: F1
abbrev F3 : List (Nat × Str) := (12, "minus") :: F2
abbrev F4 : List (Nat × Str) := (13, "times") :: F3
abbrev F5 : List (Nat × Str) := (14, "over") :: F4
abbrev F6 : List (Nat × Str) := (23, "curve_of") :: F5
abbrev F7 : List (Nat × Str) := (30, "number_at") :: F6
abbrev F8 : List (Nat × Str) := (32, "lessened") :: F7
abbrev F9 : List (Nat × Str) := (33, "scaled") :: F8
abbrev F10 : List (Nat × Str) := (41, "slope_of") :: F9
abbrev F11 : List (Nat × Str) := (44, "divided") :: F10
abbrev F12 : List (Nat × Str) := (49, "with_last_one") :: F11
abbrev F13 : List (Nat × Str) := (50, "common_part") :: F12
abbrev F14 : List (Nat × Str) := (185, "ask_curve") :: F13
abbrev F15 : List (Nat × Str) := (186, "lone_part") :: F14
abbrev F16 : List (Nat × Str) := (3, "_law_pen") :: F15
abbrev F17 : List (Nat × Str) := (4, "_law_draw") :: F16
abbrev F18 : List (Nat × Str) := (5, "_law_lowest") :: F17
abbrev F19 : List (Nat × Str) := (25, "_law_plus") :: F18
abbrev F20 : List (Nat × Str) := (35, "_law_minus") :: F19
abbrev F21 : List (Nat × Str) := (26, "_law_times") :: F20
abbrev F22 : List (Nat × Str) := (36, "_law_number") :: F21
abbrev F23 : List (Nat × Str) := (27, "_law_at") :: F22
abbrev F24 : List (Nat × Str) := (75, "_law_slope_at") :: F23
abbrev F25 : List (Nat × Str) := (37, "_law_curve") :: F24
abbrev F26 : List (Nat × Str) := (6, "_law_whole") :: F25
abbrev F27 : List (Nat × Str) := (7, "_law_is_number") :: F26
abbrev F28 : List (Nat × Str) := (28, "_law_is_curve") :: F27
abbrev F29 : List (Nat × Str) := F28
abbrev F30 : List (Nat × Str) := (187, "_law_product") :: F29
abbrev F31 : List (Nat × Str) := (443, "_law_known") :: F30
abbrev F32 : List (Nat × Str) := (411, "_law_refused") :: F31
abbrev N0 : List Str := ["one", "other"]
theorem chk0 : knS sx_shared_part (ckOf N0 (defScope (top 15)) F0 gls exs) (defBody (top 15)) = true := by decide +kernel
theorem sc0 : FnScope N0 ["one", "other"] (defScope (top 15)) := ⟨rfl, rfl, rfl, by decide +kernel, rfl, by decide +kernel, by decide +kernel⟩
theorem len0 (ds : List D) (g : G) (Q : QD) (E : XD) (h : Γ 0 ds g Q E) : ds.length = 2 := by first | (obtain ⟨rfl, _⟩ := h; rfl; done) | (obtain ⟨_, rfl, _⟩ := h; rfl; done) | (obtain ⟨_, _, rfl, _⟩ := h; rfl; done) | (obtain ⟨_, _, _, rfl, _⟩ := h; rfl; done) | (obtain ⟨_, _, _, _, rfl, _⟩ := h; rfl; done) | (obtain ⟨_, _, _, _, _, rfl, _⟩ := h; rfl; done) | (obtain ⟨_, _, _, _, _, _, rfl, _⟩ := h; rfl; done) | (obtain ⟨_, _, _, _, _, _, _, rfl, _⟩ := h; rfl; done) | (obtain ⟨_, _, _, _, _, _, _, _, rfl, _⟩ := h; rfl; done) | (obtain ⟨_, _, _, _, _, _, _, _, _, rfl, _⟩ := h; rfl; done) | (obtain ⟨_, _, _, _, _, _, _, _, _, _, rfl, _⟩ := h; rfl; done) | (obtain ⟨_, _, _, _, _, _, _, _, _, _, _, rfl, _⟩ := h; rfl; done) | (obtain ⟨_, _, _, _, _, _, _, _, _, _, _, _, rfl, _⟩ := h; rfl; done) | (obtain ⟨_, _, _, _, _, _, _, _, _, _, _, _, _, rfl, _⟩ := h; rfl; done) | (rcases h with h | h <;> first | (obtain ⟨rfl, _⟩ := h; rfl; done) | (obtain ⟨_, rfl, _⟩ := h; rfl; done) | (obtain ⟨_, _, rfl, _⟩ := h; rfl; done) | (obtain ⟨_, _, _, rfl, _⟩ := h; rfl; done) | (obtain ⟨_, _, _, _, rfl, _⟩ := h; rfl; done) | (obtain ⟨_, _, _, _, _, rfl, _⟩ := h; rfl; done) | (obtain ⟨_, _, _, _, _, _, rfl, _⟩ := h; rfl; done) | (obtain ⟨_, _, _, _, _, _, _, rfl, _⟩ := h; rfl; done) | (obtain ⟨_, _, _, _, _, _, _, _, rfl, _⟩ := h; rfl; done) | (obtain ⟨_, _, _, _, _, _, _, _, _, rfl, _⟩ := h; rfl; done) | (obtain ⟨_, _, _, _, _, _, _, _, _, _, rfl, _⟩ := h; rfl; done) | (obtain ⟨_, _, _, _, _, _, _, _, _, _, _, rfl, _⟩ := h; rfl; done) | (obtain ⟨_, _, _, _, _, _, _, _, _, _, _, _, rfl, _⟩ := h; rfl; done) | (obtain ⟨_, _, _, _, _, _, _, _, _, _, _, _, _, rfl, _⟩ := h; rfl; done))
theorem ok0 : DefOk Γ gl F0 gls exs (top 15) (Γ 0) := ⟨N0, ["one", "other"], sx_shared_part, sc0, chk0, fun x K f fd F => F.bindsN fun _ _ _ _ _ _ us hl => (match us, hl with | [_, _], _ => rfl), fun ds g Q E h => len0 ds g Q E h, fun ds g Q E h => by rw [startD_len (N := N0) (M := ns_shared_part) rfl]; exact pure_shared_part h⟩
abbrev N1 : List Str := ["top", "bottom", "part"]
theorem chk1 : knS sx_lowest (ckOf N1 (defScope (top 16)) F1 gls exs) (defBody (top 16)) = true := by decide +kernel
theorem sc1 : FnScope N1 ["top", "bottom"] (defScope (top 16)) := ⟨rfl, rfl, rfl, by decide +kernel, rfl, by decide +kernel, by decide +kernel⟩
theorem len1 (ds : List D) (g : G) (Q : QD) (E : XD) (h : Γ 1 ds g Q E) : ds.length = 2 := by first | (obtain ⟨rfl, _⟩ := h; rfl; done) | (obtain ⟨_, rfl, _⟩ := h; rfl; done) | (obtain ⟨_, _, rfl, _⟩ := h; rfl; done) | (obtain ⟨_, _, _, rfl, _⟩ := h; rfl; done) | (obtain ⟨_, _, _, _, rfl, _⟩ := h; rfl; done) | (obtain ⟨_, _, _, _, _, rfl, _⟩ := h; rfl; done) | (obtain ⟨_, _, _, _, _, _, rfl, _⟩ := h; rfl; done) | (obtain ⟨_, _, _, _, _, _, _, rfl, _⟩ := h; rfl; done) | (obtain ⟨_, _, _, _, _, _, _, _, rfl, _⟩ := h; rfl; done) | (obtain ⟨_, _, _, _, _, _, _, _, _, rfl, _⟩ := h; rfl; done) | (obtain ⟨_, _, _, _, _, _, _, _, _, _, rfl, _⟩ := h; rfl; done) | (obtain ⟨_, _, _, _, _, _, _, _, _, _, _, rfl, _⟩ := h; rfl; done) | (obtain ⟨_, _, _, _, _, _, _, _, _, _, _, _, rfl, _⟩ := h; rfl; done) | (obtain ⟨_, _, _, _, _, _, _, _, _, _, _, _, _, rfl, _⟩ := h; rfl; done) | (rcases h with h | h <;> first | (obtain ⟨rfl, _⟩ := h; rfl; done) | (obtain ⟨_, rfl, _⟩ := h; rfl; done) | (obtain ⟨_, _, rfl, _⟩ := h; rfl; done) | (obtain ⟨_, _, _, rfl, _⟩ := h; rfl; done) | (obtain ⟨_, _, _, _, rfl, _⟩ := h; rfl; done) | (obtain ⟨_, _, _, _, _, rfl, _⟩ := h; rfl; done) | (obtain ⟨_, _, _, _, _, _, rfl, _⟩ := h; rfl; done) | (obtain ⟨_, _, _, _, _, _, _, rfl, _⟩ := h; rfl; done) | (obtain ⟨_, _, _, _, _, _, _, _, rfl, _⟩ := h; rfl; done) | (obtain ⟨_, _, _, _, _, _, _, _, _, rfl, _⟩ := h; rfl; done) | (obtain ⟨_, _, _, _, _, _, _, _, _, _, rfl, _⟩ := h; rfl; done) | (obtain ⟨_, _, _, _, _, _, _, _, _, _, _, rfl, _⟩ := h; rfl; done) | (obtain ⟨_, _, _, _, _, _, _, _, _, _, _, _, rfl, _⟩ := h; rfl; done) | (obtain ⟨_, _, _, _, _, _, _, _, _, _, _, _, _, rfl, _⟩ := h; rfl; done))
theorem ok1 : DefOk Γ gl F1 gls exs (top 16) (Γ 1) := ⟨N1, ["top", "bottom"], sx_lowest, sc1, chk1, fun x K f fd F => F.bindsN fun _ _ _ _ _ _ us hl => (match us, hl with | [_, _], _ => rfl), fun ds g Q E h => len1 ds g Q E h, fun ds g Q E h => by rw [startD_len (N := N1) (M := ns_lowest) rfl]; exact pure_lowest rfl h⟩
abbrev N2 : List Str := ["a", "b"]
theorem chk2 : knS sx_minus (ckOf N2 (defScope (top 17)) F2 gls exs) (defBody (top 17)) = true := by decide +kernel
theorem sc2 : FnScope N2 ["a", "b"] (defScope (top 17)) := ⟨rfl, rfl, rfl, by decide +kernel, rfl, by decide +kernel, by decide +kernel⟩
theorem len2 (ds : List D) (g : G) (Q : QD) (E : XD) (h : Γ 12 ds g Q E) : ds.length = 2 := by first | (obtain ⟨rfl, _⟩ := h; rfl; done) | (obtain ⟨_, rfl, _⟩ := h; rfl; done) | (obtain ⟨_, _, rfl, _⟩ := h; rfl; done) | (obtain ⟨_, _, _, rfl, _⟩ := h; rfl; done) | (obtain ⟨_, _, _, _, rfl, _⟩ := h; rfl; done) | (obtain ⟨_, _, _, _, _, rfl, _⟩ := h; rfl; done) | (obtain ⟨_, _, _, _, _, _, rfl, _⟩ := h; rfl; done) | (obtain ⟨_, _, _, _, _, _, _, rfl, _⟩ := h; rfl; done) | (obtain ⟨_, _, _, _, _, _, _, _, rfl, _⟩ := h; rfl; done) | (obtain ⟨_, _, _, _, _, _, _, _, _, rfl, _⟩ := h; rfl; done) | (obtain ⟨_, _, _, _, _, _, _, _, _, _, rfl, _⟩ := h; rfl; done) | (obtain ⟨_, _, _, _, _, _, _, _, _, _, _, rfl, _⟩ := h; rfl; done) | (obtain ⟨_, _, _, _, _, _, _, _, _, _, _, _, rfl, _⟩ := h; rfl; done) | (obtain ⟨_, _, _, _, _, _, _, _, _, _, _, _, _, rfl, _⟩ := h; rfl; done) | (rcases h with h | h <;> first | (obtain ⟨rfl, _⟩ := h; rfl; done) | (obtain ⟨_, rfl, _⟩ := h; rfl; done) | (obtain ⟨_, _, rfl, _⟩ := h; rfl; done) | (obtain ⟨_, _, _, rfl, _⟩ := h; rfl; done) | (obtain ⟨_, _, _, _, rfl, _⟩ := h; rfl; done) | (obtain ⟨_, _, _, _, _, rfl, _⟩ := h; rfl; done) | (obtain ⟨_, _, _, _, _, _, rfl, _⟩ := h; rfl; done) | (obtain ⟨_, _, _, _, _, _, _, rfl, _⟩ := h; rfl; done) | (obtain ⟨_, _, _, _, _, _, _, _, rfl, _⟩ := h; rfl; done) | (obtain ⟨_, _, _, _, _, _, _, _, _, rfl, _⟩ := h; rfl; done) | (obtain ⟨_, _, _, _, _, _, _, _, _, _, rfl, _⟩ := h; rfl; done) | (obtain ⟨_, _, _, _, _, _, _, _, _, _, _, rfl, _⟩ := h; rfl; done) | (obtain ⟨_, _, _, _, _, _, _, _, _, _, _, _, rfl, _⟩ := h; rfl; done) | (obtain ⟨_, _, _, _, _, _, _, _, _, _, _, _, _, rfl, _⟩ := h; rfl; done))
theorem ok2 : DefOk Γ gl F2 gls exs (top 17) (Γ 12) := ⟨N2, ["a", "b"], sx_minus, sc2, chk2, fun x K f fd F => F.bindsN fun _ _ _ _ _ _ us hl => (match us, hl with | [_, _], _ => rfl), fun ds g Q E h => len2 ds g Q E h, fun ds g Q E h => by rw [startD_len (N := N2) (M := ns_minus) rfl]; exact pure_minus rfl h⟩
abbrev N3 : List Str := ["a", "b"]
theorem chk3 : knS sx_times (ckOf N3 (defScope (top 18)) F3 gls exs) (defBody (top 18)) = true := by decide +kernel
theorem sc3 : FnScope N3 ["a", "b"] (defScope (top 18)) := ⟨rfl, rfl, rfl, by decide +kernel, rfl, by decide +kernel, by decide +kernel⟩
theorem len3 (ds : List D) (g : G) (Q : QD) (E : XD) (h : Γ 13 ds g Q E) : ds.length = 2 := by first | (obtain ⟨rfl, _⟩ := h; rfl; done) | (obtain ⟨_, rfl, _⟩ := h; rfl; done) | (obtain ⟨_, _, rfl, _⟩ := h; rfl; done) | (obtain ⟨_, _, _, rfl, _⟩ := h; rfl; done) | (obtain ⟨_, _, _, _, rfl, _⟩ := h; rfl; done) | (obtain ⟨_, _, _, _, _, rfl, _⟩ := h; rfl; done) | (obtain ⟨_, _, _, _, _, _, rfl, _⟩ := h; rfl; done) | (obtain ⟨_, _, _, _, _, _, _, rfl, _⟩ := h; rfl; done) | (obtain ⟨_, _, _, _, _, _, _, _, rfl, _⟩ := h; rfl; done) | (obtain ⟨_, _, _, _, _, _, _, _, _, rfl, _⟩ := h; rfl; done) | (obtain ⟨_, _, _, _, _, _, _, _, _, _, rfl, _⟩ := h; rfl; done) | (obtain ⟨_, _, _, _, _, _, _, _, _, _, _, rfl, _⟩ := h; rfl; done) | (obtain ⟨_, _, _, _, _, _, _, _, _, _, _, _, rfl, _⟩ := h; rfl; done) | (obtain ⟨_, _, _, _, _, _, _, _, _, _, _, _, _, rfl, _⟩ := h; rfl; done) | (rcases h with h | h <;> first | (obtain ⟨rfl, _⟩ := h; rfl; done) | (obtain ⟨_, rfl, _⟩ := h; rfl; done) | (obtain ⟨_, _, rfl, _⟩ := h; rfl; done) | (obtain ⟨_, _, _, rfl, _⟩ := h; rfl; done) | (obtain ⟨_, _, _, _, rfl, _⟩ := h; rfl; done) | (obtain ⟨_, _, _, _, _, rfl, _⟩ := h; rfl; done) | (obtain ⟨_, _, _, _, _, _, rfl, _⟩ := h; rfl; done) | (obtain ⟨_, _, _, _, _, _, _, rfl, _⟩ := h; rfl; done) | (obtain ⟨_, _, _, _, _, _, _, _, rfl, _⟩ := h; rfl; done) | (obtain ⟨_, _, _, _, _, _, _, _, _, rfl, _⟩ := h; rfl; done) | (obtain ⟨_, _, _, _, _, _, _, _, _, _, rfl, _⟩ := h; rfl; done) | (obtain ⟨_, _, _, _, _, _, _, _, _, _, _, rfl, _⟩ := h; rfl; done) | (obtain ⟨_, _, _, _, _, _, _, _, _, _, _, _, rfl, _⟩ := h; rfl; done) | (obtain ⟨_, _, _, _, _, _, _, _, _, _, _, _, _, rfl, _⟩ := h; rfl; done))
theorem ok3 : DefOk Γ gl F3 gls exs (top 18) (Γ 13) := ⟨N3, ["a", "b"], sx_times, sc3, chk3, fun x K f fd F => F.bindsN fun _ _ _ _ _ _ us hl => (match us, hl with | [_, _], _ => rfl), fun ds g Q E h => len3 ds g Q E h, fun ds g Q E h => by rw [startD_len (N := N3) (M := ns_times) rfl]; exact pure_times rfl h⟩
abbrev N4 : List Str := ["a", "b"]
theorem chk4 : knS sx_over (ckOf N4 (defScope (top 19)) F4 gls exs) (defBody (top 19)) = true := by decide +kernel
theorem sc4 : FnScope N4 ["a", "b"] (defScope (top 19)) := ⟨rfl, rfl, rfl, by decide +kernel, rfl, by decide +kernel, by decide +kernel⟩
theorem len4 (ds : List D) (g : G) (Q : QD) (E : XD) (h : Γ 14 ds g Q E) : ds.length = 2 := by first | (obtain ⟨rfl, _⟩ := h; rfl; done) | (obtain ⟨_, rfl, _⟩ := h; rfl; done) | (obtain ⟨_, _, rfl, _⟩ := h; rfl; done) | (obtain ⟨_, _, _, rfl, _⟩ := h; rfl; done) | (obtain ⟨_, _, _, _, rfl, _⟩ := h; rfl; done) | (obtain ⟨_, _, _, _, _, rfl, _⟩ := h; rfl; done) | (obtain ⟨_, _, _, _, _, _, rfl, _⟩ := h; rfl; done) | (obtain ⟨_, _, _, _, _, _, _, rfl, _⟩ := h; rfl; done) | (obtain ⟨_, _, _, _, _, _, _, _, rfl, _⟩ := h; rfl; done) | (obtain ⟨_, _, _, _, _, _, _, _, _, rfl, _⟩ := h; rfl; done) | (obtain ⟨_, _, _, _, _, _, _, _, _, _, rfl, _⟩ := h; rfl; done) | (obtain ⟨_, _, _, _, _, _, _, _, _, _, _, rfl, _⟩ := h; rfl; done) | (obtain ⟨_, _, _, _, _, _, _, _, _, _, _, _, rfl, _⟩ := h; rfl; done) | (obtain ⟨_, _, _, _, _, _, _, _, _, _, _, _, _, rfl, _⟩ := h; rfl; done) | (rcases h with h | h <;> first | (obtain ⟨rfl, _⟩ := h; rfl; done) | (obtain ⟨_, rfl, _⟩ := h; rfl; done) | (obtain ⟨_, _, rfl, _⟩ := h; rfl; done) | (obtain ⟨_, _, _, rfl, _⟩ := h; rfl; done) | (obtain ⟨_, _, _, _, rfl, _⟩ := h; rfl; done) | (obtain ⟨_, _, _, _, _, rfl, _⟩ := h; rfl; done) | (obtain ⟨_, _, _, _, _, _, rfl, _⟩ := h; rfl; done) | (obtain ⟨_, _, _, _, _, _, _, rfl, _⟩ := h; rfl; done) | (obtain ⟨_, _, _, _, _, _, _, _, rfl, _⟩ := h; rfl; done) | (obtain ⟨_, _, _, _, _, _, _, _, _, rfl, _⟩ := h; rfl; done) | (obtain ⟨_, _, _, _, _, _, _, _, _, _, rfl, _⟩ := h; rfl; done) | (obtain ⟨_, _, _, _, _, _, _, _, _, _, _, rfl, _⟩ := h; rfl; done) | (obtain ⟨_, _, _, _, _, _, _, _, _, _, _, _, rfl, _⟩ := h; rfl; done) | (obtain ⟨_, _, _, _, _, _, _, _, _, _, _, _, _, rfl, _⟩ := h; rfl; done))
theorem ok4 : DefOk Γ gl F4 gls exs (top 19) (Γ 14) := ⟨N4, ["a", "b"], sx_over, sc4, chk4, fun x K f fd F => F.bindsN fun _ _ _ _ _ _ us hl => (match us, hl with | [_, _], _ => rfl), fun ds g Q E h => len4 ds g Q E h, fun ds g Q E h => by rw [startD_len (N := N4) (M := ns_over) rfl]; exact pure_over rfl h⟩
abbrev N5 : List Str := ["numbers", "many"]
theorem chk5 : knS sx_curve_of (ckOf N5 (defScope (top 21)) F5 gls exs) (defBody (top 21)) = true := by decide +kernel
theorem sc5 : FnScope N5 ["numbers"] (defScope (top 21)) := ⟨rfl, rfl, rfl, by decide +kernel, rfl, by decide +kernel, by decide +kernel⟩
theorem len5 (ds : List D) (g : G) (Q : QD) (E : XD) (h : Γ 23 ds g Q E) : ds.length = 1 := by first | (obtain ⟨rfl, _⟩ := h; rfl; done) | (obtain ⟨_, rfl, _⟩ := h; rfl; done) | (obtain ⟨_, _, rfl, _⟩ := h; rfl; done) | (obtain ⟨_, _, _, rfl, _⟩ := h; rfl; done) | (obtain ⟨_, _, _, _, rfl, _⟩ := h; rfl; done) | (obtain ⟨_, _, _, _, _, rfl, _⟩ := h; rfl; done) | (obtain ⟨_, _, _, _, _, _, rfl, _⟩ := h; rfl; done) | (obtain ⟨_, _, _, _, _, _, _, rfl, _⟩ := h; rfl; done) | (obtain ⟨_, _, _, _, _, _, _, _, rfl, _⟩ := h; rfl; done) | (obtain ⟨_, _, _, _, _, _, _, _, _, rfl, _⟩ := h; rfl; done) | (obtain ⟨_, _, _, _, _, _, _, _, _, _, rfl, _⟩ := h; rfl; done) | (obtain ⟨_, _, _, _, _, _, _, _, _, _, _, rfl, _⟩ := h; rfl; done) | (obtain ⟨_, _, _, _, _, _, _, _, _, _, _, _, rfl, _⟩ := h; rfl; done) | (obtain ⟨_, _, _, _, _, _, _, _, _, _, _, _, _, rfl, _⟩ := h; rfl; done) | (rcases h with h | h <;> first | (obtain ⟨rfl, _⟩ := h; rfl; done) | (obtain ⟨_, rfl, _⟩ := h; rfl; done) | (obtain ⟨_, _, rfl, _⟩ := h; rfl; done) | (obtain ⟨_, _, _, rfl, _⟩ := h; rfl; done) | (obtain ⟨_, _, _, _, rfl, _⟩ := h; rfl; done) | (obtain ⟨_, _, _, _, _, rfl, _⟩ := h; rfl; done) | (obtain ⟨_, _, _, _, _, _, rfl, _⟩ := h; rfl; done) | (obtain ⟨_, _, _, _, _, _, _, rfl, _⟩ := h; rfl; done) | (obtain ⟨_, _, _, _, _, _, _, _, rfl, _⟩ := h; rfl; done) | (obtain ⟨_, _, _, _, _, _, _, _, _, rfl, _⟩ := h; rfl; done) | (obtain ⟨_, _, _, _, _, _, _, _, _, _, rfl, _⟩ := h; rfl; done) | (obtain ⟨_, _, _, _, _, _, _, _, _, _, _, rfl, _⟩ := h; rfl; done) | (obtain ⟨_, _, _, _, _, _, _, _, _, _, _, _, rfl, _⟩ := h; rfl; done) | (obtain ⟨_, _, _, _, _, _, _, _, _, _, _, _, _, rfl, _⟩ := h; rfl; done))
theorem ok5 : DefOk Γ gl F5 gls exs (top 21) (Γ 23) := ⟨N5, ["numbers"], sx_curve_of, sc5, chk5, fun x K f fd F => F.bindsN fun _ _ _ _ _ _ us hl => (match us, hl with | [_], _ => rfl), fun ds g Q E h => len5 ds g Q E h, fun ds g Q E h => by rw [startD_len (N := N5) (M := ns_curve_of) rfl]; exact pure_curve_of rfl h⟩
abbrev N6 : List Str := ["curve", "k"]
theorem chk6 : knS sx_number_at (ckOf N6 (defScope (top 22)) F6 gls exs) (defBody (top 22)) = true := by decide +kernel
theorem sc6 : FnScope N6 ["curve", "k"] (defScope (top 22)) := ⟨rfl, rfl, rfl, by decide +kernel, rfl, by decide +kernel, by decide +kernel⟩
theorem len6 (ds : List D) (g : G) (Q : QD) (E : XD) (h : Γ 30 ds g Q E) : ds.length = 2 := by first | (obtain ⟨rfl, _⟩ := h; rfl; done) | (obtain ⟨_, rfl, _⟩ := h; rfl; done) | (obtain ⟨_, _, rfl, _⟩ := h; rfl; done) | (obtain ⟨_, _, _, rfl, _⟩ := h; rfl; done) | (obtain ⟨_, _, _, _, rfl, _⟩ := h; rfl; done) | (obtain ⟨_, _, _, _, _, rfl, _⟩ := h; rfl; done) | (obtain ⟨_, _, _, _, _, _, rfl, _⟩ := h; rfl; done) | (obtain ⟨_, _, _, _, _, _, _, rfl, _⟩ := h; rfl; done) | (obtain ⟨_, _, _, _, _, _, _, _, rfl, _⟩ := h; rfl; done) | (obtain ⟨_, _, _, _, _, _, _, _, _, rfl, _⟩ := h; rfl; done) | (obtain ⟨_, _, _, _, _, _, _, _, _, _, rfl, _⟩ := h; rfl; done) | (obtain ⟨_, _, _, _, _, _, _, _, _, _, _, rfl, _⟩ := h; rfl; done) | (obtain ⟨_, _, _, _, _, _, _, _, _, _, _, _, rfl, _⟩ := h; rfl; done) | (obtain ⟨_, _, _, _, _, _, _, _, _, _, _, _, _, rfl, _⟩ := h; rfl; done) | (rcases h with h | h <;> first | (obtain ⟨rfl, _⟩ := h; rfl; done) | (obtain ⟨_, rfl, _⟩ := h; rfl; done) | (obtain ⟨_, _, rfl, _⟩ := h; rfl; done) | (obtain ⟨_, _, _, rfl, _⟩ := h; rfl; done) | (obtain ⟨_, _, _, _, rfl, _⟩ := h; rfl; done) | (obtain ⟨_, _, _, _, _, rfl, _⟩ := h; rfl; done) | (obtain ⟨_, _, _, _, _, _, rfl, _⟩ := h; rfl; done) | (obtain ⟨_, _, _, _, _, _, _, rfl, _⟩ := h; rfl; done) | (obtain ⟨_, _, _, _, _, _, _, _, rfl, _⟩ := h; rfl; done) | (obtain ⟨_, _, _, _, _, _, _, _, _, rfl, _⟩ := h; rfl; done) | (obtain ⟨_, _, _, _, _, _, _, _, _, _, rfl, _⟩ := h; rfl; done) | (obtain ⟨_, _, _, _, _, _, _, _, _, _, _, rfl, _⟩ := h; rfl; done) | (obtain ⟨_, _, _, _, _, _, _, _, _, _, _, _, rfl, _⟩ := h; rfl; done) | (obtain ⟨_, _, _, _, _, _, _, _, _, _, _, _, _, rfl, _⟩ := h; rfl; done))
theorem ok6 : DefOk Γ gl F6 gls exs (top 22) (Γ 30) := ⟨N6, ["curve", "k"], sx_number_at, sc6, chk6, fun x K f fd F => F.bindsN fun _ _ _ _ _ _ us hl => (match us, hl with | [_, _], _ => rfl), fun ds g Q E h => len6 ds g Q E h, fun ds g Q E h => by rw [startD_len (N := N6) (M := ns_number_at) rfl]; exact pure_number_at rfl h⟩
abbrev N7 : List Str := ["one", "other", "many", "k"]
theorem chk7 : knS sx_lessened (ckOf N7 (defScope (top 23)) F7 gls exs) (defBody (top 23)) = true := by decide +kernel
theorem sc7 : FnScope N7 ["one", "other"] (defScope (top 23)) := ⟨rfl, rfl, rfl, by decide +kernel, rfl, by decide +kernel, by decide +kernel⟩
theorem len7 (ds : List D) (g : G) (Q : QD) (E : XD) (h : Γ 32 ds g Q E) : ds.length = 2 := by first | (obtain ⟨rfl, _⟩ := h; rfl; done) | (obtain ⟨_, rfl, _⟩ := h; rfl; done) | (obtain ⟨_, _, rfl, _⟩ := h; rfl; done) | (obtain ⟨_, _, _, rfl, _⟩ := h; rfl; done) | (obtain ⟨_, _, _, _, rfl, _⟩ := h; rfl; done) | (obtain ⟨_, _, _, _, _, rfl, _⟩ := h; rfl; done) | (obtain ⟨_, _, _, _, _, _, rfl, _⟩ := h; rfl; done) | (obtain ⟨_, _, _, _, _, _, _, rfl, _⟩ := h; rfl; done) | (obtain ⟨_, _, _, _, _, _, _, _, rfl, _⟩ := h; rfl; done) | (obtain ⟨_, _, _, _, _, _, _, _, _, rfl, _⟩ := h; rfl; done) | (obtain ⟨_, _, _, _, _, _, _, _, _, _, rfl, _⟩ := h; rfl; done) | (obtain ⟨_, _, _, _, _, _, _, _, _, _, _, rfl, _⟩ := h; rfl; done) | (obtain ⟨_, _, _, _, _, _, _, _, _, _, _, _, rfl, _⟩ := h; rfl; done) | (obtain ⟨_, _, _, _, _, _, _, _, _, _, _, _, _, rfl, _⟩ := h; rfl; done) | (rcases h with h | h <;> first | (obtain ⟨rfl, _⟩ := h; rfl; done) | (obtain ⟨_, rfl, _⟩ := h; rfl; done) | (obtain ⟨_, _, rfl, _⟩ := h; rfl; done) | (obtain ⟨_, _, _, rfl, _⟩ := h; rfl; done) | (obtain ⟨_, _, _, _, rfl, _⟩ := h; rfl; done) | (obtain ⟨_, _, _, _, _, rfl, _⟩ := h; rfl; done) | (obtain ⟨_, _, _, _, _, _, rfl, _⟩ := h; rfl; done) | (obtain ⟨_, _, _, _, _, _, _, rfl, _⟩ := h; rfl; done) | (obtain ⟨_, _, _, _, _, _, _, _, rfl, _⟩ := h; rfl; done) | (obtain ⟨_, _, _, _, _, _, _, _, _, rfl, _⟩ := h; rfl; done) | (obtain ⟨_, _, _, _, _, _, _, _, _, _, rfl, _⟩ := h; rfl; done) | (obtain ⟨_, _, _, _, _, _, _, _, _, _, _, rfl, _⟩ := h; rfl; done) | (obtain ⟨_, _, _, _, _, _, _, _, _, _, _, _, rfl, _⟩ := h; rfl; done) | (obtain ⟨_, _, _, _, _, _, _, _, _, _, _, _, _, rfl, _⟩ := h; rfl; done))
theorem ok7 : DefOk Γ gl F7 gls exs (top 23) (Γ 32) := ⟨N7, ["one", "other"], sx_lessened, sc7, chk7, fun x K f fd F => F.bindsN fun _ _ _ _ _ _ us hl => (match us, hl with | [_, _], _ => rfl), fun ds g Q E h => len7 ds g Q E h, fun ds g Q E h => by rw [startD_len (N := N7) (M := ns_lessened) rfl]; exact pure_lessened rfl rfl rfl h⟩
abbrev N8 : List Str := ["curve", "number", "own"]
theorem chk8 : knS sx_scaled (ckOf N8 (defScope (top 24)) F8 gls exs) (defBody (top 24)) = true := by decide +kernel
theorem sc8 : FnScope N8 ["curve", "number"] (defScope (top 24)) := ⟨rfl, rfl, rfl, by decide +kernel, rfl, by decide +kernel, by decide +kernel⟩
theorem len8 (ds : List D) (g : G) (Q : QD) (E : XD) (h : Γ 33 ds g Q E) : ds.length = 2 := by first | (obtain ⟨rfl, _⟩ := h; rfl; done) | (obtain ⟨_, rfl, _⟩ := h; rfl; done) | (obtain ⟨_, _, rfl, _⟩ := h; rfl; done) | (obtain ⟨_, _, _, rfl, _⟩ := h; rfl; done) | (obtain ⟨_, _, _, _, rfl, _⟩ := h; rfl; done) | (obtain ⟨_, _, _, _, _, rfl, _⟩ := h; rfl; done) | (obtain ⟨_, _, _, _, _, _, rfl, _⟩ := h; rfl; done) | (obtain ⟨_, _, _, _, _, _, _, rfl, _⟩ := h; rfl; done) | (obtain ⟨_, _, _, _, _, _, _, _, rfl, _⟩ := h; rfl; done) | (obtain ⟨_, _, _, _, _, _, _, _, _, rfl, _⟩ := h; rfl; done) | (obtain ⟨_, _, _, _, _, _, _, _, _, _, rfl, _⟩ := h; rfl; done) | (obtain ⟨_, _, _, _, _, _, _, _, _, _, _, rfl, _⟩ := h; rfl; done) | (obtain ⟨_, _, _, _, _, _, _, _, _, _, _, _, rfl, _⟩ := h; rfl; done) | (obtain ⟨_, _, _, _, _, _, _, _, _, _, _, _, _, rfl, _⟩ := h; rfl; done) | (rcases h with h | h <;> first | (obtain ⟨rfl, _⟩ := h; rfl; done) | (obtain ⟨_, rfl, _⟩ := h; rfl; done) | (obtain ⟨_, _, rfl, _⟩ := h; rfl; done) | (obtain ⟨_, _, _, rfl, _⟩ := h; rfl; done) | (obtain ⟨_, _, _, _, rfl, _⟩ := h; rfl; done) | (obtain ⟨_, _, _, _, _, rfl, _⟩ := h; rfl; done) | (obtain ⟨_, _, _, _, _, _, rfl, _⟩ := h; rfl; done) | (obtain ⟨_, _, _, _, _, _, _, rfl, _⟩ := h; rfl; done) | (obtain ⟨_, _, _, _, _, _, _, _, rfl, _⟩ := h; rfl; done) | (obtain ⟨_, _, _, _, _, _, _, _, _, rfl, _⟩ := h; rfl; done) | (obtain ⟨_, _, _, _, _, _, _, _, _, _, rfl, _⟩ := h; rfl; done) | (obtain ⟨_, _, _, _, _, _, _, _, _, _, _, rfl, _⟩ := h; rfl; done) | (obtain ⟨_, _, _, _, _, _, _, _, _, _, _, _, rfl, _⟩ := h; rfl; done) | (obtain ⟨_, _, _, _, _, _, _, _, _, _, _, _, _, rfl, _⟩ := h; rfl; done))
theorem ok8 : DefOk Γ gl F8 gls exs (top 24) (Γ 33) := ⟨N8, ["curve", "number"], sx_scaled, sc8, chk8, fun x K f fd F => F.bindsN fun _ _ _ _ _ _ us hl => (match us, hl with | [_, _], _ => rfl), fun ds g Q E h => len8 ds g Q E h, fun ds g Q E h => by rw [startD_len (N := N8) (M := ns_scaled) rfl]; exact pure_scaled rfl rfl h⟩
abbrev N9 : List Str := ["curve", "k"]
theorem chk9 : knS sx_slope_of (ckOf N9 (defScope (top 25)) F9 gls exs) (defBody (top 25)) = true := by decide +kernel
theorem sc9 : FnScope N9 ["curve"] (defScope (top 25)) := ⟨rfl, rfl, rfl, by decide +kernel, rfl, by decide +kernel, by decide +kernel⟩
theorem len9 (ds : List D) (g : G) (Q : QD) (E : XD) (h : Γ 41 ds g Q E) : ds.length = 1 := by first | (obtain ⟨rfl, _⟩ := h; rfl; done) | (obtain ⟨_, rfl, _⟩ := h; rfl; done) | (obtain ⟨_, _, rfl, _⟩ := h; rfl; done) | (obtain ⟨_, _, _, rfl, _⟩ := h; rfl; done) | (obtain ⟨_, _, _, _, rfl, _⟩ := h; rfl; done) | (obtain ⟨_, _, _, _, _, rfl, _⟩ := h; rfl; done) | (obtain ⟨_, _, _, _, _, _, rfl, _⟩ := h; rfl; done) | (obtain ⟨_, _, _, _, _, _, _, rfl, _⟩ := h; rfl; done) | (obtain ⟨_, _, _, _, _, _, _, _, rfl, _⟩ := h; rfl; done) | (obtain ⟨_, _, _, _, _, _, _, _, _, rfl, _⟩ := h; rfl; done) | (obtain ⟨_, _, _, _, _, _, _, _, _, _, rfl, _⟩ := h; rfl; done) | (obtain ⟨_, _, _, _, _, _, _, _, _, _, _, rfl, _⟩ := h; rfl; done) | (obtain ⟨_, _, _, _, _, _, _, _, _, _, _, _, rfl, _⟩ := h; rfl; done) | (obtain ⟨_, _, _, _, _, _, _, _, _, _, _, _, _, rfl, _⟩ := h; rfl; done) | (rcases h with h | h <;> first | (obtain ⟨rfl, _⟩ := h; rfl; done) | (obtain ⟨_, rfl, _⟩ := h; rfl; done) | (obtain ⟨_, _, rfl, _⟩ := h; rfl; done) | (obtain ⟨_, _, _, rfl, _⟩ := h; rfl; done) | (obtain ⟨_, _, _, _, rfl, _⟩ := h; rfl; done) | (obtain ⟨_, _, _, _, _, rfl, _⟩ := h; rfl; done) | (obtain ⟨_, _, _, _, _, _, rfl, _⟩ := h; rfl; done) | (obtain ⟨_, _, _, _, _, _, _, rfl, _⟩ := h; rfl; done) | (obtain ⟨_, _, _, _, _, _, _, _, rfl, _⟩ := h; rfl; done) | (obtain ⟨_, _, _, _, _, _, _, _, _, rfl, _⟩ := h; rfl; done) | (obtain ⟨_, _, _, _, _, _, _, _, _, _, rfl, _⟩ := h; rfl; done) | (obtain ⟨_, _, _, _, _, _, _, _, _, _, _, rfl, _⟩ := h; rfl; done) | (obtain ⟨_, _, _, _, _, _, _, _, _, _, _, _, rfl, _⟩ := h; rfl; done) | (obtain ⟨_, _, _, _, _, _, _, _, _, _, _, _, _, rfl, _⟩ := h; rfl; done))
theorem ok9 : DefOk Γ gl F9 gls exs (top 25) (Γ 41) := ⟨N9, ["curve"], sx_slope_of, sc9, chk9, fun x K f fd F => F.bindsN fun _ _ _ _ _ _ us hl => (match us, hl with | [_], _ => rfl), fun ds g Q E h => len9 ds g Q E h, fun ds g Q E h => by rw [startD_len (N := N9) (M := ns_slope_of) rfl]; exact pure_slope_of rfl rfl h⟩
abbrev N10 : List Str := ["one", "other", "often", "rest", "at", "k"]
theorem chk10 : knS sx_divided (ckOf N10 (defScope (top 27)) F10 gls exs) (defBody (top 27)) = true := by decide +kernel
theorem sc10 : FnScope N10 ["one", "other"] (defScope (top 27)) := ⟨rfl, rfl, rfl, by decide +kernel, rfl, by decide +kernel, by decide +kernel⟩
theorem len10 (ds : List D) (g : G) (Q : QD) (E : XD) (h : Γ 44 ds g Q E) : ds.length = 2 := by first | (obtain ⟨rfl, _⟩ := h; rfl; done) | (obtain ⟨_, rfl, _⟩ := h; rfl; done) | (obtain ⟨_, _, rfl, _⟩ := h; rfl; done) | (obtain ⟨_, _, _, rfl, _⟩ := h; rfl; done) | (obtain ⟨_, _, _, _, rfl, _⟩ := h; rfl; done) | (obtain ⟨_, _, _, _, _, rfl, _⟩ := h; rfl; done) | (obtain ⟨_, _, _, _, _, _, rfl, _⟩ := h; rfl; done) | (obtain ⟨_, _, _, _, _, _, _, rfl, _⟩ := h; rfl; done) | (obtain ⟨_, _, _, _, _, _, _, _, rfl, _⟩ := h; rfl; done) | (obtain ⟨_, _, _, _, _, _, _, _, _, rfl, _⟩ := h; rfl; done) | (obtain ⟨_, _, _, _, _, _, _, _, _, _, rfl, _⟩ := h; rfl; done) | (obtain ⟨_, _, _, _, _, _, _, _, _, _, _, rfl, _⟩ := h; rfl; done) | (obtain ⟨_, _, _, _, _, _, _, _, _, _, _, _, rfl, _⟩ := h; rfl; done) | (obtain ⟨_, _, _, _, _, _, _, _, _, _, _, _, _, rfl, _⟩ := h; rfl; done) | (rcases h with h | h <;> first | (obtain ⟨rfl, _⟩ := h; rfl; done) | (obtain ⟨_, rfl, _⟩ := h; rfl; done) | (obtain ⟨_, _, rfl, _⟩ := h; rfl; done) | (obtain ⟨_, _, _, rfl, _⟩ := h; rfl; done) | (obtain ⟨_, _, _, _, rfl, _⟩ := h; rfl; done) | (obtain ⟨_, _, _, _, _, rfl, _⟩ := h; rfl; done) | (obtain ⟨_, _, _, _, _, _, rfl, _⟩ := h; rfl; done) | (obtain ⟨_, _, _, _, _, _, _, rfl, _⟩ := h; rfl; done) | (obtain ⟨_, _, _, _, _, _, _, _, rfl, _⟩ := h; rfl; done) | (obtain ⟨_, _, _, _, _, _, _, _, _, rfl, _⟩ := h; rfl; done) | (obtain ⟨_, _, _, _, _, _, _, _, _, _, rfl, _⟩ := h; rfl; done) | (obtain ⟨_, _, _, _, _, _, _, _, _, _, _, rfl, _⟩ := h; rfl; done) | (obtain ⟨_, _, _, _, _, _, _, _, _, _, _, _, rfl, _⟩ := h; rfl; done) | (obtain ⟨_, _, _, _, _, _, _, _, _, _, _, _, _, rfl, _⟩ := h; rfl; done))
theorem ok10 : DefOk Γ gl F10 gls exs (top 27) (Γ 44) := ⟨N10, ["one", "other"], sx_divided, sc10, chk10, fun x K f fd F => F.bindsN fun _ _ _ _ _ _ us hl => (match us, hl with | [_, _], _ => rfl), fun ds g Q E h => len10 ds g Q E h, fun ds g Q E h => by rw [startD_len (N := N10) (M := ns_divided) rfl]; exact pure_divided__H rfl rfl rfl rfl rfl h⟩
abbrev N11 : List Str := ["curve"]
theorem chk11 : knS sx_with_last_one (ckOf N11 (defScope (top 28)) F11 gls exs) (defBody (top 28)) = true := by decide +kernel
theorem sc11 : FnScope N11 ["curve"] (defScope (top 28)) := ⟨rfl, rfl, rfl, by decide +kernel, rfl, by decide +kernel, by decide +kernel⟩
theorem len11 (ds : List D) (g : G) (Q : QD) (E : XD) (h : Γ 49 ds g Q E) : ds.length = 1 := by first | (obtain ⟨rfl, _⟩ := h; rfl; done) | (obtain ⟨_, rfl, _⟩ := h; rfl; done) | (obtain ⟨_, _, rfl, _⟩ := h; rfl; done) | (obtain ⟨_, _, _, rfl, _⟩ := h; rfl; done) | (obtain ⟨_, _, _, _, rfl, _⟩ := h; rfl; done) | (obtain ⟨_, _, _, _, _, rfl, _⟩ := h; rfl; done) | (obtain ⟨_, _, _, _, _, _, rfl, _⟩ := h; rfl; done) | (obtain ⟨_, _, _, _, _, _, _, rfl, _⟩ := h; rfl; done) | (obtain ⟨_, _, _, _, _, _, _, _, rfl, _⟩ := h; rfl; done) | (obtain ⟨_, _, _, _, _, _, _, _, _, rfl, _⟩ := h; rfl; done) | (obtain ⟨_, _, _, _, _, _, _, _, _, _, rfl, _⟩ := h; rfl; done) | (obtain ⟨_, _, _, _, _, _, _, _, _, _, _, rfl, _⟩ := h; rfl; done) | (obtain ⟨_, _, _, _, _, _, _, _, _, _, _, _, rfl, _⟩ := h; rfl; done) | (obtain ⟨_, _, _, _, _, _, _, _, _, _, _, _, _, rfl, _⟩ := h; rfl; done) | (rcases h with h | h <;> first | (obtain ⟨rfl, _⟩ := h; rfl; done) | (obtain ⟨_, rfl, _⟩ := h; rfl; done) | (obtain ⟨_, _, rfl, _⟩ := h; rfl; done) | (obtain ⟨_, _, _, rfl, _⟩ := h; rfl; done) | (obtain ⟨_, _, _, _, rfl, _⟩ := h; rfl; done) | (obtain ⟨_, _, _, _, _, rfl, _⟩ := h; rfl; done) | (obtain ⟨_, _, _, _, _, _, rfl, _⟩ := h; rfl; done) | (obtain ⟨_, _, _, _, _, _, _, rfl, _⟩ := h; rfl; done) | (obtain ⟨_, _, _, _, _, _, _, _, rfl, _⟩ := h; rfl; done) | (obtain ⟨_, _, _, _, _, _, _, _, _, rfl, _⟩ := h; rfl; done) | (obtain ⟨_, _, _, _, _, _, _, _, _, _, rfl, _⟩ := h; rfl; done) | (obtain ⟨_, _, _, _, _, _, _, _, _, _, _, rfl, _⟩ := h; rfl; done) | (obtain ⟨_, _, _, _, _, _, _, _, _, _, _, _, rfl, _⟩ := h; rfl; done) | (obtain ⟨_, _, _, _, _, _, _, _, _, _, _, _, _, rfl, _⟩ := h; rfl; done))
theorem ok11 : DefOk Γ gl F11 gls exs (top 28) (Γ 49) := ⟨N11, ["curve"], sx_with_last_one, sc11, chk11, fun x K f fd F => F.bindsN fun _ _ _ _ _ _ us hl => (match us, hl with | [_], _ => rfl), fun ds g Q E h => len11 ds g Q E h, fun ds g Q E h => by rw [startD_len (N := N11) (M := ns_with_last_one) rfl]; exact pure_with_last_one rfl rfl rfl h⟩
abbrev N12 : List Str := ["one", "other"]
theorem chk12 : knS sx_common_part (ckOf N12 (defScope (top 29)) F12 gls exs) (defBody (top 29)) = true := by decide +kernel
theorem sc12 : FnScope N12 ["one", "other"] (defScope (top 29)) := ⟨rfl, rfl, rfl, by decide +kernel, rfl, by decide +kernel, by decide +kernel⟩
theorem len12 (ds : List D) (g : G) (Q : QD) (E : XD) (h : Γ 50 ds g Q E) : ds.length = 2 := by first | (obtain ⟨rfl, _⟩ := h; rfl; done) | (obtain ⟨_, rfl, _⟩ := h; rfl; done) | (obtain ⟨_, _, rfl, _⟩ := h; rfl; done) | (obtain ⟨_, _, _, rfl, _⟩ := h; rfl; done) | (obtain ⟨_, _, _, _, rfl, _⟩ := h; rfl; done) | (obtain ⟨_, _, _, _, _, rfl, _⟩ := h; rfl; done) | (obtain ⟨_, _, _, _, _, _, rfl, _⟩ := h; rfl; done) | (obtain ⟨_, _, _, _, _, _, _, rfl, _⟩ := h; rfl; done) | (obtain ⟨_, _, _, _, _, _, _, _, rfl, _⟩ := h; rfl; done) | (obtain ⟨_, _, _, _, _, _, _, _, _, rfl, _⟩ := h; rfl; done) | (obtain ⟨_, _, _, _, _, _, _, _, _, _, rfl, _⟩ := h; rfl; done) | (obtain ⟨_, _, _, _, _, _, _, _, _, _, _, rfl, _⟩ := h; rfl; done) | (obtain ⟨_, _, _, _, _, _, _, _, _, _, _, _, rfl, _⟩ := h; rfl; done) | (obtain ⟨_, _, _, _, _, _, _, _, _, _, _, _, _, rfl, _⟩ := h; rfl; done) | (rcases h with h | h <;> first | (obtain ⟨rfl, _⟩ := h; rfl; done) | (obtain ⟨_, rfl, _⟩ := h; rfl; done) | (obtain ⟨_, _, rfl, _⟩ := h; rfl; done) | (obtain ⟨_, _, _, rfl, _⟩ := h; rfl; done) | (obtain ⟨_, _, _, _, rfl, _⟩ := h; rfl; done) | (obtain ⟨_, _, _, _, _, rfl, _⟩ := h; rfl; done) | (obtain ⟨_, _, _, _, _, _, rfl, _⟩ := h; rfl; done) | (obtain ⟨_, _, _, _, _, _, _, rfl, _⟩ := h; rfl; done) | (obtain ⟨_, _, _, _, _, _, _, _, rfl, _⟩ := h; rfl; done) | (obtain ⟨_, _, _, _, _, _, _, _, _, rfl, _⟩ := h; rfl; done) | (obtain ⟨_, _, _, _, _, _, _, _, _, _, rfl, _⟩ := h; rfl; done) | (obtain ⟨_, _, _, _, _, _, _, _, _, _, _, rfl, _⟩ := h; rfl; done) | (obtain ⟨_, _, _, _, _, _, _, _, _, _, _, _, rfl, _⟩ := h; rfl; done) | (obtain ⟨_, _, _, _, _, _, _, _, _, _, _, _, _, rfl, _⟩ := h; rfl; done))
theorem ok12 : DefOk Γ gl F12 gls exs (top 29) (Γ 50) := ⟨N12, ["one", "other"], sx_common_part, sc12, chk12, fun x K f fd F => F.bindsN fun _ _ _ _ _ _ us hl => (match us, hl with | [_, _], _ => rfl), fun ds g Q E h => len12 ds g Q E h, fun ds g Q E h => by rw [startD_len (N := N12) (M := ns_common_part) rfl]; exact pure_common_part__L rfl rfl h⟩
abbrev N13 : List Str := ["curve"]
theorem chk13 : knS sx_ask_curve (ckOf N13 (defScope (top 31)) F13 gls exs) (defBody (top 31)) = true := by decide +kernel
theorem sc13 : FnScope N13 ["curve"] (defScope (top 31)) := ⟨rfl, rfl, rfl, by decide +kernel, rfl, by decide +kernel, by decide +kernel⟩
theorem len13 (ds : List D) (g : G) (Q : QD) (E : XD) (h : Γ 185 ds g Q E) : ds.length = 1 := by first | (obtain ⟨rfl, _⟩ := h; rfl; done) | (obtain ⟨_, rfl, _⟩ := h; rfl; done) | (obtain ⟨_, _, rfl, _⟩ := h; rfl; done) | (obtain ⟨_, _, _, rfl, _⟩ := h; rfl; done) | (obtain ⟨_, _, _, _, rfl, _⟩ := h; rfl; done) | (obtain ⟨_, _, _, _, _, rfl, _⟩ := h; rfl; done) | (obtain ⟨_, _, _, _, _, _, rfl, _⟩ := h; rfl; done) | (obtain ⟨_, _, _, _, _, _, _, rfl, _⟩ := h; rfl; done) | (obtain ⟨_, _, _, _, _, _, _, _, rfl, _⟩ := h; rfl; done) | (obtain ⟨_, _, _, _, _, _, _, _, _, rfl, _⟩ := h; rfl; done) | (obtain ⟨_, _, _, _, _, _, _, _, _, _, rfl, _⟩ := h; rfl; done) | (obtain ⟨_, _, _, _, _, _, _, _, _, _, _, rfl, _⟩ := h; rfl; done) | (obtain ⟨_, _, _, _, _, _, _, _, _, _, _, _, rfl, _⟩ := h; rfl; done) | (obtain ⟨_, _, _, _, _, _, _, _, _, _, _, _, _, rfl, _⟩ := h; rfl; done) | (rcases h with h | h <;> first | (obtain ⟨rfl, _⟩ := h; rfl; done) | (obtain ⟨_, rfl, _⟩ := h; rfl; done) | (obtain ⟨_, _, rfl, _⟩ := h; rfl; done) | (obtain ⟨_, _, _, rfl, _⟩ := h; rfl; done) | (obtain ⟨_, _, _, _, rfl, _⟩ := h; rfl; done) | (obtain ⟨_, _, _, _, _, rfl, _⟩ := h; rfl; done) | (obtain ⟨_, _, _, _, _, _, rfl, _⟩ := h; rfl; done) | (obtain ⟨_, _, _, _, _, _, _, rfl, _⟩ := h; rfl; done) | (obtain ⟨_, _, _, _, _, _, _, _, rfl, _⟩ := h; rfl; done) | (obtain ⟨_, _, _, _, _, _, _, _, _, rfl, _⟩ := h; rfl; done) | (obtain ⟨_, _, _, _, _, _, _, _, _, _, rfl, _⟩ := h; rfl; done) | (obtain ⟨_, _, _, _, _, _, _, _, _, _, _, rfl, _⟩ := h; rfl; done) | (obtain ⟨_, _, _, _, _, _, _, _, _, _, _, _, rfl, _⟩ := h; rfl; done) | (obtain ⟨_, _, _, _, _, _, _, _, _, _, _, _, _, rfl, _⟩ := h; rfl; done))
theorem ok13 : DefOk Γ gl F13 gls exs (top 31) (Γ 185) := ⟨N13, ["curve"], sx_ask_curve, sc13, chk13, fun x K f fd F => F.bindsN fun _ _ _ _ _ _ us hl => (match us, hl with | [_], _ => rfl), fun ds g Q E h => len13 ds g Q E h, fun ds g Q E h => by rw [startD_len (N := N13) (M := ns_ask_curve) rfl]; exact pure_ask_curve h⟩
abbrev N14 : List Str := ["curve"]
theorem chk14 : knS sx_lone_part (ckOf N14 (defScope (top 32)) F14 gls exs) (defBody (top 32)) = true := by decide +kernel
theorem sc14 : FnScope N14 ["curve"] (defScope (top 32)) := ⟨rfl, rfl, rfl, by decide +kernel, rfl, by decide +kernel, by decide +kernel⟩
theorem len14 (ds : List D) (g : G) (Q : QD) (E : XD) (h : Γ 186 ds g Q E) : ds.length = 1 := by first | (obtain ⟨rfl, _⟩ := h; rfl; done) | (obtain ⟨_, rfl, _⟩ := h; rfl; done) | (obtain ⟨_, _, rfl, _⟩ := h; rfl; done) | (obtain ⟨_, _, _, rfl, _⟩ := h; rfl; done) | (obtain ⟨_, _, _, _, rfl, _⟩ := h; rfl; done) | (obtain ⟨_, _, _, _, _, rfl, _⟩ := h; rfl; done) | (obtain ⟨_, _, _, _, _, _, rfl, _⟩ := h; rfl; done) | (obtain ⟨_, _, _, _, _, _, _, rfl, _⟩ := h; rfl; done) | (obtain ⟨_, _, _, _, _, _, _, _, rfl, _⟩ := h; rfl; done) | (obtain ⟨_, _, _, _, _, _, _, _, _, rfl, _⟩ := h; rfl; done) | (obtain ⟨_, _, _, _, _, _, _, _, _, _, rfl, _⟩ := h; rfl; done) | (obtain ⟨_, _, _, _, _, _, _, _, _, _, _, rfl, _⟩ := h; rfl; done) | (obtain ⟨_, _, _, _, _, _, _, _, _, _, _, _, rfl, _⟩ := h; rfl; done) | (obtain ⟨_, _, _, _, _, _, _, _, _, _, _, _, _, rfl, _⟩ := h; rfl; done) | (rcases h with h | h <;> first | (obtain ⟨rfl, _⟩ := h; rfl; done) | (obtain ⟨_, rfl, _⟩ := h; rfl; done) | (obtain ⟨_, _, rfl, _⟩ := h; rfl; done) | (obtain ⟨_, _, _, rfl, _⟩ := h; rfl; done) | (obtain ⟨_, _, _, _, rfl, _⟩ := h; rfl; done) | (obtain ⟨_, _, _, _, _, rfl, _⟩ := h; rfl; done) | (obtain ⟨_, _, _, _, _, _, rfl, _⟩ := h; rfl; done) | (obtain ⟨_, _, _, _, _, _, _, rfl, _⟩ := h; rfl; done) | (obtain ⟨_, _, _, _, _, _, _, _, rfl, _⟩ := h; rfl; done) | (obtain ⟨_, _, _, _, _, _, _, _, _, rfl, _⟩ := h; rfl; done) | (obtain ⟨_, _, _, _, _, _, _, _, _, _, rfl, _⟩ := h; rfl; done) | (obtain ⟨_, _, _, _, _, _, _, _, _, _, _, rfl, _⟩ := h; rfl; done) | (obtain ⟨_, _, _, _, _, _, _, _, _, _, _, _, rfl, _⟩ := h; rfl; done) | (obtain ⟨_, _, _, _, _, _, _, _, _, _, _, _, _, rfl, _⟩ := h; rfl; done))
theorem ok14 : DefOk Γ gl F14 gls exs (top 32) (Γ 186) := ⟨N14, ["curve"], sx_lone_part, sc14, chk14, fun x K f fd F => F.bindsN fun _ _ _ _ _ _ us hl => (match us, hl with | [_], _ => rfl), fun ds g Q E h => len14 ds g Q E h, fun ds g Q E h => by rw [startD_len (N := N14) (M := ns_lone_part) rfl]; exact pure_lone_part__k39 rfl rfl rfl rfl h⟩
abbrev N15 : List Str := ["_law_script", "_law_k", "_law_cell"]
theorem chk15 : knS sx_law_pen (ckOf N15 (defScope (top 34)) F15 gls exs) (defBody (top 34)) = true := by decide +kernel
theorem sc15 : FnScope N15 ["_law_script", "_law_k"] (defScope (top 34)) := ⟨rfl, rfl, rfl, by decide +kernel, rfl, by decide +kernel, by decide +kernel⟩
theorem len15 (ds : List D) (g : G) (Q : QD) (E : XD) (h : Γ 3 ds g Q E) : ds.length = 2 := by first | (obtain ⟨rfl, _⟩ := h; rfl; done) | (obtain ⟨_, rfl, _⟩ := h; rfl; done) | (obtain ⟨_, _, rfl, _⟩ := h; rfl; done) | (obtain ⟨_, _, _, rfl, _⟩ := h; rfl; done) | (obtain ⟨_, _, _, _, rfl, _⟩ := h; rfl; done) | (obtain ⟨_, _, _, _, _, rfl, _⟩ := h; rfl; done) | (obtain ⟨_, _, _, _, _, _, rfl, _⟩ := h; rfl; done) | (obtain ⟨_, _, _, _, _, _, _, rfl, _⟩ := h; rfl; done) | (obtain ⟨_, _, _, _, _, _, _, _, rfl, _⟩ := h; rfl; done) | (obtain ⟨_, _, _, _, _, _, _, _, _, rfl, _⟩ := h; rfl; done) | (obtain ⟨_, _, _, _, _, _, _, _, _, _, rfl, _⟩ := h; rfl; done) | (obtain ⟨_, _, _, _, _, _, _, _, _, _, _, rfl, _⟩ := h; rfl; done) | (obtain ⟨_, _, _, _, _, _, _, _, _, _, _, _, rfl, _⟩ := h; rfl; done) | (obtain ⟨_, _, _, _, _, _, _, _, _, _, _, _, _, rfl, _⟩ := h; rfl; done) | (rcases h with h | h <;> first | (obtain ⟨rfl, _⟩ := h; rfl; done) | (obtain ⟨_, rfl, _⟩ := h; rfl; done) | (obtain ⟨_, _, rfl, _⟩ := h; rfl; done) | (obtain ⟨_, _, _, rfl, _⟩ := h; rfl; done) | (obtain ⟨_, _, _, _, rfl, _⟩ := h; rfl; done) | (obtain ⟨_, _, _, _, _, rfl, _⟩ := h; rfl; done) | (obtain ⟨_, _, _, _, _, _, rfl, _⟩ := h; rfl; done) | (obtain ⟨_, _, _, _, _, _, _, rfl, _⟩ := h; rfl; done) | (obtain ⟨_, _, _, _, _, _, _, _, rfl, _⟩ := h; rfl; done) | (obtain ⟨_, _, _, _, _, _, _, _, _, rfl, _⟩ := h; rfl; done) | (obtain ⟨_, _, _, _, _, _, _, _, _, _, rfl, _⟩ := h; rfl; done) | (obtain ⟨_, _, _, _, _, _, _, _, _, _, _, rfl, _⟩ := h; rfl; done) | (obtain ⟨_, _, _, _, _, _, _, _, _, _, _, _, rfl, _⟩ := h; rfl; done) | (obtain ⟨_, _, _, _, _, _, _, _, _, _, _, _, _, rfl, _⟩ := h; rfl; done))
theorem ok15 : DefOk Γ gl F15 gls exs (top 34) (Γ 3) := ⟨N15, ["_law_script", "_law_k"], sx_law_pen, sc15, chk15, fun x K f fd F => F.bindsN fun _ _ _ _ _ _ us hl => (match us, hl with | [_, _], _ => rfl), fun ds g Q E h => len15 ds g Q E h, fun ds g Q E h => by rw [startD_len (N := N15) (M := ns_law_pen) rfl]; exact pure_law_pen h⟩
abbrev N16 : List Str := ["_law_pen_here", "_law_many", "_law_number_here", "_law_drawn"]
theorem chk16 : knS sx_law_draw (ckOf N16 (defScope (top 35)) F16 gls exs) (defBody (top 35)) = true := by decide +kernel
theorem sc16 : FnScope N16 ["_law_pen_here", "_law_many"] (defScope (top 35)) := ⟨rfl, rfl, rfl, by decide +kernel, rfl, by decide +kernel, by decide +kernel⟩
theorem len16 (ds : List D) (g : G) (Q : QD) (E : XD) (h : Γ 4 ds g Q E) : ds.length = 2 := by first | (obtain ⟨rfl, _⟩ := h; rfl; done) | (obtain ⟨_, rfl, _⟩ := h; rfl; done) | (obtain ⟨_, _, rfl, _⟩ := h; rfl; done) | (obtain ⟨_, _, _, rfl, _⟩ := h; rfl; done) | (obtain ⟨_, _, _, _, rfl, _⟩ := h; rfl; done) | (obtain ⟨_, _, _, _, _, rfl, _⟩ := h; rfl; done) | (obtain ⟨_, _, _, _, _, _, rfl, _⟩ := h; rfl; done) | (obtain ⟨_, _, _, _, _, _, _, rfl, _⟩ := h; rfl; done) | (obtain ⟨_, _, _, _, _, _, _, _, rfl, _⟩ := h; rfl; done) | (obtain ⟨_, _, _, _, _, _, _, _, _, rfl, _⟩ := h; rfl; done) | (obtain ⟨_, _, _, _, _, _, _, _, _, _, rfl, _⟩ := h; rfl; done) | (obtain ⟨_, _, _, _, _, _, _, _, _, _, _, rfl, _⟩ := h; rfl; done) | (obtain ⟨_, _, _, _, _, _, _, _, _, _, _, _, rfl, _⟩ := h; rfl; done) | (obtain ⟨_, _, _, _, _, _, _, _, _, _, _, _, _, rfl, _⟩ := h; rfl; done) | (rcases h with h | h <;> first | (obtain ⟨rfl, _⟩ := h; rfl; done) | (obtain ⟨_, rfl, _⟩ := h; rfl; done) | (obtain ⟨_, _, rfl, _⟩ := h; rfl; done) | (obtain ⟨_, _, _, rfl, _⟩ := h; rfl; done) | (obtain ⟨_, _, _, _, rfl, _⟩ := h; rfl; done) | (obtain ⟨_, _, _, _, _, rfl, _⟩ := h; rfl; done) | (obtain ⟨_, _, _, _, _, _, rfl, _⟩ := h; rfl; done) | (obtain ⟨_, _, _, _, _, _, _, rfl, _⟩ := h; rfl; done) | (obtain ⟨_, _, _, _, _, _, _, _, rfl, _⟩ := h; rfl; done) | (obtain ⟨_, _, _, _, _, _, _, _, _, rfl, _⟩ := h; rfl; done) | (obtain ⟨_, _, _, _, _, _, _, _, _, _, rfl, _⟩ := h; rfl; done) | (obtain ⟨_, _, _, _, _, _, _, _, _, _, _, rfl, _⟩ := h; rfl; done) | (obtain ⟨_, _, _, _, _, _, _, _, _, _, _, _, rfl, _⟩ := h; rfl; done) | (obtain ⟨_, _, _, _, _, _, _, _, _, _, _, _, _, rfl, _⟩ := h; rfl; done))
theorem ok16 : DefOk Γ gl F16 gls exs (top 35) (Γ 4) := ⟨N16, ["_law_pen_here", "_law_many"], sx_law_draw, sc16, chk16, fun x K f fd F => F.bindsN fun _ _ _ _ _ _ us hl => (match us, hl with | [_, _], _ => rfl), fun ds g Q E h => len16 ds g Q E h, fun ds g Q E h => by rw [startD_len (N := N16) (M := ns_law_draw) rfl]; exact pure_law_draw h⟩
abbrev N17 : List Str := ["_law_top", "_law_bottom", "_law_one", "_law_other"]
theorem chk17 : knS sx_law_lowest (ckOf N17 (defScope (top 36)) F17 gls exs) (defBody (top 36)) = true := by decide +kernel
theorem sc17 : FnScope N17 ["_law_top", "_law_bottom"] (defScope (top 36)) := ⟨rfl, rfl, rfl, by decide +kernel, rfl, by decide +kernel, by decide +kernel⟩
theorem len17 (ds : List D) (g : G) (Q : QD) (E : XD) (h : Γ 5 ds g Q E) : ds.length = 2 := by first | (obtain ⟨rfl, _⟩ := h; rfl; done) | (obtain ⟨_, rfl, _⟩ := h; rfl; done) | (obtain ⟨_, _, rfl, _⟩ := h; rfl; done) | (obtain ⟨_, _, _, rfl, _⟩ := h; rfl; done) | (obtain ⟨_, _, _, _, rfl, _⟩ := h; rfl; done) | (obtain ⟨_, _, _, _, _, rfl, _⟩ := h; rfl; done) | (obtain ⟨_, _, _, _, _, _, rfl, _⟩ := h; rfl; done) | (obtain ⟨_, _, _, _, _, _, _, rfl, _⟩ := h; rfl; done) | (obtain ⟨_, _, _, _, _, _, _, _, rfl, _⟩ := h; rfl; done) | (obtain ⟨_, _, _, _, _, _, _, _, _, rfl, _⟩ := h; rfl; done) | (obtain ⟨_, _, _, _, _, _, _, _, _, _, rfl, _⟩ := h; rfl; done) | (obtain ⟨_, _, _, _, _, _, _, _, _, _, _, rfl, _⟩ := h; rfl; done) | (obtain ⟨_, _, _, _, _, _, _, _, _, _, _, _, rfl, _⟩ := h; rfl; done) | (obtain ⟨_, _, _, _, _, _, _, _, _, _, _, _, _, rfl, _⟩ := h; rfl; done) | (rcases h with h | h <;> first | (obtain ⟨rfl, _⟩ := h; rfl; done) | (obtain ⟨_, rfl, _⟩ := h; rfl; done) | (obtain ⟨_, _, rfl, _⟩ := h; rfl; done) | (obtain ⟨_, _, _, rfl, _⟩ := h; rfl; done) | (obtain ⟨_, _, _, _, rfl, _⟩ := h; rfl; done) | (obtain ⟨_, _, _, _, _, rfl, _⟩ := h; rfl; done) | (obtain ⟨_, _, _, _, _, _, rfl, _⟩ := h; rfl; done) | (obtain ⟨_, _, _, _, _, _, _, rfl, _⟩ := h; rfl; done) | (obtain ⟨_, _, _, _, _, _, _, _, rfl, _⟩ := h; rfl; done) | (obtain ⟨_, _, _, _, _, _, _, _, _, rfl, _⟩ := h; rfl; done) | (obtain ⟨_, _, _, _, _, _, _, _, _, _, rfl, _⟩ := h; rfl; done) | (obtain ⟨_, _, _, _, _, _, _, _, _, _, _, rfl, _⟩ := h; rfl; done) | (obtain ⟨_, _, _, _, _, _, _, _, _, _, _, _, rfl, _⟩ := h; rfl; done) | (obtain ⟨_, _, _, _, _, _, _, _, _, _, _, _, _, rfl, _⟩ := h; rfl; done))
theorem ok17 : DefOk Γ gl F17 gls exs (top 36) (Γ 5) := ⟨N17, ["_law_top", "_law_bottom"], sx_law_lowest, sc17, chk17, fun x K f fd F => F.bindsN fun _ _ _ _ _ _ us hl => (match us, hl with | [_, _], _ => rfl), fun ds g Q E h => len17 ds g Q E h, fun ds g Q E h => by rw [startD_len (N := N17) (M := ns_law_lowest) rfl]; exact pure_law_lowest h⟩
abbrev N18 : List Str := ["_law_a", "_law_b"]
theorem chk18 : knS sx_law_plus (ckOf N18 (defScope (top 37)) F18 gls exs) (defBody (top 37)) = true := by decide +kernel
theorem sc18 : FnScope N18 ["_law_a", "_law_b"] (defScope (top 37)) := ⟨rfl, rfl, rfl, by decide +kernel, rfl, by decide +kernel, by decide +kernel⟩
theorem len18 (ds : List D) (g : G) (Q : QD) (E : XD) (h : Γ 25 ds g Q E) : ds.length = 2 := by first | (obtain ⟨rfl, _⟩ := h; rfl; done) | (obtain ⟨_, rfl, _⟩ := h; rfl; done) | (obtain ⟨_, _, rfl, _⟩ := h; rfl; done) | (obtain ⟨_, _, _, rfl, _⟩ := h; rfl; done) | (obtain ⟨_, _, _, _, rfl, _⟩ := h; rfl; done) | (obtain ⟨_, _, _, _, _, rfl, _⟩ := h; rfl; done) | (obtain ⟨_, _, _, _, _, _, rfl, _⟩ := h; rfl; done) | (obtain ⟨_, _, _, _, _, _, _, rfl, _⟩ := h; rfl; done) | (obtain ⟨_, _, _, _, _, _, _, _, rfl, _⟩ := h; rfl; done) | (obtain ⟨_, _, _, _, _, _, _, _, _, rfl, _⟩ := h; rfl; done) | (obtain ⟨_, _, _, _, _, _, _, _, _, _, rfl, _⟩ := h; rfl; done) | (obtain ⟨_, _, _, _, _, _, _, _, _, _, _, rfl, _⟩ := h; rfl; done) | (obtain ⟨_, _, _, _, _, _, _, _, _, _, _, _, rfl, _⟩ := h; rfl; done) | (obtain ⟨_, _, _, _, _, _, _, _, _, _, _, _, _, rfl, _⟩ := h; rfl; done) | (rcases h with h | h <;> first | (obtain ⟨rfl, _⟩ := h; rfl; done) | (obtain ⟨_, rfl, _⟩ := h; rfl; done) | (obtain ⟨_, _, rfl, _⟩ := h; rfl; done) | (obtain ⟨_, _, _, rfl, _⟩ := h; rfl; done) | (obtain ⟨_, _, _, _, rfl, _⟩ := h; rfl; done) | (obtain ⟨_, _, _, _, _, rfl, _⟩ := h; rfl; done) | (obtain ⟨_, _, _, _, _, _, rfl, _⟩ := h; rfl; done) | (obtain ⟨_, _, _, _, _, _, _, rfl, _⟩ := h; rfl; done) | (obtain ⟨_, _, _, _, _, _, _, _, rfl, _⟩ := h; rfl; done) | (obtain ⟨_, _, _, _, _, _, _, _, _, rfl, _⟩ := h; rfl; done) | (obtain ⟨_, _, _, _, _, _, _, _, _, _, rfl, _⟩ := h; rfl; done) | (obtain ⟨_, _, _, _, _, _, _, _, _, _, _, rfl, _⟩ := h; rfl; done) | (obtain ⟨_, _, _, _, _, _, _, _, _, _, _, _, rfl, _⟩ := h; rfl; done) | (obtain ⟨_, _, _, _, _, _, _, _, _, _, _, _, _, rfl, _⟩ := h; rfl; done))
theorem ok18 : DefOk Γ gl F18 gls exs (top 37) (Γ 25) := ⟨N18, ["_law_a", "_law_b"], sx_law_plus, sc18, chk18, fun x K f fd F => F.bindsN fun _ _ _ _ _ _ us hl => (match us, hl with | [_, _], _ => rfl), fun ds g Q E h => len18 ds g Q E h, fun ds g Q E h => by rw [startD_len (N := N18) (M := ns_law_plus) rfl]; exact pure_law_plus rfl h⟩
abbrev N19 : List Str := ["_law_a", "_law_b"]
theorem chk19 : knS sx_law_minus (ckOf N19 (defScope (top 38)) F19 gls exs) (defBody (top 38)) = true := by decide +kernel
theorem sc19 : FnScope N19 ["_law_a", "_law_b"] (defScope (top 38)) := ⟨rfl, rfl, rfl, by decide +kernel, rfl, by decide +kernel, by decide +kernel⟩
theorem len19 (ds : List D) (g : G) (Q : QD) (E : XD) (h : Γ 35 ds g Q E) : ds.length = 2 := by first | (obtain ⟨rfl, _⟩ := h; rfl; done) | (obtain ⟨_, rfl, _⟩ := h; rfl; done) | (obtain ⟨_, _, rfl, _⟩ := h; rfl; done) | (obtain ⟨_, _, _, rfl, _⟩ := h; rfl; done) | (obtain ⟨_, _, _, _, rfl, _⟩ := h; rfl; done) | (obtain ⟨_, _, _, _, _, rfl, _⟩ := h; rfl; done) | (obtain ⟨_, _, _, _, _, _, rfl, _⟩ := h; rfl; done) | (obtain ⟨_, _, _, _, _, _, _, rfl, _⟩ := h; rfl; done) | (obtain ⟨_, _, _, _, _, _, _, _, rfl, _⟩ := h; rfl; done) | (obtain ⟨_, _, _, _, _, _, _, _, _, rfl, _⟩ := h; rfl; done) | (obtain ⟨_, _, _, _, _, _, _, _, _, _, rfl, _⟩ := h; rfl; done) | (obtain ⟨_, _, _, _, _, _, _, _, _, _, _, rfl, _⟩ := h; rfl; done) | (obtain ⟨_, _, _, _, _, _, _, _, _, _, _, _, rfl, _⟩ := h; rfl; done) | (obtain ⟨_, _, _, _, _, _, _, _, _, _, _, _, _, rfl, _⟩ := h; rfl; done) | (rcases h with h | h <;> first | (obtain ⟨rfl, _⟩ := h; rfl; done) | (obtain ⟨_, rfl, _⟩ := h; rfl; done) | (obtain ⟨_, _, rfl, _⟩ := h; rfl; done) | (obtain ⟨_, _, _, rfl, _⟩ := h; rfl; done) | (obtain ⟨_, _, _, _, rfl, _⟩ := h; rfl; done) | (obtain ⟨_, _, _, _, _, rfl, _⟩ := h; rfl; done) | (obtain ⟨_, _, _, _, _, _, rfl, _⟩ := h; rfl; done) | (obtain ⟨_, _, _, _, _, _, _, rfl, _⟩ := h; rfl; done) | (obtain ⟨_, _, _, _, _, _, _, _, rfl, _⟩ := h; rfl; done) | (obtain ⟨_, _, _, _, _, _, _, _, _, rfl, _⟩ := h; rfl; done) | (obtain ⟨_, _, _, _, _, _, _, _, _, _, rfl, _⟩ := h; rfl; done) | (obtain ⟨_, _, _, _, _, _, _, _, _, _, _, rfl, _⟩ := h; rfl; done) | (obtain ⟨_, _, _, _, _, _, _, _, _, _, _, _, rfl, _⟩ := h; rfl; done) | (obtain ⟨_, _, _, _, _, _, _, _, _, _, _, _, _, rfl, _⟩ := h; rfl; done))
theorem ok19 : DefOk Γ gl F19 gls exs (top 38) (Γ 35) := ⟨N19, ["_law_a", "_law_b"], sx_law_minus, sc19, chk19, fun x K f fd F => F.bindsN fun _ _ _ _ _ _ us hl => (match us, hl with | [_, _], _ => rfl), fun ds g Q E h => len19 ds g Q E h, fun ds g Q E h => by rw [startD_len (N := N19) (M := ns_law_minus) rfl]; exact pure_law_minus rfl h⟩
abbrev N20 : List Str := ["_law_a", "_law_b"]
theorem chk20 : knS sx_law_times (ckOf N20 (defScope (top 39)) F20 gls exs) (defBody (top 39)) = true := by decide +kernel
theorem sc20 : FnScope N20 ["_law_a", "_law_b"] (defScope (top 39)) := ⟨rfl, rfl, rfl, by decide +kernel, rfl, by decide +kernel, by decide +kernel⟩
theorem len20 (ds : List D) (g : G) (Q : QD) (E : XD) (h : Γ 26 ds g Q E) : ds.length = 2 := by first | (obtain ⟨rfl, _⟩ := h; rfl; done) | (obtain ⟨_, rfl, _⟩ := h; rfl; done) | (obtain ⟨_, _, rfl, _⟩ := h; rfl; done) | (obtain ⟨_, _, _, rfl, _⟩ := h; rfl; done) | (obtain ⟨_, _, _, _, rfl, _⟩ := h; rfl; done) | (obtain ⟨_, _, _, _, _, rfl, _⟩ := h; rfl; done) | (obtain ⟨_, _, _, _, _, _, rfl, _⟩ := h; rfl; done) | (obtain ⟨_, _, _, _, _, _, _, rfl, _⟩ := h; rfl; done) | (obtain ⟨_, _, _, _, _, _, _, _, rfl, _⟩ := h; rfl; done) | (obtain ⟨_, _, _, _, _, _, _, _, _, rfl, _⟩ := h; rfl; done) | (obtain ⟨_, _, _, _, _, _, _, _, _, _, rfl, _⟩ := h; rfl; done) | (obtain ⟨_, _, _, _, _, _, _, _, _, _, _, rfl, _⟩ := h; rfl; done) | (obtain ⟨_, _, _, _, _, _, _, _, _, _, _, _, rfl, _⟩ := h; rfl; done) | (obtain ⟨_, _, _, _, _, _, _, _, _, _, _, _, _, rfl, _⟩ := h; rfl; done) | (rcases h with h | h <;> first | (obtain ⟨rfl, _⟩ := h; rfl; done) | (obtain ⟨_, rfl, _⟩ := h; rfl; done) | (obtain ⟨_, _, rfl, _⟩ := h; rfl; done) | (obtain ⟨_, _, _, rfl, _⟩ := h; rfl; done) | (obtain ⟨_, _, _, _, rfl, _⟩ := h; rfl; done) | (obtain ⟨_, _, _, _, _, rfl, _⟩ := h; rfl; done) | (obtain ⟨_, _, _, _, _, _, rfl, _⟩ := h; rfl; done) | (obtain ⟨_, _, _, _, _, _, _, rfl, _⟩ := h; rfl; done) | (obtain ⟨_, _, _, _, _, _, _, _, rfl, _⟩ := h; rfl; done) | (obtain ⟨_, _, _, _, _, _, _, _, _, rfl, _⟩ := h; rfl; done) | (obtain ⟨_, _, _, _, _, _, _, _, _, _, rfl, _⟩ := h; rfl; done) | (obtain ⟨_, _, _, _, _, _, _, _, _, _, _, rfl, _⟩ := h; rfl; done) | (obtain ⟨_, _, _, _, _, _, _, _, _, _, _, _, rfl, _⟩ := h; rfl; done) | (obtain ⟨_, _, _, _, _, _, _, _, _, _, _, _, _, rfl, _⟩ := h; rfl; done))
theorem ok20 : DefOk Γ gl F20 gls exs (top 39) (Γ 26) := ⟨N20, ["_law_a", "_law_b"], sx_law_times, sc20, chk20, fun x K f fd F => F.bindsN fun _ _ _ _ _ _ us hl => (match us, hl with | [_, _], _ => rfl), fun ds g Q E h => len20 ds g Q E h, fun ds g Q E h => by rw [startD_len (N := N20) (M := ns_law_times) rfl]; exact pure_law_times rfl h⟩
abbrev N21 : List Str := ["_law_pen_here"]
theorem chk21 : knS sx_law_number_v2 (ckOf N21 (defScope (top 40)) F21 gls exs) (defBody (top 40)) = true := by decide +kernel
theorem sc21 : FnScope N21 ["_law_pen_here"] (defScope (top 40)) := ⟨rfl, rfl, rfl, by decide +kernel, rfl, by decide +kernel, by decide +kernel⟩
theorem len21 (ds : List D) (g : G) (Q : QD) (E : XD) (h : Γ 36 ds g Q E) : ds.length = 1 := by first | (obtain ⟨rfl, _⟩ := h; rfl; done) | (obtain ⟨_, rfl, _⟩ := h; rfl; done) | (obtain ⟨_, _, rfl, _⟩ := h; rfl; done) | (obtain ⟨_, _, _, rfl, _⟩ := h; rfl; done) | (obtain ⟨_, _, _, _, rfl, _⟩ := h; rfl; done) | (obtain ⟨_, _, _, _, _, rfl, _⟩ := h; rfl; done) | (obtain ⟨_, _, _, _, _, _, rfl, _⟩ := h; rfl; done) | (obtain ⟨_, _, _, _, _, _, _, rfl, _⟩ := h; rfl; done) | (obtain ⟨_, _, _, _, _, _, _, _, rfl, _⟩ := h; rfl; done) | (obtain ⟨_, _, _, _, _, _, _, _, _, rfl, _⟩ := h; rfl; done) | (obtain ⟨_, _, _, _, _, _, _, _, _, _, rfl, _⟩ := h; rfl; done) | (obtain ⟨_, _, _, _, _, _, _, _, _, _, _, rfl, _⟩ := h; rfl; done) | (obtain ⟨_, _, _, _, _, _, _, _, _, _, _, _, rfl, _⟩ := h; rfl; done) | (obtain ⟨_, _, _, _, _, _, _, _, _, _, _, _, _, rfl, _⟩ := h; rfl; done) | (rcases h with h | h <;> first | (obtain ⟨rfl, _⟩ := h; rfl; done) | (obtain ⟨_, rfl, _⟩ := h; rfl; done) | (obtain ⟨_, _, rfl, _⟩ := h; rfl; done) | (obtain ⟨_, _, _, rfl, _⟩ := h; rfl; done) | (obtain ⟨_, _, _, _, rfl, _⟩ := h; rfl; done) | (obtain ⟨_, _, _, _, _, rfl, _⟩ := h; rfl; done) | (obtain ⟨_, _, _, _, _, _, rfl, _⟩ := h; rfl; done) | (obtain ⟨_, _, _, _, _, _, _, rfl, _⟩ := h; rfl; done) | (obtain ⟨_, _, _, _, _, _, _, _, rfl, _⟩ := h; rfl; done) | (obtain ⟨_, _, _, _, _, _, _, _, _, rfl, _⟩ := h; rfl; done) | (obtain ⟨_, _, _, _, _, _, _, _, _, _, rfl, _⟩ := h; rfl; done) | (obtain ⟨_, _, _, _, _, _, _, _, _, _, _, rfl, _⟩ := h; rfl; done) | (obtain ⟨_, _, _, _, _, _, _, _, _, _, _, _, rfl, _⟩ := h; rfl; done) | (obtain ⟨_, _, _, _, _, _, _, _, _, _, _, _, _, rfl, _⟩ := h; rfl; done))
theorem ok21 : DefOk Γ gl F21 gls exs (top 40) (Γ 36) := ⟨N21, ["_law_pen_here"], sx_law_number_v2, sc21, chk21, fun x K f fd F => F.bindsN fun _ _ _ _ _ _ us hl => (match us, hl with | [_], _ => rfl), fun ds g Q E h => len21 ds g Q E h, fun ds g Q E h => by rw [startD_len (N := N21) (M := ns_law_number_v2) rfl]; exact pure_law_number_v2 rfl rfl h⟩
abbrev N22 : List Str := ["_law_curve_here", "_law_x", "_law_found", "_law_power", "_law_number_here"]
theorem chk22 : knS sx_law_at (ckOf N22 (defScope (top 41)) F22 gls exs) (defBody (top 41)) = true := by decide +kernel
theorem sc22 : FnScope N22 ["_law_curve_here", "_law_x"] (defScope (top 41)) := ⟨rfl, rfl, rfl, by decide +kernel, rfl, by decide +kernel, by decide +kernel⟩
theorem len22 (ds : List D) (g : G) (Q : QD) (E : XD) (h : Γ 27 ds g Q E) : ds.length = 2 := by first | (obtain ⟨rfl, _⟩ := h; rfl; done) | (obtain ⟨_, rfl, _⟩ := h; rfl; done) | (obtain ⟨_, _, rfl, _⟩ := h; rfl; done) | (obtain ⟨_, _, _, rfl, _⟩ := h; rfl; done) | (obtain ⟨_, _, _, _, rfl, _⟩ := h; rfl; done) | (obtain ⟨_, _, _, _, _, rfl, _⟩ := h; rfl; done) | (obtain ⟨_, _, _, _, _, _, rfl, _⟩ := h; rfl; done) | (obtain ⟨_, _, _, _, _, _, _, rfl, _⟩ := h; rfl; done) | (obtain ⟨_, _, _, _, _, _, _, _, rfl, _⟩ := h; rfl; done) | (obtain ⟨_, _, _, _, _, _, _, _, _, rfl, _⟩ := h; rfl; done) | (obtain ⟨_, _, _, _, _, _, _, _, _, _, rfl, _⟩ := h; rfl; done) | (obtain ⟨_, _, _, _, _, _, _, _, _, _, _, rfl, _⟩ := h; rfl; done) | (obtain ⟨_, _, _, _, _, _, _, _, _, _, _, _, rfl, _⟩ := h; rfl; done) | (obtain ⟨_, _, _, _, _, _, _, _, _, _, _, _, _, rfl, _⟩ := h; rfl; done) | (rcases h with h | h <;> first | (obtain ⟨rfl, _⟩ := h; rfl; done) | (obtain ⟨_, rfl, _⟩ := h; rfl; done) | (obtain ⟨_, _, rfl, _⟩ := h; rfl; done) | (obtain ⟨_, _, _, rfl, _⟩ := h; rfl; done) | (obtain ⟨_, _, _, _, rfl, _⟩ := h; rfl; done) | (obtain ⟨_, _, _, _, _, rfl, _⟩ := h; rfl; done) | (obtain ⟨_, _, _, _, _, _, rfl, _⟩ := h; rfl; done) | (obtain ⟨_, _, _, _, _, _, _, rfl, _⟩ := h; rfl; done) | (obtain ⟨_, _, _, _, _, _, _, _, rfl, _⟩ := h; rfl; done) | (obtain ⟨_, _, _, _, _, _, _, _, _, rfl, _⟩ := h; rfl; done) | (obtain ⟨_, _, _, _, _, _, _, _, _, _, rfl, _⟩ := h; rfl; done) | (obtain ⟨_, _, _, _, _, _, _, _, _, _, _, rfl, _⟩ := h; rfl; done) | (obtain ⟨_, _, _, _, _, _, _, _, _, _, _, _, rfl, _⟩ := h; rfl; done) | (obtain ⟨_, _, _, _, _, _, _, _, _, _, _, _, _, rfl, _⟩ := h; rfl; done))
theorem ok22 : DefOk Γ gl F22 gls exs (top 41) (Γ 27) := ⟨N22, ["_law_curve_here", "_law_x"], sx_law_at, sc22, chk22, fun x K f fd F => F.bindsN fun _ _ _ _ _ _ us hl => (match us, hl with | [_, _], _ => rfl), fun ds g Q E h => len22 ds g Q E h, fun ds g Q E h => by rw [startD_len (N := N22) (M := ns_law_at) rfl]; exact pure_law_at rfl rfl h⟩
abbrev N23 : List Str := ["_law_curve_here", "_law_x", "_law_k"]
theorem chk23 : knS sx_law_slope_at (ckOf N23 (defScope (top 42)) F23 gls exs) (defBody (top 42)) = true := by decide +kernel
theorem sc23 : FnScope N23 ["_law_curve_here", "_law_x"] (defScope (top 42)) := ⟨rfl, rfl, rfl, by decide +kernel, rfl, by decide +kernel, by decide +kernel⟩
theorem len23 (ds : List D) (g : G) (Q : QD) (E : XD) (h : Γ 75 ds g Q E) : ds.length = 2 := by first | (obtain ⟨rfl, _⟩ := h; rfl; done) | (obtain ⟨_, rfl, _⟩ := h; rfl; done) | (obtain ⟨_, _, rfl, _⟩ := h; rfl; done) | (obtain ⟨_, _, _, rfl, _⟩ := h; rfl; done) | (obtain ⟨_, _, _, _, rfl, _⟩ := h; rfl; done) | (obtain ⟨_, _, _, _, _, rfl, _⟩ := h; rfl; done) | (obtain ⟨_, _, _, _, _, _, rfl, _⟩ := h; rfl; done) | (obtain ⟨_, _, _, _, _, _, _, rfl, _⟩ := h; rfl; done) | (obtain ⟨_, _, _, _, _, _, _, _, rfl, _⟩ := h; rfl; done) | (obtain ⟨_, _, _, _, _, _, _, _, _, rfl, _⟩ := h; rfl; done) | (obtain ⟨_, _, _, _, _, _, _, _, _, _, rfl, _⟩ := h; rfl; done) | (obtain ⟨_, _, _, _, _, _, _, _, _, _, _, rfl, _⟩ := h; rfl; done) | (obtain ⟨_, _, _, _, _, _, _, _, _, _, _, _, rfl, _⟩ := h; rfl; done) | (obtain ⟨_, _, _, _, _, _, _, _, _, _, _, _, _, rfl, _⟩ := h; rfl; done) | (rcases h with h | h <;> first | (obtain ⟨rfl, _⟩ := h; rfl; done) | (obtain ⟨_, rfl, _⟩ := h; rfl; done) | (obtain ⟨_, _, rfl, _⟩ := h; rfl; done) | (obtain ⟨_, _, _, rfl, _⟩ := h; rfl; done) | (obtain ⟨_, _, _, _, rfl, _⟩ := h; rfl; done) | (obtain ⟨_, _, _, _, _, rfl, _⟩ := h; rfl; done) | (obtain ⟨_, _, _, _, _, _, rfl, _⟩ := h; rfl; done) | (obtain ⟨_, _, _, _, _, _, _, rfl, _⟩ := h; rfl; done) | (obtain ⟨_, _, _, _, _, _, _, _, rfl, _⟩ := h; rfl; done) | (obtain ⟨_, _, _, _, _, _, _, _, _, rfl, _⟩ := h; rfl; done) | (obtain ⟨_, _, _, _, _, _, _, _, _, _, rfl, _⟩ := h; rfl; done) | (obtain ⟨_, _, _, _, _, _, _, _, _, _, _, rfl, _⟩ := h; rfl; done) | (obtain ⟨_, _, _, _, _, _, _, _, _, _, _, _, rfl, _⟩ := h; rfl; done) | (obtain ⟨_, _, _, _, _, _, _, _, _, _, _, _, _, rfl, _⟩ := h; rfl; done))
theorem ok23 : DefOk Γ gl F23 gls exs (top 42) (Γ 75) := ⟨N23, ["_law_curve_here", "_law_x"], sx_law_slope_at, sc23, chk23, fun x K f fd F => F.bindsN fun _ _ _ _ _ _ us hl => (match us, hl with | [_, _], _ => rfl), fun ds g Q E h => len23 ds g Q E h, fun ds g Q E h => by rw [startD_len (N := N23) (M := ns_law_slope_at) rfl]; exact pure_law_slope_at rfl rfl h⟩
abbrev N24 : List Str := ["_law_pen_here", "_law_most", "_law_some", "_law_k"]
theorem chk24 : knS sx_law_curve (ckOf N24 (defScope (top 43)) F24 gls exs) (defBody (top 43)) = true := by decide +kernel
theorem sc24 : FnScope N24 ["_law_pen_here", "_law_most"] (defScope (top 43)) := ⟨rfl, rfl, rfl, by decide +kernel, rfl, by decide +kernel, by decide +kernel⟩
theorem len24 (ds : List D) (g : G) (Q : QD) (E : XD) (h : Γ 37 ds g Q E) : ds.length = 2 := by first | (obtain ⟨rfl, _⟩ := h; rfl; done) | (obtain ⟨_, rfl, _⟩ := h; rfl; done) | (obtain ⟨_, _, rfl, _⟩ := h; rfl; done) | (obtain ⟨_, _, _, rfl, _⟩ := h; rfl; done) | (obtain ⟨_, _, _, _, rfl, _⟩ := h; rfl; done) | (obtain ⟨_, _, _, _, _, rfl, _⟩ := h; rfl; done) | (obtain ⟨_, _, _, _, _, _, rfl, _⟩ := h; rfl; done) | (obtain ⟨_, _, _, _, _, _, _, rfl, _⟩ := h; rfl; done) | (obtain ⟨_, _, _, _, _, _, _, _, rfl, _⟩ := h; rfl; done) | (obtain ⟨_, _, _, _, _, _, _, _, _, rfl, _⟩ := h; rfl; done) | (obtain ⟨_, _, _, _, _, _, _, _, _, _, rfl, _⟩ := h; rfl; done) | (obtain ⟨_, _, _, _, _, _, _, _, _, _, _, rfl, _⟩ := h; rfl; done) | (obtain ⟨_, _, _, _, _, _, _, _, _, _, _, _, rfl, _⟩ := h; rfl; done) | (obtain ⟨_, _, _, _, _, _, _, _, _, _, _, _, _, rfl, _⟩ := h; rfl; done) | (rcases h with h | h <;> first | (obtain ⟨rfl, _⟩ := h; rfl; done) | (obtain ⟨_, rfl, _⟩ := h; rfl; done) | (obtain ⟨_, _, rfl, _⟩ := h; rfl; done) | (obtain ⟨_, _, _, rfl, _⟩ := h; rfl; done) | (obtain ⟨_, _, _, _, rfl, _⟩ := h; rfl; done) | (obtain ⟨_, _, _, _, _, rfl, _⟩ := h; rfl; done) | (obtain ⟨_, _, _, _, _, _, rfl, _⟩ := h; rfl; done) | (obtain ⟨_, _, _, _, _, _, _, rfl, _⟩ := h; rfl; done) | (obtain ⟨_, _, _, _, _, _, _, _, rfl, _⟩ := h; rfl; done) | (obtain ⟨_, _, _, _, _, _, _, _, _, rfl, _⟩ := h; rfl; done) | (obtain ⟨_, _, _, _, _, _, _, _, _, _, rfl, _⟩ := h; rfl; done) | (obtain ⟨_, _, _, _, _, _, _, _, _, _, _, rfl, _⟩ := h; rfl; done) | (obtain ⟨_, _, _, _, _, _, _, _, _, _, _, _, rfl, _⟩ := h; rfl; done) | (obtain ⟨_, _, _, _, _, _, _, _, _, _, _, _, _, rfl, _⟩ := h; rfl; done))
theorem ok24 : DefOk Γ gl F24 gls exs (top 43) (Γ 37) := ⟨N24, ["_law_pen_here", "_law_most"], sx_law_curve, sc24, chk24, fun x K f fd F => F.bindsN fun _ _ _ _ _ _ us hl => (match us, hl with | [_, _], _ => rfl), fun ds g Q E h => len24 ds g Q E h, fun ds g Q E h => by rw [startD_len (N := N24) (M := ns_law_curve) rfl]; exact pure_law_curve rfl rfl h⟩
abbrev N25 : List Str := ["_law_thing"]
theorem chk25 : knS sx_law_whole (ckOf N25 (defScope (top 44)) F25 gls exs) (defBody (top 44)) = true := by decide +kernel
theorem sc25 : FnScope N25 ["_law_thing"] (defScope (top 44)) := ⟨rfl, rfl, rfl, by decide +kernel, rfl, by decide +kernel, by decide +kernel⟩
theorem len25 (ds : List D) (g : G) (Q : QD) (E : XD) (h : Γ 6 ds g Q E) : ds.length = 1 := by first | (obtain ⟨rfl, _⟩ := h; rfl; done) | (obtain ⟨_, rfl, _⟩ := h; rfl; done) | (obtain ⟨_, _, rfl, _⟩ := h; rfl; done) | (obtain ⟨_, _, _, rfl, _⟩ := h; rfl; done) | (obtain ⟨_, _, _, _, rfl, _⟩ := h; rfl; done) | (obtain ⟨_, _, _, _, _, rfl, _⟩ := h; rfl; done) | (obtain ⟨_, _, _, _, _, _, rfl, _⟩ := h; rfl; done) | (obtain ⟨_, _, _, _, _, _, _, rfl, _⟩ := h; rfl; done) | (obtain ⟨_, _, _, _, _, _, _, _, rfl, _⟩ := h; rfl; done) | (obtain ⟨_, _, _, _, _, _, _, _, _, rfl, _⟩ := h; rfl; done) | (obtain ⟨_, _, _, _, _, _, _, _, _, _, rfl, _⟩ := h; rfl; done) | (obtain ⟨_, _, _, _, _, _, _, _, _, _, _, rfl, _⟩ := h; rfl; done) | (obtain ⟨_, _, _, _, _, _, _, _, _, _, _, _, rfl, _⟩ := h; rfl; done) | (obtain ⟨_, _, _, _, _, _, _, _, _, _, _, _, _, rfl, _⟩ := h; rfl; done) | (rcases h with h | h <;> first | (obtain ⟨rfl, _⟩ := h; rfl; done) | (obtain ⟨_, rfl, _⟩ := h; rfl; done) | (obtain ⟨_, _, rfl, _⟩ := h; rfl; done) | (obtain ⟨_, _, _, rfl, _⟩ := h; rfl; done) | (obtain ⟨_, _, _, _, rfl, _⟩ := h; rfl; done) | (obtain ⟨_, _, _, _, _, rfl, _⟩ := h; rfl; done) | (obtain ⟨_, _, _, _, _, _, rfl, _⟩ := h; rfl; done) | (obtain ⟨_, _, _, _, _, _, _, rfl, _⟩ := h; rfl; done) | (obtain ⟨_, _, _, _, _, _, _, _, rfl, _⟩ := h; rfl; done) | (obtain ⟨_, _, _, _, _, _, _, _, _, rfl, _⟩ := h; rfl; done) | (obtain ⟨_, _, _, _, _, _, _, _, _, _, rfl, _⟩ := h; rfl; done) | (obtain ⟨_, _, _, _, _, _, _, _, _, _, _, rfl, _⟩ := h; rfl; done) | (obtain ⟨_, _, _, _, _, _, _, _, _, _, _, _, rfl, _⟩ := h; rfl; done) | (obtain ⟨_, _, _, _, _, _, _, _, _, _, _, _, _, rfl, _⟩ := h; rfl; done))
theorem ok25 : DefOk Γ gl F25 gls exs (top 44) (Γ 6) := ⟨N25, ["_law_thing"], sx_law_whole, sc25, chk25, fun x K f fd F => F.bindsN fun _ _ _ _ _ _ us hl => (match us, hl with | [_], _ => rfl), fun ds g Q E h => len25 ds g Q E h, fun ds g Q E h => by rw [startD_len (N := N25) (M := ns_law_whole) rfl]; exact pure_law_whole h⟩
abbrev N26 : List Str := ["_law_thing"]
theorem chk26 : knS sx_law_is_number (ckOf N26 (defScope (top 45)) F26 gls exs) (defBody (top 45)) = true := by decide +kernel
theorem sc26 : FnScope N26 ["_law_thing"] (defScope (top 45)) := ⟨rfl, rfl, rfl, by decide +kernel, rfl, by decide +kernel, by decide +kernel⟩
theorem len26 (ds : List D) (g : G) (Q : QD) (E : XD) (h : Γ 7 ds g Q E) : ds.length = 1 := by first | (obtain ⟨rfl, _⟩ := h; rfl; done) | (obtain ⟨_, rfl, _⟩ := h; rfl; done) | (obtain ⟨_, _, rfl, _⟩ := h; rfl; done) | (obtain ⟨_, _, _, rfl, _⟩ := h; rfl; done) | (obtain ⟨_, _, _, _, rfl, _⟩ := h; rfl; done) | (obtain ⟨_, _, _, _, _, rfl, _⟩ := h; rfl; done) | (obtain ⟨_, _, _, _, _, _, rfl, _⟩ := h; rfl; done) | (obtain ⟨_, _, _, _, _, _, _, rfl, _⟩ := h; rfl; done) | (obtain ⟨_, _, _, _, _, _, _, _, rfl, _⟩ := h; rfl; done) | (obtain ⟨_, _, _, _, _, _, _, _, _, rfl, _⟩ := h; rfl; done) | (obtain ⟨_, _, _, _, _, _, _, _, _, _, rfl, _⟩ := h; rfl; done) | (obtain ⟨_, _, _, _, _, _, _, _, _, _, _, rfl, _⟩ := h; rfl; done) | (obtain ⟨_, _, _, _, _, _, _, _, _, _, _, _, rfl, _⟩ := h; rfl; done) | (obtain ⟨_, _, _, _, _, _, _, _, _, _, _, _, _, rfl, _⟩ := h; rfl; done) | (rcases h with h | h <;> first | (obtain ⟨rfl, _⟩ := h; rfl; done) | (obtain ⟨_, rfl, _⟩ := h; rfl; done) | (obtain ⟨_, _, rfl, _⟩ := h; rfl; done) | (obtain ⟨_, _, _, rfl, _⟩ := h; rfl; done) | (obtain ⟨_, _, _, _, rfl, _⟩ := h; rfl; done) | (obtain ⟨_, _, _, _, _, rfl, _⟩ := h; rfl; done) | (obtain ⟨_, _, _, _, _, _, rfl, _⟩ := h; rfl; done) | (obtain ⟨_, _, _, _, _, _, _, rfl, _⟩ := h; rfl; done) | (obtain ⟨_, _, _, _, _, _, _, _, rfl, _⟩ := h; rfl; done) | (obtain ⟨_, _, _, _, _, _, _, _, _, rfl, _⟩ := h; rfl; done) | (obtain ⟨_, _, _, _, _, _, _, _, _, _, rfl, _⟩ := h; rfl; done) | (obtain ⟨_, _, _, _, _, _, _, _, _, _, _, rfl, _⟩ := h; rfl; done) | (obtain ⟨_, _, _, _, _, _, _, _, _, _, _, _, rfl, _⟩ := h; rfl; done) | (obtain ⟨_, _, _, _, _, _, _, _, _, _, _, _, _, rfl, _⟩ := h; rfl; done))
theorem ok26 : DefOk Γ gl F26 gls exs (top 45) (Γ 7) := ⟨N26, ["_law_thing"], sx_law_is_number, sc26, chk26, fun x K f fd F => F.bindsN fun _ _ _ _ _ _ us hl => (match us, hl with | [_], _ => rfl), fun ds g Q E h => len26 ds g Q E h, fun ds g Q E h => by rw [startD_len (N := N26) (M := ns_law_is_number) rfl]; exact pure_law_is_number rfl rfl h⟩
abbrev N27 : List Str := ["_law_thing", "_law_number_here"]
theorem chk27 : knS sx_law_is_curve (ckOf N27 (defScope (top 46)) F27 gls exs) (defBody (top 46)) = true := by decide +kernel
theorem sc27 : FnScope N27 ["_law_thing"] (defScope (top 46)) := ⟨rfl, rfl, rfl, by decide +kernel, rfl, by decide +kernel, by decide +kernel⟩
theorem len27 (ds : List D) (g : G) (Q : QD) (E : XD) (h : Γ 28 ds g Q E) : ds.length = 1 := by first | (obtain ⟨rfl, _⟩ := h; rfl; done) | (obtain ⟨_, rfl, _⟩ := h; rfl; done) | (obtain ⟨_, _, rfl, _⟩ := h; rfl; done) | (obtain ⟨_, _, _, rfl, _⟩ := h; rfl; done) | (obtain ⟨_, _, _, _, rfl, _⟩ := h; rfl; done) | (obtain ⟨_, _, _, _, _, rfl, _⟩ := h; rfl; done) | (obtain ⟨_, _, _, _, _, _, rfl, _⟩ := h; rfl; done) | (obtain ⟨_, _, _, _, _, _, _, rfl, _⟩ := h; rfl; done) | (obtain ⟨_, _, _, _, _, _, _, _, rfl, _⟩ := h; rfl; done) | (obtain ⟨_, _, _, _, _, _, _, _, _, rfl, _⟩ := h; rfl; done) | (obtain ⟨_, _, _, _, _, _, _, _, _, _, rfl, _⟩ := h; rfl; done) | (obtain ⟨_, _, _, _, _, _, _, _, _, _, _, rfl, _⟩ := h; rfl; done) | (obtain ⟨_, _, _, _, _, _, _, _, _, _, _, _, rfl, _⟩ := h; rfl; done) | (obtain ⟨_, _, _, _, _, _, _, _, _, _, _, _, _, rfl, _⟩ := h; rfl; done) | (rcases h with h | h <;> first | (obtain ⟨rfl, _⟩ := h; rfl; done) | (obtain ⟨_, rfl, _⟩ := h; rfl; done) | (obtain ⟨_, _, rfl, _⟩ := h; rfl; done) | (obtain ⟨_, _, _, rfl, _⟩ := h; rfl; done) | (obtain ⟨_, _, _, _, rfl, _⟩ := h; rfl; done) | (obtain ⟨_, _, _, _, _, rfl, _⟩ := h; rfl; done) | (obtain ⟨_, _, _, _, _, _, rfl, _⟩ := h; rfl; done) | (obtain ⟨_, _, _, _, _, _, _, rfl, _⟩ := h; rfl; done) | (obtain ⟨_, _, _, _, _, _, _, _, rfl, _⟩ := h; rfl; done) | (obtain ⟨_, _, _, _, _, _, _, _, _, rfl, _⟩ := h; rfl; done) | (obtain ⟨_, _, _, _, _, _, _, _, _, _, rfl, _⟩ := h; rfl; done) | (obtain ⟨_, _, _, _, _, _, _, _, _, _, _, rfl, _⟩ := h; rfl; done) | (obtain ⟨_, _, _, _, _, _, _, _, _, _, _, _, rfl, _⟩ := h; rfl; done) | (obtain ⟨_, _, _, _, _, _, _, _, _, _, _, _, _, rfl, _⟩ := h; rfl; done))
theorem ok27 : DefOk Γ gl F27 gls exs (top 46) (Γ 28) := ⟨N27, ["_law_thing"], sx_law_is_curve, sc27, chk27, fun x K f fd F => F.bindsN fun _ _ _ _ _ _ us hl => (match us, hl with | [_], _ => rfl), fun ds g Q E h => len27 ds g Q E h, fun ds g Q E h => by rw [startD_len (N := N27) (M := ns_law_is_curve) rfl]; exact pure_law_is_curve rfl h⟩
abbrev N28 : List Str := ["_law_caught", "_law_some", "_law_found", "_law_word", "_law_one"]
theorem chk28 : knH sx_law_refusal_v5 (ckOf N28 (defScope (top 47)) [] [] exs) (defBody (top 47)) = true := by decide +kernel
theorem sc28 : FnScope N28 ["_law_caught"] (defScope (top 47)) := ⟨rfl, rfl, rfl, by decide +kernel, rfl, by decide +kernel, by decide +kernel⟩
theorem len28 (ds : List D) (g : G) (Q : QD) (E : XD) (h : Γ 407 ds g Q E) : ds.length = 1 := by first | (obtain ⟨rfl, _⟩ := h; rfl; done) | (obtain ⟨_, rfl, _⟩ := h; rfl; done) | (obtain ⟨_, _, rfl, _⟩ := h; rfl; done) | (obtain ⟨_, _, _, rfl, _⟩ := h; rfl; done) | (obtain ⟨_, _, _, _, rfl, _⟩ := h; rfl; done) | (obtain ⟨_, _, _, _, _, rfl, _⟩ := h; rfl; done) | (obtain ⟨_, _, _, _, _, _, rfl, _⟩ := h; rfl; done) | (obtain ⟨_, _, _, _, _, _, _, rfl, _⟩ := h; rfl; done) | (obtain ⟨_, _, _, _, _, _, _, _, rfl, _⟩ := h; rfl; done) | (obtain ⟨_, _, _, _, _, _, _, _, _, rfl, _⟩ := h; rfl; done) | (obtain ⟨_, _, _, _, _, _, _, _, _, _, rfl, _⟩ := h; rfl; done) | (obtain ⟨_, _, _, _, _, _, _, _, _, _, _, rfl, _⟩ := h; rfl; done) | (obtain ⟨_, _, _, _, _, _, _, _, _, _, _, _, rfl, _⟩ := h; rfl; done) | (obtain ⟨_, _, _, _, _, _, _, _, _, _, _, _, _, rfl, _⟩ := h; rfl; done) | (rcases h with h | h <;> first | (obtain ⟨rfl, _⟩ := h; rfl; done) | (obtain ⟨_, rfl, _⟩ := h; rfl; done) | (obtain ⟨_, _, rfl, _⟩ := h; rfl; done) | (obtain ⟨_, _, _, rfl, _⟩ := h; rfl; done) | (obtain ⟨_, _, _, _, rfl, _⟩ := h; rfl; done) | (obtain ⟨_, _, _, _, _, rfl, _⟩ := h; rfl; done) | (obtain ⟨_, _, _, _, _, _, rfl, _⟩ := h; rfl; done) | (obtain ⟨_, _, _, _, _, _, _, rfl, _⟩ := h; rfl; done) | (obtain ⟨_, _, _, _, _, _, _, _, rfl, _⟩ := h; rfl; done) | (obtain ⟨_, _, _, _, _, _, _, _, _, rfl, _⟩ := h; rfl; done) | (obtain ⟨_, _, _, _, _, _, _, _, _, _, rfl, _⟩ := h; rfl; done) | (obtain ⟨_, _, _, _, _, _, _, _, _, _, _, rfl, _⟩ := h; rfl; done) | (obtain ⟨_, _, _, _, _, _, _, _, _, _, _, _, rfl, _⟩ := h; rfl; done) | (obtain ⟨_, _, _, _, _, _, _, _, _, _, _, _, _, rfl, _⟩ := h; rfl; done))
theorem ok28 : DefOkH Γ gl exs (top 47) (Γ 407) := ⟨N28, ["_law_caught"], sx_law_refusal_v5, sc28, chk28, fun x K f fd F => F.bindsN fun _ _ _ _ _ _ us hl => (match us, hl with | [_], _ => rfl), fun ds g Q E h => len28 ds g Q E h, fun ds g Q E h => by rw [startD_len (N := N28) (M := ns_law_refusal_v5) rfl]; exact pure_law_refusal_v5 h⟩
abbrev N29 : List Str := ["_law_one", "_law_other", "_law_found", "_law_j", "_law_k"]
theorem chk29 : knS sx_law_product_v2 (ckOf N29 (defScope (top 48)) F29 gls exs) (defBody (top 48)) = true := by decide +kernel
theorem sc29 : FnScope N29 ["_law_one", "_law_other"] (defScope (top 48)) := ⟨rfl, rfl, rfl, by decide +kernel, rfl, by decide +kernel, by decide +kernel⟩
theorem len29 (ds : List D) (g : G) (Q : QD) (E : XD) (h : Γ 187 ds g Q E) : ds.length = 2 := by first | (obtain ⟨rfl, _⟩ := h; rfl; done) | (obtain ⟨_, rfl, _⟩ := h; rfl; done) | (obtain ⟨_, _, rfl, _⟩ := h; rfl; done) | (obtain ⟨_, _, _, rfl, _⟩ := h; rfl; done) | (obtain ⟨_, _, _, _, rfl, _⟩ := h; rfl; done) | (obtain ⟨_, _, _, _, _, rfl, _⟩ := h; rfl; done) | (obtain ⟨_, _, _, _, _, _, rfl, _⟩ := h; rfl; done) | (obtain ⟨_, _, _, _, _, _, _, rfl, _⟩ := h; rfl; done) | (obtain ⟨_, _, _, _, _, _, _, _, rfl, _⟩ := h; rfl; done) | (obtain ⟨_, _, _, _, _, _, _, _, _, rfl, _⟩ := h; rfl; done) | (obtain ⟨_, _, _, _, _, _, _, _, _, _, rfl, _⟩ := h; rfl; done) | (obtain ⟨_, _, _, _, _, _, _, _, _, _, _, rfl, _⟩ := h; rfl; done) | (obtain ⟨_, _, _, _, _, _, _, _, _, _, _, _, rfl, _⟩ := h; rfl; done) | (obtain ⟨_, _, _, _, _, _, _, _, _, _, _, _, _, rfl, _⟩ := h; rfl; done) | (rcases h with h | h <;> first | (obtain ⟨rfl, _⟩ := h; rfl; done) | (obtain ⟨_, rfl, _⟩ := h; rfl; done) | (obtain ⟨_, _, rfl, _⟩ := h; rfl; done) | (obtain ⟨_, _, _, rfl, _⟩ := h; rfl; done) | (obtain ⟨_, _, _, _, rfl, _⟩ := h; rfl; done) | (obtain ⟨_, _, _, _, _, rfl, _⟩ := h; rfl; done) | (obtain ⟨_, _, _, _, _, _, rfl, _⟩ := h; rfl; done) | (obtain ⟨_, _, _, _, _, _, _, rfl, _⟩ := h; rfl; done) | (obtain ⟨_, _, _, _, _, _, _, _, rfl, _⟩ := h; rfl; done) | (obtain ⟨_, _, _, _, _, _, _, _, _, rfl, _⟩ := h; rfl; done) | (obtain ⟨_, _, _, _, _, _, _, _, _, _, rfl, _⟩ := h; rfl; done) | (obtain ⟨_, _, _, _, _, _, _, _, _, _, _, rfl, _⟩ := h; rfl; done) | (obtain ⟨_, _, _, _, _, _, _, _, _, _, _, _, rfl, _⟩ := h; rfl; done) | (obtain ⟨_, _, _, _, _, _, _, _, _, _, _, _, _, rfl, _⟩ := h; rfl; done))
theorem ok29 : DefOk Γ gl F29 gls exs (top 48) (Γ 187) := ⟨N29, ["_law_one", "_law_other"], sx_law_product_v2, sc29, chk29, fun x K f fd F => F.bindsN fun _ _ _ _ _ _ us hl => (match us, hl with | [_, _], _ => rfl), fun ds g Q E h => len29 ds g Q E h, fun ds g Q E h => by rw [startD_len (N := N29) (M := ns_law_product_v2) rfl]; exact pure_law_product_v2 rfl rfl h⟩
abbrev N30 : List Str := ["_law_pen_here", "_law_top", "_law_curve_here", "_law_lone", "_law_places", "_law_k", "_law_often", "_law_x", "_law_bow", "_law_j", "_law_line"]
theorem chk30 : knS sx_law_known_v5 (ckOf N30 (defScope (top 49)) F30 gls exs) (defBody (top 49)) = true := by decide +kernel
theorem sc30 : FnScope N30 ["_law_pen_here"] (defScope (top 49)) := ⟨rfl, rfl, rfl, by decide +kernel, rfl, by decide +kernel, by decide +kernel⟩
theorem len30 (ds : List D) (g : G) (Q : QD) (E : XD) (h : Γ 443 ds g Q E) : ds.length = 1 := by first | (obtain ⟨rfl, _⟩ := h; rfl; done) | (obtain ⟨_, rfl, _⟩ := h; rfl; done) | (obtain ⟨_, _, rfl, _⟩ := h; rfl; done) | (obtain ⟨_, _, _, rfl, _⟩ := h; rfl; done) | (obtain ⟨_, _, _, _, rfl, _⟩ := h; rfl; done) | (obtain ⟨_, _, _, _, _, rfl, _⟩ := h; rfl; done) | (obtain ⟨_, _, _, _, _, _, rfl, _⟩ := h; rfl; done) | (obtain ⟨_, _, _, _, _, _, _, rfl, _⟩ := h; rfl; done) | (obtain ⟨_, _, _, _, _, _, _, _, rfl, _⟩ := h; rfl; done) | (obtain ⟨_, _, _, _, _, _, _, _, _, rfl, _⟩ := h; rfl; done) | (obtain ⟨_, _, _, _, _, _, _, _, _, _, rfl, _⟩ := h; rfl; done) | (obtain ⟨_, _, _, _, _, _, _, _, _, _, _, rfl, _⟩ := h; rfl; done) | (obtain ⟨_, _, _, _, _, _, _, _, _, _, _, _, rfl, _⟩ := h; rfl; done) | (obtain ⟨_, _, _, _, _, _, _, _, _, _, _, _, _, rfl, _⟩ := h; rfl; done) | (rcases h with h | h <;> first | (obtain ⟨rfl, _⟩ := h; rfl; done) | (obtain ⟨_, rfl, _⟩ := h; rfl; done) | (obtain ⟨_, _, rfl, _⟩ := h; rfl; done) | (obtain ⟨_, _, _, rfl, _⟩ := h; rfl; done) | (obtain ⟨_, _, _, _, rfl, _⟩ := h; rfl; done) | (obtain ⟨_, _, _, _, _, rfl, _⟩ := h; rfl; done) | (obtain ⟨_, _, _, _, _, _, rfl, _⟩ := h; rfl; done) | (obtain ⟨_, _, _, _, _, _, _, rfl, _⟩ := h; rfl; done) | (obtain ⟨_, _, _, _, _, _, _, _, rfl, _⟩ := h; rfl; done) | (obtain ⟨_, _, _, _, _, _, _, _, _, rfl, _⟩ := h; rfl; done) | (obtain ⟨_, _, _, _, _, _, _, _, _, _, rfl, _⟩ := h; rfl; done) | (obtain ⟨_, _, _, _, _, _, _, _, _, _, _, rfl, _⟩ := h; rfl; done) | (obtain ⟨_, _, _, _, _, _, _, _, _, _, _, _, rfl, _⟩ := h; rfl; done) | (obtain ⟨_, _, _, _, _, _, _, _, _, _, _, _, _, rfl, _⟩ := h; rfl; done))
theorem ok30 : DefOk Γ gl F30 gls exs (top 49) (Γ 443) := ⟨N30, ["_law_pen_here"], sx_law_known_v5, sc30, chk30, fun x K f fd F => F.bindsN fun _ _ _ _ _ _ us hl => (match us, hl with | [_], _ => rfl), fun ds g Q E h => len30 ds g Q E h, fun ds g Q E h => by rw [startD_len (N := N30) (M := ns_law_known_v5) rfl]; exact pure_law_known_v5 rfl rfl rfl rfl rfl h⟩
abbrev N31 : List Str := ["_law_word", "e"]
theorem chk31 : knS sx_law_refused_v12 (ckOf2 N31 (defScope (top 50)) F31 gls exs [(407, "_law_refusal")]) (defBody (top 50)) = true := by decide +kernel
theorem sc31 : FnScope N31 [] (defScope (top 50)) := ⟨rfl, rfl, rfl, by decide +kernel, rfl, by decide +kernel, by decide +kernel⟩
theorem len31 (ds : List D) (g : G) (Q : QD) (E : XD) (h : Γ 411 ds g Q E) : ds.length = 0 := by first | (obtain ⟨rfl, _⟩ := h; rfl; done) | (obtain ⟨_, rfl, _⟩ := h; rfl; done) | (obtain ⟨_, _, rfl, _⟩ := h; rfl; done) | (obtain ⟨_, _, _, rfl, _⟩ := h; rfl; done) | (obtain ⟨_, _, _, _, rfl, _⟩ := h; rfl; done) | (obtain ⟨_, _, _, _, _, rfl, _⟩ := h; rfl; done) | (obtain ⟨_, _, _, _, _, _, rfl, _⟩ := h; rfl; done) | (obtain ⟨_, _, _, _, _, _, _, rfl, _⟩ := h; rfl; done) | (obtain ⟨_, _, _, _, _, _, _, _, rfl, _⟩ := h; rfl; done) | (obtain ⟨_, _, _, _, _, _, _, _, _, rfl, _⟩ := h; rfl; done) | (obtain ⟨_, _, _, _, _, _, _, _, _, _, rfl, _⟩ := h; rfl; done) | (obtain ⟨_, _, _, _, _, _, _, _, _, _, _, rfl, _⟩ := h; rfl; done) | (obtain ⟨_, _, _, _, _, _, _, _, _, _, _, _, rfl, _⟩ := h; rfl; done) | (obtain ⟨_, _, _, _, _, _, _, _, _, _, _, _, _, rfl, _⟩ := h; rfl; done) | (rcases h with h | h <;> first | (obtain ⟨rfl, _⟩ := h; rfl; done) | (obtain ⟨_, rfl, _⟩ := h; rfl; done) | (obtain ⟨_, _, rfl, _⟩ := h; rfl; done) | (obtain ⟨_, _, _, rfl, _⟩ := h; rfl; done) | (obtain ⟨_, _, _, _, rfl, _⟩ := h; rfl; done) | (obtain ⟨_, _, _, _, _, rfl, _⟩ := h; rfl; done) | (obtain ⟨_, _, _, _, _, _, rfl, _⟩ := h; rfl; done) | (obtain ⟨_, _, _, _, _, _, _, rfl, _⟩ := h; rfl; done) | (obtain ⟨_, _, _, _, _, _, _, _, rfl, _⟩ := h; rfl; done) | (obtain ⟨_, _, _, _, _, _, _, _, _, rfl, _⟩ := h; rfl; done) | (obtain ⟨_, _, _, _, _, _, _, _, _, _, rfl, _⟩ := h; rfl; done) | (obtain ⟨_, _, _, _, _, _, _, _, _, _, _, rfl, _⟩ := h; rfl; done) | (obtain ⟨_, _, _, _, _, _, _, _, _, _, _, _, rfl, _⟩ := h; rfl; done) | (obtain ⟨_, _, _, _, _, _, _, _, _, _, _, _, _, rfl, _⟩ := h; rfl; done))
theorem ok31 : DefOk2 Γ gl F31 gls exs [(407, "_law_refusal")] (top 50) (Γ 411) := ⟨N31, [], sx_law_refused_v12, sc31, chk31, fun x K f fd F => F.bindsN fun _ _ _ _ _ _ us hl => (match us, hl with | [], _ => rfl), fun ds g Q E h => len31 ds g Q E h, fun ds g Q E h => by rw [startD_len (N := N31) (M := ns_law_refused_v12) rfl]; exact pure_law_refused_v12 rfl rfl h⟩
abbrev N32 : List Str := ["_law_script", "_law_pen_here", "_law_found", "_law_x", "_law_other", "_law_slope", "_law_curve_here", "_law_places", "_law_lone", "_law_k"]
theorem chk32 : knS sx_law_k39_v5 (ckOf N32 (defScope (top 51)) F32 gls exs) (defBody (top 51)) = true := by decide +kernel
theorem sc32 : FnScope N32 ["_law_script"] (defScope (top 51)) := ⟨rfl, rfl, rfl, by decide +kernel, rfl, by decide +kernel, by decide +kernel⟩
theorem len32 (ds : List D) (g : G) (Q : QD) (E : XD) (h : spLaw ds g Q E) : ds.length = 1 := by first | (obtain ⟨rfl, _⟩ := h; rfl; done) | (obtain ⟨_, rfl, _⟩ := h; rfl; done) | (obtain ⟨_, _, rfl, _⟩ := h; rfl; done) | (obtain ⟨_, _, _, rfl, _⟩ := h; rfl; done) | (obtain ⟨_, _, _, _, rfl, _⟩ := h; rfl; done) | (obtain ⟨_, _, _, _, _, rfl, _⟩ := h; rfl; done) | (obtain ⟨_, _, _, _, _, _, rfl, _⟩ := h; rfl; done) | (obtain ⟨_, _, _, _, _, _, _, rfl, _⟩ := h; rfl; done) | (obtain ⟨_, _, _, _, _, _, _, _, rfl, _⟩ := h; rfl; done) | (obtain ⟨_, _, _, _, _, _, _, _, _, rfl, _⟩ := h; rfl; done) | (obtain ⟨_, _, _, _, _, _, _, _, _, _, rfl, _⟩ := h; rfl; done) | (obtain ⟨_, _, _, _, _, _, _, _, _, _, _, rfl, _⟩ := h; rfl; done) | (obtain ⟨_, _, _, _, _, _, _, _, _, _, _, _, rfl, _⟩ := h; rfl; done) | (obtain ⟨_, _, _, _, _, _, _, _, _, _, _, _, _, rfl, _⟩ := h; rfl; done) | (rcases h with h | h <;> first | (obtain ⟨rfl, _⟩ := h; rfl; done) | (obtain ⟨_, rfl, _⟩ := h; rfl; done) | (obtain ⟨_, _, rfl, _⟩ := h; rfl; done) | (obtain ⟨_, _, _, rfl, _⟩ := h; rfl; done) | (obtain ⟨_, _, _, _, rfl, _⟩ := h; rfl; done) | (obtain ⟨_, _, _, _, _, rfl, _⟩ := h; rfl; done) | (obtain ⟨_, _, _, _, _, _, rfl, _⟩ := h; rfl; done) | (obtain ⟨_, _, _, _, _, _, _, rfl, _⟩ := h; rfl; done) | (obtain ⟨_, _, _, _, _, _, _, _, rfl, _⟩ := h; rfl; done) | (obtain ⟨_, _, _, _, _, _, _, _, _, rfl, _⟩ := h; rfl; done) | (obtain ⟨_, _, _, _, _, _, _, _, _, _, rfl, _⟩ := h; rfl; done) | (obtain ⟨_, _, _, _, _, _, _, _, _, _, _, rfl, _⟩ := h; rfl; done) | (obtain ⟨_, _, _, _, _, _, _, _, _, _, _, _, rfl, _⟩ := h; rfl; done) | (obtain ⟨_, _, _, _, _, _, _, _, _, _, _, _, _, rfl, _⟩ := h; rfl; done))
theorem ok32 : DefOk Γ gl F32 gls exs (top 51) (spLaw) := ⟨N32, ["_law_script"], sx_law_k39_v5, sc32, chk32, fun x K f fd F => F.bindsN fun _ _ _ _ _ _ us hl => (match us, hl with | [_], _ => rfl), fun ds g Q E h => len32 ds g Q E h, fun ds g Q E h => by rw [startD_len (N := N32) (M := ns_law_k39_v5) rfl]; exact pure_law_k39_v5 rfl rfl rfl rfl rfl rfl rfl rfl rfl rfl rfl rfl h⟩
def D0 : He.DefD := ⟨("shared_part", none), "shared_part", "shared_part", defArgs (top 15), defBody (top 15), defScope (top 15), [], []⟩
def D1 : He.DefD := ⟨("lowest", none), "lowest", "lowest", defArgs (top 16), defBody (top 16), defScope (top 16), [], []⟩
def D2 : He.DefD := ⟨("minus", none), "minus", "minus", defArgs (top 17), defBody (top 17), defScope (top 17), [], []⟩
def D3 : He.DefD := ⟨("times", none), "times", "times", defArgs (top 18), defBody (top 18), defScope (top 18), [], []⟩
def D4 : He.DefD := ⟨("over", none), "over", "over", defArgs (top 19), defBody (top 19), defScope (top 19), [], []⟩
def D5 : He.DefD := ⟨("curve_of", none), "curve_of", "curve_of", defArgs (top 21), defBody (top 21), defScope (top 21), [], []⟩
def D6 : He.DefD := ⟨("number_at", none), "number_at", "number_at", defArgs (top 22), defBody (top 22), defScope (top 22), [], []⟩
def D7 : He.DefD := ⟨("lessened", none), "lessened", "lessened", defArgs (top 23), defBody (top 23), defScope (top 23), [], []⟩
def D8 : He.DefD := ⟨("scaled", none), "scaled", "scaled", defArgs (top 24), defBody (top 24), defScope (top 24), [], []⟩
def D9 : He.DefD := ⟨("slope_of", none), "slope_of", "slope_of", defArgs (top 25), defBody (top 25), defScope (top 25), [], []⟩
def D10 : He.DefD := ⟨("divided", none), "divided", "divided", defArgs (top 27), defBody (top 27), defScope (top 27), [], []⟩
def D11 : He.DefD := ⟨("with_last_one", none), "with_last_one", "with_last_one", defArgs (top 28), defBody (top 28), defScope (top 28), [], []⟩
def D12 : He.DefD := ⟨("common_part", none), "common_part", "common_part", defArgs (top 29), defBody (top 29), defScope (top 29), [], []⟩
def D13 : He.DefD := ⟨("ask_curve", none), "ask_curve", "ask_curve", defArgs (top 31), defBody (top 31), defScope (top 31), [], []⟩
def D14 : He.DefD := ⟨("lone_part", none), "lone_part", "lone_part", defArgs (top 32), defBody (top 32), defScope (top 32), [], []⟩
def D15 : He.DefD := ⟨("_law_pen", none), "_law_pen", "_law_pen", defArgs (top 34), defBody (top 34), defScope (top 34), [], []⟩
def D16 : He.DefD := ⟨("_law_draw", none), "_law_draw", "_law_draw", defArgs (top 35), defBody (top 35), defScope (top 35), [], []⟩
def D17 : He.DefD := ⟨("_law_lowest", none), "_law_lowest", "_law_lowest", defArgs (top 36), defBody (top 36), defScope (top 36), [], []⟩
def D18 : He.DefD := ⟨("_law_plus", none), "_law_plus", "_law_plus", defArgs (top 37), defBody (top 37), defScope (top 37), [], []⟩
def D19 : He.DefD := ⟨("_law_minus", none), "_law_minus", "_law_minus", defArgs (top 38), defBody (top 38), defScope (top 38), [], []⟩
def D20 : He.DefD := ⟨("_law_times", none), "_law_times", "_law_times", defArgs (top 39), defBody (top 39), defScope (top 39), [], []⟩
def D21 : He.DefD := ⟨("_law_number", none), "_law_number", "_law_number", defArgs (top 40), defBody (top 40), defScope (top 40), [], []⟩
def D22 : He.DefD := ⟨("_law_at", none), "_law_at", "_law_at", defArgs (top 41), defBody (top 41), defScope (top 41), [], []⟩
def D23 : He.DefD := ⟨("_law_slope_at", none), "_law_slope_at", "_law_slope_at", defArgs (top 42), defBody (top 42), defScope (top 42), [], []⟩
def D24 : He.DefD := ⟨("_law_curve", none), "_law_curve", "_law_curve", defArgs (top 43), defBody (top 43), defScope (top 43), [], []⟩
def D25 : He.DefD := ⟨("_law_whole", none), "_law_whole", "_law_whole", defArgs (top 44), defBody (top 44), defScope (top 44), [], []⟩
def D26 : He.DefD := ⟨("_law_is_number", none), "_law_is_number", "_law_is_number", defArgs (top 45), defBody (top 45), defScope (top 45), [], []⟩
def D27 : He.DefD := ⟨("_law_is_curve", none), "_law_is_curve", "_law_is_curve", defArgs (top 46), defBody (top 46), defScope (top 46), [], []⟩
def D28 : He.DefD := ⟨("_law_refusal", none), "_law_refusal", "_law_refusal", defArgs (top 47), defBody (top 47), defScope (top 47), [], []⟩
def D29 : He.DefD := ⟨("_law_product", none), "_law_product", "_law_product", defArgs (top 48), defBody (top 48), defScope (top 48), [], []⟩
def D30 : He.DefD := ⟨("_law_known", none), "_law_known", "_law_known", defArgs (top 49), defBody (top 49), defScope (top 49), [], []⟩
def D31 : He.DefD := ⟨("_law_refused", none), "_law_refused", "_law_refused", defArgs (top 50), defBody (top 50), defScope (top 50), [], []⟩
def D32 : He.DefD := ⟨("law", none), "law", "law", defArgs (top 51), defBody (top 51), defScope (top 51), [], []⟩
def fn : List He.DefD := [D0, D1, D2, D3, D4, D5, D6, D7, D8, D9, D10, D11, D12, D13, D14, D15, D16, D17, D18, D19, D20, D21, D22, D23, D24, D25, D26, D27, D28, D29, D30, D31, D32]
def fa : List He.Fa := bltNames.map (fun x => He.Fa.free (Str.ofString x)) ++ [.glo "shared_part", .glo "lowest", .glo "minus", .glo "times", .glo "over", .glo "curve_of", .glo "number_at", .glo "lessened", .glo "scaled", .glo "slope_of", .glo "divided", .glo "with_last_one", .glo "common_part", .glo "ask_curve", .glo "lone_part", .glo "_law_pen", .glo "_law_draw", .glo "_law_lowest", .glo "_law_plus", .glo "_law_minus", .glo "_law_times", .glo "_law_number", .glo "_law_at", .glo "_law_slope_at", .glo "_law_curve", .glo "_law_whole", .glo "_law_is_number", .glo "_law_is_curve", .glo "_law_refusal", .glo "_law_product", .glo "_law_known", .glo "_law_refused", .glo "law", .glo "NoNumber", .exc "NoNumber", .glo "NoCurve", .exc "NoCurve", .glo "NoPoint", .exc "NoPoint", .glo "NoPoints", .exc "NoPoints", .glo "NoRow", .exc "NoRow", .glo "NoStretch", .exc "NoStretch", .glo "NoText", .exc "NoText", .glo "TooDeep", .exc "TooDeep", .glo "TooFew", .exc "TooFew", .glo "TooMany", .exc "TooMany", .glo "CurveError", .exc "CurveError"]
def tb : List (Str × D) := gls.map fun p => (p.2, gl p.1)
abbrev R : PySem.W.OpenRow := PySem.W.OpenLaw.row PySem.Challenge.rw_onecurve_k39_lone_parts
abbrev hk : PySem.W.Hook := hookP 4 fa fn tb exs
def ob (s : PySem.W.SharedT) : AlP := obsPG 4 fa fn tb exs (HandSHeadRun.getT s)
theorem ob_eq (s : PySem.W.SharedT) : ob s = hk.obs s.abs := obsPG_eq (HandSHeadRun.getT_eq s)
theorem run (w : World) : HandSHeadRun.RunEq R (PySem.W.view R.prog [51]) hk ob 4000 [("shared_part" : PySem.Str), ("lowest" : PySem.Str), ("minus" : PySem.Str), ("times" : PySem.Str), ("over" : PySem.Str), ("curve_of" : PySem.Str), ("number_at" : PySem.Str), ("lessened" : PySem.Str), ("scaled" : PySem.Str), ("slope_of" : PySem.Str), ("divided" : PySem.Str), ("with_last_one" : PySem.Str), ("common_part" : PySem.Str), ("ask_curve" : PySem.Str), ("lone_part" : PySem.Str), ("_law_pen" : PySem.Str), ("_law_draw" : PySem.Str), ("_law_lowest" : PySem.Str), ("_law_plus" : PySem.Str), ("_law_minus" : PySem.Str), ("_law_times" : PySem.Str), ("_law_number" : PySem.Str), ("_law_at" : PySem.Str), ("_law_slope_at" : PySem.Str), ("_law_curve" : PySem.Str), ("_law_whole" : PySem.Str), ("_law_is_number" : PySem.Str), ("_law_is_curve" : PySem.Str), ("_law_refusal" : PySem.Str), ("_law_product" : PySem.Str), ("_law_known" : PySem.Str), ("_law_refused" : PySem.Str), ("NOUGHT" : PySem.Str), ("ONE" : PySem.Str), ("CurveError" : PySem.Str), ("NoNumber" : PySem.Str), ("NoCurve" : PySem.Str), ("NoPoints" : PySem.Str), ("TooMany" : PySem.Str), ("NoPoint" : PySem.Str), ("NoStretch" : PySem.Str), ("TooDeep" : PySem.Str), ("TooFew" : PySem.Str), ("NoText" : PySem.Str), ("NoRow" : PySem.Str)] w := by
  intro os
  kernel_rfl
theorem facts {P : Program} {w : World} {K : PySem.W.Frag} {h : Heap} {mg : Str → Option Value} {f : Addr} (ht : P.given.tree = none) (X : K.In h) (G : h.Ns mainGlobals mg) (S : h.NoSeer) (hfa : mg ("law" : Str) = some (.ref f)) (c : SaysP fa fn tb exs K) :
    ∃ fd : FuncData, (∀ (s : Shared) (v : Value), BindsTo s fd ⟨[v], []⟩ [("_law_script", v)]) ∧ ∀ base : Heap, K.In base → base.Ns mainGlobals mg → FnOk P w K mg base (L2N.CX P w) 73 f fd ["_law_script"] (liftSp K (fun n => He.ga K (Str.ofString n.nm)) spLaw) := by
  obtain ⟨fd0, H0⟩ := c.d.def_ 0 (d := D0) rfl
  obtain ⟨fd1, H1⟩ := c.d.def_ 1 (d := D1) rfl
  obtain ⟨fd2, H2⟩ := c.d.def_ 2 (d := D2) rfl
  obtain ⟨fd3, H3⟩ := c.d.def_ 3 (d := D3) rfl
  obtain ⟨fd4, H4⟩ := c.d.def_ 4 (d := D4) rfl
  obtain ⟨fd5, H5⟩ := c.d.def_ 5 (d := D5) rfl
  obtain ⟨fd6, H6⟩ := c.d.def_ 6 (d := D6) rfl
  obtain ⟨fd7, H7⟩ := c.d.def_ 7 (d := D7) rfl
  obtain ⟨fd8, H8⟩ := c.d.def_ 8 (d := D8) rfl
  obtain ⟨fd9, H9⟩ := c.d.def_ 9 (d := D9) rfl
  obtain ⟨fd10, H10⟩ := c.d.def_ 10 (d := D10) rfl
  obtain ⟨fd11, H11⟩ := c.d.def_ 11 (d := D11) rfl
  obtain ⟨fd12, H12⟩ := c.d.def_ 12 (d := D12) rfl
  obtain ⟨fd13, H13⟩ := c.d.def_ 13 (d := D13) rfl
  obtain ⟨fd14, H14⟩ := c.d.def_ 14 (d := D14) rfl
  obtain ⟨fd15, H15⟩ := c.d.def_ 15 (d := D15) rfl
  obtain ⟨fd16, H16⟩ := c.d.def_ 16 (d := D16) rfl
  obtain ⟨fd17, H17⟩ := c.d.def_ 17 (d := D17) rfl
  obtain ⟨fd18, H18⟩ := c.d.def_ 18 (d := D18) rfl
  obtain ⟨fd19, H19⟩ := c.d.def_ 19 (d := D19) rfl
  obtain ⟨fd20, H20⟩ := c.d.def_ 20 (d := D20) rfl
  obtain ⟨fd21, H21⟩ := c.d.def_ 21 (d := D21) rfl
  obtain ⟨fd22, H22⟩ := c.d.def_ 22 (d := D22) rfl
  obtain ⟨fd23, H23⟩ := c.d.def_ 23 (d := D23) rfl
  obtain ⟨fd24, H24⟩ := c.d.def_ 24 (d := D24) rfl
  obtain ⟨fd25, H25⟩ := c.d.def_ 25 (d := D25) rfl
  obtain ⟨fd26, H26⟩ := c.d.def_ 26 (d := D26) rfl
  obtain ⟨fd27, H27⟩ := c.d.def_ 27 (d := D27) rfl
  obtain ⟨fd28, H28⟩ := c.d.def_ 28 (d := D28) rfl
  obtain ⟨fd29, H29⟩ := c.d.def_ 29 (d := D29) rfl
  obtain ⟨fd30, H30⟩ := c.d.def_ 30 (d := D30) rfl
  obtain ⟨fd31, H31⟩ := c.d.def_ 31 (d := D31) rfl
  obtain ⟨fd32, H32⟩ := c.d.def_ 32 (d := D32) rfl
  have e := hfa.symm.trans (He.glo_ok X G (c.d.fact 50 (f := .glo "law") rfl))
  cases e
  have b := FunD.bindsA (ps := ["_law_script"]) H32 fun _ _ _ _ _ _ us hl => (match us, hl with | [_], _ => rfl)
  refine ⟨fd32, fun s v => b s [v] rfl, fun base _ _ => ?_⟩
  have M0 : ModF P w K mg base (fun n => He.ga K (Str.ofString n.nm)) Γ gl F0 gls exs 40 := by
    refine mod0 (fa := fa) (fn := fn) (tb := tb) X G S c ht rfl (List.prefix_append _ _) fun n hn => ?_
    simp only [exs, List.mem_cons, List.not_mem_nil, or_false] at hn
    rcases hn with rfl | rfl | rfl | rfl | rfl | rfl | rfl | rfl | rfl | rfl | rfl
    · exact ⟨List.mem_of_getElem? (i := 51) rfl, List.mem_of_getElem? (i := 52) rfl⟩
    · exact ⟨List.mem_of_getElem? (i := 53) rfl, List.mem_of_getElem? (i := 54) rfl⟩
    · exact ⟨List.mem_of_getElem? (i := 55) rfl, List.mem_of_getElem? (i := 56) rfl⟩
    · exact ⟨List.mem_of_getElem? (i := 57) rfl, List.mem_of_getElem? (i := 58) rfl⟩
    · exact ⟨List.mem_of_getElem? (i := 59) rfl, List.mem_of_getElem? (i := 60) rfl⟩
    · exact ⟨List.mem_of_getElem? (i := 61) rfl, List.mem_of_getElem? (i := 62) rfl⟩
    · exact ⟨List.mem_of_getElem? (i := 63) rfl, List.mem_of_getElem? (i := 64) rfl⟩
    · exact ⟨List.mem_of_getElem? (i := 65) rfl, List.mem_of_getElem? (i := 66) rfl⟩
    · exact ⟨List.mem_of_getElem? (i := 67) rfl, List.mem_of_getElem? (i := 68) rfl⟩
    · exact ⟨List.mem_of_getElem? (i := 69) rfl, List.mem_of_getElem? (i := 70) rfl⟩
    · exact ⟨List.mem_of_getElem? (i := 71) rfl, List.mem_of_getElem? (i := 72) rfl⟩
  have M1 : ModF P w K mg base (fun n => He.ga K (Str.ofString n.nm)) Γ gl F1 gls exs 41 := chain 0 (x := "shared_part") (f := He.ga K "shared_part") M0 rfl (show FnP K "shared_part" (top 15) (He.ga K "shared_part") fd0 from H0) (He.glo_ok X G (c.d.fact 18 (f := .glo "shared_part") rfl)) ok0
  have M2 : ModF P w K mg base (fun n => He.ga K (Str.ofString n.nm)) Γ gl F2 gls exs 42 := chain 1 (x := "lowest") (f := He.ga K "lowest") M1 rfl (show FnP K "lowest" (top 16) (He.ga K "lowest") fd1 from H1) (He.glo_ok X G (c.d.fact 19 (f := .glo "lowest") rfl)) ok1
  have M3 : ModF P w K mg base (fun n => He.ga K (Str.ofString n.nm)) Γ gl F3 gls exs 43 := chain 12 (x := "minus") (f := He.ga K "minus") M2 rfl (show FnP K "minus" (top 17) (He.ga K "minus") fd2 from H2) (He.glo_ok X G (c.d.fact 20 (f := .glo "minus") rfl)) ok2
  have M4 : ModF P w K mg base (fun n => He.ga K (Str.ofString n.nm)) Γ gl F4 gls exs 44 := chain 13 (x := "times") (f := He.ga K "times") M3 rfl (show FnP K "times" (top 18) (He.ga K "times") fd3 from H3) (He.glo_ok X G (c.d.fact 21 (f := .glo "times") rfl)) ok3
  have M5 : ModF P w K mg base (fun n => He.ga K (Str.ofString n.nm)) Γ gl F5 gls exs 45 := chain 14 (x := "over") (f := He.ga K "over") M4 rfl (show FnP K "over" (top 19) (He.ga K "over") fd4 from H4) (He.glo_ok X G (c.d.fact 22 (f := .glo "over") rfl)) ok4
  have M6 : ModF P w K mg base (fun n => He.ga K (Str.ofString n.nm)) Γ gl F6 gls exs 46 := chain 23 (x := "curve_of") (f := He.ga K "curve_of") M5 rfl (show FnP K "curve_of" (top 21) (He.ga K "curve_of") fd5 from H5) (He.glo_ok X G (c.d.fact 23 (f := .glo "curve_of") rfl)) ok5
  have M7 : ModF P w K mg base (fun n => He.ga K (Str.ofString n.nm)) Γ gl F7 gls exs 47 := chain 30 (x := "number_at") (f := He.ga K "number_at") M6 rfl (show FnP K "number_at" (top 22) (He.ga K "number_at") fd6 from H6) (He.glo_ok X G (c.d.fact 24 (f := .glo "number_at") rfl)) ok6
  have M8 : ModF P w K mg base (fun n => He.ga K (Str.ofString n.nm)) Γ gl F8 gls exs 48 := chain 32 (x := "lessened") (f := He.ga K "lessened") M7 rfl (show FnP K "lessened" (top 23) (He.ga K "lessened") fd7 from H7) (He.glo_ok X G (c.d.fact 25 (f := .glo "lessened") rfl)) ok7
  have M9 : ModF P w K mg base (fun n => He.ga K (Str.ofString n.nm)) Γ gl F9 gls exs 49 := chain 33 (x := "scaled") (f := He.ga K "scaled") M8 rfl (show FnP K "scaled" (top 24) (He.ga K "scaled") fd8 from H8) (He.glo_ok X G (c.d.fact 26 (f := .glo "scaled") rfl)) ok8
  have M10 : ModF P w K mg base (fun n => He.ga K (Str.ofString n.nm)) Γ gl F10 gls exs 50 := chain 41 (x := "slope_of") (f := He.ga K "slope_of") M9 rfl (show FnP K "slope_of" (top 25) (He.ga K "slope_of") fd9 from H9) (He.glo_ok X G (c.d.fact 27 (f := .glo "slope_of") rfl)) ok9
  have M11 : ModF P w K mg base (fun n => He.ga K (Str.ofString n.nm)) Γ gl F11 gls exs 51 := chain 44 (x := "divided") (f := He.ga K "divided") M10 rfl (show FnP K "divided" (top 27) (He.ga K "divided") fd10 from H10) (He.glo_ok X G (c.d.fact 28 (f := .glo "divided") rfl)) ok10
  have M12 : ModF P w K mg base (fun n => He.ga K (Str.ofString n.nm)) Γ gl F12 gls exs 52 := chain 49 (x := "with_last_one") (f := He.ga K "with_last_one") M11 rfl (show FnP K "with_last_one" (top 28) (He.ga K "with_last_one") fd11 from H11) (He.glo_ok X G (c.d.fact 29 (f := .glo "with_last_one") rfl)) ok11
  have M13 : ModF P w K mg base (fun n => He.ga K (Str.ofString n.nm)) Γ gl F13 gls exs 53 := chain 50 (x := "common_part") (f := He.ga K "common_part") M12 rfl (show FnP K "common_part" (top 29) (He.ga K "common_part") fd12 from H12) (He.glo_ok X G (c.d.fact 30 (f := .glo "common_part") rfl)) ok12
  have M14 : ModF P w K mg base (fun n => He.ga K (Str.ofString n.nm)) Γ gl F14 gls exs 54 := chain 185 (x := "ask_curve") (f := He.ga K "ask_curve") M13 rfl (show FnP K "ask_curve" (top 31) (He.ga K "ask_curve") fd13 from H13) (He.glo_ok X G (c.d.fact 31 (f := .glo "ask_curve") rfl)) ok13
  have M15 : ModF P w K mg base (fun n => He.ga K (Str.ofString n.nm)) Γ gl F15 gls exs 55 := chain 186 (x := "lone_part") (f := He.ga K "lone_part") M14 rfl (show FnP K "lone_part" (top 32) (He.ga K "lone_part") fd14 from H14) (He.glo_ok X G (c.d.fact 32 (f := .glo "lone_part") rfl)) ok14
  have M16 : ModF P w K mg base (fun n => He.ga K (Str.ofString n.nm)) Γ gl F16 gls exs 56 := chain 3 (x := "_law_pen") (f := He.ga K "_law_pen") M15 rfl (show FnP K "_law_pen" (top 34) (He.ga K "_law_pen") fd15 from H15) (He.glo_ok X G (c.d.fact 33 (f := .glo "_law_pen") rfl)) ok15
  have M17 : ModF P w K mg base (fun n => He.ga K (Str.ofString n.nm)) Γ gl F17 gls exs 57 := chain 4 (x := "_law_draw") (f := He.ga K "_law_draw") M16 rfl (show FnP K "_law_draw" (top 35) (He.ga K "_law_draw") fd16 from H16) (He.glo_ok X G (c.d.fact 34 (f := .glo "_law_draw") rfl)) ok16
  have M18 : ModF P w K mg base (fun n => He.ga K (Str.ofString n.nm)) Γ gl F18 gls exs 58 := chain 5 (x := "_law_lowest") (f := He.ga K "_law_lowest") M17 rfl (show FnP K "_law_lowest" (top 36) (He.ga K "_law_lowest") fd17 from H17) (He.glo_ok X G (c.d.fact 35 (f := .glo "_law_lowest") rfl)) ok17
  have M19 : ModF P w K mg base (fun n => He.ga K (Str.ofString n.nm)) Γ gl F19 gls exs 59 := chain 25 (x := "_law_plus") (f := He.ga K "_law_plus") M18 rfl (show FnP K "_law_plus" (top 37) (He.ga K "_law_plus") fd18 from H18) (He.glo_ok X G (c.d.fact 36 (f := .glo "_law_plus") rfl)) ok18
  have M20 : ModF P w K mg base (fun n => He.ga K (Str.ofString n.nm)) Γ gl F20 gls exs 60 := chain 35 (x := "_law_minus") (f := He.ga K "_law_minus") M19 rfl (show FnP K "_law_minus" (top 38) (He.ga K "_law_minus") fd19 from H19) (He.glo_ok X G (c.d.fact 37 (f := .glo "_law_minus") rfl)) ok19
  have M21 : ModF P w K mg base (fun n => He.ga K (Str.ofString n.nm)) Γ gl F21 gls exs 61 := chain 26 (x := "_law_times") (f := He.ga K "_law_times") M20 rfl (show FnP K "_law_times" (top 39) (He.ga K "_law_times") fd20 from H20) (He.glo_ok X G (c.d.fact 38 (f := .glo "_law_times") rfl)) ok20
  have M22 : ModF P w K mg base (fun n => He.ga K (Str.ofString n.nm)) Γ gl F22 gls exs 62 := chain 36 (x := "_law_number") (f := He.ga K "_law_number") M21 rfl (show FnP K "_law_number" (top 40) (He.ga K "_law_number") fd21 from H21) (He.glo_ok X G (c.d.fact 39 (f := .glo "_law_number") rfl)) ok21
  have M23 : ModF P w K mg base (fun n => He.ga K (Str.ofString n.nm)) Γ gl F23 gls exs 63 := chain 27 (x := "_law_at") (f := He.ga K "_law_at") M22 rfl (show FnP K "_law_at" (top 41) (He.ga K "_law_at") fd22 from H22) (He.glo_ok X G (c.d.fact 40 (f := .glo "_law_at") rfl)) ok22
  have M24 : ModF P w K mg base (fun n => He.ga K (Str.ofString n.nm)) Γ gl F24 gls exs 64 := chain 75 (x := "_law_slope_at") (f := He.ga K "_law_slope_at") M23 rfl (show FnP K "_law_slope_at" (top 42) (He.ga K "_law_slope_at") fd23 from H23) (He.glo_ok X G (c.d.fact 41 (f := .glo "_law_slope_at") rfl)) ok23
  have M25 : ModF P w K mg base (fun n => He.ga K (Str.ofString n.nm)) Γ gl F25 gls exs 65 := chain 37 (x := "_law_curve") (f := He.ga K "_law_curve") M24 rfl (show FnP K "_law_curve" (top 43) (He.ga K "_law_curve") fd24 from H24) (He.glo_ok X G (c.d.fact 42 (f := .glo "_law_curve") rfl)) ok24
  have M26 : ModF P w K mg base (fun n => He.ga K (Str.ofString n.nm)) Γ gl F26 gls exs 66 := chain 6 (x := "_law_whole") (f := He.ga K "_law_whole") M25 rfl (show FnP K "_law_whole" (top 44) (He.ga K "_law_whole") fd25 from H25) (He.glo_ok X G (c.d.fact 43 (f := .glo "_law_whole") rfl)) ok25
  have M27 : ModF P w K mg base (fun n => He.ga K (Str.ofString n.nm)) Γ gl F27 gls exs 67 := chain 7 (x := "_law_is_number") (f := He.ga K "_law_is_number") M26 rfl (show FnP K "_law_is_number" (top 45) (He.ga K "_law_is_number") fd26 from H26) (He.glo_ok X G (c.d.fact 44 (f := .glo "_law_is_number") rfl)) ok26
  have M28 : ModF P w K mg base (fun n => He.ga K (Str.ofString n.nm)) Γ gl F28 gls exs 68 := chain 28 (x := "_law_is_curve") (f := He.ga K "_law_is_curve") M27 rfl (show FnP K "_law_is_curve" (top 46) (He.ga K "_law_is_curve") fd27 from H27) (He.glo_ok X G (c.d.fact 45 (f := .glo "_law_is_curve") rfl)) ok27
  have HT407 : FndH P w K mg base (fun n => He.ga K (Str.ofString n.nm)) 69 "_law_refusal" (Γ 407) := chainH (x := "_law_refusal") (f := He.ga K "_law_refusal") M28 (show FnP K "_law_refusal" (top 47) (He.ga K "_law_refusal") fd28 from H28) (He.glo_ok X G (c.d.fact 46 (f := .glo "_law_refusal") rfl)) ok28
  have M29 : ModF P w K mg base (fun n => He.ga K (Str.ofString n.nm)) Γ gl F29 gls exs 69 := M28.up
  have M30 : ModF P w K mg base (fun n => He.ga K (Str.ofString n.nm)) Γ gl F30 gls exs 70 := chain 187 (x := "_law_product") (f := He.ga K "_law_product") M29 rfl (show FnP K "_law_product" (top 48) (He.ga K "_law_product") fd29 from H29) (He.glo_ok X G (c.d.fact 47 (f := .glo "_law_product") rfl)) ok29
  have M31 : ModF P w K mg base (fun n => He.ga K (Str.ofString n.nm)) Γ gl F31 gls exs 71 := chain 443 (x := "_law_known") (f := He.ga K "_law_known") M30 rfl (show FnP K "_law_known" (top 49) (He.ga K "_law_known") fd30 from H30) (He.glo_ok X G (c.d.fact 48 (f := .glo "_law_known") rfl)) ok30
  have M32 : ModF P w K mg base (fun n => He.ga K (Str.ofString n.nm)) Γ gl F32 gls exs 72 := chain2 411 (x := "_law_refused") (f := He.ga K "_law_refused") M31 rfl (hot1 (HT407.mono rfl)) (show FnP K "_law_refused" (top 50) (He.ga K "_law_refused") fd31 from H31) (He.glo_ok X G (c.d.fact 49 (f := .glo "_law_refused") rfl)) ok31
  exact ok_def M32 (by decide) (show FnP K "law" (top 51) (He.ga K "law") fd32 from H32) sc32 chk32 len32 fun ds g Q E h => by rw [startD_len (N := N32) (M := ns_law_k39_v5) rfl]; exact pure_law_k39_v5 rfl rfl rfl rfl rfl rfl rfl rfl rfl rfl rfl rfl h
end PK39
open PySem PySem.W PySem.Calls PyProof.Rows
theorem PySem.Challenge.cw_onecurve_k39_lone_parts_holds : PySem.Challenge.rw_onecurve_k39_lone_parts.Holds := by
  w_on; o_law
  refine HandSHeadRun.head_any (r := OpenLaw.row PySem.Challenge.rw_onecurve_k39_lone_parts) (q := view (OpenLaw.row PySem.Challenge.rw_onecurve_k39_lone_parts).prog [51]) (H := PK39.hk) (ob := PK39.ob) (M := 4000) (loose := [("shared_part" : PySem.Str), ("lowest" : PySem.Str), ("minus" : PySem.Str), ("times" : PySem.Str), ("over" : PySem.Str), ("curve_of" : PySem.Str), ("number_at" : PySem.Str), ("lessened" : PySem.Str), ("scaled" : PySem.Str), ("slope_of" : PySem.Str), ("divided" : PySem.Str), ("with_last_one" : PySem.Str), ("common_part" : PySem.Str), ("ask_curve" : PySem.Str), ("lone_part" : PySem.Str), ("_law_pen" : PySem.Str), ("_law_draw" : PySem.Str), ("_law_lowest" : PySem.Str), ("_law_plus" : PySem.Str), ("_law_minus" : PySem.Str), ("_law_times" : PySem.Str), ("_law_number" : PySem.Str), ("_law_at" : PySem.Str), ("_law_slope_at" : PySem.Str), ("_law_curve" : PySem.Str), ("_law_whole" : PySem.Str), ("_law_is_number" : PySem.Str), ("_law_is_curve" : PySem.Str), ("_law_refusal" : PySem.Str), ("_law_product" : PySem.Str), ("_law_known" : PySem.Str), ("_law_refused" : PySem.Str), ("NOUGHT" : PySem.Str), ("ONE" : PySem.Str), ("CurveError" : PySem.Str), ("NoNumber" : PySem.Str), ("NoCurve" : PySem.Str), ("NoPoints" : PySem.Str), ("TooMany" : PySem.Str), ("NoPoint" : PySem.Str), ("NoStretch" : PySem.Str), ("TooDeep" : PySem.Str), ("TooFew" : PySem.Str), ("NoText" : PySem.Str), ("NoRow" : PySem.Str)]) (d := HandSHeadRun.topDef (OpenLaw.row PySem.Challenge.rw_onecurve_k39_lone_parts).prog 51) (kwd := []) PK39.ob_eq
    (by kernel_rfl) (fun s => by kernel_rfl) PK39.run (by kernel_rfl) (by kernel_rfl) (by kernel_rfl) (by rfl) (by first | assumption | decide +kernel) (by decide +kernel) ⟨rfl, rfl, rfl, rfl, rfl, by decide +kernel⟩ ?hw ?hc
  case hw => w_witness2
  case hc =>
    refine PP.walk_P (l := PySem.Challenge.rw_onecurve_k39_lone_parts) (n := 63) (k := 73) (x := "_law_script") rfl (by decide +kernel) (by kernel_rfl) ⟨rfl, by decide, by decide⟩ (by kernel_rfl) ?F
    intro w mg fa h Y G hmg0 S
    obtain ⟨K, KX, c⟩ := Y
    have hmg : mg ("law" : PySem.Str) = some (.ref fa) := by
      have e : (HandSHeadRun.topDef (OpenLaw.row PySem.Challenge.rw_onecurve_k39_lone_parts).prog 51).name = ("law" : PySem.Str) := by kernel_rfl
      rw [← e]
      exact hmg0
    obtain ⟨fd, hb, hF⟩ := PK39.facts (P := (PySem.Challenge.rw_onecurve_k39_lone_parts).prog) (w := w) rfl KX G S hmg c
    exact ⟨K, fd, _, KX, hb, fun H a ns hl hbits hO hS => PP.law_end hl hbits hO (fun p hp => by simp [PP.TabL] at hp) hS, hF⟩

