import PyProof.Rows.All
import Wide.All
import OpenK.AllK
import Wide.FinOn
import Lean
import PySem.Challenge.RW_nu0239_01
set_option maxRecDepth 100000
open PySem PySem.W PyProof.Rows
set_option linter.all false
set_option linter.unusedVariables false
set_option linter.unusedSectionVars false
set_option linter.unusedSimpArgs false
set_option genInjectivity false
set_option genSizeOfSpec false
set_option Elab.async false
set_option genCtorIdx false
set_option bootstrap.genMatcherCode false
namespace Mine
section
noncomputable section

set_option genCtorIdx true in
inductive Loc where
  | buf | row | inf (i : Nat) | pot | cel | held | pl (i : Nat) | stp (i : Nat)
set_option genCtorIdx true in
inductive U where
  | no | b (x : Bool) | i (x : Int) | s (k : Nat) | f (k : Nat) | lo (l : Loc) | rg (a b c : Int)
  | tu (l : List U) | fl (l : List U) | fd (ks : List Int) (l : List U) | fo (c : Nat) (l : List U)
  | ol (l : List U) | od (ks : List Int) (l : List U) | ok (l : List (List Int)) | oi (c : Nat) (l : List U) | un
noncomputable def U.pl : U → Bool
  | .ol _ | .od _ _ | .ok _ | .oi _ _ | .un => false
  | _ => true
set_option genCtorIdx true in
inductive Cell where
  | L (l : List U) | D (o : Obj) (ks : List Int) (l : List U) | S (l : List (List Int)) | I (c : Nat) (dd : Addr) (l : List U)
noncomputable abbrev GM := Addr → Option Obj
noncomputable abbrev HH := Addr → Option Cell
noncomputable abbrev LM := Loc → Option Addr
noncomputable def HH.set (H : HH) (a : Addr) (c : Cell) : HH := fun b => if b = a then some c else H b
noncomputable def HH.del (H : HH) (a : Addr) : HH := fun b => if b = a then none else H b
theorem HH.same {H : HH} {a : Addr} {c : Cell} : H.set a c a = some c := if_pos rfl
theorem HH.ne {H : HH} {a b : Addr} {c : Cell} (h : b ≠ a) : H.set a c b = H b := if_neg h
theorem HH.dsame {H : HH} {a : Addr} : H.del a a = none := if_pos rfl
theorem HH.dne {H : HH} {a b : Addr} (h : b ≠ a) : H.del a b = H b := if_neg h
theorem HH.inv {H : HH} {a b : Addr} {c x : Cell} (h : H.set a c b = some x) : b = a ∧ x = c ∨ b ≠ a ∧ H b = some x := by
  unfold HH.set at h; split at h
  · exact .inl ⟨‹_›, (Option.some.inj h).symm⟩
  · exact .inr ⟨‹_›, h⟩
theorem HH.dinv {H : HH} {a b : Addr} {x : Cell} (h : H.del a b = some x) : b ≠ a ∧ H b = some x := by
  unfold HH.del at h; split at h
  · cases h
  · exact ⟨‹_›, h⟩

structure Inf where
  g : Int
  c : Int
  m : Int
structure St where
  ph : Nat
  cells : List Int
  ps : Int
  pp : Int
  held : List Int
  hob : Obj
  row : List Nat
  inf : Nat → Inf
  nx : Nat
  pls : Nat → List Int × Int
  np : Nat
  ns : Nat

noncomputable def sTab : List String := ["", "zwj", "hidden", "zwnj", "glyph", "class", "cover", "context", "chain", "ligature", "single", "reverse", "multiple", "alternate", "base", "mark", "liga"]
noncomputable def sT (k : Nat) : Str := Str.ofString (sTab.getD k "")
noncomputable def aTab : List String := ["glyphs", "back", "inside", "ahead", "actions", "form", "is_chained", "sets", "coverage", "classes", "kind", "flag", "mark_set", "tables", "buffer", "gdef", "lookups", "lookup", "mask", "depth", "steps", "code", "glyph", "cluster", "is_unsafe", "lig_id", "lig_part", "lig_count", "split_id", "x_advance", "y_advance", "x_offset", "y_offset", "parent", "bond", "row", "is_backward", "last_lig", "last_split", "attach", "points", "carets", "end", "mapping", "tag", "scripts", "features",
  "", "", "", "index", "has", "told", "rules", "used_classes", "copied", "glyphs", "clusters", "next_lig", "next_split", "class_of", "glyph_class", "attach_class", "is_in_set"]
noncomputable def aN (k : Nat) : Str := Str.ofString (aTab.getD k "")
noncomputable def cF : List (Nat × List Nat) := [(2, [0]), (7, [1, 2, 3, 4]), (8, [5, 6, 7, 8, 9]), (18, [10, 11, 12, 13]), (19, [14, 15, 16, 17, 18, 19, 20]), (53, [21, 22, 23, 18, 24, 25, 26, 27, 28, 10, 29, 30, 31, 32, 33, 34]), (54, [35, 36, 37, 38]),
  (63, [9]), (68, [9, 39, 7, 40, 41]), (75, [7]), (87, [35, 42]), (97, [43, 1, 3]), (100, [43]), (101, [43]), (102, [43]), (114, [44, 16]), (115, [45, 46, 16])]
noncomputable def lkN {α : Type} (c : Nat) : List (Nat × α) → Option α
  | [] => none
  | (k, x) :: r => bif Nat.beq k c then some x else lkN c r
noncomputable def cN (c : Nat) : List Str := match lkN c cF with
  | some l => l.map aN
  | none => []
structure Cx where
  prog : Program
  w : World
  h0 : Heap
  mg : Str → Option Value
  mb : Str → Option Value
  G0 : GM
  fv : Nat → Value
  ca : Nat → Addr
  g : h0.Ns mainGlobals mg
  b : h0.Ns builtinsNs mb
  nolimit : h0.NoLimit
  sysm : ∃ o, h0.get? sysModules = some o

noncomputable abbrev listO (ws : Array Value) (n : Nat) : Obj := { cls := .type "list", data := .seq ws n }
noncomputable abbrev tupO (ws : Array Value) (n : Nat) : Obj := { cls := .type "tuple", data := .seq ws n }
structure IsInst (o : Obj) (C d : Addr) : Prop where
  cls : o.cls = .ref C
  dict : o.dict = some d
  data : ∀ c, o.data ≠ .cls c
structure Fields (o : Obj) (ns : List Str) (ws : List Value) (es : Array DictEntry) (n : Nat) : Prop where
  data : o.data = .dict es n
  sk : StrKeys es
  uk : UniqKeys es
  len : ns.length = ws.length
  find : ∀ x, nsFind es x = (ns.zip ws).lookup x

inductive SqR (G : GM) (mk : Array Value → Nat → Obj) (n : Nat) (P : List Value → Prop) : Value → Prop
  | mk (a : Addr) (ws : Array Value) (m : Nat) (g : G a = some (mk ws m)) (r : P ws.toList) (hl : n ≤ sizeLine) : SqR G mk n P (.ref a)
inductive DcO (cx : Cx) (o : Obj) (ks : List Int) (n : Nat) (P : List Value → Prop) : Prop
  | mk (ws : List Value) (hk : ks.length = ws.length) (hd : o.IsDictOf (intKind cx.prog cx.w) (ks.zip ws)) (r : P ws) (hl : n ≤ sizeLine) : DcO cx o ks n P
inductive DcR (cx : Cx) (G : GM) (ks : List Int) (n : Nat) (P : List Value → Prop) : Value → Prop
  | mk (a : Addr) (o : Obj) (g : G a = some o) (ne : (a == sysModules) = false) (d : DcO cx o ks n P) : DcR cx G ks n P (.ref a)
inductive InO (cx : Cx) (G : GM) (c n : Nat) (P : List Value → Prop) (a d : Addr) : Prop
  | mk (o' o : Obj) (ws : List Value) (es : Array DictEntry) (m : Nat) (ne : a ≠ d) (g : G a = some o') (hi : IsInst o' (cx.ca c) d) (gd : G d = some o) (hf : Fields o ((cN c).take n) ws es m) (r : P ws) : InO cx G c n P a d
inductive InR (cx : Cx) (G : GM) (c n : Nat) (P : List Value → Prop) : Value → Prop
  | mk (a d : Addr) (x : InO cx G c n P a d) : InR cx G c n P (.ref a)
inductive RgR (G : GM) (a b c : Int) : Value → Prop
  | mk (r : Addr) (t u v : Tok) (g : G r = some { cls := .type "range", dict := none, data := .fields #[.int a t, .int b u, .int c v], slots := #[] }) : RgR G a b c (.ref r)
inductive LoR (μ : LM) (l : Loc) : Value → Prop
  | mk (a : Addr) (m : μ l = some a) : LoR μ l (.ref a)
inductive IntR (x : Int) : Value → Prop
  | mk (t : Tok) : IntR x (.int x t)
inductive StrR (x : Str) : Value → Prop
  | mk (t : Tok) : StrR x (.str x t)
inductive ConsR {α : Type} (P : Value → Prop) (Q : List Value → Prop) : List Value → Prop
  | mk (w : Value) (ws : List Value) (p : P w) (q : Q ws) : ConsR P Q (w :: ws)
mutual
noncomputable def PR (cx : Cx) (G : GM) (μ : LM) : U → Value → Prop
  | .no => fun w => w = .none
  | .b x => fun w => w = .bool x
  | .i x => IntR x
  | .s k => StrR (sT k)
  | .f k => fun w => w = cx.fv k
  | .lo l => LoR μ l
  | .rg a b c => RgR G a b c
  | .tu l => SqR G tupO l.length (PRs cx G μ l)
  | .fl l => SqR G listO l.length (PRs cx G μ l)
  | .fd ks l => DcR cx G ks l.length (PRs cx G μ l)
  | .fo c l => InR cx G c l.length (PRs cx G μ l)
  | .ol _ => fun _ => False
  | .od _ _ => fun _ => False
  | .ok _ => fun _ => False
  | .oi _ _ => fun _ => False
  | .un => fun _ => False
noncomputable def PRs (cx : Cx) (G : GM) (μ : LM) : List U → List Value → Prop
  | [] => fun ws => ws = []
  | v :: vs => ConsR (α := Unit) (PR cx G μ v) (PRs cx G μ vs)
end
section
variable {cx : Cx} {G G' : GM} {μ μ' : LM} (hg : ∀ b o, G b = some o → G' b = some o) (hm : ∀ l a, μ l = some a → μ' l = some a)
include hg
theorem SqR.mono {mk n} {P P' : List Value → Prop} (h : ∀ ws, P ws → P' ws) {w} (x : SqR G mk n P w) : SqR G' mk n P' w :=
  SqR.rec (fun a ws m g r hl => .mk a ws m (hg _ _ g) (h _ r) hl) x
omit hg in
theorem DcO.mono {o ks n} {P P' : List Value → Prop} (h : ∀ ws, P ws → P' ws) (x : DcO cx o ks n P) : DcO cx o ks n P' :=
  DcO.rec (fun ws hk hd r hl => .mk ws hk hd (h _ r) hl) x
theorem DcR.mono {ks n} {P P' : List Value → Prop} (h : ∀ ws, P ws → P' ws) {w} (x : DcR cx G ks n P w) : DcR cx G' ks n P' w :=
  DcR.rec (fun a o g ne d => .mk a o (hg _ _ g) ne (d.mono h)) x
theorem InR.mono {c n} {P P' : List Value → Prop} (h : ∀ ws, P ws → P' ws) {w} (x : InR cx G c n P w) : InR cx G' c n P' w :=
  InR.rec (fun a d x => .mk a d (InO.rec (fun o' o ws es m ne g hi gd hf r => .mk o' o ws es m ne (hg _ _ g) hi (hg _ _ gd) hf (h _ r)) x)) x
theorem RgR.mono {a b c w} (x : RgR G a b c w) : RgR G' a b c w := RgR.rec (fun r t u v g => .mk r t u v (hg _ _ g)) x
include hm
mutual
theorem PR.mono : ∀ (v : U) (w : Value), PR cx G μ v w → PR cx G' μ' v w
  | .no, _, h => h
  | .b _, _, h => h
  | .i _, _, h => h
  | .s _, _, h => h
  | .f _, _, h => h
  | .lo _, _, h => LoR.rec (fun a m => LoR.mk a (hm _ _ m)) h
  | .rg _ _ _, _, h => RgR.mono hg h
  | .tu l, _, h => SqR.mono hg (PRs.mono l) h
  | .fl l, _, h => SqR.mono hg (PRs.mono l) h
  | .fd _ l, _, h => DcR.mono hg (PRs.mono l) h
  | .fo _ l, _, h => InR.mono hg (PRs.mono l) h
theorem PRs.mono : ∀ (vs : List U) (ws : List Value), PRs cx G μ vs ws → PRs cx G' μ' vs ws
  | [], _, h => h
  | v :: vs, _, h => ConsR.rec (fun w ws p q => ConsR.mk w ws (PR.mono v w p) (PRs.mono vs ws q)) h
end
end
end

end
section
noncomputable section
inductive Own (H : HH) (b : Addr) : Prop
  | c {x} (e : H b = some x)
  | k {x c us} (e : H x = some (.I c b us))
inductive CellR (cx : Cx) (G : GM) (μ : LM) (h : Heap) (a : Addr) : Cell → Prop
  | L (ws : Array Value) (n : Nat) (us : List U) (g : h.get? a = some (listO ws n)) (r : PRs cx G μ us ws.toList) (hl : us.length ≤ sizeLine) : CellR cx G μ h a (.L us)
  | D (o : Obj) (ks : List Int) (us : List U) (g : h.get? a = some o) (d : DcO cx o ks us.length (PRs cx G μ us)) : CellR cx G μ h a (.D o ks us)
  | S (xs : List (List Int × Addr × Value)) (g : h.DictOfH (tupleKind (intKind cx.prog cx.w)) a xs) (q : ∀ p ∈ xs, G p.2.1 ≠ none) : CellR cx G μ h a (.S (xs.map (·.1)))
  | I (o' o : Obj) (ws : List Value) (es : Array DictEntry) (m : Nat) (c : Nat) (d : Addr) (us : List U) (ne : a ≠ d) (g : h.get? a = some o') (hi : IsInst o' (cx.ca c) d) (gd : h.get? d = some o) (hf : Fields o ((cN c).take us.length) ws es m)
    (r : PRs cx G μ us ws) : CellR cx G μ h a (.I c d us)
set_option genCtorIdx true in
inductive FV where
  | ai | ab | v (u : U)
inductive FVR : FV → U → Prop
  | ai {x} : FVR .ai (.i x)
  | ab {x} : FVR .ab (.b x)
  | v {u} : FVR (.v u) u
inductive F2 {α β : Type} (R : α → β → Prop) : List α → List β → Prop
  | nil : F2 R [] []
  | cons {a b l m} (h : R a b) (t : F2 R l m) : F2 R (a :: l) (b :: m)
noncomputable abbrev cBuf : Nat := 54
noncomputable abbrev cInf : Nat := 53
noncomputable abbrev cPl : Nat := 87
noncomputable def infU (l : List Nat) : List U := l.map fun i => .lo (.inf i)
noncomputable def lfI (x : Inf) : List FV := [.ai, .v (.i x.g), .v (.i x.c), .v (.i x.m), .ab, .ai, .ai, .ai, .ai, .v (.s 0), .ai, .ai, .ai, .ai, .ai, .v (.s 0)]
noncomputable def lfP (x : List Int × Int) : List FV := [.v (.fl (x.1.map .i)), .v (.i x.2)]
noncomputable def lf (σ : St) : Loc → Option (Nat × List FV)
  | .buf => some (cBuf, [.v (.lo .row), .ab, .ai, .ai])
  | .inf i => some (cInf, lfI (σ.inf i))
  | .pl i => some (cPl, lfP (σ.pls i))
  | _ => none
inductive InsC (p : Nat × List FV) : Cell → Prop
  | mk (d : Addr) (us : List U) (f : F2 FVR p.2 us) : InsC p (.I p.1 d us)
noncomputable def LocL (σ : St) : Loc → Cell → Prop
  | .row => fun c => c = .L (infU σ.row) ∧ σ.row.length ≤ 1000
  | .pot => fun c => c = .L [.lo .cel, .i σ.ps, .i σ.pp]
  | .cel => fun c => c = .L (σ.cells.map .i)
  | .held => fun c => c = .D σ.hob σ.held (σ.held.map fun _ => .b true)
  | .stp _ => fun c => ∃ x, c = .L [.i x]
  | _ => fun _ => False
noncomputable def LocOk (σ : St) (l : Loc) (c : Cell) : Prop := match lf σ l with
  | some p => InsC p c
  | none => LocL σ l c
noncomputable def Born (σ : St) : Loc → Prop
  | .pot | .cel => 1 ≤ σ.ph
  | .row => 2 ≤ σ.ph
  | .buf => 3 ≤ σ.ph
  | .held => 4 ≤ σ.ph
  | .inf i => i < σ.nx
  | .pl i => i < σ.np
  | .stp i => i < σ.ns
structure Rep (cx : Cx) (G : GM) (μ : LM) (H : HH) (σ : St) (h : Heap) : Prop where
  base : ∀ b o, cx.h0.get? b = some o → h.get? b = some o
  low : ∀ b, Own H b → cx.h0.get? b = none
  g0 : ∀ b o, cx.G0 b = some o → G b = some o
  gk : ∀ b o, G b = some o → h.get? b = some o
  gd : ∀ b o, G b = some o → ¬ Own H b
  cell : ∀ a c, H a = some c → CellR cx G μ h a c
  sep : ∀ x c d us, H x = some (.I c d us) → H d = none
  sep2 : ∀ x c d us x' c' us', H x = some (.I c d us) → H x' = some (.I c' d us') → x' = x
  loc : ∀ l a, μ l = some a → ∃ c, H a = some c ∧ LocOk σ l c
  inj : ∀ l l' a, μ l = some a → μ l' = some a → l = l'
  born : ∀ l a, μ l = some a → Born σ l
structure Wd (cx : Cx) where
  s : Shared
  G : GM
  μ : LM
  H : HH
  σ : St
  R : Rep cx G μ H σ s.heap
structure Priv {cx : Cx} (W : Wd cx) (b : Addr) (o : Obj) : Prop where
  at_ : W.s.heap.get? b = some o
  ow : ¬ Own W.H b
  ng : W.G b = none
  n0 : cx.h0.get? b = none
noncomputable abbrev PF : Addr → Prop := fun _ => False
structure Le {cx : Cx} (P : Addr → Prop) (W W' : Wd cx) : Prop where
  g : ∀ b o, W.G b = some o → W'.G b = some o
  m : ∀ l a, W.μ l = some a → W'.μ l = some a
  ow : ∀ a c, W.H a = some c → (∀ l, W.μ l ≠ some a) → W'.H a = some c ∧ ∀ l, W'.μ l ≠ some a
  pv : ∀ b o, Priv W b o → ¬ P b → Priv W' b o
  gens : W'.s.gens = W.s.gens
  os : W'.s.os = W.s.os
section
variable {cx : Cx} {P P' : Addr → Prop} {W W1 W2 : Wd cx}
theorem Le.refl : Le P W W := ⟨fun _ _ e => e, fun _ _ e => e, fun _ _ e n => ⟨e, n⟩, fun _ _ p _ => p, rfl, rfl⟩
theorem Le.trans (x : Le P W W1) (y : Le P W1 W2) : Le P W W2 :=
  ⟨fun b o e => y.g b o (x.g b o e), fun b o e => y.m b o (x.m b o e), fun a c e n => y.ow a c (x.ow a c e n).1 (x.ow a c e n).2, fun b o p n => y.pv b o (x.pv b o p n) n, y.gens.trans x.gens, y.os.trans x.os⟩
theorem Le.weaken (x : Le P W W1) (h : ∀ b o, Priv W b o → P b → P' b) : Le P' W W1 :=
  ⟨x.g, x.m, x.ow, fun b o p n => x.pv b o p fun q => n (h b o p q), x.gens, x.os⟩
theorem Le.pf (x : Le PF W W1) : Le P W W1 := x.weaken fun _ _ _ => False.elim
theorem CellR.alive {G : GM} {μ : LM} {h : Heap} {a : Addr} {c : Cell} (x : CellR cx G μ h a c) : h.get? a ≠ none := fun q =>
  CellR.rec (fun _ _ _ g _ _ => nomatch g.symm.trans q) (fun _ _ _ g _ => nomatch g.symm.trans q) (fun xs g _ => let ⟨_, _, _, e, _⟩ := g; nomatch e.symm.trans q) (fun _ _ _ _ _ _ _ _ _ g _ _ _ _ => nomatch g.symm.trans q) x
noncomputable def kOf : Cell → Option Addr
  | .I _ d _ => some d
  | _ => none
theorem CellR.aliveK {G : GM} {μ : LM} {h : Heap} {a : Addr} {c : Cell} (x : CellR cx G μ h a c) : ∀ d, kOf c = some d → h.get? d ≠ none :=
  CellR.rec (fun _ _ _ _ _ _ _ e => nomatch e) (fun _ _ _ _ _ _ e => nomatch e) (fun _ _ _ _ e => nomatch e) (fun _ _ _ _ _ _ _ _ _ _ _ gd _ _ d e q => nomatch gd.symm.trans ((congrArg h.get? (Option.some.inj e)).trans q)) x
theorem Own.alive {G : GM} {μ : LM} {H : HH} {σ : St} {h : Heap} (R : Rep cx G μ H σ h) {b : Addr} (x : Own H b) : h.get? b ≠ none :=
  Own.rec (fun {c} e => (R.cell _ _ e).alive) (fun e => (R.cell _ _ e).aliveK b rfl) x
theorem dead_size (h : Heap) : h.get? h.objs.size = none := by
  cases q : h.get? h.objs.size with
  | none => rfl
  | some x => exact absurd (Heap.lt_size q) (Nat.lt_irrefl _)
theorem CellR.keep {G G' : GM} {μ μ' : LM} {h h' : Heap} {a : Addr} {c : Cell} (hg : ∀ b o, G b = some o → G' b = some o) (hm : ∀ l a, μ l = some a → μ' l = some a) (g0 : ∀ b o, G b = some o → h.get? b = some o) (gk : ∀ b o, G b = some o → h'.get? b = some o)
    (x : CellR cx G μ h a c) : (∀ o, h.get? a = some o → h'.get? a = some o) → (∀ d o, kOf c = some d → h.get? d = some o → h'.get? d = some o) → CellR cx G' μ' h' a c :=
  CellR.rec (fun ws n us g r hl ka kd => .L ws n us (ka _ g) (PRs.mono hg hm _ _ r) hl) (fun o ks us g d ka kd => .D o ks us (ka _ g) (d.mono (PRs.mono hg hm _)))
    (fun xs g q ka kd => .S xs (let ⟨o, es, ep, h1, h2, h3, h4, h5, h6⟩ := g; ⟨o, es, ep, ka _ h1, h2, h3, h4, fun p hp => by
      obtain ⟨o', items, n, q1, q2⟩ := h5 p hp
      cases e : G p.2.1 with
      | none => exact absurd e (q p hp)
      | some og => exact ⟨o', items, n, by rw [gk _ _ e]; exact (g0 _ _ e).symm.trans q1, q2⟩, h6⟩) fun p hp e => by
        cases z : G p.2.1 with
        | none => exact q p hp z
        | some og => exact nomatch (hg _ _ z).symm.trans e)
    (fun o' o ws es m c d us ne g hi gd hf r ka kd => .I o' o ws es m c d us ne (ka _ g) hi (kd _ _ rfl gd) hf (PRs.mono hg hm _ _ r)) x
theorem Own.ofK {H : HH} {a d : Addr} {c : Cell} (e : H a = some c) (q : kOf c = some d) : Own H d := by
  cases c with
  | I c d' us => exact .k ((Option.some.inj q) ▸ e)
  | _ => exact nomatch q
theorem Rep.step {G : GM} {μ : LM} {H : HH} {σ : St} {h h' : Heap} (R : Rep cx G μ H σ h) (k : ∀ b o, (cx.h0.get? b ≠ none ∨ G b ≠ none ∨ Own H b) → h.get? b = some o → h'.get? b = some o) : Rep cx G μ H σ h' :=
  { R with
    base := fun b o e => k b o (.inl fun q => nomatch e.symm.trans q) (R.base b o e)
    gk := fun b o e => k b o (.inr (.inl fun q => nomatch e.symm.trans q)) (R.gk b o e)
    cell := fun a c e => (R.cell a c e).keep (fun _ _ e => e) (fun _ _ e => e) R.gk (fun b o q => k b o (.inr (.inl fun z => nomatch q.symm.trans z)) (R.gk b o q)) (fun o => k a o (.inr (.inr (.c e)))) fun d o q => k d o (.inr (.inr (Own.ofK e q))) }
noncomputable def Wd.to (W : Wd cx) (s' : Shared) (k : ∀ b o, (cx.h0.get? b ≠ none ∨ W.G b ≠ none ∨ Own W.H b) → W.s.heap.get? b = some o → s'.heap.get? b = some o) : Wd cx := ⟨s', W.G, W.μ, W.H, W.σ, W.R.step k⟩
theorem Le.to {s' : Shared} (k : ∀ b o, ¬ P b → W.s.heap.get? b = some o → s'.heap.get? b = some o) (k' : ∀ b o, (cx.h0.get? b ≠ none ∨ W.G b ≠ none ∨ Own W.H b) → W.s.heap.get? b = some o → s'.heap.get? b = some o) (hg : s'.gens = W.s.gens) (ho : s'.os = W.s.os) : Le P W (W.to s' k') :=
  ⟨fun _ _ e => e, fun _ _ e => e, fun _ _ e n => ⟨e, n⟩, fun b o p n => ⟨k b o n p.1, p.2, p.3, p.4⟩, hg, ho⟩
end
end

end
section
noncomputable section
set_option genCtorIdx true in
inductive Bop where
  | add | sub | mul | mod | fdiv | and | pow
set_option genCtorIdx true in
inductive Cop where
  | eq | ne | lt | le | gt | ge | isin | notin
set_option genCtorIdx true in
inductive Pt where
  | n (i : Nat) | t (l : List Nat)
set_option genCtorIdx true in
inductive Bi where
  | len | int | abs | min1 | min2 | max2 | sorted | list | tuple | dict | range1 | range2 | range3 | all | any | isinst
inductive RE where
  | v (i : Nat) | k (u : U) | g (j : Nat) | at (e : RE) (n : Nat) | bin (o : Bop) (l r : RE) | neg (e : RE)
  | cmp (o : Cop) (l r : RE) | em (ne tu : Bool) (e : RE) | isn (ne : Bool) (e : RE) | c2 (l : RE) (o : Cop) (m : RE) (p : Cop) (r : RE)
  | not (e : RE) | and (a b : RE) | or (a b : RE) | ite (t a b : RE)
  | nil | cons (e es : RE) | tup (es : RE) | lst (es : RE) | dct (es : RE) | sub (e i : RE) | cut (e lo hi : RE)
  | call (f : Nat) (es : RE) | cv (i : Nat) (es : RE) | mth (e : RE) (n : Nat) (es : RE) | get (e a b : RE) | bi (w : Bi) (es : RE)
  | comp (fr : List (Option Nat)) (p : Pt) (src cond elt : RE) | mkpot (a b c : RE) | mkstp
inductive RS where
  | skip | ret (e : RE) | cont | asg (i : Nat) (e : RE) (k : RS) | asgT (l : List Nat) (e : RE) (k : RS) | seta (o : RE) (n : Nat) (e : RE) (k : RS) | seti (o i e : RE) (k : RS) | setc (o lo hi e : RE) (k : RS)
  | ite (t : RE) (b o k : RS) | ex (e : RE) (k : RS) | wh (t : RE) (b k : RS) | for (p : Pt) (e : RE) (b k : RS)
  | newL (i : Nat) (es : RE) (k : RS) | newD (i : Nat) (k : RS) | newS (i : Nat) (k : RS) | newC (i : Nat) (e : RE) (k : RS) | newI (i c : Nat) (es : RE) (k : RS) | newH (i : Nat) (e : RE) (k : RS)
  | app (i : Nat) (e : RE) (k : RS) | ext (i : Nat) (e : RE) (k : RS) | put (i : Nat) (a b : RE) (k : RS) | putS (i : Nat) (a : RE) (k : RS) | seto (i n : Nat) (e : RE) (k : RS) | frz (i : Nat) (k : RS) | adr (i : Nat) (k : RS)
noncomputable abbrev Os := List U

theorem nos {α : Type} {x : α} {C : Prop} (h : none = some x) : C := nomatch h
theorem fot {C : Prop} (h : false = true) : C := nomatch h
noncomputable def ifB (c : Bool) (P N : Prop) : Prop := match c with | true => P | false => N
noncomputable def hz : Prop := (fun (_ : Expr → Env → Sem Value) => False) PySem.eval
noncomputable def gu0 (c : Bool) (X : Prop) : Prop := match c with | true => X | false => False
noncomputable def guB (c : Bool) (X : Prop) : Prop := match c with | true => X | false => hz
theorem ifB.mk {c : Bool} {P N : Prop} (p : c = true → P) (n : c = false → N) : ifB c P N := by cases c; exact n rfl; exact p rfl
theorem ifB.d {c : Prop} {_ : Decidable c} {P N : Prop} (p : c → P) (n : ¬ c → N) : ifB (decide c) P N := ifB.mk (fun h => p (of_decide_eq_true h)) fun h => n (of_decide_eq_false h)

noncomputable def St.setI (σ : St) (i : Nat) (x : Inf) : St := { σ with inf := fun j => if j = i then x else σ.inf j }
noncomputable def St.setP (σ : St) (i : Nat) (x : List Int × Int) : St := { σ with pls := fun j => if j = i then x else σ.pls j }
noncomputable def look {α : Type} (n : Nat) : List Nat → List α → Option α
  | m :: ns, u :: us => bif Nat.beq n m then some u else look n ns us
  | _, _ => none
noncomputable def fld {α : Type} (c n : Nat) (l : List α) : Option α := match lkN c cF with | some ns => look n ns l | none => none
noncomputable def fvQ (Q : U → Prop) : FV → Prop
  | .ai => ∀ x, Q (.i x)
  | .ab => ∀ b, Q (.b b)
  | .v u => Q u
noncomputable def oQ {α : Type} (Q : α → Prop) : Option α → Prop
  | some x => Q x
  | none => hz
noncomputable def glV : List U := [.i 2, .i 1, .i 16, .i 2, .i 4, .i 8, .tu [.s 1, .s 2], .tu [.s 1, .s 3, .s 2], .tu [.s 7, .s 8], .i 1, .i 4, .i 0, .i 1, .i 3, .i 6, .i 256, .i 64, .f 1000002, .f 109]
noncomputable def isF : U → Bool
  | .f _ => true
  | _ => false
noncomputable def nfQ (Q : U → Prop) (z : U) : Prop := guB (!isF z) (Q z)
noncomputable def atU (σ : St) (n : Nat) (Q : U → Prop) : U → Prop
  | .fo c l => oQ (nfQ Q) (fld c n l)
  | .oi c l => oQ (nfQ Q) (fld c n l)
  | .lo l => match lf σ l with | some (c, fs) => oQ (fvQ Q) (fld c n fs) | none => False
  | _ => False
noncomputable def onI (f : Int → Prop) : U → Prop
  | .i a => f a
  | _ => hz
inductive OnI (f : Int → Prop) : U → Prop
  | mk (a : Int) (h : f a) : OnI f (.i a)
theorem onI.inv {f : Int → Prop} {u : U} (h : onI f u) : OnI f u := by
  cases u with
  | i a => exact .mk a h
  | _ => exact False.elim h
noncomputable def intU (u v : U) (f : Int → Int → Prop) : Prop := onI (fun a => onI (f a) v) u
noncomputable def chkV (u : U) (X : Prop) : FV → Prop
  | .ai => onI (fun _ => X) u
  | .ab => (match u with | .b _ => X | _ => False)
  | .v z => (match z with | .s 0 => (match u with | .s 0 => X | _ => False) | _ => False)
noncomputable def gen (fs : List FV) (p : Nat) (u : U) (X : Prop) : Prop := oQ (chkV u X) fs[p]?
noncomputable def stI (σ : St) (fs : List FV) (i p : Nat) (u : U) (Q : St → Prop) : Prop := match p with
  | 1 => onI (fun x => Q (σ.setI i { σ.inf i with g := x })) u
  | 2 => onI (fun x => Q (σ.setI i { σ.inf i with c := x })) u
  | 3 => onI (fun x => Q (σ.setI i { σ.inf i with m := x })) u
  | p => gen fs p u (Q σ)
noncomputable def stP (σ : St) (i p : Nat) (u : U) (Q : St → Prop) : Prop := match p with
  | 0 => (match u with | .fl l => ∃ is : List Int, l = is.map .i ∧ Q (σ.setP i (is, (σ.pls i).2)) | _ => False)
  | 1 => onI (fun x => Q (σ.setP i ((σ.pls i).1, x))) u
  | _ => False
noncomputable def stX (σ : St) (fs : List FV) (p : Nat) (u : U) (Q : St → Prop) : Loc → Prop
  | .inf i => stI σ fs i p u Q
  | .pl i => stP σ i p u Q
  | _ => gen fs p u (Q σ)
noncomputable def stU (σ : St) (n : Nat) (u : U) (Q : St → Prop) (l : Loc) : Prop := match lf σ l with
  | some (c, fs) => oQ (fun p => stX σ fs p u Q l) (fld c n [0, 1, 2, 3, 4, 5, 6, 7, 8, 9, 10, 11, 12, 13, 14, 15])
  | none => False
noncomputable def mxL : Nat := 100000
noncomputable def addU (Q : U → Prop) : U → U → Prop
  | .i a, .i b => Q (.i (a + b))
  | .fl l, .fl m => l.length + m.length ≤ mxL ∧ Q (.fl (l ++ m))
  | .tu l, .tu m => l.length + m.length ≤ mxL ∧ Q (.tu (l ++ m))
  | _, _ => hz
noncomputable def binU (o : Bop) (u v : U) (Q : U → Prop) : Prop := match o with
  | .add => addU Q u v
  | .sub => intU u v fun a b => Q (.i (a - b))
  | .mul => intU u v fun a b => IntMulOk a b ∧ Q (.i (a * b))
  | .mod => intU u v fun a b => b ≠ 0 ∧ Q (.i (a.fmod b))
  | .fdiv => intU u v fun a b => (b ≠ 0 ∧ Builtin.divisionGoesByPylong a b = false) ∧ Q (.i (a.fdiv b))
  | .and => intU u v fun a b => Q (.i (Builtin.bitAnd a b))
  | .pow => intU u v fun a b => (0 ≤ b ∧ b ≤ 1000000 ∧ a.natAbs < 2 ^ 64) ∧ Q (.i (a ^ b.toNat))
noncomputable def Dt : Nat → U → Prop
  | _, .i _ => True
  | _, .s _ => True
  | _, .b _ => True
  | _, .no => True
  | n + 1, .tu l => ∀ x ∈ l, Dt n x
  | n + 1, .fl l => ∀ x ∈ l, Dt n x
  | _, _ => False
inductive EqT (l m : List U) (P N : Prop) : Prop
  | same (n : Nat) (e : l = m) (d : ∀ x ∈ l, Dt n x) (hn : n ≤ 500) (p : P)
  | two (is js : List Int) (e1 : l = is.map .i) (e2 : m = js.map .i) (p : is = js → P) (n : ¬ is = js → N)
noncomputable def eqU (P N : Prop) : U → U → Prop
  | .i a, .i b => ifB (decide (a = b)) P N
  | .s a, .s b => gu0 (Nat.blt a 17 && Nat.blt b 17) (ifB (Nat.beq a b) P N)
  | .tu l, .tu m => EqT l m P N
  | .fl l, .fl m => EqT l m P N
  | _, _ => hz
noncomputable def memS (x : Nat) : List U → Option Bool
  | [] => some false
  | .s y :: l => bif Nat.blt x 17 && Nat.blt y 17 then (memS x l).map fun c => Nat.beq x y || c else none
  | _ => none
noncomputable def inU (σ : St) (P N : Prop) : U → U → Prop
  | .i a, .lo .held => (a ∈ σ.held → P) ∧ (¬ a ∈ σ.held → N)
  | .i a, .fd ks _ => (a ∈ ks → P) ∧ (¬ a ∈ ks → N)
  | .i a, .fl l => ∃ is : List Int, l = is.map .i ∧ (a ∈ is → P) ∧ (¬ a ∈ is → N)
  | .s a, .tu l => oQ (fun c => ifB c P N) (memS a l)
  | _, _ => hz
noncomputable def seenU (D P N : Prop) (u : U) : U → Prop
  | .ok ks => (match u with | .tu l => ∃ is : List Int, l = is.map .i ∧ (is ∈ ks → P) ∧ (¬ is ∈ ks → N) | _ => False)
  | _ => D
noncomputable def cmpU (σ : St) (o : Cop) (u v : U) (P N : Prop) : Prop := match o with
  | .eq => eqU P N u v
  | .ne => eqU N P u v
  | .lt => intU u v fun a b => ifB (decide (a < b)) P N
  | .le => intU u v fun a b => ifB (decide (a ≤ b)) P N
  | .gt => intU u v fun a b => ifB (decide (b < a)) P N
  | .ge => intU u v fun a b => ifB (decide (b ≤ a)) P N
  | .isin => seenU (inU σ P N u v) P N u v
  | .notin => inU σ N P u v
noncomputable def trU (σ : St) (P N : Prop) : U → Prop
  | .b c => ifB c P N
  | .i a => ifB (decide (a ≠ 0)) P N
  | .tu l => (l ≠ [] → P) ∧ (l = [] → N)
  | .fl l => (l ≠ [] → P) ∧ (l = [] → N)
  | .lo .cel => (σ.cells ≠ [] → P) ∧ (σ.cells = [] → N)
  | _ => hz
noncomputable def isnU : U → Bool
  | .no => true
  | _ => false
noncomputable def emU (P N : Prop) (tu : Bool) : U → Prop
  | .tu l => bif tu then (∃ n, n ≤ 500 ∧ ∀ x ∈ l, Dt n x) ∧ (l = [] → P) ∧ (l ≠ [] → N) else False
  | .fl l => bif tu then False else (l = [] → P) ∧ (l ≠ [] → N)
  | .ol l => bif tu then False else (l = [] → P) ∧ (l ≠ [] → N)
  | _ => hz
noncomputable def consU (u : U) (Q : U → Prop) : U → Prop
  | .tu l => Q (.tu (u :: l))
  | _ => hz
noncomputable def lsU (σ : St) : U → Option (List U)
  | .fl l => some l
  | .ol l => some l
  | .lo .row => some (infU σ.row)
  | .lo .pot => some [.lo .cel, .i σ.ps, .i σ.pp]
  | .lo .cel => some (σ.cells.map .i)
  | _ => none
noncomputable def tuU : U → Option (List U)
  | .tu l => some l
  | _ => none
noncomputable def dcU (σ : St) : U → Option (List Int × List U)
  | .fd ks l => some (ks, l)
  | .od ks l => some (ks, l)
  | .lo .held => some (σ.held, σ.held.map fun _ => .b true)
  | _ => none
noncomputable def lnU (σ : St) : U → Option Nat
  | .fl l => some l.length
  | .ol l => some l.length
  | .tu l => some l.length
  | .lo .row => some σ.row.length
  | .lo .cel => some σ.cells.length
  | .lo .held => some σ.held.length
  | _ => none
noncomputable def lenU (σ : St) (Q : U → Prop) (u : U) : Prop := oQ (fun n : Nat => Q (.i n)) (lnU σ u)
noncomputable def isStp : U → Bool
  | .lo (.stp _) => true
  | _ => false
noncomputable def nthU {α : Type} (l : List α) (a : Int) (Q : α → Prop) : Prop := ∃ (n : Nat) (x : α), l[n]? = some x ∧ (a = n ∨ a = (n : Int) - l.length) ∧ Q x
noncomputable def dGet {α : Type} (k : Int) : List Int → List α → Option α
  | j :: ks, u :: us => if j = k then some u else dGet k ks us
  | _, _ => none
noncomputable def subU (σ : St) (u v : U) (Q : U → Prop) : Prop := onI (fun a => bif isStp u then a = 0 ∧ ∀ x, Q (.i x) else match lsU σ u, tuU u, dcU σ u with
    | some l, _, _ => nthU l a Q
    | _, some l, _ => nthU l a Q
    | _, _, some p => ∃ u, dGet a p.1 p.2 = some u ∧ Q u
    | _, _, _ => False) v
noncomputable def getU (σ : St) (u v w : U) (Q : U → Prop) : Prop := onI (fun a => match dcU σ u with
  | some p => gu0 w.pl (Q ((dGet a p.1 p.2).getD w))
  | none => False) v
noncomputable def loC (n : Nat) : U → Option Nat
  | .no => some 0
  | .i a => some (clipAt n a)
  | _ => none
noncomputable def hiC (n : Nat) : U → Option Nat
  | .no => some n
  | .i a => some (clipAt n a)
  | _ => none
noncomputable def cutL {α : Type} (l : List α) (a b : Nat) : List α := (l.drop a).take (b - a)
noncomputable def cutQ (l : List U) (lo hi : U) (Q : List U → Prop) : Prop := match loC l.length lo, hiC l.length hi with | some a, some b => Q (cutL l a b) | _, _ => False
noncomputable def cutT (Q : List U → Prop) (l : List U) : U → U → Prop
  | .i a, .no => ∃ k : Nat, a = k ∧ 1 ≤ k ∧ k ≤ l.length ∧ Q (l.drop k)
  | .no, .i b => ∃ k : Nat, b = k ∧ Q (l.take k)
  | _, _ => False
noncomputable def cutU (σ : St) (u lo hi : U) (Q : U → Prop) : Prop := match lsU σ u, tuU u with
  | some l, _ => cutQ l lo hi fun l => Q (.fl l)
  | _, some l => cutT (fun l => Q (.tu l)) l lo hi
  | _, _ => False
noncomputable def isort (l : List Int) : List Int := l.mergeSort fun a b => decide (a ≤ b)
noncomputable def rowU (r : List Int × Int) : U := .tu [.tu (r.1.map .i), .i r.2]
noncomputable def lexLt : List Int → List Int → Bool
  | x :: xs, y :: ys => if x = y then lexLt xs ys else decide (x < y)
  | [], _ :: _ => true
  | _, [] => false
noncomputable def rowLt (a b : List Int × Int) : Bool := if a.1 = b.1 then decide (a.2 < b.2) else lexLt a.1 b.1
noncomputable def sortRows : List (List Int × Int) → List (List Int × Int)
  | [a, b] => if rowLt b a then [b, a] else [a, b]
  | l => l
noncomputable def srtOk (is : List Int) : Prop := is.length < 64 ∨ is.Pairwise (· ≤ ·)
noncomputable def sortU (σ : St) (Q : U → Prop) (u : U) : Prop := match lsU σ u, dcU σ u with
  | some l, _ => (∃ is : List Int, l = is.map .i ∧ srtOk is ∧ Q (.fl ((isort is).map .i))) ∨ ∃ rs : List (List Int × Int), l = rs.map rowU ∧ rs.length ≤ 2 ∧ Q (.fl ((sortRows rs).map rowU))
  | _, some p => p.1.length < 64 ∧ Q (.fl ((isort p.1).map .i))
  | _, _ => False
noncomputable def seqU (σ : St) (Q : List U → Prop) (u : U) : Prop := match lsU σ u, tuU u with
  | some l, _ => Q l
  | _, some l => Q l
  | _, _ => False
noncomputable def dPut {α : Type} (k : Int) (v : α) (ks : List Int) (l : List α) : List Int × List α := if k ∈ ks then (ks, List.zipWith (fun j u => if j = k then v else u) ks l) else (ks ++ [k], l ++ [v])
noncomputable def one (f : U → Prop) : List U → Prop
  | [x] => f x
  | _ => False
noncomputable def two (f : U → U → Prop) : List U → Prop
  | [x, y] => f x y
  | _ => False
noncomputable def three (f : U → U → U → Prop) : List U → Prop
  | [x, y, z] => f x y z
  | _ => False
noncomputable def pairU (r : Int × U) : U := .tu [.i r.1, r.2]
noncomputable def dMrg : List (Int × U) → List Int × List U → List Int × List U
  | [], p => p
  | r :: l, p => dMrg l (dPut r.1 r.2 p.1 p.2)
noncomputable def lsQ (σ : St) (f : List U → Prop) (u : U) : Prop := match lsU σ u with
  | some l => f l
  | none => False
noncomputable def dicU (σ : St) (Q : List Int → List U → Prop) : U → Prop := lsQ σ fun l => ∃ rs : List (Int × U), l = rs.map pairU ∧ Q (dMrg rs ([], [])).1 (dMrg rs ([], [])).2
noncomputable def isiQ (Q : U → Prop) : U → Prop
  | .i _ => Q (.b false)
  | .fo c _ => gu0 (Nat.beq 2 c) (Q (.b true))
  | _ => False
noncomputable def isiU (Q : U → Prop) (u v : U) : Prop := match v with
  | .f k => gu0 (Nat.beq 1000002 k) (isiQ Q u)
  | _ => False
noncomputable def biU (σ : St) (Q : U → Prop) (l : List U) : Bi → Prop
  | .len => one (lenU σ Q) l
  | .int => one (onI fun a => Q (.i a)) l
  | .abs => one (onI fun a => Q (.i a.natAbs)) l
  | .min1 => one (lsQ σ fun l => ∃ is : List Int, l = is.map .i ∧ is ≠ [] ∧ ∀ m ∈ is, (∀ x ∈ is, m ≤ x) → Q (.i m)) l
  | .min2 => two (fun u v => intU u v fun a b => Q (.i (if b < a then b else a))) l
  | .max2 => two (fun u v => intU u v fun a b => Q (.i (if a < b then b else a))) l
  | .sorted => one (sortU σ Q) l
  | .list => one (seqU σ fun l => Q (.fl l)) l
  | .tuple => one (seqU σ fun l => Q (.tu l)) l
  | .dict => one (dicU σ fun ks l => Q (.fd ks l)) l
  | .range1 => one (onI fun a => Q (.rg 0 a 1)) l
  | .range2 => two (fun u v => intU u v fun a b => Q (.rg a b 1)) l
  | .range3 => three (fun u v w => onI (fun c => c = -1 ∧ intU u v fun a b => Builtin.divisionGoesByPylong (b - a) (-1) = false ∧ Q (.rg a b (-1))) w) l
  | .all => one (lsQ σ fun l => ∃ bs : List Bool, l = bs.map .b ∧ Q (.b (bs.all id))) l
  | .any => one (lsQ σ fun l => ∃ bs : List Bool, l = bs.map .b ∧ Q (.b (bs.any id))) l
  | .isinst => two (isiU Q) l
end

end
section
noncomputable section
noncomputable def rngL (a b c : Int) : List Int := (List.range (Builtin.Range.rangeSize a b c).toNat).map fun (k : Nat) => a + (k : Int) * c
noncomputable def srcU (σ : St) (Q : List U → (St → Prop) → Prop) (u : U) : Prop := match u with
  | .tu l => Q l fun _ => True
  | .rg a b c => (Builtin.Range.small a b c = true ∧ (rngL a b c).length ≤ mxL) ∧ Q ((rngL a b c).map .i) fun _ => True
  | .lo .held => Q (σ.held.map .i) fun σ' => σ'.held = σ.held ∧ σ'.hob = σ.hob
  | u => oQ (fun l => Q l fun σ' => lsU σ' u = some l) (lsU σ u)
noncomputable def setL : List Nat → List U → Os → Option Os
  | [], [], os => some os
  | i :: l, u :: us, os => setL l us (os.set i u)
  | _, _, _ => none
noncomputable def asP (os : Os) (Q : Os → Prop) : Pt → U → Prop
  | .n i, u => guB u.pl (Q (os.set i u))
  | .t l, .tu us => oQ Q (setL l us os)
  | _, _ => False
inductive CompT (tr : U → St → (U → St → Prop) → (St → Prop) → Prop) (xs : List U) (stay : St → Prop) (Q : U → St → Prop) (σ : St) : Prop
  | mk (J : Nat → List U → St → Prop) (h0 : J 0 [] σ) (st : ∀ (n : Nat) (x : U) ys σ', xs[n]? = some x → J n ys σ' → stay σ' ∧ tr x σ' (fun y σ2 => J (n + 1) (ys ++ [y]) σ2) fun σ2 => J (n + 1) ys σ2) (fin : ∀ ys σ', J xs.length ys σ' → stay σ' ∧ Q (.fl ys) σ')
noncomputable def plU (u : U) : U := bif u.pl then u else .un
noncomputable def osC (fr : List (Option Nat)) (os : Os) : Os := fr.map fun
  | some j => plU (os.getD j .un)
  | none => .un
noncomputable def pairs : List U → Option (List Int × List U)
  | [] => some ([], [])
  | .i k :: u :: r => match pairs r with | some p => some (k :: p.1, u :: p.2) | none => none
  | _ => none
noncomputable def dctQ (Q : U → Prop) (p : List Int × List U) : Prop := Q (.fd p.1 p.2)
noncomputable def mths : List (Nat × List (Nat × Nat)) := [(2, [(50, 2001), (51, 2002), (52, 2003)]), (7, [(52, 7001)]), (8, [(52, 8001), (54, 8002), (53, 8003)]), (18, [(52, 18001)]), (53, [(55, 53001)]), (54, [(56, 54001), (57, 54002), (58, 54004), (59, 54005)]),
  (63, [(60, 63001), (52, 63004)]), (68, [(61, 68001), (62, 68002), (63, 68003)]), (75, [(52, 75001)]), (97, [(52, 97001)]), (100, [(52, 100001)]), (101, [(52, 101001)]), (102, [(52, 102001)]), (114, [(52, 114001)]), (115, [(52, 115001)])]
noncomputable def clU : U → Option Nat
  | .fo c _ => some c
  | .lo .buf => some cBuf
  | .lo (.inf _) => some cInf
  | _ => none
noncomputable def mthU (u : U) (n : Nat) : Option Nat := match clU u with | some c => (match lkN c mths with | some l => lkN n l | none => none) | none => none
noncomputable def putF (n : Nat) (u : U) : List Nat → List U → Option (List U)
  | m :: ns, v :: vs => bif Nat.beq n m then some (u :: vs) else (match putF n u ns vs with | some r => some (v :: r) | none => none)
  | m :: _, [] => bif Nat.beq n m then some [u] else none
  | [], _ => none
noncomputable def argQ (Q : List U → St → Prop) (u : U) (σ : St) : Prop := match u with | .tu l => Q l σ | _ => hz
noncomputable def argP (Q : List U → St → Prop) (u : U) (σ : St) : Prop := argQ (fun l σ => guB (l.all U.pl) (Q l σ)) u σ
noncomputable def unQ (Q : U → Prop) (u : U) : Prop := match u with
  | .un => hz
  | u => Q u
noncomputable def bQ (P N : Prop) : U → Prop
  | .b c => ifB c P N
  | _ => hz
noncomputable def fQ (Q : Nat → Prop) : U → Prop
  | .f k => Q k
  | _ => hz
noncomputable def flQ (R : List U → Prop) : U → Prop
  | .fl l => R l
  | _ => hz
noncomputable def nvr (_ : Os) (_ : St) (_ : U → St → Prop) : Prop := False
noncomputable def nvt (_ : Os) (_ : St) (_ _ : St → Prop) : Prop := False
noncomputable def plQ (Q : U → Prop) (u : U) : Prop := guB u.pl (Q u)
noncomputable def isOl : U → Bool
  | .ol _ => true
  | _ => false
noncomputable def frz : U → U
  | .ol l => .fl l
  | .od ks l => .fd ks l
  | .oi c l => .fo c l
  | u => u
noncomputable def loQ (R : Loc → Prop) : U → Prop
  | .lo l => R l
  | _ => hz
noncomputable def tuQ (R : List U → Prop) : U → Prop
  | .tu l => R l
  | _ => hz
noncomputable def olQ (R : List U → Prop) : U → Prop
  | .ol l => R l
  | _ => hz
noncomputable def okQ (R : List (List Int) → Prop) : U → Prop
  | .ok l => R l
  | _ => hz
noncomputable def odQ (R : List Int → List U → Prop) : U → Prop
  | .od ks l => R ks l
  | _ => hz
noncomputable def oiQ (R : Nat → List U → Prop) : U → Prop
  | .oi ks l => R ks l
  | _ => hz
noncomputable def foQ (R : Nat → List U → Prop) : U → Prop
  | .fo ks l => R ks l
  | _ => hz
noncomputable def truQ (X : Prop) : U → Prop
  | .b c => gu0 c X
  | _ => False
noncomputable def setiL (σ : St) (R : St → Prop) (u : U) (a : Int) : Loc → Prop
  | .stp _ => onI (fun _ => a = 0 ∧ R σ) u
  | .pot => onI (fun x => ifB (decide (a = 1)) (R { σ with ps := x }) (a = 2 ∧ R { σ with pp := x })) u
  | .cel => onI (fun x => (0 ≤ a ∧ a < σ.cells.length) ∧ R { σ with cells := σ.cells.set a.toNat x }) u
  | .held => truQ (σ.held.length < mxL ∧ ∀ o, R { σ with held := if a ∈ σ.held then σ.held else σ.held ++ [a], hob := o }) u
  | _ => False
noncomputable def setiU (σ : St) (R : St → Prop) (v u w : U) : Prop := onI (fun a => loQ (setiL σ R u a) v) w
noncomputable def isRow : U → Bool
  | .lo .row => true
  | _ => false
noncomputable def setcU (σ : St) (R : St → Prop) (u a b v : U) : Prop := gu0 (isRow v && !isRow u) (match loC σ.row.length a, hiC σ.row.length b with
    | some x, some y => lsQ σ (fun l => ∃ is, (l = infU is ∧ σ.row.length + is.length ≤ mxL ∧ (σ.row.take x ++ is ++ σ.row.drop (max x y)).length ≤ 1000) ∧ R { σ with row := σ.row.take x ++ is ++ σ.row.drop (max x y) }) u
    | _, _ => False)
end

end
section
noncomputable section
noncomputable def b3_1 : RS := .put 1 (.v 2) (.k (.b true)) .skip
noncomputable def b3_2 : RS := .frz 1 (.ret (.call 1000002 (.cons (.bi .tuple (.cons (.bi .sorted (.cons (.v 1) .nil)) .nil)) .nil)))
noncomputable def b3 : RS := .newD 1 (.for (.n 2) (.v 0) b3_1 b3_2)
noncomputable def b9 : RS := .ret (.bi .tuple (.cons (.comp ([none, none, none, none]) (.n 1) (.v 0) (.k (.b true)) (.ite (.bi .isinst (.cons (.v 1) (.cons (.g 17) .nil))) (.mth (.v 1) 52 .nil) (.v 1))) .nil))
noncomputable def b10_1 : RS := .ret (.comp ([none, none, some 1]) (.n 1) (.v 0) (.k (.b true)) (.tup (.cons (.v 2) (.cons (.v 1) .nil))))
noncomputable def b10 : RS := .ite (.cmp .eq (.v 1) (.k (.s 5))) (.ret (.comp ([none, none, some 2]) (.n 1) (.v 0) (.k (.b true)) (.tup (.cons (.k (.s 5)) (.cons (.v 2) (.cons (.v 1) .nil)))))) .skip b10_1
noncomputable def b11 : RS := .asg 2 (.sub (.lst (.cons (.k (.s 0)) (.cons (.k (.s 4)) (.cons (.k (.s 5)) (.cons (.k (.s 6)) .nil))))) (.at (.v 0) 5)) (.asgT ([3, 4, 5]) (.ite (.cmp .eq (.at (.v 0) 5) (.g 0)) (.at (.v 0) 9) (.tup (.cons (.k .no) (.cons (.k .no) (.cons (.k .no) .nil))))) (.ret (.tup (.cons (.call 10 (.cons (.at (.v 1) 1) (.cons (.v 2) (.cons (.v 3) .nil)))) (.cons (.call 10 (.cons (.at (.v 1) 2) (.cons (.v 2) (.cons (.v 4) .nil)))) (.cons (.call 10 (.cons (.at (.v 1) 3) (.cons (.v 2) (.cons (.v 5) .nil)))) (.cons (.at (.v 1) 4) .nil)))))))
noncomputable def b12_1 : RS := .ret (.comp ([none, none, none, some 0]) (.n 1) (.v 2) (.k (.b true)) (.call 11 (.cons (.v 3) (.cons (.v 1) .nil))))
noncomputable def b12 : RS := .ite (.cmp .eq (.at (.v 0) 5) (.g 1)) (.asg 2 (.get (.at (.v 0) 7) (.v 1) (.lst .nil)) .skip) (.ite (.cmp .eq (.at (.v 0) 5) (.g 0)) (.asg 2 (.ite (.mth (.at (.v 0) 8) 51 (.cons (.v 1) .nil)) (.get (.at (.v 0) 7) (.mth (.sub (.at (.v 0) 9) (.k (.i 1))) 60 (.cons (.v 1) .nil)) (.lst .nil)) (.lst .nil)) .skip) (.asg 2 (.comp ([none, none, some 1]) (.n 1) (.mth (.v 0) 53 .nil) (.mth (.sub (.at (.v 1) 2) (.k (.i 0))) 51 (.cons (.v 2) .nil)) (.v 1)) .skip) .skip) b12_1
noncomputable def b21 : RS := .ret (.get (.dct (.cons (.k (.i 1)) (.cons (.g 3) (.cons (.k (.i 2)) (.cons (.g 4) (.cons (.k (.i 3)) (.cons (.g 5) .nil))))))) (.v 0) (.k (.i 0)))
noncomputable def b22_1 : RS := .asg 4 (.call 20 (.cons (.at (.v 1) 11) .nil)) (.ret (.and (.cmp .gt (.v 4) (.k (.i 0))) (.cmp .ne (.mth (.v 0) 62 (.cons (.v 2) .nil)) (.v 4))))
noncomputable def b22_2 : RS := .ite (.bin .and (.at (.v 1) 11) (.g 2)) (.ret (.not (.mth (.v 0) 63 (.cons (.at (.v 1) 12) (.cons (.v 2) .nil))))) .skip b22_1
noncomputable def b22_3 : RS := .ite (.cmp .ne (.v 3) (.k (.i 3))) (.ret (.k (.b false))) .skip b22_2
noncomputable def b22 : RS := .asg 3 (.mth (.v 0) 61 (.cons (.v 2) .nil)) (.ite (.bin .and (.at (.v 1) 11) (.call 21 (.cons (.v 3) .nil))) (.ret (.k (.b true))) .skip b22_3)
noncomputable def b23 : RS := .ret (.call 22 (.cons (.at (.v 0) 15) (.cons (.at (.v 0) 17) (.cons (.at (.sub (.at (.at (.v 0) 14) 35) (.v 1)) 22) .nil))))
noncomputable def b24 : RS := .ret (.and (.cmp .ne (.bin .and (.at (.sub (.at (.at (.v 0) 14) 35) (.v 1)) 18) (.at (.v 0) 18)) (.k (.i 0))) (.not (.call 23 (.cons (.v 0) (.cons (.v 1) .nil)))))
noncomputable def b25_1 : RS := .newI 2 19 (.cons (.at (.v 0) 14) (.cons (.at (.v 0) 15) (.cons (.at (.v 0) 16) (.cons (.sub (.at (.v 0) 16) (.v 1)) (.cons (.at (.v 0) 18) (.cons (.bin .add (.at (.v 0) 19) (.k (.i 1))) .nil)))))) (.seto 2 20 (.at (.v 0) 20) (.frz 2 (.ret (.v 2))))
noncomputable def b25 : RS := .ite (.not (.c2 (.k (.i 0)) .le (.v 1) .lt (.bi .len (.cons (.at (.v 0) 16) .nil)))) (.ret (.k .no)) .skip b25_1
noncomputable def b29 : RS := .ret (.bi .tuple (.cons (.comp ([none, none]) (.n 1) (.v 0) (.k (.b true)) (.tup (.cons (.k (.s 4)) (.cons (.v 1) .nil)))) .nil))
noncomputable def b30 : RS := .ret (.bi .tuple (.cons (.comp ([none, none]) (.n 1) (.v 0) (.k (.b true)) (.tup (.cons (.k (.s 6)) (.cons (.v 1) .nil)))) .nil))
noncomputable def b31_1 : RS := .ret (.mth (.sub (.v 0) (.k (.i 1))) 51 (.cons (.v 1) .nil))
noncomputable def b31_2 : RS := .ite (.cmp .eq (.sub (.v 0) (.k (.i 0))) (.k (.s 5))) (.ret (.cmp .eq (.mth (.sub (.v 0) (.k (.i 1))) 60 (.cons (.v 1) .nil)) (.sub (.v 0) (.k (.i 2))))) .skip b31_1
noncomputable def b31 : RS := .ite (.cmp .eq (.sub (.v 0) (.k (.i 0))) (.k (.s 4))) (.ret (.cmp .eq (.sub (.v 0) (.k (.i 1))) (.v 1))) .skip b31_2
noncomputable def b32 : RS := .ret (.cmp .ne (.bin .and (.at (.v 1) 18) (.at (.v 0) 18)) (.k (.i 0)))
noncomputable def b33_1 : RS := .ite (.cmp .notin (.at (.v 7) 10) (.v 4)) (.ret (.neg (.k (.i 1)))) .skip .skip
noncomputable def b33_2 : RS := .asg 6 (.bin .add (.v 6) (.v 2)) .skip
noncomputable def b33_3 : RS := .ite (.not (.call 23 (.cons (.v 0) (.cons (.v 6) .nil)))) (.asg 7 (.sub (.at (.at (.v 0) 14) 35) (.v 6)) (.ite (.and (.call 31 (.cons (.v 3) (.cons (.at (.v 7) 22) .nil))) (.or (.call 32 (.cons (.v 0) (.cons (.v 7) .nil))) (.not (.v 5)))) (.ret (.v 6)) .skip b33_1)) .skip b33_2
noncomputable def b33_4 : RS := .ret (.neg (.k (.i 1)))
noncomputable def b33 : RS := .asg 6 (.bin .add (.v 1) (.v 2)) (.wh (.c2 (.k (.i 0)) .le (.v 6) .lt (.bi .len (.cons (.at (.at (.v 0) 14) 35) .nil))) b33_3 b33_4)
noncomputable def b34_1 : RS := .app 3 (.v 5) .skip
noncomputable def b34_2 : RS := .asg 5 (.call 33 (.cons (.v 0) (.cons (.sub (.v 3) (.neg (.k (.i 1)))) (.cons (.k (.i 1)) (.cons (.v 4) (.cons (.g 6) (.cons (.k (.b true)) .nil))))))) (.ite (.cmp .lt (.v 5) (.k (.i 0))) (.ret (.k .no)) .skip b34_1)
noncomputable def b34_3 : RS := .frz 3 (.ret (.v 3))
noncomputable def b34_4 : RS := .newL 3 (.cons (.v 1) .nil) (.for (.n 4) (.cut (.v 2) (.k (.i 1)) (.k .no)) b34_2 b34_3)
noncomputable def b34 : RS := .ite (.not (.call 31 (.cons (.sub (.v 2) (.k (.i 0))) (.cons (.at (.sub (.at (.at (.v 0) 14) 35) (.v 1)) 22) .nil)))) (.ret (.k .no)) .skip b34_4
noncomputable def b35_1 : RS := .asg 4 (.call 33 (.cons (.v 0) (.cons (.v 4) (.cons (.v 2) (.cons (.v 5) (.cons (.g 7) (.cons (.k (.b false)) .nil))))))) (.ite (.cmp .lt (.v 4) (.k (.i 0))) (.ret (.neg (.k (.i 1)))) .skip .skip)
noncomputable def b35_2 : RS := .ret (.v 4)
noncomputable def b35 : RS := .asg 4 (.v 1) (.for (.n 5) (.v 3) b35_1 b35_2)
noncomputable def b36 : RS := .ret (.call 35 (.cons (.v 0) (.cons (.v 1) (.cons (.k (.i 1)) (.cons (.v 2) .nil)))))
noncomputable def b37 : RS := .ret (.call 35 (.cons (.v 0) (.cons (.v 1) (.cons (.neg (.k (.i 1))) (.cons (.v 2) .nil)))))
noncomputable def b38 : RS := .ret (.and (.cmp .ne (.at (.v 0) 25) (.k (.i 0))) (.cmp .ne (.at (.v 0) 26) (.k (.i 0))))
noncomputable def b39_1 : RS := .asg 4 (.sub (.v 0) (.v 3)) (.ite (.call 38 (.cons (.v 2) .nil)) (.ite (.cmp .ne (.tup (.cons (.at (.v 4) 25) (.cons (.at (.v 4) 26) .nil))) (.tup (.cons (.at (.v 2) 25) (.cons (.at (.v 2) 26) .nil)))) (.ret (.k (.b false))) .skip .skip) (.ite (.and (.call 38 (.cons (.v 4) .nil)) (.cmp .ne (.at (.v 4) 25) (.at (.v 2) 25))) (.ret (.k (.b false))) .skip .skip) .skip)
noncomputable def b39_2 : RS := .ret (.k (.b true))
noncomputable def b39 : RS := .asg 2 (.sub (.v 0) (.sub (.v 1) (.k (.i 0)))) (.for (.n 3) (.cut (.v 1) (.k (.i 1)) (.k .no)) b39_1 b39_2)
noncomputable def b42_1 : RS := .ite (.c2 (.k (.i 0)) .le (.v 3) .lt (.bi .len (.cons (.at (.v 0) 16) .nil))) (.put 1 (.v 3) (.k (.b true)) .skip) .skip .skip
noncomputable def b42_2 : RS := .for (.n 3) (.at (.v 2) 16) b42_1 .skip
noncomputable def b42_3 : RS := .frz 1 (.ret (.bi .sorted (.cons (.v 1) .nil)))
noncomputable def b42 : RS := .newD 1 (.for (.n 2) (.at (.v 0) 46) b42_2 b42_3)
noncomputable def b43 : RS := .ret (.bi .all (.cons (.comp ([none, none, none, some 1]) (.n 1) (.v 0) (.k (.b true)) (.bi .any (.cons (.comp ([none, none, some 3]) (.n 1) (.at (.v 1) 0) (.k (.b true)) (.cmp .isin (.v 1) (.v 2))) .nil))) .nil))
noncomputable def b44 : RS := .ret (.bi .all (.cons (.comp ([none, none, none, some 1]) (.n 1) (.v 0) (.k (.b true)) (.bi .any (.cons (.comp ([none, none, none, some 1]) (.n 1) (.v 3) (.k (.b true)) (.call 31 (.cons (.v 3) (.cons (.v 1) .nil)))) .nil))) .nil))
noncomputable def b45 : RS := .ret (.comp ([none, none, none, none, some 2]) (.t [1, 2]) (.get (.at (.v 0) 7) (.v 1) (.lst .nil)) (.bi .all (.cons (.comp ([none, none, some 4]) (.n 1) (.v 1) (.k (.b true)) (.cmp .isin (.v 1) (.v 2))) .nil)) (.v 2))
noncomputable def b46_1 : RS := .ret (.bi .list (.cons (.sub (.at (.v 1) 43) (.v 2)) .nil))
noncomputable def b46_2 : RS := .ite (.cmp .eq (.v 0) (.k (.s 11))) (.ret (.ite (.call 43 (.cons (.bin .add (.at (.v 1) 1) (.at (.v 1) 3)) (.cons (.v 3) .nil))) (.lst (.cons (.sub (.at (.v 1) 43) (.v 2)) .nil)) (.lst .nil))) .skip b46_1
noncomputable def b46_3 : RS := .ite (.cmp .eq (.v 0) (.k (.s 10))) (.ret (.lst (.cons (.sub (.at (.v 1) 43) (.v 2)) .nil))) .skip b46_2
noncomputable def b46_4 : RS := .ite (.cmp .notin (.v 2) (.at (.v 1) 43)) (.ret (.lst .nil)) .skip b46_3
noncomputable def b46 : RS := .ite (.cmp .eq (.v 0) (.k (.s 9))) (.ret (.call 45 (.cons (.v 1) (.cons (.v 2) (.cons (.v 3) .nil))))) .skip b46_4
noncomputable def b47_1 : RS := .ret (.bi .tuple (.cons (.comp ([none, none, none, some 1, some 0]) (.n 1) (.bi .sorted (.cons (.v 3) .nil)) (.call 31 (.cons (.sub (.v 4) (.v 3)) (.cons (.v 1) .nil))) (.v 1)) .nil))
noncomputable def b47 : RS := .ite (.cmp .eq (.v 1) (.k (.i 0))) (.ret (.tup (.cons (.v 2) .nil))) .skip b47_1
noncomputable def b48_1 : RS := .asgT ([9, 10]) (.sub (.v 7) (.v 8)) (.ite (.cmp .gt (.v 8) (.k (.i 0))) (.app 3 (.tup (.cons (.v 10) (.cons (.tup .nil) .nil))) .skip) (.ite (.cmp .lt (.v 9) (.bi .len (.cons (.v 5) .nil))) (.app 3 (.tup (.cons (.v 10) (.cons (.call 47 (.cons (.v 5) (.cons (.v 9) (.cons (.v 1) (.cons (.v 2) .nil))))) .nil))) .skip) .skip .skip) .skip)
noncomputable def b48_2 : RS := .for (.n 8) (.bi .range1 (.cons (.bi .len (.cons (.v 7) .nil)) .nil)) b48_1 .skip
noncomputable def b48_3 : RS := .ite (.not (.call 44 (.cons (.bin .add (.bin .add (.v 4) (.cut (.v 5) (.k (.i 1)) (.k .no))) (.v 6)) (.cons (.v 2) .nil)))) .cont .skip b48_2
noncomputable def b48_4 : RS := .frz 3 (.ret (.v 3))
noncomputable def b48 : RS := .newL 3 .nil (.for (.t [4, 5, 6, 7]) (.call 12 (.cons (.v 0) (.cons (.v 1) .nil))) b48_3 b48_4)
noncomputable def b49_1 : RS := .seti (.v 2) (.v 6) (.k (.b true)) .skip
noncomputable def b49_2 : RS := .ite (.cmp .isin (.at (.v 0) 10) (.g 8)) (.ext 3 (.call 48 (.cons (.v 5) (.cons (.v 4) (.cons (.v 2) .nil)))) .skip) (.for (.n 6) (.call 46 (.cons (.at (.v 0) 10) (.cons (.v 5) (.cons (.v 4) (.cons (.v 2) .nil))))) b49_1 .skip) .skip
noncomputable def b49_3 : RS := .for (.n 5) (.at (.v 0) 13) b49_2 .skip
noncomputable def b49_4 : RS := .frz 3 (.ret (.v 3))
noncomputable def b49 : RS := .newL 3 .nil (.for (.n 4) (.v 1) b49_3 b49_4)
noncomputable def b50_1 : RS := .putS 4 (.v 7) (.ext 3 (.call 49 (.cons (.sub (.at (.v 0) 16) (.v 2)) (.cons (.ite (.v 6) (.v 6) (.bi .tuple (.cons (.bi .sorted (.cons (.v 1) .nil)) .nil))) (.cons (.v 1) .nil)))) .skip)
noncomputable def b50_2 : RS := .asgT ([2, 6]) (.sub (.v 3) (.v 5)) (.asg 5 (.bin .add (.v 5) (.k (.i 1))) (.asg 7 (.bin .add (.tup (.cons (.v 2) .nil)) (.v 6)) (.ite (.or (.cmp .isin (.v 7) (.v 4)) (.not (.c2 (.k (.i 0)) .le (.v 2) .lt (.bi .len (.cons (.at (.v 0) 16) .nil))))) .cont .skip b50_1)))
noncomputable def b50 : RS := .newC 3 (.comp ([none, none]) (.n 1) (.call 42 (.cons (.v 0) .nil)) (.k (.b true)) (.tup (.cons (.v 1) (.cons (.tup .nil) .nil)))) (.newS 4 (.asg 5 (.k (.i 0)) (.wh (.cmp .lt (.v 5) (.bi .len (.cons (.v 3) .nil))) b50_2 .skip)))
noncomputable def b51_1 : RS := .asg 3 (.bi .len (.cons (.v 2) .nil)) (.ex (.call 50 (.cons (.v 0) (.cons (.v 2) .nil))) .skip)
noncomputable def b51_2 : RS := .ret (.bi .sorted (.cons (.v 2) .nil))
noncomputable def b51 : RS := .newH 2 (.comp ([none, none]) (.n 1) (.v 1) (.k (.b true)) (.tup (.cons (.v 1) (.cons (.k (.b true)) .nil)))) (.asg 3 (.neg (.k (.i 1))) (.wh (.cmp .lt (.v 3) (.bi .len (.cons (.v 2) .nil))) b51_1 b51_2))
noncomputable def b55 : RS := .ite (.cmp .ne (.at (.v 0) 23) (.v 1)) (.seta (.v 0) 23 (.v 1) (.seta (.v 0) 24 (.k (.b false)) .skip)) .skip .skip
noncomputable def b56_1 : RS := .asg 4 (.bin .add (.v 4) (.k (.i 1))) .skip
noncomputable def b56_2 : RS := .asg 3 (.bin .sub (.v 3) (.k (.i 1))) .skip
noncomputable def b56_3 : RS := .ret (.tup (.cons (.v 3) (.cons (.v 4) .nil)))
noncomputable def b56_4 : RS := .wh (.and (.cmp .gt (.v 3) (.k (.i 0))) (.cmp .eq (.at (.sub (.v 0) (.bin .sub (.v 3) (.k (.i 1)))) 23) (.at (.sub (.v 0) (.v 3)) 23))) b56_2 b56_3
noncomputable def b56 : RS := .asg 3 (.v 1) (.asg 4 (.v 2) (.wh (.and (.cmp .lt (.v 4) (.bi .len (.cons (.v 0) .nil))) (.cmp .eq (.at (.sub (.v 0) (.v 4)) 23) (.at (.sub (.v 0) (.bin .sub (.v 4) (.k (.i 1)))) 23))) b56_1 b56_4))
noncomputable def b57_1 : RS := .ex (.call 55 (.cons (.v 3) (.cons (.v 4) .nil))) .skip
noncomputable def b57_2 : RS := .asg 4 (.bi .min1 (.cons (.comp ([none, none]) (.n 1) (.cut (.at (.v 0) 35) (.v 1) (.v 2)) (.k (.b true)) (.at (.v 1) 23)) .nil)) (.asgT ([5, 6]) (.call 56 (.cons (.at (.v 0) 35) (.cons (.v 1) (.cons (.v 2) .nil)))) (.for (.n 3) (.cut (.at (.v 0) 35) (.v 5) (.v 6)) b57_1 .skip))
noncomputable def b57 : RS := .ite (.cmp .lt (.bin .sub (.v 2) (.v 1)) (.k (.i 2))) (.ret (.k .no)) .skip b57_2
noncomputable def b58_1 : RS := .ite (.cmp .ne (.at (.v 4) 23) (.v 5)) (.seta (.v 4) 24 (.k (.b true)) .skip) .skip .skip
noncomputable def b58_2 : RS := .asg 5 (.bi .min1 (.cons (.comp ([none, none]) (.n 1) (.v 3) (.k (.b true)) (.at (.v 1) 23)) .nil)) (.for (.n 4) (.v 3) b58_1 .skip)
noncomputable def b58 : RS := .asg 3 (.cut (.at (.v 0) 35) (.v 1) (.v 2)) (.ite (.cmp .lt (.bi .len (.cons (.v 3) .nil)) (.k (.i 2))) (.ret (.k .no)) .skip b58_2)
noncomputable def b59_1 : RS := .ex (.call 55 (.cons (.sub (.v 0) (.v 4)) (.cons (.v 2) .nil))) (.asg 4 (.bin .sub (.v 4) (.k (.i 1))) .skip)
noncomputable def b59 : RS := .asg 3 (.at (.sub (.v 0) (.v 1)) 23) (.asg 4 (.v 1) (.wh (.and (.cmp .lt (.v 2) (.v 3)) (.and (.cmp .ge (.v 4) (.k (.i 0))) (.cmp .eq (.at (.sub (.v 0) (.v 4)) 23) (.v 3)))) b59_1 .skip))
noncomputable def b60_1 : RS := .ite (.and (.v 4) (.cmp .eq (.at (.v 6) 23) (.v 3))) (.seta (.v 6) 24 (.k (.b true)) .skip) .skip .skip
noncomputable def b60_2 : RS := .for (.n 6) (.v 5) b60_1 .skip
noncomputable def b60 : RS := .asg 2 (.at (.v 0) 35) (.asg 3 (.at (.sub (.v 2) (.v 1)) 23) (.asg 4 (.at (.sub (.v 2) (.v 1)) 24) (.asg 5 (.comp ([none, none, none, some 2]) (.n 1) (.tup (.cons (.bin .sub (.v 1) (.k (.i 1))) (.cons (.bin .add (.v 1) (.k (.i 1))) .nil))) (.c2 (.k (.i 0)) .le (.v 1) .lt (.bi .len (.cons (.v 3) .nil))) (.sub (.v 3) (.v 1))) (.ite (.cmp .notin (.v 3) (.comp ([none, none]) (.n 1) (.v 5) (.k (.b true)) (.at (.v 1) 23))) (.ite (.cmp .gt (.v 1) (.k (.i 0))) (.ex (.call 59 (.cons (.v 2) (.cons (.bin .sub (.v 1) (.k (.i 1))) (.cons (.v 3) .nil)))) .skip) (.ex (.call 57 (.cons (.v 0) (.cons (.v 1) (.cons (.bin .add (.v 1) (.k (.i 2))) .nil)))) .skip) .skip) .skip b60_2))))
noncomputable def b61_1 : RS := .asg 5 (.mth (.v 4) 55 .nil) (.seta (.v 5) 22 (.v 7) (.app 6 (.v 5) .skip))
noncomputable def b61_2 : RS := .ite (.em false false (.v 6)) (.setc (.at (.v 0) 35) (.v 1) (.bin .add (.v 1) (.v 2)) (.lst (.cons (.v 4) .nil)) (.ex (.call 60 (.cons (.v 0) (.cons (.v 1) .nil))) (.setc (.at (.v 0) 35) (.v 1) (.bin .add (.v 1) (.k (.i 1))) (.lst .nil) .skip))) (.setc (.at (.v 0) 35) (.v 1) (.bin .add (.v 1) (.v 2)) (.v 6) .skip) .skip
noncomputable def b61 : RS := .ex (.call 57 (.cons (.v 0) (.cons (.v 1) (.cons (.bin .add (.v 1) (.v 2)) .nil)))) (.asg 4 (.sub (.at (.v 0) 35) (.v 1)) (.seta (.v 4) 24 (.em true false (.comp ([none, none]) (.n 1) (.cut (.at (.v 0) 35) (.v 1) (.bin .add (.v 1) (.v 2))) (.at (.v 1) 24) (.v 1))) (.newL 6 .nil (.for (.n 7) (.v 3) b61_1 b61_2))))
noncomputable def b69 : RS := .ret (.call 1000068 (.cons (.call 1000063 (.cons (.dct .nil) .nil)) (.cons (.call 1000063 (.cons (.dct .nil) .nil)) (.cons (.lst .nil) .nil))))
noncomputable def b73 : RS := .ret (.cmp .eq (.cut (.v 0) (.k .no) (.bi .len (.cons (.v 1) .nil))) (.v 1))
noncomputable def b74_1 : RS := .ite (.em false false (.comp ([none, none, none, none, some 2]) (.t [1, 2]) (.v 1) (.call 73 (.cons (.v 4) (.cons (.v 1) .nil))) (.v 1))) (.app 1 (.tup (.cons (.v 2) (.cons (.v 3) .nil))) .skip) .skip .skip
noncomputable def b74_2 : RS := .frz 1 (.ret (.v 1))
noncomputable def b74 : RS := .newL 1 .nil (.for (.t [2, 3]) (.v 0) b74_1 b74_2)
noncomputable def b76 : RS := .ret (.bi .max2 (.cons (.at (.v 0) 27) (.cons (.k (.i 1)) .nil)))
noncomputable def b77_1 : RS := .ret (.get (.dct (.cons (.g 12) (.cons (.k (.s 14)) (.cons (.g 13) (.cons (.k (.s 15)) .nil))))) (.mth (.v 0) 61 (.cons (.sub (.v 1) (.k (.i 0))) .nil)) (.k (.s 9)))
noncomputable def b77 : RS := .ite (.em true false (.comp ([none, none, none, some 0]) (.n 1) (.cut (.v 1) (.k (.i 1)) (.k .no)) (.cmp .ne (.mth (.v 3) 61 (.cons (.v 1) .nil)) (.g 13)) (.v 1))) (.ret (.k (.s 9))) .skip b77_1
noncomputable def b78 : RS := .asg 4 (.ite (.cmp .gt (.at (.v 0) 26) (.k (.i 0))) (.at (.v 0) 26) (.v 3)) (.seta (.v 0) 25 (.v 1) (.seta (.v 0) 26 (.bin .add (.v 2) (.bi .min2 (.cons (.v 4) (.cons (.v 3) .nil)))) (.seta (.v 0) 27 (.k (.i 0)) .skip)))
noncomputable def b79_1 : RS := .ex (.call 78 (.cons (.sub (.v 0) (.v 6)) (.cons (.v 3) (.cons (.v 4) (.cons (.v 5) .nil))))) (.asg 6 (.bin .add (.v 6) (.k (.i 1))) .skip)
noncomputable def b79 : RS := .asg 6 (.v 1) (.wh (.and (.cmp .gt (.v 2) (.k (.i 0))) (.and (.cmp .lt (.v 6) (.bi .len (.cons (.v 0) .nil))) (.and (.cmp .eq (.at (.sub (.v 0) (.v 6)) 25) (.v 2)) (.cmp .gt (.at (.sub (.v 0) (.v 6)) 26) (.k (.i 0)))))) b79_1 .skip)
noncomputable def b80_1 : RS := .ex (.call 78 (.cons (.sub (.v 0) (.v 9)) (.cons (.v 3) (.cons (.v 5) (.cons (.v 6) .nil))))) .skip
noncomputable def b80_2 : RS := .asg 4 (.sub (.v 0) (.sub (.v 1) (.v 8))) (.asgT ([5, 6, 7]) (.tup (.cons (.bin .add (.v 5) (.v 6)) (.cons (.call 76 (.cons (.v 4) .nil)) (.cons (.at (.v 4) 25) .nil)))) .skip)
noncomputable def b80_3 : RS := .ite (.cmp .eq (.v 2) (.k (.s 9))) (.for (.n 9) (.bi .range2 (.cons (.bin .add (.sub (.v 1) (.bin .sub (.v 8) (.k (.i 1)))) (.k (.i 1))) (.cons (.sub (.v 1) (.v 8)) .nil))) b80_1 .skip) .skip b80_2
noncomputable def b80_4 : RS := .ret (.bin .add (.v 5) (.v 6))
noncomputable def b80_5 : RS := .ite (.cmp .ne (.v 2) (.k (.s 15))) (.ex (.call 79 (.cons (.v 0) (.cons (.bin .add (.sub (.v 1) (.neg (.k (.i 1)))) (.k (.i 1))) (.cons (.v 7) (.cons (.v 3) (.cons (.v 5) (.cons (.v 6) .nil))))))) .skip) .skip b80_4
noncomputable def b80 : RS := .asg 4 (.sub (.v 0) (.sub (.v 1) (.k (.i 0)))) (.asgT ([5, 6, 7]) (.tup (.cons (.k (.i 0)) (.cons (.call 76 (.cons (.v 4) .nil)) (.cons (.at (.v 4) 25) .nil)))) (.for (.n 8) (.bi .range2 (.cons (.k (.i 1)) (.cons (.bi .len (.cons (.v 1) .nil)) .nil))) b80_3 b80_5))
noncomputable def b81_1 : RS := .setc (.at (.v 3) 35) (.sub (.v 1) (.k (.i 0))) (.bin .add (.sub (.v 1) (.neg (.k (.i 1)))) (.k (.i 1))) (.comp ([none, none, some 1, some 4]) (.n 1) (.bi .range2 (.cons (.sub (.v 1) (.k (.i 0))) (.cons (.bin .add (.sub (.v 1) (.neg (.k (.i 1)))) (.k (.i 1))) .nil))) (.or (.cmp .eq (.v 1) (.sub (.v 2) (.k (.i 0)))) (.cmp .notin (.v 1) (.v 2))) (.sub (.v 3) (.v 1))) .skip
noncomputable def b81 : RS := .asg 3 (.at (.v 0) 14) (.asg 4 (.at (.v 3) 35) (.asg 5 (.call 77 (.cons (.at (.v 0) 15) (.cons (.comp ([none, none, some 4]) (.n 1) (.v 1) (.k (.b true)) (.at (.sub (.v 2) (.v 1)) 22)) .nil))) (.ex (.call 57 (.cons (.v 3) (.cons (.sub (.v 1) (.k (.i 0))) (.cons (.bin .add (.sub (.v 1) (.neg (.k (.i 1)))) (.k (.i 1))) .nil)))) (.asg 6 (.ite (.cmp .eq (.v 5) (.k (.s 9))) (.mth (.v 3) 58 .nil) (.k (.i 0))) (.asg 7 (.call 80 (.cons (.v 4) (.cons (.v 1) (.cons (.v 5) (.cons (.v 6) .nil))))) (.asg 8 (.sub (.v 4) (.sub (.v 1) (.k (.i 0)))) (.seta (.v 8) 22 (.v 2) (.seta (.v 8) 28 (.k (.i 0)) (.seta (.v 8) 24 (.em true false (.comp ([none, none, some 4]) (.n 1) (.v 1) (.at (.sub (.v 2) (.v 1)) 24) (.v 1))) (.ite (.cmp .eq (.v 5) (.k (.s 9))) (.seta (.v 8) 25 (.v 6) (.seta (.v 8) 26 (.k (.i 0)) (.seta (.v 8) 27 (.v 7) .skip))) .skip b81_1))))))))))
noncomputable def b82_1 : RS := .asg 7 (.call 34 (.cons (.v 0) (.cons (.v 2) (.cons (.call 29 (.cons (.bin .add (.tup (.cons (.v 4) .nil)) (.v 5)) .nil)) .nil)))) (.ite (.and (.isn true (.v 7)) (.call 39 (.cons (.v 3) (.cons (.v 7) .nil)))) (.ex (.call 81 (.cons (.v 0) (.cons (.v 7) (.cons (.v 6) .nil)))) (.ret (.bin .sub (.bin .add (.sub (.v 7) (.neg (.k (.i 1)))) (.k (.i 1))) (.bi .len (.cons (.v 5) .nil))))) .skip .skip)
noncomputable def b82_2 : RS := .ite (.em false true (.v 5)) (.seta (.sub (.v 3) (.v 2)) 22 (.v 6) (.ret (.bin .add (.v 2) (.k (.i 1))))) .skip b82_1
noncomputable def b82_3 : RS := .ret (.neg (.k (.i 1)))
noncomputable def b82 : RS := .asg 3 (.at (.at (.v 0) 14) 35) (.asg 4 (.at (.sub (.v 3) (.v 2)) 22) (.for (.t [5, 6]) (.get (.at (.v 1) 7) (.v 4) (.lst .nil)) b82_2 b82_3))
noncomputable def b88_1 : RS := .asg 9 (.call 36 (.cons (.v 0) (.cons (.sub (.v 7) (.neg (.k (.i 1)))) (.cons (.v 5) .nil)))) (.ret (.ite (.cmp .lt (.v 9) (.k (.i 0))) (.k .no) (.tup (.cons (.v 7) (.cons (.v 8) (.cons (.v 9) .nil))))))
noncomputable def b88_2 : RS := .asg 8 (.call 37 (.cons (.v 0) (.cons (.v 1) (.cons (.v 3) .nil)))) (.ite (.cmp .lt (.v 8) (.k (.i 0))) (.ret (.k .no)) .skip b88_1)
noncomputable def b88 : RS := .asgT ([3, 4, 5, 6]) (.v 2) (.asg 7 (.call 34 (.cons (.v 0) (.cons (.v 1) (.cons (.v 4) .nil)))) (.ite (.isn false (.v 7)) (.ret (.k .no)) .skip b88_2))
noncomputable def b89 : RS := .ret (.ite (.cmp .ge (.at (.v 0) 19) (.g 14)) (.k .no) (.call 25 (.cons (.v 0) (.cons (.v 1) .nil))))
noncomputable def b90 : RS := .asg 3 (.comp ([none, none, some 1, some 0]) (.n 1) (.bi .range1 (.cons (.v 2) .nil)) (.k (.b true)) (.bin .add (.bin .add (.sub (.at (.v 3) 35) (.v 2)) (.k (.i 1))) (.v 1))) (.seta (.v 0) 35 (.bin .add (.bin .add (.cut (.at (.v 0) 35) (.k .no) (.bin .add (.v 1) (.k (.i 1)))) (.v 3)) (.comp ([none, none, some 2]) (.n 1) (.cut (.at (.v 0) 35) (.bin .add (.v 1) (.k (.i 1))) (.k .no)) (.k (.b true)) (.bin .add (.v 1) (.v 2)))) .skip)
noncomputable def b91 : RS := .seta (.v 0) 35 (.bin .add (.cut (.at (.v 0) 35) (.k .no) (.bin .add (.v 1) (.k (.i 1)))) (.comp ([none, none, some 2]) (.n 1) (.cut (.at (.v 0) 35) (.bin .add (.bin .add (.v 1) (.k (.i 1))) (.v 2)) (.k .no)) (.k (.b true)) (.bin .sub (.v 1) (.v 2)))) .skip
noncomputable def b92_1 : RS := .ite (.cmp .gt (.v 2) (.k (.i 0))) (.ex (.call 90 (.cons (.v 0) (.cons (.v 1) (.cons (.v 2) .nil)))) .skip) (.ite (.cmp .lt (.v 2) (.k (.i 0))) (.ex (.call 91 (.cons (.v 0) (.cons (.v 1) (.cons (.neg (.v 2)) .nil)))) .skip) .skip .skip) .skip
noncomputable def b92 : RS := .seta (.v 0) 42 (.bin .add (.at (.v 0) 42) (.v 2)) (.ite (.cmp .lt (.at (.v 0) 42) (.sub (.at (.v 0) 35) (.v 1))) (.asg 2 (.bin .sub (.bin .add (.v 2) (.sub (.at (.v 0) 35) (.v 1))) (.at (.v 0) 42)) (.seta (.v 0) 42 (.sub (.at (.v 0) 35) (.v 1)) .skip)) .skip b92_1)
noncomputable def b93_1 : RS := .ret (.k (.b true))
noncomputable def b93_2 : RS := .ite (.cmp .ne (.v 8) (.k (.i 0))) (.ex (.call 92 (.cons (.v 1) (.cons (.v 4) (.cons (.v 8) .nil)))) .skip) .skip b93_1
noncomputable def b93_3 : RS := .asg 8 (.bin .sub (.bi .len (.cons (.at (.at (.v 0) 14) 35) .nil)) (.v 7)) (.ite (.and (.cmp .gt (.v 8) (.k (.i 0))) (.cmp .gt (.bin .add (.v 8) (.bi .len (.cons (.at (.v 1) 35) .nil))) (.g 16))) (.seta (.v 1) 42 (.bin .add (.at (.v 1) 42) (.v 8)) (.ret (.k (.b false)))) .skip b93_2)
noncomputable def b93_4 : RS := .seti (.at (.v 0) 20) (.k (.i 0)) (.bin .add (.sub (.at (.v 0) 20) (.k (.i 0))) (.k (.i 1))) (.asg 7 (.bi .len (.cons (.at (.at (.v 0) 14) 35) .nil)) (.ite (.cmp .lt (.cv 3 (.cons (.v 6) (.cons (.sub (.at (.v 1) 35) (.v 4)) .nil))) (.k (.i 0))) (.ret (.k (.b true))) .skip b93_3))
noncomputable def b93_5 : RS := .asg 6 (.call 89 (.cons (.v 0) (.cons (.v 5) .nil))) (.ite (.or (.isn false (.v 6)) (.cmp .ge (.sub (.at (.v 0) 20) (.k (.i 0))) (.g 15))) (.ret (.k (.b true))) .skip b93_4)
noncomputable def b93 : RS := .asgT ([4, 5]) (.v 2) (.ite (.or (.cmp .ge (.v 4) (.bi .len (.cons (.at (.v 1) 35) .nil))) (.cmp .ge (.sub (.at (.v 1) 35) (.v 4)) (.bi .len (.cons (.at (.at (.v 0) 14) 35) .nil)))) (.ret (.k (.b true))) .skip b93_5)
noncomputable def b94_1 : RS := .ite (.not (.call 93 (.cons (.v 0) (.cons (.v 1) (.cons (.v 4) (.cons (.v 3) .nil)))))) (.ret (.at (.v 1) 42)) .skip .skip
noncomputable def b94_2 : RS := .ret (.at (.v 1) 42)
noncomputable def b94 : RS := .for (.n 4) (.v 2) b94_1 b94_2
noncomputable def b95_1 : RS := .asg 5 (.call 88 (.cons (.v 0) (.cons (.v 2) (.cons (.v 4) .nil)))) (.ite (.isn true (.v 5)) (.ex (.call 58 (.cons (.at (.v 0) 14) (.cons (.sub (.v 5) (.k (.i 1))) (.cons (.bin .add (.sub (.v 5) (.k (.i 2))) (.k (.i 1))) .nil)))) (.ret (.call 94 (.cons (.v 0) (.cons (.call 1000087 (.cons (.sub (.v 5) (.k (.i 0))) (.cons (.bin .add (.sub (.sub (.v 5) (.k (.i 0))) (.neg (.k (.i 1)))) (.k (.i 1))) .nil))) (.cons (.sub (.v 4) (.k (.i 3))) (.cons (.v 3) .nil))))))) .skip .skip)
noncomputable def b95_2 : RS := .ret (.neg (.k (.i 1)))
noncomputable def b95_3 : RS := .for (.n 4) (.call 12 (.cons (.v 1) (.cons (.at (.sub (.at (.at (.v 0) 14) 35) (.v 2)) 22) .nil))) b95_1 b95_2
noncomputable def b95 : RS := .ite (.cmp .eq (.at (.v 0) 19) (.k (.i 0))) (.seti (.at (.v 0) 20) (.k (.i 0)) (.k (.i 0)) .skip) .skip b95_3
noncomputable def b98_1 : RS := .ex (.call 58 (.cons (.at (.v 0) 14) (.cons (.v 4) (.cons (.bin .add (.v 5) (.k (.i 1))) .nil)))) (.seta (.v 3) 22 (.sub (.at (.v 1) 43) (.at (.v 3) 22)) (.ret (.v 2)))
noncomputable def b98_2 : RS := .asg 4 (.call 37 (.cons (.v 0) (.cons (.v 2) (.cons (.call 30 (.cons (.at (.v 1) 1) .nil)) .nil)))) (.asg 5 (.call 36 (.cons (.v 0) (.cons (.v 2) (.cons (.call 30 (.cons (.at (.v 1) 3) .nil)) .nil)))) (.ite (.or (.cmp .lt (.v 4) (.k (.i 0))) (.cmp .lt (.v 5) (.k (.i 0)))) (.ret (.neg (.k (.i 1)))) .skip b98_1))
noncomputable def b98 : RS := .asg 3 (.sub (.at (.at (.v 0) 14) 35) (.v 2)) (.ite (.or (.cmp .gt (.at (.v 0) 19) (.k (.i 0))) (.cmp .notin (.at (.v 3) 22) (.at (.v 1) 43))) (.ret (.neg (.k (.i 1)))) .skip b98_2)
noncomputable def b103_1 : RS := .seta (.v 3) 22 (.sub (.at (.v 1) 43) (.at (.v 3) 22)) (.ret (.bin .add (.v 2) (.k (.i 1))))
noncomputable def b103 : RS := .asg 3 (.sub (.at (.at (.v 0) 14) 35) (.v 2)) (.ite (.cmp .notin (.at (.v 3) 22) (.at (.v 1) 43)) (.ret (.neg (.k (.i 1)))) .skip b103_1)
noncomputable def b104_1 : RS := .asg 8 (.sub (.at (.at (.v 0) 14) 35) (.bin .add (.v 2) (.v 7))) (.seta (.v 8) 28 (.v 6) (.ite (.not (.v 5)) (.seta (.v 8) 26 (.v 7) .skip) .skip .skip))
noncomputable def b104_2 : RS := .ret (.bin .add (.v 2) (.bi .len (.cons (.v 4) .nil)))
noncomputable def b104_3 : RS := .asg 5 (.cmp .ne (.at (.v 3) 25) (.k (.i 0))) (.ex (.call 61 (.cons (.at (.v 0) 14) (.cons (.v 2) (.cons (.k (.i 1)) (.cons (.v 4) .nil))))) (.ite (.v 4) (.asg 6 (.mth (.at (.v 0) 14) 59 .nil) (.for (.n 7) (.bi .range1 (.cons (.bi .len (.cons (.v 4) .nil)) .nil)) b104_1 .skip)) .skip b104_2))
noncomputable def b104_4 : RS := .asg 4 (.sub (.at (.v 1) 43) (.at (.v 3) 22)) (.ite (.cmp .eq (.bi .len (.cons (.v 4) .nil)) (.k (.i 1))) (.seta (.v 3) 22 (.sub (.v 4) (.k (.i 0))) (.ret (.bin .add (.v 2) (.k (.i 1))))) .skip b104_3)
noncomputable def b104 : RS := .asg 3 (.sub (.at (.at (.v 0) 14) 35) (.v 2)) (.ite (.cmp .notin (.at (.v 3) 22) (.at (.v 1) 43)) (.ret (.neg (.k (.i 1)))) .skip b104_4)
noncomputable def b105_1 : RS := .asg 1 (.bin .fdiv (.v 1) (.k (.i 2))) (.asg 2 (.bin .fdiv (.v 2) (.k (.i 2))) .skip)
noncomputable def b105_2 : RS := .ret (.v 2)
noncomputable def b105_3 : RS := .asg 2 (.bin .and (.v 0) (.v 1)) (.wh (.cmp .eq (.bin .mod (.v 1) (.k (.i 2))) (.k (.i 0))) b105_1 b105_2)
noncomputable def b105 : RS := .ite (.cmp .eq (.v 1) (.k (.i 0))) (.ret (.k (.i 0))) .skip b105_3
noncomputable def b106_1 : RS := .seta (.v 3) 22 (.sub (.v 4) (.bin .sub (.v 5) (.k (.i 1)))) (.ret (.bin .add (.v 2) (.k (.i 1))))
noncomputable def b106 : RS := .asg 3 (.sub (.at (.at (.v 0) 14) 35) (.v 2)) (.asg 4 (.get (.at (.v 1) 43) (.at (.v 3) 22) (.tup .nil)) (.asg 5 (.call 105 (.cons (.at (.v 3) 18) (.cons (.at (.v 0) 18) .nil))) (.ite (.not (.c2 (.k (.i 1)) .le (.v 5) .le (.bi .len (.cons (.v 4) .nil)))) (.ret (.neg (.k (.i 1)))) .skip b106_1)))
noncomputable def b108_1 : RS := .ret (.call 95 (.cons (.v 0) (.cons (.v 2) (.cons (.v 3) (.cons (.g 18) .nil)))))
noncomputable def b108_2 : RS := .ite (.cmp .eq (.v 1) (.k (.s 11))) (.ret (.call 98 (.cons (.v 0) (.cons (.v 2) (.cons (.v 3) .nil))))) .skip b108_1
noncomputable def b108_3 : RS := .ite (.cmp .eq (.v 1) (.k (.s 9))) (.ret (.call 82 (.cons (.v 0) (.cons (.v 2) (.cons (.v 3) .nil))))) .skip b108_2
noncomputable def b108_4 : RS := .ite (.cmp .eq (.v 1) (.k (.s 13))) (.ret (.call 106 (.cons (.v 0) (.cons (.v 2) (.cons (.v 3) .nil))))) .skip b108_3
noncomputable def b108_5 : RS := .ite (.cmp .eq (.v 1) (.k (.s 12))) (.ret (.call 104 (.cons (.v 0) (.cons (.v 2) (.cons (.v 3) .nil))))) .skip b108_4
noncomputable def b108 : RS := .ite (.cmp .eq (.v 1) (.k (.s 10))) (.ret (.call 103 (.cons (.v 0) (.cons (.v 2) (.cons (.v 3) .nil))))) .skip b108_5
noncomputable def b109_1 : RS := .asg 3 (.call 108 (.cons (.v 0) (.cons (.at (.at (.v 0) 17) 10) (.cons (.v 2) (.cons (.v 1) .nil))))) (.ite (.cmp .ge (.v 3) (.k (.i 0))) (.ret (.v 3)) .skip .skip)
noncomputable def b109_2 : RS := .ret (.neg (.k (.i 1)))
noncomputable def b109 : RS := .for (.n 2) (.at (.at (.v 0) 17) 13) b109_1 b109_2
noncomputable def b110_1 : RS := .asg 3 (.ite (.call 24 (.cons (.v 0) (.cons (.v 2) .nil))) (.call 109 (.cons (.v 0) (.cons (.v 2) .nil))) (.k .no)) (.ite (.or (.isn false (.v 3)) (.cmp .lt (.v 3) (.k (.i 0)))) (.asg 2 (.bin .add (.v 2) (.k (.i 1))) .skip) (.asg 1 (.bin .add (.v 1) (.k (.i 1))) (.asg 2 (.v 3) .skip)) .skip)
noncomputable def b110_2 : RS := .ret (.v 1)
noncomputable def b110 : RS := .asg 1 (.k (.i 0)) (.asg 2 (.k (.i 0)) (.wh (.cmp .lt (.v 2) (.bi .len (.cons (.at (.at (.v 0) 14) 35) .nil))) b110_1 b110_2))
noncomputable def b111_1 : RS := .ite (.and (.call 24 (.cons (.v 0) (.cons (.v 2) .nil))) (.cmp .ge (.call 109 (.cons (.v 0) (.cons (.v 2) .nil))) (.k (.i 0)))) (.asg 1 (.bin .add (.v 1) (.k (.i 1))) .skip) .skip .skip
noncomputable def b111_2 : RS := .ret (.v 1)
noncomputable def b111 : RS := .asg 1 (.k (.i 0)) (.for (.n 2) (.bi .range3 (.cons (.bin .sub (.bi .len (.cons (.at (.at (.v 0) 14) 35) .nil)) (.k (.i 1))) (.cons (.neg (.k (.i 1))) (.cons (.neg (.k (.i 1))) .nil)))) b111_1 b111_2)
noncomputable def b112_1 : RS := .frz 5 (.ret (.call 110 (.cons (.v 5) .nil)))
noncomputable def b112 : RS := .newI 5 19 (.cons (.v 0) (.cons (.v 1) (.cons (.v 2) (.cons (.sub (.v 2) (.v 3)) (.cons (.v 4) .nil))))) (.ite (.cmp .eq (.at (.at (.v 5) 17) 10) (.k (.s 11))) (.frz 5 (.ret (.call 111 (.cons (.v 5) .nil)))) .skip b112_1)
noncomputable def b117_1 : RS := .asg 3 (.bin .mod (.bin .add (.bin .add (.bin .mul (.v 3) (.k (.i 48271))) (.bin .mod (.v 1) (.k (.i 2147483647)))) (.k (.i 12345))) (.k (.i 2147483647))) .skip
noncomputable def b117_2 : RS := .ret (.mkpot (.comp ([none, none, none]) (.n 1) (.v 2) (.k (.b true)) (.bin .mod (.bi .abs (.cons (.v 1) .nil)) (.bin .pow (.k (.i 10)) (.k (.i 400))))) (.v 3) (.k (.i 0)))
noncomputable def b117 : RS := .asg 2 (.comp ([none, none, none]) (.n 1) (.cut (.v 0) (.k .no) (.k (.i 40))) (.k (.b true)) (.bi .int (.cons (.v 1) .nil))) (.asg 3 (.k (.i 1)) (.for (.n 1) (.v 2) b117_1 b117_2))
noncomputable def b118_1 : RS := .seti (.v 0) (.k (.i 1)) (.bin .mod (.bin .add (.bin .add (.bin .mul (.sub (.v 0) (.k (.i 1))) (.k (.i 16807))) (.bin .mul (.v 2) (.v 2))) (.k (.i 7))) (.k (.i 2147483647))) (.ret (.bin .mod (.bin .fdiv (.sub (.v 0) (.k (.i 1))) (.k (.i 5))) (.v 1)))
noncomputable def b118 : RS := .asg 2 (.sub (.v 0) (.k (.i 2))) (.seti (.v 0) (.k (.i 2)) (.bin .add (.v 2) (.k (.i 1))) (.ite (.sub (.v 0) (.k (.i 0))) (.asg 3 (.bin .mod (.v 2) (.bi .len (.cons (.sub (.v 0) (.k (.i 0))) .nil))) (.asg 4 (.sub (.sub (.v 0) (.k (.i 0))) (.v 3)) (.ite (.cmp .gt (.v 4) (.k (.i 0))) (.seti (.sub (.v 0) (.k (.i 0))) (.v 3) (.bin .fdiv (.v 4) (.v 1)) (.ret (.bin .mod (.v 4) (.v 1)))) .skip .skip))) .skip b118_1))
noncomputable def b119 : RS := .ret (.bin .add (.k (.i 1)) (.call 118 (.cons (.v 0) (.cons (.k (.i 5)) .nil))))
noncomputable def b120 : RS := .ret (.comp ([none, none, none, some 0]) (.n 1) (.bi .range1 (.cons (.call 118 (.cons (.v 0) (.cons (.bin .add (.v 1) (.k (.i 1))) .nil))) .nil)) (.k (.b true)) (.call 119 (.cons (.v 3) .nil)))
noncomputable def b121_1 : RS := .asg 5 (.call 119 (.cons (.v 0) .nil)) (.ite (.cmp .eq (.v 1) (.k (.s 10))) (.put 4 (.v 5) (.call 119 (.cons (.v 0) .nil)) .skip) (.ite (.cmp .eq (.v 1) (.k (.s 9))) (.put 4 (.v 5) (.bin .add (.get (.v 4) (.v 5) (.lst .nil)) (.lst (.cons (.tup (.cons (.bi .tuple (.cons (.call 120 (.cons (.v 0) (.cons (.k (.i 2)) .nil))) .nil)) (.cons (.call 119 (.cons (.v 0) .nil)) .nil))) .nil))) .skip) (.put 4 (.v 5) (.bi .tuple (.cons (.call 120 (.cons (.v 0) (.cons (.k (.i 2)) .nil))) .nil)) .skip) .skip) .skip)
noncomputable def b121_2 : RS := .frz 4 (.ret (.ite (.cmp .eq (.v 1) (.k (.s 12))) (.call 1000101 (.cons (.v 4) .nil)) (.call 1000102 (.cons (.v 4) .nil))))
noncomputable def b121_3 : RS := .ite (.cmp .eq (.v 1) (.k (.s 9))) (.frz 4 (.ret (.call 1000075 (.cons (.v 4) .nil)))) .skip b121_2
noncomputable def b121_4 : RS := .ite (.cmp .eq (.v 1) (.k (.s 10))) (.frz 4 (.ret (.call 1000100 (.cons (.v 4) .nil)))) .skip b121_3
noncomputable def b121_5 : RS := .newD 4 (.for (.n 2) (.bi .range1 (.cons (.bin .add (.k (.i 1)) (.call 118 (.cons (.v 0) (.cons (.k (.i 2)) .nil)))) .nil)) b121_1 b121_4)
noncomputable def b121 : RS := .ite (.cmp .eq (.v 1) (.k (.s 11))) (.asg 3 (.comp ([none, none, none, none, none, some 0]) (.n 1) (.bi .range1 (.cons (.k (.i 2)) .nil)) (.k (.b true)) (.bi .tuple (.cons (.comp ([none, none, none, none, some 5]) (.n 1) (.bi .range1 (.cons (.call 118 (.cons (.v 5) (.cons (.k (.i 2)) .nil))) .nil)) (.k (.b true)) (.call 3 (.cons (.call 120 (.cons (.v 4) (.cons (.k (.i 3)) .nil))) .nil))) .nil))) (.ret (.call 1000097 (.cons (.dct (.cons (.call 119 (.cons (.v 0) .nil)) (.cons (.call 119 (.cons (.v 0) .nil)) .nil))) (.cons (.sub (.v 3) (.k (.i 0))) (.cons (.sub (.v 3) (.k (.i 1))) .nil)))))) .skip b121_5
noncomputable def b122_1 : RS := .ite (.cmp .eq (.v 1) (.k (.i 3))) (.app 4 (.call 3 (.cons (.bin .add (.lst (.cons (.call 119 (.cons (.v 0) .nil)) .nil)) (.call 120 (.cons (.v 0) (.cons (.k (.i 2)) .nil)))) .nil)) .skip) (.app 4 (.ite (.cmp .eq (.v 1) (.k (.i 1))) (.call 119 (.cons (.v 0) .nil)) (.call 118 (.cons (.v 0) (.cons (.k (.i 3)) .nil)))) .skip) .skip
noncomputable def b122_2 : RS := .frz 4 (.ret (.bi .tuple (.cons (.v 4) .nil)))
noncomputable def b122 : RS := .newL 4 .nil (.for (.n 5) (.bi .range1 (.cons (.bin .add (.v 2) (.call 118 (.cons (.v 0) (.cons (.bin .add (.v 3) (.k (.i 1))) .nil)))) .nil)) b122_1 b122_2)
noncomputable def b123_1 : RS := .asg 6 (.call 122 (.cons (.v 0) (.cons (.v 3) (.cons (.k (.i 1)) (.cons (.k (.i 1)) .nil))))) (.asg 7 (.ite (.v 1) (.call 122 (.cons (.v 0) (.cons (.v 3) (.cons (.k (.i 0)) (.cons (.k (.i 1)) .nil))))) (.tup .nil)) (.asg 8 (.ite (.v 1) (.call 122 (.cons (.v 0) (.cons (.v 3) (.cons (.k (.i 0)) (.cons (.k (.i 1)) .nil))))) (.tup .nil)) (.asg 9 (.bi .tuple (.cons (.comp ([none, none, none, none, some 6, some 2, some 0]) (.n 1) (.bi .range1 (.cons (.call 118 (.cons (.v 0) (.cons (.k (.i 4)) .nil))) .nil)) (.k (.b true)) (.tup (.cons (.bin .mod (.call 118 (.cons (.v 6) (.cons (.k (.i 2)) .nil))) (.bi .len (.cons (.v 4) .nil))) (.cons (.bin .add (.bin .add (.v 5) (.k (.i 1))) (.call 118 (.cons (.v 6) (.cons (.k (.i 2)) .nil)))) .nil)))) .nil)) (.asg 10 (.ite (.cmp .lt (.v 3) (.k (.i 3))) (.sub (.v 6) (.k (.i 0))) (.k (.i 0))) (.put 4 (.v 10) (.bin .add (.get (.v 4) (.v 10) (.lst .nil)) (.lst (.cons (.call 1000007 (.cons (.v 7) (.cons (.v 6) (.cons (.v 8) (.cons (.v 9) .nil))))) .nil))) .skip)))))
noncomputable def b123_2 : RS := .asg 11 (.comp ([none, none, none, none, some 3, some 0]) (.n 1) (.bi .range1 (.cons (.k (.i 3)) .nil)) (.k (.b true)) (.ite (.cmp .eq (.v 4) (.k (.i 2))) (.bi .dict (.cons (.comp ([none, none, none, some 5]) (.n 1) (.call 120 (.cons (.v 5) (.cons (.k (.i 4)) .nil))) (.k (.b true)) (.tup (.cons (.v 1) (.cons (.bin .add (.k (.i 1)) (.call 118 (.cons (.v 3) (.cons (.k (.i 2)) .nil)))) .nil)))) .nil)) (.dct .nil))) (.asg 12 (.call 3 (.cons (.ite (.cmp .eq (.v 3) (.k (.i 2))) (.call 120 (.cons (.v 0) (.cons (.k (.i 4)) .nil))) (.lst .nil)) .nil)) (.frz 4 (.ret (.call 1000008 (.cons (.v 3) (.cons (.v 1) (.cons (.v 4) (.cons (.v 12) (.cons (.bi .tuple (.cons (.comp ([none, none, none]) (.n 1) (.v 11) (.k (.b true)) (.call 1000063 (.cons (.v 1) .nil))) .nil)) .nil)))))))))
noncomputable def b123 : RS := .asg 3 (.bin .add (.k (.i 1)) (.call 118 (.cons (.v 0) (.cons (.k (.i 3)) .nil)))) (.newD 4 (.for (.n 5) (.bi .range1 (.cons (.bin .add (.k (.i 1)) (.ite (.cmp .lt (.v 3) (.k (.i 3))) (.call 118 (.cons (.v 0) (.cons (.k (.i 2)) .nil))) (.k (.i 0)))) .nil)) b123_1 b123_2))
noncomputable def b124_1 : RS := .app 3 (.ite (.cmp .isin (.v 2) (.tup (.cons (.k (.s 7)) (.cons (.k (.s 8)) .nil)))) (.call 123 (.cons (.v 0) (.cons (.cmp .eq (.v 2) (.k (.s 8))) (.cons (.v 1) .nil)))) (.call 121 (.cons (.v 0) (.cons (.v 2) .nil)))) .skip
noncomputable def b124_2 : RS := .frz 3 (.ret (.call 1000018 (.cons (.v 2) (.cons (.k (.i 0)) (.cons (.neg (.k (.i 1))) (.cons (.v 3) .nil))))))
noncomputable def b124 : RS := .asg 2 (.sub (.lst (.cons (.k (.s 10)) (.cons (.k (.s 12)) (.cons (.k (.s 13)) (.cons (.k (.s 9)) (.cons (.k (.s 11)) (.cons (.k (.s 7)) (.cons (.k (.s 8)) .nil)))))))) (.call 118 (.cons (.v 0) (.cons (.k (.i 7)) .nil)))) (.newL 3 .nil (.for (.n 4) (.bi .range1 (.cons (.bin .add (.k (.i 1)) (.bin .fdiv (.call 118 (.cons (.v 0) (.cons (.k (.i 4)) .nil))) (.k (.i 3)))) .nil)) b124_1 b124_2))
noncomputable def b125_1 : RS := .asg 4 (.call 1000053 (.cons (.k (.i 0)) (.cons (.call 119 (.cons (.v 0) .nil)) (.cons (.v 2) .nil)))) (.seta (.v 4) 18 (.bin .add (.k (.i 1)) (.call 118 (.cons (.v 0) (.cons (.k (.i 3)) .nil)))) (.app 1 (.v 4) (.asg 2 (.bin .add (.v 2) (.call 118 (.cons (.v 0) (.cons (.k (.i 3)) .nil)))) .skip)))
noncomputable def b125_2 : RS := .adr 1 (.ret (.call 1000054 (.cons (.v 1) .nil)))
noncomputable def b125 : RS := .newL 1 .nil (.asg 2 (.k (.i 0)) (.for (.n 3) (.bi .range1 (.cons (.bin .add (.k (.i 1)) (.call 118 (.cons (.v 0) (.cons (.k (.i 6)) .nil)))) .nil)) b125_1 b125_2))
noncomputable def b126_1 : RS := .ite (.cmp .gt (.bi .len (.cons (.v 11) .nil)) (.k (.i 12))) (.ret (.cmp .eq (.mth (.v 5) 52 .nil) (.v 7))) .skip .skip
noncomputable def b126_2 : RS := .asg 11 (.mth (.v 6) 57 .nil) (.ite (.or (.cmp .ne (.v 11) (.bi .sorted (.cons (.v 11) .nil))) (.and (.v 11) (.cmp .ne (.sub (.v 11) (.k (.i 0))) (.k (.i 0))))) (.ret (.k (.b false))) .skip b126_1)
noncomputable def b126_3 : RS := .ite (.comp ([none, none, some 8]) (.n 1) (.mth (.v 6) 56 .nil) (.cmp .notin (.v 1) (.v 2)) (.v 1)) (.ret (.k (.b false))) .skip b126_2
noncomputable def b126_4 : RS := .asg 9 (.mth (.v 6) 56 .nil) (.asg 10 (.call 112 (.cons (.v 6) (.cons (.call 69 .nil) (.cons (.v 3) (.cons (.v 2) (.cons (.k (.i 3)) .nil)))))) (.ite (.and (.cmp .eq (.v 10) (.k (.i 0))) (.cmp .ne (.mth (.v 6) 56 .nil) (.v 9))) (.ret (.k (.b false))) .skip b126_3))
noncomputable def b126_5 : RS := .ret (.cmp .eq (.mth (.v 5) 52 .nil) (.v 7))
noncomputable def b126 : RS := .asg 1 (.call 117 (.cons (.v 0) .nil)) (.asg 3 (.comp ([none, none, none, some 1]) (.n 1) (.bi .range1 (.cons (.bin .add (.k (.i 1)) (.call 118 (.cons (.v 1) (.cons (.k (.i 3)) .nil)))) .nil)) (.k (.b true)) (.call 124 (.cons (.v 3) (.cons (.v 1) .nil)))) (.asg 4 (.comp ([none, none, none, some 1]) (.n 1) (.bi .range1 (.cons (.bi .len (.cons (.v 3) .nil)) .nil)) (.cmp .lt (.call 118 (.cons (.v 3) (.cons (.k (.i 3)) .nil))) (.k (.i 2))) (.v 1)) (.asg 5 (.call 1000115 (.cons (.dct .nil) (.cons (.lst (.cons (.call 1000114 (.cons (.k (.s 16)) (.cons (.v 4) .nil))) .nil)) (.cons (.v 3) .nil)))) (.asg 6 (.call 125 (.cons (.v 1) .nil)) (.asg 7 (.mth (.v 5) 52 .nil) (.asg 8 (.call 51 (.cons (.v 5) (.cons (.mth (.v 6) 56 .nil) .nil))) (.for (.n 2) (.bin .add (.v 4) (.v 4)) b126_4 b126_5)))))))
noncomputable def b2000 : RS := .seto 0 0 (.v 1) .skip
noncomputable def b2001_1 : RS := .asg 4 (.bin .fdiv (.bin .add (.v 2) (.v 3)) (.k (.i 2))) (.ite (.cmp .lt (.sub (.at (.v 0) 0) (.v 4)) (.v 1)) (.asg 2 (.bin .add (.v 4) (.k (.i 1))) .skip) (.asg 3 (.v 4) .skip) .skip)
noncomputable def b2001_2 : RS := .ret (.neg (.k (.i 1)))
noncomputable def b2001_3 : RS := .ite (.and (.cmp .lt (.v 2) (.bi .len (.cons (.at (.v 0) 0) .nil))) (.cmp .eq (.sub (.at (.v 0) 0) (.v 2)) (.v 1))) (.ret (.v 2)) .skip b2001_2
noncomputable def b2001 : RS := .asg 2 (.k (.i 0)) (.asg 3 (.bi .len (.cons (.at (.v 0) 0) .nil)) (.wh (.cmp .lt (.v 2) (.v 3)) b2001_1 b2001_3))
noncomputable def b2002 : RS := .ret (.cmp .ge (.mth (.v 0) 50 (.cons (.v 1) .nil)) (.k (.i 0)))
noncomputable def b2003 : RS := .ret (.bi .tuple (.cons (.at (.v 0) 0) .nil))
noncomputable def b7000 : RS := .seto 0 1 (.v 1) (.seto 0 2 (.v 2) (.seto 0 3 (.v 3) (.seto 0 4 (.v 4) .skip)))
noncomputable def b7001 : RS := .ret (.tup (.cons (.call 9 (.cons (.at (.v 0) 1) .nil)) (.cons (.call 9 (.cons (.at (.v 0) 2) .nil)) (.cons (.call 9 (.cons (.at (.v 0) 3) .nil)) (.cons (.bi .tuple (.cons (.at (.v 0) 4) .nil)) .nil)))))
noncomputable def b8000 : RS := .seto 0 5 (.v 1) (.seto 0 6 (.v 2) (.seto 0 7 (.v 3) (.seto 0 8 (.v 4) (.seto 0 9 (.v 5) .skip))))
noncomputable def b8001_1 : RS := .ret (.tup (.cons (.at (.v 0) 5) (.cons (.at (.v 0) 6) (.cons (.v 1) (.cons (.mth (.at (.v 0) 8) 52 .nil) (.cons (.bi .tuple (.cons (.comp ([none, none]) (.n 1) (.mth (.v 0) 54 .nil) (.k (.b true)) (.mth (.v 1) 52 .nil)) .nil)) .nil))))))
noncomputable def b8001 : RS := .asg 1 (.bi .tuple (.cons (.comp ([none, none, none, none, some 0]) (.n 1) (.bi .sorted (.cons (.at (.v 0) 7) .nil)) (.cmp .gt (.bi .len (.cons (.sub (.at (.v 4) 7) (.v 1)) .nil)) (.k (.i 0))) (.tup (.cons (.v 1) (.cons (.bi .tuple (.cons (.comp ([none, none]) (.n 1) (.sub (.at (.v 4) 7) (.v 1)) (.k (.b true)) (.mth (.v 1) 52 .nil)) .nil)) .nil)))) .nil)) (.ite (.cmp .ne (.at (.v 0) 5) (.g 0)) (.ret (.tup (.cons (.at (.v 0) 5) (.cons (.at (.v 0) 6) (.cons (.v 1) .nil))))) .skip b8001_1)
noncomputable def b8002 : RS := .ret (.ite (.at (.v 0) 6) (.bi .list (.cons (.at (.v 0) 9) .nil)) (.lst (.cons (.sub (.at (.v 0) 9) (.k (.i 1))) .nil)))
noncomputable def b8003_1 : RS := .app 1 (.v 3) .skip
noncomputable def b8003_2 : RS := .for (.n 3) (.sub (.at (.v 0) 7) (.v 2)) b8003_1 .skip
noncomputable def b8003_3 : RS := .frz 1 (.ret (.v 1))
noncomputable def b8003 : RS := .newL 1 .nil (.for (.n 2) (.bi .sorted (.cons (.at (.v 0) 7) .nil)) b8003_2 b8003_3)
noncomputable def b18000 : RS := .seto 0 10 (.v 1) (.seto 0 11 (.v 2) (.seto 0 12 (.v 3) (.seto 0 13 (.v 4) .skip)))
noncomputable def b18001 : RS := .asg 1 (.ite (.bin .and (.at (.v 0) 11) (.g 2)) (.at (.v 0) 12) (.neg (.k (.i 1)))) (.ret (.tup (.cons (.at (.v 0) 10) (.cons (.at (.v 0) 11) (.cons (.v 1) (.cons (.bi .tuple (.cons (.comp ([none, none]) (.n 1) (.at (.v 0) 13) (.k (.b true)) (.mth (.v 1) 52 .nil)) .nil)) .nil))))))
noncomputable def b19000 : RS := .seto 0 14 (.v 1) (.seto 0 15 (.v 2) (.seto 0 16 (.v 3) (.seto 0 17 (.v 4) (.seto 0 18 (.v 5) (.seto 0 19 (.v 6) (.seto 0 20 .mkstp .skip))))))
noncomputable def b53000 : RS := .seto 0 21 (.v 1) (.seto 0 22 (.v 2) (.seto 0 23 (.v 3) (.seto 0 18 (.k (.i 0)) (.seto 0 24 (.k (.b false)) (.seto 0 25 (.k (.i 0)) (.seto 0 26 (.k (.i 0)) (.seto 0 27 (.k (.i 0)) (.seto 0 28 (.k (.i 0)) (.seto 0 10 (.k (.s 0)) (.seto 0 29 (.k (.i 0)) (.seto 0 30 (.k (.i 0)) (.seto 0 31 (.k (.i 0)) (.seto 0 32 (.k (.i 0)) (.seto 0 33 (.k (.i 0)) (.seto 0 34 (.k (.s 0)) .skip)))))))))))))))
noncomputable def b53001 : RS := .asg 1 (.call 1000053 (.cons (.at (.v 0) 21) (.cons (.at (.v 0) 22) (.cons (.at (.v 0) 23) .nil)))) (.seta (.v 1) 18 (.at (.v 0) 18) (.seta (.v 1) 24 (.at (.v 0) 24) (.seta (.v 1) 25 (.at (.v 0) 25) (.seta (.v 1) 26 (.at (.v 0) 26) (.seta (.v 1) 27 (.at (.v 0) 27) (.seta (.v 1) 28 (.at (.v 0) 28) (.seta (.v 1) 10 (.at (.v 0) 10) (.seta (.v 1) 29 (.at (.v 0) 29) (.seta (.v 1) 30 (.at (.v 0) 30) (.seta (.v 1) 31 (.at (.v 0) 31) (.seta (.v 1) 32 (.at (.v 0) 32) (.seta (.v 1) 33 (.at (.v 0) 33) (.seta (.v 1) 34 (.at (.v 0) 34) (.ret (.v 1)))))))))))))))
noncomputable def b54000 : RS := .seto 0 35 (.v 1) (.seto 0 36 (.v 2) (.seto 0 37 (.k (.i 0)) (.seto 0 38 (.k (.i 0)) .skip)))
noncomputable def b54001 : RS := .ret (.comp ([none, none]) (.n 1) (.at (.v 0) 35) (.k (.b true)) (.at (.v 1) 22))
noncomputable def b54002 : RS := .ret (.comp ([none, none]) (.n 1) (.at (.v 0) 35) (.k (.b true)) (.at (.v 1) 23))
noncomputable def b54004 : RS := .seta (.v 0) 37 (.bin .add (.at (.v 0) 37) (.k (.i 1))) (.ret (.at (.v 0) 37))
noncomputable def b54005 : RS := .seta (.v 0) 38 (.bin .add (.at (.v 0) 38) (.k (.i 1))) (.ret (.at (.v 0) 38))
noncomputable def b63000 : RS := .seto 0 9 (.v 1) .skip
noncomputable def b63001 : RS := .ret (.get (.at (.v 0) 9) (.v 1) (.k (.i 0)))
noncomputable def b63004 : RS := .ret (.bi .tuple (.cons (.comp ([none, none, some 0]) (.n 1) (.bi .sorted (.cons (.at (.v 0) 9) .nil)) (.k (.b true)) (.tup (.cons (.v 1) (.cons (.sub (.at (.v 2) 9) (.v 1)) .nil)))) .nil))
noncomputable def b68000 : RS := .seto 0 9 (.v 1) (.seto 0 39 (.v 2) (.seto 0 7 (.v 3) (.seto 0 40 (.ite (.isn false (.v 4)) (.dct .nil) (.v 4)) (.seto 0 41 (.ite (.isn false (.v 5)) (.dct .nil) (.v 5)) .skip))))
noncomputable def b68001 : RS := .asg 2 (.mth (.at (.v 0) 9) 60 (.cons (.v 1) .nil)) (.ret (.ite (.c2 (.g 9) .le (.v 2) .le (.g 10)) (.v 2) (.g 11)))
noncomputable def b75000 : RS := .seto 0 7 (.v 1) .skip
noncomputable def b75001 : RS := .asg 1 (.comp ([none, none, none, none, none, some 0]) (.n 1) (.bi .sorted (.cons (.at (.v 0) 7) .nil)) (.k (.b true)) (.tup (.cons (.v 1) (.cons (.bi .tuple (.cons (.bi .sorted (.cons (.call 74 (.cons (.sub (.at (.v 5) 7) (.v 1)) .nil)) .nil)) .nil)) .nil)))) (.ret (.bi .tuple (.cons (.comp ([none, none]) (.n 1) (.v 1) (.em true true (.sub (.v 1) (.k (.i 1)))) (.v 1)) .nil)))
noncomputable def b87000 : RS := .seto 0 35 (.v 1) (.seto 0 42 (.v 2) .skip)
noncomputable def b97000 : RS := .seto 0 43 (.v 1) (.seto 0 1 (.v 2) (.seto 0 3 (.v 3) .skip))
noncomputable def b97001 : RS := .asg 1 (.bi .tuple (.cons (.comp ([none, none, some 0]) (.n 1) (.bi .sorted (.cons (.at (.v 0) 43) .nil)) (.k (.b true)) (.tup (.cons (.v 1) (.cons (.sub (.at (.v 2) 43) (.v 1)) .nil)))) .nil)) (.asg 2 (.bi .tuple (.cons (.comp ([none, none]) (.n 1) (.at (.v 0) 1) (.k (.b true)) (.mth (.v 1) 52 .nil)) .nil)) (.ret (.tup (.cons (.v 1) (.cons (.v 2) (.cons (.bi .tuple (.cons (.comp ([none, none]) (.n 1) (.at (.v 0) 3) (.k (.b true)) (.mth (.v 1) 52 .nil)) .nil)) .nil))))))
noncomputable def b100000 : RS := .seto 0 43 (.v 1) .skip
noncomputable def b100001 : RS := .ret (.bin .add (.tup (.cons (.k (.s 10)) .nil)) (.bi .tuple (.cons (.comp ([none, none, some 0]) (.n 1) (.bi .sorted (.cons (.at (.v 0) 43) .nil)) (.k (.b true)) (.tup (.cons (.v 1) (.cons (.sub (.at (.v 2) 43) (.v 1)) .nil)))) .nil)))
noncomputable def b101000 : RS := .seto 0 43 (.v 1) .skip
noncomputable def b101001 : RS := .ret (.bin .add (.tup (.cons (.k (.s 12)) .nil)) (.bi .tuple (.cons (.comp ([none, none, none, some 0]) (.n 1) (.bi .sorted (.cons (.at (.v 0) 43) .nil)) (.k (.b true)) (.tup (.cons (.v 1) (.cons (.bi .tuple (.cons (.sub (.at (.v 3) 43) (.v 1)) .nil)) .nil)))) .nil)))
noncomputable def b102000 : RS := .seto 0 43 (.v 1) .skip
noncomputable def b102001 : RS := .ret (.bin .add (.tup (.cons (.k (.s 13)) .nil)) (.bi .tuple (.cons (.comp ([none, none, none, some 0]) (.n 1) (.bi .sorted (.cons (.at (.v 0) 43) .nil)) (.k (.b true)) (.tup (.cons (.v 1) (.cons (.bi .tuple (.cons (.sub (.at (.v 3) 43) (.v 1)) .nil)) .nil)))) .nil)))
noncomputable def b114000 : RS := .seto 0 44 (.v 1) (.seto 0 16 (.bi .list (.cons (.v 2) .nil)) .skip)
noncomputable def b114001 : RS := .ret (.tup (.cons (.at (.v 0) 44) (.cons (.bi .tuple (.cons (.at (.v 0) 16) .nil)) .nil)))
noncomputable def b115000 : RS := .seto 0 45 (.v 1) (.seto 0 46 (.v 2) (.seto 0 16 (.v 3) .skip))
noncomputable def b115001 : RS := .asg 1 (.bi .tuple (.cons (.comp ([none, none, some 0]) (.n 1) (.bi .sorted (.cons (.at (.v 0) 45) .nil)) (.k (.b true)) (.mth (.sub (.at (.v 2) 45) (.v 1)) 52 .nil)) .nil)) (.asg 2 (.bi .tuple (.cons (.comp ([none, none]) (.n 1) (.at (.v 0) 46) (.k (.b true)) (.mth (.v 1) 52 .nil)) .nil)) (.ret (.tup (.cons (.v 1) (.cons (.v 2) (.cons (.bi .tuple (.cons (.comp ([none, none]) (.n 1) (.at (.v 0) 16) (.k (.b true)) (.mth (.v 1) 52 .nil)) .nil)) .nil))))))
end

end
section
noncomputable section
noncomputable def biV : Bi → Value
  | .len => .builtin "len" | .int => .type "int" | .abs => .builtin "abs" | .min1 => .builtin "min" | .min2 => .builtin "min" | .max2 => .builtin "max" | .sorted => .builtin "sorted" | .list => .type "list" | .tuple => .type "tuple"
  | .dict => .type "dict" | .range1 => .type "range" | .range2 => .type "range" | .range3 => .type "range" | .all => .builtin "all" | .any => .builtin "any" | .isinst => .builtin "isinstance"
noncomputable def fnT : List (Nat × String) := [(3, "coverage_of"), (9, "told_row"), (10, "tests_of"), (11, "rule_tests"), (12, "rules_at"), (20, "attach_wanted"), (21, "class_bit"), (22, "is_ignored"), (23, "passes"), (24, "takes"), (25, "nested_scene"), (29, "glyph_tests"), (30, "cover_tests"), (31, "fits"), (32, "is_borne"), (33, "found_at"), (34, "input_at"), (35, "last_at"), (36, "ahead_at"), (37, "back_at"), (38, "is_piece"), (39, "hold_together"), (42, "named_lookups"), (43, "is_met"), (44, "is_fitted"), (45, "made_by_ligature"), (46, "made_by"), (47, "begun_by"), (48, "nested_steps"), (49, "follow_step"), (50, "follow_all"), (51, "closure_of"), (55, "set_cluster"), (56, "widened"), (57, "merge"), (58, "hang"), (59, "hand_back"), (60, "drop_cluster"), (61, "put"), (69, "no_gdef"), (73, "begins_with"), (74, "live_rows"), (76, "part_count"), (77, "way_of"), (78, "tie"), (79, "tie_behind"), (80, "tie_all"), (81, "join"), (82, "apply_ligature"), (88, "match_rule"), (89, "inner_scene"), (90, "grow"), (91, "shrink"), (92, "move"), (93, "do_action"), (94, "do_actions"), (95, "apply_context"), (98, "apply_reverse"), (103, "apply_single"), (104, "apply_multiple"), (105, "choice_of"), (106, "apply_alternate"), (108, "apply_table"), (109, "substitute_at"), (110, "run_forward"), (111, "run_backward"), (112, "run_substitution"), (117, "_law_pot"), (118, "_law_draw"), (119, "_law_glyph"), (120, "_law_some"), (121, "_law_plain_table"), (122, "_law_row"), (123, "_law_context"), (124, "_law_lookup"), (125, "_law_buffer"), (126, "law"), (1000002, "Coverage"), (1000007, "Rule"), (1000008, "Contexts"), (1000018, "Lookup"), (1000019, "Scene"), (1000053, "Info"), (1000054, "Buffer"), (1000063, "ClassDef"), (1000068, "Gdef"), (1000075, "Ligature"), (1000087, "Places"), (1000097, "Reverse"), (1000100, "Single"), (1000101, "Multiple"), (1000102, "Alternate"), (1000114, "Feature"), (1000115, "Layout")]
noncomputable def glT : List String := ["BY_CLASSES", "BY_GLYPHS", "USE_SET", "IGNORE_BASES", "IGNORE_LIGATURES", "IGNORE_MARKS", "KINDS_IN_INPUT", "KINDS_AROUND", "CONTEXT_KINDS", "BASE_gdef", "COMPONENT", "NO_CLASS", "BASE_ligature", "MARK", "MOST_DEPTH", "MOST_ACTIONS", "MOST_PLACES", "Coverage", "substitute_at"]
noncomputable def biN : Bi → String
  | .len => "len" | .int => "int" | .abs => "abs" | .min1 => "min" | .min2 => "min" | .max2 => "max" | .sorted => "sorted" | .list => "list" | .tuple => "tuple" | .dict => "dict" | .range1 => "range" | .range2 => "range" | .range3 => "range" | .all => "all" | .any => "any" | .isinst => "isinstance"
noncomputable def pO : Pos := ⟨0, 0, 0, 0⟩
noncomputable def topS (i : Nat) : Stmt := PySem.Challenge.pw_nu0239_01.main.body.getD i (.Pass pO)
noncomputable def stmP : Stmt → Arguments × List Stmt × Scope
  | .FunctionDef _ a b _ _ _ s _ _ _ => (a, b, s)
  | .ClassDef _ _ _ b .. => (⟨[], [], none, [], [], none, []⟩, b, PySem.Challenge.pw_nu0239_01.main.scope)
  | _ => (⟨[], [], none, [], [], none, []⟩, [], PySem.Challenge.pw_nu0239_01.main.scope)
noncomputable def stA (s : Stmt) : Arguments := (stmP s).1
noncomputable def stB (s : Stmt) : List Stmt := (stmP s).2.1
noncomputable def stS (s : Stmt) : Scope := (stmP s).2.2
noncomputable def clsS (i j : Nat) : Stmt := (stB (topS i)).getD j (.Pass pO)
noncomputable def stm (k : Nat) : Stmt := bif Nat.blt k 1000 then topS k else clsS (k / 1000) (k % 1000)
noncomputable def cod : List (Nat × Nat × Bool × RS) := [(3, 1, false, b3), (9, 1, false, b9), (10, 3, false, b10), (11, 2, false, b11), (12, 2, false, b12), (21, 1, false, b21), (22, 3, false, b22), (23, 2, false, b23), (24, 2, false, b24), (25, 2, false, b25), (29, 1, false, b29), (30, 1, false, b30), (31, 2, false, b31), (32, 2, false, b32), (33, 6, false, b33), (34, 3, false, b34), (35, 4, false, b35), (36, 3, false, b36), (37, 3, false, b37), (38, 1, false, b38), (39, 2, false, b39), (42, 1, false, b42), (43, 2, false, b43), (44, 2, false, b44), (45, 3, false, b45), (46, 4, false, b46), (47, 4, false, b47), (48, 3, false, b48), (49, 3, false, b49), (50, 2, false, b50), (51, 2, false, b51), (55, 2, false, b55), (56, 3, false, b56), (57, 3, false, b57), (58, 3, false, b58), (59, 3, false, b59), (60, 2, false, b60), (61, 4, false, b61), (69, 0, false, b69), (73, 2, false, b73), (74, 1, false, b74), (76, 1, false, b76), (77, 2, false, b77), (78, 4, false, b78), (79, 6, false, b79), (80, 4, false, b80), (81, 3, false, b81), (82, 3, false, b82), (88, 3, false, b88), (89, 2, false, b89), (90, 3, false, b90), (91, 3, false, b91), (92, 3, false, b92), (93, 4, false, b93), (94, 4, false, b94), (95, 4, false, b95), (98, 3, false, b98), (103, 3, false, b103), (104, 3, false, b104), (105, 2, false, b105), (106, 3, false, b106), (108, 4, false, b108), (109, 2, false, b109), (110, 1, false, b110), (111, 1, false, b111), (112, 5, false, b112), (117, 1, false, b117), (118, 2, false, b118), (119, 1, false, b119), (120, 2, false, b120), (121, 2, false, b121), (122, 4, false, b122), (123, 3, false, b123), (124, 2, false, b124), (125, 1, false, b125), (126, 1, false, b126), (2000, 2, true, b2000), (2001, 2, false, b2001), (2002, 2, false, b2002), (2003, 1, false, b2003), (7000, 5, true, b7000), (7001, 1, false, b7001), (8001, 1, false, b8001), (8002, 1, false, b8002), (8003, 1, false, b8003), (18000, 5, true, b18000), (18001, 1, false, b18001), (53000, 4, true, b53000), (53001, 1, false, b53001), (54001, 1, false, b54001), (54002, 1, false, b54002), (54004, 1, false, b54004), (54005, 1, false, b54005), (63000, 2, true, b63000), (63001, 2, false, b63001), (63004, 1, false, b63004), (68001, 2, false, b68001), (75000, 2, true, b75000), (75001, 1, false, b75001), (87000, 3, true, b87000), (97000, 4, true, b97000), (97001, 1, false, b97001), (100000, 2, true, b100000), (100001, 1, false, b100001), (101000, 2, true, b101000), (101001, 1, false, b101001), (102000, 2, true, b102000), (102001, 1, false, b102001), (114000, 3, true, b114000), (114001, 1, false, b114001), (115000, 4, true, b115000), (115001, 1, false, b115001)]
end

end
section
section
variable {cx : Cx} {d : Nat} {σ : St} {Q : U → St → Prop} {R : List U → St → Prop}
noncomputable abbrev Getter := Addr → Option Obj
noncomputable def Getter.In (get : Getter) (h : Heap) : Prop := ∀ a o, get a = some o → h.get? a = some o
noncomputable def refD : Value → Addr
  | .ref a => a
  | _ => 0
noncomputable def tokD : Value → Tok
  | .int _ t => t
  | .str _ t => t
  | _ => default
noncomputable def fdD : Data → FuncData
  | .func f => f
  | _ => default
noncomputable def cdD : Data → ClassData
  | .cls c => c
  | _ => default
noncomputable def esD : Data → Array DictEntry
  | .dict es _ => es
  | _ => #[]
noncomputable def epD : Data → Nat
  | .dict _ n => n
  | .seq _ n => n
  | _ => 0
noncomputable def wsD : Data → Array Value
  | .seq ws _ => ws
  | .fields ws => ws
  | _ => #[]
noncomputable def strK (e : DictEntry) : Value := .str (match e.key with | .str n _ => n | _ => default) (tokD e.key)
noncomputable def meths : List (Nat × Str × Nat) := mths.flatMap fun p => p.2.map fun q => (p.1, aN q.1, q.2)
noncomputable def inits : List (Nat × Str × Nat) := cF.map fun p => (p.1, "__init__", 1000 * p.1)
noncomputable def mnm (k : Nat) : Str := match (inits ++ meths).find? fun p => Nat.beq k p.2.2 with
  | some p => p.2.1
  | none => default
section
variable (get : Getter)
noncomputable def ob (a : Addr) : Obj := (get a).getD default
noncomputable def esA (a : Addr) : Array DictEntry := esD (ob get a).data
noncomputable def gl (x : Str) : Option Value := nsFind (esA get mainGlobals) x
noncomputable def glv (k : Nat) : Value := match lkN k fnT with
  | some n => (gl get (Str.ofString n)).getD .none
  | none => .none
noncomputable def caA (c : Nat) : Addr := refD (glv get (1000000 + c))
noncomputable def cdA (c : Nat) : ClassData := cdD (ob get (caA get c)).data
noncomputable def esC (c : Nat) : Array DictEntry := esA get (cdA get c).ns
noncomputable def fvA (k : Nat) : Value := match lkN k fnT with
  | some n => (gl get (Str.ofString n)).getD .none
  | none => (nsFind (esC get (k / 1000)) (mnm k)).getD .none
noncomputable def faA (k : Nat) : Addr := refD (fvA get k)
noncomputable def fdA (k : Nat) : FuncData := fdD (ob get (faA get k)).data
noncomputable def NsA (a : Addr) : Option Data × List Value := ((get a).map Obj.data, (esA get a).toList.map (·.key))
noncomputable def NsB (a : Addr) : Option Data × List Value := (some (.dict (esA get a) (epD (ob get a).data)), (esA get a).toList.map strK)
noncomputable def ClA (c : Nat) : Value × Option Obj := (fvA get (1000000 + c), get (caA get c))
noncomputable def kS (c i : Nat) : Option Value := ((ob get (caA get c)).slots[i]?).getD none
noncomputable def ClB (c : Nat) : Value × Option Obj := (.ref (caA get c), some (excClassObj (cdA get c).name (cdA get c).qualname (caA get c) (cdA get c).ns (cdA get c).bases [.type "object"] true (cdA get c).slotNames (cdA get c).subclasses false (cdA get c).collection (ob get (caA get c)).dict (kS get c 0) (kS get c 1) (kS get c 2) (kS get c 3) (kS get c 5) "object.__new__"))
noncomputable def quiet (c : Nat) : List Str := "__getattribute__" :: "__getattr__" :: "__setattr__" :: cN c
noncomputable def QuA (c : Nat) : List (Option Value) := (quiet c).map (nsFind (esC get c))
noncomputable def QuB (c : Nat) : List (Option Value) := (quiet c).map fun _ => none
noncomputable def MeA (p : Nat × Str × Nat) : Option Value × Value × Option Value := (nsFind (esC get p.1) p.2.1, fvA get p.2.2, (get (faA get p.2.2)).map Obj.cls)
noncomputable def MeB (p : Nat × Str × Nat) : Option Value × Value × Option Value := (some (.ref (faA get p.2.2)), .ref (faA get p.2.2), some (.type "function"))
noncomputable def FnA (k : Nat) : Value × Option Obj × Value × Option Data × Option Value := (fvA get k, get (faA get k), (fdA get k).code, (get (refD (fdA get k).code)).map Obj.data, (wsD (ob get (refD (fdA get k).code)).data)[1]?)
noncomputable def FnB (dv : Value) (k : Nat) : Value × Option Obj × Value × Option Data × Option Value := (.ref (faA get k),
  some ⟨.type "function", (ob get (faA get k)).dict, .func (fnOf (fdA get k).name (fdA get k).qualname (stA (stm k)) (stB (stm k)) (stS (stm k)) dv (fdA get k).kwdefaults (fdA get k).doc (fdA get k).pyModule (fdA get k).annotations (fdA get k).code (fdA get k).closureTuple), (ob get (faA get k)).slots⟩,
  .ref (refD (fdA get k).code), some (.fields (wsD (ob get (refD (fdA get k).code)).data)), some (.str (fdA get k).qualname (tokD (((wsD (ob get (refD (fdA get k).code)).data)[1]?).getD .none))))
noncomputable def dfT (k : Nat) : Addr := refD (fdA get k).defaults
noncomputable def dfs : List Nat := [8000, 19000, 54000, 68000]
noncomputable def dfW (k : Nat) : List Value := match k with
  | 19000 => [.int 0 (tokD (((wsD (ob get (dfT get k)).data)[0]?).getD .none))]
  | 54000 => [.bool false]
  | _ => [.none, .none]
noncomputable def DfA (k : Nat) : (Value × Option Obj × Value × Option Data × Option Value) × Option Data := (FnA get k, (get (dfT get k)).map Obj.data)
noncomputable def DfB (k : Nat) : (Value × Option Obj × Value × Option Data × Option Value) × Option Data := (FnB get (.ref (dfT get k)) k, some (.seq (dfW get k).toArray (epD (ob get (dfT get k)).data)))
noncomputable def NmA (p : Nat × String) : Option Value := gl get (Str.ofString p.2)
noncomputable def NmB (p : Nat × String) : Option Value := some (fvA get p.1)
noncomputable def strB : U → Value → Value
  | .s k, w => .str (sT k) (tokD w)
  | _, _ => .none
noncomputable def strL : List U → List Value → List Value
  | [], _ => []
  | u :: l, ws => strB u (ws.headD .none) :: strL l ws.tail
noncomputable def CoA (p : String × U) : Option Value × List Value × Option Obj := let v := (gl get (Str.ofString p.1)).getD .none; (gl get (Str.ofString p.1), (match p.2 with | .tu _ => (wsD (ob get (refD v)).data).toList | _ => []), (match p.2 with | .tu _ => get (refD v) | _ => none))
noncomputable def CoB (p : String × U) : Option Value × List Value × Option Obj := let v := (gl get (Str.ofString p.1)).getD .none; match p.2 with
  | .i x => (some (.int x (tokD v)), [], none)
  | .f k => (some (fvA get k), [], none)
  | .tu l => (some (.ref (refD v)), strL l (wsD (ob get (refD v)).data).toList, some (tupO (wsD (ob get (refD v)).data) (epD (ob get (refD v)).data)))
  | _ => (none, [], none)
noncomputable def bis : List Bi := [.len, .int, .abs, .min1, .min2, .max2, .sorted, .list, .tuple, .dict, .range1, .range2, .range3, .all, .any, .isinst]
noncomputable def BiA (w : Bi) : Option Value × Option Value := (gl get (Str.ofString (biN w)), nsFind (esA get builtinsNs) (Str.ofString (biN w)))
noncomputable def BiB (w : Bi) : Option Value × Option Value := (none, some (biV w))
noncomputable def nss : List Addr := [mainGlobals, builtinsNs, cStatics] ++ cF.map fun p => (cdA get p.1).ns
noncomputable def OtA : Option Value × Option Obj := (nsFind (esA get cStatics) "sys.recursionlimit", get sysModules)
noncomputable def OtB : Option Value × Option Obj := (none, some (ob get sysModules))
noncomputable def LkA := ((nss get).map (NsA get), cF.map (fun p => ClA get p.1), cF.map (fun p => QuA get p.1), (inits ++ meths).map (MeA get), cod.map (fun p => FnA get p.1), dfs.map (DfA get), fnT.map (NmA get), (glT.zip glV).map (CoA get), bis.map (BiA get), OtA get)
noncomputable def LkB := ((nss get).map (NsB get), cF.map (fun p => ClB get p.1), cF.map (fun p => QuB p.1), (inits ++ meths).map (MeB get), cod.map (fun p => FnB get .none p.1), dfs.map (DfB get), fnT.map (NmB get), (glT.zip glV).map (CoB get), bis.map (BiB), OtB get)
variable {get}
theorem lk1 (e : LkA get = LkB get) : ∀ a ∈ nss get, NsA get a = NsB get a := List.map_inj_left.mp (congrArg (fun x => x.1) e)
theorem lk2 (e : LkA get = LkB get) : ∀ p ∈ cF, ClA get p.1 = ClB get p.1 := List.map_inj_left.mp (congrArg (fun x => x.2.1) e)
theorem lk3 (e : LkA get = LkB get) : ∀ p ∈ cF, ∀ x ∈ quiet p.1, nsFind (esC get p.1) x = none := fun p hp => List.map_inj_left.mp ((List.map_inj_left.mp (congrArg (fun x => x.2.2.1) e) : ∀ p ∈ cF, QuA get p.1 = QuB p.1) p hp)
theorem lk4 (e : LkA get = LkB get) : ∀ p ∈ inits ++ meths, MeA get p = MeB get p := List.map_inj_left.mp (congrArg (fun x => x.2.2.2.1) e)
theorem lk5 (e : LkA get = LkB get) : ∀ p ∈ cod, FnA get p.1 = FnB get .none p.1 := List.map_inj_left.mp (congrArg (fun x => x.2.2.2.2.1) e)
theorem lk6 (e : LkA get = LkB get) : ∀ p ∈ dfs, DfA get p = DfB get p := List.map_inj_left.mp (congrArg (fun x => x.2.2.2.2.2.1) e)
theorem lk7 (e : LkA get = LkB get) : ∀ p ∈ fnT, NmA get p = NmB get p := List.map_inj_left.mp (congrArg (fun x => x.2.2.2.2.2.2.1) e)
theorem lk8 (e : LkA get = LkB get) : ∀ p ∈ glT.zip glV, CoA get p = CoB get p := List.map_inj_left.mp (congrArg (fun x => x.2.2.2.2.2.2.2.1) e)
theorem lk9 (e : LkA get = LkB get) : ∀ p ∈ bis, BiA get p = BiB p := List.map_inj_left.mp (congrArg (fun x => x.2.2.2.2.2.2.2.2.1) e)
theorem lk0 (e : LkA get = LkB get) : OtA get = OtB get := congrArg (fun x => x.2.2.2.2.2.2.2.2.2) e
end
end

end
section
noncomputable section
noncomputable def insAll : Nat → List Obj → BT → BT
  | _, [], t => t
  | n, o :: r, t => insAll (n + 1) r (t.ins n o)
noncomputable def bootT (P : Params) (os : OsState) : SharedT := ⟨insAll 0 (boot_heap P).objs.toList .nil, 11, (boot_heap P).life, #[], boot_drawn, boot_toks, os⟩
noncomputable def treeGet (s : SharedT) : Getter := fun a => match Nat.blt a s.n with
  | true => (match s.tree.get a with | some o => alive o | none => none)
  | false => none
noncomputable def pLaw : Program := PySem.Challenge.rw_nu0239_01.prog
noncomputable def modsL : List Str := importedModules pLaw.main.body
noncomputable def topLooks (P : Params) (s : Shared) : Bool := staticsOk modsL (boot_heap P) s.heap && namesBound pLaw s.heap && gensDone s && laidKept (boot_heap P) s.heap
noncomputable def qLaw : Program := view pLaw [126]
noncomputable def looseL : List Str := pLaw.boundNames.filter fun n => n != Str.ofString "law"
noncomputable def theRun (w : World) (os : OsState) (ann : Option Value) : Option (Flow × SharedT × Code × Pos) := Fast.tw10110043849684766642 Fast.tw14364793385576792824 pLaw w 11 ann 0 20000 (bootT w.params os) (topStub pLaw)
set_option maxHeartbeats 0 in
theorem t3 (w : World) (os : OsState) (ann : Option Value) : (theRun w os ann).elim none (fun r => some (LkA (treeGet r.2.1))) = (theRun w os ann).elim (some (LkA fun _ => none)) fun r => some (LkB (treeGet r.2.1)) := by kernel_rfl
set_option maxHeartbeats 0 in
theorem t5 (w : World) (os : OsState) (ann : Option Value) : (theRun w os ann).map (fun r => (topLooks w.params r.2.1.abs, openSeen qLaw looseL modsL (fun _ => true) true r.2.1.abs)) = some (true, openGood qLaw looseL) := by kernel_rfl
end

end
section
noncomputable section
structure AOk (A : Around) (d : Nat) : Prop where
  hh : A.handled = none
  dep : A.depth + d ≤ recursionLimit
  un : A.units + 8 * d ≤ 9000
noncomputable abbrev MD (cx : Cx) : Model := model cx.prog cx.w
noncomputable abbrev NoE : Value → Shared → Prop := fun _ _ => False
noncomputable abbrev Wd.pr {cx : Cx} (W : Wd cx) : U → Value → Prop := PR cx W.G W.μ
noncomputable abbrev Wd.prs {cx : Cx} (W : Wd cx) : List U → List Value → Prop := PRs cx W.G W.μ
noncomputable def KeepOk (cx : Cx) (fw : Value) (A : Around) (s : Shared) : Prop := ∀ (Q : Keeper → Shared → Prop) (E : Value → Shared → Prop), (∀ k, Q k s) → wpAny (MD cx) A (keeperOf fw) Q E s
structure CallT (cx : Cx) (d k : Nat) (us : List U) (σ : St) (Q : U → St → Prop) : Prop where
  h : ∀ (A : Around) (W : Wd cx) (ws : List Value) (Qm : Value → Shared → Prop), AOk A d → W.σ = σ → W.prs us ws → (∀ w u W', Le PF W W' → W'.pr u w → Q u W'.σ → Qm w W'.s) →
    KeepOk cx (cx.fv k) A W.s ∧ wpAny (MD cx) A (call (cx.fv k) ws) Qm NoE W.s
end

end
section
noncomputable section
theorem AOk.in1 {A : Around} {d : Nat} (x : AOk A (d + 1)) : AOk A.in1 d := ⟨x.1, by have := x.2; show A.depth + d ≤ _; lia, by have := x.3; show A.units + 1 + 8 * d ≤ _; lia⟩
theorem AOk.deeper {A : Around} {d : Nat} {env : Env} (x : AOk A (d + 1)) : AOk (A.deeper env) d := ⟨x.1, by have := x.2; show A.depth + 1 + d ≤ _; lia, by have := x.3; show A.units + 3 + 8 * d ≤ _; lia⟩
noncomputable def ownC : U → Cell → Prop
  | .ol l => fun c => c = .L l
  | .od ks l => fun c => ∃ o, c = .D o ks l
  | .ok ks => fun c => c = .S ks
  | .oi k l => fun c => ∃ d, c = .I k d l
  | _ => fun _ => False
inductive OwR {cx : Cx} (W : Wd cx) (C : Cell → Prop) : Value → Prop
  | mk (a : Addr) (c : Cell) (hc : C c) (e : W.H a = some c) (n : ∀ l, W.μ l ≠ some a) : OwR W C (.ref a)
noncomputable def VR {cx : Cx} (W : Wd cx) (u : U) (w : Value) : Prop := match u.pl with
  | true => W.pr u w
  | false => OwR W (ownC u) w
section
variable {cx : Cx} {A : Around} {d : Nat} {P : Addr → Prop} {W W' : Wd cx} {u v : U} {x y w : Value}
theorem VR.of (h : W.pr u w) (p : u.pl = true) : VR W u w := by unfold VR; rw [p]; exact h
theorem VR.pr (h : VR W u w) (p : u.pl = true) : W.pr u w := by unfold VR at h; rw [p] at h; exact h
theorem Le.pr (x : Le P W W') (h : W.pr u w) : W'.pr u w := PR.mono x.g x.m _ _ h
theorem Le.prs (x : Le P W W') {us ws} (h : W.prs us ws) : W'.prs us ws := PRs.mono x.g x.m _ _ h
theorem Le.vr (x : Le P W W') (h : VR W u w) : VR W' u w := by
  unfold VR at h ⊢
  split
  · rename_i e; rw [e] at h; exact x.pr h
  · rename_i e; rw [e] at h; exact OwR.rec (fun a c hc e n => .mk a c hc (x.ow _ _ e n).1 (x.ow _ _ e n).2) h
noncomputable abbrev KV (W : Wd cx) (Q : U → St → Prop) (Qm : Value → Shared → Prop) : Prop := ∀ w u W', Le PF W W' → VR W' u w → Q u W'.σ → Qm w W'.s
noncomputable abbrev KB (W : Wd cx) (P N : St → Prop) (Qm : Bool → Shared → Prop) : Prop := ∀ b W', Le PF W W' → ifB b (P W'.σ) (N W'.σ) → Qm b W'.s
variable {Q : U → St → Prop} {Qm : Value → Shared → Prop} {Pt Nt : St → Prop} {Qb : Bool → Shared → Prop} {E : Value → Shared → Prop}
noncomputable def Wd.gr (W : Wd cx) (s' : Shared) (k : ∀ b o, W.s.heap.get? b = some o → s'.heap.get? b = some o) : Wd cx := W.to s' fun b o _ => k b o
theorem Le.gr {s' : Shared} {k : ∀ b o, W.s.heap.get? b = some o → s'.heap.get? b = some o} (hg : s'.gens = W.s.gens) (ho : s'.os = W.s.os) : Le P W (W.gr s' k) := Le.to (fun b o _ => k b o) _ hg ho
noncomputable def Wd.tk (W : Wd cx) (n : Nat) : Wd cx := W.gr { W.s with toks := n } fun _ _ e => e
theorem Le.tk {n : Nat} : Le P W (W.tk n) := Le.gr rfl rfl
theorem KV.int {n t : Nat} {i : Int} (k : KV W Q Qm) (q : Q (.i i) W.σ) : Qm (.int i t) { W.s with toks := n } := k _ (.i i) (W.tk n) Le.tk (show IntR i _ from .mk t) q
theorem KV.boo {b : Bool} (k : KV W Q Qm) (q : Q (.b b) W.σ) : Qm (.bool b) W.s := k _ (.b b) W Le.refl (show Value.bool b = _ from rfl) q
theorem wpAny_no {α : Type} {t : Sem α} {Q : α → Shared → Prop} {s : Shared} (h : wpAny (MD cx) A t Q NoE s) : wpAny (MD cx) A t Q E s := wpAny_mono h (fun _ _ x => x) fun _ _ x => x.elim
theorem intU.go {f : Int → Int → Prop} {C : Prop} (hu : VR W u x) (hv : VR W v y) (h : intU u v f) (k : ∀ a b s t, x = .int a s → y = .int b t → f a b → C) : C :=
  OnI.rec (motive := fun u _ => VR W u x → C) (fun a h hu => OnI.rec (motive := fun v _ => VR W v y → C) (fun b h hv => IntR.rec (motive := fun z _ => z = x → C) (fun s e1 => IntR.rec (motive := fun z _ => z = y → C) (fun t e2 => k _ _ s t e1.symm e2.symm h) (show IntR b y from hv) rfl) (show IntR a x from hu) rfl) h.inv hv) h.inv hu
noncomputable def opB : Bop → Operator
  | .add => .Add | .sub => .Sub | .mul => .Mult | .mod => .Mod | .fdiv => .FloorDiv | .and => .BitAnd | .pow => .Pow
noncomputable def opC : Cop → CmpOp
  | .eq => .Eq | .ne => .NotEq | .lt => .Lt | .le => .LtE | .gt => .Gt | .ge => .GtE | .isin => .In | .notin => .NotIn
theorem bin_int (hu : VR W u x) (hv : VR W v y) {o : Bop} (no : o ≠ .add) (h : binU o u v fun z => Q z W.σ) (k : KV W Q Qm) : wpAny (MD cx) A (binaryOp (opB o) x y) Qm NoE W.s := by
  cases o with
  | add => exact absurd rfl no
  | sub => exact intU.go hu hv h fun a b s t e1 e2 q => e1 ▸ e2 ▸ sub_int (k.int q)
  | mul => exact intU.go hu hv h fun a b s t e1 e2 q => e1 ▸ e2 ▸ PyProof.Rows.mul_int (k.int q.2) q.1
  | mod => exact intU.go hu hv h fun a b s t e1 e2 q => e1 ▸ e2 ▸ PyProof.Rows.mod_int q.1 (k.int q.2)
  | fdiv => exact intU.go hu hv h fun a b s t e1 e2 q => e1 ▸ e2 ▸ PyProof.Rows.floordiv_int q.1.1 (k.int q.2) (.inl q.1.2)
  | and => exact intU.go hu hv h fun a b s t e1 e2 q => e1 ▸ e2 ▸ PyProof.Rows.and_int (k.int q)
  | pow => exact intU.go hu hv h fun a b s t e1 e2 q => e1 ▸ e2 ▸ pow_int_small q.1.1 q.1.2.1 q.1.2.2 (k.int q.2)
theorem ifB.not {c : Bool} {P N : Prop} (h : ifB c P N) : ifB (!c) N P := by cases c <;> exact h
theorem KB.go {b : Bool} (k : KB W Pt Nt fun b s => Qm (.bool b) s) (q : ifB b (Pt W.σ) (Nt W.σ)) {n : Nat} : Qm (.bool b) { W.s with toks := n } := k b (W.tk n) Le.tk q
theorem cmp_int (hu : VR W u x) (hv : VR W v y) {o : Cop} (h : match o with | .lt => intU u v fun a b => ifB (decide (a < b)) (Pt W.σ) (Nt W.σ) | .le => intU u v fun a b => ifB (decide (a ≤ b)) (Pt W.σ) (Nt W.σ) | .gt => intU u v fun a b => ifB (decide (b < a)) (Pt W.σ) (Nt W.σ) | .ge => intU u v fun a b => ifB (decide (b ≤ a)) (Pt W.σ) (Nt W.σ) | _ => False)
    (k : KB W Pt Nt fun b s => Qm (.bool b) s) : wpAny (MD cx) A (compareOp (opC o) x y) Qm NoE W.s := by
  cases o with
  | lt => exact intU.go hu hv h fun a b s t e1 e2 q => e1 ▸ e2 ▸ PyProof.Rows.lt_int (k.go q (n := W.s.toks))
  | le => exact intU.go hu hv h fun a b s t e1 e2 q => e1 ▸ e2 ▸ PyProof.Rows.le_int (k.go q (n := W.s.toks))
  | gt => exact intU.go hu hv h fun a b s t e1 e2 q => e1 ▸ e2 ▸ PyProof.Rows.gt_int (k.go q (n := W.s.toks))
  | ge => exact intU.go hu hv h fun a b s t e1 e2 q => e1 ▸ e2 ▸ PyProof.Rows.ge_int (k.go q (n := W.s.toks))
  | _ => exact h.elim
theorem neg_ok {f : Int → Prop} (hu : VR W u x) (h : intU u u fun a _ => Q (.i (-a)) W.σ) (k : KV W Q Qm) : wpAny (MD cx) A (unaryOp .USub x) Qm NoE W.s :=
  intU.go hu hu h fun a b s t e1 e2 q => e1 ▸ PyProof.Rows.neg_int (k.int q)
end
end

end
section
noncomputable section
section
variable {cx : Cx} {G : GM} {μ : LM}
theorem PRs.ci {P : List U → List Value → Prop} (nil : P [] []) (cons : ∀ v vs w ws, PR cx G μ v w → PRs cx G μ vs ws → P vs ws → P (v :: vs) (w :: ws)) : ∀ us ws, PRs cx G μ us ws → P us ws
  | [], _, h => (show _ = [] from h) ▸ nil
  | v :: vs, _, h => ConsR.rec (fun w ws p q => cons v vs w ws p q (PRs.ci nil cons vs ws q)) h
theorem PRs.len {us ws} (h : PRs cx G μ us ws) : ws.length = us.length := PRs.ci (P := fun us ws => ws.length = us.length) rfl (fun _ _ _ _ _ _ e => congrArg (· + 1) e) _ _ h
theorem PRs.sz {us} {ws : Array Value} (h : PRs cx G μ us ws.toList) : ws.size = us.length := h.len
theorem PRs.cons {u w us ws} (h : PR cx G μ u w) (h2 : PRs cx G μ us ws) : PRs cx G μ (u :: us) (w :: ws) := ConsR.mk w ws h h2
theorem PRs.append {us ws us' ws'} (h : PRs cx G μ us ws) (h2 : PRs cx G μ us' ws') : PRs cx G μ (us ++ us') (ws ++ ws') :=
  PRs.ci (P := fun us ws => PRs cx G μ (us ++ us') (ws ++ ws')) h2 (fun _ _ _ _ p _ ih => .cons p ih) _ _ h
theorem PRs.snoc {us ws u w} (h : PRs cx G μ us ws) (h2 : PR cx G μ u w) : PRs cx G μ (us ++ [u]) (ws ++ [w]) := h.append (.cons h2 rfl)
theorem PRs.get {us ws} (h : PRs cx G μ us ws) : ∀ {i : Nat} {u}, us[i]? = some u → ∃ w, ws[i]? = some w ∧ PR cx G μ u w :=
  PRs.ci (P := fun us ws => ∀ {i : Nat} {u}, us[i]? = some u → ∃ w, ws[i]? = some w ∧ PR cx G μ u w) (fun e => nomatch e) (fun v vs w ws p _ ih {i u} e => match i, e with
    | 0, e => ⟨w, rfl, Option.some.inj e ▸ p⟩
    | i + 1, e => ih e) _ _ h
theorem PRs.drop {us ws} (h : PRs cx G μ us ws) : ∀ n, PRs cx G μ (us.drop n) (ws.drop n) :=
  PRs.ci (P := fun us ws => ∀ n, PRs cx G μ (us.drop n) (ws.drop n)) (fun n => by cases n <;> exact rfl) (fun v vs w ws p q ih n => match n with
    | 0 => .cons p q
    | n + 1 => ih n) _ _ h
theorem PRs.take {us ws} (h : PRs cx G μ us ws) : ∀ n, PRs cx G μ (us.take n) (ws.take n) :=
  PRs.ci (P := fun us ws => ∀ n, PRs cx G μ (us.take n) (ws.take n)) (fun n => by cases n <;> exact rfl) (fun v vs w ws p q ih n => match n with
    | 0 => rfl
    | n + 1 => .cons p (ih n)) _ _ h
theorem PRs.set {us ws} (h : PRs cx G μ us ws) : ∀ {n u w}, PR cx G μ u w → PRs cx G μ (us.set n u) (ws.set n w) :=
  PRs.ci (P := fun us ws => ∀ {n u w}, PR cx G μ u w → PRs cx G μ (us.set n u) (ws.set n w)) (fun _ => rfl) (fun v vs w ws p q ih {n u w'} x => match n with
    | 0 => .cons x q
    | n + 1 => .cons p (ih x)) _ _ h
end
section
variable {cx : Cx} {A : Around} {d : Nat} {P : Addr → Prop} {W W' : Wd cx} {u v : U} {x y w : Value} {l m : List U}
noncomputable abbrev SqH (W : Wd cx) (mk : Array Value → Nat → Obj) (l : List U) : Value → Prop := SqR W.s.heap.get? mk l.length (W.prs l)
theorem Wd.own (W : Wd cx) {a c} (e : W.H a = some c) : CellR cx W.G W.μ W.s.heap a c := W.R.cell a c e
theorem CellR.sq {h : Heap} {G : GM} {μ : LM} {a : Addr} {l : List U} (x : CellR cx G μ h a (.L l)) : SqR h.get? listO l.length (PRs cx G μ l) (.ref a) := by
  cases x with | L ws n us g r hl => exact .mk a ws n g r hl
theorem VR.fl (h : VR W (.fl l) w) : SqH W listO l w := SqR.mono W.R.gk (fun _ h => h) (show SqR _ _ _ _ w from h)
theorem VR.tu (h : VR W (.tu l) w) : SqH W tupO l w := SqR.mono W.R.gk (fun _ h => h) (show SqR _ _ _ _ w from h)
theorem VR.ol (h : VR W (.ol l) w) : SqH W listO l w := OwR.rec (fun a c hc e n => CellR.sq (hc ▸ W.own e)) (show OwR W _ w from h)
theorem VR.lo {k : Loc} (h : VR W (.lo k) w) : ∃ a c, w = .ref a ∧ W.μ k = some a ∧ W.H a = some c ∧ LocOk W.σ k c :=
  LoR.rec (fun a m => let ⟨c, e, o⟩ := W.R.loc _ _ m; ⟨a, c, rfl, m, e, o⟩) (show LoR _ _ w from h)
theorem VR.loL {k : Loc} {l : List U} (h : VR W (.lo k) w) (f : ∀ c, LocOk W.σ k c → c = .L l) : SqH W listO l w :=
  let ⟨a, c, e, m, z, o⟩ := h.lo; e ▸ (f c o ▸ W.own z).sq
theorem VR.row (h : VR W (.lo .row) w) : SqH W listO (infU W.σ.row) w := h.loL fun c (o : _ ∧ _) => o.1
theorem VR.pot (h : VR W (.lo .pot) w) : SqH W listO [.lo .cel, .i W.σ.ps, .i W.σ.pp] w := h.loL fun c o => o
theorem VR.cel (h : VR W (.lo .cel) w) : SqH W listO (W.σ.cells.map .i) w := h.loL fun c o => o
theorem VR.stp {i : Nat} (h : VR W (.lo (.stp i)) w) : ∃ x, SqH W listO [.i x] w :=
  let ⟨a, c, e, m, z, (o : ∃ x, _)⟩ := h.lo; let ⟨x, o⟩ := o; ⟨x, e ▸ (o ▸ W.own z).sq⟩
variable {Q : U → St → Prop} {Qm : Value → Shared → Prop} {Pt Nt : St → Prop} {Qb : Bool → Shared → Prop} {E : Value → Shared → Prop}
noncomputable def gset (G : GM) (a : Addr) (o : Obj) : GM := fun b => if b = a then some o else G b
theorem gset.inv {G : GM} {a b : Addr} {o x : Obj} (h : gset G a o b = some x) : b = a ∧ x = o ∨ G b = some x := by
  unfold gset at h; split at h
  · exact .inl ⟨‹_›, (Option.some.inj h).symm⟩
  · exact .inr h
theorem Wd.notG (W : Wd cx) {a : Addr} (e : W.s.heap.get? a = none) : W.G a = none := by
  cases q : W.G a with
  | none => rfl
  | some o => exact nomatch (W.R.gk _ _ q).symm.trans e
theorem Wd.not0 (W : Wd cx) {a : Addr} (e : W.s.heap.get? a = none) : cx.h0.get? a = none := by
  cases q : cx.h0.get? a with
  | none => rfl
  | some o => exact nomatch (W.R.base _ _ q).symm.trans e
theorem Wd.notO (W : Wd cx) {a : Addr} (e : W.s.heap.get? a = none) : ¬ Own W.H a := fun o => o.alive W.R e
theorem gset.le {o : Obj} (W : Wd cx) {a : Addr} (p : Priv W a o) : ∀ b x, W.G b = some x → gset W.G a o b = some x := fun b x e => by
  unfold gset; split
  · subst b; exact nomatch p.ng.symm.trans e
  · exact e
noncomputable def Wd.adF (W : Wd cx) {a : Addr} {o : Obj} (p : Priv W a o) : Wd cx := { W with
  G := gset W.G a o
  R := { W.R with
    g0 := fun b x e => gset.le W p b x (W.R.g0 b x e)
    gk := fun b x e => (gset.inv e).elim (fun q => q.1 ▸ q.2 ▸ p.at_) (W.R.gk b x)
    gd := fun b x e => (gset.inv e).elim (fun q => q.1 ▸ p.ow) (W.R.gd b x)
    cell := fun a c e => (W.R.cell a c e).keep (gset.le W p) (fun _ _ e => e) W.R.gk W.R.gk (fun _ e => e) fun _ _ _ e => e } }
theorem Le.adF {a : Addr} {o : Obj} (p : Priv W a o) (hp : P a) : Le P W (W.adF p) :=
  ⟨gset.le W p, fun _ _ e => e, fun _ _ e n => ⟨e, n⟩, fun b x q np => ⟨q.1, q.2, by show gset W.G a o b = none; unfold gset; rw [if_neg (fun e : b = a => np (by rw [e]; exact hp))]; exact q.3, q.4⟩, rfl, rfl⟩
theorem adF.at (p : Priv W w' o') : (W.adF p).G w' = some o' := if_pos rfl
noncomputable def Wd.push (W : Wd cx) (o : Obj) : Wd cx := W.gr { W.s with heap := W.s.heap.push o } fun b x e => Heap.get?_push_of_some _ e
theorem Le.push {o : Obj} : Le P W (W.push o) := Le.gr rfl rfl
theorem Wd.push_priv (W : Wd cx) {o : Obj} (hf : o.isFreed = false) : Priv (W.push o) W.s.heap.objs.size o :=
  ⟨Heap.get?_push_size _ hf, W.notO (dead_size _), W.notG (dead_size _), W.not0 (dead_size _)⟩
theorem Le.drop {W1 : Wd cx} {a : Addr} (x : Le (fun b => b = a) W W1) (e : W.s.heap.get? a = none) : Le P W W1 := x.weaken fun b o p q => nomatch (q ▸ p.at_).symm.trans e
theorem new_seq {mk : U} {o : Obj} (hf : o.isFreed = false) (hm : ∀ W' : Wd cx, Le PF W W' → W'.G W.s.heap.objs.size = some o → VR W' mk (.ref W.s.heap.objs.size)) (k : KV W Q Qm) (q : Q mk W.σ) : Qm (.ref W.s.heap.objs.size) { W.s with heap := W.s.heap.push o } := by
  have p := W.push_priv hf
  have l : Le PF W ((W.push o).adF p) := Le.drop (Le.push.trans (Le.adF (P := fun b => b = W.s.heap.objs.size) p rfl)) (dead_size _)
  exact k _ mk _ l (hm _ l (adF.at p)) q
theorem new_fl {ws : Array Value} (r : W.prs l ws.toList) (hl : l.length ≤ sizeLine) (k : KV W Q Qm) (q : Q (.fl l) W.σ) : Qm (.ref W.s.heap.objs.size) { W.s with heap := W.s.heap.push { cls := .type "list", data := .seq ws } } :=
  new_seq (mk := .fl l) rfl (fun W' le g => (show SqR _ _ _ _ _ from .mk _ ws _ g (le.prs r) hl)) k q
theorem new_tu {ws : Array Value} (r : W.prs l ws.toList) (hl : l.length ≤ sizeLine) (k : KV W Q Qm) (q : Q (.tu l) W.σ) : Qm (.ref W.s.heap.objs.size) { W.s with heap := W.s.heap.push { cls := .type "tuple", data := .seq ws } } :=
  new_seq (mk := .tu l) rfl (fun W' le g => (show SqR _ _ _ _ _ from .mk _ ws _ g (le.prs r) hl)) k q
end
end

end
section
noncomputable section
theorem strOk_sT (k : Nat) : PyData.strOk (sT k) = true := by
  rcases Nat.lt_or_ge k 17 with h | h
  · exact (show ∀ k : Fin 17, PyData.strOk (sT k) = true by decide +kernel) ⟨k, h⟩
  · rw [show sT k = Str.ofString "" from congrArg Str.ofString (by rw [List.getD_eq_getElem?_getD, List.getElem?_eq_none h]; rfl)]; decide +kernel
mutual
noncomputable def toD : U → PyData
  | .b x => .bool x
  | .i x => .int x
  | .s k => .str (sT k)
  | .tu l => .tuple (toDs l)
  | .fl l => .list (toDs l)
  | _ => .none
noncomputable def toDs : List U → List PyData
  | [] => []
  | v :: vs => toD v :: toDs vs
end
structure Rd (cx : Cx) (n : Nat) (u : U) : Prop where
  r : ∀ {G : GM} {μ : LM} {h : Heap}, (∀ b o, G b = some o → h.get? b = some o) → ∀ w, PR cx G μ u w → ∃ as, Reads h w (toD u) as
  can : (toD u).canLay0 = true
  dep : (toD u).depth ≤ n
  eqv : PyData.eqv (toD u) (toD u) = true
structure Rds (cx : Cx) (n : Nat) (l : List U) : Prop where
  r : ∀ {G : GM} {μ : LM} {h : Heap}, (∀ b o, G b = some o → h.get? b = some o) → ∀ ws, PRs cx G μ l ws → ∃ as, ReadsAll h ws (toDs l) as
  can : PyData.canLayAll0 (toDs l) = true
  dep : PyData.depthAll (toDs l) ≤ n
  eqv : PyData.eqvAll (toDs l) (toDs l) = true
section
variable {cx : Cx} {n : Nat}
theorem Rds.of : ∀ {l : List U}, (∀ x ∈ l, Rd cx n x) → Rds cx n l
  | [], _ => ⟨fun _ ws h => (show ws = [] from h) ▸ ⟨_, .nil⟩, rfl, Nat.zero_le _, rfl⟩
  | u :: l, h => by
    have a := h u (.head _)
    have b := Rds.of fun x hx => h x (.tail _ hx)
    refine ⟨fun gk ws hw => ?_, ?_, ?_, ?_⟩
    · obtain ⟨w, ws, p, q⟩ := (show ConsR _ _ ws from hw)
      obtain ⟨as, ra⟩ := a.r gk _ p
      obtain ⟨bs, rb⟩ := b.r gk _ q
      exact ⟨_, .cons ra rb⟩
    · simp only [toDs, PyData.canLayAll0, a.can, b.can]; rfl
    · simp only [toDs, PyData.depthAll]; exact Nat.max_le.mpr ⟨a.dep, b.dep⟩
    · simp only [toDs, PyData.eqvAll, a.eqv, b.eqv]; rfl
theorem Rd.seq {l : List U} {mk : Array Value → Nat → Obj} {T : String} {u : U} {D : List PyData → PyData} (x : Rds cx n l) (hu : ∀ {G μ w}, PR cx G μ u w → SqR G mk l.length (PRs cx G μ l) w) (hD : toD u = D (toDs l))
    (hr : ∀ {h : Heap} {a ws m as}, h.get? a = some (mk ws m) → ReadsAll h ws.toList (toDs l) as → ∃ bs, Reads h (.ref a) (D (toDs l)) bs) (hc : (D (toDs l)).canLay0 = PyData.canLayAll0 (toDs l)) (hd : (D (toDs l)).depth = PyData.depthAll (toDs l) + 1)
    (he : PyData.eqv (D (toDs l)) (D (toDs l)) = PyData.eqvAll (toDs l) (toDs l)) : Rd cx (n + 1) u := by
  refine ⟨fun gk w h => ?_, by rw [hD, hc]; exact x.can, by rw [hD, hd]; exact Nat.succ_le_succ x.dep, by rw [hD, he]; exact x.eqv⟩
  obtain ⟨a, ws, m, g, r, _⟩ := hu h
  obtain ⟨as, ra⟩ := x.r gk _ r
  rw [hD]; exact hr (gk _ _ g) ra
theorem Dt.rd : ∀ {n : Nat} {u : U}, Dt n u → Rd cx n u := by
  intro n
  induction n with
  | zero =>
    intro u h
    cases u with
    | no => exact ⟨fun _ w h => (show w = .none from h) ▸ ⟨_, .none⟩, rfl, Nat.zero_le _, rfl⟩
    | b x => exact ⟨fun _ w h => (show w = .bool x from h) ▸ ⟨_, .bool x⟩, rfl, Nat.zero_le _, by simp [toD, PyData.eqv]⟩
    | i x => exact ⟨fun _ w h => IntR.rec (fun t => ⟨_, .int x t⟩) (show IntR x w from h), rfl, Nat.zero_le _, by simp [toD, PyData.eqv]⟩
    | s k => exact ⟨fun _ w h => StrR.rec (fun t => ⟨_, .str _ t⟩) (show StrR (sT k) w from h), strOk_sT k, Nat.zero_le _, by simp [toD, PyData.eqv]⟩
    | _ => exact h.elim
  | succ n ih =>
    intro u h
    cases u with
    | no => exact ⟨fun _ w h => (show w = .none from h) ▸ ⟨_, .none⟩, rfl, Nat.zero_le _, rfl⟩
    | b x => exact ⟨fun _ w h => (show w = .bool x from h) ▸ ⟨_, .bool x⟩, rfl, Nat.zero_le _, by simp [toD, PyData.eqv]⟩
    | i x => exact ⟨fun _ w h => IntR.rec (fun t => ⟨_, .int x t⟩) (show IntR x w from h), rfl, Nat.zero_le _, by simp [toD, PyData.eqv]⟩
    | s k => exact ⟨fun _ w h => StrR.rec (fun t => ⟨_, .str _ t⟩) (show StrR (sT k) w from h), strOk_sT k, Nat.zero_le _, by simp [toD, PyData.eqv]⟩
    | tu l => exact Rd.seq (T := "tuple") (D := .tuple) (.of fun x hx => ih (h x hx)) (fun h => h) rfl (fun g r => ⟨_, .tuple g rfl rfl r⟩) (by simp only [PyData.canLay0]) (by simp only [PyData.depth]) (by simp only [PyData.eqv])
    | fl l => exact Rd.seq (T := "list") (D := .list) (.of fun x hx => ih (h x hx)) (fun h => h) rfl (fun g r => ⟨_, .list g rfl rfl r⟩) (by simp only [PyData.canLay0]) (by simp only [PyData.depth]) (by simp only [PyData.eqv])
    | _ => exact h.elim
theorem eqv_ints : ∀ {is js : List Int}, PyData.eqvAll (toDs (is.map .i)) (toDs (js.map .i)) = decide (is = js)
  | [], [] => rfl
  | [], _ :: _ => rfl
  | _ :: _, [] => rfl
  | i :: is, j :: js => by
    simp only [List.map_cons, toDs, toD, PyData.eqvAll, PyData.eqv, eqv_ints, List.cons.injEq, Bool.decide_and]; rfl
theorem dt_ints {is : List Int} : ∀ x ∈ is.map U.i, Dt 0 x := fun x hx => by
  obtain ⟨i, _, rfl⟩ := List.mem_map.mp hx; exact trivial
theorem toDs_any {k : Int} : ∀ {is : List Int}, ((toDs (is.map .i)).any fun y => PyData.eqv y (.int k)) = decide (k ∈ is)
  | [] => rfl
  | i :: is => by
    simp only [List.map_cons, toDs, toD, List.any_cons, PyData.eqv, toDs_any, List.mem_cons, Bool.decide_or]
    congr 1
    exact decide_eq_decide.mpr eq_comm
end
section
variable {cx : Cx} {A : Around} {d : Nat} {P : Addr → Prop} {W W' : Wd cx} {u v : U} {x y w : Value} {l m : List U}
variable {Q : U → St → Prop} {Qm : Value → Shared → Prop} {Pt Nt : St → Prop} {Qb : Bool → Shared → Prop} {E : Value → Shared → Prop}
theorem AOk.units {n : Nat} (a : AOk A d) (h : n ≤ 800) : A.units + n < cLine := by
  have := a.3; have : cLine = 9900 := rfl; lia
theorem Rds.lst {n : Nat} (x : Rds cx n l) (h : SqH W listO l y) : ∃ as, Reads W.s.heap y (.list (toDs l)) as := by
  obtain ⟨a, ws, m, g, r, _⟩ := h
  obtain ⟨as, ra⟩ := x.r W.R.gk _ r
  exact ⟨_, .list g rfl rfl ra⟩
theorem Rds.tup {n : Nat} (x : Rds cx n l) (h : SqH W tupO l y) : ∃ as, Reads W.s.heap y (.tuple (toDs l)) as := by
  obtain ⟨a, ws, m, g, r, _⟩ := h
  obtain ⟨as, ra⟩ := x.r W.R.gk _ r
  exact ⟨_, .tuple g rfl rfl ra⟩
theorem eqne {D1 D2 : PyData} {as bs} {ne : Bool} (ak : AOk A d) (ra : Reads W.s.heap x D1 as) (rb : Reads W.s.heap y D2 bs) (c1 : D1.canLay0 = true) (c2 : D2.canLay0 = true) (hd : D1.depth ≤ 700) (h : ifB (PyData.eqv D1 D2) (Pt W.σ) (Nt W.σ))
    (k : KB W (fun σ => ifB ne (Nt σ) (Pt σ)) (fun σ => ifB ne (Pt σ) (Nt σ)) fun b s => Qm (.bool b) s) : wpAny (MD cx) A (compareOp (bif ne then .NotEq else .Eq) x y) Qm NoE W.s := by
  cases ne with
  | false => exact SeqAt.compareEq_reads ra rb c1 c2 (ak.units (by lia)) (k _ W .refl h)
  | true => exact SeqAt.compareNe_reads ra rb c1 c2 (ak.units (by lia)) (k _ W .refl h.not)
theorem EqT.go {Pp Np : Prop} {n : Nat} {D : List PyData → PyData} (h : EqT l m Pp Np) (hD : ∀ a b, PyData.eqv (D a) (D b) = PyData.eqvAll a b) : (∃ k, k ≤ 500 ∧ Rds cx k l ∧ Rds cx k m) ∧ ifB (PyData.eqv (D (toDs l)) (D (toDs m))) Pp Np := by
  cases h with
  | same k e dd hn p =>
    subst e
    have r : Rds cx k l := .of fun x hx => Dt.rd (dd x hx)
    exact ⟨⟨k, hn, r, r⟩, by rw [hD, r.eqv]; exact p⟩
  | two is js e1 e2 p n =>
    subst e1; subst e2
    refine ⟨⟨0, Nat.zero_le _, .of fun x hx => Dt.rd (dt_ints x hx), .of fun x hx => Dt.rd (dt_ints x hx)⟩, ?_⟩
    rw [hD, eqv_ints]; exact ifB.d p n
end
end

end
section
noncomputable section
theorem sT_inj {a b : Nat} (h : (Nat.blt a 17 && Nat.blt b 17) = true) : (sT a == sT b) = Nat.beq a b := by
  rw [Bool.and_eq_true] at h
  exact (show ∀ a b : Fin 17, (sT a == sT b) = Nat.beq a b by decide +kernel) ⟨a, Nat.le_of_ble_eq_true h.1⟩ ⟨b, Nat.le_of_ble_eq_true h.2⟩
section
variable {cx : Cx} {A : Around} {d : Nat} {P : Addr → Prop} {W W' : Wd cx} {u v : U} {x y w : Value} {l m : List U}
variable {Q : U → St → Prop} {Qm : Value → Shared → Prop} {Pt Nt : St → Prop} {Qb : Bool → Shared → Prop} {E : Value → Shared → Prop}
theorem ifB.imp {c : Bool} {p : Prop} {P N : Prop} (e : c = true ↔ p) (h1 : p → P) (h2 : ¬ p → N) : ifB c P N := ifB.mk (fun h => h1 (e.mp h)) fun h => h2 fun q => nomatch (e.mpr q).symm.trans h
theorem SqR.size {h : GM} {G : GM} {μ : LM} {mk} (x : SqR h mk l.length (PRs cx G μ l) w) : ∃ a ws n, w = .ref a ∧ h a = some (mk ws n) ∧ PRs cx G μ l ws.toList ∧ ws.size = l.length ∧ l.length ≤ sizeLine := by
  obtain ⟨a, ws, n, g, r, hl⟩ := x; exact ⟨a, ws, n, rfl, g, r, r.sz, hl⟩
theorem szI {n : Nat} (h : n ≤ sizeLine) : (n : Int) < 2 ^ 63 := Int.lt_of_le_of_lt (Int.ofNat_le.mpr h) (by decide)
theorem em0 {α : Type} {ws : Array α} {l : List U} (h : ws.size = l.length) : ws.isEmpty = l.isEmpty := by
  unfold Array.isEmpty; rw [h]; cases l <;> rfl
theorem ifE {P N : Prop} (h : (l ≠ [] → P) ∧ (l = [] → N)) : ifB (!l.isEmpty) P N := by
  cases l
  · exact h.2 rfl
  · exact h.1 nofun
theorem tr_ok (hu : VR W u x) (h : trU W.σ (Pt W.σ) (Nt W.σ) u) (k : KB W Pt Nt Qb) : wpAny (MD cx) A (truthy x) Qb NoE W.s := by
  cases u with
  | b c => exact (show x = .bool c from hu) ▸ wpAny_truthy_bool (k c W .refl h)
  | i a =>
    obtain ⟨t⟩ := (show IntR a x from hu)
    exact PyProof.Rows.truthy_int (k _ W .refl (by rw [show (a != 0) = decide (a ≠ 0) from decide_not.symm]; exact h))
  | tu l =>
    obtain ⟨a, ws, n, rfl, g, r, e, hl⟩ := hu.tu.size
    exact truthy_tuple ⟨_, g, rfl, n, rfl⟩ (by rw [e]; exact szI hl) (k _ (W.tk _) .tk (by rw [em0 e]; exact ifE h))
  | fl l =>
    obtain ⟨a, ws, n, rfl, g, r, e, hl⟩ := hu.fl.size
    exact wpAny_truthy_list ⟨_, g, rfl, n, rfl⟩ (by rw [e]; exact szI hl) (k _ (W.tk _) .tk (by rw [em0 e]; exact ifE h))
  | lo c =>
    cases c with
    | cel =>
      obtain ⟨a, ws, n, rfl, g, r, e, hl⟩ := hu.cel.size
      refine wpAny_truthy_list ⟨_, g, rfl, n, rfl⟩ (by rw [e]; exact szI hl) (k _ (W.tk _) .tk (by rw [em0 e]; exact ifE (h.imp (fun p q => p fun z => q (by rw [z]; rfl)) fun p q => p (List.map_eq_nil_iff.mp q))))
    | _ => exact h.elim
  | _ => exact h.elim
theorem em_lst {Pp Np : St → Prop} {ne : Bool} (ak : AOk A d) (hu : SqH W listO l x) (hv : SqH W listO [] y) (h : (l = [] → Pp W.σ) ∧ (l ≠ [] → Np W.σ)) (k : KB W (fun σ => ifB ne (Np σ) (Pp σ)) (fun σ => ifB ne (Pp σ) (Np σ)) fun b s => Qm (.bool b) s) :
    wpAny (MD cx) A (compareOp (bif ne then .NotEq else .Eq) x y) Qm NoE W.s := by
  cases l with
  | nil =>
    have r0 : Rds cx 0 [] := .of nofun
    obtain ⟨as, ra⟩ := r0.lst hu
    obtain ⟨bs, rb⟩ := r0.lst hv
    exact eqne ak ra rb rfl rfl (by decide) (h.1 rfl) k
  | cons z zs =>
    obtain ⟨a, ws, n, rfl, g, r, e, hl⟩ := hu.size
    obtain ⟨a', ws', n', rfl, g', r', e', hl'⟩ := hv.size
    have un : A.units < cLine := ak.units (n := 0) (Nat.zero_le _)
    have q := h.2 nofun
    cases ne with
    | false => exact SeqAt.eq_list_lengthsAt ⟨_, g, rfl, n, rfl⟩ ⟨_, g', rfl, n', rfl⟩ (by rw [e, e']; rfl) un (k false W .refl q)
    | true => exact SeqAt.RcNeAt.lists_lengths ⟨_, g, rfl, n, rfl⟩ ⟨_, g', rfl, n', rfl⟩ (by rw [e, e']; rfl) un _ _ _ _ (k true W .refl q)
theorem em_tup {Pp Np : St → Prop} {ne : Bool} (ak : AOk A d) (hu : SqH W tupO l x) (hv : SqH W tupO [] y) (hd : ∃ n, n ≤ 500 ∧ ∀ x ∈ l, Dt n x) (h : (l = [] → Pp W.σ) ∧ (l ≠ [] → Np W.σ)) (k : KB W (fun σ => ifB ne (Np σ) (Pp σ)) (fun σ => ifB ne (Pp σ) (Np σ)) fun b s => Qm (.bool b) s) :
    wpAny (MD cx) A (compareOp (bif ne then .NotEq else .Eq) x y) Qm NoE W.s := by
  obtain ⟨n, hn, hd⟩ := hd
  have r1 : Rds cx n l := .of fun x hx => (hd x hx).rd
  obtain ⟨as, ra⟩ := r1.tup hu
  obtain ⟨bs, rb⟩ := (show Rds cx 0 [] from .of nofun).tup hv
  refine eqne ak ra rb (by simp only [PyData.canLay0, r1.can]) rfl (by simp only [PyData.depth]; exact Nat.le_trans (Nat.succ_le_succ (Nat.le_trans r1.dep hn)) (by decide)) ?_ k
  cases l with
  | nil => exact h.1 rfl
  | cons => exact h.2 nofun
theorem eq_ok {o : Cop} (ak : AOk A d) (ho : o = .eq ∨ o = .ne) (hu : VR W u x) (hv : VR W v y) (h : cmpU W.σ o u v (Pt W.σ) (Nt W.σ)) (k : KB W Pt Nt fun b s => Qm (.bool b) s) : wpAny (MD cx) A (compareOp (opC o) x y) Qm NoE W.s := by
  have key : ∀ {Pp Np : St → Prop} (ne : Bool), eqU (Pp W.σ) (Np W.σ) u v → (KB W (fun σ => ifB ne (Np σ) (Pp σ)) (fun σ => ifB ne (Pp σ) (Np σ)) fun b s => Qm (.bool b) s) → wpAny (MD cx) A (compareOp (bif ne then .NotEq else .Eq) x y) Qm NoE W.s := by
    intro Pp Np ne h k
    cases u with
    | i a =>
      cases v with
      | i b =>
        obtain ⟨t⟩ := (show IntR a x from hu)
        obtain ⟨t'⟩ := (show IntR b y from hv)
        cases ne with
        | false => exact PyProof.Rows.eq_int (k (decide (a = b)) W .refl h)
        | true => exact PyProof.Rows.ne_int (k (!decide (a = b)) W .refl (ifB.not h))
      | _ => exact h.elim
    | s a =>
      cases v with
      | s b =>
        obtain ⟨t⟩ := (show StrR _ x from hu)
        obtain ⟨t'⟩ := (show StrR _ y from hv)
        have h : gu0 (Nat.blt a 17 && Nat.blt b 17) (ifB (Nat.beq a b) (Pp W.σ) (Np W.σ)) := h
        cases e : (Nat.blt a 17 && Nat.blt b 17) with
        | false => rw [e] at h; exact h.elim
        | true =>
          rw [e] at h
          cases ne with
          | false => exact PyProof.Rows.eq_str (k _ W .refl (by rw [sT_inj e]; exact h))
          | true => exact PyProof.Rows.ne_str (k _ W .refl (by rw [bne, sT_inj e]; exact ifB.not h))
      | _ => exact h.elim
    | tu l =>
      cases v with
      | tu m =>
        obtain ⟨⟨n, hn, r1, r2⟩, q⟩ := EqT.go (cx := cx) (n := 0) (D := .tuple) h fun _ _ => by simp only [PyData.eqv]
        obtain ⟨as, ra⟩ := r1.tup hu.tu
        obtain ⟨bs, rb⟩ := r2.tup hv.tu
        exact eqne ak ra rb (by simp only [PyData.canLay0, r1.can]) (by simp only [PyData.canLay0, r2.can]) (by simp only [PyData.depth]; exact Nat.le_trans (Nat.succ_le_succ (Nat.le_trans r1.dep hn)) (by decide)) q k
      | _ => exact h.elim
    | fl l =>
      cases v with
      | fl m =>
        obtain ⟨⟨n, hn, r1, r2⟩, q⟩ := EqT.go (cx := cx) (n := 0) (D := .list) h fun _ _ => by simp only [PyData.eqv]
        obtain ⟨as, ra⟩ := r1.lst hu.fl
        obtain ⟨bs, rb⟩ := r2.lst hv.fl
        exact eqne ak ra rb (by simp only [PyData.canLay0, r1.can]) (by simp only [PyData.canLay0, r2.can]) (by simp only [PyData.depth]; exact Nat.le_trans (Nat.succ_le_succ (Nat.le_trans r1.dep hn)) (by decide)) q k
      | _ => exact h.elim
    | _ => exact h.elim
  rcases ho with rfl | rfl
  · exact key (Pp := Pt) (Np := Nt) false h k
  · exact key (Pp := Nt) (Np := Pt) true h k
end
end

end
section
noncomputable section
section
variable {cx : Cx} {A : Around} {d : Nat} {P : Addr → Prop} {W W' : Wd cx} {u v : U} {x y w : Value} {l m : List U}
variable {Q : U → St → Prop} {Qm : Value → Shared → Prop} {Pt Nt : St → Prop} {Qb : Bool → Shared → Prop} {E : Value → Shared → Prop}
noncomputable abbrev IK (cx : Cx) := intKind cx.prog cx.w
inductive DiH (W : Wd cx) (ks : List Int) (l : List U) : Value → Prop
  | mk (a : Addr) (ws : List Value) (ne : (a == sysModules) = false) (hk : ks.length = ws.length) (hd : W.s.heap.DictOf (IK cx) a (ks.zip ws)) (r : W.prs l ws) (hl : l.length ≤ sizeLine) : DiH W ks l (.ref a)
theorem Wd.notSys (W : Wd cx) {a c} (e : W.H a = some c) : (a == sysModules) = false := by
  cases q : a == sysModules with
  | false => rfl
  | true => obtain ⟨o, h⟩ := cx.sysm; rw [← beq_iff_eq.mp q, W.R.low a (.c e)] at h; cases h
theorem VR.fd {ks} (h : VR W (.fd ks l) w) : DiH W ks l w := by
  obtain ⟨a, o, g, ne, ⟨ws, hk, hd, r, hl⟩⟩ := (show DcR cx _ _ _ _ w from h)
  exact .mk a ws ne hk (Heap.dictOf_iff.mpr ⟨o, W.R.gk _ _ g, hd⟩) r hl
theorem CellR.di {ks o a} (e : W.H a = some (.D o ks l)) : DiH W ks l (.ref a) := by
  cases W.own e with | D o ks us g dd => obtain ⟨ws, hk, hd, r, hl⟩ := dd; exact .mk a ws (W.notSys e) hk (Heap.dictOf_iff.mpr ⟨o, g, hd⟩) r hl
theorem VR.od {ks} (h : VR W (.od ks l) w) : DiH W ks l w := by
  obtain ⟨a, c, ⟨o, rfl⟩, e, _⟩ := (show OwR W _ w from h)
  exact CellR.di e
theorem VR.held (h : VR W (.lo .held) w) : DiH W W.σ.held (W.σ.held.map fun _ => .b true) w :=
  let ⟨a, c, e, m, z, o⟩ := h.lo; e ▸ CellR.di ((show c = Cell.D _ _ _ from o) ▸ z)
theorem isI (p : Program) (w : World) (k : Int) (t : Tok) : (intKind p w).is k (.int k t) = true := by show Value.isInt k (.int k t) = true; simp [Value.isInt]
theorem valueAt_in {k : Int} : ∀ {ks : List Int} {ws : List Value}, ks.length = ws.length → (valueAt (ks.zip ws) k).isSome = decide (k ∈ ks)
  | [], [], _ => rfl
  | j :: ks, w :: ws, h => by
    have ih := valueAt_in (k := k) (ks := ks) (ws := ws) (Nat.succ.inj h)
    unfold valueAt at ih ⊢
    rw [List.zip_cons_cons, List.find?_cons]
    by_cases e : j = k
    · simp [e]
    · have e' : ¬ k = j := fun q => e q.symm
      simp only [e, decide_false, ih, List.mem_cons, e', false_or]
theorem dGet.val {G : GM} {μ : LM} {k : Int} : ∀ {ks : List Int} {l : List U} {ws : List Value}, ks.length = ws.length → PRs cx G μ l ws → (match dGet k ks l with | none => valueAt (ks.zip ws) k = none | some u => ∃ w, valueAt (ks.zip ws) k = some w ∧ PR cx G μ u w)
  | [], _, ws, h, r => by cases ws with | nil => rfl | cons => cases h
  | j :: ks, [], ws, h, r => by rw [show ws = [] from r] at h; cases h
  | j :: ks, u :: l, _, h, r => by
    obtain ⟨w, ws, p, q⟩ := (show ConsR _ _ _ from r)
    have ih := dGet.val (k := k) (Nat.succ.inj h) q
    unfold valueAt at ih ⊢
    rw [List.zip_cons_cons, List.find?_cons]
    show match (if j = k then some u else dGet k ks l) with | none => _ | some u => _
    by_cases e : j = k
    · simp only [e, if_true, decide_true]; exact ⟨w, rfl, p⟩
    · simp only [e, if_false, decide_false]; exact ih
theorem in_int {is : List Int} {ne : Bool} {a : Int} {t : Tok} (ak : AOk A d) (hv : SqH W listO (is.map .i) y) (h : (a ∈ is → Pt W.σ) ∧ (¬ a ∈ is → Nt W.σ)) (k : KB W (fun σ => ifB ne (Nt σ) (Pt σ)) (fun σ => ifB ne (Pt σ) (Nt σ)) fun b s => Qm (.bool b) s) :
    wpAny (MD cx) A (compareOp (bif ne then .NotIn else .In) (.int a t) y) Qm NoE W.s := by
  have r : Rds cx 0 (is.map .i) := .of fun x hx => Dt.rd (dt_ints x hx)
  obtain ⟨as, ra⟩ := r.lst hv
  have un : A.units + 1 + min (PyData.depthAll (toDs (is.map .i))) (PyData.int a).depth < cLine := Nat.lt_of_le_of_lt (Nat.add_le_add_left (Nat.min_le_right _ _) _) (ak.units (n := 1) (by decide))
  have q : ifB (decide (a ∈ is)) (Pt W.σ) (Nt W.σ) := ifB.d h.1 h.2
  cases ne with
  | false => exact SeqAt.in_list_reads ra (.int a t) r.can rfl un (k _ W .refl (by rw [toDs_any]; exact q))
  | true => exact SeqAt.notIn_list_reads ra (.int a t) r.can rfl un (k _ W .refl (by rw [toDs_any]; exact q.not))
theorem in_dic {ks : List Int} {ne : Bool} {a : Int} {t : Tok} (hv : DiH W ks l y) (h : (a ∈ ks → Pt W.σ) ∧ (¬ a ∈ ks → Nt W.σ)) (k : KB W (fun σ => ifB ne (Nt σ) (Pt σ)) (fun σ => ifB ne (Pt σ) (Nt σ)) fun b s => Qm (.bool b) s) :
    wpAny (MD cx) A (compareOp (bif ne then .NotIn else .In) (.int a t) y) Qm NoE W.s := by
  obtain ⟨b, ws, ns, hk, hd, r, hl⟩ := hv
  have q : ifB (decide (a ∈ ks)) (Pt W.σ) (Nt W.σ) := ifB.d h.1 h.2
  cases ne with
  | false => exact wpAny_in_of (isI cx.prog cx.w a t) ns hd.mapOf (k _ (W.tk _) .tk (by rw [valueAt_in hk]; exact q))
  | true => exact wpAny_notIn_of (isI cx.prog cx.w a t) ns hd.mapOf (k _ (W.tk _) .tk (by rw [valueAt_in hk]; exact q.not))
theorem memS.go {a : Nat} : ∀ {l : List U} {c : Bool}, memS a l = some c → (∀ x ∈ l, Dt 0 x) ∧ ((toDs l).any fun y => PyData.eqv y (.str (sT a))) = c
  | [], c, h => ⟨nofun, Option.some.inj h⟩
  | u :: l, c, h => by
    cases u with
    | s y =>
      have h : (bif Nat.blt a 17 && Nat.blt y 17 then (memS a l).map fun c => Nat.beq a y || c else none) = some c := h
      cases e : (Nat.blt a 17 && Nat.blt y 17) with
      | false => rw [e] at h; cases h
      | true =>
        rw [e] at h
        obtain ⟨c', e', rfl⟩ := Option.map_eq_some_iff.mp (show (memS a l).map _ = some c from h)
        obtain ⟨h1, h2⟩ := memS.go e'
        have q : PyData.eqv (toD (.s y)) (.str (sT a)) = Nat.beq a y := by
          rw [Bool.and_comm] at e
          rw [show Nat.beq a y = Nat.beq y a from Bool.eq_iff_iff.mpr ⟨fun h => Nat.beq_eq.mpr (Nat.beq_eq.mp h).symm, fun h => Nat.beq_eq.mpr (Nat.beq_eq.mp h).symm⟩, ← sT_inj e]
          simp only [toD, PyData.eqv]
        exact ⟨fun x hx => (List.mem_cons.mp hx).elim (fun e => e ▸ trivial) (h1 x), by rw [toDs, List.any_cons, q, h2]⟩
    | _ => cases h
theorem tup_key {is : List Int} (h : VR W (.tu (is.map .i)) w) : ∃ a, w = .ref a ∧ IsTupleKey (IK cx) W.s.heap is a ∧ W.G a ≠ none := by
  obtain ⟨a, ws, n, g, r, hl⟩ := (show SqR _ _ _ _ w from h)
  have it : ∀ {is : List Int} {ws}, W.prs (is.map .i) ws → ItemsAre (IK cx) is ws := fun {is ws} r => by
    induction is generalizing ws with
    | nil => rw [show ws = [] from r]; exact .nil
    | cons i is ih =>
      obtain ⟨w, ws, p, q⟩ := (show ConsR _ _ ws from r)
      obtain ⟨t⟩ := (show IntR i w from p)
      exact .cons (isI _ _ i t) (ih q)
  exact ⟨a, rfl, ⟨_, ws, n, W.R.gk _ _ g, rfl, rfl, it r⟩, fun e => nomatch g.symm.trans e⟩
theorem atKey_some {xs : List (List Int × Addr × Value)} {k : List Int} : (atKey xs k).isSome = decide (k ∈ xs.map (·.1)) := by
  unfold atKey
  rw [Bool.eq_iff_iff]
  simp only [Option.isSome_map, List.find?_isSome, decide_eq_true_eq, List.mem_map]
theorem VR.ok {ks} (h : VR W (.ok ks) w) : ∃ a, w = .ref a ∧ W.H a = some (.S ks) ∧ (∀ l, W.μ l ≠ some a) ∧ ∃ xs, W.s.heap.DictOfH (tupleKind (IK cx)) a xs ∧ xs.map (·.1) = ks ∧ ∀ p ∈ xs, W.G p.2.1 ≠ none := by
  obtain ⟨a, c, rfl, e, n⟩ := (show OwR W _ w from h)
  refine ⟨a, rfl, e, n, ?_⟩
  generalize hc : Cell.S ks = c at e
  cases W.own e with
  | S xs g q => cases hc; exact ⟨xs, g, rfl, q⟩
  | _ => cases hc
theorem in_seen {is : List Int} {ks} (ak : AOk A d) (hu : VR W (.tu (is.map .i)) x) (hv : VR W (.ok ks) y) (h : (is ∈ ks → Pt W.σ) ∧ (¬ is ∈ ks → Nt W.σ)) (k : KB W Pt Nt fun b s => Qm (.bool b) s) :
    wpAny (MD cx) A (compareOp .In x y) Qm NoE W.s := by
  obtain ⟨b, rfl, hk, _⟩ := tup_key hu
  obtain ⟨a, rfl, e, _, xs, hd, rfl, _⟩ := hv.ok
  exact wpAny_in_heap (knd := tupleKind (IK cx)) (ak.units (n := 1) (by decide)) hk (W.notSys e) hd (k _ (W.tk _) .tk (by rw [atKey_some]; exact ifB.d h.1 h.2))
theorem in_ok {o : Cop} (ak : AOk A d) (ho : o = .isin ∨ o = .notin) (hu : VR W u x) (hv : VR W v y) (h : cmpU W.σ o u v (Pt W.σ) (Nt W.σ)) (k : KB W Pt Nt fun b s => Qm (.bool b) s) : wpAny (MD cx) A (compareOp (opC o) x y) Qm NoE W.s := by
  have key : ∀ {Pp Np : St → Prop} (ne : Bool), inU W.σ (Pp W.σ) (Np W.σ) u v → (KB W (fun σ => ifB ne (Np σ) (Pp σ)) (fun σ => ifB ne (Pp σ) (Np σ)) fun b s => Qm (.bool b) s) → wpAny (MD cx) A (compareOp (bif ne then .NotIn else .In) x y) Qm NoE W.s := by
    intro Pp Np ne hh k
    cases u with
    | i a =>
      obtain ⟨t⟩ := (show IntR a x from hu)
      cases v with
      | lo l =>
        cases l with
        | held => exact in_dic hv.held hh k
        | _ => exact hh.elim
      | fd ks l => exact in_dic hv.fd hh k
      | fl l => obtain ⟨is, rfl, hh⟩ := hh; exact in_int ak hv.fl hh k
      | _ => exact hh.elim
    | s a =>
      cases v with
      | tu l =>
        obtain ⟨t⟩ := (show StrR _ x from hu)
        have h : oQ (fun c => ifB c (Pp W.σ) (Np W.σ)) (memS a l) := hh
        cases e : memS a l with
        | none => rw [e] at h; exact h.elim
        | some c =>
          rw [e] at h
          obtain ⟨h1, h2⟩ := memS.go e
          have r : Rds cx 0 l := .of fun x hx => (h1 x hx).rd
          obtain ⟨as, ra⟩ := r.tup hv.tu
          have un : A.units + 1 + min (PyData.depthAll (toDs l)) (PyData.str (sT a)).depth < cLine := Nat.lt_of_le_of_lt (Nat.add_le_add_left (Nat.min_le_right _ _) _) (ak.units (n := 1) (by decide))
          cases ne with
          | false => exact SeqAt.in_tuple_reads ra (.str _ t) r.can (strOk_sT a) un (k _ W .refl (by rw [h2]; exact h))
          | true => exact SeqAt.notIn_tuple_reads ra (.str _ t) r.can (strOk_sT a) un (k _ W .refl (by rw [h2]; exact ifB.not h))
      | _ => exact hh.elim
    | _ => exact hh.elim
  rcases ho with rfl | rfl
  · have h : seenU _ _ _ u v := h
    cases v with
    | ok ks =>
      cases u with
      | tu l => obtain ⟨is, rfl, hh⟩ := h; exact in_seen ak hu hv hh k
      | _ => exact h.elim
    | _ => exact key (Pp := Pt) (Np := Nt) false h k
  · exact key (Pp := Nt) (Np := Pt) true h k
end
end

end
section
noncomputable section
section
variable {cx : Cx} {A : Around} {d : Nat} {P : Addr → Prop} {W W' : Wd cx} {u v : U} {x y w : Value} {l m : List U}
variable {Q : U → St → Prop} {Qm : Value → Shared → Prop} {Pt Nt : St → Prop} {Qb : Bool → Shared → Prop} {E : Value → Shared → Prop}
theorem lsU.go (hu : VR W u x) (e : lsU W.σ u = some l) : SqH W listO l x := by
  cases u with
  | fl => exact (Option.some.inj e) ▸ hu.fl
  | ol => exact (Option.some.inj e) ▸ hu.ol
  | lo k => cases k with
    | row => exact (Option.some.inj e) ▸ hu.row
    | pot => exact (Option.some.inj e) ▸ hu.pot
    | cel => exact (Option.some.inj e) ▸ hu.cel
    | _ => exact nos e
  | _ => exact nos e
theorem tuU.go (hu : VR W u x) (e : tuU u = some l) : SqH W tupO l x := by
  cases u with
  | tu => exact (Option.some.inj e) ▸ hu.tu
  | _ => exact nos e
theorem dcU.go {p} (hu : VR W u x) (e : dcU W.σ u = some p) : DiH W p.1 p.2 x := by
  cases u with
  | fd => exact (Option.some.inj e) ▸ hu.fd
  | od => exact (Option.some.inj e) ▸ hu.od
  | lo k => cases k with
    | held => exact (Option.some.inj e) ▸ hu.held
    | _ => exact nos e
  | _ => exact nos e
inductive LtI (o p : Option (List U)) (f g : List U → Prop) : Prop
  | l (l : List U) (e : o = some l) (h : f l)
  | t (l : List U) (e : p = some l) (h : g l)
theorem LtI.of {o p : Option (List U)} {f g : List U → Prop} (h : match o, p with | some l, _ => f l | _, some l => g l | _, _ => False) : LtI o p f g := by
  cases o with
  | some l => exact .l l rfl h
  | none => cases p with
    | some l => exact .t l rfl h
    | none => exact h.elim
inductive LtdI (o p : Option (List U)) (r : Option (List Int × List U)) (f g : List U → Prop) (k : List Int × List U → Prop) : Prop
  | l (l : List U) (e : o = some l) (h : f l)
  | t (l : List U) (e : p = some l) (h : g l)
  | d (p : List Int × List U) (e : r = some p) (h : k p)
theorem LtdI.of {o p : Option (List U)} {r} {f g : List U → Prop} {k} (h : match o, p, r with | some l, _, _ => f l | _, some l, _ => g l | _, _, some p => k p | _, _, _ => False) : LtdI o p r f g k := by
  cases o with
  | some l => exact .l l rfl h
  | none => cases p with
    | some l => exact .t l rfl h
    | none => cases r with
      | some p => exact .d p rfl h
      | none => exact h.elim
noncomputable abbrev GI (W : Wd cx) (x : Value) : Prop := ∃ T id, W.s.TypeIs x T ∧ typeLookup (.type T) "__getitem__" = pure (some (.builtin id))
theorem nth_lst {a : Int} {t : Tok} {R : U → Prop} (h : SqH W listO l x) (hn : nthU l a R) (k : ∀ u w, R u → W.pr u w → Qm w W.s) : GI W x ∧ wpAny (MD cx) A (getItem x (.int a t)) Qm NoE W.s := by
  obtain ⟨b, ws, n, rfl, g, r, e, hl⟩ := h.size
  obtain ⟨i, u, hi, ha, q⟩ := hn
  obtain ⟨w, hw, p⟩ := r.get hi
  rw [Array.getElem?_toList] at hw
  have hil : i < l.length := (List.getElem?_eq_some_iff.mp hi).1
  have hs : sizeLine = 2 ^ 24 := rfl
  refine ⟨⟨_, _, ⟨_, g, rfl⟩, slot_list_getitem.lookup⟩, ?_⟩
  rcases ha with rfl | rfl
  · exact wpAny_getItem_list ⟨_, g, rfl, n, rfl⟩ (Int.natCast_nonneg _) (by lia) hw (k _ _ q p)
  · exact wpAny_getItem_list_neg ⟨_, g, rfl, n, rfl⟩ (by lia) (by lia) (by lia) (by rw [e, Int.sub_add_cancel]; exact hw) (k _ _ q p)
theorem nth_tup {a : Int} {t : Tok} {R : U → Prop} (h : SqH W tupO l x) (hn : nthU l a R) (k : ∀ u w, R u → W.pr u w → Qm w W.s) : GI W x ∧ wpAny (MD cx) A (getItem x (.int a t)) Qm NoE W.s := by
  obtain ⟨b, ws, n, rfl, g, r, e, hl⟩ := h.size
  obtain ⟨i, u, hi, ha, q⟩ := hn
  obtain ⟨w, hw, p⟩ := r.get hi
  rw [Array.getElem?_toList] at hw
  have hil : i < l.length := (List.getElem?_eq_some_iff.mp hi).1
  have hs : sizeLine = 2 ^ 24 := rfl
  refine ⟨⟨_, _, ⟨_, g, rfl⟩, slot_tuple_getitem.lookup⟩, ?_⟩
  refine PyProof.Rows.getItem_tuple ⟨_, g, rfl, n, rfl⟩ (by lia) (by lia) (j := i) ?_ hw (k _ _ q p)
  unfold seqIndex?
  rw [e]
  have c : ∀ z : Int, z = i → (if (decide (0 ≤ z) && decide (z < (l.length : Int))) = true then some z.toNat else none) = some i := fun z hz => by
    subst hz; rw [if_pos (by simp; exact hil)]; rfl
  rcases ha with rfl | rfl
  · exact c _ (if_neg (Int.not_lt.mpr (Int.natCast_nonneg _)))
  · exact c _ (by rw [if_pos (Int.sub_neg_of_lt (Int.ofNat_lt.mpr hil)), Int.sub_add_cancel])
theorem isStp.inv (h : isStp u = true) : ∃ i, u = .lo (.stp i) := by
  cases u with
  | lo l => cases l with
    | stp i => exact ⟨i, rfl⟩
    | _ => exact fot h
  | _ => exact fot h
theorem sub_ok (hu : VR W u x) (hv : VR W v y) (h : subU W.σ u v fun z => Q z W.σ) (k : ∀ w u W', Le PF W W' → W'.pr u w → Q u W'.σ → Qm w W'.s) : GI W x ∧ wpAny (MD cx) A (getItem x y) Qm NoE W.s := by
  obtain ⟨a, hh⟩ := h.inv; clear h
  obtain ⟨t⟩ := (show IntR a y from hv)
  cases e : isStp u with
  | true =>
    rw [e] at hh
    obtain ⟨i, rfl⟩ := isStp.inv e
    obtain ⟨c, hs⟩ := hu.stp
    exact nth_lst hs ⟨0, .i c, rfl, .inl hh.1, hh.2 c⟩ fun u w q p => k w u W .refl p q
  | false =>
    rw [e] at hh
    cases LtdI.of hh with
    | l l e h => exact nth_lst (lsU.go hu e) h fun u w q p => k w u W .refl p q
    | t l e h => exact nth_tup (tuU.go hu e) h fun u w q p => k w u W .refl p q
    | d p e h =>
      obtain ⟨z, hz, q⟩ := h
      obtain ⟨b, ws, ns, hk, hd, r, hl⟩ := dcU.go hu e
      have key := dGet.val (k := a) hk r
      rw [hz] at key
      obtain ⟨w', e, hw⟩ := key
      exact ⟨⟨_, _, hd.typeIs, PySem.F.slot_dict_getitem.lookup⟩, wpAny_getItem_of (isI cx.prog cx.w a t) hd.mapOf e (k _ _ (W.tk _) .tk hw q)⟩
theorem add_ok (hu : VR W u x) (hv : VR W v y) (h : addU (fun z => Q z W.σ) u v) (k : KV W Q Qm) : wpAny (MD cx) A (binaryOp .Add x y) Qm NoE W.s := by
  have hs : sizeLine = 2 ^ 24 := rfl
  have hm : mxL = 100000 := rfl
  cases u with
  | i a =>
    cases v with
    | i b =>
      obtain ⟨t⟩ := (show IntR a x from hu)
      obtain ⟨t'⟩ := (show IntR b y from hv)
      exact add_int (k.int h)
    | _ => exact h.elim
  | fl l =>
    cases v with
    | fl m =>
      obtain ⟨h, q⟩ := h
      obtain ⟨a1, ws, n, rfl, g1, r1, s1, _⟩ := hu.fl.size
      obtain ⟨a2, zs, n2, rfl, g2, r2, s2, _⟩ := hv.fl.size
      refine concat_meets ⟨_, g1, rfl⟩ ⟨_, g2, rfl⟩ noFill_list_add seq_list_add PySem.F.slot_list_add PySem.F.entry_list_add (PySem.F.args_list_add_2 _ _) (list_addW a1 a2 ws zs n n2 none none #[] #[] (by rw [s1, s2]; lia)) ⟨g1, g2, ?_⟩
      exact new_fl (by rw [Array.toList_append]; exact r1.append r2) (by rw [List.length_append]; lia) k q
    | _ => exact h.elim
  | tu l =>
    cases v with
    | tu m =>
      obtain ⟨h, q⟩ := h
      obtain ⟨a1, ws, n, rfl, g1, r1, s1, _⟩ := hu.tu.size
      obtain ⟨a2, zs, n2, rfl, g2, r2, s2, _⟩ := hv.tu.size
      have nil : ∀ {vs : List U} {us : Array Value}, us.size = vs.length → us = #[] → vs = [] := fun h e => by subst e; exact List.length_eq_zero_iff.mp h.symm
      by_cases c1 : ws = #[]
      · have := nil s1 c1; subst this
        exact concat_meets ⟨_, g1, rfl⟩ ⟨_, g2, rfl⟩ noFill_tuple_add seq_tuple_add PySem.F.slot_tuple_add PySem.F.entry_tuple_add (PySem.F.args_tuple_add_2 _ _) (tuple_addW0 a1 a2 ws zs n n2 none none #[] #[] (by simp [c1])) ⟨g1, g2, k _ _ W .refl hv q⟩
      · by_cases c2 : zs = #[]
        · have := nil s2 c2; subst this
          exact concat_meets ⟨_, g1, rfl⟩ ⟨_, g2, rfl⟩ noFill_tuple_add seq_tuple_add PySem.F.slot_tuple_add PySem.F.entry_tuple_add (PySem.F.args_tuple_add_2 _ _) (tuple_addW1 a1 a2 ws zs n n2 none none #[] #[] (by simpa using c1) (by simp [c2])) ⟨g1, g2, k _ _ W .refl hu (by rw [List.append_nil] at q; exact q)⟩
        · refine concat_meets ⟨_, g1, rfl⟩ ⟨_, g2, rfl⟩ noFill_tuple_add seq_tuple_add PySem.F.slot_tuple_add PySem.F.entry_tuple_add (PySem.F.args_tuple_add_2 _ _) (tuple_addW2 a1 a2 ws zs n n2 none none #[] #[] (by simpa using c1) (by simpa using c2) (by rw [s1, s2]; lia)) ⟨g1, g2, ?_⟩
          exact new_tu (by rw [Array.toList_append]; exact r1.append r2) (by rw [List.length_append]; lia) k q
    | _ => exact h.elim
  | _ => exact h.elim
end
end

end
section
noncomputable section
inductive OneI (f : U → Prop) : List U → Prop
  | mk (x : U) (h : f x) : OneI f [x]
inductive TwoI (f : U → U → Prop) : List U → Prop
  | mk (x y : U) (h : f x y) : TwoI f [x, y]
theorem one.inv {f} : ∀ {l}, one f l → OneI f l
  | [x], h => .mk x h
theorem two.inv {f} : ∀ {l}, two f l → TwoI f l
  | [x, y], h => .mk x y h
section
variable {cx : Cx} {A : Around} {d : Nat} {P : Addr → Prop} {W W' : Wd cx} {u v : U} {x y w : Value} {l m : List U}
variable {Q : U → St → Prop} {Qm : Value → Shared → Prop} {Pt Nt : St → Prop} {Qb : Bool → Shared → Prop} {E : Value → Shared → Prop}
noncomputable abbrev VRs (W : Wd cx) : List U → List Value → Prop := F2 (VR W)
theorem VRs.one {us ws} {f : U → Prop} {C : List Value → Prop} (h : one f us) (r : VRs W us ws) (k : ∀ u w, VR W u w → f u → C [w]) : C ws := by
  obtain ⟨x, h⟩ := h.inv
  cases r with | cons a t => cases t; exact k _ _ a h
theorem VRs.two {us ws} {f : U → U → Prop} {C : List Value → Prop} (h : two f us) (r : VRs W us ws) (k : ∀ u v w z, VR W u w → VR W v z → f u v → C [w, z]) : C ws := by
  obtain ⟨x, y, h⟩ := h.inv
  cases r with | cons a t => cases t with | cons b t => cases t; exact k _ _ _ _ a b h
theorem lsQ.go {f : List U → Prop} (hu : VR W u x) (h : lsQ W.σ f u) : ∃ l, SqH W listO l x ∧ f l := by
  unfold lsQ at h
  cases e : lsU W.σ u with
  | none => rw [e] at h; exact h.elim
  | some l => rw [e] at h; exact ⟨l, lsU.go hu e, h⟩
theorem KV.kept {h' : Heap} {n : Nat} (k : KV W Q Qm) (hk : ∀ b o, W.s.heap.get? b = some o → h'.get? b = some o) (hv : ∀ W' : Wd cx, Le PF W W' → VR W' u w) (q : Q u W.σ) : Qm w { W.s with heap := h', toks := n } :=
  k _ u (W.gr { W.s with heap := h', toks := n } hk) (.gr rfl rfl) (hv _ (.gr rfl rfl)) q
theorem ints_are {G μ} : ∀ {is : List Int} {ws : List Value}, PRs cx G μ (is.map .i) ws → IntsAre ws is
  | [], ws, h => (show ws = [] from h) ▸ .nil
  | i :: is, ws, h => by
    obtain ⟨w, ws, p, q⟩ := (show ConsR _ _ ws from h)
    obtain ⟨t⟩ := (show IntR i w from p)
    exact .cons i t (ints_are q)
theorem are_ints {G μ} : ∀ {is : List Int} {ws : List Value}, IntsAre ws is → PRs cx G μ (is.map .i) ws
  | [], _, h => by cases h; rfl
  | i :: is, _, h => by cases h with | cons _ t r => exact .cons (IntR.mk t) (are_ints r)
theorem keep_b {id : String} {s : Shared} : KeepOk cx (.builtin id) A s := fun Q E hq => wpAny_pure (hq _)
theorem keep_t {T : String} {s : Shared} : KeepOk cx (.type T) A s := fun Q E hq => wpAny_pure (hq _)
theorem lnU.go {n : Nat} (hu : VR W u x) (e : lnU W.σ u = some n) : (∃ l, SqH W listO l x ∧ l.length = n) ∨ (∃ l, SqH W tupO l x ∧ l.length = n) ∨ ∃ ks l, DiH W ks l x ∧ ks.length = n := by
  cases u with
  | fl l => exact .inl ⟨l, hu.fl, Option.some.inj e⟩
  | ol l => exact .inl ⟨l, hu.ol, Option.some.inj e⟩
  | tu l => exact .inr (.inl ⟨l, hu.tu, Option.some.inj e⟩)
  | lo k => cases k with
    | row => exact .inl ⟨_, hu.row, (List.length_map ..).trans (Option.some.inj e)⟩
    | cel => exact .inl ⟨_, hu.cel, (List.length_map ..).trans (Option.some.inj e)⟩
    | held => exact .inr (.inr ⟨_, _, hu.held, Option.some.inj e⟩)
    | _ => exact nos e
  | _ => exact nos e
theorem len_ok (hu : VR W u x) (h : lenU W.σ (fun z => Q z W.σ) u) (k : KV W Q Qm) : wpAny (MD cx) A (call (.builtin "len") [x]) Qm NoE W.s := by
  unfold lenU at h
  cases e : lnU W.σ u with
  | none => rw [e] at h; exact h.elim
  | some n =>
    rw [e] at h
    rcases lnU.go hu e with ⟨l, hs, rfl⟩ | ⟨l, hs, rfl⟩ | ⟨ks, l, ⟨b, ws, ns, hk, hd, r, hl⟩, rfl⟩
    · obtain ⟨a, ws, n, rfl, g, r, e, hl⟩ := hs.size
      exact Calls.call_len_list ⟨_, g, rfl, n, rfl⟩ (by rw [e]; exact szI hl) (by rw [e]; exact k.int h)
    · obtain ⟨a, ws, n, rfl, g, r, e, hl⟩ := hs.size
      exact len_tuple ⟨_, g, rfl, n, rfl⟩ (by rw [e]; exact szI hl) (by rw [e]; exact k.int h)
    · have e : (ks.zip ws).length = ks.length := by rw [List.length_zip, hk, Nat.min_self]
      exact call_len_dict ns hd (by rw [e, hk, r.len]; exact szI hl) (by rw [e]; exact k.int h)
theorem min1_ok (ak : AOk A d) (hu : VR W u x) (h : lsQ W.σ (fun l => ∃ is : List Int, l = is.map .i ∧ is ≠ [] ∧ ∀ m ∈ is, (∀ x ∈ is, m ≤ x) → Q (.i m) W.σ) u) (k : KV W Q Qm) : wpAny (MD cx) A (call (.builtin "min") [x]) Qm NoE W.s := by
  obtain ⟨l, hs, is, rfl, hne, q⟩ := lsQ.go hu h
  obtain ⟨b, ws, n, rfl, g, r, e, hl⟩ := hs.size
  have hi := ints_are r
  obtain ⟨xs, e⟩ := hi.allInts.items
  have hns : is = xs.toList.map (·.1) := by rw [← hi.numsOf, ← nums_intItems, ← e]
  have hsz : 0 < xs.size := by
    have h3 : 0 < is.length := List.length_pos_iff.mpr hne
    rw [hns, List.length_map, Array.length_toList] at h3; exact h3
  have hl : W.s.heap.IsList b (intItems xs) := by rw [← e, Array.toArray_toList]; exact ⟨_, g, rfl, n, rfl⟩
  refine min_intList ak.1 hl hsz fun v h' tk hv hk => ?_
  obtain ⟨t, rfl⟩ := intItems_at hv
  obtain ⟨g1, g2⟩ := argBest_lt (numAt xs) (xs.size - 1)
  refine k.kept (u := .i _) hk (fun _ _ => (show IntR _ _ from .mk t)) (q _ ?_ fun a ha => ?_)
  · rw [hns, numAt_eq]; exact getD_mem (by rw [List.length_map, Array.length_toList]; lia)
  · rw [hns] at ha
    obtain ⟨j, hj, rfl⟩ := mem_getD ha
    rw [List.length_map, Array.length_toList] at hj
    rw [← numAt_eq]; exact g2 j (by lia)
theorem new_rg {a b c : Int} {t u v : Tok} {n : Nat} (k : KV W Q Qm) (q : Q (.rg a b c) W.σ) : Qm (.ref W.s.heap.objs.size) { W.s with heap := W.s.heap.push { cls := .type "range", data := .fields #[.int a t, .int b u, .int c v] }, toks := n } :=
  new_seq (W := W.tk n) (mk := .rg a b c) rfl (fun W' le g => (show RgR _ _ _ _ _ from .mk _ t u v g)) (fun w u W' le => k w u W' (Le.tk.trans le)) q
theorem list_ok (hu : VR W u x) (h : seqU W.σ (fun l => Q (.fl l) W.σ) u) (k : KV W Q Qm) : wpAny (MD cx) A (call (.type "list") [x]) Qm NoE W.s := by
  have fin : ∀ (T : String) (o : Obj) (ws : Array Value) (n : Nat) (a : Addr) (l : List U), (T = "list" ∨ T = "tuple") → W.s.heap.get? a = some o → o.cls = .type T → o.data = .seq ws n → W.prs l ws.toList → l.length ≤ sizeLine → Q (.fl l) W.σ →
      wpAny (MD cx) A (call (.type "list") [.ref a]) Qm NoE W.s := fun T o ws n a l hT ho hc hd r hl q => by
    refine call_list_seq a hT ho hc hd (fun h' c' hk hD => ?_) (by rw [r.sz]; exact hl)
    have p : Priv (W.gr { W.s with heap := h' } hk) W.s.heap.objs.size _ := ⟨hD, W.notO (dead_size _), W.notG (dead_size _), W.not0 (dead_size _)⟩
    have le : Le PF W ((W.gr { W.s with heap := h' } hk).adF p) := Le.drop ((Le.gr (s' := { W.s with heap := h' }) (k := hk) rfl rfl).trans (Le.adF (P := fun b => b = W.s.heap.objs.size) p rfl)) (dead_size _)
    exact k _ (.fl l) _ le (show SqR _ _ _ _ _ from .mk _ ws _ (adF.at p) (le.prs r) hl) q
  cases LtI.of h with
  | l l e h =>
    obtain ⟨a, ws, n, rfl, g, r, e, hl⟩ := (lsU.go hu e).size
    exact fin "list" _ ws n a l (.inl rfl) g rfl rfl r hl h
  | t l e h =>
    obtain ⟨a, ws, n, rfl, g, r, e, hl⟩ := (tuU.go hu e).size
    exact fin "tuple" _ ws n a l (.inr rfl) g rfl rfl r hl h
theorem tuU.eq (e : tuU u = some l) : u = .tu l := by
  cases u with
  | tu => exact congrArg U.tu (Option.some.inj e)
  | _ => exact nos e
theorem tuple_ok (hu : VR W u x) (h : seqU W.σ (fun l => Q (.tu l) W.σ) u) (k : KV W Q Qm) : wpAny (MD cx) A (call (.type "tuple") [x]) Qm NoE W.s := by
  cases LtI.of h with
  | l l e h =>
    obtain ⟨a, ws, n, rfl, g, r, e, hl⟩ := (lsU.go hu e).size
    refine call_tuple_list ⟨_, g, rfl, n, rfl⟩ (fun h' hk => ?_) (by rw [e]; exact hl)
    exact new_tu (W := W.gr { W.s with heap := h' } hk) (Le.prs (P := PF) (W' := W.gr { W.s with heap := h' } hk) (.gr rfl rfl) r) hl (fun w u W' le => k w u W' (Le.trans (W1 := W.gr { W.s with heap := h' } hk) (.gr rfl rfl) le)) h
  | t l e h =>
    obtain ⟨a, ws, n, rfl, g, r, e', hl⟩ := (tuU.go hu e).size
    exact call_tuple_same ⟨_, g, rfl, n, rfl⟩ (k _ _ W .refl hu ((tuU.eq e) ▸ h))
end
end

end
section

theorem minRun_le : ∀ (f n r : Nat), r ≤ 1 → minRun' f n r ≤ n + r
  | 0, n, r, _ => Nat.le_refl _
  | f + 1, n, r, hr => by
    rw [minRun'_succ]
    split
    · exact Nat.le_refl _
    · have := minRun_le f (n / 2) (max r (n % 2)) (by have := Nat.mod_lt n (show 0 < 2 by omega); omega)
      have h2 := Nat.mod_lt n (show 0 < 2 by omega)
      omega
section
variable {prog : Program} {w : World} {A : Around} {E : Value → Shared → Prop} {s : Shared} {a₀ : Array Keyed}
theorem wpS_countRun_up {st : SortSt} {nrem : Nat} {Q : Option Nat → SortSt → Prop} (h0 : IntKeys a₀) (hn : nrem ≤ a₀.size) (h1 : 1 ≤ nrem) (hB : SBase a₀ st) (hs : SortedTo (arrOf st) nrem) (h : Q (some nrem) st) :
    wpS (model prog w) A E s (countRun' 0 nrem) Q st := by
  rw [countRun0_eq]
  refine wpS_bind (wpS_ascLoop h0 hn (Nat.le_refl 1) h1 hB (fun i j hij hj => by have : i = j := by omega
                                                                                 subst this; exact Int.le_refl _) fun n hn1 hn2 hsn hor => ?_)
  dsimp only
  by_cases hnn : n = nrem
  · rw [if_pos (by simpa using hnn)]
    subst hnn
    exact wpS_pure h
  · have hlt := hor.resolve_left hnn
    have := hs (n - 1) n (by omega) (by omega)
    omega
inductive SRI {α : Type} (st : SortSt) (N : Nat) : Nat → Option α × Nat → SortSt → Prop
  | z : SRI st N 0 (none, 0) st
  | d (x : Nat) (st' : SortSt) (h : 1 ≤ x) (e1 : arrOf st' = arrOf st) (e2 : failedOf st' = none) (e3 : pendingOf st' = #[(0, N, 0)]) : SRI st N x (none, N) st'
inductive SRD {α : Type} (st : SortSt) (N : Nat) : Option α × Nat → SortSt → Prop
  | d (st' : SortSt) (e1 : arrOf st' = arrOf st) (e2 : failedOf st' = none) (e3 : pendingOf st' = #[(0, N, 0)]) : SRD st N (none, N) st'
theorem wpS_sortRuns_up {st : SortSt} {Q : Unit → SortSt → Prop} (h0 : IntKeys a₀) (hB : SBase a₀ st) (h2 : 2 ≤ a₀.size) (hup : SortedTo (arrOf st) a₀.size)
    (h : ∀ st', arrOf st' = arrOf st → failedOf st' = none → Q () st') : wpS (model prog w) A E s sortRuns' Q st := by
  rw [sortRuns'_eq]
  refine wpS_bind (wpS_get ?_)
  rw [← hB.size] at h2 hup
  dsimp only
  have hmr : minRun' (arrOf st).size (arrOf st).size 0 ≤ (arrOf st).size := minRun_le _ _ 0 (Nat.zero_le _)
  refine wpS_bind (wpS_mono (wpS_forRange (I := SRI st (arrOf st).size) (Q := SRD st (arrOf st).size) ?step ?fin .z) ?post)
  case fin =>
    refine fun c st' hI => SRI.rec (motive := fun x c st' _ => x = max 0 (arrOf st).size → SRD st (arrOf st).size c st') (fun e => ?_) (fun x st' h e1 e2 e3 _ => .d st' e1 e2 e3) hI rfl
    rw [Nat.zero_max] at e
    exact absurd h2 (e ▸ Nat.not_succ_le_zero 1)
  case step =>
    refine fun x c st' _ hx hI => ?_
    refine SRI.casesOn hI ?_ (fun x st' h e1 e2 e3 => ?_)
    · rw [if_neg (Nat.not_le_of_lt (Nat.lt_of_succ_lt h2))]
      refine wpS_bind (wpS_countRun_up h0 (Nat.le_of_eq hB.size) (Nat.le_of_succ_le h2) hB hup ?_)
      dsimp only
      rw [if_neg (show ¬ (arrOf st).size - 0 < _ from Nat.not_lt_of_le hmr)]
      refine wpS_bind (wpS_get ?_)
      have hb : (pendingOf st).back? = none := by rw [hB.pend]; rfl
      rw [hb]
      dsimp only
      rw [show 0 + ((arrOf st).size - 0) = (arrOf st).size from Nat.zero_add _]
      exact wpS_bind (wpS_modify (wpS_pure (.d _ _ (Nat.le_refl _) rfl hB.failed (by show (pendingOf st).push _ = _; rw [hB.pend]; rfl))))
    · rw [if_pos (Nat.le_refl _)]
      exact wpS_pure (.d st' e1 e2 e3)
  case post =>
    refine fun c st' hD => SRD.casesOn hD (fun st' e1 e2 e3 => ?_)
    dsimp only
    refine wpS_bind (wpS_mono (wpS_forRange (I := fun _ c st'' => (c, st'') = ((none, ()), st')) (Q := fun c st'' => (c, st'') = ((none, ()), st')) ?_ (fun _ _ hh => hh) rfl) ?_)
    · refine fun x c st'' _ _ e => ?_
      cases e
      refine wpS_bind (wpS_get ?_)
      rw [if_pos (by rw [e3]; exact Nat.le_refl 1)]
      exact wpS_pure rfl
    · refine fun c st'' e => ?_
      cases e
      exact wpS_pure (h _ e1 e2)

theorem pairs_snd (vs : List Value) : (pairsOf vs).map (·.2) = vs.toArray := by
  apply Array.ext_getElem?
  intro i
  unfold pairsOf
  simp only [Array.getElem?_map, List.getElem?_toArray]
  cases h : vs[i]? with
  | none =>
    have : (vs.toArray.zip vs.toArray)[i]? = none := by
      rw [Array.getElem?_eq_none_iff]; simp; exact List.getElem?_eq_none_iff.mp h
    rw [this]; rfl
  | some v =>
    have : (vs.toArray.zip vs.toArray)[i]? = some (v, v) := by
      rw [Array.getElem?_zip_eq_some]; simp [h]
    rw [this]; rfl
theorem sorted_pairs {vs : List Value} {ns : List Int} (hI : IntsAre vs ns) (hup : ns.Pairwise (· ≤ ·)) : SortedTo (pairsOf vs) (pairsOf vs).size := by
  intro i j hij hj
  rw [pairsOf_size] at hj
  have hl := hI.length
  have get : ∀ k, (hk : k < vs.length) → K (pairsOf vs) k = ns[k]'(by omega) := fun k hk => by
    have e : (pairsOf vs)[k]? = some (vs[k], vs[k]) := by
      unfold pairsOf
      rw [Array.getElem?_zip_eq_some]; simp [hk]
    unfold K
    rw [e]
    have := hI.nums
    have h2 : (vs.map numOf)[k]'(by simpa using hk) = ns[k]'(by omega) := by simp only [this]
    simpa using h2
  rw [get i (by omega), get j hj]
  rcases Nat.lt_or_ge i j with h | h
  · exact List.pairwise_iff_getElem.mp hup i j (by omega) (by omega) h
  · have : i = j := by omega
    subst this; exact Int.le_refl _

theorem wpAny_ite_bind {α β : Type} {c : Prop} [Decidable c] {x y : Sem α} {f : α → Sem β} {Q : β → Shared → Prop} (h : wpAny (model prog w) A ((if c then x else y) >>= f) Q E s) : wpAny (model prog w) A (if c then x >>= f else y >>= f) Q E s := by
  by_cases q : c
  · rw [if_pos q] at h ⊢; exact h
  · rw [if_neg q] at h ⊢; exact h
theorem list_sort_core {a : Addr} {vs : List Value} {n : Nat} {out : Array Value} {P : PySem.Fin → Shared → Prop} (ho : s.heap.get? a = some (seqObj "list" vs.toArray n)) (hsz : vs.length ≤ sizeLine) (hout : out.size ≤ sizeLine)
    (hs : ∀ h6 : Heap, (∀ c o, c ≠ a → s.heap.get? c = some o → h6.get? c = some o) → wpAny (model prog w) A (if vs.toArray.size < 2 then pure general' else keyKind' vs.toArray)
      (fun κ s' => wpAny (model prog w) A ((if vs.toArray.size < 2 then pure () else sortRuns').run (SortSt.mk' κ (vs.toArray.zip vs.toArray) #[] 7 none)) (fun p s' => (arrOf p.2).map (·.2) = out ∧ failedOf p.2 = none ∧ s' = { s with heap := h6 }) E s') E { s with heap := h6 })
    (h : P (.done (.ret .none)) { s with heap := sortedHeap s.heap a vs out }) :
    wpAny (model prog w) A (Builtin.«list.sort» ⟨[.ref a], []⟩) P E s := by
  rw [list_sort_plain]
  have ha : a < s.heap.objs.size := Heap.lt_size ho
  refine wpAny_bind (listItems_at ho rfl ?_)
  refine wpAny_bind (listUpdate_at ho rfl ?_ (by rw [List.size_toArray]; exact hsz) (Nat.zero_le _))
  obtain ⟨e1, ho1⟩ : ∃ e1, (s.heap.update a (Obj.mapSeq fun _ => #[])).get? a = some (seqObj "list" #[] e1) := ⟨_, get?_update_seq ho (fun _ => #[])⟩
  refine wpAny_bind (seqEpoch_at ho1 rfl ?_)
  refine wpAny_bind (wpAny_newTuple ?_ hsz)
  refine wpAny_bind (wpAny_newList ?_ (Nat.zero_le _))
  have ho6 := (Heap.get?_push_ne _ _ (seqObj "list" #[] 0) (by rw [size_push', Heap.size_update]; exact Nat.ne_of_lt (Nat.lt_succ_of_lt ha))).trans ((Heap.get?_push_ne _ _ (seqObj "tuple" vs.toArray 0) (by rw [Heap.size_update]; exact Nat.ne_of_lt ha)).trans ho1)
  have hk := hs (((s.heap.update a (Obj.mapSeq fun _ => #[])).push (seqObj "tuple" vs.toArray 0)).push (seqObj "list" #[] 0)) fun c o hc e => Heap.get?_push_of_some (seqObj "list" #[] 0) (Heap.get?_push_of_some (seqObj "tuple" vs.toArray 0) ((Heap.get?_update_ne _ _ _ _ hc).trans e))
  refine wpAny_holding ?_
  dsimp only
  refine wpAny_ite_bind (wpAny_bind (wpAny_mono hk (fun κ s' hk => wpAny_bind (wpAny_mono hk ?_ fun _ _ e => e)) fun _ _ e => e))
  rintro ⟨⟨⟩, st'⟩ s' ⟨har, hf, e⟩
  subst e
  refine wpAny_bind (seqEpoch_at ho6 rfl ?_)
  dsimp only
  rw [har]
  refine wpAny_bind (listUpdate_at ho6 rfl ?_ (Nat.zero_le _) (Nat.le_succ_of_le hout))
  rw [hf, bne_self_eq_false, if_neg Bool.false_ne_true]
  exact wpAny_pure h
theorem list_sort_few {a : Addr} {vs : List Value} {n : Nat} {P : PySem.Fin → Shared → Prop} (ho : s.heap.get? a = some (seqObj "list" vs.toArray n)) (h2 : vs.length < 2)
    (h : P (.done (.ret .none)) { s with heap := sortedHeap s.heap a vs vs.toArray }) :
    wpAny (model prog w) A (Builtin.«list.sort» ⟨[.ref a], []⟩) P E s := by
  have hl : sizeLine = 2 ^ 24 := rfl
  have hsz : vs.length ≤ sizeLine := by omega
  refine list_sort_core ho hsz (by rw [List.size_toArray]; exact hsz) (fun h6 _ => ?_) h
  rw [if_pos (show vs.toArray.size < 2 from h2), if_pos (show vs.toArray.size < 2 from h2)]
  exact wpAny_pure (wpAny_pure ⟨pairs_snd vs, rfl, rfl⟩)
theorem list_sort_up {a : Addr} {vs : List Value} {ns : List Int} {n : Nat} {P : PySem.Fin → Shared → Prop} (ho : s.heap.get? a = some (seqObj "list" vs.toArray n))
    (hI : IntsAre vs ns) (hup : ns.Pairwise (· ≤ ·)) (hsz : vs.length ≤ sizeLine)
    (h : P (.done (.ret .none)) { s with heap := sortedHeap s.heap a vs vs.toArray }) :
    wpAny (model prog w) A (Builtin.«list.sort» ⟨[.ref a], []⟩) P E s := by
  by_cases h2 : vs.length < 2
  · exact list_sort_few ho h2 h
  · refine list_sort_core ho hsz (by rw [List.size_toArray]; exact hsz) (fun h6 _ => ?_) h
    rw [if_neg (show ¬ vs.toArray.size < 2 from h2), if_neg (show ¬ vs.toArray.size < 2 from h2)]
    match vs, h2, hI, hup, hsz with
    | v₁ :: v₂ :: rest, h2, hI, hup, hsz =>
      rw [keyKind_ints hI]
      exact wpAny_pure (wpAny_mono (wpS_sortRuns_up (a₀ := pairsOf (v₁ :: v₂ :: rest)) (Q := fun _ st' => arrOf st' = pairsOf (v₁ :: v₂ :: rest) ∧ failedOf st' = none)
        hI.intKeys ⟨Array.Perm.refl _, rfl, rfl, rfl⟩ (by rw [pairsOf_size]; exact Nat.le_add_left ..) (sorted_pairs hI hup) fun st' a1 a2 => ⟨a1, a2⟩) (fun p s' h => ⟨(congrArg _ h.2.1).trans (pairs_snd _), h.2.2, h.1⟩) fun _ _ e => e)
    | [_], h2, _, _, _ => exact absurd (Nat.le_refl 2) h2
    | [], h2, _, _, _ => exact absurd (Nat.zero_lt_succ 1) h2
end

end
section
noncomputable section
section
variable {prog : Program} {w : World} {A : Around} {E : Value → Shared → Prop} {s : Shared}
theorem lex_loop {b d : Bool} {α : Type} {F : Bool → α} {f : Value × Value → Option α × Unit → Sem (ForInStep (Option α × Unit))} {Q : Option α × Unit → Shared → Prop}
    (hf : ∀ u v k1 k2 R, (intKind prog w).is k1 u = true → (intKind prog w).is k2 v = true → R (if k1 = k2 then .yield (none, ()) else .done (some (F (decide (k1 < k2))), ())) s → wpAny (model prog w) A (f (u, v) (none, ())) R E s)
    (q1 : d = b → Q (none, ()) s) (q2 : Q (some (F b), ()) s) {x : List Int} {xs : List Value} (hx : ItemsAre (intKind prog w) x xs) : ∀ {y : List Int} {ys : List Value}, ItemsAre (intKind prog w) y ys → lexLt x y = b → decide (xs.length < ys.length) = d →
    wpAny (model prog w) A (forIn (xs.zip ys) (none, ()) f) Q E s := by
  induction hx with
  | nil =>
    intro y ys hy h1 h2
    refine wpAny_pure (q1 ?_)
    cases hy <;> exact h2.symm.trans h1
  | @cons k1 u x xs hu _ ih =>
    intro y ys hy
    refine ItemsAre.rec (motive := fun y ys _ => lexLt (k1 :: x) y = b → decide ((u :: xs).length < ys.length) = d → wpAny (model prog w) A (forIn ((u :: xs).zip ys) (none, ()) f) Q E s) (fun h1 h2 => wpAny_pure (q1 (h2.symm.trans h1))) (fun {k2 v y ys} hv hy _ h1 h2 => ?_) hy
    show wpAny _ _ (forIn ((u, v) :: xs.zip ys) _ _) _ _ _
    rw [List.forIn_cons]
    refine wpAny_bind (hf u v k1 k2 _ hu hv ?_)
    by_cases e : k1 = k2
    · rw [if_pos e]
      refine ih hy (Eq.trans ?_ h1) (Eq.trans (decide_eq_decide.mpr Nat.succ_lt_succ_iff.symm) h2)
      rw [lexLt, if_pos e]
    · rw [if_neg e]
      refine wpAny_pure (Eq.subst (motive := fun b => Q (some (F b), ()) s) (Eq.trans h1.symm ?_) q2)
      rw [lexLt, if_neg e]
theorem tuple_lt_tree {x y : List Int} {a b : Addr} {P : PySem.Fin → Shared → Prop} (hx : IsTupleKey (intKind prog w) s.heap x a) (hy : IsTupleKey (intKind prog w) s.heap y b) (h : P (.done (.ret (.bool (lexLt x y)))) s) :
    wpAny (model prog w) A (Builtin.«tuple.__lt__» ⟨[.ref a, .ref b], []⟩) P E s := by
  have hTb := hy.typeIs
  obtain ⟨oa, xs, na, hoa, _, hda, hia⟩ := hx
  obtain ⟨ob, ys, nb, hob, _, hdb, hib⟩ := hy
  show wpAny _ _ (isInstance (.ref b) (.type "tuple") >>= _) _ _ s
  refine wpAny_bind (wpAny_isInstance hTb isSubtype_tuple_tuple ?_)
  rw [Bool.not_true, if_neg Bool.false_ne_true]
  refine wpAny_bind (wpAny_tupleItemsOf hoa hda (wpAny_bind (wpAny_tupleItemsOf hob hdb (wpAny_bind ?_))))
  refine lex_loop (F := fun b => .done (.ret (.bool b))) (fun u v k1 k2 R hu hv q => ?_) (fun e => wpAny_pure (Eq.subst (motive := fun b => P (.done (.ret (.bool b))) s) e.symm h)) (wpAny_pure h) hia hib rfl rfl
  refine wpAny_bind ((intKind prog w).eqBool hu hv ?_)
  by_cases e : k1 = k2
  · rw [if_pos e] at q
    rw [decide_eq_true e, Bool.not_true, if_neg Bool.false_ne_true]
    exact wpAny_pure q
  · rw [if_neg e] at q
    rw [decide_eq_false e, Bool.not_false, if_pos rfl]
    obtain ⟨t1, rfl⟩ := Value.isInt_shape hu
    obtain ⟨t2, rfl⟩ := Value.isInt_shape hv
    refine wpAny_bind (wpAny_rule (wpAny_bind ?_))
    refine (wpAny_lt_int ?_ : wpAny _ _ (compareOp .Lt (.int k1 t1) (.int k2 t2)) _ _ _)
    exact wpAny_bind (wpAny_pure (wpAny_pure q))
theorem wpAny_lt_tuple {x y : List Int} {a b : Addr} {Q : Value → Shared → Prop} (hu : A.units < cLine) (hx : IsTupleKey (intKind prog w) s.heap x a) (hy : IsTupleKey (intKind prog w) s.heap y b) (h : Q (.bool (lexLt x y)) s) :
    wpAny (model prog w) A (compareOp .Lt (.ref a) (.ref b)) Q E s := by
  show wpAny _ _ (richCompare .Lt (.ref a) (.ref b)) Q E s
  exact wpAny_richCompare_same_room (op := .Lt) hx.typeIs hy.typeIs F.slot_tuple_lt
      (wpAny_call_entry F.slot_tuple_lt hx.typeIs F.entry_tuple_lt (tuple_lt_tree hx hy ⟨_, rfl, (fun e => nomatch e), h⟩) (F.args_tuple_lt_2 _ _)) hu
end
theorem kas_sort_2 : ∃ k : Bool → KasT (Array Nat), kas_sort 2 = .ask 1 0 k ∧ k true = .ret #[1, 0] ∧ k false = .ret #[0, 1] := ⟨_, rfl, rfl, rfl⟩
section
variable {prog : Program} {w : World} {A : Around} {E : Value → Shared → Prop} {s : Shared}
theorem list_sort_two {a : Addr} {x y : Value} {n : Nat} {b : Bool} {P : PySem.Fin → Shared → Prop} (ho : s.heap.get? a = some (seqObj "list" [x, y].toArray n))
    (hask : ∀ h6 : Heap, (∀ c o, c ≠ a → s.heap.get? c = some o → h6.get? c = some o) → ∃ κ, wpAny (model prog w) A (keyKind' [x, y].toArray) (fun κ' s' => κ' = κ ∧ s' = { s with heap := h6 }) (fun _ _ => False) { s with heap := h6 } ∧
      ∀ C : Bool → Shared → Prop, C b { s with heap := h6 } → wpAny (model prog w) A (keyLt' κ y x) C (fun _ _ => False) { s with heap := h6 })
    (h : P (.done (.ret .none)) { s with heap := sortedHeap s.heap a [x, y] (if b then [y, x] else [x, y]).toArray }) :
    wpAny (model prog w) A (Builtin.«list.sort» ⟨[.ref a], []⟩) P E s := by
  have hl : sizeLine = 2 ^ 24 := rfl
  have hz : (if b then [y, x] else [x, y]).toArray.size = 2 := by cases b <;> rfl
  refine list_sort_core ho (show 2 ≤ sizeLine by omega) (by rw [hz]; omega) (fun h6 k6 => ?_) h
  obtain ⟨κ, hk, hlt⟩ := hask h6 k6
  rw [if_neg (show ¬ [x, y].toArray.size < 2 from Nat.lt_irrefl 2), if_neg (show ¬ [x, y].toArray.size < 2 from Nat.lt_irrefl 2)]
  refine wpAny_mono hk (fun κ' s' e => ?_) fun _ _ z => z.elim
  rw [e.1, e.2]
  obtain ⟨kk, q1, q2, q3⟩ := kas_sort_2
  refine kat_run (ks := [x, y]) (vs := [x, y]) (Q := fun st' s' => (arrOf st').map (·.2) = (if b then [y, x] else [x, y]).toArray ∧ failedOf st' = none ∧ s' = { s with heap := h6 }) (G := fun p s' => p = (if b then #[1, 0] else #[0, 1]) ∧ s' = { s with heap := h6 }) rfl (Nat.le_refl 2) (show 2 < 64 by decide) (fun p st' s' e1 e2 e3 e4 => And.intro ?_ ⟨e3, e4.2⟩) ?_
  · have h0 : (kas_item ([x, y].toArray.zip [x, y].toArray) 0).2 = x := congrArg Prod.snd (kat_item (ks := [x, y]) (vs := [x, y]) rfl 0)
    have h1 : (kas_item ([x, y].toArray.zip [x, y].toArray) 1).2 = y := congrArg Prod.snd (kat_item (ks := [x, y]) (vs := [x, y]) rfl 1)
    rw [e2, e4.1]
    generalize kas_item ([x, y].toArray.zip [x, y].toArray) = kf at h0 h1
    clear h hask hz hlt e4
    cases b with
    | true => simp [h0, h1]
    | false => simp [h0, h1]
  · show (kas_sort 2).kasWp _ _ _
    rw [q1]
    show kas_ask prog w A κ [x, y] 1 0 _ _
    refine hlt _ ?_
    cases b with
    | true => rw [q2]; exact ⟨rfl, rfl⟩
    | false => rw [q3]; exact ⟨rfl, rfl⟩
end
end

end
section
noncomputable section
section
variable {cx : Cx} {A : Around} {d : Nat} {P : Addr → Prop} {W W' : Wd cx} {u v : U} {x y w : Value} {l m : List U}
variable {Q : U → St → Prop} {Qm : Value → Shared → Prop} {Pt Nt : St → Prop} {Qb : Bool → Shared → Prop} {E : Value → Shared → Prop}
theorem bools_get {G μ} {bs : List Bool} {ws : List Value} {i : Nat} {w : Value} (h : PRs cx G μ (bs.map .b) ws) (e : ws[i]? = some w) : ∃ b, bs[i]? = some b ∧ w = .bool b := by
  have hi : i < bs.length := by have := h.len; rw [List.length_map] at this; rw [← this]; exact (List.getElem?_eq_some_iff.mp e).1
  obtain ⟨w', e', p⟩ := h.get (i := i) (u := .b bs[i]) (by rw [List.getElem?_map, List.getElem?_eq_getElem hi]; rfl)
  rw [e] at e'; cases e'
  exact ⟨_, List.getElem?_eq_getElem hi, p⟩
theorem range_q (bs : List Bool) (c : Bool) : (List.range bs.length).map (fun i => (bs[i]?).getD c) = bs := by
  apply List.ext_getElem
  · simp
  · intro i h1 h2; simp [h2]
theorem range_all (bs : List Bool) : ((List.range bs.length).all fun i => (bs[i]?).getD true) = bs.all id :=
  (List.all_map (f := fun i => (bs[i]?).getD true) (p := id)).symm.trans (by rw [range_q])
theorem range_any (bs : List Bool) : ((List.range bs.length).any fun i => (bs[i]?).getD false) = bs.any id :=
  (List.any_map (f := fun i => (bs[i]?).getD false) (p := id)).symm.trans (by rw [range_q])
theorem walk_kept {h h' : Heap} {o : Obj} (hk : ∀ b o', b ∉ [h.objs.size] → (h.push o).get? b = some o' → h'.get? b = some o') : ∀ b o', h.get? b = some o' → h'.get? b = some o' := fun b o' e =>
  hk b o' (fun hm => absurd ((List.mem_singleton.mp hm) ▸ Heap.lt_size e) (Nat.lt_irrefl _)) (Heap.get?_push_of_some _ e)
theorem KV.keptB {h' : Heap} {n : Nat} {b : Bool} (k : KV W Q Qm) (hk : ∀ b o, W.s.heap.get? b = some o → h'.get? b = some o) (q : Q (.b b) W.σ) : Qm (.bool b) { W.s with heap := h', toks := n } :=
  k.kept (u := .b b) hk (fun _ _ => (show Value.bool b = _ from rfl)) q
theorem all_ok (ak : AOk A d) (hu : VR W u x) (h : lsQ W.σ (fun l => ∃ bs : List Bool, l = bs.map .b ∧ Q (.b (bs.all id)) W.σ) u) (k : KV W Q Qm) : wpAny (MD cx) A (call (.builtin "all") [x]) Qm NoE W.s := by
  obtain ⟨l, hs, bs, rfl, q⟩ := lsQ.go hu h
  obtain ⟨b, ws, n, rfl, g, r, e, hl⟩ := hs.size
  rw [List.length_map] at e
  have hl : W.s.heap.IsList b ws := ⟨_, g, rfl, n, rfl⟩
  refine call_all_walk (wpAny_pyIter_list hl ?_)
  refine ⟨W.s.heap.objs.size, [W.s.heap.objs.size, b], [W.s.heap.objs.size], ws.size, _, _, fun i => (bs[i]?).getD true, rfl, Walks.list (A := A.in1) ak.1 _ b (Nat.ne_of_lt (Heap.lt_size g)) ws,
    ⟨⟨_, Heap.get?_push_size _ rfl, rfl, rfl⟩, hl.push _⟩, fun i v s' Q' E' hP hQ => ?_, fun h' tk hk => ?_⟩
  · obtain ⟨x, e, rfl⟩ := bools_get r (by simpa using hP)
    exact wpAny_truthy_bool (by simp only [e, Option.getD_some] at hQ; exact hQ)
  · rw [e, range_all]; exact k.keptB (walk_kept hk) q
theorem any_ok (ak : AOk A d) (hu : VR W u x) (h : lsQ W.σ (fun l => ∃ bs : List Bool, l = bs.map .b ∧ Q (.b (bs.any id)) W.σ) u) (k : KV W Q Qm) : wpAny (MD cx) A (call (.builtin "any") [x]) Qm NoE W.s := by
  obtain ⟨l, hs, bs, rfl, q⟩ := lsQ.go hu h
  obtain ⟨b, ws, n, rfl, g, r, e, hl⟩ := hs.size
  rw [List.length_map] at e
  have hl : W.s.heap.IsList b ws := ⟨_, g, rfl, n, rfl⟩
  refine call_any_walk (wpAny_pyIter_list hl ?_)
  refine ⟨W.s.heap.objs.size, [W.s.heap.objs.size, b], [W.s.heap.objs.size], ws.size, _, _, fun i => (bs[i]?).getD false, rfl, Walks.list (A := A.in1) ak.1 _ b (Nat.ne_of_lt (Heap.lt_size g)) ws,
    ⟨⟨_, Heap.get?_push_size _ rfl, rfl, rfl⟩, hl.push _⟩, fun i v s' Q' E' hP hQ => ?_, fun h' tk hk => ?_⟩
  · obtain ⟨x, e, rfl⟩ := bools_get r (by simpa using hP)
    exact wpAny_truthy_bool (by simp only [e, Option.getD_some] at hQ; exact hQ)
  · rw [e, range_any]; exact k.keptB (walk_kept hk) q
theorem isort_eq {is js : List Int} (h1 : js.Perm is) (h2 : js.Pairwise (· ≤ ·)) : js = isort is := by
  have p : (isort is).Perm is := List.mergeSort_perm ..
  have s : (isort is).Pairwise fun a b => decide (a ≤ b) = true := List.pairwise_mergeSort (le := fun a b : Int => decide (a ≤ b)) (fun a b c h h' => decide_eq_true (Int.le_trans (of_decide_eq_true h) (of_decide_eq_true h'))) (fun a b => by rw [Bool.or_eq_true, decide_eq_true_eq, decide_eq_true_eq]; exact Int.le_total a b) is
  exact List.Perm.eq_of_pairwise (le := (· ≤ ·)) (fun a b _ _ => Int.le_antisymm) h2 (s.imp fun h => of_decide_eq_true h) (h1.trans p.symm)
theorem sort_fin {s1 : Shared} {D : Addr} {l : List U} {vs : List Value} {out : Array Value} {n : Nat} (hk : ∀ b o, W.s.heap.get? b = some o → s1.heap.get? b = some o) (fr : W.s.heap.get? D = none)
    (e : s1.heap.get? D = some (seqObj "list" vs.toArray n)) (r : W.prs l out.toList) (hle : l.length ≤ sizeLine) (hg : s1.gens = W.s.gens) (ho : s1.os = W.s.os) (k : KV W Q Qm) (q : Q (.fl l) W.σ) : Qm (.ref D) { s1 with heap := sortedHeap s1.heap D vs out } := by
  obtain ⟨m, e'⟩ := sortedHeap_at (h := s1.heap) (out := out) e
  have kk : ∀ b o, W.s.heap.get? b = some o → (sortedHeap s1.heap D vs out).get? b = some o := fun b o hb => by
    have hb1 := hk b o hb
    have ne : b ≠ D := by rintro rfl; rw [fr] at hb; cases hb
    rw [sortedHeap_old ne (Heap.lt_size hb1)]; exact hb1
  have p : Priv (W.gr { s1 with heap := sortedHeap s1.heap D vs out } kk) D _ := ⟨e', W.notO fr, W.notG fr, W.not0 fr⟩
  have le : Le PF W ((W.gr { s1 with heap := sortedHeap s1.heap D vs out } kk).adF p) := Le.drop ((Le.gr (s' := { s1 with heap := sortedHeap s1.heap D vs out }) (k := kk) hg ho).trans (Le.adF (P := fun b => b = D) p rfl)) fr
  exact k _ (.fl l) _ le (show SqR _ _ _ _ _ from .mk _ out _ (adF.at p) (le.prs r) hle) q
theorem sort_tail {s1 : Shared} {D : Addr} {is : List Int} {vs : List Value} {n : Nat} (hk : ∀ b o, W.s.heap.get? b = some o → s1.heap.get? b = some o) (fr : W.s.heap.get? D = none)
    (e : s1.heap.get? D = some (seqObj "list" vs.toArray n)) (hI : IntsAre vs is) (hsz : srtOk is) (hle : is.length ≤ sizeLine) (hg : s1.gens = W.s.gens) (ho : s1.os = W.s.os) (k : KV W Q Qm) (q : Q (.fl ((isort is).map .i)) W.σ) :
    wpAny (MD cx) A (call (.builtin "list.sort") [.ref D]) (fun _ s' => Qm (.ref D) s') NoE s1 := by
  have hl := hI.length
  have fin : ∀ (out : Array Value) (js : List Int), IntsAre out.toList js → js.Perm is → js.Pairwise (· ≤ ·) → Qm (.ref D) { s1 with heap := sortedHeap s1.heap D vs out } := fun out js h1 h2 h3 =>
    sort_fin hk fr e (are_ints h1) (by rw [List.length_map, h2.length_eq]; exact hle) hg ho k (isort_eq h2 h3 ▸ q)
  rcases hsz with h64 | hup
  · exact wpAny_call_entry slot_list_sort ⟨_, e, rfl⟩ entry_list_sort (list_sort_tree e hI (by lia) fun out js a1 a2 a3 => ⟨_, rfl, fin out js a1 a2 a3⟩) (args_list_sort _)
  · exact wpAny_call_entry slot_list_sort ⟨_, e, rfl⟩ entry_list_sort (list_sort_up e hI hup (by lia) ⟨_, rfl, fin vs.toArray is hI (.refl _) hup⟩) (args_list_sort _)
inductive RowI (W : Wd cx) (r : List Int × Int) : Value → Prop
  | mk (a : Addr) (n : Nat) (b : Addr) (t : Tok) (g : W.s.heap.get? a = some (tupO #[.ref b, .int r.2 t] n)) (k : IsTupleKey (IK cx) W.s.heap r.1 b) : RowI W r (.ref a)
theorem row_at {r : List Int × Int} (h : W.pr (rowU r) w) : RowI W r w :=
  SqR.rec (fun a ws n g r' hl => ConsR.rec (motive := fun l _ => ws.toList = l → RowI W r (.ref a)) (fun w1 l1 p q => ConsR.rec (motive := fun l _ => ws.toList = w1 :: l → RowI W r (.ref a)) (fun w2 l2 p2 q2 =>
    IntR.rec (motive := fun z _ => ws.toList = w1 :: z :: l2 → RowI W r (.ref a)) (fun t e => Exists.rec (fun b hb => .mk a n b t ((W.R.gk _ _ g).trans (congrArg (fun x => some (tupO x n)) (Array.toList_inj.mp (e.trans (show w1 :: .int r.2 t :: l2 = [.ref b, .int r.2 t] by rw [show l2 = [] from q2, hb.1]))))) hb.2.1) (tup_key (W := W) (is := r.1) (w := w1) p)) (show IntR r.2 w2 from p2)) q) r' rfl) (show SqR W.G tupO _ (fun l => ConsR _ (fun l => ConsR _ (fun l => l = []) l) l) w from h)
theorem rows_lt {s : Shared} {E : Value → Shared → Prop} {x y : Addr} {n m : Nat} {r1 r2 : List Int × Int} {b1 b2 : Addr} {t1 t2 : Tok} {C : Bool → Shared → Prop} (hu : A.units < cLine) (h1 : s.heap.get? x = some (tupO #[.ref b1, .int r1.2 t1] n)) (h2 : s.heap.get? y = some (tupO #[.ref b2, .int r2.2 t2] m))
    (k1 : IsTupleKey (IK cx) s.heap r1.1 b1) (k2 : IsTupleKey (IK cx) s.heap r2.1 b2) (q : C (rowLt r1 r2) s) : wpAny (MD cx) A (keyLt' (tuples' false) (.ref x) (.ref y)) C E s := by
  refine kat_lt h1 rfl h2 rfl ?_
  show KatLex _ _ _ _ _ _ [(.ref b1, .ref b2), (.int r1.2 t1, .int r2.2 t2)] 0 s
  refine kat_cons (wpAny_eqBool_tuple hu k1 k2 ?_)
  unfold rowLt at q
  by_cases e : r1.1 = r2.1
  · rw [decide_eq_true e]
    rw [if_pos e] at q
    refine kat_yes (kat_cons ((IK cx).eqBool (isI cx.prog cx.w r1.2 t1) (isI cx.prog cx.w r2.2 t2) ?_))
    by_cases e2 : r1.2 = r2.2
    · rw [decide_eq_true e2]
      refine kat_yes (kat_nil ?_)
      rw [decide_eq_false (fun h => absurd (e2 ▸ h) (Int.lt_irrefl _))] at q
      exact q
    · rw [decide_eq_false e2]
      exact kat_no (kat_one _ _ (wpAny_lt_int q))
  · rw [decide_eq_false e]
    rw [if_neg e] at q
    exact kat_no (kat_one _ _ (wpAny_lt_tuple hu k1 k2 q))
theorem tk_keep {h h' : Heap} {is : List Int} {b : Addr} (k : IsTupleKey (IK cx) h is b) (hk : ∀ c o, h.get? c = some o → h'.get? c = some o) : IsTupleKey (IK cx) h' is b := let ⟨o, xs, n, h1, h2⟩ := k; ⟨o, xs, n, hk _ _ h1, h2⟩
inductive Prs2 (W : Wd cx) (u v : U) : List Value → Prop
  | mk (x y : Value) (p : W.pr u x) (q : W.pr v y) : Prs2 W u v [x, y]
theorem prs2 {vs : List Value} (r : W.prs [u, v] vs) : Prs2 W u v vs := ConsR.rec (fun x vs p r => ConsR.rec (fun y vs q r => (show vs = [] from r).symm ▸ .mk x y p q) (show ConsR (α := Unit) (W.pr v) (fun l => l = []) vs from r)) (show ConsR (α := Unit) (W.pr u) (fun l => W.prs [v] l) vs from r)
theorem sort_two {s1 : Shared} {D : Addr} {n : Nat} {P : PySem.Fin → Shared → Prop} (hu : A.units + 1 < cLine) (hk : ∀ b o, W.s.heap.get? b = some o → s1.heap.get? b = some o) (fr : W.s.heap.get? D = none) {r1 r2 : List Int × Int} {x y : Value}
    (e : s1.heap.get? D = some (seqObj "list" [x, y].toArray n)) (p1 : RowI W r1 x) (p2 : RowI W r2 y) (q : P (.done (.ret .none)) { s1 with heap := sortedHeap s1.heap D [x, y] (if rowLt r2 r1 then [y, x] else [x, y]).toArray }) :
    wpAny (MD cx) A (Builtin.«list.sort» ⟨[.ref D], []⟩) P NoE s1 := by
  refine list_sort_two (b := rowLt r2 r1) e (fun h6 k6 => ?_) q
  have gk : ∀ c o, W.s.heap.get? c = some o → h6.get? c = some o := fun c o e => k6 c o (fun z => nomatch (z ▸ fr).symm.trans e) (hk _ _ e)
  have ty : ∀ {r : List Int × Int} {b : Addr}, IsTupleKey (IK cx) h6 r.1 b → ∀ A' Q' E' s', (∀ c o, h6.get? c = some o → s'.heap.get? c = some o) → Q' (.type "tuple") s' → wpAny (MD cx) A' (typeOf (.ref b)) Q' E' s' :=
    fun x A' Q' E' s' k qq => wpAny_typeOf (Exists.rec (fun o h => Exists.rec (fun xs h => Exists.rec (fun n h => ⟨o, k _ _ h.1, h.2.1⟩) h) h) x) qq
  refine RowI.casesOn p1 (fun xa xn xb xt x1 x2 => ?_)
  refine RowI.casesOn p2 (fun ya yn yb yt y1 y2 => ?_)
  refine ⟨tuples' false, kat_kind (s := { s1 with heap := h6 }) (fs := [.ref xb, .ref yb]) (T := .type "tuple") (.cons (gk _ _ x1) rfl rfl rfl (.cons (gk _ _ y1) rfl rfl rfl .nil)) (Nat.succ_pos 1) (List.forall_mem_cons.mpr ⟨ty (tk_keep x2 gk), List.forall_mem_cons.mpr ⟨ty (tk_keep y2 gk), fun _ h => nomatch h⟩⟩) (by decide) ⟨congrArg tuples' (by decide), rfl⟩,
    fun C hC => rows_lt (s := { s1 with heap := h6 }) (Nat.lt_of_succ_lt hu) (gk _ _ y1) (gk _ _ x1) (tk_keep y2 gk) (tk_keep x2 gk) hC⟩
theorem sort_rows {s1 : Shared} {D : Addr} {n : Nat} (hu : A.units + 2 < cLine) (hk : ∀ b o, W.s.heap.get? b = some o → s1.heap.get? b = some o) (fr : W.s.heap.get? D = none)
    (hg : s1.gens = W.s.gens) (ho : s1.os = W.s.os) (k : KV W Q Qm) {rs : List (List Int × Int)} {vs : List Value} (e : s1.heap.get? D = some (seqObj "list" vs.toArray n)) (r : W.prs (rs.map rowU) vs) (h2 : rs.length ≤ 2) (q : Q (.fl ((sortRows rs).map rowU)) W.σ) :
    wpAny (MD cx) A (call (.builtin "list.sort") [.ref D]) (fun _ s' => Qm (.ref D) s') NoE s1 := by
  have few : vs.length < 2 → sortRows rs = rs → wpAny (MD cx) A (call (.builtin "list.sort") [.ref D]) (fun _ s' => Qm (.ref D) s') NoE s1 := fun h e2 =>
    wpAny_call_entry slot_list_sort ⟨_, e, rfl⟩ entry_list_sort (list_sort_few e h ⟨_, rfl, sort_fin hk fr e r (Nat.le_trans (Nat.le_of_lt (r.len ▸ h)) (by decide)) hg ho k (e2 ▸ q)⟩) (args_list_sort _)
  match rs, r, h2, q, few with
  | [], r, _, _, few => exact few (by rw [r.len]; exact Nat.zero_lt_two) rfl
  | [r1], r, _, _, few => exact few (by rw [r.len]; exact Nat.one_lt_two) rfl
  | _ :: _ :: _ :: _, _, h2, _, _ => exact absurd h2 (Nat.not_le_of_lt (Nat.le_add_left 3 _))
  | [r1, r2], r, _, q, _ =>
    refine Prs2.rec (motive := fun vs _ => s1.heap.get? D = some (seqObj "list" vs.toArray n) → _) (fun x y p1 p2 e => ?_) (prs2 r) e
    refine wpAny_call_entry slot_list_sort ⟨_, e, rfl⟩ entry_list_sort (sort_two hu hk fr e (row_at p1) (row_at p2) ⟨_, rfl, ?_⟩) (args_list_sort _)
    have q : Q (.fl ((if rowLt r2 r1 then [r2, r1] else [r1, r2]).map rowU)) W.σ := q
    refine sort_fin hk fr e ?_ ?_ hg ho k q
    · cases rowLt r2 r1 with
      | true => exact .cons p2 (.cons p1 rfl)
      | false => exact .cons p1 (.cons p2 rfl)
    · cases rowLt r2 r1 <;> exact (by decide : 2 ≤ sizeLine)
theorem sortedL_gen (hs : SqH W listO l x) (H : ∀ (s1 : Shared) (D : Addr) (vs : List Value) (n : Nat), (∀ b o, W.s.heap.get? b = some o → s1.heap.get? b = some o) → W.s.heap.get? D = none → s1.heap.get? D = some (seqObj "list" vs.toArray n) → W.prs l vs → l.length ≤ sizeLine → s1.gens = W.s.gens → s1.os = W.s.os →
    wpAny (MD cx) A.in1 (call (.builtin "list.sort") [.ref D]) (fun _ s' => Qm (.ref D) s') NoE s1) : wpAny (MD cx) A (call (.builtin "sorted") [x]) Qm NoE W.s := by
  obtain ⟨b, ws, n, rfl, g, r, e, hle⟩ := hs.size
  have hl := r.len
  refine Calls.call_function_entry kind_sorted plain_sorted entry_sorted (args_sorted1 _) ?_
  unfold Builtin.«sorted»
  refine wpAny_bind (m := checkCount "sorted" 1 1 _) (wpAny_pure ?_)
  refine wpAny_bind (collect_list (vs := ws.toList) ⟨_, g, rfl, n, by simp⟩ ?_ (by lia))
  refine wpAny_bind (wpAny_newList ?_ (by lia))
  have hsz1 : ((W.s.heap.push (seqObj "list" #[] 0)).update W.s.heap.objs.size (Obj.mapSeq (· ++ ws.toList.toArray))).objs.size = W.s.heap.objs.size + 1 := by
    rw [Heap.size_update, size_push']
  have hoL : (((W.s.heap.push (seqObj "list" #[] 0)).update W.s.heap.objs.size (Obj.mapSeq (· ++ ws.toList.toArray))).push (seqObj "list" ws.toList.toArray 0)).get? (W.s.heap.objs.size + 1) = some (seqObj "list" ws.toList.toArray 0) := by
    rw [← hsz1]; exact Heap.get?_push_size _ rfl
  have keep : ∀ b o, W.s.heap.get? b = some o → (((W.s.heap.push (seqObj "list" #[] 0)).update W.s.heap.objs.size (Obj.mapSeq (· ++ ws.toList.toArray))).push (seqObj "list" ws.toList.toArray 0)).get? b = some o := fun b o q => by
    have hlt : b < W.s.heap.objs.size := Heap.lt_size q
    rw [Heap.get?_push_ne _ _ _ (by rw [hsz1]; exact Nat.ne_of_lt (Nat.lt_succ_of_lt hlt)), Heap.get?_update_ne _ _ _ _ (Nat.ne_of_lt hlt), Heap.get?_push_ne _ _ _ (Nat.ne_of_lt hlt)]
    exact q
  show wpAny _ _ _ _ _ { W.s with heap := ((W.s.heap.push (seqObj "list" #[] 0)).update W.s.heap.objs.size (Obj.mapSeq (· ++ ws.toList.toArray))).push (seqObj "list" ws.toList.toArray 0) }
  rw [hsz1]
  refine wpAny_bind (wpAny_holding (wpAny_mono (H { W.s with heap := ((W.s.heap.push (seqObj "list" #[] 0)).update W.s.heap.objs.size (Obj.mapSeq (· ++ ws.toList.toArray))).push (seqObj "list" ws.toList.toArray 0) } _ ws.toList 0 keep (Heap.get?_none_of_le (Nat.le_succ _)) hoL r hle rfl rfl) (fun _ s' h => ?_) fun _ _ x => x.elim))
  exact wpAny_pure ⟨_, rfl, h⟩
theorem sortedL_ok {is : List Int} (hs : SqH W listO (is.map .i) x) (hsz : srtOk is) (k : KV W Q Qm) (q : Q (.fl ((isort is).map .i)) W.σ) : wpAny (MD cx) A (call (.builtin "sorted") [x]) Qm NoE W.s :=
  sortedL_gen hs fun s1 D vs n hk fr e r hle hg ho => sort_tail hk fr e (ints_are r) hsz (by rw [List.length_map] at hle; exact hle) hg ho k q
theorem sortedR_ok (ak : AOk A d) {rs : List (List Int × Int)} (hs : SqH W listO (rs.map rowU) x) (hsz : rs.length ≤ 2) (k : KV W Q Qm) (q : Q (.fl ((sortRows rs).map rowU)) W.σ) : wpAny (MD cx) A (call (.builtin "sorted") [x]) Qm NoE W.s :=
  sortedL_gen hs fun s1 D vs n hk fr e r hle hg ho => sort_rows (by have h1 := ak.un; have h2 : cLine = 9900 := rfl; show A.units + 1 + 2 < cLine; lia) hk fr hg ho k e r hsz q
theorem keys_are : ∀ {xs : List Value} {ks : List Int}, xs.length = ks.length → (∀ (i : Nat) (x : Value), xs[i]? = some x → ∃ (k : Int) (t : Tok), ks[i]? = some k ∧ x = Value.int k t) → IntsAre xs ks
  | [], [], _, _ => .nil
  | x :: xs, k :: ks, h, hx => by
    obtain ⟨k', t, e, rfl⟩ := hx 0 x rfl
    cases e
    exact .cons _ t (keys_are (Nat.succ.inj h) fun i y hy => hx (i + 1) y hy)
theorem sortedD_ok (ak : AOk A d) {ks : List Int} (hs : DiH W ks l x) (hsz : ks.length < 64) (k : KV W Q Qm) (q : Q (.fl ((isort ks).map .i)) W.σ) : wpAny (MD cx) A (call (.builtin "sorted") [x]) Qm NoE W.s := by
  obtain ⟨b, ws, ns, hk, hd, r, hl⟩ := hs
  obtain ⟨ep, hat⟩ := hd.dictAt
  have hS : sizeLine = 2 ^ 24 := rfl
  refine Calls.call_function_entry kind_sorted plain_sorted entry_sorted (args_sorted1 _) ?_
  unfold Builtin.«sorted»
  refine wpAny_bind (m := checkCount "sorted" 1 1 _) (wpAny_pure ?_)
  have hzl : (ks.zip ws).length = ks.length := by rw [List.length_zip, hk, Nat.min_self]
  refine wpAny_bind (kdu_collect (A := A.in1) (kdl_dict (knd := IK cx) (kvs := ks.zip ws) (ep := ep) ns) ak.1 hat (by lia) fun h' tk acc hk' hacc => ?_)
  have hlen : acc.toList.length = ks.length := by rw [Array.length_toList, hacc.1, hzl]
  have hI : IntsAre acc.toList ks := keys_are hlen fun i x hx => by
    obtain ⟨k, y, e, hkk⟩ := hacc.2 i x (by rw [← Array.getElem?_toList]; exact hx)
    obtain ⟨t, rfl⟩ := Value.isInt_shape hkk
    exact ⟨k, t, (List.getElem?_zip_eq_some.mp e).1, rfl⟩
  refine wpAny_bind (wpAny_newList ?_ (by lia))
  have keep : ∀ b o, W.s.heap.get? b = some o → (h'.push { cls := .type "list", data := .seq acc.toList.toArray }).get? b = some o := fun b o e => Heap.get?_push_of_some _ (hk' b o e)
  have fr : W.s.heap.get? h'.objs.size = none := by
    cases q : W.s.heap.get? h'.objs.size with
    | none => rfl
    | some o => exact absurd (Heap.lt_size (hk' _ _ q)) (Nat.lt_irrefl _)
  refine wpAny_bind (wpAny_holding (wpAny_mono (sort_tail (A := A.in1) (s1 := { W.s with heap := h'.push { cls := .type "list", data := .seq acc.toList.toArray }, toks := tk }) keep fr (Heap.get?_push_size _ rfl) hI (.inl hsz) (by lia) rfl rfl k q) (fun _ s' h => ?_) fun _ _ x => x.elim))
  exact wpAny_pure ⟨_, rfl, h⟩
theorem sort_ok (ak : AOk A d) (hu : VR W u x) (h : sortU W.σ (fun z => Q z W.σ) u) (k : KV W Q Qm) : wpAny (MD cx) A (call (.builtin "sorted") [x]) Qm NoE W.s := by
  unfold sortU at h
  cases e : lsU W.σ u with
  | some l =>
    rw [e] at h
    rcases h with ⟨is, rfl, hs, q⟩ | ⟨rs, rfl, hs, q⟩
    · exact sortedL_ok (lsU.go hu e) hs k q
    · exact sortedR_ok ak (lsU.go hu e) hs k q
  | none =>
    cases e2 : dcU W.σ u with
    | some p => rw [e, e2] at h; exact sortedD_ok ak (dcU.go hu e2) h.1 k h.2
    | none => rw [e, e2] at h; exact h.elim
end
end

end
section
noncomputable section
section
variable {cx : Cx} {A : Around} {d : Nat} {P : Addr → Prop} {B W W' : Wd cx} {u v : U} {x y w : Value} {l m : List U}
variable {Q : U → St → Prop} {Qm : Value → Shared → Prop} {Pt Nt : St → Prop} {Qb : Bool → Shared → Prop} {E : Value → Shared → Prop}
theorem sn {α : Type} {o : Option α} {x : α} {C : Prop} (h : o = some x) (h' : o = none) : C := nomatch h.symm.trans h'
theorem Wd.kn (W : Wd cx) {a d : Addr} {c : Cell} (e : W.H a = some c) (k : kOf c = some d) : W.H d = none := by
  cases c with
  | I c d' us => exact (Option.some.inj k) ▸ W.R.sep _ _ _ _ e
  | _ => exact nos k
theorem Wd.k2 (W : Wd cx) {a a' d : Addr} {c c' : Cell} (e : W.H a = some c) (k : kOf c = some d) (e' : W.H a' = some c') (k' : kOf c' = some d) : a' = a := by
  cases c with
  | I c d1 us => cases c' with
    | I c' d2 us' => cases k; cases k'; exact W.R.sep2 _ _ _ _ _ _ _ e e'
    | _ => exact nos k'
  | _ => exact nos k
theorem Own.inv {H : HH} {b : Addr} (o : Own H b) : (∃ c, H b = some c) ∨ ∃ a c, H a = some c ∧ kOf c = some b := Own.rec (fun {c} e => .inl ⟨c, e⟩) (fun {a c us} e => .inr ⟨a, _, e, rfl⟩) o
theorem kOf.I {c : Cell} {d : Addr} (k : kOf c = some d) : ∃ n us, c = .I n d us := by
  cases c with
  | I n d' us => exact ⟨n, us, by rw [Option.some.inj k]⟩
  | _ => exact nos k
theorem Own.set {H : HH} {a b : Addr} {c c' : Cell} (e : H a = some c) (k : kOf c' = kOf c) (o : Own (H.set a c') b) : Own H b := by
  rcases o.inv with ⟨x, q⟩ | ⟨x, z, q, r⟩
  · rcases HH.inv q with ⟨rfl, rfl⟩ | ⟨_, q⟩
    · exact .c e
    · exact .c q
  · rcases HH.inv q with ⟨rfl, rfl⟩ | ⟨_, q⟩
    · exact .ofK e (k ▸ r)
    · exact .ofK q r
noncomputable def Wd.upd (W : Wd cx) (s' : Shared) {a : Addr} {c : Cell} (c' : Cell) (σ' : St) (hc : W.H a = some c) (hk : kOf c' = kOf c) (kp : ∀ b o, b ≠ a → kOf c ≠ some b → W.s.heap.get? b = some o → s'.heap.get? b = some o) (hr : CellR cx W.G W.μ s'.heap a c')
    (loc : ∀ l x, W.μ l = some x → ∃ c, (W.H.set a c') x = some c ∧ LocOk σ' l c) (born : ∀ l x, W.μ l = some x → Born σ' l) : Wd cx :=
  have gk : ∀ b o, W.G b = some o → s'.heap.get? b = some o := fun b o e => kp b o (fun q => W.R.gd _ _ e (q ▸ .c hc)) (fun q => W.R.gd _ _ e (.ofK hc q)) (W.R.gk b o e)
  { s := s', G := W.G, μ := W.μ, H := W.H.set a c', σ := σ'
    R := { W.R with
      base := fun b o e => kp b o (fun q => sn e (W.R.low b (q ▸ .c hc))) (fun q => sn e (W.R.low b (.ofK hc q))) (W.R.base b o e)
      low := fun b o => W.R.low b (o.set hc hk)
      gk := gk
      gd := fun b o e q => W.R.gd b o e (q.set hc hk)
      cell := fun b x e => (HH.inv e).elim (fun q => q.1 ▸ q.2 ▸ hr) fun q => (W.R.cell b x q.2).keep (fun _ _ e => e) (fun _ _ e => e) W.R.gk gk (fun o => kp b o q.1 fun r => sn q.2 (W.kn hc r))
        fun d o k => kp d o (fun r => sn hc (r ▸ W.kn q.2 k : W.H a = none)) fun r => q.1 (W.k2 hc r q.2 k)
      sep := fun x c1 d us e => by
        have nd : W.H d = none := (HH.inv e).elim (fun q => W.kn (d := d) (q.1 ▸ hc) (by rw [← hk, ← q.2]; rfl)) fun q => W.R.sep _ _ _ _ q.2
        rw [HH.ne (fun q => by subst q; exact sn hc nd)]; exact nd
      sep2 := fun x c1 d us x' c2 us' e e' => by
        have k1 : ∃ z, W.H x = some z ∧ kOf z = some d := (HH.inv e).elim (fun q => ⟨c, q.1 ▸ hc, by rw [← hk, ← q.2]; rfl⟩) fun q => ⟨_, q.2, rfl⟩
        have k2 : ∃ z, W.H x' = some z ∧ kOf z = some d := (HH.inv e').elim (fun q => ⟨c, q.1 ▸ hc, by rw [← hk, ← q.2]; rfl⟩) fun q => ⟨_, q.2, rfl⟩
        obtain ⟨z, q1, q2⟩ := k1
        obtain ⟨z', q3, q4⟩ := k2
        exact W.k2 q1 q2 q3 q4
      loc := loc
      born := born } }
theorem Le.upd {s' : Shared} {a : Addr} {c c' : Cell} {σ' : St} {hc : W.H a = some c} {hk : kOf c' = kOf c} {kp : ∀ b o, b ≠ a → kOf c ≠ some b → W.s.heap.get? b = some o → s'.heap.get? b = some o} {hr loc born} (x : Le P B W) (h : B.H a ≠ none → ∃ l, B.μ l = some a) (hg : s'.gens = W.s.gens) (ho : s'.os = W.s.os) : Le P B (W.upd s' c' σ' hc hk kp hr loc born) :=
  ⟨x.g, x.m, fun b z e n => ⟨by rw [show (W.upd s' c' σ' hc hk kp hr loc born).H b = W.H b from HH.ne fun q => (h (fun r => nomatch (q ▸ e).symm.trans r)).elim fun l r => n l (q ▸ r)]; exact (x.ow b z e n).1, (x.ow b z e n).2⟩,
    fun b o p n => let q := x.pv b o p n; ⟨kp b o (fun r => q.2 (r ▸ .c hc)) (fun r => q.2 (.ofK hc r)) q.1, fun r => q.2 (r.set hc hk), q.3, q.4⟩, hg.trans x.gens, ho.trans x.os⟩
noncomputable def Wd.adO (W : Wd cx) {a : Addr} {o : Obj} (p : Priv W a o) (c : Cell) (hr : CellR cx W.G W.μ W.s.heap a c) (hk : ∀ d, kOf c = some d → d ≠ a ∧ ∃ o', Priv W d o') : Wd cx :=
  have na : W.H a = none := by
    cases q : W.H a with
    | none => rfl
    | some z => exact absurd (.c q) p.ow
  have own : ∀ b, Own (W.H.set a c) b → b = a ∨ kOf c = some b ∨ Own W.H b := fun b o => by
    rcases o.inv with ⟨x, q⟩ | ⟨x, z, q, r⟩
    · rcases HH.inv q with ⟨rfl, _⟩ | ⟨_, q⟩
      · exact .inl rfl
      · exact .inr (.inr (.c q))
    · rcases HH.inv q with ⟨rfl, rfl⟩ | ⟨_, q⟩
      · exact .inr (.inl r)
      · exact .inr (.inr (.ofK q r))
  { W with
    H := W.H.set a c
    R := { W.R with
      low := fun b o => (own b o).elim (fun q => q ▸ p.n0) fun q => q.elim (fun q => (hk b q).2.elim fun _ r => r.n0) (W.R.low b)
      gd := fun b x e o => (own b o).elim (fun q => by subst q; exact sn e p.ng) fun q => q.elim (fun q => (hk b q).2.elim fun _ r => sn e r.ng) (W.R.gd b x e)
      cell := fun b x e => (HH.inv e).elim (fun q => q.1 ▸ q.2 ▸ hr) fun q => W.R.cell b x q.2
      sep := fun x c1 d us e => (HH.inv e).elim (fun q => by
          obtain ⟨h1, o', h2⟩ := hk d (by rw [← q.2]; rfl)
          rw [HH.ne h1]
          cases z : W.H d with
          | none => rfl
          | some z' => exact absurd (.c z) h2.ow) fun q => by
        rw [HH.ne (fun r => by subst r; exact p.ow (.ofK q.2 rfl))]; exact W.R.sep _ _ _ _ q.2
      sep2 := fun x c1 d us x' c2 us' e e' => (HH.inv e).elim (fun q => (HH.inv e').elim (fun q' => q'.1.trans q.1.symm) fun q' => (hk d (by rw [← q.2]; rfl)).2.elim fun _ r => absurd (.ofK q'.2 rfl) r.ow)
        fun q => (HH.inv e').elim (fun q' => (hk d (by rw [← q'.2]; rfl)).2.elim fun _ r => absurd (.ofK q.2 rfl) r.ow) fun q' => W.R.sep2 _ _ _ _ _ _ _ q.2 q'.2
      loc := fun l x e => let ⟨c1, q, o⟩ := W.R.loc l x e; ⟨c1, by rw [HH.ne (fun r => by subst r; exact sn q na)]; exact q, o⟩ } }
theorem Wd.noH (W : Wd cx) {a : Addr} {o : Obj} (p : Priv W a o) : W.H a = none := by
  cases q : W.H a with
  | none => rfl
  | some z => exact absurd (.c q) p.ow
theorem Wd.noM (W : Wd cx) {a : Addr} (n : W.H a = none) (l : Loc) : W.μ l ≠ some a := fun e => let ⟨c, q, _⟩ := W.R.loc l a e; nomatch q.symm.trans n
theorem Le.adO {a : Addr} {o : Obj} {p : Priv W a o} {c hr hk} (x : Le P B W) (h : ∀ b z, Priv B b z → P b ∨ b ≠ a ∧ kOf c ≠ some b) : Le P B (W.adO p c hr hk) :=
  ⟨x.g, x.m, fun b z e n => ⟨by rw [show (W.adO p c hr hk).H b = W.H b from HH.ne fun q => by subst q; exact sn (x.ow _ z e n).1 (W.noH p)]; exact (x.ow b z e n).1, (x.ow b z e n).2⟩,
    fun b o' q n => let r := x.pv b o' q n; ⟨r.1, fun w => (h b o' q).elim n fun hh => by
      rcases w.inv with ⟨x, q⟩ | ⟨x, z, q, s⟩
      · rcases HH.inv q with ⟨e, _⟩ | ⟨_, q⟩
        · exact hh.1 e
        · exact r.2 (.c q)
      · rcases HH.inv q with ⟨rfl, rfl⟩ | ⟨_, q⟩
        · exact hh.2 s
        · exact r.2 (.ofK q s), r.3, r.4⟩, x.gens, x.os⟩
end
end

end
section
noncomputable section
section
variable {cx : Cx} {A : Around} {d : Nat} {P : Addr → Prop} {B W W' : Wd cx} {u v : U} {x y w : Value} {l m : List U}
variable {Q : U → St → Prop} {Qm : Value → Shared → Prop} {Pt Nt : St → Prop} {Qb : Bool → Shared → Prop} {E : Value → Shared → Prop}
open Classical in
noncomputable def fzG (W : Wd cx) (a : Addr) (c : Cell) : GM := fun b => if b = a ∨ kOf c = some b then W.s.heap.get? b else W.G b
theorem Own.of2 {H : HH} {a b : Addr} {c : Cell} (hc : H a = some c) (h : b = a ∨ kOf c = some b) : Own H b := h.elim (fun e => by subst e; exact .c hc) (.ofK hc)
theorem fzG.no {a b : Addr} {c : Cell} (h : ¬ (b = a ∨ kOf c = some b)) : fzG W a c b = W.G b := if_neg h
theorem fzG.at {a b : Addr} {c : Cell} (h : b = a ∨ kOf c = some b) : fzG W a c b = W.s.heap.get? b := if_pos h
theorem fzG.le {a : Addr} {c : Cell} (hc : W.H a = some c) : ∀ b o, W.G b = some o → fzG W a c b = some o := fun b o e => (fzG.no fun h => W.R.gd b o e (.of2 hc h)).trans e
noncomputable def Wd.fz (W : Wd cx) {a : Addr} {c : Cell} (hc : W.H a = some c) (n : ∀ l, W.μ l ≠ some a) : Wd cx :=
  have own : ∀ b, Own (W.H.del a) b → Own W.H b ∧ ¬ (b = a ∨ kOf c = some b) := fun b o => by
    rcases o.inv with ⟨x, q⟩ | ⟨x, z, q, r⟩
    · obtain ⟨ne, q'⟩ := HH.dinv q
      exact ⟨.c q', fun h => h.elim ne fun k => sn q' (W.kn hc k)⟩
    · obtain ⟨ne, q'⟩ := HH.dinv q
      exact ⟨.ofK q' r, fun h => h.elim (fun e => by subst e; exact sn hc (W.kn q' r)) fun k => ne (W.k2 hc k q' r)⟩
  { W with
    G := fzG W a c
    H := W.H.del a
    R := { W.R with
      low := fun b o => W.R.low b (own b o).1
      g0 := fun b o e => fzG.le hc b o (W.R.g0 b o e)
      gk := fun b o e => by
        by_cases h : b = a ∨ kOf c = some b
        · rw [fzG.at h] at e; exact e
        · rw [fzG.no h] at e; exact W.R.gk b o e
      gd := fun b o e q => W.R.gd b o (by rw [fzG.no (own b q).2] at e; exact e) (own b q).1
      cell := fun b x e => (W.R.cell b x (HH.dinv e).2).keep (fzG.le hc) (fun _ _ e => e) W.R.gk W.R.gk (fun _ e => e) fun _ _ _ e => e
      sep := fun x c1 d us e => by
        have q := W.R.sep _ _ _ _ (HH.dinv e).2
        show HH.del W.H a d = none
        unfold HH.del; split
        · rfl
        · exact q
      sep2 := fun x c1 d us x' c2 us' e e' => W.R.sep2 _ _ _ _ _ _ _ (HH.dinv e).2 (HH.dinv e').2
      loc := fun l x e => let ⟨c1, q, o⟩ := W.R.loc l x e; ⟨c1, by rw [HH.dne (fun r => by subst r; exact n l e)]; exact q, o⟩ } }
theorem Le.fz {a : Addr} {c : Cell} {hc : W.H a = some c} {n : ∀ l, W.μ l ≠ some a} (x : Le P B W) (h : B.H a = none) : Le P B (W.fz hc n) :=
  ⟨fun b o e => fzG.le hc b o (x.g b o e), x.m, fun b z e n' => ⟨by rw [show (W.fz hc n).H b = W.H b from HH.dne fun q => by subst q; exact sn e h]; exact (x.ow b z e n').1, (x.ow b z e n').2⟩,
    fun b o p np => let q := x.pv b o p np; ⟨q.1, fun r => q.2 (by
      rcases r.inv with ⟨x, s⟩ | ⟨x, z, s, t⟩
      · exact .c (HH.dinv s).2
      · exact .ofK (HH.dinv s).2 t), (fzG.no fun h => q.2 (.of2 hc h)).trans q.3, q.4⟩, x.gens, x.os⟩
theorem frz.pr (h : VR W u w) (hu : u.pl = false) (hk : ∀ l, u ≠ .ok l) (hh : ∀ b, B.H b = none) : True := trivial
theorem VR.frz {a : Addr} {c : Cell} (hc : W.H a = some c) (n : ∀ l, W.μ l ≠ some a) (o : ownC u c) (hk : ∀ l, u ≠ .ok l) : (W.fz hc n).pr (frz u) (.ref a) := by
  have mono : ∀ {us ws}, W.prs us ws → (W.fz hc n).prs us ws := fun r => PRs.mono (fzG.le hc) (fun _ _ e => e) _ _ r
  have ga : ∀ {o}, W.s.heap.get? a = some o → (W.fz hc n).G a = some o := fun e => (fzG.at (.inl rfl)).trans e
  cases u with
  | ol l =>
    obtain rfl := (show c = .L l from o)
    obtain ⟨a', ws, m, e, g, r, _, hl⟩ := (CellR.sq (W.own hc)).size
    cases e
    exact (show SqR _ _ _ _ _ from .mk _ ws m (ga g) (mono r) hl)
  | od ks l =>
    obtain ⟨ob, rfl⟩ := (show ∃ o, c = .D o ks l from o)
    cases W.own hc with | D _ _ _ g dd => exact (show DcR cx _ _ _ _ _ from .mk a ob (ga g) (W.notSys hc) (dd.mono fun _ => mono))
  | oi k l =>
    obtain ⟨dd, rfl⟩ := (show ∃ d, c = .I k d l from o)
    cases W.own hc with | I o' o2 ws es m c d us ne g hi gd hf r => exact (show InR cx _ _ _ _ _ from .mk a dd (.mk o' o2 ws es m ne (ga g) hi ((fzG.at (.inr rfl)).trans gd) hf (mono r)))
  | ok l => exact absurd rfl (hk l)
  | _ => exact False.elim o
open Classical in
noncomputable def mset (μ : LM) (l : Loc) (a : Addr) : LM := fun k => if k = l then some a else μ k
theorem mset.at {μ : LM} {l : Loc} {a : Addr} : mset μ l a l = some a := if_pos rfl
theorem mset.ne {μ : LM} {l k : Loc} {a : Addr} (h : k ≠ l) : mset μ l a k = μ k := if_neg h
theorem Wd.unborn (W : Wd cx) {l : Loc} (h : ¬ Born W.σ l) : W.μ l = none := by
  cases q : W.μ l with
  | none => rfl
  | some a => exact absurd (W.R.born l a q) h
noncomputable def Wd.adL (W : Wd cx) {a : Addr} {c : Cell} (hc : W.H a = some c) (n : ∀ l, W.μ l ≠ some a) (l : Loc) (hl : W.μ l = none) (σ' : St) (ok : LocOk σ' l c) (oth : ∀ k c', Born W.σ k → LocOk W.σ k c' → LocOk σ' k c' ∧ Born σ' k) (bl : Born σ' l) : Wd cx :=
  have le : ∀ k x, W.μ k = some x → mset W.μ l a k = some x := fun k x e => (mset.ne fun q => by subst q; exact sn e hl).trans e
  have inv : ∀ k x, mset W.μ l a k = some x → k = l ∧ x = a ∨ k ≠ l ∧ W.μ k = some x := fun k x e => by
    by_cases q : k = l
    · subst q; rw [mset.at] at e; exact .inl ⟨rfl, (Option.some.inj e).symm⟩
    · rw [mset.ne q] at e; exact .inr ⟨q, e⟩
  { W with
    μ := mset W.μ l a
    σ := σ'
    R := { W.R with
      cell := fun b x e => (W.R.cell b x e).keep (fun _ _ e => e) le W.R.gk W.R.gk (fun _ e => e) fun _ _ _ e => e
      loc := fun k x e => (inv k x e).elim (fun q => by obtain ⟨rfl, rfl⟩ := q; exact ⟨c, hc, ok⟩) fun q => let ⟨c', h1, h2⟩ := W.R.loc k x q.2; ⟨c', h1, (oth k c' (W.R.born k x q.2) h2).1⟩
      inj := fun k k' x e e' => (inv k x e).elim (fun q => (inv k' x e').elim (fun q' => q.1.trans q'.1.symm) fun q' => absurd (q.2 ▸ q'.2) (n k')) fun q => (inv k' x e').elim (fun q' => absurd (q'.2 ▸ q.2) (n k)) fun q' => W.R.inj k k' x q.2 q'.2
      born := fun k x e => (inv k x e).elim (fun q => q.1 ▸ bl) fun q => let ⟨c', h1, h2⟩ := W.R.loc k x q.2; (oth k c' (W.R.born k x q.2) h2).2 } }
theorem Le.adL {a : Addr} {c : Cell} {hc : W.H a = some c} {n : ∀ l, W.μ l ≠ some a} {l hl σ' ok oth bl} (x : Le P B W) (h : B.H a = none) : Le P B (W.adL hc n l hl σ' ok oth bl) :=
  have le : ∀ k x, W.μ k = some x → mset W.μ l a k = some x := fun k x e => (mset.ne fun q => by subst q; exact sn e hl).trans e
  ⟨x.g, fun k b e => le k b (x.m k b e), fun b z e n' => ⟨(x.ow b z e n').1, fun k q => by
    by_cases r : k = l
    · subst r
      have q : mset W.μ k a k = some b := q
      rw [mset.at] at q; cases q; exact sn e h
    · exact (x.ow b z e n').2 k ((mset.ne r).symm.trans q)⟩, fun b o p np => let q := x.pv b o p np; ⟨q.1, q.2, q.3, q.4⟩, x.gens, x.os⟩
end
end

end
section
noncomputable section
structure ClsOk (cx : Cx) (c : Nat) (ns : List Nat) (N : Addr) (m : Str → Option Value) : Prop where
  at_ : ClsAt cx.h0 (cx.ca c) N m
  ga : m "__getattribute__" = none
  gt : m "__getattr__" = none
  sa : m "__setattr__" = none
  fo : ∀ n ∈ ns, m (aN n) = none ∧ typeLookup (.type "object") (aN n) = pure none
  me : ∀ n k, (∃ l, lkN c mths = some l ∧ lkN n l = some k) → ∃ f fo y, cx.fv k = .ref f ∧ m (aN n) = some (.ref f) ∧ cx.h0.get? f = some fo ∧ fo.cls = .type "function" ∧ typeLookup (.type "object") (aN n) = pure y ∧ ∀ j ∈ ns, aN j ≠ aN n
  io : ∃ f fo, cx.fv (1000 * c) = .ref f ∧ m "__init__" = some (.ref f) ∧ cx.h0.get? f = some fo ∧ fo.cls = .type "function"
  cv : cx.fv (1000000 + c) = .ref (cx.ca c)
theorem lkN.mem {α : Type} {c : Nat} {x : α} : ∀ {l : List (Nat × α)}, lkN c l = some x → ∃ p ∈ l, p.2 = x
  | [], h => nos h
  | (k, y) :: l, h => by
    have h : (bif Nat.beq k c then some y else lkN c l) = some x := h
    cases e : Nat.beq k c with
    | true => rw [e] at h; exact ⟨_, .head _, Option.some.inj h⟩
    | false => rw [e] at h; obtain ⟨p, hp, q⟩ := lkN.mem (l := l) h; exact ⟨p, .tail _ hp, q⟩
theorem aN_nd {c ns} (h : lkN c cF = some ns) : (ns.map aN).Nodup := by
  obtain ⟨p, hp, rfl⟩ := lkN.mem h
  exact (show ∀ p ∈ cF, (p.2.map aN).Nodup by decide +kernel) p hp
theorem cF_few {c ns} (h : lkN c cF = some ns) : ns.length ≤ 16 := by
  obtain ⟨p, hp, rfl⟩ := lkN.mem h
  exact (show ∀ p ∈ cF, p.2.length ≤ 16 by decide +kernel) p hp
theorem look.get {α : Type} {n : Nat} : ∀ {ns : List Nat} {l : List α} {z : α}, look n ns l = some z → ∃ i : Nat, ns[i]? = some n ∧ l[i]? = some z
  | [], _, _, h => nos h
  | m :: ns, [], _, h => nos h
  | m :: ns, u :: us, z, h => by
    have h : (bif Nat.beq n m then some u else look n ns us) = some z := h
    cases e : Nat.beq n m with
    | true => rw [e] at h; exact ⟨0, by rw [Nat.eq_of_beq_eq_true e]; rfl, h⟩
    | false => rw [e] at h; obtain ⟨i, h1, h2⟩ := look.get (ns := ns) h; exact ⟨i + 1, h1, h2⟩
theorem fld.get {α : Type} {c n : Nat} {l : List α} {z : α} (h : fld c n l = some z) : ∃ ns, lkN c cF = some ns ∧ ∃ i : Nat, ns[i]? = some n ∧ l[i]? = some z := by
  unfold fld at h
  cases e : lkN c cF with
  | none => rw [e] at h; exact nos h
  | some ns => rw [e] at h; exact ⟨ns, rfl, look.get h⟩
theorem lookup_zip {β : Type} : ∀ {ns : List Str} {ws : List β} {i : Nat} {n : Str} {w : β}, ns.Nodup → ns[i]? = some n → ws[i]? = some w → (ns.zip ws).lookup n = some w
  | [], _, i, _, _, _, h, _ => nos h
  | m :: ns, [], i, _, _, _, _, h => nos h
  | m :: ns, v :: ws, 0, n, w, nd, h1, h2 => by
    cases h1; cases h2
    rw [List.zip_cons_cons, List.lookup_cons_self]
  | m :: ns, v :: ws, i + 1, n, w, nd, h1, h2 => by
    rw [List.nodup_cons] at nd
    have : (n == m) = false := beq_false_of_ne fun e => nd.1 (e ▸ List.mem_of_getElem? (show ns[i]? = some n from h1))
    rw [List.zip_cons_cons, List.lookup_cons, this]
    exact lookup_zip nd.2 h1 h2
theorem lookup_zip_none : ∀ {ns : List Str} {ws : List Value} {n : Str}, n ∉ ns → (ns.zip ws).lookup n = none
  | [], ws, n, _ => rfl
  | m :: ns, [], n, _ => rfl
  | m :: ns, w :: ws, n, h => by
    rw [List.mem_cons, not_or] at h
    rw [List.zip_cons_cons, List.lookup_cons, beq_false_of_ne h.1]
    exact lookup_zip_none h.2
theorem F2.get {α β : Type} {R : α → β → Prop} {l m} (h : F2 R l m) : ∀ {i : Nat} {a}, l[i]? = some a → ∃ b, m[i]? = some b ∧ R a b := by
  induction h with
  | nil => exact nos
  | cons h t ih => intro i a e; cases i with
    | zero => cases e; exact ⟨_, rfl, h⟩
    | succ i => exact ih e
section
variable {cx : Cx} {A : Around} {d : Nat} {P : Addr → Prop} {B W W' : Wd cx} {u v : U} {x y w : Value} {l m : List U}
variable {Q : U → St → Prop} {Qm : Value → Shared → Prop} {Pt Nt : St → Prop} {Qb : Bool → Shared → Prop} {E : Value → Shared → Prop}
noncomputable abbrev ClsF (cx : Cx) : Prop := ∀ c ns, lkN c cF = some ns → ∃ N m, ClsOk cx c ns N m
noncomputable abbrev InH (W : Wd cx) (c : Nat) (l : List U) : Value → Prop := InR cx W.s.heap.get? c l.length (W.prs l)
theorem VR.fo {c} (h : VR W (.fo c l) w) : InH W c l w := InR.mono W.R.gk (fun _ h => h) (show InR _ _ _ _ _ w from h)
theorem CellR.ins {a c dd} (e : W.H a = some (.I c dd l)) : InO cx W.s.heap.get? c l.length (W.prs l) a dd := by
  cases W.own e with | I o' o ws es m c d us ne g hi gd hf r => exact .mk o' o ws es m ne g hi gd hf r
theorem VR.oi {c} (h : VR W (.oi c l) w) : InH W c l w := by
  obtain ⟨a, x, ⟨dd, rfl⟩, e, _⟩ := (show OwR W _ w from h)
  exact .mk a dd (CellR.ins e)
theorem VR.lf {k : Loc} {p} (h : VR W (.lo k) w) (e : lf W.σ k = some p) : ∃ a dd us, w = .ref a ∧ W.μ k = some a ∧ W.H a = some (.I p.1 dd us) ∧ F2 FVR p.2 us := by
  obtain ⟨a, c, rfl, m, z, o⟩ := h.lo
  unfold LocOk at o
  rw [e] at o
  obtain ⟨dd, us, f⟩ := o
  exact ⟨a, dd, us, rfl, m, z, f⟩
theorem inst_of {h : Heap} {a d C : Addr} {o' o : Obj} {ns ws es n} (h1 : h.get? a = some o') (hi : IsInst o' C d) (ne : a ≠ d) (h2 : h.get? d = some o) (f : Fields o ns ws es n) :
    h.Inst a C fun y => (ns.zip ws).lookup y := ⟨o', h1, hi.1, hi.3, .inr ⟨d, hi.2, fun e => ne e.symm, ⟨o, es, n, h2, f.1, f.2, f.3, f.5⟩⟩⟩
theorem handed {G μ} (h : PR cx G μ u w) (nb : ∀ k, u ≠ .f k) : handedOut w = pure w := by
  cases u with
  | f k => exact absurd rfl (nb k)
  | no => exact (show w = .none from h) ▸ rfl
  | b => exact (show w = .bool _ from h) ▸ rfl
  | i => exact IntR.rec (fun _ => rfl) (show IntR _ w from h)
  | s => exact StrR.rec (fun _ => rfl) (show StrR _ w from h)
  | lo => exact LoR.rec (fun _ _ => rfl) (show LoR _ _ w from h)
  | rg => exact RgR.rec (fun _ _ _ _ _ => rfl) (show RgR _ _ _ _ w from h)
  | tu => exact SqR.rec (fun _ _ _ _ _ _ => rfl) (show SqR _ _ _ _ w from h)
  | fl => exact SqR.rec (fun _ _ _ _ _ _ => rfl) (show SqR _ _ _ _ w from h)
  | fd => exact DcR.rec (fun _ _ _ _ _ => rfl) (show DcR _ _ _ _ _ w from h)
  | fo => exact InR.rec (fun _ _ _ => rfl) (show InR _ _ _ _ _ w from h)
  | _ => exact False.elim h
theorem isF.no (h : isF u = false) (k : Nat) : u ≠ .f k := fun e => by subst e; exact fot h.symm
theorem attr_ok (F : ClsF cx) {c n : Nat} {b : Bool} {i : Nat} {ns : List Nat} (hi : InH W c l x) (hc : lkN c cF = some ns) (h1 : ns[i]? = some n) (h2 : l[i]? = some u) (hf : isF u = false) (k : ∀ w n, W.pr u w → Qm w { W.s with toks := n }) : wpAny (MD cx) A (getAttr x (aN n) b) Qm NoE W.s := by
  obtain ⟨N, m, X⟩ := F c ns hc
  obtain ⟨a, dd, o', o, ws, es, e, ne, g, hi, gd, hf', r⟩ := hi
  obtain ⟨w, j, p⟩ := r.get h2
  obtain ⟨f1, f2⟩ := X.fo n (List.mem_of_getElem? h1)
  have hil : i < l.length := (List.getElem?_eq_some_iff.mp h2).1
  have nm : ((cN c).take l.length)[i]? = some (aN n) := by
    rw [List.getElem?_take, if_pos hil, show cN c = ns.map aN by unfold cN; rw [hc], List.getElem?_map, h1]; rfl
  have nd : ((cN c).take l.length).Nodup := by rw [show cN c = ns.map aN by unfold cN; rw [hc]]; exact (aN_nd hc).sublist (List.take_sublist ..)
  have hl := lookup_zip nd nm j
  have Y := X.at_.keeps W.R.base
  obtain ⟨nm', q, bs, sn, sub, col, d1, k0, k1, k2, k3, k5, hC⟩ := Y.obj
  have := k w (W.s.toks + 1) p
  revert this hC Y g gd
  generalize W.s = s
  obtain ⟨hh, gg, dr, t, os⟩ := s
  intro g gd Y hC this
  exact load_attr hC Y.ns X.ga f1 f2 (inst_of g hi ne gd hf') hl (handed p (isF.no hf)) this
end
end

end
section
noncomputable section
section
variable {cx : Cx} {A : Around} {d : Nat} {P : Addr → Prop} {B W W' : Wd cx} {u v : U} {x y w : Value} {l m : List U}
variable {Q : U → St → Prop} {Qm : Value → Shared → Prop} {Pt Nt : St → Prop} {Qb : Bool → Shared → Prop} {E : Value → Shared → Prop}
inductive AtI (σ : St) (n : Nat) (Q : U → Prop) : U → Prop
  | o (c : Nat) (l : List U) (z : U) (e : fld c n l = some z) (f : isF z = false) (q : Q z) : AtI σ n Q (.fo c l)
  | i (c : Nat) (l : List U) (z : U) (e : fld c n l = some z) (f : isF z = false) (q : Q z) : AtI σ n Q (.oi c l)
  | l (k : Loc) (p : Nat × List FV) (e : lf σ k = some p) (z : FV) (e2 : fld p.1 n p.2 = some z) (q : fvQ Q z) : AtI σ n Q (.lo k)
theorem oQ.inv {α : Type} {f : α → Prop} {o : Option α} (h : oQ f o) : ∃ x, o = some x ∧ f x := by
  cases o with
  | none => exact h.elim
  | some x => exact ⟨x, rfl, h⟩
theorem lsQ.inv {σ : St} {f : List U → Prop} {u : U} (h : lsQ σ f u) : ∃ x, lsU σ u = some x ∧ f x := by
  unfold lsQ at h
  cases e : lsU σ u with
  | none => rw [e] at h; exact h.elim
  | some x => rw [e] at h; exact ⟨x, rfl, h⟩
theorem nfQ.inv {R : U → Prop} {z : U} (h : nfQ R z) : isF z = false ∧ R z := by
  unfold nfQ at h
  cases e : isF z with
  | true => rw [e] at h; exact False.elim h
  | false => rw [e] at h; exact ⟨rfl, h⟩
theorem atU.inv {σ : St} {n : Nat} {R : U → Prop} (h : atU σ n R u) : AtI σ n R u := by
  cases u with
  | fo c l => obtain ⟨z, e, q⟩ := oQ.inv h; exact .o c l z e q.inv.1 q.inv.2
  | oi c l => obtain ⟨z, e, q⟩ := oQ.inv h; exact .i c l z e q.inv.1 q.inv.2
  | lo k =>
    have h : match lf σ k with | some (c, fs) => oQ (fvQ R) (fld c n fs) | none => False := h
    cases e : lf σ k with
    | none => rw [e] at h; exact h.elim
    | some p => rw [e] at h; obtain ⟨z, e2, q⟩ := oQ.inv h; exact .l k p e z e2 q
  | _ => exact False.elim h
theorem FVR.go {z : FV} {R : U → Prop} (h : FVR z u) (q : fvQ R z) (hz : ∀ v, z = .v v → isF v = false) : isF u = false ∧ R u := by
  cases h with
  | ai => exact ⟨rfl, q _⟩
  | ab => exact ⟨rfl, q _⟩
  | v => exact ⟨hz _ rfl, q⟩
theorem lf.nf {σ : St} {k : Loc} {p} (h : lf σ k = some p) : ∀ z ∈ p.2, ∀ v, z = FV.v v → isF v = false := by
  have key : ∀ {fs : List FV}, (fs.all fun z => match z with | .v u => !isF u | _ => true) = true → ∀ z ∈ fs, ∀ v, z = FV.v v → isF v = false := fun h z hz v e => by
    have := List.all_eq_true.mp h z hz
    subst e; simpa using this
  cases k with
  | buf => cases h; exact key rfl
  | inf i => cases h; exact key rfl
  | pl i => cases h; exact key rfl
  | _ => exact nos h
theorem KV.tok {n : Nat} (k : KV W Q Qm) (p : W.pr u w) (hp : u.pl = true) (q : Q u W.σ) : Qm w { W.s with toks := n } := k w u (W.tk n) .tk (.of p hp) q
theorem PR.pl {G μ} (h : PR cx G μ u w) : u.pl = true := by
  cases u with
  | ol | od | ok | oi | un => exact False.elim h
  | _ => rfl
theorem at_ok (F : ClsF cx) {n : Nat} {b : Bool} (hu : VR W u x) (h : atU W.σ n (fun z => Q z W.σ) u) (k : KV W Q Qm) : wpAny (MD cx) A (getAttr x (aN n) b) Qm NoE W.s := by
  cases h.inv with
  | o c l z e f q => obtain ⟨ns, hc, i, h1, h2⟩ := fld.get e; exact attr_ok F hu.fo hc h1 h2 f fun w n p => k.tok p p.pl q
  | i c l z e f q => obtain ⟨ns, hc, i, h1, h2⟩ := fld.get e; exact attr_ok F hu.oi hc h1 h2 f fun w n p => k.tok p p.pl q
  | l kk p e z e2 q =>
    obtain ⟨a, dd, us, rfl, m, hH, f⟩ := hu.lf e
    obtain ⟨ns, hc, i, h1, h2⟩ := fld.get e2
    obtain ⟨z', h3, r⟩ := f.get h2
    obtain ⟨g1, g2⟩ := r.go q (lf.nf e z (List.mem_of_getElem? h2))
    exact attr_ok F (.mk a dd (CellR.ins hH)) hc h1 h3 g1 fun w n p => k.tok p p.pl g2
theorem putF.go {G μ} {n : Nat} : ∀ {ns : List Nat} {us us' : List U} {ws : List Value}, (ns.map aN).Nodup → putF n u ns us = some us' → PRs cx G μ us ws → ((ns.map aN).take us.length).length = ws.length → PR cx G μ u w →
    ∃ ws', PRs cx G μ us' ws' ∧ n ∈ ns ∧ us.length ≤ us'.length ∧ us'.length ≤ us.length + 1 ∧ ((ns.map aN).take us'.length).length = ws'.length ∧ ∀ y, (((ns.map aN).take us'.length).zip ws').lookup y = if y = aN n then some w else (((ns.map aN).take us.length).zip ws).lookup y
  | [], us, us', ws, _, h, _, _, _ => by cases us <;> exact nos h
  | m :: ns, [], us', ws, nd, h, r, hl, p => by
    have h : (bif Nat.beq n m then some [u] else none) = some us' := h
    cases e : Nat.beq n m with
    | false => rw [e] at h; exact nos h
    | true =>
      rw [e] at h
      have h : some [u] = some us' := h
      cases h
      obtain rfl := Nat.eq_of_beq_eq_true e
      refine ⟨[w], .cons p rfl, .head _, Nat.zero_le _, Nat.le_refl _, rfl, fun y => ?_⟩
      show ([(aN n, w)]).lookup y = _
      by_cases hy : y = aN n
      · rw [hy, List.lookup_cons_self, if_pos rfl]
      · rw [List.lookup_cons, beq_false_of_ne hy, if_neg hy]; rfl
  | m :: ns, v :: vs, us', ws, nd, h, r, hl, p => by
    have h : (bif Nat.beq n m then some (u :: vs) else (match putF n u ns vs with | some r => some (v :: r) | none => none)) = some us' := h
    obtain ⟨w0, ws, p0, r2⟩ := (show ConsR _ _ ws from r)
    clear r
    rw [List.map_cons, List.nodup_cons] at nd
    cases e : Nat.beq n m with
    | true =>
      rw [e] at h
      have h : some (u :: vs) = some us' := h
      cases h
      obtain rfl := Nat.eq_of_beq_eq_true e
      refine ⟨w :: ws, .cons p r2, .head _, Nat.le_refl _, Nat.le_succ _, hl, fun y => ?_⟩
      · simp only [List.map_cons, List.length_cons, List.take_succ_cons, List.zip_cons_cons, List.lookup_cons]
        by_cases hy : y = aN n
        · simp [hy]
        · simp [beq_false_of_ne hy, hy]
    | false =>
      rw [e] at h
      have h : (match putF n u ns vs with | some r => some (v :: r) | none => none) = some us' := h
      cases e2 : putF n u ns vs with
      | none => rw [e2] at h; exact nos h
      | some vs' =>
        rw [e2] at h; cases h
        obtain ⟨ws', q1, q2, q3, q4, q5, q6⟩ := putF.go nd.2 e2 r2 (Nat.succ.inj hl) p
        refine ⟨w0 :: ws', .cons p0 q1, .tail _ q2, Nat.succ_le_succ q3, Nat.succ_le_succ q4, congrArg (· + 1) q5, fun y => ?_⟩
        simp only [List.map_cons, List.length_cons, List.take_succ_cons, List.zip_cons_cons, List.lookup_cons]
        cases hy : y == aN m with
        | true =>
          have : y ≠ aN n := fun q => nd.1 (List.mem_map.mpr ⟨n, q2, by rw [← q, beq_iff_eq.mp hy]⟩)
          simp [this]
        | false => exact q6 y
theorem set_core (F : ClsF cx) {c n : Nat} {a dd : Addr} {us us' : List U} {ns : List Nat} (hc : lkN c cF = some ns) (e : W.H a = some (.I c dd us)) (hp : putF n u ns us = some us') (hw : W.pr u w)
    (k : ∀ s', (∀ b o, b ≠ a → dd ≠ b → W.s.heap.get? b = some o → s'.heap.get? b = some o) → CellR cx W.G W.μ s'.heap a (.I c dd us') → s'.gens = W.s.gens → s'.os = W.s.os → Qm .none s') : wpAny (MD cx) A (setAttr (.ref a) (aN n) w) (fun _ s' => Qm .none s') NoE W.s := by
  obtain ⟨N, m, X⟩ := F c ns hc
  obtain ⟨o', o, ws, es, ep, ne, g, hi, gd, hf, r⟩ := CellR.ins e
  have cn : cN c = ns.map aN := by unfold cN; rw [hc]
  have hl := hf.4
  rw [cn] at hl
  obtain ⟨ws', q1, q2, q3, q4, q5, q6⟩ := putF.go (aN_nd hc) hp r hl hw
  obtain ⟨f1, f2⟩ := X.fo n q2
  have Y := X.at_.keeps W.R.base
  obtain ⟨nm', q, bs, sn', sub, col, d1, k0, k1, k2, k3, k5, hC0⟩ := X.at_.obj
  have hC := W.R.base _ _ hC0
  have hxC : a ≠ cx.ca c := fun q => by subst q; exact sn hC0 (W.R.low _ (.c e))
  have hsz : ((cN c).take us.length).length ≤ sizeLine := by
    rw [cn, hl, r.len]
    have h2 : us.length ≤ ns.length := by rw [← r.len, ← hl, List.length_take, List.length_map]; exact Nat.min_le_right _ _
    exact Nat.le_trans h2 (Nat.le_trans (cF_few hc) (by decide))
  have I := inst_of g hi ne gd hf
  revert k Y hC g gd I
  generalize W.s = s
  obtain ⟨hh, gg, dr, t, os⟩ := s
  intro k g gd Y hC I
  refine store_attr PySem.F.store_object hC Y.ns X.sa f1 f2 hxC I (fun h' tk' I' hk hsame => ?_) (fun y hy => ?_) hsz
  · obtain ⟨o1, e1, c1, dt1, _, dk1⟩ := hsame o' g
    have hd1 := dk1 dd hi.2
    obtain ⟨o3, e3, _, _, hd'⟩ := I'
    obtain rfl := Option.some.inj (e1.symm.trans e3)
    have hns : h'.Ns1 dd fun y => if y = aN n then some w else (((cN c).take us.length).zip ws).lookup y := by
      rcases hd' with ⟨hn0, _⟩ | ⟨d', hd', _, hns'⟩
      · exact sn hd1 hn0
      · obtain rfl := Option.some.inj (hd1.symm.trans hd'); exact hns'
    obtain ⟨o2, es, ep, f1, f2, f3, f4, f5⟩ := hns
    refine k _ (fun b o hb1 hb2 e => hk b o hb1 (fun o₀ dx e0 e2 => by
      rw [show o₀ = o' from Option.some.inj (e0.symm.trans g), hi.2] at e2
      exact fun q => hb2 ((Option.some.inj e2).trans q.symm)) e) ?_ rfl rfl
    refine .I o1 o2 ws' es ep c dd us' ne e1 ⟨c1.trans hi.1, hd1, fun c => dt1 ▸ hi.3 c⟩ f1 ⟨f2, f3, f4, by rw [cn]; exact q5, fun x => by rw [f5 x, cn]; exact (q6 x).symm⟩ q1
  · by_cases q : y ∈ (cN c).take us.length
    · exact q
    · exact absurd (lookup_zip_none q) hy
end
end

end
section
noncomputable section
theorem setI_same {σ : St} {i : Nat} {x : Inf} : (σ.setI i x).inf i = x := if_pos rfl
theorem setP_same {σ : St} {i : Nat} {x : List Int × Int} : (σ.setP i x).pls i = x := if_pos rfl
theorem lfI.eq {σ : St} {i : Nat} {x : Inf} : lf (σ.setI i x) (.inf i) = some (cInf, lfI x) := congrArg (fun y => some (cInf, lfI y)) setI_same
theorem lfP.eq {σ : St} {i : Nat} {x : List Int × Int} : lf (σ.setP i x) (.pl i) = some (cPl, lfP x) := congrArg (fun y => some (cPl, lfP y)) setP_same
theorem F2.len {α β : Type} {R : α → β → Prop} {l m} (h : F2 R l m) : l.length = m.length := by
  induction h with
  | nil => rfl
  | cons _ _ ih => exact congrArg (· + 1) ih
theorem F2.set {α β : Type} {R : α → β → Prop} {l m a b} (h : F2 R l m) (r : R a b) : ∀ {p : Nat}, F2 R (l.set p a) (m.set p b) := by
  induction h with
  | nil => exact fun {p} => .nil
  | cons h t ih => intro p; cases p with
    | zero => exact .cons r t
    | succ p => exact .cons h ih
structure Oth (σ σ' : St) (l : Loc) : Prop where
  ok : ∀ k c, k ≠ l → LocOk σ k c → LocOk σ' k c
  born : ∀ k, Born σ k → Born σ' k
theorem Oth.refl {σ : St} {l : Loc} : Oth σ σ l := ⟨fun _ _ _ h => h, fun _ h => h⟩
theorem Oth.setI {σ : St} {i : Nat} {x : Inf} : Oth σ (σ.setI i x) (.inf i) := by
  refine ⟨fun k c h o => ?_, fun k b => ?_⟩
  · cases k with
    | inf j =>
      have e : (σ.setI i x).inf j = σ.inf j := if_neg fun q => h (by rw [q])
      exact (congrArg (fun y => InsC (cInf, lfI y) c) e).mpr o
    | _ => exact o
  · cases k <;> exact b
theorem Oth.setP {σ : St} {i : Nat} {x : List Int × Int} : Oth σ (σ.setP i x) (.pl i) := by
  refine ⟨fun k c h o => ?_, fun k b => ?_⟩
  · cases k with
    | pl j =>
      have e : (σ.setP i x).pls j = σ.pls j := if_neg fun q => h (by rw [q])
      exact (congrArg (fun y => InsC (cPl, lfP y) c) e).mpr o
    | _ => exact o
  · cases k <;> exact b
inductive StI (σ : St) (n : Nat) (u : U) (Q : St → Prop) (l : Loc) : Prop
  | mk (c : Nat) (fs : List FV) (p : Nat) (z : FV) (σ' : St) (e : lf σ l = some (c, fs)) (e2 : fld c n [0, 1, 2, 3, 4, 5, 6, 7, 8, 9, 10, 11, 12, 13, 14, 15] = some p) (e3 : lf σ' l = some (c, fs.set p z)) (hp : p < fs.length) (f : FVR z u) (o : Oth σ σ' l) (q : Q σ') : StI σ n u Q l
theorem chkV.go {u : U} {X : Prop} {z : FV} (h : chkV u X z) : FVR z u ∧ X := by
  cases z with
  | ai => obtain ⟨a, h⟩ := onI.inv h; exact ⟨.ai, h⟩
  | ab => cases u with
    | b => exact ⟨.ab, h⟩
    | _ => exact False.elim h
  | v z => cases z with
    | s k => cases k with
      | zero => cases u with
        | s j => cases j with
          | zero => exact ⟨.v, h⟩
          | succ => exact False.elim h
        | _ => exact False.elim h
      | succ => exact False.elim h
    | _ => exact False.elim h
theorem gen.go {σ : St} {n : Nat} {u : U} {Q : St → Prop} {l : Loc} {c p} {fs : List FV} (e : lf σ l = some (c, fs)) (e2 : fld c n [0, 1, 2, 3, 4, 5, 6, 7, 8, 9, 10, 11, 12, 13, 14, 15] = some p) (h : gen fs p u (Q σ)) : StI σ n u Q l := by
  obtain ⟨z, hz, h⟩ := oQ.inv h
  obtain ⟨f, q⟩ := chkV.go h
  obtain ⟨hp, rfl⟩ := List.getElem?_eq_some_iff.mp hz
  exact .mk c fs p _ σ e e2 (by rw [List.set_getElem_self]; exact e) hp f .refl q
theorem stU.inv {σ : St} {n : Nat} {u : U} {Q : St → Prop} {l : Loc} (h : stU σ n u Q l) : StI σ n u Q l := by
  have h : match lf σ l with | some (c, fs) => oQ (fun p => stX σ fs p u Q l) (fld c n [0, 1, 2, 3, 4, 5, 6, 7, 8, 9, 10, 11, 12, 13, 14, 15]) | none => False := h
  cases e : lf σ l with
  | none => rw [e] at h; exact h.elim
  | some cf =>
    obtain ⟨c, fs⟩ := cf
    rw [e] at h
    obtain ⟨p, e2, hh⟩ := oQ.inv h
    clear h
    cases l with
    | inf i =>
      cases e
      match p, e2, hh with
      | 1, e2, h => obtain ⟨a, h⟩ := onI.inv h; exact .mk _ _ 1 (.v (.i a)) (σ.setI i { σ.inf i with g := a }) rfl e2 lfI.eq (by show 1 < 16; decide) .v .setI h
      | 2, e2, h => obtain ⟨a, h⟩ := onI.inv h; exact .mk _ _ 2 (.v (.i a)) (σ.setI i { σ.inf i with c := a }) rfl e2 lfI.eq (by show 2 < 16; decide) .v .setI h
      | 3, e2, h => obtain ⟨a, h⟩ := onI.inv h; exact .mk _ _ 3 (.v (.i a)) (σ.setI i { σ.inf i with m := a }) rfl e2 lfI.eq (by show 3 < 16; decide) .v .setI h
      | 0, e2, h => exact gen.go rfl e2 h
      | p + 4, e2, h => exact gen.go rfl e2 h
    | pl i =>
      cases e
      match p, e2, hh with
      | 0, e2, h => cases u with
        | fl l => obtain ⟨is, rfl, h3⟩ := h; exact .mk _ _ 0 (.v (.fl (is.map .i))) (σ.setP i (is, (σ.pls i).2)) rfl e2 lfP.eq (by show 0 < 2; decide) .v .setP h3
        | _ => exact False.elim h
      | 1, e2, h => obtain ⟨a, h⟩ := onI.inv h; exact .mk _ _ 1 (.v (.i a)) (σ.setP i ((σ.pls i).1, a)) rfl e2 lfP.eq (by show 1 < 2; decide) .v .setP h
      | p + 2, e2, h => exact False.elim h
    | buf => exact gen.go e e2 hh
    | _ => exact nos e
section
variable {cx : Cx} {A : Around} {d : Nat} {P : Addr → Prop} {B W W' : Wd cx} {u v : U} {x y w : Value} {l m : List U}
variable {Q : U → St → Prop} {Qm : Value → Shared → Prop} {Pt Nt : St → Prop} {Qb : Bool → Shared → Prop} {E : Value → Shared → Prop}
theorem fld.pos {c n p : Nat} {ns : List Nat} (hc : lkN c cF = some ns) (h : fld c n [0, 1, 2, 3, 4, 5, 6, 7, 8, 9, 10, 11, 12, 13, 14, 15] = some p) : ∀ {us : List U}, p < us.length → putF n u ns us = some (us.set p u) := by
  unfold fld at h
  rw [hc] at h
  have key : ∀ {ns ps : List Nat} {k : Nat}, (∀ i : Nat, i < ps.length → ps[i]? = some (k + i)) → look n ns ps = some p → k ≤ p ∧ ∀ {us : List U}, p - k < us.length → putF n u ns us = some (us.set (p - k) u) := fun {ns} => by
    induction ns with
    | nil => exact fun _ h => nos h
    | cons m ns ih =>
      intro ps k hk h
      cases ps with
      | nil => exact nos h
      | cons q ps =>
        have h : (bif Nat.beq n m then some q else look n ns ps) = some p := h
        have hq : q = k := Option.some.inj (hk 0 (Nat.succ_pos _))
        cases e : Nat.beq n m with
        | true =>
          rw [e] at h
          have hp : q = p := Option.some.inj h
          subst hp; subst hq
          refine ⟨Nat.le_refl _, fun {us} hl => ?_⟩
          rw [Nat.sub_self] at hl ⊢
          cases us with
          | nil => exact absurd hl (Nat.not_lt_zero _)
          | cons v vs => show (bif Nat.beq n m then some (u :: vs) else _) = _; rw [e]; rfl
        | false =>
          rw [e] at h
          obtain ⟨g1, g2⟩ := ih (ps := ps) (k := k + 1) (fun i hi => (hk (i + 1) (Nat.succ_lt_succ hi)).trans (by rw [Nat.add_assoc, Nat.add_comm 1 i])) h
          refine ⟨Nat.le_of_succ_le g1, fun {us} hl => ?_⟩
          have e1 : p - k = (p - (k + 1)) + 1 := by lia
          rw [e1] at hl ⊢
          cases us with
          | nil => exact absurd hl (Nat.not_lt_zero _)
          | cons v vs =>
            show (bif Nat.beq n m then some (u :: vs) else (match putF n u ns vs with | some r => some (v :: r) | none => none)) = _
            rw [e, g2 (Nat.lt_of_succ_lt_succ hl)]; rfl
  exact fun {us} hl => (key (k := 0) (ps := [0, 1, 2, 3, 4, 5, 6, 7, 8, 9, 10, 11, 12, 13, 14, 15]) (fun i hi => (show ∀ i : Fin 16, [0, 1, 2, 3, 4, 5, 6, 7, 8, 9, 10, 11, 12, 13, 14, 15][i.1]? = some (0 + i.1) by decide) ⟨i, hi⟩) h).2 hl
theorem PRs.setU {G μ} {us : List U} {ws : List Value} {p : Nat} (r : PRs cx G μ us ws) (hw : PR cx G μ u w) : PRs cx G μ (us.set p u) (ws.set p w) := r.set hw
theorem setL_ok (F : ClsF cx) {n : Nat} {k : Loc} {R : St → Prop} (hx : VR W (.lo k) x) (hw : W.pr u w) (h : stU W.σ n u R k) (kk : ∀ W', Le PF W W' → R W'.σ → Qm .none W'.s) : wpAny (MD cx) A (setAttr x (aN n) w) (fun _ s' => Qm .none s') NoE W.s := by
  obtain ⟨c, fs, p, z, σ', e, e2, e3, hp, f, o, q⟩ := h.inv
  clear h
  obtain ⟨a, dd, us, rfl, m, hH, ff⟩ := hx.lf e
  have hl : p < us.length := ff.len ▸ hp
  obtain ⟨ns, hc, _⟩ := fld.get e2
  refine set_core F hc hH (fld.pos hc e2 hl) hw fun s' kp cr hg ho => ?_
  have lo : LocOk σ' k (.I c dd (us.set p u)) := by unfold LocOk; rw [e3]; exact .mk dd _ (ff.set f)
  exact kk (W.upd s' (.I c dd (us.set p u)) σ' hH rfl (fun b o h1 h2 => kp b o h1 fun q => h2 (congrArg some q)) cr (fun l y ey => by
    by_cases q : l = k
    · rw [q, m] at ey; cases ey; rw [q]; exact ⟨_, HH.same, lo⟩
    · obtain ⟨c1, h1, h2⟩ := W.R.loc l y ey
      exact ⟨c1, by rw [HH.ne (fun r => q (W.R.inj l k a (by rw [← r]; exact ey) m))]; exact h1, o.ok l c1 q h2⟩) fun l y ey => o.born l (W.R.born l y ey)) (Le.upd .refl (fun _ => ⟨k, m⟩) hg ho) q
end
end

end
section
noncomputable section
noncomputable def ScR (s sc : Scope) : Prop := s.kind = sc.kind ∧ ∀ x, s.names.lookup x = sc.names.lookup x ∨ (sc.names.lookup x = some .free ∧ s.names.lookup x = some .cell)
noncomputable def FA (sc : Scope) (env : Env) (b : Addr) : Prop := b = env.locals ∨ ∃ x, sc.names.lookup x = some .cell ∧ env.cells.lookup x = some b
noncomputable def FAll (env : Env) (b : Addr) : Prop := b = env.locals ∨ ∃ x, env.cells.lookup x = some b
theorem FA.all {sc : Scope} {env : Env} {b : Addr} (h : FA sc env b) : FAll env b := h.imp id fun ⟨x, _, e⟩ => ⟨x, e⟩
noncomputable def kOk : NameKind → Bool
  | .local | .cell | .free | .globalImplicit => true
  | _ => false
noncomputable def scOk (sc : Scope) : Bool := sc.kind == .function && decide ((sc.names.map (·.1)).Nodup) && sc.names.all fun p => p.1 != ("__debug__" : Str) && p.1 != ("__classdict__" : Str) && kOk p.2
structure ScOk (sc : Scope) : Prop where
  kind : sc.kind = .function
  nd : (sc.names.map (·.1)).Nodup
  nm : ∀ {i : Nat} {x : Str} {k : NameKind}, sc.names[i]? = some (x, k) → (x == ("__debug__" : Str)) = false ∧ (x == ("__classdict__" : Str)) = false ∧ kOk k = true ∧ sc.names.lookup x = some k
theorem lookup_nd {α : Type} : ∀ {l : List (Str × α)} {i : Nat} {x : Str} {k : α}, (l.map (·.1)).Nodup → l[i]? = some (x, k) → l.lookup x = some k
  | (y, j) :: r, 0, x, k, nd, h => by cases h; exact List.lookup_cons_self
  | (y, j) :: r, i + 1, x, k, nd, h => by
    rw [List.map_cons, List.nodup_cons] at nd
    have h : r[i]? = some (x, k) := h
    rw [List.lookup_cons, beq_false_of_ne fun e => nd.1 (List.mem_map.mpr ⟨_, List.mem_of_getElem? h, e⟩)]
    exact lookup_nd nd.2 h
theorem scOk.go {sc : Scope} (h : scOk sc = true) : ScOk sc := by
  simp only [scOk, Bool.and_eq_true, beq_iff_eq, decide_eq_true_eq, List.all_eq_true, bne_iff_ne, ne_eq] at h
  exact ⟨h.1.1, h.1.2, fun e => let q := h.2 _ (List.mem_of_getElem? e); ⟨beq_false_of_ne q.1.1, beq_false_of_ne q.1.2, q.2, lookup_nd h.1.2 e⟩⟩
inductive SlotV (env : Env) (h : Heap) (x : Str) (w : Value) : NameKind → Prop
  | l (m : Str → Option Value) (n : h.Ns env.locals m) (e : m x = some w) : SlotV env h x w .local
  | c (c : Addr) (e : env.cells.lookup x = some c) (i : h.IsCell c (some w)) : SlotV env h x w .cell
  | f (c : Addr) (e : env.cells.lookup x = some c) (i : h.IsCell c (some w)) : SlotV env h x w .free
inductive Owned (U₀ : U) (C : Cell → Prop) : Prop
  | mk (h : U₀.pl = false) (n : U₀ ≠ .un)
section
variable {cx : Cx} {A : Around} {d : Nat} {P : Addr → Prop} {B W W' : Wd cx} {u v : U} {x y w : Value} {l m : List U} {sc : Scope} {env : Env} {os : Os} {ow : Nat → Option Addr}
variable {Q : U → St → Prop} {Qm : Value → Shared → Prop} {Pt Nt : St → Prop} {Qb : Bool → Shared → Prop} {E : Value → Shared → Prop}
inductive OwnH (H : HH) (μ : LM) (u : U) (a : Addr) : Prop
  | mk (c : Cell) (o : ownC u c) (e : H a = some c) (n : ∀ l, μ l ≠ some a)
noncomputable abbrev OwnAt (W : Wd cx) (u : U) (a : Addr) : Prop := OwnH W.H W.μ u a
structure Frm (cx : Cx) (sc : Scope) (env : Env) (W : Wd cx) (os : Os) (ow : Nat → Option Addr) : Prop where
  sce : ScR env.scope sc
  gl : env.globals = mainGlobals
  bl : env.builtins = builtinsNs
  priv : ∀ b, FAll env b → ∃ o, Priv W b o
  apart : env.cells.Pairwise fun x y => x.2 ≠ y.2
  lc : ∀ x, env.cells.lookup x ≠ some env.locals
  ns : ∃ m, W.s.heap.Ns env.locals m
  cs : ∀ (i : Nat) (x : Str), sc.names[i]? = some (x, NameKind.cell) → ∃ c v, env.cells.lookup x = some c ∧ W.s.heap.IsCell c v
  fs : ∀ (i : Nat) (x : Str), sc.names[i]? = some (x, NameKind.free) → ∃ c, env.cells.lookup x = some c
  sl : ∀ (i : Nat) (x : Str) (k : NameKind) (u : U), sc.names[i]? = some (x, k) → os[i]? = some u → u.pl = true → ∃ w, SlotV env W.s.heap x w k ∧ W.pr u w
  so : ∀ (i : Nat) (x : Str) (k : NameKind) (u : U), sc.names[i]? = some (x, k) → os[i]? = some u → u.pl = false → u ≠ .un → ∃ a, ow i = some a ∧ SlotV env W.s.heap x (.ref a) k ∧ OwnAt W u a
  oi : ∀ (i j : Nat) (a : Addr), ow i = some a → ow j = some a → i = j
theorem SlotV.keep {h h' : Heap} {x : Str} {w : Value} {k : NameKind} (s : SlotV env h x w k) (kp : ∀ b o, FAll env b → h.get? b = some o → h'.get? b = some o) : SlotV env h' x w k := by
  cases s with
  | l m n e => obtain ⟨o, es, ep, h1, h2⟩ := n; exact .l m ⟨o, es, ep, kp _ _ (.inl rfl) h1, h2⟩ e
  | c c e i => obtain ⟨o, h1, h2⟩ := i; exact .c c e ⟨o, kp _ _ (.inr ⟨x, e⟩) h1, h2⟩
  | f c e i => obtain ⟨o, h1, h2⟩ := i; exact .f c e ⟨o, kp _ _ (.inr ⟨x, e⟩) h1, h2⟩
theorem Le.own (x : Le P W W') {a : Addr} (h : OwnAt W u a) : OwnAt W' u a := OwnH.rec (fun c o e n => .mk c o (x.ow a c e n).1 (x.ow a c e n).2) h
theorem Frm.step {P : Addr → Prop} (F : Frm cx sc env W os ow) (x : Le P W W') (np : ∀ b, FAll env b → ¬ P b) : Frm cx sc env W' os ow :=
  have kp : ∀ b o, FAll env b → W.s.heap.get? b = some o → W'.s.heap.get? b = some o := fun b o f e => by
    obtain ⟨o', p⟩ := F.priv b f
    have q := x.pv b o' p (np b f)
    rw [p.1] at e; cases e; exact q.1
  { F with
    priv := fun b f => (F.priv b f).imp fun o p => x.pv b o p (np b f)
    ns := by obtain ⟨m, o, es, ep, h1, h2⟩ := F.ns; exact ⟨m, o, es, ep, kp _ _ (.inl rfl) h1, h2⟩
    cs := fun i y e => by obtain ⟨c, v, h1, o, h2, h3⟩ := F.cs i y e; exact ⟨c, v, h1, o, kp _ _ (.inr ⟨y, h1⟩) h2, h3⟩
    sl := fun i y k u h1 h2 h3 => (F.sl i y k u h1 h2 h3).imp fun w q => ⟨q.1.keep kp, x.pr q.2⟩
    so := fun i y k u h1 h2 h3 h4 => (F.so i y k u h1 h2 h3 h4).imp fun a q => ⟨q.1, q.2.1.keep kp, x.own q.2.2⟩ }
theorem Frm.le (F : Frm cx sc env W os ow) (x : Le PF W W') : Frm cx sc env W' os ow := F.step x fun _ _ => id
theorem ScR.own {s sc : Scope} (h : ScR s sc) {x : Str} {k : NameKind} (e : sc.names.lookup x = some k) (nf : k ≠ .free) : s.names.lookup x = some k := by
  rcases h.2 x with q | ⟨q, _⟩
  · rw [q]; exact e
  · exact absurd (Option.some.inj (e.symm.trans q)) nf
theorem load_sv (F : Frm cx sc env W os ow) (S : ScOk sc) {i : Nat} {x : Str} {k : NameKind} {pos : Pos} (h1 : sc.names[i]? = some (x, k)) (sv : SlotV env W.s.heap x w k) (q : Qm w W.s) : wpAny (MD cx) A (eval (.Name x pos) env) Qm NoE W.s := by
  obtain ⟨n1, n2, n3, n4⟩ := S.nm h1
  have kf : env.scope.kind = .function := by rw [F.sce.1]; exact S.kind
  refine wpAny_Name ?_ n1
  cases sv with
  | l m n e => exact wpAny_loadName_local kf (F.sce.own n4 (by decide)) n e q
  | c c e i => exact wpAny_loadName_cell kf (F.sce.own n4 (by decide)) e i q
  | f c e i =>
    rcases F.sce.2 x with r | ⟨_, r⟩
    · exact wpAny_loadName_free kf (r.trans n4) e i q n2
    · exact wpAny_loadName_cell kf r e i q
theorem load_ok (F : Frm cx sc env W os ow) (S : ScOk sc) {i : Nat} {x : Str} {k : NameKind} {pos : Pos} (h1 : sc.names[i]? = some (x, k)) (h2 : os[i]? = some u) (nu : u ≠ .un) (kk : ∀ w, VR W u w → Qm w W.s) : wpAny (MD cx) A (eval (.Name x pos) env) Qm NoE W.s := by
  cases e : u.pl with
  | true => obtain ⟨w, sv, r⟩ := F.sl i x k u h1 h2 e; exact load_sv F S h1 sv (kk w (.of r e))
  | false =>
    obtain ⟨a, _, sv, ⟨c, o, h, n⟩⟩ := F.so i x k u h1 h2 e nu
    exact load_sv F S h1 sv (kk _ (by unfold VR; rw [e]; exact .mk a c o h n))
noncomputable def GlV (cx : Cx) (x : Str) (C : Wd cx → Value → Prop) : Prop := ∃ w, (cx.mg x = some w ∨ (cx.mg x = none ∧ cx.mb x = some w)) ∧ ∀ W : Wd cx, C W w
theorem glob_ok (F : Frm cx sc env W os ow) (S : ScOk sc) {C : Wd cx → Value → Prop} {x : Str} {pos : Pos} (G : GlV cx x C) (h1 : sc.names.lookup x = some .globalImplicit) (hx : (x == ("__debug__" : Str)) = false) (kk : ∀ w, C W w → Qm w W.s) : wpAny (MD cx) A (eval (.Name x pos) env) Qm NoE W.s := by
  obtain ⟨w, hw, p⟩ := G
  have kf : env.scope.kind = .function := by rw [F.sce.1]; exact S.kind
  have hk : env.kindOf x = some .globalImplicit := F.sce.own h1 (by decide)
  refine wpAny_Name ?_ hx
  unfold loadName
  simp only [Env.blockKind, kf, hk, ScopeKind.isAnnotationScope, Bool.false_and, Bool.false_eq_true, if_false]
  have hg : W.s.heap.Ns env.globals cx.mg := by rw [F.gl]; exact cx.g.keeps W.R.base
  have hb : W.s.heap.Ns env.builtins cx.mb := by rw [F.bl]; exact cx.b.keeps W.R.base
  rcases hw with e | ⟨e1, e2⟩
  · exact Calls.loadGlobal_global hg e (kk w (p W))
  · exact Calls.loadGlobal_builtin hg e1 hb e2 (kk w (p W))
end
end

end
section
noncomputable section
section
variable {cx : Cx} {A : Around} {d : Nat} {P : Addr → Prop} {B W W' : Wd cx} {u v : U} {x y w : Value} {l m : List U} {sc : Scope} {env : Env} {os : Os} {ow ow' : Nat → Option Addr}
variable {Q : U → St → Prop} {Qm : Value → Shared → Prop} {Qu : Unit → Shared → Prop} {Pt Nt : St → Prop} {Qb : Bool → Shared → Prop} {E : Value → Shared → Prop}
inductive PutS (W : Wd cx) (u : U) (w : Value) (i : Nat) (ow : Nat → Option Addr) : Prop
  | p (h : u.pl = true) (r : W.pr u w)
  | o (a : Addr) (h : u.pl = false) (n : u ≠ .un) (e : w = .ref a) (o : OwnAt W u a) (q : ow i = some a)
theorem Frm.write (F : Frm cx sc env W os ow) {s' : Shared} {c : Addr} (fc : FA sc env c) (kp : ∀ b o, b ≠ c → W.s.heap.get? b = some o → s'.heap.get? b = some o) (al : ∃ o, s'.heap.get? c = some o) (hg : s'.gens = W.s.gens) (ho : s'.os = W.s.os) :
    ∃ k', Le (FA sc env) W (W.to s' k') ∧ ∀ b, FAll env b → ∃ o, Priv (W.to s' k') b o := by
  have pr : ∀ b, FAll env b → ∃ o, Priv W b o := F.priv
  obtain ⟨oc, pc⟩ := pr c fc.all
  have k' : ∀ b o, (cx.h0.get? b ≠ none ∨ W.G b ≠ none ∨ Own W.H b) → W.s.heap.get? b = some o → s'.heap.get? b = some o := fun b o h e => kp b o (fun q => by
    subst q
    rcases h with h | h | h
    · exact h pc.n0
    · exact h pc.ng
    · exact pc.ow h) e
  refine ⟨k', Le.to (fun b o n e => kp b o (fun q => n (q ▸ fc)) e) k' hg ho, fun b f => ?_⟩
  obtain ⟨o, p⟩ := pr b f
  by_cases h : b = c
  · subst h; exact al.imp fun o q => ⟨q, p.2, p.3, p.4⟩
  · exact ⟨o, kp b o h p.1, p.2, p.3, p.4⟩
theorem set_at {α : Type} {l : List α} {i j : Nat} {u v : α} (h : (l.set i u)[j]? = some v) : (j = i ∧ v = u) ∨ (j ≠ i ∧ l[j]? = some v) := by
  by_cases e : i = j
  · subst e
    rw [List.getElem?_set_self' ] at h
    cases q : l[i]? with
    | none => rw [q] at h; exact nos h
    | some z => rw [q] at h; exact .inl ⟨rfl, (Option.some.inj h).symm⟩
  · rw [List.getElem?_set_ne e] at h; exact .inr ⟨fun q => e q.symm, h⟩
theorem Frm.put (F : Frm cx sc env W os ow) (S : ScOk sc) {i : Nat} {n : Str} {k : NameKind} {s' : Shared} {k' : ∀ b o, (cx.h0.get? b ≠ none ∨ W.G b ≠ none ∨ Own W.H b) → W.s.heap.get? b = some o → s'.heap.get? b = some o} (h1 : sc.names[i]? = some (n, k)) (pv : ∀ b, FAll env b → ∃ o, Priv (W.to s' k') b o)
    (ns : ∃ m, s'.heap.Ns env.locals m) (cs : ∀ (j : Nat) (y : Str), sc.names[j]? = some (y, NameKind.cell) → ∃ c v, env.cells.lookup y = some c ∧ s'.heap.IsCell c v) (sv : SlotV env s'.heap n w k) (oth : ∀ y z kk, y ≠ n → SlotV env W.s.heap y z kk → SlotV env s'.heap y z kk)
    (hu : PutS W u w i ow') (ho : ∀ j, j ≠ i → ow' j = ow j) (hi : ∀ j a, ow' i = some a → ow j = some a → j ≠ i → False) : Frm cx sc env (W.to s' k') (os.set i u) ow' := by
  have ne : ∀ (j : Nat) (y : Str) (kk : NameKind), j ≠ i → sc.names[j]? = some (y, kk) → y ≠ n := fun j y kk hj e q => by
    subst q
    have a1 : (sc.names.map (·.1))[j]? = some y := by rw [List.getElem?_map, e]; rfl
    have a2 : (sc.names.map (·.1))[i]? = some y := by rw [List.getElem?_map, h1]; rfl
    obtain ⟨b1, c1⟩ := List.getElem?_eq_some_iff.mp a1
    obtain ⟨b2, c2⟩ := List.getElem?_eq_some_iff.mp a2
    exact hj ((List.getElem_inj S.nd).mp (c1.trans c2.symm))
  refine { F with priv := pv, ns := ns, cs := cs, sl := fun j y kk v e1 e2 e3 => ?_, so := fun j y kk v e1 e2 e3 e4 => ?_, oi := fun j j' a e e' => ?_ }
  · rcases set_at e2 with ⟨rfl, rfl⟩ | ⟨hj, e2⟩
    · rw [h1] at e1; cases e1
      cases hu with
      | p _ r => exact ⟨w, sv, r⟩
      | o a h => rw [e3] at h; cases h
    · exact (F.sl j y kk v e1 e2 e3).imp fun z q => ⟨oth y z kk (ne j y kk hj e1) q.1, q.2⟩
  · rcases set_at e2 with ⟨rfl, rfl⟩ | ⟨hj, e2⟩
    · rw [h1] at e1; cases e1
      cases hu with
      | p h _ => rw [e3] at h; cases h
      | o a h n e o q => exact ⟨a, q, e ▸ sv, o⟩
    · exact (F.so j y kk v e1 e2 e3 e4).imp fun z q => ⟨(ho j hj).trans q.1, oth y _ kk (ne j y kk hj e1) q.2.1, q.2.2⟩
  · by_cases q : j = i
    · by_cases q' : j' = i
      · rw [q, q']
      · subst q; rw [ho j' q'] at e'; exact (hi j' a e e' q').elim
    · by_cases q' : j' = i
      · subst q'; rw [ho j q] at e; exact (hi j a e' e q).elim
      · rw [ho j q] at e; rw [ho j' q'] at e'; exact F.oi j j' a e e'
theorem bind_ok (F : Frm cx sc env W os ow) (S : ScOk sc) {i : Nat} {n : Str} {k : NameKind} (h1 : sc.names[i]? = some (n, k)) (hk : k = .local ∨ k = .cell)
    (hu : PutS W u w i ow') (ho : ∀ j, j ≠ i → ow' j = ow j) (hi : ∀ j a, ow' i = some a → ow j = some a → j ≠ i → False)
    (kk : ∀ s' k', Le (FA sc env) W (W.to s' k') → Frm cx sc env (W.to s' k') (os.set i u) ow' → Qu () s') : wpAny (MD cx) A (bindName env n w) Qu NoE W.s := by
  obtain ⟨_, _, _, n4⟩ := S.nm h1
  refine wpAny_bindName ?_
  have kf : env.scope.kind = .function := by rw [F.sce.1]; exact S.kind
  have hp : (env.scope.kind == .class || (env.scope.kind == .module && env.locals != env.globals)) = false := by rw [kf]; rfl
  have cellk : ∀ y c, env.cells.lookup y = some c → c ≠ env.locals := fun y c e q => F.lc y (q ▸ e)
  rcases hk with rfl | rfl
  · obtain ⟨m, hn⟩ := F.ns
    refine wpAny_storeName_local (F.sce.own n4 (by decide)) hn (fun h' hn' hs' => ?_) hp
    have kp : ∀ b o, b ≠ env.locals → W.s.heap.get? b = some o → h'.get? b = some o := fun b o hb e => (hs'.2 b hb).trans e
    obtain ⟨k', le, pv⟩ := F.write (s' := { W.s with heap := h', toks := W.s.toks + 1 }) (c := env.locals) (.inl rfl) kp (by obtain ⟨o, _, _, e, _⟩ := hn'; exact ⟨o, e⟩) rfl rfl
    refine kk _ k' le (F.put S h1 pv ⟨_, hn'⟩ (fun j y e => ?_) (.l _ hn' (if_pos rfl)) (fun y z kk hy s => ?_) hu ho hi)
    · obtain ⟨c, v, e1, o, e2, e3⟩ := F.cs j y e
      exact ⟨c, v, e1, o, kp _ _ (cellk y c e1) e2, e3⟩
    · cases s with
      | l m' n' e =>
        obtain ⟨o, es, ep, a1, a2, a3, a4⟩ := n'
        obtain ⟨o2, es2, ep2, b1, b2, b3, b4⟩ := hn
        rw [b1] at a1; cases a1; rw [b2] at a2; cases a2
        exact .l _ hn' ((if_neg hy).trans (by rw [← b4, a4]; exact e))
      | c c e i => obtain ⟨o, e2, e3⟩ := i; exact .c c e ⟨o, kp _ _ (cellk y c e) e2, e3⟩
      | f c e i => obtain ⟨o, e2, e3⟩ := i; exact .f c e ⟨o, kp _ _ (cellk y c e) e2, e3⟩
  · obtain ⟨c, u0, hc, hcell⟩ := F.cs i n h1
    refine wpAny_storeName_cell kf (F.sce.own n4 (by decide)) hc hcell fun h' hc' hs' => ?_
    have kp : ∀ b o, b ≠ c → W.s.heap.get? b = some o → h'.get? b = some o := fun b o hb e => (hs'.2 b hb).trans e
    obtain ⟨k', le, pv⟩ := F.write (s' := { W.s with heap := h' }) (c := c) (.inr ⟨n, n4, hc⟩) kp (by obtain ⟨o, e, _⟩ := hc'; exact ⟨o, e⟩) rfl rfl
    have hcl : env.locals ≠ c := fun q => F.lc n (q ▸ hc)
    have cne : ∀ y c', y ≠ n → env.cells.lookup y = some c' → c' ≠ c := fun y c' ne e q => by
      subst q
      exact ne (name_of_addr F.apart (PySem.mem_of_lookup e) (PySem.mem_of_lookup hc))
    refine kk _ k' le (F.put S h1 pv (by obtain ⟨m, o, es, ep, e1, e2⟩ := F.ns; exact ⟨m, o, es, ep, kp _ _ hcl e1, e2⟩) (fun j y e => ?_) (.c c hc hc') (fun y z kk hy s => ?_) hu ho hi)
    · by_cases q : y = n
      · subst q; exact ⟨c, _, hc, hc'⟩
      · obtain ⟨c', v, e1, o, e2, e3⟩ := F.cs j y e
        exact ⟨c', v, e1, o, kp _ _ (cne y c' q e1) e2, e3⟩
    · cases s with
      | l m' n' e => obtain ⟨o, es, ep, a1, a2⟩ := n'; exact .l m' ⟨o, es, ep, kp _ _ hcl a1, a2⟩ e
      | c c' e i => obtain ⟨o, e2, e3⟩ := i; exact .c c' e ⟨o, kp _ _ (cne y c' hy e) e2, e3⟩
      | f c' e i => obtain ⟨o, e2, e3⟩ := i; exact .f c' e ⟨o, kp _ _ (cne y c' hy e) e2, e3⟩
theorem bindP_ok (F : Frm cx sc env W os ow) (S : ScOk sc) {i : Nat} {n : Str} {k : NameKind} (h1 : sc.names[i]? = some (n, k)) (hk : k = .local ∨ k = .cell) (hu : u.pl = true) (hw : W.pr u w)
    (kk : ∀ s' k', Le (FA sc env) W (W.to s' k') → (∃ ow', (∀ j a, ow' j = some a → ow j = some a) ∧ Frm cx sc env (W.to s' k') (os.set i u) ow') → Qu () s') : wpAny (MD cx) A (bindName env n w) Qu NoE W.s :=
  bind_ok (ow' := fun j => if j = i then none else ow j) F S h1 hk (.p hu hw) (fun j h => if_neg h) (fun j a e => nos ((if_pos rfl).symm.trans e)) fun s' k' l f => kk s' k' l ⟨_, fun j a e => by
    by_cases q : j = i
    · exact nos ((if_pos q).symm.trans e)
    · exact (if_neg q).symm.trans e, f⟩
end
end

end
section

section
variable {prog : Program} {w : World} {A : Around} {E : Value → Shared → Prop} {s : Shared}

theorem upd_list {h : Heap} {l : Addr} {items : Array Value} {n : Nat} (ho : h.get? l = some (listO items n)) (f : Array Value → Array Value) : ∃ m, (h.update l (Obj.mapSeq f)).get? l = some (listO (f items) m) :=
  ⟨_, Heap.get?_update_self _ ho rfl⟩

theorem setItem_exact {l : Addr} {items : Array Value} {n : Nat} {k : Int} {t : Tok} {v : Value} {Q : Unit → Shared → Prop} (ho : s.heap.get? l = some (listO items n))
    (h0 : 0 ≤ k) (hfit : k < 2 ^ 63) (hn : k < items.size) (hQ : Q () { s with heap := s.heap.update l (Obj.mapSeq (·.setIfInBounds k.toNat v)) }) :
    wpAny (model prog w) A (setItem (.ref l) (.int k t) v) Q E s := by
  have hl : s.heap.IsList l items := ⟨_, ho, rfl, n, rfl⟩
  have hd : (listO items n).data = .seq items n := rfl
  unfold setItem
  try with_reducible refine wpAny_holding ?_
  first | refine wpAny_bind (wpAny_pure ?_) | skip
  refine wpAny_bind (wpAny_sequenceKey hl.typeIs (by decide) ?_)
  refine wpAny_bind (wpAny_callSpecial?_slot (name := Str.ofString "__setitem__") hl.typeIs slot_list_setitem
    (wpAny_call_entry slot_list_setitem hl.typeIs entry_list_setitem ?_ (args_list_setitem _ _ _)))
  show wpAny _ _ (Builtin.List.listSubscript? (.int k t) >>= _) _ _ s
  refine wpAny_bind (wpAny_listSubscript_int (fitsIndex_of h0 hfit) ?_)
  clear hfit
  obtain ⟨j, rfl⟩ := Int.eq_ofNat_of_zero_le h0
  have hj : j < items.size := by omega
  have hx' : items[j]? = some items[j] := Array.getElem?_eq_getElem hj
  show wpAny _ _ ((seqItemAt l j >>= fun r => pure (r.map (j, ·))) >>= _) _ _ s
  refine wpAny_bind (wpAny_bind (wpAny_seqItemAt ho hd (wpAny_pure ?_)))
  rw [hx']
  show wpAny _ _ (setSeqItemAt l j v >>= _) _ _ s
  refine wpAny_bind (wpAny_setSeqItemAt ho hd ?_)
  first
    | exact wpAny_bind (wpAny_pure (wpAny_pure ⟨.none, rfl, wpAny_pure hQ⟩))
    | exact wpAny_pure ⟨.none, rfl, wpAny_pure hQ⟩

noncomputable def cutIn (items new : Array Value) (start stop : Int) : Array Value := items.extract 0 start.toNat ++ new ++ items.extract (max start stop).toNat items.size

theorem cutIn_size (items new : Array Value) (st sp : Int) : (cutIn items new st sp).size ≤ items.size + new.size := by
  have h : st.toNat ≤ (max st sp).toNat := Int.toNat_le_toNat (Int.le_max_left st sp)
  unfold cutIn
  rw [Array.size_append, Array.size_append, Array.size_extract, Array.size_extract, Nat.min_self, Nat.sub_zero, Nat.add_right_comm]
  refine Nat.add_le_add_right (Nat.le_trans (Nat.add_le_add_left (Nat.sub_le_sub_left h _) _) ?_) _
  rw [Nat.add_comm, Nat.min_comm]
  exact Nat.le_of_eq (Nat.sub_add_min_cancel ..)
theorem setSlice_exact {l sl b : Addr} {items new : Array Value} {n n2 : Nat} {vl vu : Value} {lo hi : Option Int} {os : Obj} {Q : Unit → Shared → Prop} (ho : s.heap.get? l = some (listO items n)) (hb : s.heap.get? b = some (listO new n2)) (hne : l ≠ b)
    (hos : s.heap.get? sl = some os) (hcs : os.cls = .type "slice") (hds : os.data = .fields #[vl, vu, .none]) (pl : IsPart vl lo) (pu : IsPart vu hi) (hsz : items.size + new.size ≤ sizeLine)
    (hQ : Q () { s with heap := s.heap.update l (Obj.mapSeq fun xs => cutIn xs new (sliceBounds lo hi none items.size).1 (sliceBounds lo hi none items.size).2.1) }) :
    wpAny (model prog w) A (setItem (.ref l) (.ref sl) (.ref b)) Q E s := by
  have hl : s.heap.IsList l items := ⟨_, ho, rfl, n, rfl⟩
  have hlb : s.heap.IsList b new := ⟨_, hb, rfl, n2, rfl⟩
  have hd : (listO items n).data = .seq items n := rfl
  have hTs : s.TypeIs (.ref sl) "slice" := ⟨os, hos, hcs⟩
  unfold setItem
  try with_reducible refine wpAny_holding ?_
  first | refine wpAny_bind (wpAny_pure ?_) | skip
  refine wpAny_bind (wpAny_sequenceKey hl.typeIs (by decide) ?_)
  refine wpAny_bind (wpAny_callSpecial?_slot (name := Str.ofString "__setitem__") hl.typeIs slot_list_setitem
    (wpAny_call_entry slot_list_setitem hl.typeIs entry_list_setitem ?_ (args_list_setitem _ _ _)))
  show wpAny _ _ (Builtin.List.listSubscript? (.ref sl) >>= _) _ _ s
  refine wpAny_bind ?_
  unfold Builtin.List.listSubscript?
  refine wpAny_bind (wpAny_specialOf hTs slice_no_index ?_)
  rw [Option.isNone_none, if_pos rfl]
  refine wpAny_pure ?_
  show wpAny _ _ (typeOf (.ref sl) >>= _) _ _ s
  refine wpAny_bind (wpAny_typeOf hTs ?_)
  rw [if_neg (by decide)]
  rw [listSliceParts_eq]
  have ps : IsPart .none none := by first | exact .none | exact rfl | (constructor)
  refine wpAny_bind (wpAny_bind (wpAny_field hos hds (x := .none) rfl (wpAny_bind (wpAny_listPart ps ?_))))
  rw [if_neg (by decide)]
  refine wpAny_bind (wpAny_field hos hds (x := vl) rfl (wpAny_bind (wpAny_listPart pl ?_)))
  refine wpAny_bind (wpAny_field hos hds (x := vu) rfl (wpAny_bind (wpAny_listPart pu (wpAny_pure ?_))))
  have hsame : Builtin.List.listSameRef (.ref l) (.ref b) = false := by
    show (l == b) = false
    exact beq_eq_false_iff_ne.mpr hne
  rw [hsame]
  dsimp only
  rw [if_neg Bool.false_ne_true]
  refine wpAny_bind (m := Builtin.List.listAllItems _ _) ?_
  unfold Builtin.List.listAllItems
  refine wpAny_bind (wpAny_typeOf hlb.typeIs ?_)
  rw [if_pos (by decide)]
  unfold Builtin.List.listItems
  refine wpAny_bind (m := seqItems? (.ref b)) (wpAny_seqItems hb rfl (wpAny_pure ?_))
  refine wpAny_bind (wpAny_bind (m := seqItems? (.ref l)) (wpAny_seqItems ho hd (wpAny_pure ?_)))
  refine wpAny_bind (wpAny_of_eq (sliceIndices_raw lo hi none items.size (by simp)) ?_)
  rw [sliceBounds_plain] at hQ ⊢
  generalize ((lo.elim 0 (clipAt items.size) : Nat) : Int) = st at hQ ⊢
  generalize ((hi.elim items.size (clipAt items.size) : Nat) : Int) = sp at hQ ⊢
  show wpAny _ _ (rule "list.__setitem__.slice" >>= _) _ _ s
  refine wpAny_bind (wpAny_rule ?_)
  have hnl : Builtin.List.listTooLong (items.size + new.size) = false := by unfold Builtin.List.listTooLong; exact decide_eq_false (Nat.not_lt_of_le hsz)
  rw [hnl]
  dsimp only
  rw [if_neg Bool.false_ne_true]
  show wpAny _ _ (updateSeq l (fun xs => cutIn xs new st sp) >>= _) _ _ s
  refine wpAny_bind (wpAny_updateSeq ho hd ?_ (Nat.le_trans (Nat.le_add_right ..) hsz) (Nat.le_succ_of_le (Nat.le_trans (cutIn_size ..) hsz)))
  refine wpAny_bind (m := letGo _ _) (wpAny_letGo (wpAny_pure ⟨.none, rfl, wpAny_pure hQ⟩))
end

end
section
noncomputable section
section
variable {cx : Cx} {A : Around} {d : Nat} {P : Addr → Prop} {B W W' : Wd cx} {u v : U} {x y w : Value} {l m : List U} {sc : Scope} {env : Env} {os : Os} {ow ow' : Nat → Option Addr}
variable {Q : U → St → Prop} {Qm : Value → Shared → Prop} {Qu : Unit → Shared → Prop} {Pt Nt : St → Prop} {Qb : Bool → Shared → Prop} {E : Value → Shared → Prop}
noncomputable def Wd.updO (W : Wd cx) (s' : Shared) {a : Addr} {c : Cell} (c' : Cell) (hc : W.H a = some c) (hk : kOf c' = kOf c) (n : ∀ l, W.μ l ≠ some a) (kp : ∀ b o, b ≠ a → kOf c ≠ some b → W.s.heap.get? b = some o → s'.heap.get? b = some o) (hr : CellR cx W.G W.μ s'.heap a c') : Wd cx :=
  W.upd s' c' W.σ hc hk kp hr (fun l x e => let ⟨c1, h1, h2⟩ := W.R.loc l x e; ⟨c1, by rw [HH.ne (fun q => by subst q; exact n l e)]; exact h1, h2⟩) W.R.born
theorem Le.updO {s' : Shared} {a : Addr} {c c' : Cell} {hc : W.H a = some c} {hk n kp hr} (x : Le P B W) (h : B.H a = none) (hg : s'.gens = W.s.gens) (ho : s'.os = W.s.os) : Le P B (W.updO s' c' hc hk n kp hr) := Le.upd x (fun q => absurd h q) hg ho
noncomputable def Wd.updM (W : Wd cx) (s' : Shared) {a : Addr} {c : Cell} {k : Loc} (c' : Cell) (σ' : St) (hc : W.H a = some c) (hk : kOf c' = kOf c) (m : W.μ k = some a) (lo : LocOk σ' k c') (o : Oth W.σ σ' k) (kp : ∀ b o, b ≠ a → kOf c ≠ some b → W.s.heap.get? b = some o → s'.heap.get? b = some o) (hr : CellR cx W.G W.μ s'.heap a c') : Wd cx :=
  W.upd s' c' σ' hc hk kp hr (fun l y ey => by
    by_cases q : l = k
    · rw [q, m] at ey; cases ey; rw [q]; exact ⟨_, HH.same, lo⟩
    · obtain ⟨c1, h1, h2⟩ := W.R.loc l y ey
      exact ⟨c1, by rw [HH.ne (fun r => q (W.R.inj l k a (by rw [← r]; exact ey) m))]; exact h1, o.ok l c1 q h2⟩) fun l y ey => o.born l (W.R.born l y ey)
theorem Le.updM {s' : Shared} {a : Addr} {c c' : Cell} {k : Loc} {σ' : St} {hc : W.H a = some c} {hk} {m : W.μ k = some a} {lo o kp hr} (hg : s'.gens = W.s.gens) (ho : s'.os = W.s.os) : Le P W (W.updM s' c' σ' hc hk m lo o kp hr) := Le.upd .refl (fun _ => ⟨k, m⟩) hg ho
theorem VR.cell {k : Loc} {p : Cell → Prop} (h : VR W (.lo k) w) (f : ∀ c, LocOk W.σ k c → p c) : ∃ a c, w = .ref a ∧ W.μ k = some a ∧ W.H a = some c ∧ p c :=
  let ⟨a, c, e, m, z, o⟩ := h.lo; ⟨a, c, e, m, z, f c o⟩
theorem CellR.lst {G μ} {h : Heap} {a : Addr} (x : CellR cx G μ h a (.L l)) : ∃ ws n, h.get? a = some (listO ws n) ∧ PRs cx G μ l ws.toList ∧ ws.size = l.length ∧ l.length ≤ sizeLine := by
  cases x with | L ws n us g r hl => exact ⟨ws, n, g, r, r.sz, hl⟩
theorem kpL {s' : Shared} {a : Addr} {c : Cell} (sb : ∀ b, b ≠ a → s'.heap.get? b = W.s.heap.get? b) : ∀ b o, b ≠ a → kOf c ≠ some b → W.s.heap.get? b = some o → s'.heap.get? b = some o := fun b o h _ e => (sb b h).trans e
theorem setL_core {a : Addr} {c : Int} {t : Tok} (hc : W.H a = some (.L l)) (h0 : 0 ≤ c) (hk : c < l.length) (hw : W.pr u w)
    (k : ∀ s', (∀ b, b ≠ a → s'.heap.get? b = W.s.heap.get? b) → CellR cx W.G W.μ s'.heap a (.L (l.set c.toNat u)) → s'.gens = W.s.gens → s'.os = W.s.os → Qu () s') : wpAny (MD cx) A (setItem (.ref a) (.int c t) w) Qu NoE W.s := by
  obtain ⟨zs, n, g, r, e, hl⟩ := (W.own hc).lst
  have hs : sizeLine = 2 ^ 24 := rfl
  obtain ⟨n', e'⟩ := upd_list g (·.setIfInBounds c.toNat w)
  refine setItem_exact g h0 (by lia) (by lia) (k { W.s with heap := W.s.heap.update a (Obj.mapSeq (·.setIfInBounds c.toNat w)) } (Heap.SameBut.update ..).2 (.L _ n' _ e' (by rw [Array.toList_setIfInBounds]; exact r.set hw) (by rw [List.length_set]; exact hl)) rfl rfl)
theorem dPut.go {G : GM} {μ : LM} {k : Int} {ks : List Int} {l : List U} {ws : List Value} (hk : ks.length = ws.length) (r : PRs cx G μ l ws) (p : PR cx G μ u w) :
    ∃ ws', stored (ks.zip ws) k w = (dPut k u ks l).1.zip ws' ∧ (dPut k u ks l).1.length = ws'.length ∧ PRs cx G μ (dPut k u ks l).2 ws' := by
  have an : (ks.zip ws).any (fun p => p.1 = k) = decide (k ∈ ks) := by
    rw [Bool.eq_iff_iff, List.any_eq_true, decide_eq_true_eq]
    constructor
    · rintro ⟨⟨a, b⟩, h, e⟩; exact (of_decide_eq_true e) ▸ (List.of_mem_zip h).1
    · intro h
      obtain ⟨i, hi⟩ := List.getElem?_of_mem h
      have hl : i < ws.length := hk ▸ (List.getElem?_eq_some_iff.mp hi).1
      exact ⟨(k, ws[i]), List.mem_of_getElem? (i := i) (List.getElem?_zip_eq_some.mpr ⟨hi, List.getElem?_eq_getElem hl⟩), decide_eq_true rfl⟩
  unfold stored dPut
  rw [an]
  by_cases h : k ∈ ks
  · rw [if_pos (decide_eq_true h), if_pos h]
    refine ⟨List.zipWith (fun j w0 => if j = k then w else w0) ks ws, ?_, by rw [List.length_zipWith, hk, Nat.min_self], ?_⟩
    · clear an h r
      induction ks generalizing ws with
      | nil => rfl
      | cons j ks ih => cases ws with
        | nil => rfl
        | cons w0 ws =>
          rw [List.zip_cons_cons, List.map_cons, List.zipWith_cons_cons, List.zip_cons_cons, ih (Nat.succ.inj hk)]
          congr 1
          by_cases e : j = k
          · simp [e]
          · simp [e]
    · clear an h
      induction ks generalizing ws l with
      | nil => cases l <;> exact (show ([] : List Value) = [] from rfl)
      | cons j ks ih => cases l with
        | nil => rw [show ws = [] from r] at hk; cases hk
        | cons u0 l =>
          obtain ⟨w0, ws, p0, r0⟩ := (show ConsR _ _ ws from r)
          clear r
          rw [List.zipWith_cons_cons, List.zipWith_cons_cons]
          refine .cons ?_ (ih (Nat.succ.inj hk) r0)
          by_cases e : j = k
          · rw [if_pos e, if_pos e]; exact p
          · rw [if_neg e, if_neg e]; exact p0
  · rw [if_neg (fun q => h (of_decide_eq_true q)), if_neg h]
    refine ⟨ws ++ [w], ?_, by rw [List.length_append, List.length_append, hk]; rfl, r.snoc p⟩
    rw [List.zip_append hk]; rfl
theorem setD_core {ks : List Int} {o : Obj} {a : Addr} {c : Int} {t : Tok} (hc : W.H a = some (.D o ks l)) (hl : ks.length < mxL) (hw : W.pr u w)
    (k : ∀ s' o', (∀ b, b ≠ a → s'.heap.get? b = W.s.heap.get? b) → CellR cx W.G W.μ s'.heap a (.D o' (dPut c u ks l).1 (dPut c u ks l).2) → s'.gens = W.s.gens → s'.os = W.s.os → Qu () s') : wpAny (MD cx) A (setItem (.ref a) (.int c t) w) Qu NoE W.s := by
  have hs : sizeLine = 2 ^ 24 := rfl
  have hm : mxL = 100000 := rfl
  generalize hz : Cell.D o ks l = z at hc
  cases W.own hc with
  | D o ks l g dd =>
    cases hz
    obtain ⟨ws, hk, hd, r, hl'⟩ := dd
    refine wpAny_setItem_pairs (isI cx.prog cx.w c t) (Heap.dictOf_iff.mpr ⟨_, g, hd⟩) (fun h' hd' sb => ?_) (by rw [List.length_zip, hk, Nat.min_self]; lia)
    obtain ⟨ws', e1, e2, e3⟩ := dPut.go (k := c) hk r hw
    rw [e1] at hd'
    obtain ⟨o', ho', hd'⟩ := Heap.dictOf_iff.mp hd'
    refine k { W.s with heap := h', toks := W.s.toks + 1 } o' sb.2 (.D o' _ _ ho' ⟨ws', e2, hd', e3, ?_⟩) rfl rfl
    rw [← e3.len, ← e2]
    unfold dPut; split
    · show ks.length ≤ _; lia
    · show (ks ++ [c]).length ≤ _; rw [List.length_append]; show ks.length + 1 ≤ _; lia
  | _ => cases hz
theorem storedH_keys {xs : List (List Int × Addr × Value)} {k : List Int} {a : Addr} {v : Value} : (storedH xs k a v).map (·.1) = (if k ∈ xs.map (·.1) then xs.map (·.1) else xs.map (·.1) ++ [k]) ∧ ∀ p ∈ storedH xs k a v, p.2.1 = a ∨ ∃ q ∈ xs, q.2.1 = p.2.1 := by
  unfold storedH
  rw [atKey_some]
  by_cases h : k ∈ xs.map (·.1)
  · simp only [h, decide_true, if_true]
    refine ⟨?_, fun p hp => ?_⟩
    · rw [List.map_map]
      apply List.map_congr_left
      intro x _
      show (putAt k v x).1 = x.1
      unfold putAt; split <;> rfl
    · obtain ⟨x, hx, rfl⟩ := List.mem_map.mp hp
      refine .inr ⟨x, hx, ?_⟩
      unfold putAt; split <;> rfl
  · simp only [h, decide_false, Bool.false_eq_true, if_false]
    refine ⟨by simp, fun p hp => ?_⟩
    rcases List.mem_append.mp hp with hp | hp
    · exact .inr ⟨p, hp, rfl⟩
    · rw [List.mem_singleton.mp hp]; exact .inl rfl
theorem setS_core {ks : List (List Int)} {is : List Int} {a : Addr} (ak : AOk A d) (hc : W.H a = some (.S ks)) (hv : VR W (.tu (is.map .i)) y) (hl : ks.length < mxL)
    (k : ∀ s', (∀ b, b ≠ a → s'.heap.get? b = W.s.heap.get? b) → CellR cx W.G W.μ s'.heap a (.S (if is ∈ ks then ks else ks ++ [is])) → s'.gens = W.s.gens → s'.os = W.s.os → Qu () s') : wpAny (MD cx) A (setItem (.ref a) y w) Qu NoE W.s := by
  have hs : sizeLine = 2 ^ 24 := rfl
  have hm : mxL = 100000 := rfl
  obtain ⟨b, rfl, hk, hg⟩ := tup_key hv
  generalize hz : Cell.S ks = z at hc
  cases W.own hc with
  | S xs g q =>
    cases hz
    refine wpAny_setItem_heap (knd := tupleKind (IK cx)) (ak.units (n := 1) (by decide)) hk g (fun h' hd' sb => ?_) (by rw [List.length_map] at hl; lia)
    obtain ⟨k1, k2⟩ := storedH_keys (xs := xs) (k := is) (a := b) (v := w)
    refine k { W.s with heap := h', toks := W.s.toks + (tupleKind (IK cx)).draws is } sb.2 (k1 ▸ .S _ hd' fun p hp e => ?_) rfl rfl
    rcases k2 p hp with r | ⟨z, hz, r⟩
    · exact hg (r ▸ e)
    · exact q z hz (r ▸ e)
  | _ => cases hz
end
end

end
section
noncomputable section
noncomputable def noStar (e : Expr) : Bool := e.ctorIdx != 22
theorem noStar.go {e : Expr} (h : noStar e = true) {r : List Expr} {env : Env} : starEach (e :: r) env = (false, eval e env) :: starEach r env := by
  cases e <;> first | rfl | exact fot h
noncomputable def noSet (e : Expr) : Bool := e.ctorIdx != 7
theorem noSet.it {e : Expr} (h : noSet e = true) {env : Env} {x : Value} : foldedSetIterable e env x = pure x := by
  cases e <;> first | rfl | exact fot h
theorem noSet.beh {e : Expr} (h : noSet e = true) {op : CmpOp} : behindInMarks op e = false := by
  cases e <;> first | rfl | exact fot h
noncomputable def noBare (e : Expr) : Bool := e.ctorIdx != 16
theorem noBare.go {e : Expr} (h : noBare e = true) {n : Str} {env : Env} {t : Sem Value} : attributeBase e n env t = t := by
  cases e <;> first | rfl | exact fot h
section
variable {cx : Cx} {A : Around} {d : Nat} {P : Addr → Prop} {B W W' : Wd cx} {u v : U} {x y w : Value} {l m : List U} {sc : Scope} {env : Env} {os : Os} {ow ow' : Nat → Option Addr}
variable {Q : U → St → Prop} {Qm : Value → Shared → Prop} {Qu : Unit → Shared → Prop} {Pt Nt : St → Prop} {Qb : Bool → Shared → Prop} {E : Value → Shared → Prop}
noncomputable def PlA (args : List Expr) : Prop := ∀ e ∈ args, noStar e = true
theorem PlA.any {args : List Expr} (h : PlA args) {env : Env} {pos : Pos} : ((backTo pos (starEach args env)).any (·.1)) = false := by
  induction args with
  | nil => rfl
  | cons e r ih => rw [noStar.go (h e (.head _))]; exact ih fun x hx => h x (.tail _ hx)
theorem callWith_keep {M : Model} {s : Shared} {pos : Pos} {f : Value} {first : List Value} {args : List (Bool × Sem Value)} (hplain : args.any (·.1) = false)
    (h : wpAny M A (evalArgs f true args []) (fun a s₁ => (∀ (Q : Keeper → Shared → Prop) (E : Value → Shared → Prop), (∀ k, Q k s₁) → wpAny M A (keeperOf f) Q E s₁) ∧ wpAny M A (call f (first ++ a.pos) a.kw) Qm E s₁) E s) :
    wpAny M A (callWith pos f first args []) Qm E s := by
  unfold callWith
  refine wpAny_bind (wpAny_holding (wpAny_mono h (fun a s₁ h₁ => wpAny_bind (wpAny_standAt ?_)) fun _ _ x => x))
  have tail : ∀ {t : Sem Value}, wpAny M A t Qm E s₁ → wpAny M A (t >>= fun r => holding [r] point >>= fun _ => pure r) Qm E s₁ :=
    fun ht => wpAny_bind (wpAny_mono ht (fun r s₂ hr => wpAny_bind (wpAny_holding (wpAny_point (wpAny_pure hr)))) fun _ _ x => x)
  rw [hplain]
  refine wpAny_bind (m := keeperOf f) (h₁.1 _ _ fun k => ?_)
  have hm : ∀ m, wpAny M A (callMarked m f (first ++ a.pos) a.kw) Qm E s₁ := fun m => by unfold callMarked; exact Calls.wpAny_keep h₁.2
  cases k
  · show wpAny _ _ (if args.length + 2 * 0 > 30 then _ else _) _ _ _
    split
    · exact tail h₁.2
    · exact tail (hm _)
  · show wpAny _ _ (if args.length + 2 * 0 > 30 then _ else _) _ _ _
    split
    · exact tail h₁.2
    · exact tail (hm _)
  · exact tail h₁.2
  · exact tail (wpAny_operating h₁.2)
theorem callWith_ok {s : Shared} {pos : Pos} {f : Value} {first : List Value} {args : List Expr} {env : Env} (hp : PlA args)
    (h : wpAny (MD cx) A (spliced (backTo pos (starEach args env))) (fun ws s1 => KeepOk cx f A s1 ∧ wpAny (MD cx) A (call f (first ++ ws)) Qm NoE s1) NoE s) : wpAny (MD cx) A (callWith pos f first (backTo pos (starEach args env)) []) Qm NoE s := by
  refine callWith_keep hp.any ?_
  cases args with
  | nil =>
    unfold evalArgs
    refine wpAny_bind (wpAny_mono h (fun ws s1 y => ?_) fun _ _ y => y)
    exact wpAny_bind (wpAny_pure (wpAny_holding (wpAny_bind (wpAny_pure (wpAny_bind (wpAny_pure (wpAny_pure y)))))))
  | cons e r =>
    rw [noStar.go (hp e (.head _))] at h ⊢
    exact Calls.evalArgs_plain (wpAny_mono h (fun ws s1 y => y) fun _ _ y => y)
theorem meth_ok {s : Shared} {o : Expr} {n : Str} {apos pos : Pos} {args : List Expr} {env : Env} (hb : noBare o = true) (hline : (apos.endLine == pos.line) = true) (hfew : args.length < 29) (hp : PlA args)
    (h : wpAny (MD cx) A (eval o env) (fun x s1 => ∀ pl, wpAny (MD cx) A (getMethod x n pl) (fun p s2 => wpAny (MD cx) A (spliced (backTo pos (starEach args env))) (fun ws s3 => KeepOk cx p.1 A s3 ∧ wpAny (MD cx) A (call p.1 (p.2 ++ ws)) Qm NoE s3) NoE s2) NoE s1) NoE s) :
    wpAny (MD cx) A (eval (.Call (.Attribute o n apos) args [] pos) env) Qm NoE s := by
  rw [arm_eval_Call, noBare.go hb]
  have hform : methodCallForm (args.length + ([] : List Keyword).length) (backTo pos (starEach args env)) (backToKw pos (keywordEach [] env)) = true := by
    unfold methodCallForm
    have := hp.any (env := env) (pos := pos)
    simp only [List.all_eq_not_any_not, Bool.not_not, this]
    show (true && decide (args.length < 30)) = true
    simp; lia
  have hpos : methodCallPos true o env apos pos = pure pos := by unfold methodCallPos; simp [hline]
  refine wpAny_bind (wpAny_mono h (fun x s1 h1 => ?_) fun _ _ z => z)
  refine wpAny_bind (wpAny_standAt ?_)
  unfold methodCall
  rw [hform]
  refine wpAny_bind (wpAny_holding (wpAny_mono (h1 _) (fun p s2 h2 => ?_) fun _ _ z => z))
  refine wpAny_bind (wpAny_of_eq hpos ?_)
  exact callWith_ok hp h2
theorem getM_inst (F : ClsF cx) {c n k : Nat} {ns : List Nat} {ml : List (Nat × Nat)} {pl : Sem Bool} {Qp : Value × List Value → Shared → Prop} (hi : InH W c l x) (hc : lkN c cF = some ns) (h1 : lkN c mths = some ml) (h2 : lkN n ml = some k) (q : Qp (cx.fv k, [x]) W.s) : wpAny (MD cx) A (getMethod x (aN n) pl) Qp NoE W.s := by
  obtain ⟨N, m, X⟩ := F c ns hc
  obtain ⟨f, fo, y, e1, e2, e3, e4, e5, e6⟩ := X.me n k ⟨ml, h1, h2⟩
  obtain ⟨a, dd, o', o, ws, es, ep, ne, g, hi, gd, hf, r⟩ := hi
  have hn : ((((cN c).take l.length).zip ws).lookup (aN n)) = none := lookup_zip_none fun h => by
    rw [show cN c = ns.map aN by unfold cN; rw [hc]] at h
    obtain ⟨j, hj, q⟩ := List.mem_map.mp (List.mem_of_mem_take h)
    exact e6 j hj q
  rw [e1] at q
  have Y := X.at_.keeps W.R.base
  have hfo := W.R.base _ _ e3
  have I := inst_of g hi ne gd hf
  obtain ⟨nm', q', bs, sn', sub, col, d1, k0, k1, k2, k3, k5, hC⟩ := Y.obj
  revert hC Y g gd I q hfo
  generalize W.s = s
  obtain ⟨hh, gg, dr, t, os⟩ := s
  intro q g gd Y hfo I hC
  exact method_of hC Y.ns X.ga X.gt e2 hfo e4 e5 I hn q
theorem getM_list {n : Str} {id : String} {pl : Sem Bool} {Qp : Value × List Value → Shared → Prop} (h : SqH W listO l x) (slot : Slot "list" n id) (hty : typeOf (.builtin id) = pure (.type "method_descriptor")) (q : Qp (.builtin id, [x]) W.s) : wpAny (MD cx) A (getMethod x n pl) Qp NoE W.s := by
  obtain ⟨a, ws, m, g, r, _⟩ := h
  exact getMethod_builtin ⟨_, g, rfl⟩ PySem.F.plainAttrs_list slot hty (fun b e => by cases e; exact ⟨_, g, rfl⟩) q
theorem getM_get {pl : Sem Bool} {ks : List Int} {Qp : Value × List Value → Shared → Prop} (h : DiH W ks l x) (q : Qp (.builtin "dict.get", [x]) W.s) : wpAny (MD cx) A (getMethod x (Str.ofString "get") pl) Qp NoE W.s := by
  obtain ⟨a, ws, ns, hk, hd, r, hl⟩ := h
  exact getMethod_builtin hd.typeIs PySem.F.plainAttrs_dict PySem.F.slot_dict_get PySem.F.type_dict_get hd.mapOf.noDict q
theorem get_ok {ks : List Int} {z : Value} {a : Int} {t : Tok} (h : DiH W ks l x) (hz : W.pr v z) (q : Q ((dGet a ks l).getD v) W.σ) (k : KV W Q Qm) (hv : v.pl = true) : wpAny (MD cx) A (call (.builtin "dict.get") [x, .int a t, z]) Qm NoE W.s := by
  obtain ⟨b, ws, ns, hk, hd, r, hl⟩ := h
  have key := dGet.val (k := a) hk r
  refine call_meetsIn PySem.F.slot_dict_get hd.typeIs PySem.F.entry_dict_get (PySem.F.args_dict_get_3 _ _ _) (meets_dict_get_default (IK cx) b (isI cx.prog cx.w a t) ns z) ⟨_, hd.mapOf, ?_⟩
  cases e : dGet a ks l with
  | none => rw [e] at key q; rw [key]; exact k.tok hz hv q
  | some u =>
    rw [e] at key q
    obtain ⟨w', e2, hw⟩ := key
    rw [e2]; exact k.tok hw hw.pl q
theorem app_core {a : Addr} (hc : W.H a = some (.L l)) (hl : l.length < mxL) (hw : W.pr u w)
    (k : ∀ s', (∀ b, b ≠ a → s'.heap.get? b = W.s.heap.get? b) → CellR cx W.G W.μ s'.heap a (.L (l ++ [u])) → s'.gens = W.s.gens → s'.os = W.s.os → Qm .none s') : wpAny (MD cx) A (call (.builtin "list.append") [.ref a, w]) Qm NoE W.s := by
  obtain ⟨zs, n, g, r, e, hl'⟩ := (W.own hc).lst
  have hs : sizeLine = 2 ^ 24 := rfl
  have hm : mxL = 100000 := rfl
  refine wpAny_list_append_plain (hsz := by rw [e]; exact hl') ⟨n, g⟩ fun h' ⟨n', e'⟩ hs' => ?_
  exact k { W.s with heap := h' } hs'.2 (.L _ n' _ e' (by rw [Array.toList_push]; exact r.snoc hw) (by rw [List.length_append]; show l.length + 1 ≤ _; lia)) rfl rfl
theorem ext_core {a : Addr} (hc : W.H a = some (.L l)) (hl : l.length + m.length ≤ mxL) (hw : SqH W listO m w)
    (k : ∀ s', (∀ b, b ≠ a → s'.heap.get? b = W.s.heap.get? b) → CellR cx W.G W.μ s'.heap a (.L (l ++ m)) → s'.gens = W.s.gens → s'.os = W.s.os → Qm .none s') : wpAny (MD cx) A (call (.builtin "list.extend") [.ref a, w]) Qm NoE W.s := by
  obtain ⟨zs, n, g, r, e, hl'⟩ := (W.own hc).lst
  obtain ⟨b, us, n2, rfl, g2, r2, e2, _⟩ := hw.size
  have hs : sizeLine = 2 ^ 24 := rfl
  have hm : mxL = 100000 := rfl
  obtain ⟨n', e'⟩ := upd_list g (fun x => x ++ us)
  refine call_meets PySem.F.slot_list_extend ⟨_, g, rfl⟩ PySem.F.entry_list_extend (PySem.F.args_list_extend_2 _ _) (AutoSeq1.list_extend_list_list_0 a zs n b us n2 ?_ (by lia) (by lia)) ⟨g, g2, ?_⟩
  · unfold Builtin.List.listTooLong
    simp; intro _; lia
  · exact k { W.s with heap := W.s.heap.update a (Obj.mapSeq fun x => x ++ us), toks := W.s.toks } (Heap.SameBut.update ..).2 (.L _ n' _ e' (by rw [Array.toList_append]; exact r.append r2) (by rw [List.length_append]; lia)) rfl rfl
end
end

end
section
noncomputable section
section
variable {cx : Cx} {A : Around} {d : Nat} {P : Addr → Prop} {B W W' : Wd cx} {u v z : U} {x y w : Value} {l m xs : List U} {sc : Scope} {env : Env} {os : Os} {ow ow' : Nat → Option Addr}
variable {Q : U → St → Prop} {Qm : Value → Shared → Prop} {Qu : Unit → Shared → Prop} {Pt Nt : St → Prop} {Qb : Bool → Shared → Prop} {E : Value → Shared → Prop}
inductive Ite (W : Wd cx) (I : Addr) (u : U) (xs : List U) (i : Nat) : Prop
  | l (a : Addr) (it : W.s.heap.IsListIter I a i) (v : VR W u (.ref a)) (e : lsU W.σ u = some xs)
  | t (a : Addr) (it : W.s.heap.IsTupleIter I a i) (v : VR W u (.ref a)) (e : u = .tu xs)
  | d (a : Addr) (es : Array DictEntry) (ep : Nat) (it : W.s.heap.IsKeyIter I a i W.σ.held.length ep) (v : VR W u (.ref a)) (e : u = .lo .held) (ex : xs = W.σ.held.map .i) (hd : W.σ.hob.data = .dict es ep)
  | r (a b c : Int) (n : Nat) (eu : u = .rg a b c) (e : xs = (List.range n).map fun (k : Nat) => U.i (a + (k : Int) * c)) (hi : i ≤ n) (it : IsRangeIter W.s.heap I (a + (i : Int) * c) ((n : Int) - i) c)
inductive SrcI (σ : St) (u : U) (Q : List U → (St → Prop) → Prop) : Prop
  | l (xs : List U) (e : lsU σ u = some xs) (q : Q xs fun σ' => lsU σ' u = some xs)
  | t (xs : List U) (e : u = .tu xs) (q : Q xs fun _ => True)
  | d (e : u = .lo .held) (q : Q (σ.held.map .i) fun σ' => σ'.held = σ.held ∧ σ'.hob = σ.hob)
  | r (a b c : Int) (e : u = .rg a b c) (s : Builtin.Range.small a b c = true) (hl : (rngL a b c).length ≤ mxL) (q : Q ((rngL a b c).map .i) fun _ => True)
theorem SrcI.o {σ : St} {Q : List U → (St → Prop) → Prop} (h : oQ (fun l => Q l fun σ' => lsU σ' u = some l) (lsU σ u)) : SrcI σ u Q := by
  obtain ⟨l, e, q⟩ := oQ.inv h; exact .l l e q
theorem srcU.inv {σ : St} {Q : List U → (St → Prop) → Prop} (h : srcU σ Q u) : SrcI σ u Q := by
  cases u with
  | tu l => exact .t l rfl h
  | rg a b c => exact .r a b c rfl h.1.1 h.1.2 h.2
  | lo k => cases k with
    | held => exact .d rfl h
    | _ => exact SrcI.o h
  | _ => exact SrcI.o h
noncomputable def Stay (u : U) (xs : List U) (σ σ' : St) : Prop := (lsU σ u = some xs → lsU σ' u = some xs) ∧ (u = .lo .held → σ'.held = σ.held ∧ σ'.hob = σ.hob)
theorem Stay.tr {I : Addr} {i : Nat} {σ1 σ2 : St} (x : Ite W I u xs i) (h1 : Stay u xs W.σ σ1) (h2 : Stay u xs W.σ σ2) : Stay u xs σ1 σ2 := by
  refine ⟨?_, fun h => ⟨(h2.2 h).1.trans (h1.2 h).1.symm, (h2.2 h).2.trans (h1.2 h).2.symm⟩⟩
  cases x with
  | l a it v e => exact fun _ => h2.1 e
  | t a it v e => subst e; exact nos
  | d a es ep it v e ex hd => subst e; exact nos
  | r a b c n eu e hi it => subst eu; exact nos
theorem Stay.rfl {σ : St} : Stay u xs σ σ := ⟨id, fun _ => ⟨Eq.refl _, Eq.refl _⟩⟩
theorem Ite.stepW {I : Addr} {i : Nat} (x : Ite W I u xs i) (hv : ∀ a, VR W u (.ref a) → VR W' u (.ref a)) (hI : ∀ o, W.s.heap.get? I = some o → W'.s.heap.get? I = some o) (st : Stay u xs W.σ W'.σ) : Ite W' I u xs i := by
  cases x with
  | l a it v e => obtain ⟨o, e1, r⟩ := it; exact .l a ⟨o, hI o e1, r⟩ (hv _ v) (st.1 e)
  | t a it v e => obtain ⟨o, e1, r⟩ := it; exact .t a ⟨o, hI o e1, r⟩ (hv _ v) e
  | d a es ep it v e ex hd =>
    obtain ⟨h1, h2⟩ := st.2 e
    obtain ⟨o, e1, r⟩ := it
    exact .d a es ep (by rw [h1]; exact ⟨o, hI o e1, r⟩) (hv _ v) e (by rw [h1]; exact ex) (by rw [h2]; exact hd)
  | r a b c n eu e hi it => exact .r a b c n eu e hi (hI _ it)
theorem Ite.step {I : Addr} {i : Nat} (x : Ite W I u xs i) (le : Le P W W') (hI : ∀ o, W.s.heap.get? I = some o → W'.s.heap.get? I = some o) (st : Stay u xs W.σ W'.σ) : Ite W' I u xs i := x.stepW (fun _ v => le.vr v) hI st
inductive HeldO (W : Wd cx) (a : Addr) : Prop
  | mk (ws : List Value) (es : Array DictEntry) (ep : Nat) (ns : (a == sysModules) = false) (hl : W.σ.held.length ≤ sizeLine) (hk : (W.σ.held.zip ws).length = W.σ.held.length) (hd : W.σ.hob.data = .dict es ep) (D : W.s.heap.DictAt (IK cx) a (W.σ.held.zip ws) ep) : HeldO W a
theorem CellR.d0 {h : Heap} {G : GM} {μ : LM} {a : Addr} {o : Obj} {ks : List Int} (x : CellR cx G μ h a (.D o ks l)) : h.get? a = some o ∧ DcO cx o ks l.length (PRs cx G μ l) := by
  cases x with | D o ks us g dd => exact ⟨g, dd⟩
theorem heldO {a : Addr} (v : VR W (.lo .held) (.ref a)) : HeldO W a := by
  obtain ⟨b, c, e, m, hH, (ok : c = _)⟩ := v.lo
  cases e
  subst ok
  obtain ⟨g, ws, hk, ⟨es, ep, q1, q2, q3⟩, r, hl⟩ := (W.own hH).d0
  exact .mk ws es ep (W.notSys hH) (List.length_map (as := W.σ.held) _ ▸ hl) (by rw [List.length_zip, hk, Nat.min_self]) q2 ⟨_, es, g, q1, q2, q3⟩
theorem HeldO.go {a : Addr} {es : Array DictEntry} {ep : Nat} (v : HeldO W a) (hd : W.σ.hob.data = .dict es ep) : ∃ ws, (W.σ.held.zip ws).length = W.σ.held.length ∧ W.s.heap.DictAt (IK cx) a (W.σ.held.zip ws) ep := by
  obtain ⟨ws, es', ep', _, _, hk, hd', D⟩ := v
  cases hd.symm.trans hd'
  exact ⟨ws, hk, D⟩
theorem rng0 (a b c : Int) : (0 : Int) ≤ Builtin.Range.rangeSize a b c := by
  unfold Builtin.Range.rangeSize
  have k : ∀ {p : Prop} [Decidable p] {x y : Int}, (p → 0 ≤ x) → 0 ≤ y → 0 ≤ y + 1 → (0 : Int) ≤ if p then x / y + 1 else 0 := fun {p} _ {x y} h h' _ => by
    split
    · exact Int.add_nonneg (Int.ediv_nonneg (h ‹_›) h') (by decide)
    · exact Int.le_refl _
  split
  · exact k (fun h => by lia) (by lia) (by lia)
  · exact k (fun h => by lia) (by lia) (by lia)
theorem iter_ok (hu : VR W u x) {R : List U → (St → Prop) → Prop} (h : SrcI W.σ u R) (kk : ∀ o xs stay, o.isFreed = false → R xs stay → (∀ σ', stay σ' → Stay u xs W.σ σ') → xs.length ≤ sizeLine → Ite (W.push o) W.s.heap.objs.size u xs 0 → Qm (.ref W.s.heap.objs.size) (W.push o).s) : wpAny (MD cx) A (pyIter x) Qm NoE W.s := by
  have pu : ∀ {o : Obj}, o.isFreed = false → (W.push o).s.heap.get? W.s.heap.objs.size = some o := fun hf => Heap.get?_push_size _ hf
  cases h with
  | l xs e q =>
    obtain ⟨a, ws, n, rfl, g, r, _, hl⟩ := (lsU.go hu e).size
    exact wpAny_pyIter_list ⟨_, g, rfl, n, rfl⟩ (kk { cls := .type "list_iterator", data := .fields #[.ref a, .int 0 0] } xs _ rfl q (fun σ' s => ⟨fun _ => s, fun r => by subst r; exact nos e⟩) hl (.l a ⟨_, pu rfl, rfl, rfl⟩ (Le.push.vr hu (P := PF)) e))
  | t xs e q =>
    subst e
    obtain ⟨a, ws, n, rfl, g, r, _, hl⟩ := hu.tu.size
    exact wpAny_pyIter_tuple ⟨_, g, rfl, n, rfl⟩ (kk { cls := .type "tuple_iterator", data := .fields #[.ref a, .int 0 0] } xs _ rfl q (fun σ' s => ⟨fun r => nos r, nofun⟩) hl (.t a ⟨_, pu rfl, rfl, rfl⟩ (Le.push.vr hu (P := PF)) rfl))
  | d e q =>
    subst e
    obtain ⟨a, c, rfl, _⟩ := hu.lo
    obtain ⟨ws, es, ep, ns, hl, hk, hd, D⟩ := heldO hu
    refine wpAny_pyIter_dict (knd := IK cx) (kvs := W.σ.held.zip ws) (ep := ep) ns D ?_
    rw [hk]
    exact kk { cls := .type "dict_keyiterator", data := .fields #[.ref a, .int 0 0, .int W.σ.held.length 0, .int ep 0] } _ _ rfl q (fun σ' s => ⟨fun r => nos r, fun _ => s⟩) (by rw [List.length_map]; exact hl) (.d a es ep ⟨_, pu rfl, rfl, rfl⟩ (Le.push.vr hu (P := PF)) rfl rfl hd)
  | r a b c e s hl q =>
    subst e
    obtain ⟨r, t, u', z, g⟩ := (show RgR _ _ _ _ x from hu)
    refine wpAny_pyIter_range (W.R.gk _ _ g) s ?_
    have hr := rng0 a b c
    refine kk { cls := .type "range_iterator", data := .fields #[rawInt a, rawInt (Builtin.Range.rangeSize a b c), rawInt c] } _ _ rfl q (fun σ' s => ⟨fun r => nos r, nofun⟩) (by rw [List.length_map]; exact Nat.le_trans hl (by decide)) (.r a b c (Builtin.Range.rangeSize a b c).toNat rfl ?_ (Nat.zero_le _) ?_)
    · unfold rngL; rw [List.map_map]; rfl
    · have : IsRangeIter (W.push { cls := .type "range_iterator", data := .fields #[rawInt a, rawInt (Builtin.Range.rangeSize a b c), rawInt c] }).s.heap W.s.heap.objs.size a (Builtin.Range.rangeSize a b c) c := pu rfl
      rw [Int.toNat_of_nonneg hr]
      simpa using this
noncomputable def Wd.itr (W : Wd cx) {I : Addr} {o : Obj} (p : Priv W I o) (s' : Shared) (k : ∀ b o, b ≠ I → W.s.heap.get? b = some o → s'.heap.get? b = some o) : Wd cx :=
  W.to s' fun b o hb => k b o fun q => by subst q; exact hb.elim (fun h => h p.n0) fun h => h.elim (fun h => h p.ng) p.ow
theorem Le.itr {I : Addr} {o : Obj} {p : Priv W I o} {s' : Shared} {k : ∀ b o, b ≠ I → W.s.heap.get? b = some o → s'.heap.get? b = some o} (hg : s'.gens = W.s.gens) (ho : s'.os = W.s.os) : Le (fun b => b = I) W (W.itr p s' k) := Le.to k _ hg ho
theorem next_item {I : Addr} {i : Nat} {o : Obj} {Qm : Option Value → Shared → Prop} (it : Ite W I u xs i) (p : Priv W I o) (hx : xs[i]? = some z)
    (kk : ∀ w W', Le (fun b => b = I) W W' → W'.σ = W.σ → (∃ o, Priv W' I o) → Ite W' I u xs (i + 1) → W'.pr z w → Qm (some w) W'.s) : wpAny (MD cx) A (pyNext (.ref I)) Qm NoE W.s := by
  have fin : ∀ h' n w (_ : ∀ b o, b ≠ I → W.s.heap.get? b = some o → h'.get? b = some o) (o' : Obj) (_ : h'.get? I = some o') (hw : W.pr z w)
      (_ : ∀ W' : Wd cx, W'.s.heap = h' → W'.σ = W.σ → Le (fun b => b = I) W W' → Ite W' I u xs (i + 1)), Qm (some w) { W.s with heap := h', toks := n } := fun h' n w k o' e hw hi =>
    have le : Le (fun b => b = I) W (W.itr p { W.s with heap := h', toks := n } k) := Le.itr rfl rfl
    kk w _ le rfl ⟨o', e, p.ow, p.ng, p.n0⟩ (hi _ rfl rfl le) (le.pr hw)
  cases it with
  | l a it v e =>
    obtain ⟨b, ws, n, e0, g, r, _, hl⟩ := (lsU.go v e).size
    cases e0
    obtain ⟨w, e1, r1⟩ := r.get hx
    exact wpAny_pyNext_list_item it ⟨_, g, rfl, n, rfl⟩ (x := w) (Array.getElem?_toList ▸ e1) fun h' q hs => let ⟨o', e2, _⟩ := id q; fin h' _ w (fun b o nb e => (hs.2 b nb).trans e) o' e2 r1 fun W' e3 e4 le => .l a (e3 ▸ q) (le.vr v) (by rw [e4]; exact e)
  | t a it v e =>
    subst e
    obtain ⟨b, ws, n, e0, g, r, _, hl⟩ := v.tu.size
    cases e0
    obtain ⟨w, e1, r1⟩ := r.get hx
    exact wpAny_pyNext_tuple_item it ⟨_, g, rfl, n, rfl⟩ (x := w) (Array.getElem?_toList ▸ e1) fun h' q hs => let ⟨o', e2, _⟩ := id q; fin h' _ w (fun b o nb e => (hs.2 b nb).trans e) o' e2 r1 fun W' e3 e4 le => .t a (e3 ▸ q) (le.vr v) rfl
  | d a es ep it v e ex hd =>
    subst e ex
    obtain ⟨ws, hl, dd⟩ := (heldO v).go hd
    obtain ⟨x, e1, rfl⟩ : ∃ x, W.σ.held[i]? = some x ∧ U.i x = z := by rw [List.getElem?_map] at hx; exact Option.map_eq_some_iff.mp hx
    have hw : i < ws.length := Nat.lt_of_lt_of_le (hl ▸ (List.getElem?_eq_some_iff.mp e1).1) (List.length_zip ▸ Nat.min_le_right ..)
    refine wpAny_pyNext_dict_item (knd := IK cx) (kvs := W.σ.held.zip ws) (ep := ep) (by rw [hl]; exact it) dd (List.getElem?_zip_eq_some.mpr ⟨e1, List.getElem?_eq_getElem hw⟩) fun key h' hk q hs => let ⟨o', e2, _⟩ := id q; fin h' _ key (fun b o nb e => (hs.2 b nb).trans e) o' e2 ?_ fun W' e3 e4 le => .d a es ep ?_ (le.vr v) rfl (by rw [e4]) (by rw [e4]; exact hd)
    · obtain ⟨t, rfl⟩ := Value.isInt_shape hk
      exact .mk t
    · rw [e3, e4]; rw [hl] at q; exact q
  | r a b c n eu e hi it =>
    subst e
    have hi : i < n := by have := (List.getElem?_eq_some_iff.mp hx).1; rwa [List.length_map, List.length_range] at this
    rw [List.getElem?_map, List.getElem?_range hi] at hx
    refine wpAny_pyNext_range_item it (by lia) fun h' q hs => fin h' _ _ (fun b o nb e => (hs.2 b nb).trans e) _ q (Option.some.inj hx ▸ (show IntR _ _ from .mk _)) fun W' e3 e4 le => .r a b c n eu rfl hi ?_
    have e1 : a + (i : Int) * c + c = a + ((i + 1 : Nat) : Int) * c := by rw [Int.natCast_add, Int.add_mul, Int.add_assoc]; congr 1; congr 1; exact (Int.one_mul c).symm
    rw [e3, ← e1, show (n : Int) - ((i + 1 : Nat) : Int) = (n : Int) - i - 1 by lia]
    exact q
theorem next_end {I : Addr} {i : Nat} {o : Obj} {Qm : Option Value → Shared → Prop} (hh : A.handled = none) (it : Ite W I u xs i) (p : Priv W I o) (hx : xs[i]? = none)
    (kk : ∀ W', Le (fun b => b = I) W W' → W'.σ = W.σ → Qm none W'.s) : wpAny (MD cx) A (pyNext (.ref I)) Qm NoE W.s := by
  have fin : ∀ h', Heap.ExtBut I W.s.heap h' → Qm none { W.s with heap := h' } := fun h' k => kk (W.itr p { W.s with heap := h' } k) (Le.itr rfl rfl) rfl
  have no : ∀ {ws : Array Value}, ws.size = xs.length → ws[i]? = none := fun e => Array.getElem?_eq_none (e ▸ List.getElem?_eq_none_iff.mp hx)
  cases it with
  | l a it v e =>
    obtain ⟨b, ws, n, e0, g, r, e1, hl⟩ := (lsU.go v e).size
    cases e0
    exact wpAny_pyNext_list_end hh it ⟨_, g, rfl, n, rfl⟩ (no e1) fin
  | t a it v e =>
    subst e
    obtain ⟨b, ws, n, e0, g, r, e1, hl⟩ := v.tu.size
    cases e0
    exact wpAny_pyNext_tuple_end hh it ⟨_, g, rfl, n, rfl⟩ (no e1) fin
  | d a es ep it v e ex hd =>
    subst e ex
    obtain ⟨ws, hl, dd⟩ := (heldO v).go hd
    exact wpAny_pyNext_dict_end (knd := IK cx) (kvs := W.σ.held.zip ws) (ep := ep) hh (by rw [hl]; exact it) dd (List.getElem?_eq_none (by rw [hl]; have := List.getElem?_eq_none_iff.mp hx; rwa [List.length_map] at this)) fin
  | r a b c n eu e hi it =>
    subst e
    have := List.getElem?_eq_none_iff.mp hx
    rw [List.length_map, List.length_range] at this
    exact wpAny_pyNext_range_end hh it (by lia) fin
end
end

end
section
noncomputable section
section
theorem adjust_upto (k n : Nat) : Builtin.Slice.sliceAdjust none (some (k : Int)) 1 (n : Int) = (0, ((min k n : Nat) : Int)) := by
  unfold Builtin.Slice.sliceAdjust
  have h1 : ¬ ((1 : Int) < 0) := by lia
  have h2 : ¬ ((k : Int) < 0) := by lia
  simp only [h1, h2, if_false]
  congr 1
  lia
theorem places_upto (m : Nat) : Builtin.Slice.slicePlaces 0 (m : Int) 1 = m := by
  unfold Builtin.Slice.slicePlaces
  have h1 : (1 : Int) > 0 := by lia
  simp only [h1, if_true, Int.ediv_one]
  split <;> lia
theorem sliceApplied_upto {prog : Program} {w : World} {A : Around} {E : Value → Shared → Prop} {s : Shared} {sl : Addr} {k n : Nat} {u : Tok} {Q : Int × Int × Nat → Shared → Prop} (hs : s.heap.IsSliceOf sl .none (.int k u) .none) (h : Q (0, 1, min k n) s) :
    wpAny (model prog w) A (Builtin.Slice.sliceApplied (.ref sl) (pure (n : Int))) Q E s := by
  obtain ⟨os, hos, hcs, hds⟩ := id hs
  unfold Builtin.Slice.sliceApplied Builtin.Slice.sliceFields
  refine wpAny_bind (wpAny_bind (wpAny_field hos hds (x := .none) rfl (wpAny_bind (wpAny_field hos hds (x := .int k u) rfl (wpAny_bind (wpAny_field hos hds (x := .none) rfl (wpAny_pure ?_)))))))
  refine wpAny_bind (slicePart_none ?_)
  show wpAny _ _ (if ((1 : Int) == 0) = true then _ else _) _ _ s
  rw [if_neg (by decide)]
  refine wpAny_bind (slicePart_none (wpAny_bind (slicePart_int (wpAny_bind (wpAny_pure ?_)))))
  show wpAny _ _ (match Builtin.Slice.sliceAdjust none (some (k : Int)) 1 (n : Int) with | (lo, hi) => pure (lo, (1 : Int), Builtin.Slice.slicePlaces lo hi 1)) _ _ s
  rw [adjust_upto k n]
  show wpAny _ _ (pure ((0 : Int), (1 : Int), Builtin.Slice.slicePlaces 0 ((min k n : Nat) : Int) 1)) _ _ s
  rw [places_upto]
  exact wpAny_pure h
theorem pick_upto (xs : Array Value) (m : Nat) (hm : m ≤ xs.size) : ((List.range m).filterMap fun (k : Nat) => xs[((0 : Int) + (k : Int) * 1).toNat]?).toArray = (xs.toList.take m).toArray := by
  have e : (fun (k : Nat) => xs[((0 : Int) + (k : Int) * 1).toNat]?) = fun k => xs[k]? := by
    funext k
    have : ((0 : Int) + (k : Int) * 1).toNat = k := by lia
    rw [this]
  rw [e]
  congr 1
  induction m with
  | zero => simp
  | succ m ih =>
    rw [List.range_succ, List.filterMap_append, ih (by lia), List.take_add_one]
    congr 1
    have : m < xs.size := by lia
    simp [this]
theorem getItem_tuple_upto {prog : Program} {w : World} {A : Around} {E : Value → Shared → Prop} {s : Shared} {t sl : Addr} {items : Array Value} {k : Nat} {u : Tok} {Q : Value → Shared → Prop} (ht : s.heap.IsTuple t items) (hs : s.heap.IsSliceOf sl .none (.int k u) .none)
    (h1 : items.size ≤ k → Q (.ref t) s) (h2 : k < items.size → Q (.ref s.heap.objs.size) { s with heap := s.heap.push { cls := .type "tuple", data := .seq (items.toList.take k).toArray } })
    (hsz : items.size ≤ sizeLine) : wpAny (model prog w) A (getItem (.ref t) (.ref sl)) Q E s := by
  have hdrop : sizeOk (.seq (items.toList.take k).toArray) := by
    show (items.toList.take k).toArray.size ≤ sizeLine
    rw [List.size_toArray, List.length_take, Array.length_toList]
    lia
  obtain ⟨os, hos, hcs, hds⟩ := id hs
  have hTs : s.TypeIs (.ref sl) "slice" := ⟨os, hos, hcs⟩
  unfold getItem
  try with_reducible refine wpAny_holding ?_
  first | refine wpAny_bind (wpAny_pure ?_) | skip
  refine wpAny_bind (wpAny_sequenceKey ht.typeIs (by decide) ?_)
  refine wpAny_bind (wpAny_callSpecial?_slot (name := Str.ofString "__getitem__") ht.typeIs slot_tuple_getitem
    (wpAny_call_entry slot_tuple_getitem ht.typeIs entry_tuple_getitem ?_ (args_tuple_getitem _ _)))
  show wpAny _ _ (Builtin.Tuple.tupleItemsOf (.ref t) >>= _) _ _ s
  refine wpAny_bind (tupleItemsOf_ ht ?_)
  refine wpAny_bind (wpAny_typeOf hTs ?_)
  rw [if_pos (by decide)]
  refine wpAny_bind (sliceApplied_upto hs ?_)
  show wpAny _ _ (if ((0 : Int) == 0 && (1 : Int) == 1 && (min k items.size) == items.size) = true then _ else _) _ _ s
  by_cases hw : items.size ≤ k
  · rw [if_pos (by simp [Nat.min_eq_right hw])]
    unfold Builtin.Tuple.tupleIsExact
    refine wpAny_bind (wpAny_bind (wpAny_typeOf ht.typeIs (wpAny_pure ?_)))
    rw [if_pos (by decide)]
    refine wpAny_bind (wpAny_rule (wpAny_bind (wpAny_pure ?_)))
    exact wpAny_pure ⟨_, rfl, wpAny_pure (h1 hw)⟩
  · have hlt : k < items.size := by lia
    rw [if_neg (by simp [Nat.min_eq_left (Nat.le_of_lt hlt)]; lia), Nat.min_eq_left (Nat.le_of_lt hlt), pick_upto items k (Nat.le_of_lt hlt)]
    have h := h2 hlt
    first
      | exact wpAny_bind (m := Builtin.Tuple.tupleExact _) (wpAny_newObj_type (wpAny_pure ⟨_, rfl, wpAny_pure h⟩) hdrop)
      | exact wpAny_bind (m := Builtin.Tuple.tupleExact _) (wpAny_newObj_type (wpAny_bind (wpAny_pure (wpAny_pure ⟨_, rfl, wpAny_pure h⟩))) hdrop)
      | exact wpAny_bind (wpAny_bind (m := Builtin.Tuple.tupleExact _) (wpAny_newObj_type (wpAny_pure (wpAny_pure ⟨_, rfl, wpAny_pure h⟩)) hdrop))
      | exact wpAny_bind (wpAny_bind (m := Builtin.Tuple.tupleExact _) (wpAny_newObj_type (wpAny_pure ⟨_, rfl, wpAny_pure h⟩) hdrop))
variable {cx : Cx} {A : Around} {d : Nat} {P : Addr → Prop} {B W W' : Wd cx} {u v z u2 u3 : U} {x y w : Value} {l m xs : List U} {sc : Scope} {env : Env} {os : Os} {ow ow' : Nat → Option Addr}
variable {Q : U → St → Prop} {Qm : Value → Shared → Prop} {Qu : Unit → Shared → Prop} {Pt Nt : St → Prop} {Qb : Bool → Shared → Prop} {E : Value → Shared → Prop}
theorem loC.go {n c : Nat} (hu : VR W u x) (e : loC n u = some c) : ∃ lo : Option Int, IsPart x lo ∧ lo.elim 0 (clipAt n) = c := by
  cases u with
  | no => exact ⟨none, (show x = .none from hu) ▸ .none, Option.some.inj e⟩
  | i a => exact IntR.rec (fun t => ⟨some a, .int a t, Option.some.inj e⟩) (show IntR a x from hu)
  | _ => exact nos e
theorem hiC.go {n c : Nat} (hu : VR W u x) (e : hiC n u = some c) : ∃ hi : Option Int, IsPart x hi ∧ hi.elim n (clipAt n) = c := by
  cases u with
  | no => exact ⟨none, (show x = .none from hu) ▸ .none, Option.some.inj e⟩
  | i a => exact IntR.rec (fun t => ⟨some a, .int a t, Option.some.inj e⟩) (show IntR a x from hu)
  | _ => exact nos e
inductive LoHi (p q : Option Nat) (R : Nat → Nat → Prop) : Prop
  | mk (a b : Nat) (e1 : p = some a) (e2 : q = some b) (h : R a b)
theorem LoHi.of {p q : Option Nat} {R : Nat → Nat → Prop} (h : match p, q with | some a, some b => R a b | _, _ => False) : LoHi p q R := by
  cases p with
  | none => exact h.elim
  | some a => cases q with
    | none => exact h.elim
    | some b => exact .mk a b rfl rfl h
inductive CutI (Q : List U → Prop) (l : List U) : U → U → Prop
  | fr (k : Nat) (h1 : 1 ≤ k) (h2 : k ≤ l.length) (q : Q (l.drop k)) : CutI Q l (.i k) .no
  | up (k : Nat) (q : Q (l.take k)) : CutI Q l .no (.i k)
theorem cutT.inv {R : List U → Prop} (h : cutT R l u v) : CutI R l u v := by
  cases u with
  | i a => cases v with
    | no => obtain ⟨k, rfl, h1, h2, q⟩ := h; exact .fr k h1 h2 q
    | _ => exact h.elim
  | no => cases v with
    | i b => obtain ⟨k, rfl, q⟩ := h; exact .up k q
    | _ => exact h.elim
  | _ => exact h.elim
theorem cut_ok {y1 y2 : Value} {sl : Addr} (hu : VR W u x) (h1 : VR W u2 y1) (h2 : VR W u3 y2) (hs : W.s.heap.IsSliceOf sl y1 y2 .none) (h : cutU W.σ u u2 u3 fun z => Q z W.σ) (k : KV W Q Qm) : GI W x ∧ wpAny (MD cx) A (getItem x (.ref sl)) Qm NoE W.s := by
  cases LtI.of h with
  | l l e q =>
    obtain ⟨b, ws, n, rfl, g, r, e1, hl⟩ := (lsU.go hu e).size
    obtain ⟨a, b, e2, e3, q⟩ := LoHi.of q
    obtain ⟨lo, p1, c1⟩ := loC.go h1 e2
    obtain ⟨hi, p2, c2⟩ := hiC.go h2 e3
    refine ⟨⟨_, _, ⟨_, g, rfl⟩, slot_list_getitem.lookup⟩, wpAny_getItem_list_slice ⟨_, g, rfl, n, rfl⟩ hs p1 p2 .none (by simp) ?_ (e1 ▸ hl)⟩
    rw [slicePick_plain, e1, c1, c2]
    exact new_fl (l := cutL l a b) ((r.drop a).take _) (Nat.le_trans (Nat.le_trans (List.length_take_le' ..) (List.length_drop ▸ Nat.sub_le ..)) hl) k q
  | t l e q =>
    cases tuU.eq e
    obtain ⟨b, ws, n, rfl, g, r, e1, hl⟩ := hu.tu.size
    have ht : W.s.heap.IsTuple b ws := ⟨_, g, rfl, n, rfl⟩
    refine ⟨⟨_, _, ht.typeIs, slot_tuple_getitem.lookup⟩, ?_⟩
    cases cutT.inv q with
    | fr i h3 h4 q' =>
      cases (show y2 = .none from h2)
      exact IntR.rec (motive := fun z _ => z = y1 → _) (fun t e => by
        subst e
        exact getItem_tuple_from ht hs h3 (e1 ▸ h4) (new_tu (r.drop i) (Nat.le_trans (List.length_drop ▸ Nat.sub_le ..) hl) k q') (e1 ▸ hl)) (show IntR _ y1 from h1) rfl
    | up i q' =>
      cases (show y1 = .none from h1)
      exact IntR.rec (motive := fun z _ => z = y2 → _) (fun t e => by
        subst e
        exact getItem_tuple_upto ht hs (fun h => k _ _ W Le.refl hu (List.take_of_length_le (e1 ▸ h) ▸ q')) (fun _ => new_tu (r.take i) (Nat.le_trans (List.length_take ▸ Nat.min_le_right ..) hl) k q') (e1 ▸ hl)) (show IntR _ y2 from h2) rfl
end
end

end
section
noncomputable section
section
variable {cx : Cx} {A : Around} {d : Nat} {P : Addr → Prop} {B W W' : Wd cx} {u v z u2 u3 : U} {x y w : Value} {l m xs : List U} {sc : Scope} {env : Env} {os : Os} {ow ow' : Nat → Option Addr}
variable {Q : U → St → Prop} {Qm : Value → Shared → Prop} {Qu : Unit → Shared → Prop} {Pt Nt : St → Prop} {Qb : Bool → Shared → Prop} {E : Value → Shared → Prop} {R : St → Prop}
noncomputable abbrev KU (W : Wd cx) (R : St → Prop) (Qu : Unit → Shared → Prop) : Prop := ∀ W', Le PF W W' → R W'.σ → Qu () W'.s
theorem loQ.inv {R : Loc → Prop} (h : loQ R u) : ∃ l, u = .lo l ∧ R l := by
  cases u with
  | lo l => exact ⟨l, rfl, h⟩
  | _ => exact False.elim h
theorem Oth.pot {σ : St} {x y : Int} : Oth σ { σ with ps := x, pp := y } .pot := ⟨fun k c h o => by cases k <;> first | exact o | exact absurd rfl h, fun k b => by cases k <;> exact b⟩
theorem Oth.cel {σ : St} {l : List Int} : Oth σ { σ with cells := l } .cel := ⟨fun k c h o => by cases k <;> first | exact o | exact absurd rfl h, fun k b => by cases k <;> exact b⟩
theorem Oth.held {σ : St} {l : List Int} {o : Obj} : Oth σ { σ with held := l, hob := o } .held := ⟨fun k c h o => by cases k <;> first | exact o | exact absurd rfl h, fun k b => by cases k <;> exact b⟩
theorem Oth.row {σ : St} {l : List Nat} : Oth σ { σ with row := l } .row := ⟨fun k c h o => by cases k <;> first | exact o | exact absurd rfl h, fun k b => by cases k <;> exact b⟩
theorem zwt (c : Int) : ∀ ks : List Int, List.zipWith (fun j u => if j = c then U.b true else u) ks (ks.map fun _ => .b true) = ks.map fun _ => .b true
  | [] => rfl
  | k :: ks => by rw [List.map_cons, List.zipWith_cons_cons, zwt c ks, ite_self]
theorem setN {k : Loc} {c : Int} {t : Tok} {σ' : St} (hv : VR W (.lo k) y) (f : ∀ c, LocOk W.σ k c → c = .L l) (h0 : 0 ≤ c) (hk : c < l.length) (hw : W.pr u w) (lo : LocOk σ' k (.L (l.set c.toNat u))) (o : Oth W.σ σ' k) (q : R σ') (kk : KU W R Qu) :
    wpAny (MD cx) A (setItem y (.int c t) w) Qu NoE W.s := by
  obtain ⟨a, c1, rfl, m, hc, rfl⟩ := hv.cell (p := fun c => c = .L l) f
  exact setL_core hc h0 hk hw fun s' sb cr hg ho => kk (W.updM s' (.L (l.set c.toNat u)) σ' hc rfl m lo o (kpL sb) cr) (Le.updM hg ho) q
theorem seti_ok (hv : VR W v y) (hw : VR W u w) (hz : VR W z x) (h : setiU W.σ R v u z) (kk : KU W R Qu) : wpAny (MD cx) A (setItem y x w) Qu NoE W.s := by
  obtain ⟨a, h⟩ := onI.inv h
  obtain ⟨k, rfl, h⟩ := loQ.inv h
  refine IntR.rec (motive := fun x _ => wpAny (MD cx) A (setItem y x w) Qu NoE W.s) (fun t => ?_) (show IntR a x from hz)
  cases k with
  | stp i =>
    obtain ⟨b, rfl, q⟩ := onI.inv (f := fun _ => a = 0 ∧ R W.σ) h
    obtain ⟨a, c1, rfl, m, hc, i0, rfl⟩ := hv.cell (p := fun c => ∃ i, c = .L [.i i]) fun _ e => e
    exact setL_core hc (by decide) (by show (0 : Int) < 1; decide) (hw.pr rfl) fun s' sb cr hg ho => kk (W.updM s' (.L [.i b]) W.σ hc rfl m ⟨b, rfl⟩ .refl (kpL sb) cr) (Le.updM hg ho) q
  | pot =>
    obtain ⟨b, h2⟩ := onI.inv (f := fun x => ifB (decide (a = 1)) (R { W.σ with ps := x }) (a = 2 ∧ R { W.σ with pp := x })) h
    have k1 := fun c h0 hk σ' lo o q => setN (A := A) (σ' := σ') (c := c) (t := t) hv (fun _ e => e) h0 hk (hw.pr rfl) lo o q kk
    by_cases e : a = 1
    · subst e; exact k1 1 (by decide) (by show (1 : Int) < 3; decide) { W.σ with ps := b } rfl Oth.pot h2
    · rw [decide_eq_false e] at h2; obtain ⟨rfl, h2⟩ := h2; exact k1 2 (by decide) (by show (2 : Int) < 3; decide) { W.σ with pp := b } rfl Oth.pot h2
  | cel =>
    obtain ⟨b, ⟨h0, h1⟩, q⟩ := onI.inv (f := fun x => (0 ≤ a ∧ a < W.σ.cells.length) ∧ R { W.σ with cells := W.σ.cells.set a.toNat x }) h
    exact setN (A := A) (σ' := { W.σ with cells := W.σ.cells.set a.toNat b }) hv (fun _ e => e) h0 (by rw [List.length_map]; exact h1) (hw.pr rfl) (show Cell.L _ = .L _ by rw [List.map_set]) Oth.cel q kk
  | held =>
    cases u with
    | b c => cases c with
      | true =>
        obtain ⟨b, c1, rfl, m, hc, rfl⟩ := hv.cell (p := fun c => c = .D W.σ.hob W.σ.held (W.σ.held.map fun _ => .b true)) fun _ e => e
        refine setD_core hc h.1 (hw.pr rfl) fun s' o' sb cr hg ho => kk (W.updM s' (.D o' (dPut a (U.b true) W.σ.held (W.σ.held.map fun _ => U.b true)).1 (dPut a (U.b true) W.σ.held (W.σ.held.map fun _ => U.b true)).2) { W.σ with held := if a ∈ W.σ.held then W.σ.held else W.σ.held ++ [a], hob := o' } hc rfl m ?_ Oth.held (kpL sb) cr) (Le.updM hg ho) (h.2 o')
        show Cell.D _ _ _ = .D _ _ _
        unfold dPut
        split
        · show Cell.D _ _ (List.zipWith _ _ _) = _; rw [zwt]
        · rw [List.map_append]; rfl
      | false => exact h.elim
    | _ => exact h.elim
  | _ => exact h.elim
inductive SetcI (σ : St) (R : St → Prop) (u a b v : U) : Prop
  | mk (x y : Nat) (l : List U) (is : List Nat) (ev : v = .lo .row) (nu : isRow u = false) (e1 : loC σ.row.length a = some x) (e2 : hiC σ.row.length b = some y) (e : lsU σ u = some l) (el : l = infU is) (hl : σ.row.length + is.length ≤ mxL) (h2 : (σ.row.take x ++ is ++ σ.row.drop (max x y)).length ≤ 1000) (q : R { σ with row := σ.row.take x ++ is ++ σ.row.drop (max x y) })
theorem isRow.inv (h : isRow u = true) : u = .lo .row := by
  cases u with
  | lo k => cases k with
    | row => rfl
    | _ => exact fot h
  | _ => exact fot h
theorem setcU.inv {σ : St} {a b : U} (h : setcU σ R u a b v) : SetcI σ R u a b v := by
  unfold setcU at h
  cases e : isRow v && !isRow u with
  | false => rw [e] at h; exact h.elim
  | true =>
    rw [e] at h
    obtain ⟨x, y, e1, e2, h⟩ := LoHi.of h
    obtain ⟨l, e3, is, ⟨e4, h1, h2⟩, q⟩ := lsQ.inv h
    have e := Bool.and_eq_true_iff.mp e
    exact .mk x y l is (isRow.inv e.1) (by have := e.2; revert this; cases isRow u <;> intro h <;> first | rfl | exact fot h) e1 e2 e3 e4 h1 h2 q
theorem VR.notA {a : Addr} {k : Loc} {c : Cell} (hw : VR W u (.ref a)) (m : W.μ k = some a) (hc : W.H a = some c) : u = .lo k ∨ ∀ l, lsU W.σ u ≠ some l := by
  cases u with
  | fl l =>
    obtain ⟨b, ws, n, g, hl⟩ := (show SqR _ _ _ _ (.ref a) from hw)
    exact absurd (.c hc) (W.R.gd _ _ g)
  | ol l =>
    obtain ⟨b, c1, _, _, n⟩ := (show OwR W _ (.ref a) from hw)
    exact absurd m (n k)
  | lo k' => 
    obtain ⟨b, e⟩ := (show LoR _ _ (.ref a) from hw)
    exact .inl (congrArg U.lo (W.R.inj _ _ _ e m))
  | _ => exact .inr nofun
theorem setc_ok {y1 y2 : Value} {sl : Addr} (hv : VR W v y) (hw : VR W u w) (h1 : VR W u2 y1) (h2 : VR W u3 y2) (hs : W.s.heap.IsSliceOf sl y1 y2 .none) (h : setcU W.σ R u u2 u3 v) (kk : KU W R Qu) : wpAny (MD cx) A (setItem y (.ref sl) w) Qu NoE W.s := by
  obtain ⟨x1, x2, l, is, rfl, nu, e1, e2, e, rfl, hl, hl2, q⟩ := setcU.inv h
  obtain ⟨a, c1, rfl, m, hc, rfl, hr⟩ := hv.cell (p := fun c => c = .L (infU W.σ.row) ∧ W.σ.row.length ≤ 1000) fun _ e => e
  obtain ⟨zs, n, g, r, ez, hz⟩ := (W.own hc).lst
  have ne : w ≠ .ref a := fun q => by subst q; exact (hw.notA m hc).elim (fun q => by subst q; exact fot nu.symm) fun q => q _ e
  obtain ⟨b, us, n2, rfl, g2, r2, eu, hu⟩ := (lsU.go hw e).size
  obtain ⟨lo, p1, c1⟩ := loC.go h1 e1
  obtain ⟨hi, p2, c2⟩ := hiC.go h2 e2
  have ez : zs.size = W.σ.row.length := ez.trans (List.length_map ..)
  have eu : us.size = is.length := eu.trans (List.length_map ..)
  have hs' : sizeLine = 2 ^ 24 := rfl
  have hm : mxL = 100000 := rfl
  obtain ⟨o, ho, hoc, hod⟩ := hs
  refine setSlice_exact g g2 (fun q => ne (by rw [q])) ho hoc hod p1 p2 (by lia) ?_
  obtain ⟨n', e'⟩ := upd_list g (fun xs => cutIn xs us (sliceBounds lo hi none zs.size).1 (sliceBounds lo hi none zs.size).2.1)
  have key : PRs cx W.G W.μ (infU (W.σ.row.take x1 ++ is ++ W.σ.row.drop (max x1 x2))) (cutIn zs us (sliceBounds lo hi none zs.size).1 (sliceBounds lo hi none zs.size).2.1).toList := by
    rw [sliceBounds_plain, ez, c1, c2]
    show PRs cx W.G W.μ _ (zs.extract 0 ((x1 : Nat) : Int).toNat ++ us ++ zs.extract (max (x1 : Int) (x2 : Int)).toNat zs.size).toList
    rw [Int.toNat_natCast, show (max (x1 : Int) (x2 : Int)).toNat = max x1 x2 by lia, Array.toList_append, Array.toList_append, Array.toList_extract, Array.toList_extract, List.extract_eq_take_drop, List.extract_eq_take_drop]
    unfold infU
    rw [List.map_append, List.map_append, List.map_take, List.map_drop]
    refine (PRs.append (r.take x1) r2).append ?_
    rw [List.take_of_length_le (by rw [List.length_drop, Array.length_toList]; exact Nat.le_refl _)]
    exact r.drop _
  exact kk (W.updM { W.s with heap := W.s.heap.update a (Obj.mapSeq fun xs => cutIn xs us (sliceBounds lo hi none zs.size).1 (sliceBounds lo hi none zs.size).2.1) } (.L (infU (W.σ.row.take x1 ++ is ++ W.σ.row.drop (max x1 x2)))) { W.σ with row := W.σ.row.take x1 ++ is ++ W.σ.row.drop (max x1 x2) } hc rfl m ⟨rfl, hl2⟩ Oth.row (kpL (Heap.SameBut.update ..).2) (.L _ n' _ e' key (by rw [show (infU _).length = _ from List.length_map ..]; lia))) (Le.updM rfl rfl) q
end
end

end
section
noncomputable section
section
variable {cx : Cx} {A : Around} {d : Nat} {P : Addr → Prop} {B W W' : Wd cx} {u v z u2 u3 : U} {x y w : Value} {l m xs us : List U} {ws : List Value} {sc : Scope} {env : Env} {os : Os} {ow ow' : Nat → Option Addr}
variable {Q : U → St → Prop} {Qm : Value → Shared → Prop} {Qu : Unit → Shared → Prop} {Pt Nt : St → Prop} {Qb : Bool → Shared → Prop} {E : Value → Shared → Prop} {R : St → Prop}
theorem onI.go {f : Int → Prop} {C : Value → Prop} (hu : VR W u x) (h : onI f u) (k : ∀ a t, f a → C (.int a t)) : C x := by
  obtain ⟨a, h⟩ := onI.inv h
  exact IntR.rec (motive := fun x _ => C x) (fun t => k a t h) (show IntR a x from hu)
theorem intU.go2 {f : Int → Int → Prop} {C : Value → Value → Prop} (hu : VR W u x) (hv : VR W v y) (h : intU u v f) (k : ∀ a b s t, f a b → C (.int a s) (.int b t)) : C x y :=
  intU.go hu hv h fun a b s t e1 e2 q => by rw [e1, e2]; exact k a b s t q
theorem abs_ok (hu : VR W u x) (h : onI (fun a => Q (.i a.natAbs) W.σ) u) (k : KV W Q Qm) : wpAny (MD cx) A (call (.builtin "abs") [x]) Qm NoE W.s :=
  onI.go (C := fun x => wpAny (MD cx) A (call (.builtin "abs") [x]) Qm NoE W.s) hu h fun a t q => call_abs_int fun u tk => by
    rw [show (if a < 0 then -a else a) = (a.natAbs : Int) by split <;> lia]; exact k.int q
theorem minmax {c : Prop} [Decidable c] {a b : Int} {t u : Tok} : IntR (if c then b else a) (if c then .int b u else .int a t) := by split <;> exact .mk _
theorem max2_ok (ak : AOk A d) (hu : VR W u x) (hv : VR W v y) (h : intU u v fun a b => Q (.i (if a < b then b else a)) W.σ) (k : KV W Q Qm) : wpAny (MD cx) A (call (.builtin "max") [x, y]) Qm NoE W.s :=
  intU.go2 (C := fun x y => wpAny (MD cx) A (call (.builtin "max") [x, y]) Qm NoE W.s) hu hv h fun a b s t q => max_two_ints ak.1 fun h' tk hk => k.kept (u := .i _) hk (fun _ _ => (show IntR _ _ from minmax)) q
theorem min2_ok (ak : AOk A d) (hu : VR W u x) (hv : VR W v y) (h : intU u v fun a b => Q (.i (if b < a then b else a)) W.σ) (k : KV W Q Qm) : wpAny (MD cx) A (call (.builtin "min") [x, y]) Qm NoE W.s :=
  intU.go2 (C := fun x y => wpAny (MD cx) A (call (.builtin "min") [x, y]) Qm NoE W.s) hu hv h fun a b s t q => min_two_ints ak.1 fun h' tk hk => k.kept (u := .i _) hk (fun _ _ => (show IntR _ _ from minmax)) q
theorem isInt_ok (F : ClsF cx) {i : Int} {t : Tok} (k : ∀ n, Qm (.bool false) { W.s with toks := n }) : wpAny (MD cx) A (call (.builtin "isinstance") [.int i t, cx.fv 1000002]) Qm NoE W.s := by
  obtain ⟨N, m, X⟩ := F 2 _ rfl
  rw [X.cv]
  refine call_isinstance_of ?_
  obtain ⟨nm, q', bs, sn, sub, col, dd, k0, k1, k2, k3, k5, hC⟩ := (X.at_.keeps W.R.base).obj
  revert hC k
  generalize W.s = s
  obtain ⟨hh, g, dr, tk, os⟩ := s
  intro k hC
  have hT : (⟨hh, g, dr, tk, os⟩ : Shared).TypeIs (.int i t) "int" := rfl
  have hT2 : (⟨hh, g, dr, tk, os⟩ : Shared).TypeIs (.ref (cx.ca 2)) "type" := ⟨_, hC, rfl⟩
  have hsub : isSubtype (.type "int") (.ref (cx.ca 2)) = pure false := by rw [show isSubtype (.type "int") (.ref (cx.ca 2)) = (mroOf (.type "int") >>= fun m => pure (m.contains (.ref (cx.ca 2)))) from rfl, mroOf_type]; kernel_rfl
  have hne : (Value.type "int" == Value.ref (cx.ca 2)) = false := rfl
  have fin := k (tk + 1)
  repeat (any_goals (first | assumption | with_reducible refine wpAny_loadPart_at hC ?_ | with_reducible refine class_attr_int ?_ | wp_step))
theorem isInst_ok (F : ClsF cx) {c : Nat} (hi : InH W c l x) (hc : ∃ ns, lkN c cF = some ns) (fin : Qm (.bool true) W.s) : wpAny (MD cx) A (call (.builtin "isinstance") [x, cx.fv (1000000 + c)]) Qm NoE W.s := by
  obtain ⟨ns, hc⟩ := hc
  obtain ⟨N, m, X⟩ := F c ns hc
  rw [X.cv]
  obtain ⟨a, dd, o', o, ws, es, ep, ne, g, hi, gd, hf, r⟩ := hi
  refine call_isinstance_of ?_ (fun e => by cases e)
  revert g fin
  generalize W.s = s
  obtain ⟨hh, gg, dr, tk, os⟩ := s
  intro g fin
  have hbeq : (Value.ref (cx.ca c) == Value.ref (cx.ca c)) = true := beq_self_eq_true _
  repeat (any_goals (first | assumption | with_reducible refine wpAny_loadPart_at g ?_ | wp_step))
  rw [hi.1, if_pos hbeq]
  repeat (any_goals (first | assumption | wp_step))
inductive IsiI (Q : U → Prop) : U → U → Prop
  | i (a : Int) (q : Q (.b false)) : IsiI Q (.i a) (.f 1000002)
  | o (l : List U) (q : Q (.b true)) : IsiI Q (.fo 2 l) (.f 1000002)
theorem ifB.t {c : Bool} {X : Prop} (h : guB c X) : c = true ∧ X := by
  cases c
  · exact False.elim h
  · exact ⟨rfl, h⟩
theorem isiU.inv {R : U → Prop} (h : isiU R u v) : IsiI R u v := by
  cases v with
  | f k =>
    obtain ⟨e, h⟩ := ifB.t h
    refine Nat.eq_of_beq_eq_true e ▸ ?_
    cases u with
    | i a => exact .i a h
    | fo c l => obtain ⟨e, h⟩ := ifB.t h; exact Nat.eq_of_beq_eq_true e ▸ .o l h
    | _ => exact h.elim
  | _ => exact h.elim
theorem isi_ok (F : ClsF cx) (hu : VR W u x) (hv : VR W v y) (h : isiU (fun z => Q z W.σ) u v) (k : KV W Q Qm) : wpAny (MD cx) A (call (.builtin "isinstance") [x, y]) Qm NoE W.s := by
  cases isiU.inv h with
  | i a q => exact IntR.rec (motive := fun x _ => wpAny (MD cx) A (call (.builtin "isinstance") [x, y]) Qm NoE W.s) (fun t => by rw [show y = _ from hv]; exact isInt_ok F fun n => k _ (.b false) (W.tk n) Le.tk (show Value.bool false = _ from rfl) q) (show IntR a x from hu)
  | o l q => rw [show y = _ from hv]; exact isInst_ok F hu.fo ⟨_, rfl⟩ (k.boo q)
end
end

end
section
theorem z_lk_list_keys : typeLookup (.type "list") "keys" = pure none := by rw [typeLookup_type, builtinLookup_eq_fast]; kernel_rfl
theorem z_lk_list_getattr : typeLookup (.type "list") "__getattr__" = pure none := by rw [typeLookup_type, builtinLookup_eq_fast]; kernel_rfl
theorem z_sub_attr : isSubtype (.type "AttributeError") (.type "AttributeError") = pure true := by rw [isSubtype_type]; kernel_rfl
theorem z_entry_upd : entryFor table "dict.update.loop" = some Builtin.«dict.update.loop» := entryFor_of_tree (by kernel_rfl)
theorem z_plain_upd : plainId "dict.update.loop" = true := by decide +kernel
section
variable {prog : Program} {w : World} {A : Around} {E : Value → Shared → Prop} {s : Shared}
noncomputable abbrev attrExc (tp : Value) : Obj := { cls := .type "AttributeError", data := .fields #[tp, .none, .none, .none, .bool false, .none, rawInt 0, rawInt 0] }
theorem z_newAttr {v : Value} {Q : Value → Shared → Prop}
    (h : ∀ h' e tp, (∀ b o, s.heap.get? b = some o → h'.get? b = some o) → s.heap.get? e = none → h'.get? e = some (attrExc tp) → Q (.ref e) { s with heap := h' }) : wpAny (model prog w) A (newExc (.type "AttributeError") [v]) Q E s := by
  unfold newExc newTuple
  refine wpAny_bind (wpAny_newObj_type ?_)
  refine wpAny_bind (m := firstArgMember _ _) (wpAny_of_eq (a := Value.none) (by rfl) ?_)
  refine wpAny_newObj_type (h _ _ (.ref s.heap.objs.size) (fun b o hb => Heap.get?_push_of_some _ (Heap.get?_push_of_some _ hb)) (Heap.get?_none_of_le (by simp)) ?_)
  exact Heap.get?_push_size _ rfl
theorem z_noteAttr {e : Addr} {tp o nm : Value} {Q : Unit → Shared → Prop} (he : s.heap.get? e = some (attrExc tp))
    (h : ∀ h' x, h'.get? e = some { cls := .type "AttributeError", data := x } → Heap.SameBut e s.heap h' → Q () { s with heap := h' }) : wpAny (model prog w) A (noteAttr (.ref e) o nm) Q E s := by
  have hT : s.TypeIs (.ref e) "AttributeError" := ⟨_, he, rfl⟩
  unfold noteAttr lacksNameAndObj
  refine wpAny_bind (wpAny_bind (wpAny_isInstance hT z_sub_attr ?_))
  refine wpAny_bind (wpAny_load he ?_)
  refine wpAny_pure ?_
  refine wpAny_bind (wpAny_rule (wpAny_bind (wpAny_typeOf hT ?_)))
  unfold layMembers
  refine wpAny_bind (wpAny_load he ?_)
  refine wpAny_update he (h _ _ (Heap.get?_update_self _ he rfl) (Heap.SameBut.update ..))
end
section
variable {prog : Program} {w : World} {A : Around} {E : Value → Shared → Prop} {h : Heap} {g : Array GenState} {d : Drawn} {t : Nat} {os : OsState} {a : Addr} {it : Array Value} {n : Nat}
theorem keys_entry_list {tk : Tok} {Q : Fin → Shared → Prop} (hh : A.handled = none) (hx : h.get? a = some { cls := .type "list", data := .seq it n })
    (hE : ∀ s' e, Keeps ⟨h, g, d, t, os⟩ s' → s'.TypeIs (.ref e) "AttributeError" → E (.ref e) s') :
    wpAny (model prog w) A (Builtin.«object.__getattribute__» ⟨[.ref a, .str "keys" tk], []⟩) Q E ⟨h, g, d, t, os⟩ := by
  have hT : (⟨h, g, d, t, os⟩ : Shared).TypeIs (.ref a) "list" := ⟨_, hx, rfl⟩
  have f4 := z_lk_list_keys
  repeat (any_goals (first | assumption | wp_step))
  unfold raiseAttrError
  refine wpAny_bind (wpAny_mkStr (wpAny_bind (z_newAttr fun h' e tp k h0 he => ?_)) (by size_fits))
  refine wpAny_bind (wpAny_mkText (wpAny_bind (z_noteAttr he fun h'' x he' sb => wpAny_raiseNew_none hh (hE _ e ⟨h'', _, rfl, fun b o hb => ?_⟩ ⟨_, he', rfl⟩))))
  have : b ≠ e := fun q => by subst q; rw [hb] at h0; cases h0
  rw [sb.2 b this]; exact k b o hb

theorem keys_call_list {tk : Tok} {R : Result → Shared → Prop} (hh : A.handled = none) (hx : h.get? a = some { cls := .type "list", data := .seq it n })
    (hE : ∀ s' e, Keeps ⟨h, g, d, t, os⟩ s' → s'.TypeIs (.ref e) "AttributeError" → R (.error (.ref e)) s') :
    codeAny (model prog w) A (.call (.builtin "list.__getattribute__") ⟨[.ref a, .str "keys" tk], []⟩) R ⟨h, g, d, t, os⟩ :=
  codeAny_call_builtin F.slot_list_getattribute.plain F.entry_list_ga (F.slot_list_getattribute.check _ _ _ _ _ _ _ _ (show (⟨h, g, d, t, os⟩ : Shared).TypeIs (.ref a) "list" from ⟨_, hx, rfl⟩) (F.args_list_getattribute_2 _ _) (keys_entry_list hh hx hE))

theorem keys_by_list {tk : Tok} {Q : Value → Shared → Prop} (hh : A.handled = none) (hx : h.get? a = some { cls := .type "list", data := .seq it n })
    (hE : ∀ s' e, Keeps ⟨h, g, d, t, os⟩ s' → s'.TypeIs (.ref e) "AttributeError" → E (.ref e) s') : wpAny (model prog w) A (getAttrBy (.ref a) (.str "keys" tk) false) Q E ⟨h, g, d, t, os⟩ := by
  have hT : (⟨h, g, d, t, os⟩ : Shared).TypeIs (.ref a) "list" := ⟨_, hx, rfl⟩
  have f2 := F.slot_list_getattribute.lookup
  have f3 := F.slot_list_getattribute.bind (.ref a)
  repeat (any_goals (first | assumption | wp_step))
  refine keys_call_list hh hx fun s' e K T => ?_
  obtain ⟨h2, tk2, rfl, K⟩ := K
  have hT2 : (⟨h2, g, d, tk2, os⟩ : Shared).TypeIs (.ref e) "AttributeError" := T
  have f6 := z_sub_attr
  have f7 := z_lk_list_getattr
  repeat (any_goals (first | assumption | wp_step))
  exact hE _ e ⟨h2, tk2, rfl, K⟩ T
theorem keys_attr_list {Q : Option Value → Shared → Prop} (hh : A.handled = none) (hx : h.get? a = some { cls := .type "list", data := .seq it n })
    (hQ : ∀ s', Keeps ⟨h, g, d, t, os⟩ s' → Q none s') : wpAny (model prog w) A (getAttr? (.ref a) "keys") Q E ⟨h, g, d, t, os⟩ := by
  unfold getAttr? getAttrBy?
  refine wpAny_bind (wpAny_mkText (wpAny_bind (wpAny_attempt (keys_by_list hh hx fun s' e K T => ?_))))
  obtain ⟨h2, tk2, rfl, K⟩ := K
  refine wpAny_bind (wpAny_isInstance T z_sub_attr ?_)
  exact wpAny_pure (hQ _ ⟨h2, tk2, rfl, K⟩)
end

noncomputable section
section
variable {cx : Cx} {A : Around} {d : Nat} {P : Addr → Prop} {B W W' : Wd cx} {u v z u2 u3 : U} {x y w : Value} {l m xs us : List U} {ws : List Value} {sc : Scope} {env : Env} {os : Os} {ow ow' : Nat → Option Addr}
variable {Q : U → St → Prop} {Qm : Value → Shared → Prop} {Qu : Unit → Shared → Prop} {Pt Nt : St → Prop} {Qb : Bool → Shared → Prop} {E : Value → Shared → Prop} {R : St → Prop}
theorem pairItems_tup {r : Int × U} {Q : List Value → Shared → Prop} {E : Value → Shared → Prop} (hv : W.pr (pairU r) w) (q : ∀ t b, W.pr r.2 b → Q [.int r.1 t, b] W.s) : wpAny (MD cx) A (Builtin.Dict.pairItems w) Q E W.s := by
  obtain ⟨a, ws, n, rfl, g, p, e, hl⟩ := (VR.tu (W := W) (l := [.i r.1, r.2]) hv).size
  have hT : W.s.TypeIs (.ref a) "tuple" := ⟨_, g, rfl⟩
  unfold Builtin.Dict.pairItems
  refine wpAny_bind (wpAny_typeOf hT ?_)
  rw [if_pos (by decide)]
  refine wpAny_bind (wpAny_seqItems g rfl (wpAny_pure ?_))
  show Q ws.toList W.s
  revert p
  generalize ws.toList = zs
  intro p
  obtain ⟨w1, z1, p1, p'⟩ := (show ConsR _ _ zs from p)
  obtain ⟨w2, z2, p2, p''⟩ := (show ConsR _ _ z1 from p')
  rw [show z2 = [] from p'']
  exact IntR.rec (motive := fun w1 _ => Q [w1, w2] W.s) (fun t => q t w2 p2) (show IntR _ w1 from p1)
inductive DiP (W : Wd cx) (a : Addr) (p : List Int × List U) : Prop
  | mk (o : Obj) (pv : Priv W a o) (dd : DcO cx o p.1 p.2.length (W.prs p.2)) : DiP W a p
theorem dPut_len {k : Int} {ks : List Int} {us : List U} : (dPut k u ks us).1.length ≤ ks.length + 1 := by
  unfold dPut; split
  · exact Nat.le_succ _
  · exact Nat.le_of_eq (List.length_append ..)
theorem DiP.le {P : Addr → Prop} {a : Addr} {p : List Int × List U} (h : DiP W a p) (le : Le P W W') (n : ¬ P a) : DiP W' a p := by
  obtain ⟨o, pv, ws, hk, hd, r, hl⟩ := h
  exact ⟨o, le.pv _ _ pv n, ws, hk, hd, le.prs r, hl⟩
theorem dict_loop {rs : List (Int × U)} {da I : Addr} {R : Result → Shared → Prop} (hh : A.handled = none) (ne : da ≠ I) : ∀ (j i : Nat) (k : Int) (W : Wd cx) (p : List Int × List U), rs.length = i + j → (∃ o, Priv W I o) → Ite W I u (rs.map pairU) i → DiP W da p → p.1.length + j ≤ sizeLine →
    (∀ W', Le (fun b => b = da ∨ b = I) W W' → W'.σ = W.σ → DiP W' da (dMrg (rs.drop i) p) → R (.ok (.ret .none)) W'.s) → codeAny (MD cx) A (.builtin "dict.update.loop" ⟨[.ref da, .ref I, rawInt k, .none], []⟩) R W.s
  | 0, i, k, W, p, hl, ⟨oI, pI⟩, it, dd, hsz, hR => by
    refine codeAny_builtin z_entry_upd ?_
    rw [Around.under_plainId z_plain_upd _]
    show wpAny _ A.in1 (pyNext (.ref I) >>= _) _ _ W.s
    refine wpAny_bind (wpAny_no (next_end (A := A.in1) hh it pI (List.getElem?_eq_none (by rw [List.length_map, hl]; exact Nat.le_refl _)) fun W1 le e => wpAny_bind (wpAny_pure (wpAny_pure ?_))))
    exact hR W1 (le.weaken fun _ _ _ => .inr) e (by rw [List.drop_eq_nil_of_le (show rs.length ≤ i from Nat.le_of_eq hl)]; exact dd.le le ne)
  | j + 1, i, k, W, p, hl, ⟨oI, pI⟩, it, dd, hsz, hR => by
    have hlt : i < rs.length := by lia
    have hdr : rs.drop i = rs[i] :: rs.drop (i + 1) := List.drop_eq_getElem_cons hlt
    refine codeAny_builtin z_entry_upd ?_
    rw [Around.under_plainId z_plain_upd _]
    show wpAny _ A.in1 (pyNext (.ref I) >>= _) _ _ W.s
    refine wpAny_bind (wpAny_no (next_item (A := A.in1) (z := pairU rs[i]) it pI (by rw [List.getElem?_map, List.getElem?_eq_getElem hlt]; rfl) fun w W1 le e pI1 it1 hw => ?_))
    obtain ⟨o, pv, ws, hk, hd, r, hl1⟩ := dd.le le ne
    refine wpAny_bind (wpAny_holding (wpAny_bind (wpAny_tryCatch (pairItems_tup hw fun tk b hb => ?_))))
    refine wpAny_holding (wpAny_dictSet_pairs (isI cx.prog cx.w rs[i].1 tk) (Heap.dictOf_iff.mpr ⟨o, pv.1, hd⟩) (fun h' hd' sb => ?_) (by rw [List.length_zip, hk, Nat.min_self]; lia))
    obtain ⟨ws', q1, q2, q3⟩ := dPut.go (k := rs[i].1) hk r hb
    rw [q1] at hd'
    obtain ⟨o', ho', hd'⟩ := Heap.dictOf_iff.mp hd'
    let W2 := W1.itr pv { W1.s with heap := h', toks := W1.s.toks + 1 } fun b o n => (sb.2 b n).trans
    have le2 : Le (fun b => b = da) W1 W2 := Le.itr rfl rfl
    refine wpAny_pure ⟨plainId_quiet z_plain_upd _, dict_loop (rs := rs) hh ne j (i + 1) (k + 1) W2 (dPut rs[i].1 rs[i].2 p.1 p.2) (hl.trans (Nat.add_right_comm i j 1)) ?_ ?_ ⟨o', ⟨ho', pv.2, pv.3, pv.4⟩, ws', q2, hd', q3, ?_⟩ ?_ fun W3 le3 e3 dd3 => ?_⟩
    · exact pI1.imp fun o q => le2.pv _ _ q ne.symm
    · exact it1.step le2 (fun o q => (sb.2 I ne.symm).trans q) ⟨id, fun _ => ⟨rfl, rfl⟩⟩
    · rw [← q3.len, ← q2]; have := dPut_len (k := rs[i].1) (u := rs[i].2) (ks := p.1) (us := p.2); lia
    · have := dPut_len (k := rs[i].1) (u := rs[i].2) (ks := p.1) (us := p.2); lia
    · exact hR W3 ((le.weaken fun _ _ _ => .inr).trans ((le2.weaken fun _ _ _ => .inl).trans le3)) (e3.trans e) (by rw [hdr]; exact dd3)
theorem isDictOf_nil : ({ cls := .type "dict", data := .dict #[] } : Obj).IsDictOf (IK cx) (List.zip [] []) := by
  obtain ⟨o, e, h⟩ := Heap.dictOf_iff.mp (Heap.DictOf.new (knd := IK cx) cx.h0)
  rw [Heap.get?_push_size _ rfl] at e
  cases e; exact h
theorem dict_core {rs : List (Int × U)} (hh : A.handled = none) (hf : VR W u x) (he : lsU W.σ u = some (rs.map pairU))
    (kk : ∀ W' a, Le PF W W' → W'.σ = W.σ → W.s.heap.get? a = none → DiP W' a (dMrg rs ([], [])) → Qm (.ref a) W'.s) : wpAny (MD cx) A (call (.type "dict") [x]) Qm NoE W.s := by
  obtain ⟨l, ws, n, rfl, g, r, e, hl⟩ := (lsU.go hf he).size
  rw [List.length_map] at hl
  have da := dead_size W.s.heap
  let W1 := W.push { cls := .type "dict", data := .dict #[] }
  have p1 : Priv W1 W.s.heap.objs.size { cls := .type "dict", data := .dict #[] } := W.push_priv rfl
  refine callType_codes (Q₁ := fun obj s₁ => obj = .ref W.s.heap.objs.size ∧ s₁ = W1.s) F.kt_called_dict (F.kt_typeCall_dict_1 _) F.entry_dict_init (kt_code_dict_new _ ⟨rfl, rfl⟩) ?_
  rintro obj s₁ ⟨rfl, rfl⟩
  have hT : W1.s.TypeIs (.ref W.s.heap.objs.size) "dict" := ⟨_, p1.1, rfl⟩
  refine ⟨hT, F.args_dict_init_2 _ _, ?_⟩
  unfold Builtin.«dict.__init__»
  refine wpAny_bind ?_
  unfold Builtin.Dict.selfAndRest
  refine wpAny_bind (wpAny_notOrdered_dict hT ?_)
  show wpAny _ _ (pure (W.s.heap.objs.size, [Value.ref l])) _ _ _
  refine wpAny_pure ?_
  show wpAny _ _ (Builtin.Dict.updateFrom "dict.__init__" W.s.heap.objs.size (.ref l) [] .none) _ _ _
  unfold Builtin.Dict.updateFrom
  have ho : W1.s.heap.get? l = some (listO ws n) := Heap.get?_push_of_some _ g
  refine wpAny_bind (wpAny_typeOf (T := "list") ⟨_, ho, rfl⟩ ?_)
  rw [if_pos (by decide)]
  refine wpAny_bind (keys_attr_list hh ho fun s2 K => ?_)
  obtain ⟨h2, tk2, rfl, K⟩ := K
  let W2 := W1.gr { W1.s with heap := h2, toks := tk2 } K
  have le2 : Le PF W1 W2 := Le.gr rfl rfl
  simp only [Option.isNone_none, if_true]
  refine wpAny_bind (wpAny_rule ?_)
  refine wpAny_bind (wpAny_no (iter_ok (W := W2) (A := A.in1.in1) (le2.vr (Le.push.vr hf (P := PF))) (R := fun l _ => l = rs.map pairU) (.l _ he rfl) fun o xs st hf exs _ _ it => ?_))
  subst exs
  have hne : W.s.heap.objs.size ≠ W2.s.heap.objs.size := Nat.ne_of_lt (Heap.lt_size (K _ _ p1.1))
  have leP : Le PF W2 (W2.push o) := Le.push
  refine wpAny_pure ⟨plainId_quiet z_plain_upd _, dict_loop (A := A.in1) (rs := rs) hh hne rs.length 0 0 (W2.push o) ([], []) (Nat.zero_add _).symm ⟨_, W2.push_priv hf⟩ it ?_ (by rw [show ([] : List Int).length + rs.length = rs.length from Nat.zero_add _]; exact hl) fun W4 le4 e4 dd => ⟨rfl, ?_⟩⟩
  · exact ⟨_, leP.pv _ _ (le2.pv _ _ p1 id) id, [], rfl, isDictOf_nil, rfl, Nat.zero_le _⟩
  · have leA : Le (fun b => b = W.s.heap.objs.size ∨ b = W2.s.heap.objs.size) W W4 := (Le.push.trans (le2.pf.trans leP.pf)).trans le4
    refine kk W4 _ (leA.weaken fun b o p q => ?_) e4 da dd
    rcases q with rfl | rfl
    · exact nomatch p.1.symm.trans da
    · exact nomatch (K _ _ (Heap.get?_push_of_some _ p.1)).symm.trans (dead_size _)
end
end

end
section
noncomputable section
inductive ThreeI (f : U → U → U → Prop) : List U → Prop
  | mk (x y z : U) (h : f x y z) : ThreeI f [x, y, z]
theorem three.inv {f} : ∀ {l}, three f l → ThreeI f l
  | [x, y, z], h => .mk x y z h

section
variable {cx : Cx} {A : Around} {d : Nat} {P : Addr → Prop} {B W W' : Wd cx} {u v z u2 u3 : U} {x y w : Value} {l m xs us : List U} {ws : List Value} {sc : Scope} {env : Env} {os : Os} {ow ow' : Nat → Option Addr}
variable {Q : U → St → Prop} {Qm : Value → Shared → Prop} {Qu : Unit → Shared → Prop} {Pt Nt : St → Prop} {Qb : Bool → Shared → Prop} {E : Value → Shared → Prop} {R : St → Prop}
theorem VRs.three {us ws} {f : U → U → U → Prop} {C : List Value → Prop} (h : three f us) (r : VRs W us ws) (k : ∀ u v w x y z, VR W u x → VR W v y → VR W w z → f u v w → C [x, y, z]) : C ws := by
  obtain ⟨x, y, z, h⟩ := h.inv
  cases r with | cons a t => cases t with | cons b t => cases t with | cons c t => cases t; exact k _ _ _ _ _ _ a b c h
theorem Wd.notS (W : Wd cx) {a : Addr} {o : Obj} (p : Priv W a o) : (a == sysModules) = false := by
  obtain ⟨o', hs⟩ := cx.sysm
  exact beq_false_of_ne fun q => by subst q; exact nomatch hs.symm.trans p.n0
theorem DiP.fd {a : Addr} {p : List Int × List U} (h : DiP W a p) (hp : P a) (k : ∀ W', Le P W W' → W'.σ = W.σ → VR W' (.fd p.1 p.2) (.ref a) → Qm (.ref a) W'.s) : Qm (.ref a) W.s := by
  obtain ⟨o, pv, ws, hk, hd, r, hl⟩ := h
  have le : Le P W (W.adF pv) := Le.adF pv hp
  exact k (W.adF pv) le rfl (show DcR _ _ _ _ _ _ from .mk a o (adF.at pv) (W.notS pv) ⟨ws, hk, hd, le.prs r, hl⟩)
theorem DiP.was {a : Addr} {p : List Int × List U} {o : Obj} (h : DiP W' a p) (n : W.s.heap.get? a = none) : ∀ b z, Priv W b z → b = a → False := fun b z q e => by subst e; exact nomatch q.1.symm.trans n
theorem rng1 {a b c : Int} {t u v : Tok} {n : Nat} (k : KV W Q Qm) (q : Q (.rg a b c) W.σ) : Qm (.ref W.s.heap.objs.size) { W.s with heap := W.s.heap.push { cls := .type "range", data := .fields #[.int a t, .int b u, .int c v] }, toks := n } := new_rg k q
theorem bi_ok (F : ClsF cx) (ak : AOk A d) {b : Bi} (r : VRs W us ws) (h : biU W.σ (fun z => Q z W.σ) us b) (k : KV W Q Qm) : KeepOk cx (biV b) A W.s ∧ wpAny (MD cx) A (call (biV b) ws) Qm NoE W.s := by
  let C : Bi → List Value → Prop := fun b ws => wpAny (MD cx) A (call (biV b) ws) Qm NoE W.s
  cases b with
  | len => exact ⟨keep_b, VRs.one (C := C .len) h r fun u w hu h => len_ok hu h k⟩
  | int => exact ⟨keep_t, VRs.one (C := C .int) h r fun u w hu h => onI.go (C := fun w => wpAny (MD cx) A (call (.type "int") [w]) Qm NoE W.s) hu h fun a t q => call_int_int (k _ (.i a) W Le.refl (show IntR a _ from .mk t) q)⟩
  | abs => exact ⟨keep_b, VRs.one (C := C .abs) h r fun u w hu h => abs_ok hu h k⟩
  | min1 => exact ⟨keep_b, VRs.one (C := C .min1) h r fun u w hu h => min1_ok ak hu h k⟩
  | min2 => exact ⟨keep_b, VRs.two (C := C .min2) h r fun u v w z hu hv h => min2_ok ak hu hv h k⟩
  | max2 => exact ⟨keep_b, VRs.two (C := C .max2) h r fun u v w z hu hv h => max2_ok ak hu hv h k⟩
  | sorted => exact ⟨keep_b, VRs.one (C := C .sorted) h r fun u w hu h => sort_ok ak hu h k⟩
  | list => exact ⟨keep_t, VRs.one (C := C .list) h r fun u w hu h => list_ok hu h k⟩
  | tuple => exact ⟨keep_t, VRs.one (C := C .tuple) h r fun u w hu h => tuple_ok hu h k⟩
  | range1 => exact ⟨keep_t, VRs.one (C := C .range1) h r fun u w hu h => onI.go (C := fun w => wpAny (MD cx) A (call (.type "range") [w]) Qm NoE W.s) hu h fun a t q => call_range_1 (new_rg k q)⟩
  | range2 => exact ⟨keep_t, VRs.two (C := C .range2) h r fun u v w z hu hv h => intU.go2 (C := fun w z => wpAny (MD cx) A (call (.type "range") [w, z]) Qm NoE W.s) hu hv h fun a b s t q => call_range_2 (new_rg k q)⟩
  | range3 => exact ⟨keep_t, VRs.three (C := C .range3) h r fun u v w x y z hu hv hw h => onI.go (C := fun z => wpAny (MD cx) A (call (.type "range") [x, y, z]) Qm NoE W.s) hw h fun c t h => by
      obtain ⟨rfl, h⟩ := h
      exact intU.go2 (C := fun x y => wpAny (MD cx) A (call (.type "range") [x, y, _]) Qm NoE W.s) hu hv h fun a b s t q => call_range_3 (by decide) (new_rg k q.2) (.inl q.1)⟩
  | all => exact ⟨keep_b, VRs.one (C := C .all) h r fun u w hu h => all_ok ak hu h k⟩
  | any => exact ⟨keep_b, VRs.one (C := C .any) h r fun u w hu h => any_ok ak hu h k⟩
  | isinst => exact ⟨keep_b, VRs.two (C := C .isinst) h r fun u v w z hu hv h => isi_ok F hu hv h k⟩
  | dict => exact ⟨keep_t, VRs.one (C := C .dict) h r fun u w hu h => by
      obtain ⟨l, e, rs, rfl, q⟩ := lsQ.inv h
      exact dict_core ak.1 hu e fun W' a le e1 n dd => dd.fd (P := fun b => b = a) rfl fun W2 le2 e2 hv => k _ _ W2 ((le.weaken fun _ _ _ => False.elim).trans le2 |>.drop n) hv (by rw [e2, e1]; exact q)⟩
end
end

end
section
noncomputable section
section
variable (CT : Nat → List U → St → (U → St → Prop) → Prop)
structure WW where
  e : Os → St → (U → St → Prop) → Prop
  t : Os → St → (St → Prop) → (St → Prop) → Prop
noncomputable def mkW (f : Os → St → (U → St → Prop) → Prop) : WW := ⟨f, fun os σ P N => f os σ fun u σ1 => trU σ1 (P σ1) (N σ1) u⟩
noncomputable def isDc : U → Bool
  | .fd _ _ => true
  | .od _ _ => true
  | .lo .held => true
  | _ => false
noncomputable def ev : RE → WW
  | .v i => mkW fun os σ Q => unQ (fun u => Q u σ) (os.getD i .un)
  | .k u => mkW fun _ σ Q => Q u σ
  | .g j => mkW fun _ σ Q => oQ (fun u => Q u σ) glV[j]?
  | .at e n => mkW fun os σ Q => (ev e).e os σ fun u σ1 => atU σ1 n (fun z => Q z σ1) u
  | .bin o l r => mkW fun os σ Q => (ev l).e os σ fun u σ1 => (ev r).e os σ1 fun v σ2 => binU o u v fun z => Q z σ2
  | .neg e => mkW fun os σ Q => (ev e).e os σ fun u σ1 => intU u u fun a _ => Q (.i (-a)) σ1
  | .cmp o l r => ⟨fun os σ Q => (ev l).e os σ fun u σ1 => (ev r).e os σ1 fun v σ2 => cmpU σ2 o u v (Q (.b true) σ2) (Q (.b false) σ2), fun os σ P N => (ev l).e os σ fun u σ1 => (ev r).e os σ1 fun v σ2 => cmpU σ2 o u v (P σ2) (N σ2)⟩
  | .em ne tu e => ⟨fun os σ Q => (ev e).e os σ fun u σ1 => emU (Q (.b (!ne)) σ1) (Q (.b ne) σ1) tu u, fun os σ P N => (ev e).e os σ fun u σ1 => emU (ifB ne (N σ1) (P σ1)) (ifB ne (P σ1) (N σ1)) tu u⟩
  | .isn ne e => ⟨nvr, fun os σ P N => (ev e).e os σ fun u σ1 => nfQ (fun u => ifB (bif isnU u then !ne else ne) (P σ1) (N σ1)) u⟩
  | .c2 l o m p r => ⟨nvr, fun os σ P N => (ev l).e os σ fun u σ1 => (ev m).e os σ1 fun v σ2 => cmpU σ2 o u v ((ev r).e os σ2 fun w σ3 => cmpU σ3 p v w (P σ3) (N σ3)) (N σ2)⟩
  | .not e => ⟨fun os σ Q => (ev e).e os σ fun u σ1 => trU σ1 (Q (.b false) σ1) (Q (.b true) σ1) u, fun os σ P N => (ev e).t os σ N P⟩
  | .and a b => ⟨fun os σ Q => (ev a).e os σ fun u σ1 => bQ ((ev b).e os σ1 Q) (Q (.b false) σ1) u, fun os σ P N => (ev a).t os σ (fun σ1 => (ev b).t os σ1 P N) N⟩
  | .or a b => ⟨nvr, fun os σ P N => (ev a).t os σ P fun σ1 => (ev b).t os σ1 P N⟩
  | .ite t a b => ⟨fun os σ Q => (ev t).t os σ (fun σ1 => (ev a).e os σ1 Q) fun σ1 => (ev b).e os σ1 Q, nvt⟩
  | .nil => mkW fun _ σ Q => Q (.tu []) σ
  | .cons e es => mkW fun os σ Q => (ev e).e os σ fun u σ1 => (ev es).e os σ1 fun v σ2 => consU u (fun z => Q z σ2) v
  | .tup es => mkW fun os σ Q => (ev es).e os σ (argP fun l σ1 => Q (.tu l) σ1)
  | .lst es => mkW fun os σ Q => (ev es).e os σ (argP fun l σ1 => Q (.fl l) σ1)
  | .dct es => mkW fun os σ Q => (ev es).e os σ (argP fun l σ1 => oQ (dctQ fun u => Q u σ1) (match pairs l with | some p => some (dMrg (p.1.zip p.2) ([], [])) | none => none))
  | .sub e i => mkW fun os σ Q => (ev e).e os σ fun u σ1 => (ev i).e os σ1 fun v σ2 => subU σ2 u v fun z => Q z σ2
  | .cut e lo hi => mkW fun os σ Q => (ev e).e os σ fun u σ1 => (ev lo).e os σ1 fun v σ2 => (ev hi).e os σ2 fun w σ3 => cutU σ3 u v w fun z => Q z σ3
  | .call f es => mkW fun os σ Q => (ev es).e os σ (argP fun l σ1 => CT f l σ1 Q)
  | .cv i es => mkW fun os σ Q => fQ (fun k => (ev es).e os σ (argP fun l σ1 => CT k l σ1 Q)) (os.getD i .un)
  | .mth e n es => mkW fun os σ Q => (ev e).e os σ fun u σ1 => oQ (fun k => (ev es).e os σ1 (argP fun l σ2 => guB u.pl (CT k (u :: l) σ2 Q))) (mthU u n)
  | .get e a b => mkW fun os σ Q => (ev e).e os σ fun u σ1 => guB (isDc u) ((ev a).e os σ1 fun v σ2 => (ev b).e os σ2 fun w σ3 => getU σ3 u v w fun z => Q z σ3)
  | .bi w es => mkW fun os σ Q => (ev es).e os σ (argQ fun l σ1 => biU σ1 (fun z => Q z σ1) l w)
  | .comp fr p src cond elt => mkW fun os σ Q => (ev src).e os σ fun u σ1 => srcU σ1 (fun xs stay => CompT (fun x σ Y N => asP (osC fr os) (fun os2 => (ev cond).t os2 σ (fun σ2 => (ev elt).e os2 σ2 fun z σ3 => guB z.pl (Y z σ3)) N) p x) xs stay Q σ1) u
  | .mkpot a b c => mkW fun os σ Q => (ev a).e os σ fun u σ1 => (ev b).e os σ1 fun v σ2 => (ev c).e os σ2 fun w σ3 => flQ (fun l => intU v w fun x y => σ3.ph = 0 ∧ ∃ is : List Int, l = is.map .i ∧ Q (.lo .pot) { σ3 with ph := 1, cells := is, ps := x, pp := y }) u
  | .mkstp => mkW fun _ σ Q => Q (.lo (.stp σ.ns)) { σ with ns := σ.ns + 1 }
noncomputable def fzQ (R : U → Prop) : U → Prop
  | .ol l => R (.fl l)
  | .od ks l => R (.fd ks l)
  | .oi c l => R (.fo c l)
  | _ => hz
noncomputable def putO (c n : Nat) (u : U) (l : List U) : Option (List U) := match lkN c cF with
  | some ns => putF n u ns l
  | none => none
structure KR where
  n : Os → St → Prop
  r : U → St → Prop
  l : Os → St → Prop
inductive WhT (t : Os → St → (St → Prop) → (St → Prop) → Prop) (b : Os → St → (Os → St → Prop) → Prop) (k : Os → St → Prop) (os : Os) (σ : St) : Prop
  | mk (I : Nat → Os → St → Prop) (n : Nat) (h0 : I n os σ) (st : ∀ n os σ, I n os σ → t os σ (fun σ1 => b os σ1 fun os σ => ∃ m, m < n ∧ I m os σ) fun σ1 => k os σ1)
inductive ForT (xs : List U) (stay : St → Prop) (b : U → Os → St → (Os → St → Prop) → Prop) (k : Os → St → Prop) (os : Os) (σ : St) : Prop
  | mk (I : Nat → Os → St → Prop) (h0 : I 0 os σ) (st : ∀ (n : Nat) (x : U) os σ, xs[n]? = some x → I n os σ → stay σ ∧ b x os σ (I (n + 1))) (fin : ∀ os σ, I xs.length os σ → stay σ ∧ k os σ)
variable (CI : Nat → List U → St → (List U → St → Prop) → Prop)
noncomputable def wS : RS → Os → St → KR → Prop
  | .skip, os, σ, K => K.n os σ
  | .ret e, os, σ, K => (ev CT e).e os σ fun u σ1 => plQ (fun u => K.r u σ1) u
  | .cont, os, σ, K => K.l os σ
  | .asg i e k, os, σ, K => (ev CT e).e os σ fun u σ1 => plQ (fun u => wS k (os.set i u) σ1 K) u
  | .asgT l e k, os, σ, K => (ev CT e).e os σ fun u σ1 => asP os (fun os1 => wS k os1 σ1 K) (.t l) u
  | .seta o n e k, os, σ, K => (ev CT e).e os σ fun u σ1 => plQ (fun u => (ev CT o).e os σ1 fun v σ2 => loQ (fun l => stU σ2 n u (fun σ3 => wS k os σ3 K) l) v) u
  | .seti o i e k, os, σ, K => (ev CT e).e os σ fun u σ1 => (ev CT o).e os σ1 fun v σ2 => (ev CT i).e os σ2 fun w σ3 => setiU σ3 (fun σ => wS k os σ K) v u w
  | .setc o lo hi e k, os, σ, K => (ev CT e).e os σ fun u σ1 => (ev CT o).e os σ1 fun v σ2 => (ev CT lo).e os σ2 fun a σ3 => (ev CT hi).e os σ3 fun b σ4 => setcU σ4 (fun σ => wS k os σ K) u a b v
  | .ite t b o k, os, σ, K => (ev CT t).t os σ (fun σ1 => wS b os σ1 ⟨fun os σ => wS k os σ K, K.r, K.l⟩) fun σ1 => wS o os σ1 ⟨fun os σ => wS k os σ K, K.r, K.l⟩
  | .ex e k, os, σ, K => (ev CT e).e os σ fun u σ1 => guB (isnU u) (wS k os σ1 K)
  | .wh t b k, os, σ, K => WhT (ev CT t).t (fun os σ go => wS b os σ ⟨go, K.r, go⟩) (fun os σ => wS k os σ K) os σ
  | .for p e b k, os, σ, K => (ev CT e).e os σ fun u σ1 => bif isOl u then False else srcU σ1 (fun xs stay => ForT xs stay (fun x os σ go => asP os (fun os1 => wS b os1 σ ⟨go, K.r, go⟩) p x) (fun os σ => wS k os σ K) os σ1) u
  | .newL i es k, os, σ, K => (ev CT es).e os σ (argP fun l σ1 => wS k (os.set i (.ol l)) σ1 K)
  | .newD i k, os, σ, K => wS k (os.set i (.od [] [])) σ K
  | .newS i k, os, σ, K => wS k (os.set i (.ok [])) σ K
  | .newC i e k, os, σ, K => (ev CT e).e os σ fun u σ1 => flQ (fun l => wS k (os.set i (.ol l)) σ1 K) u
  | .newI i c es k, os, σ, K => (ev CT es).e os σ (argP fun l σ1 => CI c l σ1 fun fs σ2 => wS k (os.set i (.oi c fs)) σ2 K)
  | .newH i e k, os, σ, K => (ev CT e).e os σ fun u σ1 => dicU σ1 (fun ks l => (σ1.ph = 3 ∧ l = (ks.map fun _ => .b true)) ∧ ∀ o, wS k (os.set i (.lo .held)) { σ1 with ph := 4, held := ks, hob := o } K) u
  | .app i e k, os, σ, K => olQ (fun l => (ev CT e).e os σ fun u σ1 => plQ (fun u => l.length < mxL ∧ wS k (os.set i (.ol (l ++ [u]))) σ1 K) u) (os.getD i .un)
  | .ext i e k, os, σ, K => olQ (fun l => (ev CT e).e os σ fun u σ1 => flQ (fun m => l.length + m.length ≤ mxL ∧ wS k (os.set i (.ol (l ++ m))) σ1 K) u) (os.getD i .un)
  | .put i a b k, os, σ, K => odQ (fun ks l => (ev CT b).e os σ fun u σ1 => plQ (fun u => (ev CT a).e os σ1 fun v σ2 => onI (fun x => ks.length < mxL ∧ wS k (os.set i (.od (dPut x u ks l).1 (dPut x u ks l).2)) σ2 K) v) u) (os.getD i .un)
  | .putS i a k, os, σ, K => okQ (fun ks => (ev CT a).e os σ fun v σ2 => tuQ (fun l => ∃ is : List Int, (l = is.map .i ∧ ks.length < mxL) ∧ wS k (os.set i (.ok (if is ∈ ks then ks else ks ++ [is]))) σ2 K) v) (os.getD i .un)
  | .seto i n e k, os, σ, K => oiQ (fun c l => (ev CT e).e os σ fun u σ1 => plQ (fun u => oQ (fun l' => wS k (os.set i (.oi c l')) σ1 K) (putO c n u l)) u) (os.getD i .un)
  | .frz i k, os, σ, K => fzQ (fun u => wS k (os.set i u) σ K) (os.getD i .un)
  | .adr i k, os, σ, K => olQ (fun l => ∃ is, (l = infU is ∧ σ.ph = 1 ∧ is.length ≤ 1000) ∧ wS k (os.set i (.lo .row)) { σ with ph := 2, row := is } K) (os.getD i .un)
end
noncomputable def rQ (Q : U → St → Prop) : KR := ⟨fun _ => Q .no, Q, fun _ _ => False⟩
end

end
section
noncomputable section
section
variable {cx : Cx} {A : Around} {d : Nat} {P : Addr → Prop} {B W W' : Wd cx} {u v z u2 u3 : U} {x y w : Value} {l m xs us : List U} {ws : List Value} {sc : Scope} {env : Env} {os : Os} {ow ow' : Nat → Option Addr}
variable {Q : U → St → Prop} {Qm : Value → Shared → Prop} {Qu : Unit → Shared → Prop} {Pt Nt : St → Prop} {Qb : Bool → Shared → Prop} {E : Value → Shared → Prop} {R : St → Prop}
theorem isn_ok {ne : Bool} (hu : VR W u x) (hf : isF u = false) (h : ifB (bif isnU u then !ne else ne) (Pt W.σ) (Nt W.σ)) (k : KB W Pt Nt fun b s => Qm (.bool b) s) : wpAny (MD cx) A (compareOp (bif ne then .IsNot else .Is) x .none) Qm NoE W.s := by
  have e : (x == Value.none) = isnU u := by
    have ref : ∀ {P : Value → Prop}, (∀ a, P (.ref a) → (Value.ref a == Value.none) = false) := fun a _ => rfl
    cases u with
    | no => rw [show x = .none from hu]; rfl
    | b c => rw [show x = .bool c from hu]; rfl
    | i a => obtain ⟨t⟩ := (show IntR a x from hu); rfl
    | s a => obtain ⟨t⟩ := (show StrR _ x from hu); rfl
    | f a => exact fot hf.symm
    | lo => obtain ⟨a, c, rfl, _⟩ := hu.lo; rfl
    | rg => obtain ⟨r, t, u', z, g⟩ := (show RgR _ _ _ _ x from hu); rfl
    | tu => obtain ⟨a, c, n, rfl, _⟩ := hu.tu.size; rfl
    | fl => obtain ⟨a, c, n, rfl, _⟩ := hu.fl.size; rfl
    | fd => obtain ⟨a, _, _⟩ := hu.fd; rfl
    | fo => obtain ⟨a, _, _⟩ := hu.fo; rfl
    | ol => obtain ⟨a, _, _⟩ := (show OwR W _ x from hu); rfl
    | od => obtain ⟨a, _, _⟩ := (show OwR W _ x from hu); rfl
    | ok => obtain ⟨a, _, _⟩ := (show OwR W _ x from hu); rfl
    | oi => obtain ⟨a, _, _⟩ := (show OwR W _ x from hu); rfl
    | un => obtain ⟨a, _, _⟩ := (show OwR W _ x from hu); rfl
  cases ne with
  | false => exact is_none_gen (k _ W .refl (by rw [e]; revert h; cases isnU u <;> exact id))
  | true => exact isnot_none_gen (k _ W .refl (by rw [e]; revert h; cases isnU u <;> exact id))
theorem bin_ok {o : Bop} (hu : VR W u x) (hv : VR W v y) (h : binU o u v fun z => Q z W.σ) (k : KV W Q Qm) : wpAny (MD cx) A (binaryOp (opB o) x y) Qm NoE W.s := by
  by_cases e : o = .add
  · subst e; exact add_ok hu hv h k
  · exact bin_int hu hv e h k
theorem cmp_ok {o : Cop} (ak : AOk A d) (hu : VR W u x) (hv : VR W v y) (h : cmpU W.σ o u v (Pt W.σ) (Nt W.σ)) (k : KB W Pt Nt fun b s => Qm (.bool b) s) : wpAny (MD cx) A (compareOp (opC o) x y) Qm NoE W.s := by
  cases o with
  | eq => exact eq_ok ak (.inl rfl) hu hv h k
  | ne => exact eq_ok ak (.inr rfl) hu hv h k
  | isin => exact in_ok ak (.inl rfl) hu hv h k
  | notin => exact in_ok ak (.inr rfl) hu hv h k
  | lt => exact cmp_int (o := .lt) hu hv h k
  | le => exact cmp_int (o := .le) hu hv h k
  | gt => exact cmp_int (o := .gt) hu hv h k
  | ge => exact cmp_int (o := .ge) hu hv h k
theorem KV.le {W1 : Wd cx} (k : KV W Q Qm) (l : Le PF W W1) : KV W1 Q Qm := fun w u W' l' => k w u W' (l.trans l')
theorem KB.le {W1 : Wd cx} (k : KB W Pt Nt Qb) (l : Le PF W W1) : KB W1 Pt Nt Qb := fun b W' l' => k b W' (l.trans l')
theorem KV.kb (k : KV W Q Qm) : KB W (Q (.b true)) (Q (.b false)) fun b s => Qm (.bool b) s := fun b W' l q => k _ (.b b) W' l (show Value.bool b = _ from rfl) (by cases b <;> exact q)
end
section
variable (cx : Cx) (d : Nat) (sc : Scope)
structure SE (f : Os → St → (U → St → Prop) → Prop) (x : Expr) : Prop where
  go : ∀ {A env W os ow Q Qm}, AOk A d → Frm cx sc env W os ow → f os W.σ Q → KV W Q Qm → wpAny (MD cx) A (eval x env) Qm NoE W.s
structure SB (f : Os → St → (St → Prop) → (St → Prop) → Prop) (x : Expr) : Prop where
  go : ∀ {A env W os ow P N Qm}, AOk A d → Frm cx sc env W os ow → f os W.σ P N → KB W P N Qm → wpAny (MD cx) A (isTrue x env (eval x env)) Qm NoE W.s
noncomputable abbrev KA {cx : Cx} (W : Wd cx) (n : Nat) (Q : U → St → Prop) (Qm : List Value → Shared → Prop) : Prop := ∀ ws us W', Le PF W W' → VRs W' us ws → us.length = n → Q (.tu us) W'.σ → Qm ws W'.s
structure SA (f : Os → St → (U → St → Prop) → Prop) (xs : List Expr) : Prop where
  go : ∀ {A env W os ow Q Qm pos}, AOk A d → Frm cx sc env W os ow → f os W.σ Q → KA W xs.length Q Qm → wpAny (MD cx) A (spliced (backTo pos (starEach xs env))) Qm NoE W.s
  pl : PlA xs
  few : xs.length ≤ 28
end
section
variable {cx : Cx} {A : Around} {d : Nat} {P : Addr → Prop} {B W W' : Wd cx} {u v z u2 u3 : U} {x y w : Value} {l m xs us : List U} {ws : List Value} {sc : Scope} {env : Env} {os : Os} {ow ow' : Nat → Option Addr}
variable {Q : U → St → Prop} {Qm : Value → Shared → Prop} {Qu : Unit → Shared → Prop} {Pt Nt : St → Prop} {Qb : Bool → Shared → Prop} {E : Value → Shared → Prop} {R : St → Prop}
variable {e e2 e3 : Expr} {es : List Expr} {p : Pos} {f g h : Os → St → (U → St → Prop) → Prop} {b c : Os → St → (St → Prop) → (St → Prop) → Prop}
theorem SE.bin {o : Bop} (hl : SE cx d sc f e) (hr : SE cx d sc g e2) : SE cx d sc (fun os σ Q => f os σ fun u σ1 => g os σ1 fun v σ2 => binU o u v fun z => Q z σ2) (.BinOp e (opB o) e2 p) := ⟨fun ak F h k => by
  rw [eval_BinOp]
  refine wpAny_bind (hl.go ak F h fun x u W1 l1 hu h => ?_)
  refine wpAny_bind (wpAny_holding (hr.go ak (F.le l1) h fun y v W2 l2 hv h => ?_))
  exact wpAny_bind (wpAny_standAt (wpAny_operating (bin_ok (l2.vr hu) hv h (k.le (l1.trans l2)))))⟩
theorem SE.neg (hl : SE cx d sc f e) : SE cx d sc (fun os σ Q => f os σ fun u σ1 => intU u u fun a _ => Q (.i (-a)) σ1) (.UnaryOp .USub e p) := ⟨fun ak F h k => by
  rw [arm_eval_UnaryOp]
  refine wpAny_bind (hl.go ak F h fun x u W1 l1 hu h => ?_)
  exact wpAny_bind (wpAny_standAt (wpAny_holding (neg_ok (f := fun _ => True) hu h (k.le l1))))⟩
theorem SE.not (hl : SE cx d sc f e) : SE cx d sc (fun os σ Q => f os σ fun u σ1 => trU σ1 (Q (.b false) σ1) (Q (.b true) σ1) u) (.UnaryOp .Not e p) := ⟨fun ak F h k => by
  rw [arm_eval_UnaryOp]
  refine wpAny_bind (hl.go ak F h fun x u W1 l1 hu h => ?_)
  exact wpAny_bind (wpAny_standAt (wpAny_holding (not_value (tr_ok hu h fun b W2 l2 q => (k.le l1).kb _ W2 l2 (by cases b <;> exact q)))))⟩
theorem SB.not (hl : SB cx d sc b e) : SB cx d sc (fun os σ P N => b os σ N P) (.UnaryOp .Not e p) := ⟨fun ak F h k => by
  rw [arm_isTrue_UnaryOp]
  exact wpAny_bind (hl.go ak F h fun b W1 l1 q => wpAny_pure (k _ W1 l1 (by cases b <;> exact q)))⟩
theorem SB.val (hl : SE cx d sc f e) (he : ∀ env, isTrue e env (eval e env) = (do let v ← eval e env; standAt e.pos; holding [v] (truthy v))) : SB cx d sc (mkW f).t e := ⟨fun ak F h k => by
  rw [he]
  exact wpAny_bind (hl.go ak F h fun x u W1 l1 hu h => wpAny_bind (wpAny_standAt (wpAny_holding (tr_ok hu h (k.le l1)))))⟩
theorem SE.cmp {o : Cop} (hl : SE cx d sc f e) (hr : SE cx d sc g e2) (hs : noSet e2 = true) : SE cx d sc (fun os σ Q => f os σ fun u σ1 => g os σ1 fun v σ2 => cmpU σ2 o u v (Q (.b true) σ2) (Q (.b false) σ2)) (.Compare e [opC o] [e2] p) := ⟨fun ak F h k => by
  rw [eval_Compare1, markedBehindIn_of_false (noSet.beh hs)]
  refine wpAny_bind (hl.go ak F h fun x u W1 l1 hu h => ?_)
  refine wpAny_bind (wpAny_holding (hr.go ak (F.le l1) h fun y v W2 l2 hv h => ?_))
  exact wpAny_bind (wpAny_standAt (wpAny_operating (cmp_ok ak (l2.vr hu) hv h (k.le (l1.trans l2)).kb)))⟩
theorem SB.cmp {o : Cop} (hl : SE cx d sc f e) (hr : SE cx d sc g e2) (hs : noSet e2 = true) : SB cx d sc (fun os σ P N => f os σ fun u σ1 => g os σ1 fun v σ2 => cmpU σ2 o u v (P σ2) (N σ2)) (.Compare e [opC o] [e2] p) := ⟨fun ak F h k => by
  rw [isTrue_Compare1, markedBehindIn_of_false (noSet.beh hs)]
  refine wpAny_bind (hl.go ak F h fun x u W1 l1 hu h => ?_)
  refine wpAny_bind (wpAny_holding (hr.go ak (F.le l1) h fun y v W2 l2 hv h => ?_))
  exact wpAny_bind (wpAny_standAt (wpAny_bind (wpAny_operating (cmp_ok ak (l2.vr hu) hv h fun b W3 l3 q => wpAny_holding (wpAny_truthy_bool ((k.le (l1.trans l2)) b W3 l3 q))))))⟩
theorem SB.c2 {o o' : Cop} (hl : SE cx d sc f e) (hm : SE cx d sc g e2) (hr : SE cx d sc h e3) (hs : noSet e3 = true) :
    SB cx d sc (fun os σ P N => f os σ fun u σ1 => g os σ1 fun v σ2 => cmpU σ2 o u v (h os σ2 fun w σ3 => cmpU σ3 o' v w (P σ3) (N σ3)) (N σ2)) (.Compare e [opC o, opC o'] [e2, e3] p) := ⟨fun {A env W os ow P N Qm} ak F hh k => by
  rw [arm_isTrue_Compare]
  refine wpAny_bind (hl.go ak F hh fun x u W1 l1 hu hh => ?_)
  show wpAny _ _ (holding [x] (eval e2 env) >>= _) _ _ _
  refine wpAny_bind (wpAny_holding (hm.go ak (F.le l1) hh fun y v W2 l2 hv hh => ?_))
  refine wpAny_bind (wpAny_standAt (wpAny_bind (wpAny_holding (cmp_ok (Pt := fun σ2 => h os σ2 fun w σ3 => cmpU σ3 o' v w (P σ3) (N σ3)) (Nt := N) ak (l2.vr hu) hv hh fun b W3 l3 q => ?_))))
  refine wpAny_bind (wpAny_release (wpAny_bind (wpAny_holding (wpAny_truthy_bool ?_))))
  have l := (l1.trans l2).trans l3
  cases b with
  | false => exact wpAny_pure (k false W3 l q)
  | true =>
    show wpAny _ _ (holding [y] (markedBehindIn (opC o') e3 (eval e3 env)) >>= _) _ _ _
    rw [markedBehindIn_of_false (noSet.beh hs)]
    refine wpAny_bind (wpAny_holding (hr.go ak (F.le l) q fun z w W4 l4 hw q => ?_))
    exact wpAny_bind (wpAny_standAt (wpAny_bind (wpAny_operating (cmp_ok ak ((l3.trans l4).vr hv) hw q fun b W5 l5 q => wpAny_holding (wpAny_truthy_bool ((k.le (l.trans l4)) b W5 l5 q))))))⟩
end
end

end
section
noncomputable section
section
variable {cx : Cx} {A : Around} {d : Nat} {P : Addr → Prop} {B W W' : Wd cx} {u v z u2 u3 : U} {x y w : Value} {l m xs us : List U} {ws : List Value} {sc : Scope} {env : Env} {os : Os} {ow ow' : Nat → Option Addr}
variable {Q : U → St → Prop} {Qm : Value → Shared → Prop} {Qu : Unit → Shared → Prop} {Pt Nt : St → Prop} {Qb : Bool → Shared → Prop} {E : Value → Shared → Prop} {R : St → Prop}
variable {e e2 e3 : Expr} {es : List Expr} {p p1 : Pos} {f g h : Os → St → (U → St → Prop) → Prop} {b c : Os → St → (St → Prop) → (St → Prop) → Prop}
theorem unQ.inv {R : U → Prop} (h : unQ R u) : u ≠ .un ∧ R u := by
  cases u with
  | un => exact h.elim
  | _ => exact ⟨nofun, h⟩
theorem getD.at {i : Nat} (h : os.getD i .un ≠ .un) : os[i]? = some (os.getD i .un) := by
  rw [List.getD_eq_getElem?_getD] at h ⊢
  cases q : os[i]? with
  | none => rw [q] at h; exact absurd rfl h
  | some v => rfl
theorem SE.name (S : ScOk sc) {i : Nat} {n : Str} {k : NameKind} (h1 : sc.names[i]? = some (n, k)) : SE cx d sc (fun os σ Q => unQ (fun u => Q u σ) (os.getD i .un)) (.Name n p) := ⟨fun ak F h k =>
  let ⟨nu, q⟩ := h.inv
  load_ok F S h1 (getD.at nu) nu fun w r => k w _ _ .refl r q⟩
theorem SE.intC {i : Int} {k : Nat} : SE cx d sc (fun _ σ Q => Q (.i i) σ) (.Constant (.int i) k p) := ⟨fun ak F h k => wpAny_Constant_int (k.int h)⟩
theorem SE.strC {i k : Nat} : SE cx d sc (fun _ σ Q => Q (.s i) σ) (.Constant (.str (sT i)) k p) := ⟨fun {A env W os ow Q Qm} ak F h k => Calls.Constant_str (k _ (.s i) (W.tk _) .tk (show StrR _ _ from .mk _) h)⟩
theorem SE.boolC {i : Bool} {k : Nat} : SE cx d sc (fun _ σ Q => Q (.b i) σ) (.Constant (.bool i) k p) := ⟨fun {A env W os ow Q Qm} ak F h k => by
  show wpAny _ _ (pure _) _ _ _
  exact wpAny_pure (k.boo h)⟩
theorem SE.noC {k : Nat} : SE cx d sc (fun _ σ Q => Q .no σ) (.Constant .none k p) := ⟨fun {A env W os ow Q Qm} ak F h k => by
  show wpAny _ _ (pure _) _ _ _
  exact wpAny_pure (k _ .no W .refl (show Value.none = _ from rfl) h)⟩
structure NameV (cx : Cx) (sc : Scope) (n : Str) (C : Wd cx → Value → Prop) : Prop where
  go : ∀ {A env W os ow p Qm}, Frm cx sc env W os ow → (∀ v, C W v → Qm v W.s) → wpAny (MD cx) A (eval (.Name n p) env) Qm NoE W.s
theorem NameV.glob (S : ScOk sc) {C : Wd cx → Value → Prop} {n : Str} (G : GlV cx n C) (h1 : sc.names.lookup n = some .globalImplicit) (hx : (n == ("__debug__" : Str)) = false) : NameV cx sc n C :=
  ⟨fun F q => glob_ok F S G h1 hx fun w r => q w r⟩
theorem SE.glob {n : Str} (nv : NameV cx sc n fun W v => W.pr u v) : SE cx d sc (fun _ σ Q => Q u σ) (.Name n p) := ⟨fun {A env W os ow Q Qm} ak F h k => nv.go F fun v r => k v u W .refl (.of r r.pl) h⟩
theorem SE.attr (CF : ClsF cx) {n : Nat} (hl : SE cx d sc f e) (hb : noBare e = true) : SE cx d sc (fun os σ Q => f os σ fun u σ1 => atU σ1 n (fun z => Q z σ1) u) (.Attribute e (aN n) p) := ⟨fun ak F h k => by
  rw [arm_eval_Attribute, noBare.go hb]
  refine wpAny_bind (hl.go ak F h fun x u W1 l1 hu h => ?_)
  exact wpAny_bind (wpAny_standAt (wpAny_bind (wpAny_holding (at_ok CF hu h fun w u W2 l2 hu q => wpAny_bind (wpAny_letTemporaryGo (wpAny_pure ((k.le l1) w u W2 l2 hu q)))))))⟩
theorem SE.sub (hl : SE cx d sc f e) (hr : SE cx d sc g e2) (hs : ∀ o w, subscripted e2 false o w = operate [o, w] (getItem o w)) : SE cx d sc (fun os σ Q => f os σ fun u σ1 => g os σ1 fun v σ2 => subU σ2 u v fun z => Q z σ2) (.Subscript e e2 p) := ⟨fun ak F h k => by
  rw [arm_eval_Subscript]
  refine wpAny_bind (hl.go ak F h fun x u W1 l1 hu h => ?_)
  refine wpAny_bind (wpAny_holding (hr.go ak (F.le l1) h fun y v W2 l2 hv h => ?_))
  refine wpAny_bind (wpAny_standAt ?_)
  obtain ⟨⟨T, id, hT, hl⟩, q⟩ := sub_ok (A := _) (l2.vr hu) hv h fun w u W3 l3 hu q => (k.le (l1.trans l2)) w u W3 l3 (.of hu hu.pl) q
  show wpAny _ _ (subscriptTail _ _ _ _) _ _ _
  exact tail_any hT hl q (hs _ _)⟩
structure SO (cx : Cx) (d : Nat) (sc : Scope) (f : Os → St → (U → St → Prop) → Prop) (x : Option Expr) : Prop where
  go : ∀ {A env W os ow Q Qm}, AOk A d → Frm cx sc env W os ow → f os W.σ Q → KV W Q Qm → wpAny (MD cx) A (valueOrNone (evalOpt x env)) Qm NoE W.s
theorem SO.no : SO cx d sc (fun _ σ Q => Q .no σ) none := ⟨fun {A env W os ow Q Qm} ak F h k => wpAny_pure (k _ .no W .refl (show Value.none = _ from rfl) h)⟩
theorem SO.ofE (h : SE cx d sc f e) : SO cx d sc f (some e) := ⟨h.go⟩
theorem slice_obj {o2 o3 : Option Expr} (h2 : SO cx d sc g o2) (h3 : SO cx d sc h o3) {os : Os} (ak : AOk A d) (F : Frm cx sc env W os ow) {R : U → U → St → Prop} (hh : g os W.σ fun v σ1 => h os σ1 fun w σ2 => R v w σ2)
    (k : ∀ sl v w y z W', Le PF W W' → VR W' v y → VR W' w z → W'.s.heap.IsSliceOf sl y z .none → R v w W'.σ → Qm (.ref sl) W'.s) : wpAny (MD cx) A (eval (.Slice o2 o3 none p) env) Qm NoE W.s := by
  rw [arm_eval_Slice]
  refine wpAny_bind (h2.go ak F hh fun y v W1 l1 hv hh => ?_)
  refine wpAny_bind (wpAny_holding (h3.go ak (F.le l1) hh fun z w W2 l2 hw hh => ?_))
  show wpAny _ _ (holding [y, z] (pure Value.none) >>= _) _ _ _
  refine wpAny_bind (wpAny_holding (wpAny_pure ?_))
  have lp : Le PF W2 (W2.push { cls := .type "slice", data := .fields #[y, z, .none] }) := Le.push
  exact wpAny_newObj_type (k _ v w y z (W2.push { cls := .type "slice", data := .fields #[y, z, .none] }) ((l1.trans l2).trans lp) ((l2.trans lp).vr hv) (lp.vr hw) ⟨_, Heap.get?_push_size _ rfl, rfl, rfl⟩ hh) (by size_fits)
theorem SE.cut {o2 o3 : Option Expr} (hl : SE cx d sc f e) (h2 : SO cx d sc g o2) (h3 : SO cx d sc h o3) : SE cx d sc (fun os σ Q => f os σ fun u σ1 => g os σ1 fun v σ2 => h os σ2 fun w σ3 => cutU σ3 u v w fun z => Q z σ3) (.Subscript e (.Slice o2 o3 none p1) p) := ⟨fun {A env W os ow Q Qm} ak F hh k => by
  rw [arm_eval_Subscript]
  refine wpAny_bind (hl.go ak F hh fun x u W1 l1 hu hh => ?_)
  refine wpAny_bind (wpAny_holding (slice_obj (R := fun v w σ => cutU σ u v w fun z => Q z σ) h2 h3 ak (F.le l1) hh fun sl v w y z W2 l2 hv hw hs hh => ?_))
  refine wpAny_bind (wpAny_standAt ?_)
  obtain ⟨⟨T, id, hT, hl⟩, q⟩ := cut_ok (A := A) (l2.vr hu) hv hw hs hh (k.le (l1.trans l2))
  show wpAny _ _ (subscriptTail _ _ _ _) _ _ _
  exact tail_any hT hl q rfl⟩
theorem SE.and {r : List Expr} (hl : SE cx d sc f e) (hr : SE cx d sc g (match r with | [] => e2 | _ => .BoolOp .And (e2 :: r) p)) : SE cx d sc (fun os σ Q => f os σ fun u σ1 => bQ (g os σ1 Q) (Q (.b false) σ1) u) (.BoolOp .And (e :: e2 :: r) p) := ⟨fun {A env W os ow Q Qm} ak F h k => by
  show wpAny _ _ (eval e env >>= _) _ _ _
  refine wpAny_bind (hl.go ak F h fun x u W1 l1 hu h => ?_)
  cases u with
  | b c =>
    rw [show x = .bool c from hu]
    refine wpAny_bind (wpAny_standAt (wpAny_bind (wpAny_holding (wpAny_truthy_bool ?_))))
    cases c with
    | false => exact wpAny_pure ((k.le l1).boo h)
    | true =>
      have q := hr.go ak (F.le l1) h (k.le l1)
      cases r <;> exact q
  | _ => exact h.elim⟩
theorem SB.and {r : List Expr} (hl : SB cx d sc b e) (hr : SB cx d sc c (match r with | [] => e2 | _ => .BoolOp .And (e2 :: r) p)) : SB cx d sc (fun os σ P N => b os σ (fun σ1 => c os σ1 P N) N) (.BoolOp .And (e :: e2 :: r) p) := ⟨fun {A env W os ow Pt Nt Qm} ak F h k => by
  show wpAny _ _ (allTrue .And (e :: e2 :: r) env) _ _ _
  rw [arm_allTrue_cons]
  refine wpAny_bind (hl.go (P := fun σ1 => c os σ1 Pt Nt) (N := Nt) ak F h fun b W1 l1 q => ?_)
  cases b with
  | false => exact wpAny_pure (k false W1 l1 q)
  | true =>
    cases r with
    | nil =>
      show wpAny _ _ (allTrue .And [e2] env) _ _ _
      rw [arm_allTrue_cons]
      refine wpAny_bind (hr.go ak (F.le l1) q fun b W2 l2 q => ?_)
      cases b <;> exact wpAny_pure ((k.le l1) _ W2 l2 q)
    | cons => exact hr.go ak (F.le l1) q (k.le l1)⟩
theorem SB.or {r : List Expr} (hl : SB cx d sc b e) (hr : SB cx d sc c (match r with | [] => e2 | _ => .BoolOp .Or (e2 :: r) p)) : SB cx d sc (fun os σ P N => b os σ P fun σ1 => c os σ1 P N) (.BoolOp .Or (e :: e2 :: r) p) := ⟨fun {A env W os ow Pt Nt Qm} ak F h k => by
  show wpAny _ _ (allTrue .Or (e :: e2 :: r) env) _ _ _
  rw [arm_allTrue_cons]
  refine wpAny_bind (hl.go (P := Pt) (N := fun σ1 => c os σ1 Pt Nt) ak F h fun b W1 l1 q => ?_)
  cases b with
  | true => exact wpAny_pure (k true W1 l1 q)
  | false =>
    cases r with
    | nil =>
      show wpAny _ _ (allTrue .Or [e2] env) _ _ _
      rw [arm_allTrue_cons]
      refine wpAny_bind (hr.go ak (F.le l1) q fun b W2 l2 q => ?_)
      cases b <;> exact wpAny_pure ((k.le l1) _ W2 l2 q)
    | cons => exact hr.go ak (F.le l1) q (k.le l1)⟩
theorem SE.ite (ht : SB cx d sc b e) (ha : SE cx d sc f e2) (hb : SE cx d sc g e3) : SE cx d sc (fun os σ Q => b os σ (fun σ1 => f os σ1 Q) fun σ1 => g os σ1 Q) (.IfExp e e2 e3 p) := ⟨fun {A env W os ow Q Qm} ak F h k => by
  rw [arm_eval_IfExp]
  refine wpAny_bind (ht.go (P := fun σ1 => f os σ1 Q) (N := fun σ1 => g os σ1 Q) ak F h fun b W1 l1 q => ?_)
  cases b with
  | true => exact ha.go ak (F.le l1) q (k.le l1)
  | false => exact hb.go ak (F.le l1) q (k.le l1)⟩
end
end

end
section
noncomputable section
section
variable {cx : Cx} {A : Around} {d : Nat} {P : Addr → Prop} {B W W' : Wd cx} {u v z u2 u3 : U} {x y w : Value} {l m xs us : List U} {ws : List Value} {sc : Scope} {env : Env} {os : Os} {ow ow' : Nat → Option Addr}
variable {Q : U → St → Prop} {Qm : Value → Shared → Prop} {Qu : Unit → Shared → Prop} {Pt Nt : St → Prop} {Qb : Bool → Shared → Prop} {E : Value → Shared → Prop} {R : St → Prop}
variable {e e2 e3 : Expr} {es : List Expr} {p p1 : Pos} {f g h : Os → St → (U → St → Prop) → Prop} {b c : Os → St → (St → Prop) → (St → Prop) → Prop}
theorem SA.nil : SA cx d sc (fun _ σ Q => Q (.tu []) σ) [] := ⟨fun {A env W os ow Q Qm pos} ak F h k => wpAny_pure (k [] [] W .refl .nil rfl h), fun _ h => (nomatch h), Nat.zero_le _⟩
theorem consU.inv {R : U → Prop} (h : consU u R v) : ∃ l, v = .tu l ∧ R (.tu (u :: l)) := by
  cases v with
  | tu l => exact ⟨l, rfl, h⟩
  | _ => exact h.elim
theorem SA.cons (hl : SE cx d sc f e) (hs : noStar e = true) (hr : SA cx d sc g es) (hn : es.length < 28) : SA cx d sc (fun os σ Q => f os σ fun u σ1 => g os σ1 fun v σ2 => consU u (fun z => Q z σ2) v) (e :: es) :=
  ⟨fun {A env W os ow Q Qm pos} ak F h k => by
    rw [noStar.go hs]
    show wpAny _ _ (spliced ((false, eval e env) :: backTo pos (starEach es env))) _ _ _
    rw [spliced]
    refine wpAny_bind (hl.go ak F h fun x u W1 l1 hu h => ?_)
    simp only [Bool.false_eq_true, if_false]
    refine wpAny_bind (wpAny_pure (wpAny_bind (wpAny_holding (hr.go ak (F.le l1) h fun ws us W2 l2 hus hn h => wpAny_pure ?_))))
    obtain ⟨l, e, q⟩ := consU.inv h
    cases e
    exact k _ _ W2 (l1.trans l2) (.cons (l2.vr hu) hus) (congrArg (· + 1) hn) q, fun y hy => (List.mem_cons.mp hy).elim (fun q => q ▸ hs) (hr.pl y), hn⟩
theorem VRs.prs {W : Wd cx} : ∀ {us : List U} {ws : List Value}, VRs W us ws → us.all U.pl = true → W.prs us ws
  | _, _, .nil, _ => rfl
  | _, _, .cons h t, p => let q := Bool.and_eq_true_iff.mp p; .cons (h.pr q.1) (VRs.prs t q.2)
theorem SA.pln {Qs : List Value → Shared → Prop} {pos : Pos} {R : List U → St → Prop} (ha : SA cx d sc f es) (ak : AOk A d) (F : Frm cx sc env W os ow) (h : f os W.σ (argP R)) (k : ∀ ws us W', Le PF W W' → W'.prs us ws → us.length = es.length → R us W'.σ → Qs ws W'.s) :
    wpAny (MD cx) A (spliced (backTo pos (starEach es env))) Qs NoE W.s := ha.go ak F h fun ws us W1 l1 r hn q => by
  obtain ⟨p, q⟩ := ifB.t (show guB (us.all U.pl) (R us W1.σ) from q)
  exact k ws us W1 l1 (VRs.prs r p) hn q
theorem few_line {n : Nat} (h : n ≤ 28) : n ≤ sizeLine := Nat.le_trans h (by decide)
theorem SE.tup {k : Nat} (ha : SA cx d sc f es) : SE cx d sc (fun os σ Q => f os σ (argP fun l σ1 => Q (.tu l) σ1)) (.Tuple es k p) := ⟨fun {A env W os ow Q Qm} ak F h k => by
  rw [arm_eval_Tuple]
  refine wpAny_bind (wpAny_standAt (wpAny_bind (ha.pln ak F h fun ws us W1 l1 r hn q => ?_)))
  have hz : us.length ≤ sizeLine := few_line (hn ▸ ha.few)
  exact wpAny_newObj_type (new_tu (ws := ws.toArray) r hz (k.le l1) q) (by show ws.toArray.size ≤ sizeLine; rw [List.size_toArray, r.len]; exact hz)⟩
theorem SE.lst (ha : SA cx d sc f es) : SE cx d sc (fun os σ Q => f os σ (argP fun l σ1 => Q (.fl l) σ1)) (.List es p) := ⟨fun {A env W os ow Q Qm} ak F h k => by
  rw [arm_eval_List]
  refine wpAny_bind (wpAny_standAt (wpAny_bind (ha.pln ak F h fun ws us W1 l1 r hn q => ?_)))
  have hz : us.length ≤ sizeLine := few_line (hn ▸ ha.few)
  exact wpAny_newObj_type (new_fl (ws := ws.toArray) r hz (k.le l1) q) (by show ws.toArray.size ≤ sizeLine; rw [List.size_toArray, r.len]; exact hz)⟩
theorem CallT.use {k : Nat} (c : CallT cx d k us W.σ Q) (ak : AOk A d) (r : W.prs us ws) (kk : KV W Q Qm) : KeepOk cx (cx.fv k) A W.s ∧ wpAny (MD cx) A (call (cx.fv k) ws) Qm NoE W.s :=
  c.h A W ws Qm ak rfl r fun w u W' l h q => kk w u W' l (.of h h.pl) q
theorem SE.call {k : Nat} {n : Str} (nv : NameV cx sc n fun _ v => v = cx.fv k) (ha : SA cx d sc f es) : SE cx d sc (fun os σ Q => f os σ (argP fun l σ1 => CallT cx d k l σ1 Q)) (.Call (.Name n p1) es [] p) := ⟨fun {A env W os ow Q Qm} ak F h kk => by
  rw [arm_eval_Call_Name']
  refine wpAny_bind (nv.go F fun v e => ?_)
  subst e
  exact callWith_ok (first := []) ha.pl (ha.pln ak F h fun ws us W1 l1 r hn q => q.use ak r (kk.le l1))⟩
theorem fQ.inv {R : Nat → Prop} (h : fQ R u) : ∃ k, u = .f k ∧ R k := by
  cases u with
  | f k => exact ⟨k, rfl, h⟩
  | _ => exact h.elim
theorem SE.cv (S : ScOk sc) {i : Nat} {n : Str} {kd : NameKind} (h1 : sc.names[i]? = some (n, kd)) (ha : SA cx d sc f es) : SE cx d sc (fun os σ Q => fQ (fun k => f os σ (argP fun l σ1 => CallT cx d k l σ1 Q)) (os.getD i .un)) (.Call (.Name n p1) es [] p) := ⟨fun {A env W os ow Q Qm} ak F h kk => by
  obtain ⟨k, e, h⟩ := fQ.inv h
  rw [arm_eval_Call_Name']
  refine wpAny_bind (load_ok F S h1 (getD.at (by rw [e]; nofun)) (by rw [e]; nofun) fun w r => ?_)
  rw [e] at r
  rw [show w = cx.fv k from r]
  exact callWith_ok (first := []) ha.pl (ha.pln ak F h fun ws us W1 l1 r hn q => q.use ak r (kk.le l1))⟩
theorem SE.bi (CF : ClsF cx) {w : Bi} {n : Str} (nv : NameV cx sc n fun _ v => v = biV w) (ha : SA cx d sc f es) : SE cx d sc (fun os σ Q => f os σ (argQ fun l σ1 => biU σ1 (fun z => Q z σ1) l w)) (.Call (.Name n p1) es [] p) := ⟨fun {A env W os ow Q Qm} ak F h kk => by
  rw [arm_eval_Call_Name']
  refine wpAny_bind (nv.go F fun v e => ?_)
  subst e
  exact callWith_ok (first := []) ha.pl (ha.go ak F h fun ws us W1 l1 r hn q => bi_ok CF ak r q (kk.le l1))⟩
inductive MthI (u : U) (n k : Nat) : Prop
  | mk (c : Nat) (ml : List (Nat × Nat)) (e1 : clU u = some c) (e2 : lkN c mths = some ml) (e3 : lkN n ml = some k) : MthI u n k
theorem mthU.inv {n k : Nat} (h : mthU u n = some k) : MthI u n k := by
  unfold mthU at h
  cases e : clU u with
  | none => rw [e] at h; exact nos h
  | some c =>
    rw [e] at h
    cases e2 : lkN c mths with
    | none => exact nos (by rw [← h]; show none = match lkN c mths with | some l => lkN n l | none => none; rw [e2])
    | some ml => exact .mk c ml e e2 (by rw [← h]; show lkN n ml = match lkN c mths with | some l => lkN n l | none => none; rw [e2])
theorem cls_mth {c : Nat} {ml : List (Nat × Nat)} (h : lkN c mths = some ml) : ∃ ns, lkN c cF = some ns := by
  have key : ∀ (l : List (Nat × List (Nat × Nat))), (l.all fun p => (lkN p.1 cF).isSome) = true → lkN c l = some ml → (lkN c cF).isSome = true := by
    intro l
    induction l with
    | nil => exact fun _ h => nos h
    | cons q l ih =>
      intro a h
      obtain ⟨j, y⟩ := q
      have a := Bool.and_eq_true_iff.mp a
      have h : (bif Nat.beq j c then some y else lkN c l) = some ml := h
      cases e : Nat.beq j c with
      | true => exact Nat.eq_of_beq_eq_true e ▸ a.1
      | false => rw [e] at h; exact ih a.2 h
  exact Option.isSome_iff_exists.mp (key mths rfl h)
theorem clU.inh {c : Nat} (hu : VR W u x) (h : clU u = some c) : ∃ l, InH W c l x := by
  have lo : ∀ {k p}, VR W (.lo k) x → lf W.σ k = some p → ∃ l, InH W p.1 l x := fun hu e => let ⟨a, dd, us, e1, _, hH, _⟩ := hu.lf e; ⟨us, e1 ▸ .mk a dd (CellR.ins hH)⟩
  cases u with
  | fo c' l => exact (Option.some.inj h) ▸ ⟨l, hu.fo⟩
  | lo k => cases k with
    | buf => exact (Option.some.inj h) ▸ lo hu rfl
    | inf i => exact (Option.some.inj h) ▸ lo hu rfl
    | _ => exact nos h
  | _ => exact nos h
theorem SE.mth (CF : ClsF cx) {n : Nat} (hl : SE cx d sc f e) (ha : SA cx d sc g es) (hb : noBare e = true) (hline : (p1.endLine == p.line) = true) : SE cx d sc (fun os σ Q => f os σ fun u σ1 => oQ (fun k => g os σ1 (argP fun l σ2 => guB u.pl (CallT cx d k (u :: l) σ2 Q))) (mthU u n)) (.Call (.Attribute e (aN n) p1) es [] p) := ⟨fun {A env W os ow Q Qm} ak F h kk => by
  refine meth_ok hb hline (Nat.lt_succ_of_le ha.few) ha.pl (hl.go ak F h fun x u W1 l1 hu h pl => ?_)
  obtain ⟨k, e1, h⟩ := oQ.inv h
  obtain ⟨c, ml, e2, e3, e4⟩ := mthU.inv e1
  obtain ⟨ns, hc⟩ := cls_mth e3
  obtain ⟨lu, hi⟩ := clU.inh hu e2
  refine getM_inst CF hi hc e3 e4 (ha.pln ak (F.le l1) h fun ws us W2 l2 r hn q => ?_)
  obtain ⟨hp, q⟩ := ifB.t q
  exact q.use ak (.cons ((l2.vr hu).pr hp) r) (kk.le (l1.trans l2))⟩
end
end

end
section
noncomputable section
section
variable {cx : Cx} {A : Around} {d : Nat} {P : Addr → Prop} {B W W' : Wd cx} {u v z u2 u3 : U} {x y w : Value} {l m xs us : List U} {ws : List Value} {sc : Scope} {env : Env} {os : Os} {ow ow' : Nat → Option Addr}
variable {Q : U → St → Prop} {Qm : Value → Shared → Prop} {Qu : Unit → Shared → Prop} {Pt Nt : St → Prop} {Qb : Bool → Shared → Prop} {E : Value → Shared → Prop} {R : St → Prop}
variable {e e2 e3 : Expr} {es : List Expr} {p p1 p2 : Pos} {f g h : Os → St → (U → St → Prop) → Prop} {b c : Os → St → (St → Prop) → (St → Prop) → Prop}
noncomputable def isOp (ne : Bool) : CmpOp := bif ne then .IsNot else .Is
noncomputable def eqOp (ne : Bool) : CmpOp := bif ne then .NotEq else .Eq
theorem SB.isn {ne : Bool} {k : Nat} (hl : SE cx d sc f e) : SB cx d sc (fun os σ P N => f os σ fun u σ1 => nfQ (fun u => ifB (bif isnU u then !ne else ne) (P σ1) (N σ1)) u) (.Compare e [isOp ne] [.Constant .none k p2] p) := ⟨fun {A env W os ow P N Qm} ak F h k => by
  rw [isTrue_Compare1, markedBehindIn_of_false (noSet.beh rfl)]
  refine wpAny_bind (hl.go ak F h fun x u W1 l1 hu h => ?_)
  refine wpAny_bind (wpAny_holding ?_)
  show wpAny _ _ (pure Value.none) _ _ _
  refine wpAny_pure (wpAny_bind (wpAny_standAt (wpAny_bind (wpAny_operating ?_))))
  obtain ⟨hf, h⟩ := h.inv
  exact isn_ok hu hf h fun b W3 l3 q => wpAny_holding (wpAny_truthy_bool ((k.le l1) b W3 l3 q))⟩
noncomputable def emE (tu : Bool) (k : Nat) (p : Pos) : Expr := bif tu then .Tuple [] k p else .List [] p
inductive EmI (P N : Prop) : Bool → U → Prop
  | t (l : List U) (d : ∃ n, n ≤ 500 ∧ ∀ x ∈ l, Dt n x) (h : (l = [] → P) ∧ (l ≠ [] → N)) : EmI P N true (.tu l)
  | l (l : List U) (h : (l = [] → P) ∧ (l ≠ [] → N)) : EmI P N false (.fl l)
  | o (l : List U) (h : (l = [] → P) ∧ (l ≠ [] → N)) : EmI P N false (.ol l)
theorem emU.inv {P N : Prop} {tu : Bool} (h : emU P N tu u) : EmI P N tu u := by
  cases u with
  | tu l => cases tu with
    | true => exact .t l h.1 h.2
    | false => exact h.elim
  | fl l => cases tu with
    | true => exact h.elim
    | false => exact .l l h
  | ol l => cases tu with
    | true => exact h.elim
    | false => exact .o l h
  | _ => exact h.elim
noncomputable def emV (tu : Bool) : U := bif tu then .tu [] else .fl []
theorem emE.go {tu : Bool} {k : Nat} (ak : AOk A d) (F : Frm cx sc env W os ow) (kk : ∀ y W1, Le PF W W1 → W1.σ = W.σ → VR W1 (emV tu) y → Qm y W1.s) : wpAny (MD cx) A (eval (emE tu k p) env) Qm NoE W.s := by
  cases tu with
  | true => exact (SE.tup (sc := sc) (k := k) (p := p) SA.nil).go (Q := fun u σ => u = .tu [] ∧ σ = W.σ) ak F ⟨rfl, rfl⟩ fun y v W1 l1 hv e => kk y W1 l1 e.2 (by rw [e.1] at hv; exact hv)
  | false => exact (SE.lst (sc := sc) (p := p) SA.nil).go (Q := fun u σ => u = .fl [] ∧ σ = W.σ) ak F ⟨rfl, rfl⟩ fun y v W1 l1 hv e => kk y W1 l1 e.2 (by rw [e.1] at hv; exact hv)
theorem em_cmp {Pp Np : St → Prop} {ne tu : Bool} (ak : AOk A d) (hu : VR W u x) (hv : VR W (emV tu) y) (h : emU (Pp W.σ) (Np W.σ) tu u) (kk : KB W (fun σ => ifB ne (Np σ) (Pp σ)) (fun σ => ifB ne (Pp σ) (Np σ)) fun b s => Qm (.bool b) s) :
    wpAny (MD cx) A (compareOp (eqOp ne) x y) Qm NoE W.s := by
  cases emU.inv h with
  | t l d h' => exact em_tup (ne := ne) ak hu.tu (VR.tu hv) d h' kk
  | l l h' => exact em_lst (ne := ne) ak hu.fl (VR.fl hv) h' kk
  | o l h' => exact em_lst (ne := ne) ak hu.ol (VR.fl hv) h' kk
theorem emE.beh {ne tu : Bool} {k : Nat} : behindInMarks (eqOp ne) (emE tu k p) = false := noSet.beh (by cases tu <;> rfl)
theorem SE.em {ne tu : Bool} {k : Nat} (hl : SE cx d sc f e) : SE cx d sc (fun os σ Q => f os σ fun u σ1 => emU (Q (.b (!ne)) σ1) (Q (.b ne) σ1) tu u) (.Compare e [eqOp ne] [emE tu k p2] p) := ⟨fun {A env W os ow Q Qm} ak F h kk => by
  rw [eval_Compare1, markedBehindIn_of_false emE.beh]
  refine wpAny_bind (hl.go ak F h fun x u W1 l1 hu h => ?_)
  refine wpAny_bind (wpAny_holding (emE.go ak (F.le l1) fun y W2 l2 es hv => wpAny_bind (wpAny_standAt (wpAny_operating (em_cmp (Pp := Q (.b (!ne))) (Np := Q (.b ne)) (ne := ne) ak (l2.vr hu) hv (by rw [es]; exact h) fun b W3 l3 q => (kk.le (l1.trans l2)) _ (.b b) W3 l3 (show Value.bool b = _ from rfl) ?_)))))
  cases b <;> cases ne <;> exact q⟩
theorem SB.em {ne tu : Bool} {k : Nat} (hl : SE cx d sc f e) : SB cx d sc (fun os σ P N => f os σ fun u σ1 => emU (ifB ne (N σ1) (P σ1)) (ifB ne (P σ1) (N σ1)) tu u) (.Compare e [eqOp ne] [emE tu k p2] p) := ⟨fun {A env W os ow P N Qm} ak F h kk => by
  rw [isTrue_Compare1, markedBehindIn_of_false emE.beh]
  refine wpAny_bind (hl.go ak F h fun x u W1 l1 hu h => ?_)
  refine wpAny_bind (wpAny_holding (emE.go ak (F.le l1) fun y W2 l2 es hv => wpAny_bind (wpAny_standAt (wpAny_bind (wpAny_operating (em_cmp (Pp := fun σ => ifB ne (N σ) (P σ)) (Np := fun σ => ifB ne (P σ) (N σ)) (ne := ne) ak (l2.vr hu) hv (by rw [es]; exact h) fun b W3 l3 q => wpAny_holding (wpAny_truthy_bool ((kk.le (l1.trans l2)) b W3 l3 ?_))))))))
  cases b <;> cases ne <;> exact q⟩
noncomputable def gtQ (R : U → Prop) (z : U) (a : Int) (o : Option (List Int × List U)) : Prop := match o with
  | some p => gu0 z.pl (R ((dGet a p.1 p.2).getD z))
  | none => False
theorem gtQ.inv {R : U → Prop} {a : Int} {o : Option (List Int × List U)} (h : gtQ R z a o) : ∃ p, o = some p ∧ z.pl = true ∧ R ((dGet a p.1 p.2).getD z) := by
  cases o with
  | none => exact h.elim
  | some p => exact ⟨p, rfl, ifB.t h⟩
theorem isDc.go (hu : VR W u x) (h : isDc u = true) : ∃ ks l, DiH W ks l x := by
  cases u with
  | fd ks l => exact ⟨ks, l, hu.fd⟩
  | od ks l => exact ⟨ks, l, hu.od⟩
  | lo k => cases k with
    | held => exact ⟨_, _, hu.held⟩
    | _ => exact fot h
  | _ => exact fot h
theorem SE.get (hl : SE cx d sc f e) (h2 : SE cx d sc g e2) (h3 : SE cx d sc h e3) (hb : noBare e = true) (s2 : noStar e2 = true) (s3 : noStar e3 = true) (hline : (p1.endLine == p.line) = true) :
    SE cx d sc (fun os σ Q => f os σ fun u σ1 => guB (isDc u) (g os σ1 fun v σ2 => h os σ2 fun w σ3 => getU σ3 u v w fun z => Q z σ3)) (.Call (.Attribute e (Str.ofString "get") p1) [e2, e3] [] p) := ⟨fun {A env W os ow Q Qm} ak F hh kk => by
  have ha : SA cx d sc (fun os σ Q => g os σ fun v σ1 => h os σ1 fun w σ2 => Q (.tu [v, w]) σ2) [e2, e3] := SA.cons h2 s2 (SA.cons h3 s3 SA.nil (Nat.zero_lt_succ _)) (Nat.lt_of_sub_eq_succ rfl)
  refine meth_ok hb hline (Nat.lt_of_sub_eq_succ rfl) ha.pl (hl.go ak F hh fun x u W1 l1 hu hh pl => ?_)
  obtain ⟨hd, hh⟩ := ifB.t hh
  obtain ⟨ks, l, hd⟩ := isDc.go hu hd
  refine getM_get hd (ha.go (Q := fun t σ3 => argQ (fun l σ3 => two (fun v w => getU σ3 u v w fun z => Q z σ3) l) t σ3) ak (F.le l1) hh fun ws us W2 l2 r hn q => ⟨keep_b, VRs.two (C := fun ws => wpAny (MD cx) A (PySem.call (.builtin "dict.get") ([x] ++ ws)) Qm NoE W2.s) q r fun v w y z ra rb q => ?_⟩)
  refine onI.go (C := fun y => wpAny (MD cx) A (PySem.call (.builtin "dict.get") [x, y, z]) Qm NoE W2.s) ra q fun a t q => ?_
  obtain ⟨p, e, hp, q⟩ := gtQ.inv (R := fun z => Q z W2.σ) (z := w) (a := a) (o := dcU W2.σ u) q
  exact get_ok (dcU.go (l2.vr hu) e) (rb.pr hp) q (kk.le (l1.trans l2)) hp⟩
end
end

end
section
noncomputable section
section
variable {cx : Cx} {A : Around} {d : Nat} {P : Addr → Prop} {B W W' : Wd cx} {u v z u2 u3 : U} {x y w : Value} {l m xs us : List U} {ws : List Value} {sc : Scope} {env : Env} {os : Os} {ow ow' : Nat → Option Addr}
variable {Q : U → St → Prop} {Qm : Value → Shared → Prop} {Qu : Unit → Shared → Prop} {Pt Nt : St → Prop} {Qb : Bool → Shared → Prop} {E : Value → Shared → Prop} {R : St → Prop}
variable {e e2 e3 : Expr} {es : List Expr} {p p1 p2 : Pos} {f g h : Os → St → (U → St → Prop) → Prop} {b c : Os → St → (St → Prop) → (St → Prop) → Prop} {ks : List (Option Expr)}
noncomputable def flatP (vs : List (Value × Value)) : List Value := vs.flatMap fun p => [p.1, p.2]
structure SP (cx : Cx) (d : Nat) (sc : Scope) (f : Os → St → (U → St → Prop) → Prop) (ks : List (Option Expr)) (es : List Expr) : Prop where
  go : ∀ {A env W os ow Q} {Qm : List (Value × Value) → Shared → Prop} {pos}, AOk A d → Frm cx sc env W os ow → f os W.σ Q → (∀ vs us W', Le PF W W' → VRs W' us (flatP vs) → Q (.tu us) W'.σ → Qm vs W'.s) → wpAny (MD cx) A (evalPairs (pairTrees ks es env pos)) Qm NoE W.s
  all : ks.all (·.isSome) = true
  len : ks.length = es.length
theorem SP.nil : SP cx d sc (fun _ σ Q => Q (.tu []) σ) [] [] := ⟨fun {A env W os ow Q Qm pos} ak F h k => evalPairs_nil (k [] [] W .refl .nil h), rfl, rfl⟩
theorem SP.cons (h1 : SE cx d sc f e) (h2 : SE cx d sc g e2) (h3 : SP cx d sc h ks es) : SP cx d sc (fun os σ Q => f os σ fun u σ1 => g os σ1 fun v σ2 => h os σ2 fun t σ3 => consU v (fun z => consU u (fun z => Q z σ3) z) t) (some e :: ks) (e2 :: es) :=
  ⟨fun {A env W os ow Q Qm pos} ak F hh k => by
    show wpAny _ _ (evalPairs ((eval e env, (do let x ← eval e2 env; standAt pos; pure x)) :: pairTrees ks es env pos)) _ _ _
    refine evalPairs_cons (h1.go ak F hh fun x u W1 l1 hu hh => ?_)
    refine wpAny_bind (h2.go ak (F.le l1) hh fun y v W2 l2 hv hh => ?_)
    refine wpAny_bind (wpAny_standAt (wpAny_pure (h3.go ak ((F.le l1).le l2) hh fun vs us W3 l3 r q => ?_)))
    obtain ⟨l, e, q⟩ := consU.inv q
    cases e
    exact k _ _ W3 ((l1.trans l2).trans l3) (.cons ((l2.trans l3).vr hu) (.cons (l3.vr hv) r)) q, h3.all, congrArg (· + 1) h3.len⟩
inductive PairI (cx : Cx) (W : Wd cx) (vs : List (Value × Value)) (ks : List Int) (l : List U) : Prop
  | mk (ws : List Value) (c : Carries (IK cx) vs (ks.zip ws)) (hk : ks.length = ws.length) (r : W.prs l ws) : PairI cx W vs ks l
inductive PaI (us : List U) (p : List Int × List U) : Prop
  | nil (e : us = []) (h : p = ([], [])) : PaI us p
  | cons (k : Int) (u : U) (r : List U) (q : List Int × List U) (e : us = .i k :: u :: r) (e2 : pairs r = some q) (h : p = (k :: q.1, u :: q.2)) : PaI us p
theorem pairs.inv {p : List Int × List U} (h : pairs us = some p) : PaI us p := by
  cases us with
  | nil => exact .nil rfl (Option.some.inj h).symm
  | cons a us => cases a with
    | i k => cases us with
      | nil => exact nos h
      | cons u r =>
        have h : (match pairs r with | some p => some (k :: p.1, u :: p.2) | none => none) = some p := h
        cases e : pairs r with
        | none => rw [e] at h; exact nos h
        | some q => rw [e] at h; exact .cons k u r q rfl e (Option.some.inj h).symm
    | _ => cases us <;> exact nos h
theorem pairs.go : ∀ {vs : List (Value × Value)} {us : List U} {p : List Int × List U}, VRs W us (flatP vs) → us.all U.pl = true → pairs us = some p → PairI cx W vs p.1 p.2
  | [], us, p, r, hp, h => by
    cases pairs.inv h with
    | nil e h' => subst e h'; exact .mk [] trivial rfl rfl
    | cons k u r' q e e2 h => subst e; exact nomatch r
  | (a, b) :: vs, us, p, r, hp, h => by
    cases pairs.inv h with
    | nil e h => subst e; exact nomatch r
    | cons k u r' q e e2 h' =>
      subst e h'
      have r : VRs W (.i k :: u :: r') (a :: b :: flatP vs) := r
      cases r with | cons ra r => cases r with | cons rb r =>
      have hp := Bool.and_eq_true_iff.mp (Bool.and_eq_true_iff.mp hp).2
      obtain ⟨ws, c, hk, rr⟩ := pairs.go r hp.2 e2
      obtain ⟨t⟩ := (show IntR k a from ra)
      exact .mk (b :: ws) ⟨isI cx.prog cx.w k t, rfl, c⟩ (congrArg (· + 1) hk) (.cons (rb.pr hp.1) rr)
theorem dMrg.go {G : GM} {μ : LM} : ∀ {ks : List Int} {l : List U} {ws : List Value} {p : List Int × List U} {zs : List Value}, p.1.length = zs.length → PRs cx G μ p.2 zs → ks.length = ws.length → PRs cx G μ l ws →
    ∃ ys, merged (p.1.zip zs) (ks.zip ws) = (dMrg (ks.zip l) p).1.zip ys ∧ (dMrg (ks.zip l) p).1.length = ys.length ∧ PRs cx G μ (dMrg (ks.zip l) p).2 ys
  | [], l, ws, p, zs, h1, h2, _, _ => ⟨zs, rfl, h1, h2⟩
  | k :: ks, l, [], p, zs, _, _, h, _ => nomatch h
  | k :: ks, [], w :: ws, p, zs, _, _, _, h => nomatch (show w :: ws = [] from h)
  | k :: ks, u :: l, w :: ws, p, zs, h1, h2, h3, h4 => by
    obtain ⟨w, ws, pu, r⟩ := (show ConsR _ _ (w :: ws) from h4)
    obtain ⟨z1, e1, e2, e3⟩ := dPut.go (k := k) h1 h2 pu
    obtain ⟨z2, f1, f2, f3⟩ := dMrg.go (ks := ks) (p := dPut k u p.1 p.2) e2 e3 (Nat.succ.inj h3) r
    exact ⟨z2, by rw [← e1] at f1; exact f1, f2, f3⟩
theorem DiP.new : DiP (W.push { cls := .type "dict", data := .dict #[] }) W.s.heap.objs.size ([], []) := ⟨_, W.push_priv rfl, [], rfl, isDictOf_nil, rfl, Nat.zero_le _⟩
theorem dMrg_len : ∀ {l : List (Int × U)} {p : List Int × List U}, (dMrg l p).1.length ≤ l.length + p.1.length
  | [], p => by rw [show ([] : List (Int × U)).length + p.1.length = p.1.length from Nat.zero_add _]; exact Nat.le_refl _
  | r :: l, p => Nat.le_trans (dMrg_len (l := l)) (by rw [List.length_cons, Nat.add_assoc, Nat.add_comm 1]; exact Nat.add_le_add_left dPut_len _)
noncomputable def mrg (us : List U) : Option (List Int × List U) := match pairs us with
  | some p => some (dMrg (p.1.zip p.2) ([], []))
  | none => none
theorem SE.dct (hp : SP cx d sc f ks es) (few : ks.length ≤ 15) (ne : ks ≠ []) : SE cx d sc (fun os σ Q => f os σ (argP fun l σ1 => oQ (dctQ fun u => Q u σ1) (mrg l))) (.Dict ks es p) := ⟨fun {A env W os ow Q Qm} ak F h kk => by
  have main : ∀ (W0 : Wd cx) (hl : Le PF W W0), W0 = W.push { cls := .type "dict", data := .dict #[] } → wpAny (MD cx) A (evalPairs (pairTrees ks es env p)) (fun vs s₁ => wpAny (MD cx) A (storeAll W.s.heap.objs.size vs) (fun _ s₂ => Qm (.ref W.s.heap.objs.size) s₂) NoE s₁) NoE W0.s := fun W0 hl e0 => by
    subst e0
    refine wpAny_mono (wpAny_evalPairs_len (hp.go (Qm := fun vs s₁ => vs.length = (pairTrees ks es env p).length → wpAny (MD cx) A (storeAll W.s.heap.objs.size vs) (fun _ s₂ => Qm (.ref W.s.heap.objs.size) s₂) NoE s₁) ak (F.le hl) h fun vs us W1 l1 r q hn => ?_)) (fun vs s2 h2 => h2.2 h2.1) fun _ _ x => x
    obtain ⟨pl, q⟩ := ifB.t (show guB (us.all U.pl) _ from q)
    obtain ⟨p2, e, q⟩ := oQ.inv q
    have key : ∃ p3, pairs us = some p3 ∧ p2 = dMrg (p3.1.zip p3.2) ([], []) := by
      unfold mrg at e
      cases e3 : pairs us with
      | none => rw [e3] at e; exact nos e
      | some p3 => rw [e3] at e; exact ⟨p3, rfl, (Option.some.inj e).symm⟩
    obtain ⟨p3, e3, rfl⟩ := key
    obtain ⟨zs, c, hk, rr⟩ := pairs.go r pl e3
    obtain ⟨o, pv, ws0, hk0, hd0, r0, _⟩ := (DiP.new (W := W)).le (P := PF) l1 id
    have hz : ((p3.1.zip zs)).length = ks.length := by rw [c.length, hn, pairTrees_length _ _ _ _ hp.all hp.len]
    have hz' : zs.length = ks.length := by rw [← hz, List.length_zip, hk, Nat.min_self]
    refine wpAny_storeAll (knd := IK cx) vs _ [] W1.s _ c (Heap.dictOf_iff.mpr ⟨o, pv.1, hd0⟩) (by rw [hz, show ([] : List (Int × Value)).length + ks.length = ks.length from Nat.zero_add _]; exact few_line (Nat.le_trans few (by decide))) fun h' hd' sb => ?_
    obtain ⟨ys, f1, f2, f3⟩ := dMrg.go (p := ([], [])) (zs := []) rfl rfl hk rr
    have f1 : merged [] (p3.1.zip zs) = _ := f1
    rw [f1] at hd'
    obtain ⟨o', ho', hd'⟩ := Heap.dictOf_iff.mp hd'
    let W2 := W1.itr pv { W1.s with heap := h', toks := W1.s.toks + vs.length } fun b o n => (sb.2 b n).trans
    have l2 : Le (fun b => b = W.s.heap.objs.size) W1 W2 := Le.itr rfl rfl
    refine DiP.fd (W := W2) (P := fun b => b = W.s.heap.objs.size) (p := dMrg (p3.1.zip p3.2) ([], [])) ⟨o', ⟨ho', pv.2, pv.3, pv.4⟩, ys, f2, hd', f3, ?_⟩ rfl fun W3 l3 e3 hv => kk _ _ W3 (((hl.trans l1).weaken fun _ _ _ => False.elim).trans (l2.trans l3) |>.drop (dead_size _)) hv (by rw [e3]; exact q)
    rw [← f3.len, ← f2]
    refine Nat.le_trans dMrg_len (few_line (Nat.le_trans ?_ (show 15 ≤ 28 by decide)))
    rw [List.length_zip]
    exact Nat.le_trans (Nat.min_le_left ..) (by rw [hk, hz']; exact few)
  exact wpAny_Dict_any hp.all hp.len ne few (main _ Le.push rfl)⟩
theorem SE.dct0 : SE cx d sc (fun os σ Q => Q (.fd [] []) σ) (.Dict [] [] p) := ⟨fun {A env W os ow Q Qm} ak F h kk =>
  wpAny_Dict_empty ((DiP.new (W := W)).fd (P := fun b => b = W.s.heap.objs.size) rfl fun W3 l3 e3 hv => kk _ (.fd [] []) W3 ((Le.push.trans l3).drop (dead_size _)) hv (by rw [e3]; exact h))⟩
end
end

end
section
noncomputable section
theorem cellsFrom_lookup : ∀ {names : List (Str × NameKind)} {n : Nat} {acc : List (Str × Addr)} {x : Str}, (x, NameKind.cell) ∈ names ∨ (acc.lookup x).isSome = true → ((cellsFrom n names acc).lookup x).isSome = true
  | [], n, acc, x, h => by
    rcases h with h | h
    · exact nomatch h
    · exact h
  | (y, k) :: r, n, acc, x, h => by
    unfold cellsFrom
    split
    · refine cellsFrom_lookup ?_
      rcases h with h | h
      · rcases List.mem_cons.mp h with e | h
        · cases e; right; simp
        · exact .inl h
      · right
        rw [List.lookup_cons]
        split
        · rfl
        · exact h
    · rename_i hk
      refine cellsFrom_lookup ?_
      rcases h with h | h
      · rcases List.mem_cons.mp h with e | h
        · cases e; simp at hk
        · exact .inl h
      · exact .inr h

noncomputable def closOf (cells : List (Str × Addr)) : List (Str × NameKind) → List (Str × Addr) → List (Str × Addr)
  | [], acc => acc
  | (n, k) :: r, acc => if k == .free then (match cells.lookup n with | some c => closOf cells r ((n, c) :: acc) | none => closOf cells r acc) else closOf cells r acc

theorem closureFor_clos {env : Env} : ∀ {names : List (Str × NameKind)} {acc : List (Str × Addr)} {f : Str × NameKind → List (Str × Addr) → Sem (ForInStep (List (Str × Addr)))},
    (∀ n k cs, f (n, k) cs = if k == .free then (do let a ← cellOf env n; pure (.yield ((n, a) :: cs))) else pure (.yield cs)) → (∀ x, (x, NameKind.free) ∈ names → (env.cells.lookup x).isSome = true) →
    forIn names acc f = (pure (closOf env.cells names acc) : Sem _)
  | [], acc, f, _, _ => rfl
  | (n, k) :: r, acc, f, hf, h => by
    rw [List.forIn_cons, hf]
    unfold closOf
    cases hk : k == NameKind.free with
    | false =>
      simp only [Bool.false_eq_true, if_false]
      exact closureFor_clos hf fun x hx => h x (.tail _ hx)
    | true =>
      simp only [if_true]
      have := h n (by rw [beq_iff_eq.mp hk]; exact .head _)
      obtain ⟨c, hc⟩ := Option.isSome_iff_exists.mp this
      unfold cellOf
      rw [hc]
      exact closureFor_clos hf fun x hx => h x (.tail _ hx)
theorem closureFor_eq {scope : Scope} {env : Env} (h : ∀ x, (x, NameKind.free) ∈ scope.names → (env.cells.lookup x).isSome = true) : closureFor scope env = pure (closOf env.cells scope.names []) := by
  unfold closureFor
  dsimp only
  rw [closureFor_clos (env := env) (names := scope.names) (fun n k cs => by
    cases hk : k == NameKind.free <;> rfl) h]
  rfl

theorem closOf_mem {cells : List (Str × Addr)} : ∀ {names : List (Str × NameKind)} {acc : List (Str × Addr)} {x : Str} {c : Addr}, (x, c) ∈ closOf cells names acc → (x, c) ∈ acc ∨ ((x, NameKind.free) ∈ names ∧ cells.lookup x = some c)
  | [], acc, x, c, h => .inl h
  | (n, k) :: r, acc, x, c, h => by
    unfold closOf at h
    split at h
    · rename_i hk
      split at h
      · rename_i c' hc
        rcases closOf_mem h with q | ⟨q1, q2⟩
        · rcases List.mem_cons.mp q with e | q
          · cases e; exact .inr ⟨by rw [beq_iff_eq.mp hk]; exact .head _, hc⟩
          · exact .inl q
        · exact .inr ⟨.tail _ q1, q2⟩
      · exact (closOf_mem h).imp id fun q => ⟨.tail _ q.1, q.2⟩
    · exact (closOf_mem h).imp id fun q => ⟨.tail _ q.1, q.2⟩
theorem closOf_has {cells : List (Str × Addr)} : ∀ {names : List (Str × NameKind)} {acc : List (Str × Addr)} {x : Str} {c : Addr}, ((x, c) ∈ acc ∨ ((x, NameKind.free) ∈ names ∧ cells.lookup x = some c)) → (x, c) ∈ closOf cells names acc
  | [], acc, x, c, h => by
    rcases h with h | ⟨h, _⟩
    · exact h
    · exact nomatch h
  | (n, k) :: r, acc, x, c, h => by
    unfold closOf
    rcases h with h | ⟨h, hc⟩
    · split
      · split
        · exact closOf_has (.inl (.tail _ h))
        · exact closOf_has (.inl h)
      · exact closOf_has (.inl h)
    · rcases List.mem_cons.mp h with e | h
      · cases e
        simp only [beq_self_eq_true, if_true, hc]
        exact closOf_has (.inl (.head _))
      · split
        · split
          · exact closOf_has (.inr ⟨h, hc⟩)
          · exact closOf_has (.inr ⟨h, hc⟩)
        · exact closOf_has (.inr ⟨h, hc⟩)
theorem closOf_apart {cells : List (Str × Addr)} (ha : cells.Pairwise fun x y => x.2 ≠ y.2) : ∀ {names : List (Str × NameKind)} {acc : List (Str × Addr)}, (names.map (·.1)).Nodup → (∀ x c, (x, c) ∈ acc → cells.lookup x = some c ∧ x ∉ names.map (·.1)) → acc.Pairwise (fun x y => x.2 ≠ y.2) →
    (closOf cells names acc).Pairwise fun x y => x.2 ≠ y.2
  | [], acc, _, _, h => h
  | (n, k) :: r, acc, nd, hm, h => by
    rw [List.map_cons, List.nodup_cons] at nd
    unfold closOf
    have hm' : ∀ x c, (x, c) ∈ acc → cells.lookup x = some c ∧ x ∉ r.map (·.1) := fun x c q => ⟨(hm x c q).1, fun q' => (hm x c q).2 (.tail _ q')⟩
    split
    · split
      · rename_i c hc
        refine closOf_apart ha nd.2 (fun x c' q => ?_) (List.pairwise_cons.mpr ⟨fun y hy e => ?_, h⟩)
        · rcases List.mem_cons.mp q with e | q
          · cases e; exact ⟨hc, nd.1⟩
          · exact hm' x c' q
        · obtain ⟨q1, q2⟩ := hm y.1 y.2 hy
          have e : c = y.2 := e
          subst e
          have := name_of_addr ha (PySem.mem_of_lookup hc) (PySem.mem_of_lookup q1)
          exact q2 (by rw [← this]; exact .head _)
      · exact closOf_apart ha nd.2 hm' h
    · exact closOf_apart ha nd.2 hm' h

theorem cellsFrom_mem : ∀ {names : List (Str × NameKind)} {n : Nat} {acc : List (Str × Addr)} {x : Str} {c : Addr}, (x, c) ∈ cellsFrom n names acc → (x, c) ∈ acc ∨ ((x, NameKind.cell) ∈ names ∧ n ≤ c)
  | [], n, acc, x, c, h => .inl h
  | (y, k) :: r, n, acc, x, c, h => by
    unfold cellsFrom at h
    split at h
    · rename_i hk
      rcases cellsFrom_mem h with q | ⟨q1, q2⟩
      · rcases List.mem_cons.mp q with e | q
        · cases e; exact .inr ⟨by rw [beq_iff_eq.mp hk]; exact .head _, Nat.le_refl _⟩
        · exact .inl q
      · exact .inr ⟨.tail _ q1, Nat.le_of_succ_le q2⟩
    · exact (cellsFrom_mem h).imp id fun q => ⟨.tail _ q.1, q.2⟩
theorem cellsFrom_keep : ∀ {names : List (Str × NameKind)} {n : Nat} {acc : List (Str × Addr)} {x : Str} {c : Addr}, (x, c) ∈ acc → (x, c) ∈ cellsFrom n names acc
  | [], n, acc, x, c, h => h
  | (y, k) :: r, n, acc, x, c, h => by
    unfold cellsFrom
    split
    · exact cellsFrom_keep (.tail _ h)
    · exact cellsFrom_keep h
theorem cellsFrom_apart : ∀ {names : List (Str × NameKind)} {n : Nat} {acc : List (Str × Addr)}, acc.Pairwise (fun x y => x.2 ≠ y.2) → (∀ x c, (x, c) ∈ acc → c < n) → (cellsFrom n names acc).Pairwise fun x y => x.2 ≠ y.2
  | [], n, acc, h, _ => h
  | (y, k) :: r, n, acc, h, hl => by
    unfold cellsFrom
    split
    · refine cellsFrom_apart (List.pairwise_cons.mpr ⟨fun z hz e => ?_, h⟩) fun x c q => ?_
      · have h1 := hl z.1 z.2 hz
        have e : n = z.2 := e
        exact Nat.lt_irrefl _ (e ▸ h1)
      · rcases List.mem_cons.mp q with e | q
        · cases e; exact Nat.lt_succ_self _
        · exact Nat.lt_succ_of_lt (hl x c q)
    · exact cellsFrom_apart h hl
theorem cellsFrom_keys : ∀ {names : List (Str × NameKind)} {n : Nat} {acc : List (Str × Addr)}, (names.map (·.1)).Nodup → (acc.map (·.1)).Nodup → (∀ x, (x, NameKind.cell) ∈ names → x ∉ acc.map (·.1)) → ((cellsFrom n names acc).map (·.1)).Nodup
  | [], n, acc, _, h, _ => h
  | (y, k) :: r, n, acc, nd, h, hd => by
    rw [List.map_cons, List.nodup_cons] at nd
    unfold cellsFrom
    split
    · rename_i hk
      refine cellsFrom_keys nd.2 (List.nodup_cons.mpr ⟨hd y (by rw [beq_iff_eq.mp hk]; exact .head _), h⟩) fun x hx q => ?_
      rcases List.mem_cons.mp q with e | q
      · subst e; exact nd.1 (List.mem_map.mpr ⟨_, hx, rfl⟩)
      · exact hd x (.tail _ hx) q
    · exact cellsFrom_keys nd.2 h fun x hx => hd x (.tail _ hx)
theorem closOf_keys {cells : List (Str × Addr)} : ∀ {names : List (Str × NameKind)} {acc : List (Str × Addr)}, (names.map (·.1)).Nodup → (acc.map (·.1)).Nodup → (∀ x, x ∈ names.map (·.1) → x ∉ acc.map (·.1)) → ((closOf cells names acc).map (·.1)).Nodup
  | [], acc, _, h, _ => h
  | (y, k) :: r, acc, nd, h, hd => by
    rw [List.map_cons, List.nodup_cons] at nd
    unfold closOf
    have hd' : ∀ x, x ∈ r.map (·.1) → x ∉ acc.map (·.1) := fun x hx => hd x (.tail _ hx)
    split
    · split
      · refine closOf_keys nd.2 (List.nodup_cons.mpr ⟨hd y (.head _), h⟩) fun x hx q => ?_
        rcases List.mem_cons.mp q with e | q
        · subst e; exact nd.1 hx
        · exact hd' x hx q
      · exact closOf_keys nd.2 h hd'
    · exact closOf_keys nd.2 h hd'
theorem codeAny_compLoop_own {prog : Program} {w : World} {A : Around} {R : Result → Shared → Prop} {s : Shared} {elt target iter : Expr} {ifs : List Expr} {scope : Scope} {pos : Pos} {it acc : Value} {env : Env} (I : Nat → Shared → Prop)
    (turn : ∀ n s, I n s → wpAny (model prog w) A (pyNext it) (fun r s₁ => match r with
      | none => R (.ok .next) s₁
      | some v => wpAny (model prog w) A (letOwnedTupleGo target it v) (fun _ s₁' => wpAny (model prog w) A (assign target env v) (fun _ s₂ =>
          wpAny (model prog w) A (forIn ifs true fun c r => if r = true then do let ok ← isTrue c env (eval c env); pure (ForInStep.yield ok) else pure (ForInStep.yield r)) (fun ok s₃ =>
            if ok = true then wpAny (model prog w) A (eval elt env) (fun x s₄ =>
              wpAny (model prog w) A (call (.builtin "list.append") [acc, x]) (fun _ s₅ => ∃ m, m < n ∧ I m s₅) (fun _ _ => False) s₄) (fun _ _ => False) s₃
            else ∃ m, m < n ∧ I m s₃) (fun _ _ => False) s₂) (fun _ _ => False) s₁') (fun _ _ => False) s₁) (fun _ _ => False) s)
    (n : Nat) (h : I n s) : codeAny (model prog w) A (.compLoop (.ListComp elt [⟨target, iter, ifs, 0⟩] scope pos) 0 it acc env) R s := by
  refine codeAny_loop rfl I (fun n s hI => ?_) n h
  show wpAny _ A ((compTurn (.ListComp elt [⟨target, iter, ifs, 0⟩] scope pos) 0 it acc env).onRaise (fun x => do noteFrame x env; theTreesLotGoes x)) _ _ s
  refine wpAny_noted ?_
  rw [compTurn_list]
  have no : ∀ {α : Type} {t : Sem α} {Q : α → Shared → Prop} {E : Value → Shared → Prop} {s : Shared}, wpAny (model prog w) A t Q (fun _ _ => False) s → wpAny (model prog w) A t Q E s := fun h => wpAny_mono h (fun _ _ x => x) fun _ _ x => x.elim
  refine wpAny_bind (wpAny_standAt (wpAny_bind (wpAny_mono (turn n s hI) (fun r s₁ h₁ => ?_) fun _ _ h' => h'.elim)))
  cases r with
  | none => exact wpAny_pure h₁
  | some v =>
    refine wpAny_bind (wpAny_mono h₁ (fun _ s₁' h₁' => ?_) fun _ _ h' => h'.elim)
    refine wpAny_bind (wpAny_mono h₁' (fun _ s₂ h₂ => wpAny_bind (wpAny_mono h₂ (fun ok s₃ h₃ => ?_) fun _ _ h' => h'.elim)) fun _ _ h' => h'.elim)
    cases ok with
    | false => exact wpAny_pure ⟨rfl, h₃⟩
    | true =>
      simp only [if_true] at h₃ ⊢
      refine wpAny_bind (wpAny_bind (wpAny_mono h₃ (fun x s₄ h₄ => wpAny_bind (wpAny_mono h₄ (fun _ s₅ h₅ => wpAny_pure (wpAny_pure ⟨rfl, h₅⟩)) fun _ _ h' => h'.elim)) fun _ _ h' => h'.elim))

theorem relabel_lookup {csc : Scope} {env : Env} (x : Str) : (relabel csc env).names.lookup x = csc.names.lookup x ∨ (csc.names.lookup x = some .free ∧ (relabel csc env).names.lookup x = some .cell) := by
  unfold relabel
  dsimp only
  generalize csc.names = names
  induction names with
  | nil => exact .inl rfl
  | cons p r ih =>
    obtain ⟨n, k⟩ := p
    simp only [List.map_cons]
    by_cases hc : (k == NameKind.free && env.scope.kind == .function && env.kindOf n == some .cell) = true
    · rw [if_pos hc]
      cases hx : x == n with
      | true =>
        refine .inr ⟨?_, ?_⟩
        · have hk : k = .free := by
            simp only [Bool.and_eq_true, beq_iff_eq] at hc; exact hc.1.1
          simp [List.lookup_cons, hx, hk]
        · simp [List.lookup_cons, hx]
      | false => simpa [List.lookup_cons, hx] using ih
    · rw [if_neg hc]
      cases hx : x == n with
      | true => exact .inl (by simp [List.lookup_cons, hx])
      | false => simpa [List.lookup_cons, hx] using ih

theorem cellsFrom_new : ∀ {names : List (Str × NameKind)} {h : Heap} {acc : List (Str × Addr)} {x : Str} {c : Addr}, (x, c) ∈ cellsFrom h.objs.size names acc → (x, c) ∈ acc ∨ ((pushCells h names).IsCell c none ∧ h.objs.size ≤ c)
  | [], h, acc, x, c, q => .inl q
  | (y, k) :: r, h, acc, x, c, q => by
    unfold cellsFrom at q
    unfold pushCells
    split at q
    · rename_i hk
      rw [if_pos hk]
      have e : (h.push { cls := .type "cell", data := .cell none }).objs.size = h.objs.size + 1 := Heap.size_push ..
      rw [← e] at q
      rcases cellsFrom_new q with q | ⟨q1, q2⟩
      · rcases List.mem_cons.mp q with e | q
        · cases e
          exact .inr ⟨⟨_, pushCells_keeps _ _ _ _ (Heap.get?_push_size _ rfl), rfl⟩, Nat.le_refl _⟩
        · exact .inl q
      · rw [e] at q2; exact .inr ⟨q1, Nat.le_of_succ_le q2⟩
    · rename_i hk
      rw [if_neg hk]
      exact cellsFrom_new q

end

end
section
noncomputable section
noncomputable def frJ (sc : Scope) (x : Str) (k : NameKind) : Option Nat → Bool
  | some j => k == .free && (match sc.names[j]? with | some (y, k') => y == x && (k' == .cell || k' == .free) | none => false)
  | none => !(k == .free)
noncomputable def frOk (csc sc : Scope) (fr : List (Option Nat)) : Bool := csc.names.length == fr.length && (csc.names.zip fr).all fun p => frJ sc p.1.1 p.1.2 p.2
inductive FrI (sc : Scope) (x : Str) (k : NameKind) : Option Nat → Prop
  | o (j : Nat) (k' : NameKind) (e : k = .free) (h : sc.names[j]? = some (x, k')) (hk : k' = .cell ∨ k' = .free) : FrI sc x k (some j)
  | n (e : k ≠ .free) : FrI sc x k none
theorem frJ.inv {sc : Scope} {x : Str} {k : NameKind} {o : Option Nat} (h : frJ sc x k o = true) : FrI sc x k o := by
  cases o with
  | none => exact .n fun e => by subst e; exact fot h
  | some j =>
    obtain ⟨h1, h2⟩ := Bool.and_eq_true_iff.mp h
    cases e : sc.names[j]? with
    | none => rw [e] at h2; exact fot h2
    | some p =>
      obtain ⟨y, k'⟩ := p
      rw [e] at h2
      obtain ⟨h3, h4⟩ := Bool.and_eq_true_iff.mp h2
      exact .o j k' (beq_iff_eq.mp h1) (by rw [e, beq_iff_eq.mp h3]) ((Bool.or_eq_true_iff.mp h4).imp beq_iff_eq.mp beq_iff_eq.mp)
theorem frOk.inv {csc sc : Scope} {fr : List (Option Nat)} (h : frOk csc sc fr = true) {i : Nat} {x : Str} {k : NameKind} (e : csc.names[i]? = some (x, k)) : ∃ o, fr[i]? = some o ∧ FrI sc x k o := by
  obtain ⟨h1, h2⟩ := Bool.and_eq_true_iff.mp h
  have hi : i < fr.length := beq_iff_eq.mp h1 ▸ (List.getElem?_eq_some_iff.mp e).1
  have e2 := List.getElem?_eq_getElem hi
  exact ⟨_, e2, frJ.inv (List.all_eq_true.mp h2 ((x, k), fr[i]) (List.mem_of_getElem? (i := i) (List.getElem?_zip_eq_some.mpr ⟨e, e2⟩)))⟩
noncomputable def compE (csc : Scope) (env : Env) (C : Addr) : Env :=
  { scope := relabel csc env, locals := C, globals := env.globals, cells := cellsFrom (C + 1) csc.names (closOf env.cells csc.names []), qual := env.qual, func := none, code := env.code, frame := env.frame, builtins := env.builtins }
theorem plU.pl {u v : U} (h : plU u = v) (p : v.pl = true) : u = v := by
  unfold plU at h
  cases e : u.pl with
  | true => rw [e] at h; exact h
  | false => rw [e] at h; subst h; exact fot p
theorem plU.no {u v : U} (h : plU u = v) (p : v.pl = false) : v = .un := by
  unfold plU at h
  cases e : u.pl with
  | true => rw [e] at h; subst h; exact nomatch e.symm.trans p
  | false => rw [e] at h; exact h.symm
theorem lookup_nd2 {α : Type} {l : List (Str × α)} {x : Str} {k : α} (nd : (l.map (·.1)).Nodup) (h : (x, k) ∈ l) : l.lookup x = some k := let ⟨i, hi⟩ := List.getElem?_of_mem h; lookup_nd nd hi
section
variable {cx : Cx} {A : Around} {d : Nat} {P : Addr → Prop} {B W W' : Wd cx} {u v z u2 u3 : U} {x y w : Value} {l m xs us : List U} {ws : List Value} {sc csc : Scope} {env : Env} {os : Os} {ow ow' : Nat → Option Addr} {fr : List (Option Nat)}
theorem osC.at {i : Nat} (h : (osC fr os)[i]? = some u) {o : Option Nat} (e : fr[i]? = some o) : (∀ j, o = some j → u = plU (os.getD j .un)) ∧ (o = none → u = .un) := by
  unfold osC at h
  rw [List.getElem?_map, e] at h
  have h := Option.some.inj h
  exact ⟨fun j q => by subst q; exact h.symm, fun q => by subst q; exact h.symm⟩
theorem Priv.dead (W : Wd cx) {s : Shared} {k : ∀ b o, W.s.heap.get? b = some o → s.heap.get? b = some o} {b : Addr} {o : Obj} (n : W.s.heap.get? b = none) (e : s.heap.get? b = some o) : Priv (W.gr s k) b o := ⟨e, W.notO n, W.notG n, W.not0 n⟩
theorem compE.mem {csc : Scope} {env : Env} {h : Heap} {n : Nat} (hsz : h.objs.size = n + 1) {x : Str} {c : Addr} (e : (compE csc env n).cells.lookup x = some c) : ((x, NameKind.free) ∈ csc.names ∧ env.cells.lookup x = some c) ∨ ((pushCells h csc.names).IsCell c none ∧ n + 1 ≤ c) := by
  have q : (x, c) ∈ cellsFrom h.objs.size csc.names (closOf env.cells csc.names []) := by rw [hsz]; exact PySem.mem_of_lookup e
  rcases cellsFrom_new q with q | ⟨q1, q2⟩
  · exact .inl ((closOf_mem q).elim (fun h => nomatch h) id)
  · exact .inr ⟨q1, hsz ▸ q2⟩
theorem compE.new {csc : Scope} {env : Env} {h : Heap} {n : Nat} (S : ScOk csc) (hsz : h.objs.size = n + 1) {b : Addr} (f : FA csc (compE csc env n) b) : n ≤ b := by
  rcases f with rfl | ⟨x, hx, e⟩
  · exact Nat.le_refl _
  · rcases compE.mem hsz e with ⟨q, _⟩ | ⟨_, q⟩
    · exact nomatch hx.symm.trans (lookup_nd2 S.nd q)
    · exact Nat.le_of_succ_le q
theorem comp_free (F : Frm cx sc env W os ow) (hf : frOk csc sc fr = true) : ∀ x, (x, NameKind.free) ∈ csc.names → ∃ c, env.cells.lookup x = some c := fun x hx => by
  obtain ⟨i, hi⟩ := List.getElem?_of_mem hx
  obtain ⟨o, e1, fi⟩ := frOk.inv hf hi
  cases fi with
  | n e => exact absurd rfl e
  | o j k' e h hk =>
    rcases hk with rfl | rfl
    · obtain ⟨c, v, e, _⟩ := F.cs j x h; exact ⟨c, e⟩
    · exact F.fs j x h
theorem comp_env (F : Frm cx sc env W os ow) (S : ScOk csc) (hf : frOk csc sc fr = true) {s' : Shared} (hs : s'.heap = pushCells (W.s.heap.push { cls := .type "dict", data := .dict #[] }) csc.names) (k : ∀ b o, W.s.heap.get? b = some o → s'.heap.get? b = some o) :
    Frm cx csc (compE csc env W.s.heap.objs.size) (W.gr s' k) (osC fr os) fun _ => none := by
  have hsz : (W.s.heap.push { cls := .type "dict", data := .dict #[] }).objs.size = W.s.heap.objs.size + 1 := Heap.size_push ..
  have fresh : ∀ b, W.s.heap.objs.size ≤ b → W.s.heap.get? b = none := fun b hb => by
    cases q : W.s.heap.get? b with
    | none => rfl
    | some o => exact absurd (Heap.lt_size q) (Nat.not_lt.mpr hb)
  have outer : ∀ x c, (x, c) ∈ closOf env.cells csc.names [] → (x, NameKind.free) ∈ csc.names ∧ env.cells.lookup x = some c := fun x c q => (closOf_mem q).elim (fun h => nomatch h) id
  have oldc : ∀ x c, env.cells.lookup x = some c → c < W.s.heap.objs.size := fun x c e => let ⟨_, p⟩ := F.priv c (.inr ⟨x, e⟩); Heap.lt_size p.1
  have newd : s'.heap.get? W.s.heap.objs.size = some { cls := .type "dict", data := .dict #[] } := by rw [hs]; exact pushCells_keeps _ _ _ _ (Heap.get?_push_size _ rfl)
  have memc : ∀ x c, (compE csc env W.s.heap.objs.size).cells.lookup x = some c → ((x, NameKind.free) ∈ csc.names ∧ env.cells.lookup x = some c) ∨ (s'.heap.IsCell c none ∧ W.s.heap.objs.size + 1 ≤ c) := fun x c e => hs ▸ compE.mem hsz e
  have kindOf : ∀ x k, (x, k) ∈ csc.names → csc.names.lookup x = some k := fun x k h => let ⟨i, hi⟩ := List.getElem?_of_mem h; lookup_nd S.nd hi
  have keysN : ((cellsFrom (W.s.heap.objs.size + 1) csc.names (closOf env.cells csc.names [])).map (·.1)).Nodup := by
    refine cellsFrom_keys S.nd (closOf_keys S.nd List.nodup_nil fun _ _ h => nomatch h) fun x hx q => ?_
    obtain ⟨⟨y, c⟩, q1, rfl⟩ := List.mem_map.mp q
    exact nomatch (kindOf _ _ hx).symm.trans (kindOf _ _ (outer y c q1).1)
  refine ⟨⟨rfl, relabel_lookup⟩, F.gl, F.bl, fun b hb => ?_, cellsFrom_apart (closOf_apart F.apart S.nd (fun _ _ h => nomatch h) List.Pairwise.nil) fun x c q => Nat.lt_succ_of_lt (oldc x c (outer x c q).2), fun x q => ?_,
    ⟨fun _ => none, by show s'.heap.Ns _ _; rw [hs]; exact (Heap.Ns.new W.s.heap (.type "dict")).keeps (pushCells_keeps _ _)⟩, fun i x hx => ?_, fun i x hx => ?_, fun i x kd u h1 h2 h3 => ?_, fun i x kd u h1 h2 h3 h4 => ?_, nofun⟩
  · rcases hb with rfl | ⟨x, hx⟩
    · exact ⟨_, Priv.dead W (dead_size _) newd⟩
    · rcases memc x b hx with ⟨_, q⟩ | ⟨⟨o, q1, _⟩, q2⟩
      · exact (F.priv b (.inr ⟨x, q⟩)).imp fun o p => ⟨k _ _ p.1, p.2, p.3, p.4⟩
      · exact ⟨o, Priv.dead W (fresh b (Nat.le_of_succ_le q2)) q1⟩
  · rcases memc x _ q with ⟨_, q⟩ | ⟨_, q⟩
    · exact Nat.lt_irrefl _ (oldc x _ q)
    · exact Nat.not_succ_le_self _ q
  · have hm := List.mem_of_getElem? hx
    obtain ⟨c, hcc⟩ := Option.isSome_iff_exists.mp (cellsFrom_lookup (n := W.s.heap.objs.size + 1) (acc := closOf env.cells csc.names []) (.inl hm))
    rcases memc x c hcc with ⟨q, _⟩ | ⟨q, _⟩
    · exact nomatch (kindOf _ _ hm).symm.trans (kindOf _ _ q)
    · exact ⟨c, none, hcc, q⟩
  · have hm := List.mem_of_getElem? hx
    obtain ⟨c, e⟩ := comp_free F hf x hm
    exact ⟨c, lookup_nd2 keysN (cellsFrom_keep (closOf_has (.inr ⟨hm, e⟩)))⟩
  · obtain ⟨o, e1, fi⟩ := frOk.inv hf h1
    obtain ⟨q1, q2⟩ := osC.at h2 e1
    cases fi with
    | n e => rw [q2 rfl] at h3; exact fot h3
    | o j k' e h hk =>
      subst e
      have e2 := plU.pl (q1 j rfl).symm h3
      obtain ⟨w, sv, r⟩ := F.sl j x k' u h (by rw [← e2]; exact getD.at (by rw [e2]; intro q; rw [q] at h3; exact fot h3)) h3
      refine ⟨w, ?_, r⟩
      have key : ∀ c, env.cells.lookup x = some c → W.s.heap.IsCell c (some w) → SlotV (compE csc env W.s.heap.objs.size) s'.heap x w .free := fun c e i => by
        obtain ⟨o, i1, i2⟩ := i
        exact .f c (lookup_nd2 keysN (cellsFrom_keep (closOf_has (.inr ⟨List.mem_of_getElem? h1, e⟩)))) ⟨o, k _ _ i1, i2⟩
      cases sv with
      | l m n e => rcases hk with q | q <;> cases q
      | c c e i => exact key c e i
      | f c e i => exact key c e i
  · obtain ⟨o, e1, fi⟩ := frOk.inv hf h1
    obtain ⟨q1, q2⟩ := osC.at h2 e1
    cases fi with
    | n e => exact absurd (q2 rfl) h4
    | o j k' e h hk => exact absurd (plU.no (q1 j rfl).symm h3) h4
end
end

end
section
noncomputable section
noncomputable def ptS : Pt → List Nat
  | .n i => [i]
  | .t l => l
section
variable {cx : Cx} {A : Around} {d : Nat} {P : Addr → Prop} {B W W' : Wd cx} {u v z u2 u3 : U} {x y w : Value} {l m xs us : List U} {ws : List Value} {sc csc : Scope} {env : Env} {os os2 : Os} {ow ow' : Nat → Option Addr} {fr : List (Option Nat)}
variable {Q : U → St → Prop} {Qm : Value → Shared → Prop} {Qu : Unit → Shared → Prop} {Pt' Nt : St → Prop} {Qb : Bool → Shared → Prop} {E : Value → Shared → Prop} {R : St → Prop}
variable {e e2 e3 : Expr} {es : List Expr} {p p1 p2 : Pos}
theorem Frm.weak (F : Frm cx sc env W os2 ow) (h : ∀ (j : Nat) (v : U), os[j]? = some v → v ≠ .un → os2[j]? = some v) : Frm cx sc env W os ow :=
  { F with
    sl := fun i x k u h1 h2 h3 => F.sl i x k u h1 (h i u h2 fun q => by subst q; exact fot h3) h3
    so := fun i x k u h1 h2 h3 h4 => F.so i x k u h1 (h i u h2 h4) h3 h4 }
structure Took (cx : Cx) (sc : Scope) (env : Env) (W W' : Wd cx) (os os2 : Os) (ow : Nat → Option Addr) (S : List Nat) : Prop where
  le : Le (FA sc env) W W'
  st : W'.σ = W.σ
  f : ∃ ow', (∀ j a, ow' j = some a → ow j = some a) ∧ Frm cx sc env W' os2 ow'
  off : ∀ (j : Nat) (v : U), j ∉ S → os[j]? = some v → os2[j]? = some v
noncomputable def nmJ (sc : Scope) (i : Nat) (x : Str) : Bool := match sc.names[i]? with
  | some (y, k) => y == x && (k == .local || k == .cell)
  | none => false
theorem nmJ.inv {i : Nat} {x : Str} (h : nmJ sc i x = true) : ∃ k, sc.names[i]? = some (x, k) ∧ (k = .local ∨ k = .cell) := by
  unfold nmJ at h
  cases e : sc.names[i]? with
  | none => rw [e] at h; exact fot h
  | some q =>
    obtain ⟨y, k⟩ := q
    rw [e] at h
    obtain ⟨h3, h4⟩ := Bool.and_eq_true_iff.mp h
    exact ⟨k, by rw [beq_iff_eq.mp h3], (Bool.or_eq_true_iff.mp h4).imp beq_iff_eq.mp beq_iff_eq.mp⟩
theorem take_name (S : ScOk sc) {i : Nat} {x : Str} (h : nmJ sc i x = true) (F : Frm cx sc env W os ow) (hw : W.pr u w) (kk : ∀ W', Took cx sc env W W' os (os.set i u) ow [i] → Qu () W'.s) : wpAny (MD cx) A (assign (.Name x p) env w) Qu NoE W.s := by
  obtain ⟨k, h1, h2⟩ := nmJ.inv h
  show wpAny _ _ (standAt p >>= fun _ => bindName env x w) _ _ _
  exact wpAny_bind (wpAny_standAt (bindP_ok F S h1 h2 hw.pl hw fun s' k' le f => kk _ ⟨le, rfl, f, fun j v hj e => (List.getElem?_set_ne fun q => hj (by rw [q]; exact .head _)).trans e⟩))
noncomputable def nmsJ (sc : Scope) : List Nat → List Expr → Bool
  | i :: l, .Name x _ :: ts => nmJ sc i x && nmsJ sc l ts
  | [], [] => true
  | _, _ => false
theorem take_names (S : ScOk sc) : ∀ {l : List Nat} {ts : List Expr} {us : List U} {ws : List Value} {W : Wd cx} {os os2 : Os} {ow : Nat → Option Addr}, nmsJ sc l ts = true → Frm cx sc env W os ow → W.prs us ws → setL l us os = some os2 → (∀ W', Took cx sc env W W' os os2 ow l → Qu () W'.s) →
    wpAny (MD cx) A (assignInOrder (ts.map fun t => assign t env) ws) Qu NoE W.s
  | [], [], us, ws, W, os, os2, ow, h, F, r, e, kk => by
    cases us with
    | nil => cases (show ws = [] from r); cases e; exact wpAny_pure (kk W ⟨.refl, rfl, ⟨ow, fun _ _ e => e, F⟩, fun _ _ _ e => e⟩)
    | cons => exact nos e
  | [], t :: ts, us, ws, W, os, os2, ow, h, F, r, e, kk => fot h
  | i :: l, [], us, ws, W, os, os2, ow, h, F, r, e, kk => fot h
  | i :: l, t :: ts, us, ws, W, os, os2, ow, h, F, r, e, kk => by
    cases us with
    | nil => exact nos e
    | cons u us =>
      obtain ⟨w, ws, p, r'⟩ := (show ConsR _ _ ws from r)
      cases t with
      | Name x ps =>
        obtain ⟨h1, h2⟩ := Bool.and_eq_true_iff.mp h
        show wpAny _ _ (holding ws (assign (.Name x ps) env w) >>= fun _ => assignInOrder (ts.map fun t => assign t env) ws) _ _ _
        refine wpAny_bind (wpAny_holding (take_name S h1 F p fun W1 t => ?_))
        obtain ⟨le, st, ⟨ow1, o1, F1⟩, off⟩ := t
        refine take_names S h2 F1 (le.prs r') e fun W2 t2 => kk W2 ?_
        obtain ⟨le2, st2, ⟨ow2, o2, F2⟩, off2⟩ := t2
        exact ⟨le.trans le2, st2.trans st, ⟨ow2, fun j a e => o1 j a (o2 j a e), F2⟩, fun j v hj e => off2 j v (fun q => hj (.tail _ q)) (off j v (fun q => hj (List.mem_singleton.mp q ▸ .head _)) e)⟩
      | _ => exact fot h
theorem nms_star : ∀ {l : List Nat} {ts : List Expr}, nmsJ sc l ts = true → (assignEach ts env).map (·.2) = ts.map (fun t => assign t env) ∧ (assignEach ts env).findIdx? (·.1) = none ∧ (assignEach ts env).length = l.length
  | [], [], _ => ⟨rfl, rfl, rfl⟩
  | [], t :: ts, h => fot h
  | i :: l, [], h => fot h
  | i :: l, t :: ts, h => by
    cases t with
    | Name x ps =>
      obtain ⟨i1, i2, i3⟩ := nms_star (Bool.and_eq_true_iff.mp h).2
      rw [show assignEach (.Name x ps :: ts) env = (false, assign (.Name x ps) env) :: assignEach ts env from rfl]
      exact ⟨congrArg (_ :: ·) i1, by rw [List.findIdx?_cons, i2]; rfl, congrArg (· + 1) i3⟩
    | _ => exact fot h
theorem setL.len : ∀ {l : List Nat} {us : List U} {os os2 : Os}, setL l us os = some os2 → us.length = l.length
  | [], [], _, _, _ => rfl
  | i :: l, u :: us, os, os2, e => congrArg (· + 1) (setL.len (l := l) (us := us) (os := os.set i u) e)
theorem unpack_ok (hh : A.handled = none) (hv : W.pr (.tu us) w) {Qs : List Value → Shared → Prop} (kk : ∀ ws W', Le PF W W' → W'.σ = W.σ → W'.prs us ws → Qs ws W'.s) : wpAny (MD cx) A (unpackItems w us.length none) Qs NoE W.s := by
  obtain ⟨a, ws, n, rfl, g, r, e, hl⟩ := (VR.tu hv).size
  rw [← e]
  refine unpackItems_tuple hh ⟨_, g, rfl, n, rfl⟩ fun h' he => ?_
  have k : ∀ b o, W.s.heap.get? b = some o → h'.get? b = some o := fun b o e => he b o (fun q => by subst q; exact nomatch (dead_size _).symm.trans e) e
  exact kk ws.toList (W.gr { W.s with heap := h' } k) (Le.gr rfl rfl) rfl r
noncomputable def ptJ (sc : Scope) : Pt → Expr → Bool
  | .n i, .Name x _ => nmJ sc i x
  | .t l, .Tuple ts _ _ => nmsJ sc l ts
  | _, _ => false
inductive AsI (os : Os) (K : Os → Prop) : Pt → U → Prop
  | n (i : Nat) (u : U) (k : K (os.set i u)) : AsI os K (.n i) u
  | t (l : List Nat) (us : List U) (os2 : Os) (e : setL l us os = some os2) (k : K os2) : AsI os K (.t l) (.tu us)
theorem asP.inv {K : Os → Prop} {pt : Pt} (h : asP os K pt u) : AsI os K pt u := by
  cases pt with
  | n i => exact .n i u (ifB.t h).2
  | t l => cases u with
    | tu us => obtain ⟨os2, e, k⟩ := oQ.inv h; exact .t l us os2 e k
    | _ => exact False.elim h
theorem take_ok (S : ScOk sc) (hh : A.handled = none) {pt : Pt} (h : ptJ sc pt e = true) (F : Frm cx sc env W os ow) (hw : W.pr u w) {K : Os → Prop} (ha : asP os K pt u) (kk : ∀ W' os2, Took cx sc env W W' os os2 ow (ptS pt) → K os2 → Qu () W'.s) : wpAny (MD cx) A (assign e env w) Qu NoE W.s := by
  cases asP.inv ha with
  | n i u k => cases e with
    | Name x ps => exact take_name S h F hw fun W' t => kk W' _ t k
    | _ => exact fot h
  | t l us os2 es k => cases e with
    | Tuple ts kk' ps =>
      show wpAny _ _ (standAt ps >>= fun _ => unpack w (assignEach ts env)) _ _ _
      refine wpAny_bind (wpAny_standAt ?_)
      obtain ⟨n1, n2, n3⟩ := nms_star (env := env) h
      unfold unpack
      rw [n1, n2, n3, ← setL.len es]
      refine wpAny_bind (wpAny_holding (unpack_ok hh hw fun ws W1 l1 st r => ?_))
      refine take_names S h (F.le l1) r es fun W2 t => kk W2 os2 ?_ k
      exact ⟨l1.pf.trans t.le, t.st.trans st, t.f, t.off⟩
    | _ => exact fot h
theorem letOwned_ok {I : Addr} {i : Nat} (it : Ite W I u xs i) (h : Qu () W.s) : wpAny (MD cx) A (letOwnedTupleGo e (.ref I) w) Qu NoE W.s := by
  have key : ∃ o cls vs, W.s.heap.get? I = some o ∧ o.cls = .type cls ∧ o.data = .fields vs ∧ (["enumerate", "zip", "dict_itemiterator", "dict_reverseitemiterator", "odict_iterator", "itertools.zip_longest", "itertools.pairwise"].contains cls) = false := by
    cases it with
    | l a it v e => obtain ⟨o, h1, h2, h3⟩ := it; exact ⟨o, _, _, h1, h2, h3, by decide⟩
    | t a it v e => obtain ⟨o, h1, h2, h3⟩ := it; exact ⟨o, _, _, h1, h2, h3, by decide⟩
    | d a es ep it v e ex hd => obtain ⟨o, h1, h2, h3⟩ := it; exact ⟨o, _, _, h1, h2, h3, by decide⟩
    | r a b c n eu e hi it => exact ⟨_, _, _, it, rfl, rfl, by decide⟩
  obtain ⟨o, cls, vs, h1, h2, h3, h4⟩ := key
  have go : wpAny (MD cx) A (do
      let (.ref r, .ref a) := (Value.ref I, w) | return
      let o ← load r
      match o.cls, o.data with
      | .type n, .fields vs =>
        if ["enumerate", "zip", "dict_itemiterator", "dict_reverseitemiterator", "odict_iterator", "itertools.zip_longest", "itertools.pairwise"].contains n && vs[0]? == some (rawInt a) then
          rule "for.unpacks-the-owned-tuple"
          updateField r 0 .none
      | _, _ => pure () : Sem Unit) Qu NoE W.s := by
    cases w <;> first
      | exact wpAny_pure h
      | (refine wpAny_bind (wpAny_load h1 ?_)
         rw [h2, h3]
         dsimp only
         rw [h4]
         exact wpAny_pure h)
  cases e <;> first | exact wpAny_pure h | exact go
end
end

end
section
noncomputable section
noncomputable def forIfs (ifs : List Expr) (env : Env) : Sem Bool := forIn ifs true fun c r => if r = true then do let ok ← isTrue c env (eval c env); pure (ForInStep.yield ok) else pure (ForInStep.yield r)
structure SC (cx : Cx) (d : Nat) (sc : Scope) (f : Os → St → (St → Prop) → (St → Prop) → Prop) (ifs : List Expr) : Prop where
  go : ∀ {A env W os ow P N Qm}, AOk A d → Frm cx sc env W os ow → f os W.σ P N → KB W P N Qm → wpAny (MD cx) A (forIfs ifs env) Qm NoE W.s
section
variable {cx : Cx} {A : Around} {d : Nat} {P : Addr → Prop} {B W W' : Wd cx} {u v z u2 u3 : U} {x y w : Value} {l m xs us : List U} {ws : List Value} {sc csc : Scope} {env cenv : Env} {os os2 : Os} {ow ow' : Nat → Option Addr} {fr : List (Option Nat)}
variable {Q : U → St → Prop} {Qm : Value → Shared → Prop} {Qu : Unit → Shared → Prop} {Qb : Bool → Shared → Prop} {E : Value → Shared → Prop} {R : St → Prop}
variable {e e2 e3 : Expr} {es ifs : List Expr} {p p1 p2 : Pos} {g : Os → St → (U → St → Prop) → Prop} {c : Os → St → (St → Prop) → (St → Prop) → Prop}
theorem SC.nil : SC cx d sc (fun os σ P N => P σ) [] := ⟨fun {A env W os ow P N Qm} ak F h k => wpAny_pure (k true W .refl h)⟩
theorem SC.one (h : SB cx d sc c e) : SC cx d sc c [e] := ⟨fun {A env W os ow P N Qm} ak F hh k => by
  unfold forIfs
  rw [List.forIn_cons]
  simp only [if_true]
  refine wpAny_bind (wpAny_bind (h.go ak F hh fun b W1 l1 q => wpAny_pure ?_))
  show wpAny _ _ (pure b) _ _ _
  exact wpAny_pure (k b W1 l1 q)⟩
noncomputable def trC (o0 : Os) (c : Os → St → (St → Prop) → (St → Prop) → Prop) (g : Os → St → (U → St → Prop) → Prop) (pt : Pt) (x : U) (σ : St) (Y : U → St → Prop) (N : St → Prop) : Prop :=
  asP o0 (fun os2 => c os2 σ (fun σ2 => g os2 σ2 fun z σ3 => guB z.pl (Y z σ3)) N) pt x
noncomputable abbrev PC (I D : Addr) (csc : Scope) (cenv : Env) : Addr → Prop := fun b => b = I ∨ b = D ∨ FA csc cenv b
inductive CompI (W : Wd cx) (I D : Addr) (csc : Scope) (cenv : Env) (o0 : Os) (u : U) (xs : List U) (J : Nat → List U → St → Prop) (n : Nat) (s : Shared) : Prop
  | mk (W' : Wd cx) (i : Nat) (ys : List U) (ws : Array Value) (nn : Nat) (ow' : Nat → Option Addr) (es : s = W'.s) (il : i ≤ xs.length) (en : n + i = xs.length + 1) (j : J i ys W'.σ) (F : Frm cx csc cenv W' o0 ow') (pi : ∃ o, Priv W' I o)
    (it : Stay u xs W.σ W'.σ → Ite W' I u xs i) (pd : Priv W' D (listO ws nn)) (r : W'.prs ys ws.toList) (hl : ys.length ≤ i) (le : Le (PC I D csc cenv) W W')
theorem comp_loop {I D : Addr} {o0 : Os} {pt : Pt} {t elt iter : Expr} {stay : St → Prop} {Q0 : U → St → Prop} {RR : Result → Shared → Prop} (S : ScOk csc) (ak : AOk A d) (F0 : Frm cx csc cenv W o0 ow) (nI : ¬ FAll cenv I) (nD : ¬ FAll cenv D) (nID : I ≠ D)
    (pi0 : ∃ o, Priv W I o) (it0 : Ite W I u xs 0) (hsz : xs.length ≤ sizeLine) {n0 : Nat} (pd0 : Priv W D (listO #[] n0)) (hp : ptJ csc pt t = true) (hun : ∀ i ∈ ptS pt, ∀ v : U, o0[i]? = some v → v = .un) (hc : SC cx d csc c ifs) (he : SE cx d csc g elt)
    (ct : CompT (trC o0 c g pt) xs stay Q0 W.σ) (hst : ∀ σ', stay σ' → Stay u xs W.σ σ')
    (hR : ∀ ys W' ws nn, Le (PC I D csc cenv) W W' → Priv W' D (listO ws nn) → W'.prs ys ws.toList → ys.length ≤ sizeLine → (∃ m, W'.s.heap.Ns cenv.locals m) → (∃ o, Priv W' cenv.locals o) → Q0 (.fl ys) W'.σ → RR (.ok .next) W'.s) :
    codeAny (MD cx) A (.compLoop (.ListComp elt [⟨t, iter, ifs, 0⟩] csc p) 0 (.ref I) (.ref D) cenv) RR W.s := by
  obtain ⟨J, h0, st, fin⟩ := ct
  refine codeAny_compLoop_own (CompI W I D csc cenv o0 u xs J) ?_ (xs.length + 1) (.mk W 0 [] #[] n0 ow rfl (Nat.zero_le _) rfl h0 F0 pi0 (fun _ => it0) pd0 rfl (Nat.le_refl _) .refl)
  rintro n s ⟨W1, i, ys, wsA, nn, ow1, rfl, il, en, j, F, ⟨oI, pi⟩, it, pd, r, hl, le⟩
  have stepI : ∀ {W2 W3 : Wd cx}, Le (fun b => b = I) W2 W3 → Le (PC I D csc cenv) W2 W3 := fun l => l.weaken fun _ _ _ => .inl
  cases hx : xs[i]? with
  | none =>
    have ei : i = xs.length := Nat.le_antisymm il (List.getElem?_eq_none_iff.mp hx)
    obtain ⟨s1, q⟩ := fin ys W1.σ (ei ▸ j)
    refine wpAny_no (next_end ak.hh (it (hst _ s1)) pi hx fun W2 l2 e2 => ?_)
    have F2 := F.step l2 fun b f q => nI (q ▸ f)
    exact hR ys W2 wsA nn (le.trans (stepI l2)) (l2.pv _ _ pd nID.symm) (l2.prs r) (Nat.le_trans hl (ei ▸ hsz)) F2.ns (F2.priv _ (.inl rfl)) (by rw [e2]; exact q)
  | some x =>
    have hlx : i < xs.length := (List.getElem?_eq_some_iff.mp hx).1
    obtain ⟨s1, q⟩ := st i x ys W1.σ hx j
    have st1 := hst _ s1
    refine wpAny_no (next_item (it st1) pi hx fun v W2 l2 e2 pi2 it2 hv => ?_)
    have F2 := F.step l2 fun b f q => nI (q ▸ f)
    refine letOwned_ok it2 (wpAny_no (take_ok S ak.hh hp F2 hv (K := fun os2 => c os2 W1.σ (fun σ2 => g os2 σ2 fun z σ3 => guB z.pl (J (i + 1) (ys ++ [z]) σ3)) fun σ2 => J (i + 1) ys σ2) q fun W3 os3 tk q => ?_))
    obtain ⟨l3, e3, ⟨ow3, _, F3⟩, off⟩ := tk
    have back : ∀ {W4 ow4}, Frm cx csc cenv W4 os3 ow4 → Frm cx csc cenv W4 o0 ow4 := fun F => F.weak fun j v hj nv => off j v (fun q => nv (hun j q v hj)) hj
    have l03 := (le.trans (stepI l2)).trans (l3.weaken (P' := PC I D csc cenv) fun _ _ _ f => .inr (.inr f))
    have pi3 := pi2.imp fun o q => l3.pv _ _ q fun f => nI f.all
    have pd3 := l3.pv _ _ (l2.pv _ _ pd nID.symm) fun f => nD f.all
    obtain ⟨m, rfl⟩ : ∃ m, n = m + 1 := ⟨xs.length - i, by lia⟩
    have em : m + (i + 1) = xs.length + 1 := (Nat.add_right_comm m 1 i ▸ en :)
    have it4 : ∀ {W4 : Wd cx} {P4 : Addr → Prop}, Le P4 W3 W4 → ¬ P4 I → Stay u xs W.σ W4.σ → Ite W4 I u xs (i + 1) := fun {W4 P4} l4 n4 s4 => by
      have s24 : Stay u xs W2.σ W4.σ := by rw [e2]; exact Stay.tr it0 st1 s4
      obtain ⟨o2, p2⟩ := pi2
      have p3 := l3.pv _ _ p2 fun f => nI f.all
      have p4 := l4.pv _ _ p3 n4
      exact (it2.step l3 (fun o h => by rw [p2.1] at h; cases h; exact p3.1) (by rw [e3]; exact .rfl)).step l4 (fun o h => by rw [p3.1] at h; cases h; exact p4.1) (by rw [e3]; exact s24)
    refine wpAny_no (hc.go (P := fun σ2 => g os3 σ2 fun z σ3 => guB z.pl (J (i + 1) (ys ++ [z]) σ3)) (N := fun σ2 => J (i + 1) ys σ2) ak F3 (by rw [e3, e2]; exact q) fun ok W4 l4 q => ?_)
    cases ok with
    | false =>
      exact ⟨m, Nat.lt_succ_self m, .mk W4 (i + 1) ys wsA nn ow3 rfl hlx em q (back (F3.le l4)) (pi3.imp fun o q => l4.pv _ _ q id) (it4 l4 id) (l4.pv _ _ pd3 id) (l4.prs (l3.prs (l2.prs r))) (Nat.le_succ_of_le hl) (l03.trans l4.pf)⟩
    | true =>
      refine wpAny_no (he.go ak (F3.le l4) q fun y z W5 l5 hz q => ?_)
      obtain ⟨zp, q⟩ := ifB.t q
      have pd5 := l5.pv _ _ (l4.pv _ _ pd3 id) id
      have r5 := l5.prs (l4.prs (l3.prs (l2.prs r)))
      refine wpAny_list_append_plain (hsz := by rw [r5.sz]; exact Nat.le_trans hl (Nat.le_trans (Nat.le_of_lt hlx) hsz)) ⟨nn, pd5.1⟩ fun h' hl' sb => ?_
      obtain ⟨n', e'⟩ := hl'
      let W6 := W5.itr pd5 { W5.s with heap := h' } fun b o n => (sb.2 b n).trans
      have l6 : Le (fun b => b = D) W5 W6 := Le.itr rfl rfl
      have l36 : Le (fun b => b = D) W3 W6 := (l4.trans l5).pf.trans l6
      exact ⟨m, Nat.lt_succ_self m, .mk W6 (i + 1) (ys ++ [z]) (wsA.push y) n' ow3 rfl hlx em q (back ((F3.le (l4.trans l5)).step l6 fun b f q => nD (q ▸ f))) (pi3.imp fun o q => l36.pv _ _ q nID) (it4 l36 nID) ⟨e', pd5.2, pd5.3, pd5.4⟩
        (by rw [Array.toList_push]; exact (l6.prs r5).snoc (l6.pr (hz.pr zp))) (by rw [List.length_append]; exact Nat.succ_le_succ hl) (l03.trans (l36.weaken fun _ _ _ q => .inr (.inl q)))⟩
end
end

end
section
noncomputable section
section
variable {cx : Cx} {A : Around} {d : Nat} {P : Addr → Prop} {B W W' : Wd cx} {u v z u2 u3 : U} {x y w : Value} {l m xs us : List U} {ws : List Value} {sc csc : Scope} {env cenv : Env} {os os2 : Os} {ow ow' : Nat → Option Addr} {fr : List (Option Nat)}
variable {Q : U → St → Prop} {Qm : Value → Shared → Prop} {Qu : Unit → Shared → Prop} {Qb : Bool → Shared → Prop} {E : Value → Shared → Prop} {R : St → Prop}
variable {e e2 e3 : Expr} {es ifs : List Expr} {p p1 p2 : Pos} {g : Os → St → (U → St → Prop) → Prop} {c : Os → St → (St → Prop) → (St → Prop) → Prop}
theorem iter_self {I : Addr} (it : Ite W I u xs 0) (q : Qm (.ref I) W.s) : wpAny (MD cx) A (pyIter (.ref I)) Qm E W.s := by
  cases it with
  | l a it v e => exact wpAny_pyIter_listiter it q
  | t a it v e => exact wpAny_pyIter_tupleiter it q
  | d a es ep it v e ex hd => exact wpAny_pyIter_keyiter it q
  | r a b c n eu e hi it => exact wpAny_pyIter_rangeiter it q
structure CompR (W W' : Wd cx) (I D C : Addr) (ys : List U) (ws : Array Value) (nn : Nat) : Prop where
  le : Le (fun b => b = I ∨ W.s.heap.get? b = none) W W'
  fD : W.s.heap.get? D = none
  fC : W.s.heap.get? C = none
  dc : D ≠ C
  pD : Priv W' D (listO ws nn)
  r : W'.prs ys ws.toList
  sz : ys.length ≤ sizeLine
  ns : ∃ m, W'.s.heap.Ns C m
  pC : ∃ o, Priv W' C o
theorem comp_start {I : Addr} {pt : Pt} {t elt iter : Expr} {stay : St → Prop} {Q0 : U → St → Prop} {RR : Value → Addr → Result → Shared → Prop} (S : ScOk csc) (hf : frOk csc sc fr = true) (ak : AOk A d) (F : Frm cx sc env W os ow) (nI : ¬ FAll env I)
    (pi0 : ∃ o, Priv W I o) (it0 : Ite W I u xs 0) (hsz : xs.length ≤ sizeLine) (hp : ptJ csc pt t = true) (hun : ∀ i ∈ ptS pt, fr[i]? = some none) (hc : SC cx d csc c ifs) (he : SE cx d csc g elt)
    (ct : CompT (trC (osC fr os) c g pt) xs stay Q0 W.σ) (hst : ∀ σ', stay σ' → Stay u xs W.σ σ')
    (hR : ∀ ys W' D C ws nn, CompR W W' I D C ys ws nn → Q0 (.fl ys) W'.σ → RR (.ref D) C (.ok .next) W'.s) :
    wpAny (MD cx) A (newList []) (fun acc s₃ => wpAny (MD cx) A (newFunctionEnv csc env.globals (closOf env.cells csc.names []) [] env.qual none .none (some env)) (fun cenv s₄ =>
      codeAny (MD cx) A (.compStart (.ListComp elt [⟨t, iter, ifs, 0⟩] csc p) 0 (.ref I) acc { cenv with scope := relabel csc env }) (RR acc cenv.locals) s₄) NoE s₃) NoE W.s := by
  refine wpAny_newObj_type ?_ (by size_fits)
  let W1 : Wd cx := W.push { cls := .type "list", data := .seq ([] : List Value).toArray }
  have l1 : Le PF W W1 := Le.push
  have pd1 : Priv W1 W.s.heap.objs.size (listO #[] _) := W.push_priv rfl
  have F1 := F.le l1
  show wpAny _ _ _ _ _ W1.s
  unfold newFunctionEnv
  refine wpAny_bind (wpAny_alloc ?_)
  refine wpAny_bind (wpAny_layCells _ (fun name kind cells => by cases hkc : kind == NameKind.cell <;> simp [hkc]) _ _ _ _ ?_)
  simp only [List.forIn_nil, pure_bind]
  refine wpAny_pure ?_
  have hsz1 : (W1.s.heap.push { cls := .type "dict", data := .dict #[] }).objs.size = W1.s.heap.objs.size + 1 := Heap.size_push ..
  simp only [Option.isSome_some, if_true, hsz1]
  have k2 : ∀ b o, W1.s.heap.get? b = some o → (pushCells (W1.s.heap.push { cls := .type "dict", data := .dict #[] }) csc.names).get? b = some o := fun b o e => pushCells_keeps _ _ _ _ (Heap.get?_push_of_some _ e)
  let W2 : Wd cx := W1.gr { W1.s with heap := pushCells (W1.s.heap.push { cls := .type "dict", data := .dict #[] }) csc.names } k2
  have l2 : Le PF W1 W2 := Le.gr rfl rfl
  have F2 : Frm cx csc (compE csc env W1.s.heap.objs.size) W2 (osC fr os) fun _ => none := comp_env F1 S hf rfl k2
  have l02 := l1.trans l2
  have hD := Heap.lt_size pd1.1
  obtain ⟨oI, pI⟩ := pi0
  have hI := Heap.lt_size pI.1
  have new : ∀ b, FA csc (compE csc env W1.s.heap.objs.size) b → W1.s.heap.objs.size ≤ b := fun b f => compE.new S hsz1 f
  have dead : ∀ b, W1.s.heap.objs.size ≤ b → W.s.heap.get? b = none := fun b h => by
    cases q : W.s.heap.get? b with
    | none => rfl
    | some o => exact absurd (Heap.lt_size (l1.pv b o |> fun _ => Heap.get?_push_of_some _ q : W1.s.heap.get? b = some o)) (Nat.not_lt.mpr h)
  have cas : ∀ b, FAll (compE csc env W1.s.heap.objs.size) b → FAll env b ∨ W1.s.heap.objs.size ≤ b := fun b f => by
    rcases f with rfl | ⟨x, e⟩
    · exact .inr (Nat.le_refl _)
    · rcases compE.mem hsz1 e with ⟨_, q⟩ | ⟨_, q⟩
      · exact .inl (.inr ⟨x, q⟩)
      · exact .inr (Nat.le_of_succ_le q)
  have aI : I < W1.s.heap.objs.size := Nat.lt_trans hI hD
  have nI2 : ¬ FAll (compE csc env W1.s.heap.objs.size) I := fun f => (cas I f).elim nI fun h => absurd aI (Nat.not_lt.mpr h)
  have nD2 : ¬ FAll (compE csc env W1.s.heap.objs.size) W.s.heap.objs.size := fun f => (cas _ f).elim (fun f => let ⟨o, q⟩ := F.priv _ f; nomatch (dead_size _).symm.trans q.1) fun h => absurd hD (Nat.not_lt.mpr h)
  have nID : I ≠ W.s.heap.objs.size := Nat.ne_of_lt hI
  have pi2 : Priv W2 I oI := l02.pv _ _ pI id
  have it2 : Ite W2 I u xs 0 := it0.step l02 (fun o e => by rw [pI.1] at e; cases e; exact pi2.1) .rfl
  refine (fun loop => codeAny_compStart_list loop (iter_self it2 loop)) ?_
  exact comp_loop (W := W2) (RR := RR (.ref W.s.heap.objs.size) W1.s.heap.objs.size) S ak F2 nI2 nD2 nID ⟨_, pi2⟩ it2 hsz (l2.pv _ _ pd1 id) hp (fun i hi v e => (osC.at e (hun i hi)).2 rfl) hc he ct hst fun ys W' ws nn le pd r hz ns pc q =>
    hR ys W' _ _ ws nn ⟨l02.pf.trans (le.weaken fun b o _ q => q.imp id fun q => q.elim (fun q => q ▸ dead_size _) fun f => dead b (new b f)), dead_size _, dead _ (Nat.le_refl _), Nat.ne_of_lt hD, pd, r, hz, ns, pc⟩ q
end
end

end
section
noncomputable section
section
variable {cx : Cx} {A : Around} {d : Nat} {P : Addr → Prop} {B W W' : Wd cx} {u v z u2 u3 : U} {x y w : Value} {l m xs us : List U} {ws : List Value} {sc csc : Scope} {env cenv : Env} {os os2 : Os} {ow ow' : Nat → Option Addr} {fr : List (Option Nat)}
variable {Q : U → St → Prop} {Qm : Value → Shared → Prop} {Qu : Unit → Shared → Prop} {Qb : Bool → Shared → Prop} {E : Value → Shared → Prop} {R : St → Prop}
variable {e e2 e3 : Expr} {es ifs : List Expr} {p p1 p2 : Pos} {f g h : Os → St → (U → St → Prop) → Prop} {c : Os → St → (St → Prop) → (St → Prop) → Prop}
structure NewL (W W' : Wd cx) (D : Addr) (ys : List U) (ws : Array Value) (nn : Nat) : Prop where
  le : Le PF W W'
  fD : ∀ o, ¬ Priv W D o
  pD : Priv W' D (listO ws nn)
  r : W'.prs ys ws.toList
  sz : ys.length ≤ sizeLine
structure SD (cx : Cx) (d : Nat) (sc : Scope) (f : Os → St → (U → St → Prop) → Prop) (x : Expr) : Prop where
  go : ∀ {A env W os ow Q Qm}, AOk A d → Frm cx sc env W os ow → f os W.σ Q → (∀ D ys ws nn W', NewL W W' D ys ws nn → Q (.fl ys) W'.σ → Qm (.ref D) W'.s) → wpAny (MD cx) A (eval x env) Qm NoE W.s
theorem SD.se (h : SD cx d sc f e) : SE cx d sc f e := ⟨fun {A env W os ow Q Qm} ak F hh k => h.go ak F hh fun D ys ws nn W' n q => by
  have l2 : Le (fun b => b = D) W' (W'.adF n.pD) := Le.adF n.pD rfl
  exact k _ (.fl ys) (W'.adF n.pD) ((n.le.pf.trans l2).weaken fun b o p q => n.fD o (q ▸ p)) (show SqR _ _ _ _ _ from .mk D ws nn (adF.at n.pD) (l2.prs n.r) n.sz) q⟩
noncomputable def compW (fr : List (Option Nat)) (pt : Pt) (f : Os → St → (U → St → Prop) → Prop) (c : Os → St → (St → Prop) → (St → Prop) → Prop) (g : Os → St → (U → St → Prop) → Prop) (os : Os) (σ : St) (Q : U → St → Prop) : Prop :=
  f os σ fun u σ1 => srcU σ1 (fun xs stay => CompT (trC (osC fr os) c g pt) xs stay Q σ1) u
structure CompE (W W' : Wd cx) (D C : Addr) (ys : List U) (ws : Array Value) (nn : Nat) : Prop where
  l : NewL W W' D ys ws nn
  fC : ∀ o, ¬ Priv W C o
  dc : D ≠ C
  ns : ∃ m, W'.s.heap.Ns C m
  pC : ∃ o, Priv W' C o
theorem comp_pre {iter : Expr} {use : Option (Value → Sem Unit)} {Qr : Value → Shared → Prop} {pt : Pt} {t elt : Expr} (S : ScOk csc) (hf : frOk csc sc fr = true) (hs : noSet iter = true) (ak : AOk A d) (F : Frm cx sc env W os ow) (hi : SE cx d sc f iter) (hp : ptJ csc pt t = true) (hun : ∀ i ∈ ptS pt, fr[i]? = some none)
    (hc : SC cx d csc c ifs) (he : SE cx d csc g elt) (hh : compW fr pt f c g os W.σ Q)
    (fin : ∀ ys W' D C ws nn, CompE W W' D C ys ws nn → Q (.fl ys) W'.σ → compPost (MD cx) A NoE use Qr (.ref D) C (.ok .next) W'.s) :
    wpAny (MD cx) A (comprehension (.ListComp elt [⟨t, iter, ifs, 0⟩] csc p) csc env (firstIterPos [⟨t, iter, ifs, 0⟩] p) (newList []) false (eval iter env) use) Qr NoE W.s := by
  have hn : ∀ x ∈ csc.names, x.2 = NameKind.local → csc.names.lookup x.1 = some .local := fun x hx e => lookup_nd2 S.nd (by rw [← e]; exact hx)
  refine wpAny_comprehension_free (use := use) rfl (fun x => noSet.it hs) (closureFor_eq fun x hx => let ⟨c, e⟩ := comp_free F hf x hx; by rw [e]; rfl) S.kind hn (hi.go ak F hh fun w u W1 l1 hu hh => ?_)
  refine iter_ok hu (srcU.inv hh) fun o xs stay hf' ct hst hz it => ?_
  have lp : Le PF W1 (W1.push o) := Le.push
  have nI : ¬ FAll env W1.s.heap.objs.size := fun f => let ⟨o, q⟩ := (F.le l1).priv _ f; nomatch (dead_size _).symm.trans q.1
  have pi : Priv (W1.push o) W1.s.heap.objs.size o := W1.push_priv hf'
  refine comp_start (W := W1.push o) (RR := compPost (MD cx) A NoE use Qr) S hf ak ((F.le l1).le lp) nI ⟨o, pi⟩ it hz hp hun hc he ct hst fun ys W' D C ws nn cr q => fin ys W' D C ws nn ⟨⟨l1.trans ((lp.pf.trans cr.le).weaken fun b o p q => ?_), ?_, cr.pD, cr.r, cr.sz⟩, ?_, cr.dc, cr.ns, cr.pC⟩ q
  · rcases q with q | q
    · subst q; exact nomatch (dead_size _).symm.trans p.1
    · exact nomatch q.symm.trans (lp.pv b o p id).1
  · exact fun o p => nomatch cr.fD.symm.trans ((l1.trans lp).pv _ _ p id).1
  · exact fun o p => nomatch cr.fC.symm.trans ((l1.trans lp).pv _ _ p id).1
theorem SD.comp {iter : Expr} {pt : Pt} {t elt : Expr} (S : ScOk csc) (hf : frOk csc sc fr = true) (hs : noSet iter = true) (hi : SE cx d sc f iter) (hp : ptJ csc pt t = true) (hun : ∀ i ∈ ptS pt, fr[i]? = some none) (hc : SC cx d csc c ifs) (he : SE cx d csc g elt) :
    SD cx d sc (compW fr pt f c g) (.ListComp elt [⟨t, iter, ifs, 0⟩] csc p) := ⟨fun {A env W os ow Q Qm} ak F hh k => by
  rw [eval_ListComp]
  refine comp_pre (use := none) S hf hs ak F hi hp hun hc he hh fun ys W' D C ws nn cr q => ?_
  obtain ⟨m, ns⟩ := cr.ns
  obtain ⟨oC, pC⟩ := cr.pC
  refine ⟨m, ns, fun h' sb => ?_⟩
  have l2 : Le (fun b => b = C) W' (W'.itr pC { W'.s with heap := h' } fun b o n => (sb.2 b n).trans) := Le.itr rfl rfl
  exact k D ys ws nn _ ⟨(cr.l.le.pf.trans l2).weaken fun b o p q => cr.fC o (q ▸ p), cr.l.fD, l2.pv _ _ cr.l.pD cr.dc, l2.prs cr.l.r, cr.l.sz⟩ q⟩
end
end

end
section
noncomputable section
structure Lw {cx : Cx} (P : Addr → Prop) (W W' : Wd cx) : Prop where
  g : ∀ b o, W.G b = some o → W'.G b = some o
  m : ∀ l a, W.μ l = some a → W'.μ l = some a
  pv : ∀ b o, Priv W b o → ¬ P b → Priv W' b o
theorem Le.lw {cx : Cx} {P : Addr → Prop} {W W' : Wd cx} (l : Le P W W') : Lw P W W' := ⟨l.g, l.m, l.pv⟩
theorem Lw.trans {cx : Cx} {P : Addr → Prop} {W W1 W2 : Wd cx} (x : Lw P W W1) (y : Lw P W1 W2) : Lw P W W2 := ⟨fun b o e => y.g b o (x.g b o e), fun b o e => y.m b o (x.m b o e), fun b o p n => y.pv b o (x.pv b o p n) n⟩
theorem Lw.weaken {cx : Cx} {P P' : Addr → Prop} {W W' : Wd cx} (x : Lw P W W') (h : ∀ b o, Priv W b o → P b → P' b) : Lw P' W W' := ⟨x.g, x.m, fun b o p n => x.pv b o p fun q => n (h b o p q)⟩
theorem Lw.pr {cx : Cx} {P : Addr → Prop} {W W' : Wd cx} (x : Lw P W W') {u w} (h : W.pr u w) : W'.pr u w := PR.mono x.g x.m _ _ h
structure Sit (cx : Cx) (sc : Scope) (env : Env) (B : Wd cx) (V : Wd cx) (W : Wd cx) (os : Os) (ow : Nat → Option Addr) : Prop where
  F : Frm cx sc env W os ow
  le : Le (FA sc env) B W
  of : ∀ i a, ow i = some a → B.H a = none
  es : env.scope = sc
  lw : Lw (FA sc env) V W
structure KF (cx : Cx) (sc : Scope) (env : Env) (B : Wd cx) (V : Wd cx) (K : KR) (Qf : Flow → Shared → Prop) : Prop where
  n : ∀ {W : Wd cx} {os ow}, Sit cx sc env B V W os ow → K.n os W.σ → Qf .next W.s
  l : ∀ {W : Wd cx} {os ow}, Sit cx sc env B V W os ow → K.l os W.σ → Qf .cont W.s
  r : ∀ {W : Wd cx} {u w}, Le (FA sc env) B W → W.pr u w → K.r u W.σ → Qf (.ret w) W.s
structure SW (cx : Cx) (d : Nat) (sc : Scope) (f : Os → St → KR → Prop) (ss : List Stmt) : Prop where
  go : ∀ {A env B V W os ow K Qf}, AOk A d → Sit cx sc env B V W os ow → f os W.σ K → KF cx sc env B V K Qf → wpAny (MD cx) A (execs ss env) Qf NoE W.s
section
variable {cx : Cx} {A : Around} {d : Nat} {P : Addr → Prop} {B W W' : Wd cx} {u v z u2 u3 : U} {x y w : Value} {l m xs us : List U} {ws : List Value} {sc csc : Scope} {env cenv : Env} {os os2 : Os} {ow ow' : Nat → Option Addr} {fr : List (Option Nat)}
variable {Q : U → St → Prop} {Qm : Value → Shared → Prop} {Qu : Unit → Shared → Prop} {Qb : Bool → Shared → Prop} {Qf : Flow → Shared → Prop} {E : Value → Shared → Prop} {R : St → Prop} {K : KR} {V : Wd cx}
variable {e e2 e3 : Expr} {es ifs : List Expr} {p p1 p2 : Pos} {f g h : Os → St → (U → St → Prop) → Prop} {c : Os → St → (St → Prop) → (St → Prop) → Prop} {fk fb fo : Os → St → KR → Prop} {rest bd ob : List Stmt}
theorem Sit.step (s : Sit cx sc env B V W os ow) (l : Le PF W W') : Sit cx sc env B V W' os ow := ⟨s.F.le l, s.le.trans l.pf, s.of, s.es, s.lw.trans l.pf.lw⟩
theorem Sit.took {S : List Nat} (s : Sit cx sc env B V W os ow) (t : Took cx sc env W W' os os2 ow S) : ∃ ow', Sit cx sc env B V W' os2 ow' :=
  let ⟨ow', o, F⟩ := t.f; ⟨ow', F, s.le.trans t.le, fun i a e => s.of i a (o i a e), s.es, s.lw.trans t.le.lw⟩
theorem SW.skip : SW cx d sc (fun os σ K => K.n os σ) [] := ⟨fun ak s h k => wpAny_execs_nil (k.n s h)⟩
theorem SW.ret (he : SE cx d sc f e) : SW cx d sc (fun os σ K => f os σ fun u σ1 => plQ (fun u => K.r u σ1) u) (.Return (some e) p :: rest) := ⟨fun {A env B V W os ow K Qf} ak s h k =>
  wpAny_execs_cons (wpAny_Return_some (he.go ak s.F h fun w u W1 l1 hu h => k.r (s.le.trans l1.pf) (hu.pr (ifB.t h).1) (ifB.t h).2))⟩
theorem SW.ret0 : SW cx d sc (fun os σ K => K.r .no σ) (.Return none p :: rest) := ⟨fun {A env B V W os ow K Qf} ak s h k =>
  wpAny_execs_cons (wpAny_Return_none (k.r (u := .no) s.le (show Value.none = _ from rfl) h))⟩
theorem SW.cont : SW cx d sc (fun os σ K => K.l os σ) (.Continue p :: rest) := ⟨fun {A env B V W os ow K Qf} ak s h k =>
  wpAny_execs_cons (show wpAny _ _ (standAt p >>= fun _ => (pure Flow.cont : Sem Flow)) _ _ _ from wpAny_bind (wpAny_standAt (wpAny_pure (k.l s h))))⟩
theorem SW.then (hr : SW cx d sc fk rest) (ak : AOk A d) (s : Sit cx sc env B V W os ow) (h : fk os W.σ K) (k : KF cx sc env B V K Qf) : wpAny (MD cx) A (execs rest env) Qf NoE W.s := hr.go ak s h k
theorem KF.seq (hr : SW cx d sc fk rest) (ak : AOk A d) (k : KF cx sc env B V K Qf) : KF cx sc env B V ⟨fun os σ => fk os σ K, K.r, K.l⟩ fun f s' => match f with | .next => wpAny (MD cx) A (execs rest env) Qf NoE s' | f => Qf f s' :=
  ⟨fun s h => hr.go ak s h k, fun s h => k.l s h, fun l p h => k.r l p h⟩
theorem SW.ite (hc : SB cx d sc c e) (hb : SW cx d sc fb bd) (ho : SW cx d sc fo ob) (hr : SW cx d sc fk rest) :
    SW cx d sc (fun os σ K => c os σ (fun σ1 => fb os σ1 ⟨fun os σ => fk os σ K, K.r, K.l⟩) fun σ1 => fo os σ1 ⟨fun os σ => fk os σ K, K.r, K.l⟩) (.If e bd ob p :: rest) := ⟨fun {A env B V W os ow K Qf} ak s h k => by
  refine wpAny_execs_cons ?_
  rw [exec_If]
  refine wpAny_bind (wpAny_standAt (wpAny_bind (hc.go (P := fun σ1 => fb os σ1 ⟨fun os σ => fk os σ K, K.r, K.l⟩) (N := fun σ1 => fo os σ1 ⟨fun os σ => fk os σ K, K.r, K.l⟩) ak s.F h fun b W1 l1 q => ?_)))
  cases b with
  | true => exact hb.go ak (s.step l1) q (KF.seq hr ak k)
  | false => exact ho.go ak (s.step l1) q (KF.seq hr ak k)⟩
noncomputable def isComp (e : Expr) : Bool := Nat.ble 8 e.ctorIdx && Nat.ble e.ctorIdx 10
theorem isComp.sw (h : isComp e = false) {t : Option Expr} {n : Nat} : swapsWith e t n env = pure false := by
  cases e <;> first | rfl | exact fot h.symm
theorem SW.ex (hc : isComp e = false) (he : SE cx d sc f e) (hk : sc.kind = .function) (hr : SW cx d sc fk rest) : SW cx d sc (fun os σ K => f os σ fun u σ1 => guB (isnU u) (fk os σ1 K)) (.Expr e p :: rest) := ⟨fun {A env B V W os ow K Qf} ak s h k => by
  refine wpAny_execs_cons ?_
  rw [exec_Expr env e p (by unfold interactive; rw [s.es, hk]; rfl) (isComp.sw hc)]
  refine wpAny_bind (wpAny_standAt (wpAny_bind (he.go ak s.F h fun w u W1 l1 hu h => ?_)))
  obtain ⟨e1, h⟩ := ifB.t h
  cases u with
  | no =>
    rw [show w = .none from hu, dropValue_plain (fun _ => by simp)]
    exact wpAny_pure (hr.go ak (s.step l1) h k)
  | _ => exact fot e1⟩
theorem asg0 {t : Expr} (hc : ∀ n, swapsWith e (some t) n env = pure false) (hw : swappedStores [t] e env = pure none) (hsn : (assignEach [t] env).map (·.2) = [assign t env]) (he : wpAny (MD cx) A (eval e env) (fun w s => wpAny (MD cx) A (assign t env w) (fun _ s => Qf .next s) NoE s) NoE W.s) : wpAny (MD cx) A (exec (.Assign [t] e p) env) Qf NoE W.s := by
  rw [arm_exec_Assign, show swapsWithSole [t] e p.line env = swapsWith e (some t) p.line env from rfl, hc]
  refine wpAny_bind (wpAny_standAt (wpAny_bind (wpAny_pure ?_)))
  simp only [Bool.false_eq_true, if_false]
  refine wpAny_bind (wpAny_mono he (fun w s h => ?_) fun _ _ x => x)
  rw [hw, hsn]
  refine wpAny_bind (wpAny_pure ?_)
  show wpAny _ _ (assignAll w _ >>= fun _ => (pure Flow.next : Sem Flow)) _ _ _
  exact wpAny_bind (wpAny_mono h (fun _ s h => wpAny_pure h) fun _ _ x => x)
theorem asg1 {t : Expr} (hc : isComp e = false) (hw : swappedStores [t] e env = pure none) (hsn : (assignEach [t] env).map (·.2) = [assign t env]) (he : wpAny (MD cx) A (eval e env) (fun w s => wpAny (MD cx) A (assign t env w) (fun _ s => Qf .next s) NoE s) NoE W.s) : wpAny (MD cx) A (exec (.Assign [t] e p) env) Qf NoE W.s := asg0 (fun _ => isComp.sw hc) hw hsn he
theorem SW.asg (S : ScOk sc) (hc : isComp e = false) (he : SE cx d sc f e) {i : Nat} {x : Str} (hn : nmJ sc i x = true) (hr : SW cx d sc fk rest) : SW cx d sc (fun os σ K => f os σ fun u σ1 => plQ (fun u => fk (os.set i u) σ1 K) u) (.Assign [.Name x p1] e p :: rest) := ⟨fun {A env B V W os ow K Qf} ak s h k => by
  refine wpAny_execs_cons (asg1 hc rfl rfl (he.go ak s.F h fun w u W1 l1 hu h => ?_))
  obtain ⟨hp, h⟩ := ifB.t h
  refine take_name S hn (s.F.le l1) (hu.pr hp) fun W2 t => ?_
  obtain ⟨ow2, s2⟩ := (s.step l1).took t
  exact hr.go ak s2 (by rw [t.st]; exact h) k⟩
theorem SW.seta (CF : ClsF cx) {n : Nat} (hc : isComp e = false) (he : SE cx d sc f e) (ho : SE cx d sc g e2) (hr : SW cx d sc fk rest) : SW cx d sc (fun os σ K => f os σ fun u σ1 => plQ (fun u => g os σ1 fun v σ2 => loQ (fun l => stU σ2 n u (fun σ3 => fk os σ3 K) l) v) u) (.Assign [.Attribute e2 (aN n) p1] e p :: rest) := ⟨fun {A env B V W os ow K Qf} ak s h k => by
  refine wpAny_execs_cons (asg1 hc rfl rfl (he.go ak s.F h fun w u W1 l1 hu h => ?_))
  obtain ⟨hp, h⟩ := ifB.t h
  rw [assign_Attribute]
  refine wpAny_bind (wpAny_holding (ho.go ak (s.F.le l1) h fun x v W2 l2 hv h => ?_))
  obtain ⟨k0, rfl, h⟩ := loQ.inv h
  refine wpAny_bind (wpAny_standAt (wpAny_bind (wpAny_holding ?_)))
  exact setL_ok (Qm := fun _ s => wpAny (MD cx) A (release [w, x] []) (fun _ s => wpAny (MD cx) A (execs rest env) Qf NoE s) NoE s) CF hv (l2.pr (hu.pr hp)) h fun W3 l3 q => wpAny_release (hr.go ak (((s.step l1).step l2).step l3) q k)⟩
theorem SW.seti (hc : isComp e = false) (he : SE cx d sc f e) (ho : SE cx d sc g e2) (hi : SE cx d sc h e3) (hr : SW cx d sc fk rest) (hs : noSet e3 = true) : SW cx d sc (fun os σ K => f os σ fun u σ1 => g os σ1 fun v σ2 => h os σ2 fun w σ3 => setiU σ3 (fun σ => fk os σ K) v u w) (.Assign [.Subscript e2 e3 p1] e p :: rest) := ⟨fun {A env B V W os ow K Qf} ak s hh k => by
  refine wpAny_execs_cons (asg1 hc rfl rfl (he.go ak s.F hh fun w u W1 l1 hu hh => ?_))
  rw [assign_Subscript]
  refine wpAny_bind (wpAny_holding (ho.go ak (s.F.le l1) hh fun y v W2 l2 hv hh => ?_))
  refine wpAny_bind (wpAny_holding (hi.go ak ((s.F.le l1).le l2) hh fun x z W3 l3 hz hh => ?_))
  have s3 := ((s.step l1).step l2).step l3
  refine wpAny_bind (wpAny_standAt (wpAny_bind (wpAny_holding (seti_ok (l3.vr hv) ((l2.trans l3).vr hu) hz hh fun W4 l4 q => ?_))))
  exact wpAny_release (hr.go ak (s3.step l4) q k)⟩
end
end

end
section
noncomputable section
section
variable {cx : Cx} {A : Around} {d : Nat} {P : Addr → Prop} {B W W' : Wd cx} {u v z u2 u3 : U} {x y w : Value} {l m xs us : List U} {ws : List Value} {sc csc : Scope} {env cenv : Env} {os os2 : Os} {ow ow' : Nat → Option Addr} {fr : List (Option Nat)}
variable {Q : U → St → Prop} {Qm : Value → Shared → Prop} {Qu : Unit → Shared → Prop} {Qb : Bool → Shared → Prop} {Qf : Flow → Shared → Prop} {E : Value → Shared → Prop} {R : St → Prop} {K : KR} {V : Wd cx}
variable {e e2 e3 : Expr} {es ifs : List Expr} {p p1 p2 : Pos} {f g h : Os → St → (U → St → Prop) → Prop} {c : Os → St → (St → Prop) → (St → Prop) → Prop} {fk fb fo : Os → St → KR → Prop} {rest bd ob : List Stmt}
inductive WhI (cx : Cx) (sc : Scope) (env : Env) (B : Wd cx) (V : Wd cx) (I : Nat → Os → St → Prop) (n : Nat) (s : Shared) : Prop
  | mk (W : Wd cx) (os : Os) (ow : Nat → Option Addr) (es : s = W.s) (st : Sit cx sc env B V W os ow) (i : I n os W.σ)
theorem SW.wh (hc : SB cx d sc c e) (hb : SW cx d sc fb bd) (hr : SW cx d sc fk rest) : SW cx d sc (fun os σ K => WhT c (fun os σ go => fb os σ ⟨go, K.r, go⟩) (fun os σ => fk os σ K) os σ) (.While e bd [] p :: rest) := ⟨fun {A env B V W os ow K Qf} ak s h k => by
  obtain ⟨I, n, h0, st⟩ := h
  refine wpAny_execs_cons (wpAny_While ?_)
  refine codeAny_whileLoop (WhI cx sc env B V I) ?_ n (.mk W os ow rfl s h0)
  rintro n s1 ⟨W1, os1, ow1, rfl, st1, i⟩
  refine wpAny_no (hc.go (P := fun σ1 => fb os1 σ1 ⟨fun os σ => ∃ m, m < n ∧ I m os σ, K.r, fun os σ => ∃ m, m < n ∧ I m os σ⟩) (N := fun σ1 => fk os1 σ1 K) ak st1.F (st n os1 W1.σ i) fun b W2 l2 q => ?_)
  have s2 := st1.step l2
  cases b with
  | false =>
    simp only [Bool.false_eq_true, if_false]
    exact wpAny_execs_nil (hr.go ak s2 q k)
  | true =>
    simp only [if_true]
    refine wpAny_no (hb.go ak s2 q ⟨fun {W os ow} s ⟨m, hm, i⟩ => ?_, fun {W os ow} s ⟨m, hm, i⟩ => ?_, fun {W u w} l p h => ?_⟩)
    · exact ⟨m, hm, .mk W os ow rfl s i⟩
    · exact ⟨m, hm, .mk W os ow rfl s i⟩
    · exact k.r l p h⟩
theorem srcU.pl {σ : St} {R : List U → (St → Prop) → Prop} (h : srcU σ R u) (e : isOl u = false) : u.pl = true := by
  cases u with
  | ol => exact fot e.symm
  | od | ok | oi | un => exact False.elim h
  | _ => rfl
inductive FoI (cx : Cx) (sc : Scope) (env : Env) (B : Wd cx) (V : Wd cx) (W0 : Wd cx) (I0 : Addr) (u : U) (xs : List U) (I : Nat → Os → St → Prop) (n : Nat) (s : Shared) : Prop
  | mk (W : Wd cx) (i : Nat) (os : Os) (ow : Nat → Option Addr) (es : s = W.s) (il : i ≤ xs.length) (en : n + i = xs.length + 1) (st : Sit cx sc env B V W os ow) (j : I i os W.σ) (pi : ∃ o, Priv W I0 o) (it : Stay u xs W0.σ W.σ → Ite W I0 u xs i)
theorem SW.for (S : ScOk sc) {pt : Pt} {t : Expr} (hs : noSet e = true) (he : SE cx d sc f e) (hp : ptJ sc pt t = true) (hb : SW cx d sc fb bd) (hr : SW cx d sc fk rest) :
    SW cx d sc (fun os σ K => f os σ fun u σ1 => bif isOl u then False else srcU σ1 (fun xs stay => ForT xs stay (fun x os σ go => asP os (fun os1 => fb os1 σ ⟨go, K.r, go⟩) pt x) (fun os σ => fk os σ K) os σ1) u) (.For t e bd [] p :: rest) := ⟨fun {A env B V W os ow K Qf} ak s h k => by
  refine wpAny_execs_cons (wpAny_For (he.go ak s.F h fun w u W1 l1 hu h => ?_) fun x => noSet.it hs)
  have e0 : isOl u = false := by
    cases e : isOl u with
    | true => rw [e] at h; exact h.elim
    | false => rfl
  have h : srcU W1.σ (fun xs stay => ForT xs stay (fun x os σ go => asP os (fun os1 => fb os1 σ ⟨go, K.r, go⟩) pt x) (fun os σ => fk os σ K) os W1.σ) u := by
    rw [e0] at h; exact h
  have up : u.pl = true := srcU.pl h e0
  refine iter_ok hu (srcU.inv h) fun o xs stay hf ft hst hz it0 => ?_
  obtain ⟨I, h0, st, fin⟩ := ft
  have nI : ¬ FAll env W1.s.heap.objs.size := fun f => let ⟨o, q⟩ := (s.F.le l1).priv _ f; nomatch (dead_size _).symm.trans q.1
  let W2 : Wd cx := W1.push o
  have s2 : Sit cx sc env B V W2 os ow := (s.step l1).step Le.push
  have nB : ∀ o, ¬ Priv B W1.s.heap.objs.size o := fun o q => nomatch (dead_size _).symm.trans ((s.le.trans l1.pf).pv _ _ q fun f => nI f.all).1
  have nV : ∀ o, ¬ Priv V W1.s.heap.objs.size o := fun o q => nomatch (dead_size _).symm.trans ((s.lw.trans l1.pf.lw).pv _ _ q fun f => nI f.all).1
  have sI : ∀ {W3 W4 : Wd cx} {os ow}, Sit cx sc env B V W3 os ow → Le (fun b => b = W1.s.heap.objs.size) W3 W4 → Sit cx sc env B V W4 os ow := fun s l => ⟨s.F.step l fun b f q => nI (q ▸ f), ((s.le.weaken (P' := fun b => FA sc env b ∨ b = W1.s.heap.objs.size) fun _ _ _ => .inl).trans (l.weaken fun _ _ _ => .inr)).weaken fun b o p q => q.elim id fun q => (nB o (q ▸ p)).elim, s.of, s.es, ((s.lw.weaken (P' := fun b => FA sc env b ∨ b = W1.s.heap.objs.size) fun _ _ _ => .inl).trans (l.lw.weaken fun _ _ _ => .inr)).weaken fun b o p q => q.elim id fun q => (nV o (q ▸ p)).elim⟩
  refine codeAny_forLoop_any (FoI cx sc env B V W2 W1.s.heap.objs.size u xs I) ?_ (xs.length + 1) (.mk W2 0 os ow rfl (Nat.zero_le _) rfl s2 h0 ⟨o, W1.push_priv hf⟩ fun _ => it0)
  rintro n s1 ⟨W3, i, os3, ow3, rfl, il, en, s3, j, ⟨oI, pi⟩, it⟩
  cases hx : xs[i]? with
  | none =>
    have ei : i = xs.length := Nat.le_antisymm il (List.getElem?_eq_none_iff.mp hx)
    obtain ⟨s1, q⟩ := fin os3 W3.σ (ei ▸ j)
    refine wpAny_no (next_end ak.hh (it (hst _ s1)) pi hx fun W4 l4 e4 => ?_)
    exact wpAny_execs_nil (hr.go ak (sI s3 l4) (by rw [e4]; exact q) k)
  | some x =>
    have hlx : i < xs.length := (List.getElem?_eq_some_iff.mp hx).1
    obtain ⟨s1, q⟩ := st i x os3 W3.σ hx j
    have st1 := hst _ s1
    refine wpAny_no (next_item (it st1) pi hx fun v W4 l4 e4 pi4 it4 hv => ?_)
    have s4 := sI s3 l4
    refine wpAny_no (letOwned_ok it4 (wpAny_no (take_ok S ak.hh hp s4.F hv (K := fun os1 => fb os1 W3.σ ⟨I (i + 1), K.r, I (i + 1)⟩) q fun W5 os5 tk q => ?_)))
    obtain ⟨ow5, s5⟩ := s4.took tk
    obtain ⟨o4, p4⟩ := pi4
    have p5 := tk.le.pv _ _ p4 fun f => nI f.all
    obtain ⟨m, rfl⟩ : ∃ m, n = m + 1 := ⟨xs.length - i, by lia⟩
    have em : m + (i + 1) = xs.length + 1 := (Nat.add_right_comm m 1 i ▸ en :)
    have s5' : Sit cx sc env B W5 W5 os5 ow5 := { s5 with lw := ⟨fun _ _ e => e, fun _ _ e => e, fun _ _ p _ => p⟩ }
    have bk : ∀ {W6 os6 ow6}, Sit cx sc env B W5 W6 os6 ow6 → Sit cx sc env B V W6 os6 ow6 := fun s => { s with lw := s5.lw.trans s.lw }
    have go : ∀ {W6 os6 ow6}, Sit cx sc env B W5 W6 os6 ow6 → I (i + 1) os6 W6.σ → ∃ k, k < m + 1 ∧ FoI cx sc env B V W2 W1.s.heap.objs.size u xs I k W6.s := fun {W6 os6 ow6} s6 i6 => by
      have p6 := s6.lw.pv _ _ p5 fun f => nI f.all
      refine ⟨m, Nat.lt_succ_self m, .mk W6 (i + 1) os6 ow6 rfl hlx em (bk s6) i6 ⟨_, p6⟩ fun st6 => ?_⟩
      exact (it4.step tk.le (fun o h => by rw [p4.1] at h; cases h; exact p5.1) (by rw [tk.st]; exact .rfl)).stepW (fun a v => .of (s6.lw.pr (v.pr up)) up) (fun o h => by rw [p5.1] at h; cases h; exact p6.1) (by rw [tk.st, e4]; exact Stay.tr it0 st1 st6)
    refine wpAny_no (hb.go (K := ⟨I (i + 1), K.r, I (i + 1)⟩) ak s5' (by rw [tk.st, e4]; exact q) ⟨fun s i => go s i, fun s i => go s i, fun l p h => k.r l p h⟩)⟩
end
end

end
section
noncomputable section
section
variable {cx : Cx} {A : Around} {d : Nat} {P : Addr → Prop} {B W W' W0 : Wd cx} {u v z u2 u3 : U} {x y w : Value} {l m xs us ys : List U} {ws : List Value} {sc csc : Scope} {env cenv : Env} {os os2 : Os} {ow ow' : Nat → Option Addr} {fr : List (Option Nat)}
variable {Q : U → St → Prop} {Qm : Value → Shared → Prop} {Qu : Unit → Shared → Prop} {Qb : Bool → Shared → Prop} {Qf : Flow → Shared → Prop} {E : Value → Shared → Prop} {R : St → Prop} {K : KR} {V : Wd cx}
variable {e e2 e3 : Expr} {es ifs : List Expr} {p p1 p2 : Pos} {f g h : Os → St → (U → St → Prop) → Prop} {c : Os → St → (St → Prop) → (St → Prop) → Prop} {fk fb fo : Os → St → KR → Prop} {rest bd ob : List Stmt}
theorem Le.noH {a : Addr} (x : Le P B W) (h : W.H a = none) : B.H a = none := by
  cases q : B.H a with
  | none => rfl
  | some c =>
    by_cases n : ∃ l, B.μ l = some a
    · obtain ⟨l, n⟩ := n
      obtain ⟨c', e, _⟩ := W.R.loc l a (x.m l a n)
      exact nomatch e.symm.trans h
    · exact nomatch (x.ow a c q fun l e => n ⟨l, e⟩).1.symm.trans h
theorem Frm.free {D : Addr} (F : Frm cx sc env W os ow) (h : W.H D = none) : ∃ ow', (∀ j a, ow' j = some a → ow j = some a) ∧ (∀ j, ow' j ≠ some D) ∧ Frm cx sc env W os ow' := by
  have k : ∀ j a, (if ow j = some D then none else ow j) = some a → ow j = some a ∧ a ≠ D := fun j a e => by
    split at e
    · exact nos e
    · rename_i q; exact ⟨e, fun r => q (r ▸ e)⟩
  refine ⟨fun j => if ow j = some D then none else ow j, fun j a e => (k j a e).1, fun j e => (k j D e).2 rfl, { F with so := fun i x kd u h1 h2 h3 h4 => ?_, oi := fun i j a e e' => F.oi i j a (k i a e).1 (k j a e').1 }⟩
  obtain ⟨a, e, sv, o⟩ := F.so i x kd u h1 h2 h3 h4
  obtain ⟨c, hc, hH, n⟩ := id o
  exact ⟨a, by rw [if_neg (fun q => by rw [e] at q; cases q; exact nomatch hH.symm.trans h)]; exact e, sv, o⟩
structure Got (cx : Cx) (sc : Scope) (env : Env) (B V W : Wd cx) (os : Os) (u : U) (D : Addr) (W' : Wd cx) (ow' : Nat → Option Addr) : Prop where
  e1 : W'.s = W.s
  e2 : W'.σ = W.σ
  s : Sit cx sc env B V W' os ow'
  o : OwnAt W' u D
  n : ∀ j, ow' j ≠ some D
  b : B.H D = none
  lw : Lw (fun b => b = D) W W'
theorem Sit.own (s : Sit cx sc env B V W0 os ow) {D : Addr} {o : Obj} {c : Cell} (le : Le PF W0 W) (fD : ∀ o, ¬ Priv W0 D o) (pD : Priv W D o) (hr : CellR cx W.G W.μ W.s.heap D c) (hk : kOf c = none) (hc : ownC u c) : ∃ W' ow', Got cx sc env B V W os u D W' ow' := by
  have s1 := s.step le
  have hk' : ∀ b, kOf c = some b → b ≠ D ∧ ∃ o', Priv W b o' := fun b q => nomatch hk.symm.trans q
  have nF : ¬ FAll env D := fun f => let ⟨o, q⟩ := s.F.priv _ f; fD o q
  have l1 : Le (fun b => b = D) W (W.adO pD c hr hk') := Le.adO .refl fun b z q => by
    by_cases e : b = D
    · exact .inl e
    · exact .inr ⟨e, fun q => nomatch hk.symm.trans q⟩
  have nB : ∀ o, ¬ Priv B D o := fun o q => fD o (s.le.pv _ _ q fun f => nF f.all)
  have nV : ∀ o, ¬ Priv V D o := fun o q => fD o (s.lw.pv _ _ q fun f => nF f.all)
  have l2 : Le (FA sc env) B (W.adO pD c hr hk') := ((s1.le.weaken (P' := fun b => FA sc env b ∨ b = D) fun _ _ _ => .inl).trans (l1.weaken fun _ _ _ => .inr)).weaken fun b o p q => q.elim id fun q => (nB o (q ▸ p)).elim
  have lw : Lw (FA sc env) V (W.adO pD c hr hk') := ((s1.lw.weaken (P' := fun b => FA sc env b ∨ b = D) fun _ _ _ => .inl).trans (l1.lw.weaken fun _ _ _ => .inr)).weaken fun b o p q => q.elim id fun q => (nV o (q ▸ p)).elim
  obtain ⟨ow1, o1, n1, F1⟩ := s1.F.free (W.noH pD)
  exact ⟨W.adO pD c hr hk', ow1, rfl, rfl, ⟨F1.step l1 fun b f q => nF (q ▸ f), l2, fun i a e => s1.of i a (o1 i a e), s.es, lw⟩, (.mk c hc HH.same fun l e => absurd e (W.noM (W.noH pD) l)), n1, s1.le.noH (W.noH pD), l1.lw⟩
theorem bindO_ok (S : ScOk sc) {i : Nat} {n : Str} {D : Addr} (h : nmJ sc i n = true) (gt : Got cx sc env B V W os u D W' ow') (hu : u.pl = false) (nu : u ≠ .un) (kk : ∀ W2 ow2, W2.σ = W'.σ → Sit cx sc env B V W2 (os.set i u) ow2 → Qu () W2.s) : wpAny (MD cx) A (assign (.Name n p) env (.ref D)) Qu NoE W'.s := by
  obtain ⟨k, h1, h2⟩ := nmJ.inv h
  show wpAny _ _ (standAt p >>= fun _ => bindName env n (.ref D)) _ _ _
  refine wpAny_bind (wpAny_standAt (bind_ok (ow' := fun j => if j = i then some D else ow' j) gt.s.F S h1 h2 (.o D hu nu rfl gt.o (if_pos rfl)) (fun j h => if_neg h) (fun j a e e' _ => ?_) fun s' k' le f => ?_))
  · cases (if_pos rfl).symm.trans e; exact gt.n j e'
  · exact kk (W'.to s' k') _ rfl ⟨f, gt.s.le.trans le, fun j a e => by
      by_cases q : j = i
      · cases ((if_pos q : (if j = i then some D else ow' j) = some D).symm.trans e); exact gt.b
      · exact gt.s.of j a ((if_neg q).symm.trans e), gt.s.es, gt.s.lw.trans le.lw⟩
theorem SD.lst (ha : SA cx d sc f es) : SD cx d sc (fun os σ Q => f os σ (argP fun l σ1 => Q (.fl l) σ1)) (.List es p) := ⟨fun {A env W os ow Q Qm} ak F h k => by
  rw [arm_eval_List]
  refine wpAny_bind (wpAny_standAt (wpAny_bind (ha.pln ak F h fun ws us W1 l1 r hn q => ?_)))
  have hz : us.length ≤ sizeLine := few_line (hn ▸ ha.few)
  refine wpAny_newObj_type (k _ us ws.toArray _ (W1.push { cls := .type "list", data := .seq ws.toArray }) ⟨l1.trans .push, (fun o q => nomatch (dead_size _).symm.trans (l1.pv _ _ q id).1), W1.push_priv rfl, Le.prs (Le.push (P := PF)) r, hz⟩ q) (by show ws.toArray.size ≤ sizeLine; rw [List.size_toArray, r.len]; exact hz)⟩
theorem SW.own (S : ScOk sc) (hc : isComp e = false) (he : SD cx d sc f e) {i : Nat} {n : Str} (hn : nmJ sc i n = true) (hr : SW cx d sc fk rest) : SW cx d sc (fun os σ K => f os σ fun u σ1 => flQ (fun l => fk (os.set i (.ol l)) σ1 K) u) (.Assign [.Name n p1] e p :: rest) := ⟨fun {A env B V W os ow K Qf} ak s h k => by
  refine wpAny_execs_cons (asg1 hc rfl rfl (he.go ak s.F h fun D ys ws nn W1 nl q => ?_))
  obtain ⟨W2, ow2, gt⟩ := s.own (u := .ol ys) nl.le nl.fD nl.pD (.L ws nn ys nl.pD.1 nl.r nl.sz) rfl rfl
  refine gt.e1 ▸ bindO_ok S hn gt rfl nofun fun W3 ow3 e3 s3 => ?_
  exact hr.go ak s3 (by rw [e3, gt.e2]; exact q) k⟩
end
end

end
section
noncomputable section
section
variable {cx : Cx} {A : Around} {d : Nat} {P : Addr → Prop} {B W W' W0 : Wd cx} {u v z u2 u3 : U} {x y w : Value} {l m xs us ys : List U} {ws : List Value} {sc csc : Scope} {env cenv : Env} {os os2 : Os} {ow ow' : Nat → Option Addr} {fr : List (Option Nat)}
variable {Q : U → St → Prop} {Qm : Value → Shared → Prop} {Qu : Unit → Shared → Prop} {Qb : Bool → Shared → Prop} {Qf : Flow → Shared → Prop} {E : Value → Shared → Prop} {R : St → Prop} {K : KR} {V : Wd cx}
variable {e e2 e3 : Expr} {es ifs : List Expr} {p p1 p2 : Pos} {f g h : Os → St → (U → St → Prop) → Prop} {c : Os → St → (St → Prop) → (St → Prop) → Prop} {fk fb fo : Os → St → KR → Prop} {rest bd ob : List Stmt}
theorem Sit.itr {I : Addr} (s : Sit cx sc env B V W os ow) (l : Le (fun b => b = I) W W') (nI : ¬ FAll env I) (nB : ∀ o, ¬ Priv B I o) (nV : ∀ o, ¬ Priv V I o) : Sit cx sc env B V W' os ow :=
  ⟨s.F.step l fun b f q => nI (q ▸ f), ((s.le.weaken (P' := fun b => FA sc env b ∨ b = I) fun _ _ _ => .inl).trans (l.weaken fun _ _ _ => .inr)).weaken fun b o p q => q.elim id fun q => (nB o (q ▸ p)).elim, s.of, s.es,
    ((s.lw.weaken (P' := fun b => FA sc env b ∨ b = I) fun _ _ _ => .inl).trans (l.lw.weaken fun _ _ _ => .inr)).weaken fun b o p q => q.elim id fun q => (nV o (q ▸ p)).elim⟩
structure BL (cx : Cx) (sc : Scope) (n : Str) (i : Nat) (mk : List U → U) : Prop where
  go : ∀ {A env B V W W0 os ow D ys ws nn p Qu}, Sit cx sc env B V W0 os ow → NewL W0 W D ys ws nn → (∀ W3 ow3, W3.σ = W.σ → Sit cx sc env B V W3 (os.set i (mk ys)) ow3 → Lw (FA sc env) W W3 ∨ Lw (fun b => FA sc env b ∨ b = D) W W3 → Qu () W3.s) → wpAny (MD cx) A (assign (.Name n p) env (.ref D)) Qu NoE W.s
theorem BL.own (S : ScOk sc) {i : Nat} {n : Str} (hn : nmJ sc i n = true) : BL cx sc n i .ol := ⟨fun {A env B V W W0 os ow D ys ws nn p Qu} s nl k => by
  obtain ⟨W2, ow2, gt⟩ := s.own (u := .ol ys) nl.le nl.fD nl.pD (.L ws nn ys nl.pD.1 nl.r nl.sz) rfl rfl
  have gt' : Got cx sc env B W2 W os (.ol ys) D W2 ow2 := { gt with s := { gt.s with lw := ⟨fun _ _ e => e, fun _ _ e => e, fun _ _ p _ => p⟩ } }
  refine gt.e1 ▸ bindO_ok S hn gt' rfl nofun fun W3 ow3 e3 s3 => ?_
  exact k W3 ow3 (e3.trans gt.e2) { s3 with lw := gt.s.lw.trans s3.lw } (.inr ((gt.lw.weaken fun _ _ _ => .inr).trans (s3.lw.weaken fun _ _ _ => .inl)))⟩
theorem BL.frz (S : ScOk sc) {i : Nat} {n : Str} (hn : nmJ sc i n = true) : BL cx sc n i .fl := ⟨fun {A env B V W W0 os ow D ys ws nn p Qu} s nl k => by
  have l2 : Le (fun b => b = D) W (W.adF nl.pD) := Le.adF nl.pD rfl
  have hv : (W.adF nl.pD).pr (.fl ys) (.ref D) := (show SqR _ _ _ _ _ from .mk D ws nn (adF.at nl.pD) (l2.prs nl.r) nl.sz)
  have nF : ¬ FAll env D := fun f => let ⟨o, q⟩ := s.F.priv _ f; nl.fD o q
  have nB : ∀ o, ¬ Priv B D o := fun o q => nl.fD o (s.le.pv _ _ q fun f => nF f.all)
  have nV : ∀ o, ¬ Priv V D o := fun o q => nl.fD o (s.lw.pv _ _ q fun f => nF f.all)
  have s2 := (s.step nl.le).itr l2 nF nB nV
  refine take_name (W := W.adF nl.pD) S hn s2.F hv fun W3 t => ?_
  obtain ⟨ow3, s3⟩ := s2.took t
  exact k W3 ow3 t.st s3 (.inr ((l2.lw.weaken fun _ _ _ => .inr).trans (t.le.lw.weaken fun _ _ _ => .inl)))⟩
theorem SW.comp {iter : Expr} {pt : Pt} {t elt : Expr} {mk : List U → U} {i : Nat} {n : Str} (S : ScOk csc) (hf : frOk csc sc fr = true) (hs : noSet iter = true) (hi : SE cx d sc f iter) (hp : ptJ csc pt t = true) (hun : ∀ i ∈ ptS pt, fr[i]? = some none) (hc : SC cx d csc c ifs) (he : SE cx d csc g elt)
    (bl : BL cx sc n i mk) (hr : SW cx d sc fk rest) {G : U → Os → St → KR → Prop} (hG : ∀ {ys os σ K}, G (.fl ys) os σ K → fk (os.set i (mk ys)) σ K) : SW cx d sc (fun os σ K => compW fr pt f c g os σ fun u σ1 => G u os σ1 K) (.Assign [.Name n p1] (.ListComp elt [⟨t, iter, ifs, 0⟩] csc p2) p :: rest) := ⟨fun {A env B V W os ow K Qf} ak s h k => by
  refine wpAny_execs_cons ?_
  have hw : ∃ b, swapsWith (.ListComp elt [⟨t, iter, ifs, 0⟩] csc p2) (some (.Name n p1)) p.line env = pure b := ⟨_, rfl⟩
  obtain ⟨b, hw⟩ := hw
  cases b with
  | false =>
    rw [arm_exec_Assign, show swapsWithSole [.Name n p1] (.ListComp elt [⟨t, iter, ifs, 0⟩] csc p2) p.line env = _ from hw]
    refine wpAny_bind (wpAny_standAt (wpAny_bind (wpAny_pure ?_)))
    simp only [Bool.false_eq_true, if_false]
    refine wpAny_bind ((SD.comp S hf hs hi hp hun hc he).go ak s.F h fun D ys ws nn W1 nl q => ?_)
    rw [show swappedStores [.Name n p1] (.ListComp elt [⟨t, iter, ifs, 0⟩] csc p2) env = pure none from rfl]
    refine wpAny_bind (wpAny_pure ?_)
    show wpAny _ _ (assignAll (.ref D) [assign (.Name n p1) env] >>= fun _ => (pure Flow.next : Sem Flow)) _ _ _
    refine wpAny_bind (bl.go s nl fun W3 ow3 e3 s3 _ => wpAny_pure (hr.go ak s3 (by rw [e3]; exact hG q) k))
  | true =>
    rw [exec_Assign_Name_used _ _ _ _ hw]
    refine wpAny_bind (wpAny_standAt (wpAny_bind ?_))
    show wpAny _ A (do let _ ← comprehension (.ListComp elt [⟨t, iter, ifs, 0⟩] csc p2) csc env _ (newList []) false (eval iter env) (some (PySem.assign (.Name n p1) env))) _ _ _
    refine wpAny_bind (wpAny_mono (comp_pre (Qr := fun _ s' => wpAny (MD cx) A (execs rest env) Qf NoE s') (use := some (PySem.assign (.Name n p1) env)) S hf hs ak s.F hi hp hun hc he h fun ys W1 D C ws nn cr q => ?_) (fun _ s' hq => wpAny_pure (wpAny_pure hq)) fun _ _ x => x)
    show wpAny _ _ (PySem.assign (.Name n p1) env (.ref D)) _ _ _
    have nF : ¬ FAll env C := fun f => let ⟨o, q⟩ := s.F.priv _ f; cr.fC o q
    have nB : ∀ o, ¬ Priv B C o := fun o q => cr.fC o (s.le.pv _ _ q fun f => nF f.all)
    have nV : ∀ o, ¬ Priv V C o := fun o q => cr.fC o (s.lw.pv _ _ q fun f => nF f.all)
    obtain ⟨m, oN, es, ep, n1, n2⟩ := cr.ns
    obtain ⟨oC, pC⟩ := cr.pC
    refine bl.go s cr.l fun W3 ow3 e3 s3 lw => ?_
    have p3 : Priv W3 C oC := lw.elim (fun l => l.pv _ _ pC fun f => nF f.all) fun l => l.pv _ _ pC fun f => f.elim (fun f => nF f.all) fun e => cr.dc e.symm
    refine ⟨m, ⟨oN, es, ep, by rw [p3.1, ← pC.1]; exact n1, n2⟩, fun h' sb => ?_⟩
    let W4 := W3.itr p3 { W3.s with heap := h' } fun b o n => (sb.2 b n).trans
    have l4 : Le (fun b => b = C) W3 W4 := Le.itr rfl rfl
    exact hr.go (W := W4) ak (s3.itr l4 nF nB nV) (by show fk _ W3.σ K; rw [e3]; exact hG q) k⟩
end
end

end
section
noncomputable section
section
variable {cx : Cx} {A : Around} {d : Nat} {P : Addr → Prop} {B W W' W0 : Wd cx} {u u' v z u2 u3 : U} {x y w : Value} {l m xs us ys : List U} {ws : List Value} {sc csc : Scope} {env cenv : Env} {os os2 : Os} {ow ow' : Nat → Option Addr} {fr : List (Option Nat)}
variable {Q : U → St → Prop} {Qm : Value → Shared → Prop} {Qu : Unit → Shared → Prop} {Qb : Bool → Shared → Prop} {Qf : Flow → Shared → Prop} {E : Value → Shared → Prop} {R : St → Prop} {K : KR} {V : Wd cx}
variable {e e2 e3 : Expr} {es ifs : List Expr} {p p1 p2 : Pos} {f g h : Os → St → (U → St → Prop) → Prop} {c : Os → St → (St → Prop) → (St → Prop) → Prop} {fk fb fo : Os → St → KR → Prop} {rest bd ob : List Stmt}
inductive OwS (W : Wd cx) (env : Env) (ow : Nat → Option Addr) (i : Nat) (n : Str) (k : NameKind) : Prop
  | mk (a : Addr) (ea : ow i = some a) (sv : SlotV env W.s.heap n (.ref a) k)
theorem Sit.ows (s : Sit cx sc env B V W os ow) {i : Nat} {n : Str} {k : NameKind} (h1 : sc.names[i]? = some (n, k)) (h2 : os[i]? = some u) (hu : u.pl = false) (nu : u ≠ .un) : OwS W env ow i n k :=
  Exists.rec (fun a h => .mk a h.1 h.2.1) (s.F.so i n k u h1 h2 hu nu)
theorem Sit.cel (s : Sit cx sc env B V W os ow) {i : Nat} {n : Str} {k : NameKind} {a : Addr} (h1 : sc.names[i]? = some (n, k)) (h2 : os[i]? = some u) (hu : u.pl = false) (nu : u ≠ .un) (ea : ow i = some a) : OwnAt W u a :=
  Exists.rec (fun b h => Option.some.inj (h.1.symm.trans ea) ▸ h.2.2) (s.F.so i n k u h1 h2 hu nu)
theorem Sit.up (s : Sit cx sc env B V W os ow) {i : Nat} {n : Str} {k : NameKind} {a : Addr} {c : Cell} (h1 : sc.names[i]? = some (n, k)) (h2 : os[i]? = some u) (hu : u.pl = false) (nu : u ≠ .un) (ea : ow i = some a) (hc : W.H a = some c) (nm : ∀ l, W.μ l ≠ some a)
    {s' : Shared} {c' : Cell} {u' : U} (hk : kOf c' = kOf c) (kp : ∀ b o, b ≠ a → kOf c ≠ some b → W.s.heap.get? b = some o → s'.heap.get? b = some o) (hr : CellR cx W.G W.μ s'.heap a c') (oc' : ownC u' c') (hu' : u'.pl = false) (hg : s'.gens = W.s.gens) (ho : s'.os = W.s.os) :
    Sit cx sc env B V (W.updO s' c' hc hk nm kp hr) (os.set i u') ow := by
  have nB := s.of i a ea
  let W1 := W.updO s' c' hc hk nm kp hr
  have sv : SlotV env W.s.heap n (.ref a) k := Exists.rec (fun b h => Option.some.inj (h.1.symm.trans ea) ▸ h.2.1) (s.F.so i n k u h1 h2 hu nu)
  have fa : ∀ b, FAll env b → b ≠ a ∧ kOf c ≠ some b := fun b f => let ⟨o, q⟩ := s.F.priv b f; ⟨fun e => q.ow (e ▸ .c hc), fun e => q.ow (.ofK hc e)⟩
  have kf : ∀ b o, FAll env b → W.s.heap.get? b = some o → s'.heap.get? b = some o := fun b o f e => kp b o (fa b f).1 (fa b f).2 e
  have pv : ∀ b o, Priv W b o → Priv W1 b o := fun b o q => ⟨kp b o (fun r => q.2 (r ▸ .c hc)) (fun r => q.2 (.ofK hc r)) q.1, fun r => q.2 (r.set hc hk), q.3, q.4⟩
  refine ⟨{ s.F with
    priv := fun b f => (s.F.priv b f).imp fun o q => pv b o q
    ns := by obtain ⟨m, o, es, ep, h1, h2⟩ := s.F.ns; exact ⟨m, o, es, ep, kf _ _ (.inl rfl) h1, h2⟩
    cs := fun i y e => by obtain ⟨c, v, h1, o, h2, h3⟩ := s.F.cs i y e; exact ⟨c, v, h1, o, kf _ _ (.inr ⟨y, h1⟩) h2, h3⟩
    sl := fun j y kd v e1 e2 e3 => by
      rcases set_at e2 with ⟨rfl, rfl⟩ | ⟨hj, e2⟩
      · exact nomatch hu'.symm.trans e3
      · exact (s.F.sl j y kd v e1 e2 e3).imp fun w q => ⟨q.1.keep kf, q.2⟩
    so := fun j y kd v e1 e2 e3 e4 => by
      rcases set_at e2 with ⟨rfl, rfl⟩ | ⟨hj, e2⟩
      · rw [h1] at e1; cases e1
        exact ⟨a, ea, sv.keep kf, .mk c' oc' HH.same nm⟩
      · obtain ⟨b, q1, q2, c2, o2, H2, n2⟩ := s.F.so j y kd v e1 e2 e3 e4
        exact ⟨b, q1, q2.keep kf, .mk c2 o2 (by rw [show W1.H b = W.H b from HH.ne fun q => hj (s.F.oi j i a (q ▸ q1) ea)]; exact H2) n2⟩ }, Le.updO s.le nB hg ho, s.of, s.es, s.lw.trans ⟨fun _ _ e => e, fun _ _ e => e, fun b o q _ => pv b o q⟩⟩
end
end

end
section
noncomputable section
section
variable {cx : Cx} {A : Around} {d : Nat} {P : Addr → Prop} {B W W' W0 : Wd cx} {u u' v z u2 u3 : U} {x y w : Value} {l m xs us ys : List U} {ws : List Value} {sc csc : Scope} {env cenv : Env} {os os2 : Os} {ow ow' : Nat → Option Addr} {fr : List (Option Nat)}
variable {Q : U → St → Prop} {Qm : Value → Shared → Prop} {Qu : Unit → Shared → Prop} {Qb : Bool → Shared → Prop} {Qf : Flow → Shared → Prop} {E : Value → Shared → Prop} {R : St → Prop} {K : KR} {V : Wd cx}
variable {e e2 e3 : Expr} {es ifs : List Expr} {p p1 p2 p3 : Pos} {f g h : Os → St → (U → St → Prop) → Prop} {c : Os → St → (St → Prop) → (St → Prop) → Prop} {fk fb fo : Os → St → KR → Prop} {rest bd ob : List Stmt}
inductive OlI (R : List U → Prop) : U → Prop
  | mk (l : List U) (h : R l) : OlI R (.ol l)
theorem olQ.inv {R : List U → Prop} (h : olQ R u) : OlI R u := by
  cases u with
  | ol l => exact .mk l h
  | _ => exact False.elim h
theorem load_own (s : Sit cx sc env B V W os ow) (S : ScOk sc) {i : Nat} {n : Str} {k : NameKind} (h1 : sc.names[i]? = some (n, k)) (e : os.getD i .un = u) (nu : u ≠ .un) (kk : ∀ w, VR W u w → Qm w W.s) : wpAny (MD cx) A (eval (.Name n p) env) Qm NoE W.s :=
  load_ok s.F S h1 (by rw [← e]; exact getD.at (by rw [e]; exact nu)) nu kk
theorem SW.om (S : ScOk sc) (he : SE cx d sc f e) (hst : noStar e = true) (hline : (p2.endLine == p3.line) = true) (hk : sc.kind = .function) {i : Nat} {n at' : Str} (hn : nmJ sc i n = true) (hr : SW cx d sc fk rest) {b : String} {G : U → (U → Prop) → Prop} (hv : v.pl = false) (nu : v ≠ .un)
    (hm : ∀ {A : Around} {W : Wd cx} {x : Value} {pl : Sem Bool} {Qp : Value × List Value → Shared → Prop}, OwR W (ownC v) x → Qp (.builtin b, [x]) W.s → wpAny (MD cx) A (getMethod x at' pl) Qp NoE W.s)
    (core : ∀ {A : Around} {W : Wd cx} {a : Addr} {c : Cell} {w : Value} {u : U} {P : U → Prop} {Qm : Value → Shared → Prop}, W.H a = some c → ownC v c → VR W u w → G u P → (∀ s' c' u', kOf c' = kOf c → (∀ b, b ≠ a → s'.heap.get? b = W.s.heap.get? b) → CellR cx W.G W.μ s'.heap a c' → ownC u' c' → u'.pl = false → s'.gens = W.s.gens → s'.os = W.s.os → P u' → Qm .none s') → wpAny (MD cx) A (PySem.call (.builtin b) [.ref a, w]) Qm NoE W.s)
    (ak : AOk A d) (s : Sit cx sc env B V W os ow) (k : KF cx sc env B V K Qf) (eu : os.getD i .un = v) (h : f os W.σ fun u σ1 => G u (fun w => fk (os.set i w) σ1 K)) :
    wpAny (MD cx) A (execs (.Expr (.Call (.Attribute (.Name n p1) at' p2) [e] [] p3) p :: rest) env) Qf NoE W.s := by
  refine wpAny_execs_cons ?_
  rw [exec_Expr env _ p (by unfold interactive; rw [s.es, hk]; rfl) rfl]
  obtain ⟨kd, h1, _⟩ := nmJ.inv hn
  have h2 : os[i]? = some v := eu ▸ getD.at (eu ▸ nu)
  have ha : SA cx d sc (fun os σ Q => f os σ fun u σ1 => Q (.tu [u]) σ1) [e] := SA.cons he hst SA.nil (Nat.zero_lt_succ _)
  refine OwS.rec (fun a ea sv => ?_) (s.ows h1 h2 hv nu)
  refine wpAny_bind (wpAny_standAt (wpAny_bind (meth_ok (Qm := fun w s => wpAny (MD cx) A (dropValue _ p w) (fun f s' => match f with | .next => wpAny (MD cx) A (execs rest env) Qf NoE s' | f => Qf f s') NoE s) rfl hline (by exact Nat.lt_of_sub_eq_succ rfl) ha.pl (load_sv s.F S h1 sv fun pl => ?_))))
  refine hm (OwnH.rec (fun c oc hc nm => .mk a c oc hc nm) (s.cel h1 h2 hv nu ea)) ?_
  refine ha.go (Q := fun t σ1 => argQ (fun us σ1 => one (fun u => G u (fun w => fk (os.set i w) σ1 K)) us) t σ1) ak s.F h fun ws us W1 l1 r hlen q => ⟨keep_b, ?_⟩
  refine VRs.one (C := fun ws => wpAny (MD cx) A (PySem.call (.builtin b) ([.ref a] ++ ws)) _ NoE W1.s) q r fun u wv hu q => ?_
  refine OwnH.rec (fun c oc hc nm => ?_) ((s.step l1).cel h1 h2 hv nu ea)
  refine core hc oc hu q fun s' c' u' hk sb cr oc' hu' hg ho q => ?_
  rw [dropValue_plain (fun _ => by simp)]
  exact wpAny_pure (hr.go ak ((s.step l1).up h1 h2 hv nu ea hc nm hk (kpL sb) cr oc' hu' hg ho) q k)
theorem SW.app (S : ScOk sc) (he : SE cx d sc f e) (hst : noStar e = true) (hline : (p2.endLine == p3.line) = true) (hk : sc.kind = .function) {i : Nat} {n : Str} (hn : nmJ sc i n = true) (hr : SW cx d sc fk rest) :
    SW cx d sc (fun os σ K => olQ (fun l => f os σ fun u σ1 => plQ (fun u => l.length < mxL ∧ fk (os.set i (.ol (l ++ [u]))) σ1 K) u) (os.getD i .un)) (.Expr (.Call (.Attribute (.Name n p1) (Str.ofString "append") p2) [e] [] p3) p :: rest) := ⟨fun {A env B V W os ow K Qf} ak s h k =>
  OlI.rec (motive := fun v _ => os.getD i .un = v → wpAny _ _ _ _ _ _) (fun l h eu => SW.om S he hst hline hk hn hr (b := "list.append") (v := .ol l) (G := fun u P => plQ (fun u => l.length < mxL ∧ P (.ol (l ++ [u]))) u) rfl nofun
    (fun h q => getM_list (l := l) (VR.ol (show VR _ (.ol l) _ from h)) PySem.F.slot_list_append PySem.F.type_list_append q)
    (fun {A W a c w u P Qm} hc oc hu q k => by
      obtain ⟨hp, hl, q⟩ := ifB.t q
      exact app_core (oc ▸ hc) hl (hu.pr hp) fun s' sb cr hg ho => k s' _ (.ol (l ++ [u])) (oc ▸ rfl) sb cr rfl rfl hg ho q) ak s k eu h) (olQ.inv h) rfl⟩
inductive FlL (R : List U → Prop) : U → Prop
  | mk (l : List U) (h : R l) : FlL R (.fl l)
theorem flQ.inv {R : List U → Prop} (h : flQ R u) : FlL R u := by
  cases u with
  | fl l => exact .mk l h
  | _ => exact False.elim h
theorem SW.ext (S : ScOk sc) (he : SE cx d sc f e) (hst : noStar e = true) (hline : (p2.endLine == p3.line) = true) (hk : sc.kind = .function) {i : Nat} {n : Str} (hn : nmJ sc i n = true) (hr : SW cx d sc fk rest) :
    SW cx d sc (fun os σ K => olQ (fun l => f os σ fun u σ1 => flQ (fun m => l.length + m.length ≤ mxL ∧ fk (os.set i (.ol (l ++ m))) σ1 K) u) (os.getD i .un)) (.Expr (.Call (.Attribute (.Name n p1) (Str.ofString "extend") p2) [e] [] p3) p :: rest) := ⟨fun {A env B V W os ow K Qf} ak s h k =>
  OlI.rec (motive := fun v _ => os.getD i .un = v → wpAny _ _ _ _ _ _) (fun l h eu => SW.om S he hst hline hk hn hr (b := "list.extend") (v := .ol l) (G := fun u P => flQ (fun m => l.length + m.length ≤ mxL ∧ P (.ol (l ++ m))) u) rfl nofun
    (fun h q => getM_list (l := l) (VR.ol (show VR _ (.ol l) _ from h)) PySem.F.slot_list_extend PySem.F.type_list_extend q)
    (fun {A W a c w u P Qm} hc oc hu q k => FlL.rec (motive := fun u _ => VR W u w → wpAny _ _ _ _ _ _) (fun m q hu => ext_core (oc ▸ hc) q.1 hu.fl fun s' sb cr hg ho => k s' _ (.ol (l ++ m)) (oc ▸ rfl) sb cr rfl rfl hg ho q.2) (flQ.inv q) hu) ak s k eu h) (olQ.inv h) rfl⟩
end
end

end
section
noncomputable section
section
variable {cx : Cx} {A : Around} {d : Nat} {P : Addr → Prop} {B W W' W0 : Wd cx} {u u' v z u2 u3 : U} {x y w : Value} {l m xs us ys : List U} {ws : List Value} {sc csc : Scope} {env cenv : Env} {os os2 : Os} {ow ow' : Nat → Option Addr} {fr : List (Option Nat)}
variable {Q : U → St → Prop} {Qm : Value → Shared → Prop} {Qu : Unit → Shared → Prop} {Qb : Bool → Shared → Prop} {Qf : Flow → Shared → Prop} {E : Value → Shared → Prop} {R : St → Prop} {K : KR} {V : Wd cx}
variable {e e2 e3 : Expr} {es ifs : List Expr} {p p1 p2 p3 : Pos} {f g h h' : Os → St → (U → St → Prop) → Prop} {c : Os → St → (St → Prop) → (St → Prop) → Prop} {fk fb fo : Os → St → KR → Prop} {rest bd ob : List Stmt}
theorem sw_sub {a b : Expr} {q : Pos} {n : Nat} : swapsWith e (some (.Subscript a b q)) n env = pure false := by cases e <;> rfl
theorem SW.setc {o2 o3 : Option Expr} (he : SE cx d sc f e) (ho : SE cx d sc g e2) (h2 : SO cx d sc h o2) (h3 : SO cx d sc h' o3) (hr : SW cx d sc fk rest) :
    SW cx d sc (fun os σ K => f os σ fun u σ1 => g os σ1 fun v σ2 => h os σ2 fun a σ3 => h' os σ3 fun b σ4 => setcU σ4 (fun σ => fk os σ K) u a b v) (.Assign [.Subscript e2 (.Slice o2 o3 none p2) p1] e p :: rest) := ⟨fun {A env B V W os ow K Qf} ak s hh k => by
  refine wpAny_execs_cons (asg0 (fun _ => sw_sub) rfl rfl (he.go ak s.F hh fun w u W1 l1 hu hh => ?_))
  rw [assign_Subscript]
  refine wpAny_bind (wpAny_holding (ho.go ak (s.F.le l1) hh fun y v W2 l2 hv hh => ?_))
  refine wpAny_bind (wpAny_holding (slice_obj (R := fun a b σ4 => setcU σ4 (fun σ => fk os σ K) u a b v) h2 h3 ak ((s.F.le l1).le l2) hh fun sl a b y1 y2 W3 l3 ha hb hs hh => ?_))
  have s3 := ((s.step l1).step l2).step l3
  refine wpAny_bind (wpAny_standAt (wpAny_bind (wpAny_holding (setc_ok (l3.vr hv) ((l2.trans l3).vr hu) ha hb hs hh fun W4 l4 q => ?_))))
  exact wpAny_release (hr.go ak (s3.step l4) q k)⟩
theorem asP.tpl {K : Os → Prop} {l : List Nat} (h : asP os K (.t l) u) : u.pl = true := by
  cases u with
  | tu => rfl
  | _ => exact False.elim h
theorem SW.asgT (S : ScOk sc) {l : List Nat} {ts : List Expr} {kk : Nat} (hc : isComp e = false) (hw : ∀ env, env.scope = sc → swappedStores [.Tuple ts kk p1] e env = pure none) (he : SE cx d sc f e) (hp : ptJ sc (.t l) (.Tuple ts kk p1) = true) (hr : SW cx d sc fk rest) :
    SW cx d sc (fun os σ K => f os σ fun u σ1 => asP os (fun os1 => fk os1 σ1 K) (.t l) u) (.Assign [.Tuple ts kk p1] e p :: rest) := ⟨fun {A env B V W os ow K Qf} ak s h k => by
  refine wpAny_execs_cons (asg1 hc (hw env s.es) rfl (he.go ak s.F h fun w u W1 l1 hu h => ?_))
  refine take_ok S ak.hh hp (s.F.le l1) (hu.pr (asP.tpl h)) h fun W2 os2 t q => ?_
  obtain ⟨ow2, s2⟩ := (s.step l1).took t
  exact hr.go ak s2 (by rw [t.st]; exact q) k⟩
end
end

end
section
noncomputable section
section
variable {cx : Cx} {A : Around} {d : Nat} {P : Addr → Prop} {B W W' W0 : Wd cx} {u u' v z u2 u3 : U} {x y w : Value} {l m xs us ys : List U} {ws : List Value} {sc csc : Scope} {env cenv : Env} {os os2 : Os} {ow ow' : Nat → Option Addr} {fr : List (Option Nat)}
variable {Q : U → St → Prop} {Qm : Value → Shared → Prop} {Qu : Unit → Shared → Prop} {Qb : Bool → Shared → Prop} {Qf : Flow → Shared → Prop} {E : Value → Shared → Prop} {R : St → Prop} {K : KR} {V : Wd cx}
variable {e e2 e3 : Expr} {es ifs : List Expr} {p p1 p2 p3 : Pos} {f g h h' : Os → St → (U → St → Prop) → Prop} {c : Os → St → (St → Prop) → (St → Prop) → Prop} {fk fb fo : Os → St → KR → Prop} {rest bd ob : List Stmt}
inductive OdI (R : List Int → List U → Prop) : U → Prop
  | mk (ks : List Int) (l : List U) (h : R ks l) : OdI R (.od ks l)
theorem odQ.inv {R : List Int → List U → Prop} (h : odQ R u) : OdI R u := by
  cases u with
  | od ks l => exact .mk ks l h
  | _ => exact False.elim h
theorem SW.osub (S : ScOk sc) (hc : isComp e = false) (he : SE cx d sc f e) (ha : SE cx d sc g e2) {i : Nat} {n : Str} (hn : nmJ sc i n = true) (hr : SW cx d sc fk rest) {v : U} {G : U → U → (U → Prop) → Prop} (hv : v.pl = false) (nu : v ≠ .un)
    (core : ∀ {A : Around} {W : Wd cx} {a : Addr} {c : Cell} {w z : Value} {u k : U} {P : U → Prop} {Qu : Unit → Shared → Prop}, AOk A d → W.H a = some c → ownC v c → W.pr u w → VR W k z → G u k P → (∀ s' c' u', kOf c' = kOf c → (∀ b, b ≠ a → s'.heap.get? b = W.s.heap.get? b) → CellR cx W.G W.μ s'.heap a c' → ownC u' c' → u'.pl = false → s'.gens = W.s.gens → s'.os = W.s.os → P u' → Qu () s') → wpAny (MD cx) A (setItem (.ref a) z w) Qu NoE W.s)
    (ak : AOk A d) (s : Sit cx sc env B V W os ow) (k : KF cx sc env B V K Qf) (eu : os.getD i .un = v) (h : f os W.σ fun u σ1 => plQ (fun u => g os σ1 fun k σ2 => G u k (fun w => fk (os.set i w) σ2 K)) u) :
    wpAny (MD cx) A (execs (.Assign [.Subscript (.Name n p2) e2 p1] e p :: rest) env) Qf NoE W.s := by
  obtain ⟨kd, h1, _⟩ := nmJ.inv hn
  have h2 : os[i]? = some v := eu ▸ getD.at (eu ▸ nu)
  refine wpAny_execs_cons (asg1 hc rfl rfl (he.go ak s.F h fun w u W1 l1 hu h => ?_))
  obtain ⟨hp, h⟩ := ifB.t h
  rw [assign_Subscript]
  refine OwS.rec (fun a ea sv => ?_) ((s.step l1).ows h1 h2 hv nu)
  refine wpAny_bind (wpAny_holding (load_sv (s.F.le l1) S h1 sv ?_))
  refine wpAny_bind (wpAny_holding (ha.go ak (s.F.le l1) h fun z v W2 l2 hk h => ?_))
  refine OwnH.rec (fun c oc hc nm => ?_) (((s.step l1).step l2).cel h1 h2 hv nu ea)
  refine wpAny_bind (wpAny_standAt (wpAny_bind (wpAny_holding (core ak hc oc (l2.pr (hu.pr hp)) hk h fun s' c' u' hk sb cr oc' hu' hg ho q => ?_))))
  exact wpAny_release (hr.go ak (((s.step l1).step l2).up h1 h2 hv nu ea hc nm hk (kpL sb) cr oc' hu' hg ho) q k)
theorem SW.put (S : ScOk sc) (hc : isComp e = false) (he : SE cx d sc f e) (ha : SE cx d sc g e2) {i : Nat} {n : Str} (hn : nmJ sc i n = true) (hr : SW cx d sc fk rest) :
    SW cx d sc (fun os σ K => odQ (fun ks l => f os σ fun u σ1 => plQ (fun u => g os σ1 fun v σ2 => onI (fun x => ks.length < mxL ∧ fk (os.set i (.od (dPut x u ks l).1 (dPut x u ks l).2)) σ2 K) v) u) (os.getD i .un)) (.Assign [.Subscript (.Name n p2) e2 p1] e p :: rest) := ⟨fun {A env B V W os ow K Qf} ak s h k =>
  OdI.rec (motive := fun v _ => os.getD i .un = v → wpAny _ _ _ _ _ _) (fun ks l h eu => SW.osub S hc he ha hn hr (v := .od ks l) (G := fun u v P => onI (fun x => ks.length < mxL ∧ P (.od (dPut x u ks l).1 (dPut x u ks l).2)) v) rfl nofun
    (fun {A W a c w z u v P Qu} ak hc oc hu hv q k => OnI.rec (motive := fun v _ => VR W v z → wpAny _ _ _ _ _ _) (fun x q hv => IntR.rec (motive := fun z _ => wpAny (MD cx) A (setItem (.ref a) z w) Qu NoE W.s) (fun t => Exists.rec (fun o oc => setD_core (oc ▸ hc) q.1 hu fun s' o' sb cr hg ho => k s' _ (.od (dPut x u ks l).1 (dPut x u ks l).2) (oc ▸ rfl) sb cr ⟨o', rfl⟩ rfl hg ho q.2) (show ∃ o, c = .D o ks l from oc)) (show IntR x z from hv)) (onI.inv q) hv) ak s k eu h) (odQ.inv h) rfl⟩
inductive OkI (R : List (List Int) → Prop) : U → Prop
  | mk (ks : List (List Int)) (h : R ks) : OkI R (.ok ks)
theorem okQ.inv {R : List (List Int) → Prop} (h : okQ R u) : OkI R u := by
  cases u with
  | ok ks => exact .mk ks h
  | _ => exact False.elim h
inductive TuI (R : List U → Prop) : U → Prop
  | mk (ks : List U) (h : R ks) : TuI R (.tu ks)
theorem tuQ.inv {R : List U → Prop} (h : tuQ R u) : TuI R u := by
  cases u with
  | tu ks => exact .mk ks h
  | _ => exact False.elim h
theorem SW.putS (S : ScOk sc) {bb : Bool} {kc : Nat} (ha : SE cx d sc g e2) {i : Nat} {n : Str} (hn : nmJ sc i n = true) (hr : SW cx d sc fk rest) :
    SW cx d sc (fun os σ K => okQ (fun ks => g os σ fun v σ2 => tuQ (fun l => ∃ is : List Int, (l = is.map .i ∧ ks.length < mxL) ∧ fk (os.set i (.ok (if is ∈ ks then ks else ks ++ [is]))) σ2 K) v) (os.getD i .un)) (.Assign [.Subscript (.Name n p2) e2 p1] (.Constant (.bool bb) kc p3) p :: rest) := ⟨fun {A env B V W os ow K Qf} ak s h k =>
  OkI.rec (motive := fun v _ => os.getD i .un = v → wpAny _ _ _ _ _ _) (fun ks h eu => SW.osub S rfl SE.boolC ha hn hr (v := .ok ks) (G := fun u v P => tuQ (fun l => ∃ is : List Int, (l = is.map .i ∧ ks.length < mxL) ∧ P (.ok (if is ∈ ks then ks else ks ++ [is]))) v) rfl nofun
    (fun {A W a c w z u v P Qu} ak hc oc hu hv q k => TuI.rec (motive := fun v _ => VR W v z → wpAny _ _ _ _ _ _) (fun l q hv => Exists.rec (fun is q => setS_core ak (oc ▸ hc) (q.1.1 ▸ hv) q.1.2 fun s' sb cr hg ho => k s' _ (.ok (if is ∈ ks then ks else ks ++ [is])) (oc ▸ rfl) sb cr rfl rfl hg ho q.2) q) (tuQ.inv q) hv) ak s k eu h) (okQ.inv h) rfl⟩
end
end

end
section
noncomputable section
section
variable {cx : Cx} {A : Around} {d : Nat} {P : Addr → Prop} {B W W' W0 : Wd cx} {u u' v z u2 u3 : U} {x y w : Value} {l m xs us ys : List U} {ws : List Value} {sc csc : Scope} {env cenv : Env} {os os2 : Os} {ow ow' : Nat → Option Addr} {fr : List (Option Nat)}
variable {Q : U → St → Prop} {Qm : Value → Shared → Prop} {Qu : Unit → Shared → Prop} {Qb : Bool → Shared → Prop} {Qf : Flow → Shared → Prop} {E : Value → Shared → Prop} {R : St → Prop} {K : KR} {V : Wd cx}
variable {e e2 e3 : Expr} {es ifs : List Expr} {p p1 p2 p3 : Pos} {f g h h' : Os → St → (U → St → Prop) → Prop} {c : Os → St → (St → Prop) → (St → Prop) → Prop} {fk fb fo : Os → St → KR → Prop} {rest bd ob : List Stmt}
theorem new_dict (S : ScOk sc) {i : Nat} {n : Str} {u0 : U} {c0 : Cell} (hn : nmJ sc i n = true) (hu : u0.pl = false) (nu : u0 ≠ .un) (hk : kOf c0 = none) (hc : ownC u0 c0)
    (hr0 : ∀ (W : Wd cx), CellR cx W.G W.μ (W.push { cls := .type "dict", data := .dict #[] }).s.heap W.s.heap.objs.size c0) (hr : SW cx d sc fk rest) : SW cx d sc (fun os σ K => fk (os.set i u0) σ K) (.Assign [.Name n p1] (.Dict [] [] p2) p :: rest) := ⟨fun {A env B V W os ow K Qf} ak s h k => by
  refine wpAny_execs_cons (asg1 rfl rfl rfl (wpAny_Dict_empty ?_))
  let W1 : Wd cx := W.push { cls := .type "dict", data := .dict #[] }
  have pD : Priv W1 W.s.heap.objs.size { cls := .type "dict", data := .dict #[] } := W.push_priv rfl
  obtain ⟨W2, ow2, gt⟩ := s.own (W := W1) (u := u0) Le.push (fun o q => nomatch (dead_size _).symm.trans q.1) pD (hr0 W) hk hc
  show wpAny _ _ _ _ _ W1.s
  refine gt.e1 ▸ bindO_ok S hn gt hu nu fun W3 ow3 e3 s3 => ?_
  exact hr.go ak s3 (by rw [e3, gt.e2]; exact h) k⟩
theorem SW.newD (S : ScOk sc) {i : Nat} {n : Str} (hn : nmJ sc i n = true) (hr : SW cx d sc fk rest) : SW cx d sc (fun os σ K => fk (os.set i (.od [] [])) σ K) (.Assign [.Name n p1] (.Dict [] [] p2) p :: rest) :=
  new_dict S hn (c0 := .D { cls := .type "dict", data := .dict #[] } [] []) rfl nofun rfl ⟨_, rfl⟩ (fun W => .D _ [] [] (Heap.get?_push_size _ rfl) ⟨[], rfl, isDictOf_nil, rfl, Nat.zero_le _⟩) hr
theorem SW.newS (S : ScOk sc) {i : Nat} {n : Str} (hn : nmJ sc i n = true) (hr : SW cx d sc fk rest) : SW cx d sc (fun os σ K => fk (os.set i (.ok [])) σ K) (.Assign [.Name n p1] (.Dict [] [] p2) p :: rest) :=
  new_dict S hn (c0 := .S []) rfl nofun rfl rfl (fun W => .S [] ⟨_, #[], _, Heap.get?_push_size _ rfl, ⟨rfl, rfl, rfl⟩, rfl, rfl, (fun x hx => by simp at hx), List.nodup_nil⟩ fun p hp => by simp at hp) hr
end
end

end
section
noncomputable section
section
variable {cx : Cx} {A : Around} {d : Nat} {P : Addr → Prop} {B W W' W0 : Wd cx} {u u' v z u2 u3 : U} {x y w : Value} {l m xs us ys : List U} {ws : List Value} {sc csc : Scope} {env cenv : Env} {os os2 : Os} {ow ow' : Nat → Option Addr} {fr : List (Option Nat)}
variable {Q : U → St → Prop} {Qm : Value → Shared → Prop} {Qu : Unit → Shared → Prop} {Qb : Bool → Shared → Prop} {Qf : Flow → Shared → Prop} {E : Value → Shared → Prop} {R : St → Prop} {K : KR} {V : Wd cx}
variable {fk fb fo : Os → St → KR → Prop} {ss : List Stmt}
theorem Sit.fz (s : Sit cx sc env B V W os ow) (S : ScOk sc) {i : Nat} {n : Str} {k : NameKind} (h1 : sc.names[i]? = some (n, k)) (h2 : os[i]? = some u) (hu : u.pl = false) (nu : u ≠ .un) (nk : ∀ l, u ≠ .ok l) :
    ∃ W', W'.s = W.s ∧ W'.σ = W.σ ∧ ∃ ow', Sit cx sc env B V W' (os.set i (frz u)) ow' := by
  obtain ⟨a, ea, sv, c, oc, hc, nm⟩ := s.F.so i n k u h1 h2 hu nu
  have nB := s.of i a ea
  let W1 := W.fz hc nm
  have l1 : Le (FA sc env) B W1 := Le.fz s.le nB
  have g1 : ∀ b o, W.G b = some o → W1.G b = some o := fun b o e => fzG.le hc b o e
  have pv : ∀ b o, Priv W b o → Priv W1 b o := fun b o q => ⟨q.1, fun r => q.2 (by
      rcases r.inv with ⟨x, s⟩ | ⟨x, z, s, t⟩
      · exact .c (HH.dinv s).2
      · exact .ofK (HH.dinv s).2 t), (fzG.no fun h => q.2 (.of2 hc h)).trans q.3, q.4⟩
  have fp : (frz u).pl = true := by
    cases u with
    | ol | od | oi => rfl
    | ok l => exact absurd rfl (nk l)
    | un => exact absurd rfl nu
    | _ => exact fot hu.symm
  refine ⟨W1, rfl, rfl, ow, ⟨{ s.F with
    priv := fun b f => (s.F.priv b f).imp fun o q => pv b o q
    sl := fun j y kd v e1 e2 e3 => by
      rcases set_at e2 with ⟨rfl, rfl⟩ | ⟨hj, e2⟩
      · rw [h1] at e1; cases e1
        exact ⟨_, sv, VR.frz hc nm oc nk⟩
      · exact (s.F.sl j y kd v e1 e2 e3).imp fun w q => ⟨q.1, PR.mono g1 (fun _ _ e => e) _ _ q.2⟩
    so := fun j y kd v e1 e2 e3 e4 => by
      rcases set_at e2 with ⟨rfl, rfl⟩ | ⟨hj, e2⟩
      · exact nomatch fp.symm.trans e3
      · obtain ⟨b, q1, q2, c2, o2, H2, n2⟩ := s.F.so j y kd v e1 e2 e3 e4
        exact ⟨b, q1, q2, .mk c2 o2 (by rw [show W1.H b = W.H b from HH.dne fun q => hj (s.F.oi j i a (q ▸ q1) ea)]; exact H2) n2⟩ }, l1, s.of, s.es, s.lw.trans ⟨g1, fun _ _ e => e, fun b o q _ => pv b o q⟩⟩⟩
end
end

end
section
noncomputable section
section
variable {cx : Cx} {A : Around} {d : Nat} {P : Addr → Prop} {B W W' W0 : Wd cx} {u u' v z u2 u3 : U} {x y w : Value} {l m xs us ys : List U} {ws : List Value} {sc csc : Scope} {env cenv : Env} {os os2 : Os} {ow ow' : Nat → Option Addr} {fr : List (Option Nat)}
variable {Q : U → St → Prop} {Qm : Value → Shared → Prop} {Qu : Unit → Shared → Prop} {Qb : Bool → Shared → Prop} {Qf : Flow → Shared → Prop} {E : Value → Shared → Prop} {R : St → Prop} {K : KR} {V : Wd cx}
variable {e e2 e3 : Expr} {es ifs : List Expr} {p p1 p2 p3 : Pos} {f g h h' : Os → St → (U → St → Prop) → Prop} {c : Os → St → (St → Prop) → (St → Prop) → Prop} {fk fb fo : Os → St → KR → Prop} {rest bd ob ss : List Stmt}
theorem Sit.adl (s : Sit cx sc env B V W os ow) (S : ScOk sc) {i : Nat} {n : Str} {k : NameKind} (h1 : sc.names[i]? = some (n, k)) (h2 : os[i]? = some u) (hu : u.pl = false) (nu : u ≠ .un) {lo : Loc} {σ' : St} (hl : W.μ lo = none) (ok : ∀ c, ownC u c → LocOk σ' lo c)
    (oth : ∀ k c', Born W.σ k → LocOk W.σ k c' → LocOk σ' k c' ∧ Born σ' k) (bl : Born σ' lo) : ∃ W', W'.s = W.s ∧ W'.σ = σ' ∧ ∃ ow', Sit cx sc env B V W' (os.set i (.lo lo)) ow' := by
  obtain ⟨a, ea, sv, c, oc, hc, nm⟩ := s.F.so i n k u h1 h2 hu nu
  have nB := s.of i a ea
  let W1 := W.adL hc nm lo hl σ' (ok c oc) oth bl
  have l1 : Le (FA sc env) B W1 := Le.adL s.le nB
  have le : ∀ k x, W.μ k = some x → W1.μ k = some x := fun k x e => (mset.ne fun q => by subst q; exact sn e hl).trans e
  have pv : ∀ b o, Priv W b o → Priv W1 b o := fun b o q => ⟨q.1, q.2, q.3, q.4⟩
  refine ⟨W1, rfl, rfl, ow, ⟨{ s.F with
    priv := fun b f => (s.F.priv b f).imp fun o q => pv b o q
    sl := fun j y kd v e1 e2 e3 => by
      rcases set_at e2 with ⟨rfl, rfl⟩ | ⟨hj, e2⟩
      · rw [h1] at e1; cases e1
        exact ⟨_, sv, (show LoR _ _ _ from .mk a mset.at)⟩
      · exact (s.F.sl j y kd v e1 e2 e3).imp fun w q => ⟨q.1, PR.mono (fun _ _ e => e) le _ _ q.2⟩
    so := fun j y kd v e1 e2 e3 e4 => by
      rcases set_at e2 with ⟨rfl, rfl⟩ | ⟨hj, e2⟩
      · exact nomatch (show true = false from e3)
      · obtain ⟨b, q1, q2, c2, o2, H2, n2⟩ := s.F.so j y kd v e1 e2 e3 e4
        exact ⟨b, q1, q2, c2, o2, H2, fun l' q => by
          by_cases r : l' = lo
          · subst r
            cases mset.at.symm.trans q
            exact hj (s.F.oi j i a q1 ea)
          · exact n2 l' ((mset.ne r).symm.trans q)⟩ }, l1, s.of, s.es, s.lw.trans ⟨fun _ _ e => e, le, fun b o q _ => pv b o q⟩⟩⟩
inductive FzI (R : U → Prop) (u : U) : Prop
  | mk (hu : u.pl = false) (nu : u ≠ .un) (nk : ∀ l, u ≠ .ok l) (h : R (frz u)) : FzI R u
theorem fzQ.inv {R : U → Prop} (h : fzQ R u) : FzI R u := by
  cases u with
  | ol | od | oi => exact .mk rfl nofun nofun h
  | _ => exact False.elim h
theorem SW.frz (S : ScOk sc) {i : Nat} {q : Str × NameKind} (h1 : sc.names[i]? = some q) (hr : SW cx d sc fk ss) : SW cx d sc (fun os σ K => fzQ (fun u => fk (os.set i u) σ K) (os.getD i .un)) ss := ⟨fun {A env B V W os ow K Qf} ak s h k => by
  obtain ⟨hu, nu, nk, h⟩ := fzQ.inv h
  obtain ⟨W1, e1, e2, ow1, s1⟩ := s.fz S h1 (getD.at nu) hu nu nk
  exact e1 ▸ hr.go ak s1 (e2 ▸ h) k⟩
theorem SW.adr (S : ScOk sc) {i : Nat} {q : Str × NameKind} (h1 : sc.names[i]? = some q) (hr : SW cx d sc fk ss) : SW cx d sc (fun os σ K => olQ (fun l => ∃ is, (l = infU is ∧ σ.ph = 1 ∧ is.length ≤ 1000) ∧ fk (os.set i (.lo .row)) { σ with ph := 2, row := is } K) (os.getD i .un)) ss := ⟨fun {A env B V W os ow K Qf} ak s h k => by
  generalize eu : os.getD i .un = u at h
  obtain ⟨l, is, ⟨rfl, hp, hn⟩, hh⟩ := olQ.inv h
  obtain ⟨W1, e1, e2, ow1, s1⟩ := s.adl (u := .ol (infU is)) S h1 (by rw [← eu]; exact getD.at (by rw [eu]; nofun)) rfl nofun (lo := .row) (σ' := { W.σ with ph := 2, row := is }) (W.unborn (l := .row) (show ¬ 2 ≤ W.σ.ph by rw [hp]; decide))
    (fun c o => by rw [show c = .L (infU is) from o]; exact ⟨rfl, hn⟩) (fun k c' b o => by
      cases k with
      | pot | cel => exact ⟨o, (show 1 ≤ 2 by decide)⟩
      | row => exact absurd (show 2 ≤ W.σ.ph from b) (by rw [hp]; decide)
      | buf => exact absurd (show 3 ≤ W.σ.ph from b) (by rw [hp]; decide)
      | held => exact absurd (show 4 ≤ W.σ.ph from b) (by rw [hp]; decide)
      | inf | pl | stp => exact ⟨o, b⟩) (Nat.le_refl 2)
  exact e1 ▸ hr.go ak s1 (e2 ▸ hh) k⟩
end
end

end
section
noncomputable section
section
variable {cx : Cx} {A : Around} {d : Nat} {P : Addr → Prop} {B W W' W0 : Wd cx} {u u' v z u2 u3 : U} {x y w : Value} {l m xs us ys : List U} {ws : List Value} {sc csc : Scope} {env cenv : Env} {os os2 : Os} {ow ow' : Nat → Option Addr} {fr : List (Option Nat)}
variable {Q : U → St → Prop} {Qm : Value → Shared → Prop} {Qu : Unit → Shared → Prop} {Qb : Bool → Shared → Prop} {Qf : Flow → Shared → Prop} {E : Value → Shared → Prop} {R : St → Prop} {K : KR} {V : Wd cx}
variable {e e2 e3 : Expr} {es ifs : List Expr} {p p1 p2 p3 : Pos} {f g h h' : Os → St → (U → St → Prop) → Prop} {c : Os → St → (St → Prop) → (St → Prop) → Prop} {fk fb fo : Os → St → KR → Prop} {rest bd ob ss : List Stmt}
inductive OiI (R : Nat → List U → Prop) : U → Prop
  | mk (c : Nat) (l : List U) (h : R c l) : OiI R (.oi c l)
theorem oiQ.inv {R : Nat → List U → Prop} (h : oiQ R u) : OiI R u := by
  cases u with
  | oi c l => exact .mk c l h
  | _ => exact False.elim h
theorem putO.inv {c n : Nat} {l l' : List U} (h : putO c n u l = some l') : ∃ ns, lkN c cF = some ns ∧ putF n u ns l = some l' := by
  unfold putO at h
  cases e : lkN c cF with
  | none => rw [e] at h; exact nos h
  | some ns => rw [e] at h; exact ⟨ns, rfl, h⟩
theorem seto_go (CF : ClsF cx) (S : ScOk sc) (hc : isComp e = false) (he : SE cx d sc f e) {i m : Nat} {n : Str} {kd : NameKind} (h1 : sc.names[i]? = some (n, kd)) (ak : AOk A d) (s : Sit cx sc env B V W os ow) {fk : Os → St → Prop}
    (h : oiQ (fun c l => f os W.σ fun u σ1 => plQ (fun u => oQ (fun l' => fk (os.set i (.oi c l')) σ1) (putO c m u l)) u) (os.getD i .un))
    (kk : ∀ W' c l, Sit cx sc env B V W' (os.set i (.oi c l)) ow → fk (os.set i (.oi c l)) W'.σ → wpAny (MD cx) A (execs rest env) Qf NoE W'.s) : wpAny (MD cx) A (execs (.Assign [.Attribute (.Name n p2) (aN m) p1] e p :: rest) env) Qf NoE W.s := by
  refine OiI.rec (motive := fun v _ => os.getD i .un = v → wpAny _ _ _ _ _ _) (fun c l hh eu => ?_) (oiQ.inv h) rfl
  have h2 : os[i]? = some (.oi c l) := eu ▸ getD.at (eu ▸ nofun)
  refine wpAny_execs_cons (asg1 hc rfl rfl (he.go ak s.F hh fun w u W1 l1 hu h => ?_))
  obtain ⟨hp, h⟩ := ifB.t h
  obtain ⟨l', e1, h⟩ := oQ.inv h
  obtain ⟨ns, e2, e3⟩ := putO.inv e1
  rw [assign_Attribute]
  refine OwS.rec (fun a ea sv => ?_) ((s.step l1).ows h1 h2 rfl nofun)
  refine wpAny_bind (wpAny_holding (load_sv (s.F.le l1) S h1 sv ?_))
  refine OwnH.rec (fun c0 oc hH nm => ?_) ((s.step l1).cel h1 h2 rfl nofun ea)
  refine Exists.rec (fun dd oc => ?_) (show ∃ d, c0 = .I c d l from oc)
  refine wpAny_bind (wpAny_standAt (wpAny_bind (wpAny_holding ?_)))
  refine set_core (Qm := fun _ s => wpAny (MD cx) A (release [w, .ref a] []) (fun _ s => wpAny (MD cx) A (execs rest env) Qf NoE s) NoE s) CF e2 (oc ▸ hH) e3 (hu.pr hp) fun s' kp cr hg ho => ?_
  exact wpAny_release (kk _ c l' ((s.step l1).up h1 h2 rfl nofun ea hH nm (c' := .I c dd l') (u' := .oi c l') (oc ▸ rfl) (fun b o h1 h2 => kp b o h1 fun q => h2 (oc ▸ congrArg some q)) cr ⟨dd, rfl⟩ rfl hg ho) h)
theorem SW.seto (CF : ClsF cx) (S : ScOk sc) (hc : isComp e = false) (he : SE cx d sc f e) {i m : Nat} {n : Str} {kd : NameKind} (h1 : sc.names[i]? = some (n, kd)) (hr : SW cx d sc fk rest) :
    SW cx d sc (fun os σ K => oiQ (fun c l => f os σ fun u σ1 => plQ (fun u => oQ (fun l' => fk (os.set i (.oi c l')) σ1 K) (putO c m u l)) u) (os.getD i .un)) (.Assign [.Attribute (.Name n p2) (aN m) p1] e p :: rest) := ⟨fun {A env B V W os ow K Qf} ak s h k =>
  seto_go CF S hc he h1 ak s (fk := fun os σ => fk os σ K) h fun W' c l s' q => hr.go ak s' q k⟩
structure Nam (cx : Cx) (B W : Wd cx) (D : Addr) (lo : Loc) (σ' : St) (W' : Wd cx) : Prop where
  le : Le PF B W'
  lw : Le (fun b => b = D) W W'
  es : W'.s = W.s
  e : W'.σ = σ'
  m : W'.μ lo = some D
  mo : ∀ k, k ≠ lo → W'.μ k = W.μ k
theorem nam_ok {o : Obj} {c : Cell} {lo : Loc} {σ' : St} {D : Addr} (pD : Priv W D o) (hr : CellR cx W.G W.μ W.s.heap D c) (hk : kOf c = none) (nB : ∀ o, ¬ Priv B D o) (l : Le PF B W) (nb : W.μ lo = none) (ok : LocOk σ' lo c)
    (oth : ∀ k c', Born W.σ k → LocOk W.σ k c' → LocOk σ' k c' ∧ Born σ' k) (bl : Born σ' lo) : ∃ W', Nam cx B W D lo σ' W' := by
  have hk' : ∀ b, kOf c = some b → b ≠ D ∧ ∃ o', Priv W b o' := fun b q => sn q hk
  let W1 := W.adO pD c hr hk'
  have nk : ∀ b, kOf c ≠ some b := fun b q => sn q hk
  have l1 : Le PF B W1 := Le.adO l fun b z q => .inr ⟨fun e => nB z (e ▸ q), nk b⟩
  have l2 : Le (fun b => b = D) W W1 := Le.adO .refl fun b z q => if h : b = D then .inl h else .inr ⟨h, nk b⟩
  have hH : W1.H D = some c := HH.same
  have nm : ∀ l, W1.μ l ≠ some D := fun l e => absurd e (W.noM (W.noH pD) l)
  let W2 := W1.adL hH nm lo nb σ' ok oth bl
  exact ⟨W2, Le.adL l1 (l.noH (W.noH pD)), Le.adL l2 (W.noH pD), rfl, rfl, mset.at, fun k h => mset.ne h⟩
theorem SE.mkstp {kc : Nat} : SE cx d sc (fun _ σ Q => Q (.lo (.stp σ.ns)) { σ with ns := σ.ns + 1 }) (.List [.Constant (.int 0) kc p1] p) := ⟨fun {A env W os ow Q Qm} ak F h k => by
  have ha : SA cx d sc (fun _ σ Q => Q (.tu [.i 0]) σ) [.Constant (.int 0) kc p1] := SA.cons SE.intC rfl SA.nil (Nat.zero_lt_succ _)
  refine (SD.lst (p := p) ha).go (Q := fun u σ => u = .fl [.i 0] ∧ σ = W.σ) ak F ⟨rfl, rfl⟩ fun D ys ws nn W1 nl q => ?_
  cases q.1
  obtain ⟨W2, n⟩ := nam_ok (B := W) (lo := .stp W1.σ.ns) (σ' := { W1.σ with ns := W1.σ.ns + 1 }) nl.pD (.L ws nn [.i 0] nl.pD.1 nl.r nl.sz) rfl nl.fD nl.le (W1.unborn (l := .stp W1.σ.ns) (Nat.lt_irrefl _)) ⟨0, rfl⟩ (fun k c' b o => by
    cases k with
    | stp i => exact ⟨o, Nat.lt_succ_of_lt b⟩
    | _ => exact ⟨o, b⟩) (Nat.lt_succ_self _)
  exact n.es ▸ k _ (.lo (.stp W1.σ.ns)) W2 n.le (.of (show LoR _ _ _ from .mk D n.m) rfl) (by rw [n.e, q.2]; exact h)⟩
theorem SW.newH (S : ScOk sc) {dn : Str} (nv : NameV cx sc dn fun _ v => v = biV .dict) (he : SE cx d sc f e) (hst : noStar e = true) {i : Nat} {n : Str} (hn : nmJ sc i n = true) (hr : SW cx d sc fk rest) :
    SW cx d sc (fun os σ K => f os σ fun u σ1 => dicU σ1 (fun ks l => (σ1.ph = 3 ∧ l = (ks.map fun _ => .b true)) ∧ ∀ o, fk (os.set i (.lo .held)) { σ1 with ph := 4, held := ks, hob := o } K) u) (.Assign [.Name n p1] (.Call (.Name dn p3) [e] [] p2) p :: rest) := ⟨fun {A env B V W os ow K Qf} ak s h k => by
  have ha : SA cx d sc (fun os σ Q => f os σ fun u σ1 => Q (.tu [u]) σ1) [e] := SA.cons he hst SA.nil (Nat.zero_lt_succ _)
  refine wpAny_execs_cons (asg1 rfl rfl rfl ?_)
  rw [arm_eval_Call_Name']
  refine wpAny_bind (nv.go s.F fun v ev => ?_)
  subst ev
  refine callWith_ok (first := []) ha.pl (ha.go (Q := fun t σ1 => argQ (fun us σ1 => one (fun u => dicU σ1 (fun ks l => (σ1.ph = 3 ∧ l = (ks.map fun _ => .b true)) ∧ ∀ o, fk (os.set i (.lo .held)) { σ1 with ph := 4, held := ks, hob := o } K) u) us) t σ1) ak s.F h fun ws us W1 l1 r hlen q => ⟨keep_t, ?_⟩)
  refine VRs.one (C := fun ws => wpAny (MD cx) A (PySem.call (biV .dict) ([] ++ ws)) _ NoE W1.s) q r fun u wv hu q => ?_
  obtain ⟨l, e, rs, rfl, ⟨hp, hl⟩, q⟩ := lsQ.inv q
  refine dict_core ak.1 hu e fun W2 a le e1 na dd => ?_
  obtain ⟨o, pv, ws2, hk, hd, r2, hz⟩ := dd
  have nP : ∀ o, ¬ Priv W1 a o := fun o q => nomatch q.1.symm.trans na
  obtain ⟨W3, n3⟩ := nam_ok (B := W1) (c := .D o _ _) (lo := .held) (σ' := { W2.σ with ph := 4, held := (dMrg rs ([], [])).1, hob := o }) pv (.D o _ _ pv.1 ⟨ws2, hk, hd, r2, hz⟩) rfl nP le (W2.unborn (l := .held) (show ¬ 4 ≤ W2.σ.ph by rw [e1, hp]; decide)) (by rw [hl]; rfl) (fun k c' b o => by
    cases k with
    | pot | cel => exact ⟨o, (show 1 ≤ 4 by decide)⟩
    | row => exact ⟨o, (show 2 ≤ 4 by decide)⟩
    | buf => exact ⟨o, (show 3 ≤ 4 by decide)⟩
    | held => exact absurd (show 4 ≤ W2.σ.ph from b) (by rw [e1, hp]; decide)
    | inf | pl | stp => exact ⟨o, b⟩) (Nat.le_refl 4)
  rw [← n3.es]
  have s3 := (s.step l1).step n3.le
  refine take_name (u := .lo .held) S hn s3.F (show LoR _ _ _ from .mk a n3.m) fun W4 t => ?_
  obtain ⟨ow4, s4⟩ := s3.took t
  exact hr.go ak s4 (by rw [t.st, n3.e, e1]; exact q o) k⟩
theorem SE.mkpot (ha : SD cx d sc f e) (h2 : SE cx d sc g e2) (h3 : SE cx d sc h e3) (s1 : noStar e = true) (s2 : noStar e2 = true) (s3 : noStar e3 = true) :
    SE cx d sc (fun os σ Q => f os σ fun u σ1 => g os σ1 fun v σ2 => h os σ2 fun w σ3 => flQ (fun l => intU v w fun x y => σ3.ph = 0 ∧ ∃ is : List Int, l = is.map .i ∧ Q (.lo .pot) { σ3 with ph := 1, cells := is, ps := x, pp := y }) u) (.List [e, e2, e3] p) := ⟨fun {A env W os ow Q Qm} ak F hh k => by
  rw [arm_eval_List]
  refine wpAny_bind (wpAny_standAt (wpAny_bind ?_))
  rw [noStar.go s1]
  show wpAny _ _ (spliced ((false, eval e env) :: backTo p (starEach [e2, e3] env))) _ _ _
  rw [spliced]
  refine wpAny_bind (ha.go ak F hh fun D ys ws nn W1 nl hh => ?_)
  simp only [Bool.false_eq_true, if_false]
  have hs : SA cx d sc (fun os σ Q => g os σ fun v σ1 => h os σ1 fun w σ2 => Q (.tu [v, w]) σ2) [e2, e3] := SA.cons h2 s2 (SA.cons h3 s3 SA.nil (Nat.zero_lt_succ _)) (Nat.lt_of_sub_eq_succ rfl)
  refine wpAny_bind (wpAny_pure (wpAny_bind (wpAny_holding (hs.go (Q := fun t σ3 => argQ (fun us σ3 => two (fun v w => intU v w fun x y => σ3.ph = 0 ∧ ∃ is : List Int, ys = is.map .i ∧ Q (.lo .pot) { σ3 with ph := 1, cells := is, ps := x, pp := y }) us) t σ3) ak (F.le nl.le) hh fun ws2 us W2 l2 r hn q => wpAny_pure ?_))))
  refine VRs.two (C := fun ws2 => wpAny (MD cx) A (newObj (.type "list") (.seq (Value.ref D :: ws2).toArray)) Qm NoE W2.s) q r fun v w y z rv rw' q => ?_
  refine intU.go2 (C := fun y z => wpAny (MD cx) A (newObj (.type "list") (.seq [Value.ref D, y, z].toArray)) Qm NoE W2.s) rv rw' q fun x y t t' q => ?_
  obtain ⟨hp, is, rfl, qq⟩ := q
  let o3 : Obj := { cls := .type "list", data := .seq [Value.ref D, .int x t, .int y t'].toArray }
  refine wpAny_newObj_type (Q := fun v s => Qm v s) ?_ (by size_fits)
  let W3 : Wd cx := W2.push o3
  have l3 : Le PF W2 W3 := Le.push
  have pE : Priv W3 W2.s.heap.objs.size o3 := W2.push_priv rfl
  have l03 : Le PF W W3 := (nl.le.trans l2).trans l3
  have pD : Priv W3 D (listO ws nn) := l3.pv _ _ (l2.pv _ _ nl.pD id) id
  have hne : W2.s.heap.objs.size ≠ D := fun q => sn (l2.pv _ _ nl.pD id).1 (q ▸ dead_size W2.s.heap)
  have nE : ∀ o, ¬ Priv W W2.s.heap.objs.size o := fun o q => nomatch (dead_size _).symm.trans ((nl.le.trans l2).pv _ _ q id).1
  obtain ⟨W4, n4⟩ := nam_ok (B := W) (lo := .cel) (σ' := { W2.σ with ph := 1, cells := is, ps := x, pp := y }) pD (.L ws nn _ pD.1 ((l2.trans l3).prs nl.r) nl.sz) rfl nl.fD l03 (W3.unborn (l := .cel) (show ¬ 1 ≤ W2.σ.ph by rw [hp]; decide)) rfl (fun k c' b o => by
    cases k with
    | pot => exact absurd (show 1 ≤ W2.σ.ph from b) (by rw [hp]; decide)
    | cel => exact absurd (show 1 ≤ W2.σ.ph from b) (by rw [hp]; decide)
    | row => exact absurd (show 2 ≤ W2.σ.ph from b) (by rw [hp]; decide)
    | buf => exact absurd (show 3 ≤ W2.σ.ph from b) (by rw [hp]; decide)
    | held => exact absurd (show 4 ≤ W2.σ.ph from b) (by rw [hp]; decide)
    | inf | pl | stp => exact ⟨o, b⟩) (Nat.le_refl 1)
  have pE4 := n4.lw.pv _ _ pE hne
  obtain ⟨W5, n5⟩ := nam_ok (B := W) (lo := .pot) (c := .L [.lo .cel, .i x, .i y]) (σ' := W4.σ) pE4 (.L _ _ [.lo .cel, .i x, .i y] pE4.1 (.cons (show LoR _ _ _ from .mk D n4.m) (.cons (show IntR _ _ from .mk t) (.cons (show IntR _ _ from .mk t') rfl))) (few_line (show 3 ≤ 28 by decide))) rfl nE n4.le
    ((n4.mo .pot nofun).trans (W3.unborn (l := .pot) (show ¬ 1 ≤ W2.σ.ph by rw [hp]; decide))) (by rw [n4.e]; rfl) (fun k c' b o => ⟨o, b⟩) (by rw [n4.e]; exact Nat.le_refl 1)
  have es : W5.s = W3.s := n5.es.trans n4.es
  show Qm _ W3.s
  rw [← es]
  refine k _ (.lo .pot) W5 n5.le (.of (show LoR _ _ _ from .mk _ n5.m) rfl) ?_
  rw [n5.e, n4.e]; exact qq⟩
end
end

end
section
noncomputable section
section
variable {cx : Cx} {A : Around} {d : Nat} {P : Addr → Prop} {B W W' W0 : Wd cx} {u u' v z u2 u3 : U} {x y w : Value} {l m xs us ys : List U} {ws : List Value} {sc csc : Scope} {env cenv : Env} {os os2 : Os} {ow ow' : Nat → Option Addr} {fr : List (Option Nat)}
variable {Q : U → St → Prop} {Qm : Value → Shared → Prop} {Qu : Unit → Shared → Prop} {Qb : Bool → Shared → Prop} {Qf : Flow → Shared → Prop} {E : Value → Shared → Prop} {R : St → Prop} {K : KR} {V : Wd cx}
variable {e e2 e3 : Expr} {es ifs : List Expr} {p p1 p2 p3 : Pos} {f g h h' : Os → St → (U → St → Prop) → Prop} {c : Os → St → (St → Prop) → (St → Prop) → Prop} {fk fb fo : Os → St → KR → Prop} {rest bd ob ss : List Stmt}
theorem bind1 (S : ScOk sc) {i : Nat} {x : Str} (h : nmJ sc i x = true) (F : Frm cx sc env W os ow) (hw : W.pr u w) (kk : ∀ W', Took cx sc env W W' os (os.set i u) ow [i] → Qu () W'.s) : wpAny (MD cx) A (bindName env x w) Qu NoE W.s := by
  obtain ⟨k, h1, h2⟩ := nmJ.inv h
  exact bindP_ok F S h1 h2 hw.pl hw fun s' k' le f => kk _ ⟨le, rfl, f, fun j v hj e => (List.getElem?_set_ne fun q => hj (by rw [q]; exact .head _)).trans e⟩
theorem SW.asgS (S : ScOk sc) {i j m : Nat} {a b c : Str} {ts : List Expr} {kk : Nat} (hc : isComp e = false) (hw : ∀ env, env.scope = sc → swappedStores [.Tuple ts kk p1] e env = pure (some [a, b, c])) (he : SE cx d sc f e) (h1 : nmJ sc i a = true) (h2 : nmJ sc j b = true) (h3 : nmJ sc m c = true)
    (n1 : i ≠ j) (n2 : j ≠ m) (n3 : i ≠ m) (hr : SW cx d sc fk rest) : SW cx d sc (fun os σ K => f os σ fun u σ1 => asP os (fun os1 => fk os1 σ1 K) (.t [i, j, m]) u) (.Assign [.Tuple ts kk p1] e p :: rest) := ⟨fun {A env B V W os ow K Qf} ak s h k => by
  refine wpAny_execs_cons ?_
  rw [arm_exec_Assign, show swapsWithSole [.Tuple ts kk p1] e p.line env = swapsWith e (some (.Tuple ts kk p1)) p.line env from rfl, isComp.sw hc]
  refine wpAny_bind (wpAny_standAt (wpAny_bind (wpAny_pure ?_)))
  simp only [Bool.false_eq_true, if_false]
  refine wpAny_bind (he.go ak s.F h fun w u W1 l1 hu h => ?_)
  rw [hw env s.es]
  refine wpAny_bind (wpAny_pure ?_)
  show wpAny _ _ (rule "assign.swapped-stores" >>= fun _ => unpackItems w 3 none >>= fun items => assignInOrder [bindName env c, bindName env b, bindName env a] items.reverse >>= fun _ => (pure Flow.next : Sem Flow)) _ _ _
  have hp := asP.tpl h
  cases u with
  | tu us =>
    obtain ⟨os2, e2, h⟩ := oQ.inv h
    have hl : us.length = 3 := setL.len e2
    match us, hl with
    | [x, y, z], _ =>
      cases e2
      refine wpAny_bind (wpAny_rule (wpAny_bind (unpack_ok (us := [x, y, z]) ak.hh (hu.pr hp) fun ws W2 l2 st r => ?_)))
      obtain ⟨x1, ws1, px, r1⟩ := (show ConsR _ _ ws from r)
      obtain ⟨y1, ws2, py, r2⟩ := (show ConsR _ _ ws1 from r1)
      obtain ⟨z1, ws3, pz, r3⟩ := (show ConsR _ _ ws2 from r2)
      cases (show ws3 = [] from r3)
      have s2 := (s.step l1).step l2
      show wpAny _ _ ((holding [y1, x1] (bindName env c z1) >>= fun _ => holding [x1] (bindName env b y1) >>= fun _ => holding [] (bindName env a x1) >>= fun _ => pure ()) >>= fun _ => (pure Flow.next : Sem Flow)) _ _ _
      refine wpAny_bind (wpAny_bind (wpAny_holding (bind1 S h3 s2.F pz fun W3 t3 => ?_)))
      obtain ⟨ow3, s3⟩ := s2.took t3
      refine wpAny_bind (wpAny_holding (bind1 S h2 s3.F (PR.mono t3.le.g t3.le.m _ _ py) fun W4 t4 => ?_))
      obtain ⟨ow4, s4⟩ := s3.took t4
      refine wpAny_bind (wpAny_holding (bind1 S h1 s4.F (PR.mono (t3.le.trans t4.le).g (t3.le.trans t4.le).m _ _ px) fun W5 t5 => ?_))
      obtain ⟨ow5, s5⟩ := s4.took t5
      refine wpAny_pure (wpAny_pure (hr.go ak s5 ?_ k))
      rw [t5.st, t4.st, t3.st, st, List.set_comm _ _ n2.symm, List.set_comm _ _ n3.symm, List.set_comm _ _ n1.symm]
      exact h
  | _ => exact False.elim h⟩
end
end

end
section
noncomputable section
section
variable {cx : Cx} {A : Around} {d : Nat} {P : Addr → Prop} {B W W' W0 : Wd cx} {u u' v z u2 u3 : U} {x y w : Value} {l m xs us ys : List U} {ws : List Value} {sc csc : Scope} {env cenv : Env} {os os2 : Os} {ow ow' : Nat → Option Addr} {fr : List (Option Nat)}
variable {Q : U → St → Prop} {Qm : Value → Shared → Prop} {Qu : Unit → Shared → Prop} {Qb : Bool → Shared → Prop} {Qf : Flow → Shared → Prop} {E : Value → Shared → Prop} {R : St → Prop} {K : KR} {V : Wd cx}
variable {e e2 e3 : Expr} {es ifs : List Expr} {p p1 p2 p3 : Pos} {f g h h' : Os → St → (U → St → Prop) → Prop} {c : Os → St → (St → Prop) → (St → Prop) → Prop} {fk fb fo : Os → St → KR → Prop} {rest bd ob ss : List Stmt}
noncomputable def FnO (cx : Cx) (f : Addr) (a : Arguments) (body : List Stmt) (sc : Scope) (dv : Value) : Prop :=
  ∃ name qual kV doc pm an cdv ct o, cx.h0.get? f = some o ∧ o.cls = .type "function" ∧ o.data = .func (fnOf name qual a body sc dv kV doc pm an cdv ct) ∧ cx.h0.CodeRec cdv qual
noncomputable def parB : List Str → List (Str × NameKind) → Bool
  | n :: ns, (x, k) :: l => n == x && (k == .local || k == .cell) && parB ns l
  | [], _ => true
  | _, _ => false
noncomputable def fnScB (sc : Scope) (ns : List Str) : Bool := scOk sc && !sc.isCoroutine && !sc.isGenerator && parB ns sc.names && sc.names.all fun p => p.2 != .free
theorem parB.get : ∀ {ns : List Str} {l : List (Str × NameKind)} {i : Nat} {x : Str}, parB ns l = true → ns[i]? = some x → ∃ k, l[i]? = some (x, k) ∧ (k = .local ∨ k = .cell)
  | [], _, i, x, _, h => nos h
  | n :: ns, [], i, x, h, _ => fot h
  | n :: ns, (y, k) :: l, 0, x, h, e => by
    cases e
    obtain ⟨h1, _⟩ := Bool.and_eq_true_iff.mp h
    obtain ⟨h1, h2⟩ := Bool.and_eq_true_iff.mp h1
    exact ⟨k, by rw [beq_iff_eq.mp h1]; rfl, (Bool.or_eq_true_iff.mp h2).imp beq_iff_eq.mp beq_iff_eq.mp⟩
  | n :: ns, (y, k) :: l, i + 1, x, h, e => parB.get (ns := ns) (l := l) (Bool.and_eq_true_iff.mp h).2 e
theorem parB.nd : ∀ {ns : List Str} {l : List (Str × NameKind)}, parB ns l = true → (l.map (·.1)).Nodup → ns.Nodup
  | [], _, _, _ => List.nodup_nil
  | n :: ns, [], h, _ => fot h
  | n :: ns, (y, k) :: l, h, nd => by
    rw [List.map_cons, List.nodup_cons] at nd
    have h' := (Bool.and_eq_true_iff.mp h).2
    refine List.nodup_cons.mpr ⟨fun hm => nd.1 ?_, parB.nd h' nd.2⟩
    obtain ⟨i, hi⟩ := List.getElem?_of_mem hm
    obtain ⟨k', e, _⟩ := parB.get h' hi
    have := beq_iff_eq.mp (Bool.and_eq_true_iff.mp (Bool.and_eq_true_iff.mp h).1).1
    exact this ▸ List.mem_map.mpr ⟨_, List.mem_of_getElem? e, rfl⟩
theorem bindL_get {kf : Str → Option NameKind} {x : Str} (hx : kf x = some .local) : ∀ {bs : List (Str × Value)} {m : Str → Option Value} {w : Value}, (bs.map (·.1)).Nodup → (x, w) ∈ bs → bindL kf bs m x = some w := by
  have keep : ∀ {bs : List (Str × Value)} {m : Str → Option Value}, x ∉ bs.map (·.1) → bindL kf bs m x = m x := by
    intro bs
    induction bs with
    | nil => intro m _; rfl
    | cons p r ih =>
      intro m h
      obtain ⟨y, v⟩ := p
      rw [List.map_cons, List.mem_cons, not_or] at h
      unfold bindL
      rw [ih h.2]
      split
      · exact if_neg h.1
      · rfl
  intro bs
  induction bs with
  | nil => exact fun _ h => nomatch h
  | cons p r ih =>
    intro m w nd h
    obtain ⟨y, v⟩ := p
    rw [List.map_cons, List.nodup_cons] at nd
    unfold bindL
    rcases List.mem_cons.mp h with e | h
    · cases e; rw [keep nd.1, if_pos hx, if_pos rfl]
    · exact ih nd.2 h
theorem bindC_get {kf : Str → Option NameKind} {x : Str} (hx : kf x ≠ some .local) : ∀ {bs : List (Str × Value)} {m : Str → Option Value} {w : Value}, (bs.map (·.1)).Nodup → (x, w) ∈ bs → bindC kf bs m x = some w := by
  have keep : ∀ {bs : List (Str × Value)} {m : Str → Option Value}, x ∉ bs.map (·.1) → bindC kf bs m x = m x := by
    intro bs
    induction bs with
    | nil => intro m _; rfl
    | cons p r ih =>
      intro m h
      obtain ⟨y, v⟩ := p
      rw [List.map_cons, List.mem_cons, not_or] at h
      unfold bindC
      rw [ih h.2]
      split
      · rfl
      · exact if_neg h.1
  intro bs
  induction bs with
  | nil => exact fun _ h => nomatch h
  | cons p r ih =>
    intro m w nd h
    obtain ⟨y, v⟩ := p
    rw [List.map_cons, List.nodup_cons] at nd
    unfold bindC
    rcases List.mem_cons.mp h with e | h
    · cases e; rw [keep nd.1, if_neg hx, if_pos rfl]
    · exact ih nd.2 h
theorem keep_fn {fa : Addr} {a : Arguments} {body : List Stmt} {dv : Value} (F : FnO cx fa a body sc dv) : KeepOk cx (.ref fa) A W.s := by
  obtain ⟨name, qual, kV, doc, pm, an, cdv, ct, o, ho, hc, hd, hcd⟩ := F
  intro Q E hq
  unfold keeperOf
  refine wpAny_bind (wpAny_load (W.R.base _ _ ho) ?_)
  rw [hd]
  exact wpAny_pure (hq _)
theorem call_cells {prog : Program} {w : World} {s : Shared} {R : Result → Shared → Prop} {a : Addr} {o : Obj} {fd : FuncData} {body : List Stmt} {vals : List Value} {binds : List (Str × Value)}
    (hroom : A.depth < recursionLimit) (ho : s.heap.get? a = some o) (hdata : o.data = .func fd) (hlim : s.heap.NoLimit) (hcd : s.heap.CodeRec fd.code fd.qualname)
    (hbody : fd.body = .stmts body) (hbind : BindsTo s fd ⟨vals, []⟩ binds) (hclo : fd.closure = [])
    (hkind : ∀ x ∈ binds, fd.scope.names.lookup x.1 = some .local ∨ (fd.scope.names.lookup x.1 = some .cell ∧ ((cellsFrom (s.heap.objs.size + 1) fd.scope.names []).lookup x.1).isSome = true))
    (h : ∀ s₁, InCallC s (callEnvC fd s.heap.objs.size a).locals (bindL (callEnvC fd s.heap.objs.size a).kindOf binds fun _ => none) (callEnvC fd s.heap.objs.size a).cells
        (bindC (callEnvC fd s.heap.objs.size a).kindOf binds fun _ => none) s₁ →
      wpAny (model prog w) (A.deeper (callEnvC fd s.heap.objs.size a)) (execs body (callEnvC fd s.heap.objs.size a)) (fun f s' => R (.ok (.ret (match f with | .ret v => v | _ => .none))) s') (fun _ _ => False) s₁)
    (hco : fd.scope.isCoroutine = false) (hgen : fd.scope.isGenerator = false) (hk : fd.scope.kind = .function) : codeAny (model prog w) A (.call (.ref a) ⟨vals, []⟩) R s := by
  refine codeAny_call_function hroom ho hdata hco hgen hbody hcd (hbind _ _ _ _ ?_)
  rw [hclo]
  refine wpAny_newFunctionEnv_cells hk hkind fun env he s' x => ?_
  subst he
  exact ⟨hlim.keeps x.toInCall.keep, codeAny_func (wpAny_mono (h s' x) (fun _ _ y => y) fun _ _ y => y.elim)⟩
structure ArgS (cx : Cx) (B W : Wd cx) (us : List U) (ws : List Value) (ow : Nat → Option Addr) : Prop where
  pl : ∀ (i : Nat) (u : U), us[i]? = some u → u.pl = true → ∃ w, ws[i]? = some w ∧ W.pr u w
  on : ∀ (i : Nat) (u : U), us[i]? = some u → u.pl = false → u ≠ .un → ∃ a, ow i = some a ∧ ws[i]? = some (.ref a) ∧ OwnAt W u a
  oi : ∀ (i j : Nat) (a : Addr), ow i = some a → ow j = some a → i = j
  of : ∀ i a, ow i = some a → B.H a = none
theorem enter {fa : Addr} {a : Arguments} {body : List Stmt} {dv : Value} {ns : List Str} {vs : List Value} (F : FnO cx fa a body sc dv) (hs : fnScB sc ns = true) (ak : AOk A (d + 1)) (le : Le PF B W) (as : ArgS cx B W us ws ow) (hl : ns.length = ws.length)
    (hb : ∀ name qual kV doc pm an cdv ct, BindsTo W.s (fnOf name qual a body sc dv kV doc pm an cdv ct) ⟨vs, []⟩ (ns.zip ws)) (ho : ∀ (i : Nat) (u : U), os[i]? = some u → u ≠ .un → us[i]? = some u)
    (go : ∀ W' env, AOk (A.deeper env) d → Sit cx sc env B W' W' os ow → W'.σ = W.σ → (∀ b, FAll env b → W.s.heap.get? b = none) → wpAny (MD cx) (A.deeper env) (execs body env) (fun f s' => Qm (match f with | .ret v => v | _ => .none) s') NoE W'.s) : wpAny (MD cx) A (PySem.call (.ref fa) vs) Qm NoE W.s := by
  obtain ⟨name, qual, kV, doc, pm, an, cdv, ct, o, hf, hc, hd, hcd⟩ := F
  have hb := hb name qual kV doc pm an cdv ct
  unfold fnScB at hs
  simp only [Bool.and_eq_true, Bool.not_eq_true', List.all_eq_true, bne_iff_ne, ne_eq] at hs
  obtain ⟨⟨⟨⟨hs, hco⟩, hgen⟩, hpar⟩, hfree⟩ := hs
  have S := scOk.go hs
  have bkeys : ((ns.zip ws).map (·.1)).Nodup := by rw [List.map_fst_zip (Nat.le_of_eq hl)]; exact parB.nd hpar S.nd
  have slot : ∀ {i : Nat} {x : Str} {k : NameKind} {w : Value}, sc.names[i]? = some (x, k) → ws[i]? = some w → (x, w) ∈ ns.zip ws ∧ (k = .local ∨ k = .cell) := fun {i x k w} h1 h2 => by
    have hi : i < ns.length := by rw [hl]; exact (List.getElem?_eq_some_iff.mp h2).1
    obtain ⟨k', e, q⟩ := parB.get hpar (List.getElem?_eq_getElem hi)
    cases h1.symm.trans e
    exact ⟨List.mem_of_getElem? (i := i) (List.getElem?_zip_eq_some.mpr ⟨List.getElem?_eq_getElem hi, h2⟩), q⟩
  refine wpAny_call (call_cells (fd := fnOf name qual a body sc dv kV doc pm an cdv ct) (by have := ak.2; lia) (W.R.base _ _ hf) hd (cx.nolimit.keeps W.R.base) (hcd.keeps W.R.base) rfl hb rfl (fun x hx => ?_) (fun s1 X => ?_) hco hgen S.kind)
  · obtain ⟨i, hi⟩ := List.getElem?_of_mem hx
    obtain ⟨h1, h2⟩ := List.getElem?_zip_eq_some.mp hi
    obtain ⟨k, e, q⟩ := parB.get hpar h1
    rcases q with rfl | rfl
    · exact .inl (S.nm e).2.2.2
    · exact .inr ⟨(S.nm e).2.2.2, cellsFrom_lookup (.inl (List.mem_of_getElem? e))⟩
  · generalize he : callEnvC (fnOf name qual a body sc dv kV doc pm an cdv ct) W.s.heap.objs.size fa = env at X ⊢
    have esc : env.scope = sc := by rw [← he]; rfl
    have eL : env.locals = W.s.heap.objs.size := by rw [← he]; rfl
    have eC : env.cells = cellsFrom (W.s.heap.objs.size + 1) sc.names [] := by rw [← he]; rfl
    have kO : ∀ {i : Nat} {x : Str} {k : NameKind}, sc.names[i]? = some (x, k) → env.kindOf x = some k := fun e => by unfold Env.kindOf; rw [esc]; exact (S.nm e).2.2.2
    obtain ⟨h1, tk, es, kk⟩ := X.done
    subst es
    let W1 := W.gr { W.s with heap := h1, toks := tk } kk
    have l1 : Le PF W W1 := Le.gr rfl rfl
    have lu : ∀ {x c}, env.cells.lookup x = some c → (x, c) ∈ env.cells := fun e => PySem.mem_of_lookup e
    have fresh : ∀ b, FAll env b → W.s.heap.get? b = none := fun b hb => by
      have lo : W.s.heap.objs.size ≤ b := by
        rcases hb with rfl | ⟨x, hx⟩
        · rw [eL]; exact Nat.le_refl _
        · have := X.above x b (lu hx); rw [eL] at this; exact Nat.le_of_lt this
      cases q : W.s.heap.get? b with
      | none => rfl
      | some o => exact absurd (Heap.lt_size q) (Nat.not_lt.mpr lo)
    have sv : ∀ {i : Nat} {x : Str} {k : NameKind} {w : Value}, sc.names[i]? = some (x, k) → ws[i]? = some w → SlotV env h1 x w k := fun {i x k w} e1 e2 => by
      obtain ⟨hm, hk⟩ := slot e1 e2
      rcases hk with rfl | rfl
      · exact .l _ X.toInCall.ns (bindL_get (kO e1) bkeys hm)
      · obtain ⟨c, hc⟩ := Option.isSome_iff_exists.mp (cellsFrom_lookup (n := W.s.heap.objs.size + 1) (acc := []) (.inl (List.mem_of_getElem? e1)))
        rw [← eC] at hc
        have := X.cell _ _ hc
        rw [bindC_get (by rw [kO e1]; decide) bkeys hm] at this
        exact .c c hc this
    have F1 : Frm cx sc env W1 os ow := by
      refine ⟨⟨by rw [esc], fun x => .inl (by rw [esc])⟩, by rw [← he]; rfl, by rw [← he]; rfl, fun b hb => ?_, X.apart, fun x hx => ?_, ⟨_, X.toInCall.ns⟩, fun i x e => ?_, fun i x e => absurd rfl (hfree _ (List.mem_of_getElem? e)), fun i x k u e1 e2 e3 => ?_, fun i x k u e1 e2 e3 e4 => ?_, as.oi⟩
      · have al : ∃ o, h1.get? b = some o := by
          rcases hb with rfl | ⟨x, hx⟩
          · obtain ⟨o, _, _, e, _⟩ := X.toInCall.ns; exact ⟨o, e⟩
          · obtain ⟨o, e, _⟩ := X.cell _ _ hx; exact ⟨o, e⟩
        obtain ⟨o, al⟩ := al
        refine ⟨o, al, fun q => Own.alive W.R q (fresh b hb), ?_, ?_⟩
        · cases q : W.G b with
          | none => exact q
          | some o => exact nomatch (W.R.gk _ _ q).symm.trans (fresh b hb)
        · cases q : cx.h0.get? b with
          | none => rfl
          | some o => exact nomatch (W.R.base _ _ q).symm.trans (fresh b hb)
      · have := X.above x _ (lu hx); exact Nat.lt_irrefl _ this
      · obtain ⟨c, hc⟩ := Option.isSome_iff_exists.mp (cellsFrom_lookup (n := W.s.heap.objs.size + 1) (acc := []) (.inl (List.mem_of_getElem? e)))
        rw [← eC] at hc
        exact ⟨c, _, hc, X.cell _ _ hc⟩
      · obtain ⟨w, h1, h2⟩ := as.pl i u (ho i u e2 fun q => by subst q; exact fot e3) e3
        exact ⟨w, sv e1 h1, l1.pr h2⟩
      · obtain ⟨b, h1, h2, h3⟩ := as.on i u (ho i u e2 e4) e3 e4
        exact ⟨b, h1, sv e1 h2, l1.own h3⟩
    exact go W1 env ak.deeper ⟨F1, (le.trans l1).pf, as.of, esc, ⟨fun _ _ e => e, fun _ _ e => e, fun _ _ p _ => p⟩⟩ rfl fresh
end
end

end
section
noncomputable section
section
variable {cx : Cx} {A : Around} {d : Nat} {P : Addr → Prop} {B W W' W0 : Wd cx} {u u' v z u2 u3 : U} {x y w : Value} {l m xs us ys : List U} {ws : List Value} {sc csc : Scope} {env cenv : Env} {os os2 : Os} {ow ow' : Nat → Option Addr} {fr : List (Option Nat)}
variable {Q : U → St → Prop} {Qm : Value → Shared → Prop} {Qu : Unit → Shared → Prop} {Qb : Bool → Shared → Prop} {Qf : Flow → Shared → Prop} {E : Value → Shared → Prop} {R : St → Prop} {K : KR} {V : Wd cx}
variable {e e2 e3 : Expr} {es ifs : List Expr} {p p1 p2 p3 : Pos} {f g h h' : Os → St → (U → St → Prop) → Prop} {c : Os → St → (St → Prop) → (St → Prop) → Prop} {fk fb fo : Os → St → KR → Prop} {rest bd ob ss : List Stmt}
theorem typecall_units (v : Value) (ws : List Value) : (Code.builtin "type.__call__" ⟨v :: ws, []⟩).cUnits = 1 := by kernel_rfl
theorem AOk.cls {C : Addr} (a : AOk A (d + 1)) : AOk (A.under (.builtin "type.__call__" ⟨.ref C :: ws, []⟩)) d :=
  ⟨a.1, by have := a.2; show A.depth + 1 + d ≤ _; lia, by have := a.3; show A.units + _ + 8 * d ≤ _; rw [typecall_units]; lia⟩
structure Bnd (cx : Cx) (a : Arguments) (body : List Stmt) (sc : Scope) (dv : Value) (ns : List Str) (n : Nat) (dus : List U) (ds : List Value) : Prop where
  pr : ∀ W : Wd cx, W.prs dus ds
  go : ∀ (W : Wd cx) name qual kV doc pm an cdv ct (ws : List Value), ws.length = n → BindsTo W.s (fnOf name qual a body sc dv kV doc pm an cdv ct) ⟨ws, []⟩ (ns.zip (ws ++ ds))
  len : ns.length = n + dus.length
theorem unsAt {i n : Nat} (h : (us ++ List.replicate n U.un)[i]? = some u) (nu : u ≠ .un) : us[i]? = some u := by
  rw [List.getElem?_append] at h
  split at h
  · exact h
  · exact absurd (List.eq_of_mem_replicate (List.mem_of_getElem? h)) nu
section
variable {k n : Nat} {fa : Addr} {a : Arguments} {body : List Stmt} {dv : Value} {ns : List Str} {dus : List U} {ds : List Value} {σ : St}
theorem CallT.fn (hf : cx.fv k = .ref fa) (F : FnO cx fa a body sc dv) (hs : fnScB sc ns = true) (hw : SW cx d sc fk body) (hb : Bnd cx a body sc dv ns us.length dus ds)
    (h : fk (us ++ dus ++ List.replicate n .un) σ (rQ Q)) : CallT cx (d + 1) k us σ Q := ⟨fun A W ws Qm ak hσ r kk => by
  rw [hf]
  refine ⟨keep_fn F, ?_⟩
  subst hσ
  have rl := r.len
  have rd := hb.pr W
  have ra : W.prs (us ++ dus) (ws ++ ds) := PRs.append r rd
  refine enter (B := W) (us := us ++ dus) (ws := ws ++ ds) (os := us ++ dus ++ List.replicate n .un) (ow := fun _ => none) F hs ak .refl ⟨fun i u e _ => PRs.get ra e, fun i u e e2 _ => ?_, fun i j a e => nos e, fun i a e => nos e⟩ (by rw [hb.len, List.length_append, rl, rd.len]) (fun nm q kV doc pm an cdv ct => hb.go W nm q kV doc pm an cdv ct ws rl) (fun i u e nu => unsAt e nu) fun W' env ak' s hσ' fr => ?_
  · obtain ⟨w, _, p⟩ := PRs.get ra e
    exact nomatch p.pl.symm.trans e2
  · have drop : ∀ {W2 : Wd cx}, Le (FA sc env) W W2 → Le PF W W2 := fun l => l.weaken fun b o p f => nomatch p.1.symm.trans (fr b f.all)
    exact hw.go ak' s (by rw [hσ']; exact h) ⟨fun s h => kk .none .no _ (drop s.le) (show Value.none = _ from rfl) h, fun s h => False.elim h, fun l p h => kk _ _ _ (drop l) p h⟩⟩
structure SI (cx : Cx) (d : Nat) (sc : Scope) (f : Os → St → KR → Prop) (ss : List Stmt) : Prop where
  go : ∀ {A env B V W os ow x K Qf}, AOk A d → Sit cx sc env B V W os ow → ow 0 = some x → f os W.σ K → (∀ {W os}, Sit cx sc env B V W os ow → K.n os W.σ → Qf .next W.s) → wpAny (MD cx) A (execs ss env) Qf NoE W.s
theorem SI.nil : SI cx d sc (fun os σ K => K.n os σ) [] := ⟨fun {A env B V W os ow x K Qf} ak s e h k => wpAny_execs_nil (k s h)⟩
theorem SI.seto (CF : ClsF cx) (S : ScOk sc) (hc : isComp e = false) (he : SE cx d sc f e) {m : Nat} {n : Str} {kd : NameKind} (h1 : sc.names[0]? = some (n, kd)) (hr : SI cx d sc fk rest) :
    SI cx d sc (fun os σ K => oiQ (fun c l => f os σ fun u σ1 => plQ (fun u => oQ (fun l' => fk (os.set 0 (.oi c l')) σ1 K) (putO c m u l)) u) (os.getD 0 .un)) (.Assign [.Attribute (.Name n p2) (aN m) p1] e p :: rest) := ⟨fun {A env B V W os ow x K Qf} ak s ex h k =>
  seto_go CF S hc he h1 ak s (fk := fun os σ => fk os σ K) h fun W' c l s' q => hr.go ak s' ex q k⟩
structure CallI (cx : Cx) (d c : Nat) (us : List U) (σ : St) (R : List U → St → Prop) : Prop where
  h : ∀ (A : Around) (W : Wd cx) (ws : List Value) (Qm : Value → Shared → Prop), AOk A d → W.σ = σ → W.prs us ws → (∀ x W' fs, Le PF W W' → W.H x = none → (∀ o, ¬ Priv W x o) → OwnAt W' (.oi c fs) x → R fs W'.σ → Qm (.ref x) W'.s) →
    KeepOk cx (.ref (cx.ca c)) A W.s ∧ wpAny (MD cx) A (PySem.call (.ref (cx.ca c)) ws) Qm NoE W.s
theorem keep_cls {C N : Addr} {m : Str → Option Value} (X : ClsAt cx.h0 C N m) : KeepOk cx (.ref C) A W.s := fun Q E hq => by
  have Y := X.keeps W.R.base
  revert Y hq
  generalize W.s = s
  intro hq Y
  obtain ⟨hh, g, dr, t, os⟩ := s
  obtain ⟨nm, q, bs, sn, sub, col, dd, k0, k1, k2, k3, k5, hC⟩ := Y.obj
  have f1 := tc_lookup
  have hT : (⟨hh, g, dr, t, os⟩ : Shared).TypeIs (.ref C) "type" := ⟨_, hC, rfl⟩
  unfold keeperOf specialOf
  repeat (any_goals (first | assumption | with_reducible refine wpAny_loadPart_at hC ?_ | with_reducible refine wpAny_load' hC ?_ | wp_step))
  exact hq _
theorem made_own {C x dx : Addr} {h' : Heap} {c : Nat} (Mk : Heap.MadeObj W.s.heap h' x dx (cx.ca c)) : ∃ W', W'.s = { W.s with heap := h' } ∧ W'.σ = W.σ ∧ Le PF W W' ∧ OwnAt W' (.oi c []) x ∧ W.H x = none := by
  let W1 := W.gr { W.s with heap := h' } Mk.keeps
  have fx := Mk.newX
  have fd := Mk.newD
  obtain ⟨o', ho, hc, hnc, hd⟩ := Mk.inst
  have hdd := Mk.dict o' ho
  have hns : dx ≠ x ∧ h'.Ns1 dx fun _ => none := by
    rcases hd with ⟨hn0, _⟩ | ⟨d', hd', hne, hns'⟩
    · exact nomatch hdd.symm.trans hn0
    · obtain rfl := Option.some.inj (hdd.symm.trans hd'); exact ⟨hne, hns'⟩
  obtain ⟨hne, od, es, ep, f1, f2, f3, f4, f5⟩ := hns
  have pv : ∀ {b o}, W.s.heap.get? b = none → h'.get? b = some o → Priv W1 b o := fun {b o} e e2 => ⟨e2, fun q => Own.alive W.R q e, (by
      cases q : W.G b with
      | none => exact q
      | some o => exact nomatch (W.R.gk _ _ q).symm.trans e), by
    cases q : cx.h0.get? b with
    | none => rfl
    | some o => exact nomatch (W.R.base _ _ q).symm.trans e⟩
  have px := pv fx ho
  have hk : ∀ d, kOf (.I c dx []) = some d → d ≠ x ∧ ∃ o', Priv W1 d o' := fun d q => by cases q; exact ⟨hne, _, pv fd f1⟩
  have hr : CellR cx W1.G W1.μ W1.s.heap x (.I c dx []) := .I o' od [] es ep c dx [] hne.symm ho ⟨hc, hdd, hnc⟩ f1 ⟨f2, f3, f4, rfl, fun y => by rw [f5 y]; rfl⟩ rfl
  have nf : ∀ {b o}, W.s.heap.get? b = none → ¬ Priv W b o := fun e q => nomatch q.1.symm.trans e
  refine ⟨W1.adO px (.I c dx []) hr hk, rfl, rfl, Le.adO (Le.gr rfl rfl) fun b z q => .inr ⟨fun e => nf (e ▸ fx) q, fun e => nf (Option.some.inj e ▸ fd) q⟩, .mk (.I c dx []) ⟨dx, rfl⟩ HH.same fun l e => absurd e (W1.noM (W1.noH px) l), W1.noH px⟩
theorem CallI.init (CF : ClsF cx) {c : Nat} {nf : List Nat} {q0 : Str × NameKind} {R : List U → St → Prop} (hcc : lkN c cF = some nf) (hf : cx.fv (1000 * c) = .ref fa) (F : FnO cx fa a body sc dv) (hs : fnScB sc ns = true) (h0 : sc.names[0]? = some q0) (hw : SI cx d sc fk body) (hb : Bnd cx a body sc dv ns (us.length + 1) dus ds)
    (h : fk (.oi c [] :: us ++ dus ++ List.replicate n .un) σ ⟨fun os σ => oiQ (fun c' fs => c' = c ∧ R fs σ) (os.getD 0 .un), fun _ _ => False, fun _ _ => False⟩) : CallI cx (d + 2) c us σ R := ⟨fun A W ws Qm ak hσ r kk => by
  obtain ⟨N, m, X⟩ := CF c nf hcc
  refine ⟨keep_cls X.at_, ?_⟩
  subst hσ
  obtain ⟨f, fo, e1, e2, e3, e4⟩ := X.io
  cases e1.symm.trans hf
  have Y := X.at_.keeps W.R.base
  have hfo := W.R.base _ _ e3
  obtain ⟨nm, q, bs, sn', sub, col, d1, k0, k1, k2, k3, k5, hC⟩ := Y.obj
  have made : ∀ {h' x dx}, Heap.MadeObj W.s.heap h' x dx (cx.ca c) → _ := fun {h' x dx} M => made_own (C := x) M
  have rW : ∀ {W' : Wd cx}, Le PF W W' → W'.prs us ws := fun l => l.prs r
  refine (show ∀ (s : Shared), s = W.s → wpAny (MD cx) A (PySem.call (.ref (cx.ca c)) ws) Qm NoE s from ?_) W.s rfl
  rintro ⟨hh, g, dr, t, os⟩ es
  rw [← es] at hC hfo Y
  refine wpAny_call_obj_init PySem.F.objNew hC Y.ns e2 hfo e4 fun h' x dx Mk => ?_
  have Mk : Heap.MadeObj W.s.heap h' x dx (cx.ca c) := by rw [← es]; exact Mk
  obtain ⟨W1, es1, eσ, l1, oA, nx⟩ := made Mk
  have r1 := rW l1
  have rl := r.len
  have rd := hb.pr W1
  have ra : W1.prs (us ++ dus) (ws ++ ds) := PRs.append r1 rd
  rw [show (⟨h', g, dr, t, os⟩ : Shared) = W1.s from by rw [es1, ← es]]
  refine enter (B := W) (us := .oi c [] :: us ++ dus) (ws := .ref x :: ws ++ ds) (os := .oi c [] :: us ++ dus ++ List.replicate n .un) (ow := fun i => match i with | 0 => some x | _ => none) F hs ak.cls l1 ⟨fun i u e e2 => ?_, fun i u e e2 nu => ?_, fun i j b e e' => ?_, fun i b e => ?_⟩ (by rw [hb.len]; simp [rl, rd.len]; lia)
    (fun nm q kV doc pm an cdv ct => hb.go W1 nm q kV doc pm an cdv ct (.ref x :: ws) (by simp [rl])) (fun i u e nu => unsAt e nu) fun W' env ak' s hσ' fr => ?_
  · cases i with
    | zero => cases e; exact fot e2
    | succ i => exact PRs.get ra e
  · cases i with
    | zero => cases e; exact ⟨x, rfl, rfl, oA⟩
    | succ i =>
      obtain ⟨w, _, p⟩ := PRs.get ra e
      exact nomatch p.pl.symm.trans e2
  · cases i <;> cases j <;> first | rfl | exact nos e | exact nos e'
  · cases i with
    | zero => cases e; exact nx
    | succ i => exact nos e
  · refine hw.go (K := ⟨fun os σ => oiQ (fun c' fs => c' = c ∧ R fs σ) (os.getD 0 .un), fun _ _ => False, fun _ _ => False⟩) ak' s (x := x) rfl (by rw [hσ', eσ]; exact h) fun {W2 os2} s2 hq => ?_
    have hq : oiQ (fun c' fs => c' = c ∧ R fs W2.σ) (os2.getD 0 .un) := hq
    generalize eu : os2.getD 0 .un = u0 at hq
    obtain ⟨c', fs, ⟨ec, q⟩⟩ := oiQ.inv hq
    subst ec
    obtain ⟨b, eb, _, ob⟩ := s2.F.so 0 q0.1 q0.2 (.oi c' fs) h0 (by rw [← eu]; exact getD.at (by rw [eu]; nofun)) rfl nofun
    cases eb
    refine ⟨rfl, kk x W2 fs (s2.le.weaken fun b o p f => ?_) nx (fun o p => nomatch p.1.symm.trans Mk.newX) ob q⟩
    exact nomatch ((l1.pv _ _ p id).1).symm.trans (fr b f.all)⟩
end
end
end

end
section
noncomputable section
section
variable {cx : Cx} {A : Around} {d : Nat} {P : Addr → Prop} {B W W' W0 : Wd cx} {u u' v z u2 u3 : U} {x y w : Value} {l m xs us ys : List U} {ws : List Value} {sc csc : Scope} {env cenv : Env} {os os2 : Os} {ow ow' : Nat → Option Addr} {fr : List (Option Nat)}
variable {Q : U → St → Prop} {Qm : Value → Shared → Prop} {Qu : Unit → Shared → Prop} {Qb : Bool → Shared → Prop} {Qf : Flow → Shared → Prop} {E : Value → Shared → Prop} {R : St → Prop} {K : KR} {V : Wd cx}
variable {e e2 e3 : Expr} {es ifs : List Expr} {p p1 p2 p3 : Pos} {f g h h' : Os → St → (U → St → Prop) → Prop} {c : Os → St → (St → Prop) → (St → Prop) → Prop} {fk fb fo : Os → St → KR → Prop} {rest bd ob ss : List Stmt}
section
variable {k c : Nat} {σ : St} {ns : List Nat}
theorem callFo (CF : ClsF cx) (hc : lkN c cF = some ns) (hk : 1000000 + c = k) (h : CallI cx d c us σ fun fs σ => Q (.fo c fs) σ) : CallT cx d k us σ Q := hk ▸ ⟨fun A W ws Qm ak hσ r kk => by
  obtain ⟨N, m, X⟩ := CF c ns hc
  rw [X.cv]
  refine h.h A W ws Qm ak hσ r fun x W1 fs l nx np oA q => ?_
  obtain ⟨c0, oc, hH, nm⟩ := oA
  exact kk _ (.fo c fs) (W1.fz hH nm) (Le.fz l nx) (VR.frz hH nm oc nofun) q⟩
inductive NmQ (c : Nat) (fs : List U) (σ : St) (Q : U → St → Prop) : Prop
  | mk (lo : Loc) (σ' : St) (fv : List FV) (e : lf σ' lo = some (c, fv)) (f : F2 FVR fv fs) (nb : ¬ Born σ lo) (oth : ∀ k c', Born σ k → LocOk σ k c' → LocOk σ' k c' ∧ Born σ' k) (bl : Born σ' lo) (q : Q (.lo lo) σ') : NmQ c fs σ Q
theorem callNm (CF : ClsF cx) (hc : lkN c cF = some ns) (hk : 1000000 + c = k) (h : CallI cx d c us σ fun fs σ => NmQ c fs σ Q) : CallT cx d k us σ Q := hk ▸ ⟨fun A W ws Qm ak hσ r kk => by
  obtain ⟨N, m, X⟩ := CF c ns hc
  rw [X.cv]
  refine h.h A W ws Qm ak hσ r fun x W1 fs l nx np oA q => ?_
  obtain ⟨lo, σ', fv, e, f, nb, oth, bl, q⟩ := q
  obtain ⟨c0, oc, hH, nm⟩ := oA
  obtain ⟨dd, rfl⟩ := (show ∃ d, c0 = .I c d fs from oc)
  exact kk _ (.lo lo) (W1.adL hH nm lo (W1.unborn nb) σ' (by unfold LocOk; rw [e]; exact .mk dd fs f) oth bl) (Le.adL l nx) (show LoR _ _ _ from .mk x mset.at) q⟩
noncomputable def St.addI (σ : St) (x : Inf) : St := { σ with nx := σ.nx + 1, inf := fun j => if j = σ.nx then x else σ.inf j }
noncomputable def St.addP (σ : St) (x : List Int × Int) : St := { σ with np := σ.np + 1, pls := fun j => if j = σ.np then x else σ.pls j }
theorem NmQ.inf {a g c m a1 a2 a3 a4 a5 a6 a7 a8 a9 : Int} {b : Bool} (q : Q (.lo (.inf σ.nx)) (σ.addI ⟨g, c, m⟩)) : NmQ 53 [.i a, .i g, .i c, .i m, .b b, .i a1, .i a2, .i a3, .i a4, .s 0, .i a5, .i a6, .i a7, .i a8, .i a9, .s 0] σ Q := by
  have e : (σ.addI ⟨g, c, m⟩).inf σ.nx = ⟨g, c, m⟩ := if_pos rfl
  refine .mk (.inf σ.nx) (σ.addI ⟨g, c, m⟩) (lfI ⟨g, c, m⟩) (congrArg (fun y => some (cInf, lfI y)) e) ?_ (Nat.lt_irrefl _) (fun k c' bk o => ?_) (Nat.lt_succ_self _) q
  · exact .cons .ai (.cons .v (.cons .v (.cons .v (.cons .ab (.cons .ai (.cons .ai (.cons .ai (.cons .ai (.cons .v (.cons .ai (.cons .ai (.cons .ai (.cons .ai (.cons .ai (.cons .v .nil)))))))))))))))
  · cases k with
    | inf j =>
      have e : (σ.addI ⟨g, c, m⟩).inf j = σ.inf j := if_neg (Nat.ne_of_lt (show j < σ.nx from bk))
      exact ⟨(congrArg (fun y => InsC (cInf, lfI y) c') e).mpr o, Nat.lt_succ_of_lt bk⟩
    | _ => exact ⟨o, bk⟩
theorem NmQ.pl {is : List Int} {y : Int} (q : Q (.lo (.pl σ.np)) (σ.addP (is, y))) : NmQ 87 [.fl (is.map .i), .i y] σ Q := by
  have e : (σ.addP (is, y)).pls σ.np = (is, y) := if_pos rfl
  refine .mk (.pl σ.np) (σ.addP (is, y)) (lfP (is, y)) (congrArg (fun y => some (cPl, lfP y)) e) (.cons .v (.cons .v .nil)) (Nat.lt_irrefl _) (fun k c' bk o => ?_) (Nat.lt_succ_self _) q
  cases k with
  | pl j =>
    have e : (σ.addP (is, y)).pls j = σ.pls j := if_neg (Nat.ne_of_lt (show j < σ.np from bk))
    exact ⟨(congrArg (fun y => InsC (cPl, lfP y) c') e).mpr o, Nat.lt_succ_of_lt bk⟩
  | _ => exact ⟨o, bk⟩
theorem NmQ.buf {x y : Int} {b : Bool} (hp : σ.ph = 2) (q : Q (.lo .buf) { σ with ph := 3 }) : NmQ 54 [.lo .row, .b b, .i x, .i y] σ Q := by
  refine .mk .buf { σ with ph := 3 } _ rfl (.cons .v (.cons .ab (.cons .ai (.cons .ai .nil)))) (show ¬ 3 ≤ σ.ph by rw [hp]; decide) (fun k c' bk o => ?_) (Nat.le_refl 3) q
  cases k with
  | pot | cel => exact ⟨o, (show 1 ≤ 3 by decide)⟩
  | row => exact ⟨o, (show 2 ≤ 3 by decide)⟩
  | buf => exact ⟨o, Nat.le_refl 3⟩
  | held => exact absurd (show 4 ≤ σ.ph from bk) (by rw [hp]; decide)
  | inf | pl | stp => exact ⟨o, bk⟩
theorem SW.newI (S : ScOk sc) (CF : ClsF cx) (hc : lkN c cF = some ns) {cn : Str} (nv : NameV cx sc cn fun _ v => v = cx.fv (1000000 + c)) (ha : SA cx d sc f es) {i : Nat} {n : Str} (hn : nmJ sc i n = true) (hr : SW cx d sc fk rest) :
    SW cx d sc (fun os σ K => f os σ (argP fun l σ1 => CallI cx d c l σ1 fun fs σ2 => fk (os.set i (.oi c fs)) σ2 K)) (.Assign [.Name n p1] (.Call (.Name cn p3) es [] p2) p :: rest) := ⟨fun {A env B V W os ow K Qf} ak s h k => by
  obtain ⟨N, m, X⟩ := CF c ns hc
  refine wpAny_execs_cons (asg1 rfl rfl rfl ?_)
  rw [arm_eval_Call_Name']
  refine wpAny_bind (nv.go s.F fun v ev => ?_)
  rw [ev, X.cv]
  refine callWith_ok (first := []) ha.pl (ha.pln ak s.F h fun ws us W1 l1 r hlen q => q.h A W1 ws _ ak rfl r fun x W2 fs l2 nx np oA q => ?_)
  have s1 := s.step l1
  obtain ⟨ow1, o1, n1, F1⟩ := s1.F.free nx
  have s1' : Sit cx sc env B V W1 os ow1 := ⟨F1, s1.le, fun i a e => s1.of i a (o1 i a e), s1.es, s1.lw⟩
  have gt : Got cx sc env B V W2 os (.oi c fs) x W2 ow1 := ⟨rfl, rfl, s1'.step l2, oA, n1, s1.le.noH nx, ⟨fun _ _ e => e, fun _ _ e => e, fun _ _ p _ => p⟩⟩
  exact bindO_ok S hn gt rfl nofun fun W3 ow3 e3 s3 => hr.go ak s3 (by rw [e3]; exact q) k⟩
end
end
end

end
section
noncomputable section

structure Nms (cx : Cx) : Prop where
  fn : ∀ k n, lkN k fnT = some n → GlV cx (Str.ofString n) fun _ v => v = cx.fv k
  gl : ∀ (j : Nat) (n : String) (u : U), glT[j]? = some n → glV[j]? = some u → GlV cx (Str.ofString n) fun W v => W.pr u v
  bi : ∀ w, GlV cx (Str.ofString (biN w)) fun _ v => v = biV w

noncomputable def xD : Expr := .Constant .none 0 pO
structure XV where
  a : Expr
  b : Expr
  c : Expr
  l : List Expr
  k : List (Option Expr)
  s : Str
  n : Nat
  sc : Scope
noncomputable def zD : XV := ⟨xD, xD, xD, [], [], default, 0, default⟩
noncomputable def xv : Expr → XV
  | .Name s _ => { zD with s := s }
  | .Constant _ n _ => { zD with n := n }
  | .Attribute a _ _ => { zD with a := a }
  | .BinOp a _ b _ => { zD with a := a, b := b }
  | .UnaryOp _ a _ => { zD with a := a }
  | .Compare a _ l _ => { zD with a := a, l := l }
  | .BoolOp _ l _ => { zD with l := l }
  | .IfExp a b c _ => { zD with a := a, b := b, c := c }
  | .Tuple l n _ => { zD with l := l, n := n }
  | .List l _ => { zD with l := l }
  | .Dict k l _ => { zD with k := k, l := l }
  | .Subscript a b _ => { zD with a := a, b := b }
  | .Slice a b _ _ => { zD with k := [a, b] }
  | .Call a l _ _ => { zD with a := a, l := l }
  | .ListComp a g sc _ => (match g with | g :: _ => { zD with a := a, b := g.target, c := g.iter, l := g.ifs, sc := sc } | [] => zD)
  | _ => zD
theorem an1 {a b : Bool} (h : (a && b) = true) : a = true := (Bool.and_eq_true_iff.mp h).1
theorem an2 {a b : Bool} (h : (a && b) = true) : b = true := (Bool.and_eq_true_iff.mp h).2
theorem an {a b : Bool} (h : (a && b) = true) : a = true ∧ b = true := Bool.and_eq_true_iff.mp h
section
variable {x : Expr}
noncomputable def tvB (e : Expr) : Bool := [23, 16, 20, 21, 19, 2, 8].contains e.ctorIdx
theorem tvB.go (h : tvB x = true) {env : Env} : isTrue x env (eval x env) = (do let v ← eval x env; standAt x.pos; holding [v] (truthy v)) := by cases x <;> first | rfl | exact fot h
noncomputable def noSlc (e : Expr) : Bool := e.ctorIdx != 26
theorem noSlc.go (h : noSlc x = true) {o w : Value} : subscripted x false o w = operate [o, w] (getItem o w) := by cases x <;> first | rfl | exact fot h
end
theorem nt {b : Bool} (h : (!b) = true) : b = false := by cases b <;> first | rfl | exact fot h
noncomputable def nmI (sc : Scope) (i : Nat) (n : Str) : Bool := match sc.names[i]? with | some q => q.1 == n | none => false
theorem nmI.go {sc : Scope} {i : Nat} {n : Str} (h : nmI sc i n = true) : ∃ k, sc.names[i]? = some (n, k) := by
  unfold nmI at h
  cases e : sc.names[i]? with
  | none => rw [e] at h; exact fot h
  | some q => rw [e] at h; obtain ⟨m, k⟩ := q; exact ⟨k, by rw [beq_iff_eq.mp (show (m == n) = true from h)]⟩
noncomputable def gloB (sc : Scope) (n : Str) (m : String) : Bool := (Str.ofString m == n && !(n == ("__debug__" : Str))) && decide (sc.names.lookup n = some .globalImplicit)
theorem gloB.go {cx : Cx} {sc : Scope} {n : Str} {m : String} {C : Wd cx → Value → Prop} (S : ScOk sc) (h : gloB sc n m = true) (G : GlV cx (Str.ofString m) C) : NameV cx sc n C := by
  exact .glob S (beq_iff_eq.mp (an1 (an1 h)) ▸ G) (of_decide_eq_true (an2 h)) (nt (an2 (an1 h)))
noncomputable def fnB (sc : Scope) (n : Str) (k : Nat) : Bool := match lkN k fnT with | some m => gloB sc n m | none => false
theorem fnB.go {cx : Cx} {sc : Scope} {n : Str} {k : Nat} (S : ScOk sc) (N : Nms cx) (h : fnB sc n k = true) : NameV cx sc n fun _ v => v = cx.fv k := by
  unfold fnB at h
  cases e : lkN k fnT with
  | none => rw [e] at h; exact fot h
  | some m => rw [e] at h; exact gloB.go S h (N.fn k m e)
noncomputable def glB (sc : Scope) (n : Str) (j : Nat) : Bool := match glT[j]? with | some m => gloB sc n m | none => false
theorem glB.go {cx : Cx} {sc : Scope} {n : Str} {j : Nat} {u : U} (S : ScOk sc) (N : Nms cx) (h : glB sc n j = true) (hu : glV[j]? = some u) : NameV cx sc n fun W v => W.pr u v := by
  unfold glB at h
  cases e : glT[j]? with
  | none => rw [e] at h; exact fot h
  | some m => rw [e] at h; exact gloB.go S h (N.gl j m u e hu)
end

end
section
noncomputable section
structure CK where
  e : Scope → Expr → Expr × Bool
  t : Scope → Expr → Expr × Bool
  m : Scope → List Expr → Pos → (Expr × List Expr) × Bool
  a : Scope → List Expr → List Expr × Bool
  p : Scope → List (Option Expr) → List Expr → (List (Option Expr) × List Expr) × Bool
  q : Scope → List (Option Expr) → List Expr → (Expr × List (Option Expr) × List Expr) × Bool
  d : Scope → Expr → Expr × Bool
  c : Scope → Expr → Expr × Bool
  z : Bool
  n : Bool
  y : Bool
noncomputable def no2 (_ : Scope) (x : Expr) : Expr × Bool := (x, false)
noncomputable def noA (_ : Scope) (l : List Expr) : List Expr × Bool := (l, false)
noncomputable def noP (_ : Scope) (k : List (Option Expr)) (l : List Expr) : (List (Option Expr) × List Expr) × Bool := ((k, l), false)
noncomputable def noQ (_ : Scope) (k : List (Option Expr)) (l : List Expr) : (Expr × List (Option Expr) × List Expr) × Bool := ((xD, k, l), false)
noncomputable def noM (_ : Scope) (l : List Expr) (_ : Pos) : (Expr × List Expr) × Bool := ((xD, l), false)
noncomputable def hx (l : List Expr) : Expr := l.headD xD
noncomputable def m1 (f : Scope → Expr → Expr × Bool) (sc : Scope) (l : List Expr) (_ : Pos) : (Expr × List Expr) × Bool := (((f sc (hx l)).1, []), (f sc (hx l)).2)
noncomputable def tvF (f : Scope → Expr → Expr × Bool) (sc : Scope) (x : Expr) : Expr × Bool := ((f sc x).1, (f sc x).2 && tvB (f sc x).1)
noncomputable def CK.b (f g : Scope → Expr → Expr × Bool) : CK := ⟨f, g, m1 g, noA, noP, noQ, no2, no2, false, false, false⟩
noncomputable def CK.v (f : Scope → Expr → Expr × Bool) : CK := .b f (tvF f)
noncomputable def CK.two (f : Scope → Expr → Expr × Bool) : CK := .b f f
noncomputable def CK.co (f : Scope → Expr → Expr × Bool) : CK := ⟨f, tvF f, m1 (tvF f), noA, noP, noQ, f, f, false, false, false⟩
noncomputable def cst : U → Const
  | .i a => .int a
  | .s k => .str (sT k)
  | .b b => .bool b
  | _ => .none
noncomputable def cstB : U → Bool
  | .i _ => true
  | .s _ => true
  | .b _ => true
  | .no => true
  | _ => false
noncomputable def isTr : U → Bool
  | .b b => b
  | _ => false
noncomputable def boolR (op : BoolOp) (z : Expr) (r : List Expr) (p : Pos) : Expr := bif r.isEmpty then z else .BoolOp op (z :: r) p
noncomputable def frB (fr : List (Option Nat)) (p : Pt) : Bool := (ptS p).all fun i => match fr[i]? with | some none => true | _ => false
noncomputable def ckO (c : CK) (sc : Scope) : Option Expr → Option Expr × Bool
  | some x => (some (c.e sc x).1, (c.e sc x).2)
  | none => (none, c.n)
noncomputable def ckIf (c : CK) (sc : Scope) (l : List Expr) : List Expr × Bool := bif l.isEmpty then ([], c.y) else ([(c.t sc (hx l)).1], (c.t sc (hx l)).2)
noncomputable abbrev XB := Expr × Bool
noncomputable def u1 (y : XB) (f : Expr → Expr) (g : Expr → Bool) : XB := (f y.1, g y.1 && y.2)
noncomputable def u2 (y z : XB) (f : Expr → Expr → Expr) (g : Expr → Expr → Bool) : XB := (f y.1 z.1, g y.1 z.1 && (y.2 && z.2))
noncomputable def u3 (y z w : XB) (f : Expr → Expr → Expr → Expr) (g : Expr → Expr → Expr → Bool) : XB := (f y.1 z.1 w.1, g y.1 z.1 w.1 && (y.2 && (z.2 && w.2)))
noncomputable def ua (y : List Expr × Bool) (f : List Expr → Expr) (g : Bool) : XB := (f y.1, g && y.2)
noncomputable def v1 (y : XB) (f : Expr → Expr) : XB := (f y.1, y.2)
noncomputable def v2 (y z : XB) (f : Expr → Expr → Expr) : XB := (f y.1 z.1, y.2 && z.2)
noncomputable def v3 (y z w : XB) (f : Expr → Expr → Expr → Expr) : XB := (f y.1 z.1 w.1, y.2 && (z.2 && w.2))
noncomputable def va (y : List Expr × Bool) (f : List Expr → Expr) : XB := (f y.1, y.2)
noncomputable def asN (x : Expr) : Expr := .Name (xv x).s x.pos
noncomputable def mA (y : XB) (r : (Expr × List Expr) × Bool) : (Expr × List Expr) × Bool := ((y.1, r.1.1 :: r.1.2), y.2 && r.2)
noncomputable def ck : RE → CK
  | .v i => .v fun sc x => (asN x, nmI sc i (xv x).s)
  | .k u => { CK.v fun _ x => (.Constant (cst u) (xv x).n x.pos, cstB u) with n := isnU u, y := isTr u }
  | .g j => .v fun sc x => (asN x, glB sc (xv x).s j && (glV[j]?).isSome)
  | .at e n => .v fun sc x => u1 ((ck e).e sc (xv x).a) (fun y => .Attribute y (aN n) x.pos) noBare
  | .bin o l r => .v fun sc x => v2 ((ck l).e sc (xv x).a) ((ck r).e sc (xv x).b) (fun y z => .BinOp y (opB o) z x.pos)
  | .neg e => .v fun sc x => v1 ((ck e).e sc (xv x).a) (fun y => .UnaryOp .USub y x.pos)
  | .cmp o l r => .two fun sc x => u2 ((ck l).e sc (xv x).a) ((ck r).e sc (hx (xv x).l)) (fun y z => .Compare y [opC o] [z] x.pos) fun _ z => noSet z
  | .em ne tu e => .two fun sc x => v1 ((ck e).e sc (xv x).a) (fun y => .Compare y [eqOp ne] [emE tu (xv (hx (xv x).l)).n (hx (xv x).l).pos] x.pos)
  | .isn ne e => .b no2 fun sc x => v1 ((ck e).e sc (xv x).a) (fun y => .Compare y [isOp ne] [.Constant .none (xv (hx (xv x).l)).n (hx (xv x).l).pos] x.pos)
  | .c2 l o m p r => .b no2 fun sc x => u3 ((ck l).e sc (xv x).a) ((ck m).e sc (hx (xv x).l)) ((ck r).e sc (hx (xv x).l.tail)) (fun y z w => .Compare y [opC o, opC p] [z, w] x.pos) fun _ _ w => noSet w
  | .not e => .b (fun sc x => v1 ((ck e).e sc (xv x).a) (fun y => .UnaryOp .Not y x.pos)) fun sc x => v1 ((ck e).t sc (xv x).a) (fun y => .UnaryOp .Not y x.pos)
  | .and a b => { CK.b (fun sc x => v2 ((ck a).e sc (hx (xv x).l)) ((ck b).e sc (hx (xv x).l.tail)) (fun y z => .BoolOp .And [y, z] x.pos)) fun sc x =>
      let r := mA ((ck a).t sc (hx (xv x).l)) ((ck b).m sc (xv x).l.tail x.pos); (.BoolOp .And (r.1.1 :: r.1.2) x.pos, r.2) with
      m := fun sc l p => mA ((ck a).t sc (hx l)) ((ck b).m sc l.tail p) }
  | .or a b => .b no2 fun sc x => v2 ((ck a).t sc (hx (xv x).l)) ((ck b).t sc (hx (xv x).l.tail)) (fun y z => .BoolOp .Or [y, z] x.pos)
  | .ite t a b => .b (fun sc x => v3 ((ck t).t sc (xv x).a) ((ck a).e sc (xv x).b) ((ck b).e sc (xv x).c) (fun y z w => .IfExp y z w x.pos)) no2
  | .nil => ⟨no2, no2, noM, fun _ _ => ([], true), fun _ _ _ => (([], []), true), noQ, no2, no2, true, false, false⟩
  | .cons e es => ⟨no2, no2, noM, fun sc xs => (((ck e).e sc (hx xs)).1 :: ((ck es).a sc xs.tail).1, ((noStar ((ck e).e sc (hx xs)).1 && Nat.blt ((ck es).a sc xs.tail).1.length 28) && ((ck e).e sc (hx xs)).2) && ((ck es).a sc xs.tail).2),
      fun sc ks vs => ((some ((ck e).e sc ((ks.headD none).getD xD)).1 :: ((ck es).q sc ks.tail vs).1.2.1, ((ck es).q sc ks.tail vs).1.1 :: ((ck es).q sc ks.tail vs).1.2.2), ((ck e).e sc ((ks.headD none).getD xD)).2 && ((ck es).q sc ks.tail vs).2),
      fun sc ks vs => ((((ck e).e sc (hx vs)).1, ((ck es).p sc ks vs.tail).1.1, ((ck es).p sc ks vs.tail).1.2), ((ck e).e sc (hx vs)).2 && ((ck es).p sc ks vs.tail).2), no2, no2, false, false, false⟩
  | .tup es => .v fun sc x => va ((ck es).a sc (xv x).l) (fun l => .Tuple l (xv x).n x.pos)
  | .lst es => { CK.v fun sc x => va ((ck es).a sc (xv x).l) (fun l => .List l x.pos) with d := fun sc x => va ((ck es).a sc (xv x).l) (fun l => .List l x.pos) }
  | .dct es => .v fun sc x => bif (ck es).z then (.Dict [] [] x.pos, true) else (.Dict ((ck es).p sc (xv x).k (xv x).l).1.1 ((ck es).p sc (xv x).k (xv x).l).1.2 x.pos, ((ck es).p sc (xv x).k (xv x).l).2 && (Nat.ble ((ck es).p sc (xv x).k (xv x).l).1.1.length 15 && !((ck es).p sc (xv x).k (xv x).l).1.1.isEmpty))
  | .sub e i => .v fun sc x => u2 ((ck e).e sc (xv x).a) ((ck i).e sc (xv x).b) (fun y z => .Subscript y z x.pos) fun _ z => noSlc z
  | .cut e lo hi => .v fun sc x => (.Subscript ((ck e).e sc (xv x).a).1 (.Slice (ckO (ck lo) sc ((xv (xv x).b).k.headD none)).1 (ckO (ck hi) sc ((xv (xv x).b).k.tail.headD none)).1 none (xv x).b.pos) x.pos, ((ck e).e sc (xv x).a).2 && ((ckO (ck lo) sc ((xv (xv x).b).k.headD none)).2 && (ckO (ck hi) sc ((xv (xv x).b).k.tail.headD none)).2))
  | .call f es => .v fun sc x => ua ((ck es).a sc (xv x).l) (fun l => .Call (asN (xv x).a) l [] x.pos) (fnB sc (xv (xv x).a).s f)
  | .cv i es => .v fun sc x => ua ((ck es).a sc (xv x).l) (fun l => .Call (asN (xv x).a) l [] x.pos) (nmI sc i (xv (xv x).a).s)
  | .mth e n es => .v fun sc x => (.Call (.Attribute ((ck e).e sc (xv (xv x).a).a).1 (aN n) (xv x).a.pos) ((ck es).a sc (xv x).l).1 [] x.pos, (noBare ((ck e).e sc (xv (xv x).a).a).1 && ((xv x).a.pos.endLine == x.pos.line)) && (((ck e).e sc (xv (xv x).a).a).2 && ((ck es).a sc (xv x).l).2))
  | .get e a b => .v fun sc x => u3 ((ck e).e sc (xv (xv x).a).a) ((ck a).e sc (hx (xv x).l)) ((ck b).e sc (hx (xv x).l.tail)) (fun y s t => .Call (.Attribute y (Str.ofString "get") (xv x).a.pos) [s, t] [] x.pos) fun y s t => (noBare y && ((xv x).a.pos.endLine == x.pos.line)) && (noStar s && noStar t)
  | .bi w es => .v fun sc x => ua ((ck es).a sc (xv x).l) (fun l => .Call (asN (xv x).a) l [] x.pos) (gloB sc (xv (xv x).a).s (biN w))
  | .comp fr pt src cond elt => .co fun sc x => (.ListComp ((ck elt).e (xv x).sc (xv x).a).1 [⟨(xv x).b, ((ck src).e sc (xv x).c).1, (ckIf (ck cond) (xv x).sc (xv x).l).1, 0⟩] (xv x).sc x.pos,
      (((scOk (xv x).sc && frOk (xv x).sc sc fr) && (noSet ((ck src).e sc (xv x).c).1 && ptJ (xv x).sc pt (xv x).b)) && (frB fr pt && (ckIf (ck cond) (xv x).sc (xv x).l).2)) && (((ck src).e sc (xv x).c).2 && ((ck elt).e (xv x).sc (xv x).a).2))
  | .mkpot a b c => .v fun sc x => u3 ((ck a).d sc (hx (xv x).l)) ((ck b).e sc (hx (xv x).l.tail)) ((ck c).e sc (hx (xv x).l.tail.tail)) (fun p q r => .List [p, q, r] x.pos) fun p q r => noStar p && (noStar q && noStar r)
  | .mkstp => .v fun _ x => (.List [.Constant (.int 0) (xv (hx (xv x).l)).n (hx (xv x).l).pos] x.pos, true)
section
variable {cx : Cx} {d : Nat} {sc csc : Scope} {f g h : Os → St → (U → St → Prop) → Prop} {c b : Os → St → (St → Prop) → (St → Prop) → Prop} {e e2 x : Expr}
structure SCm (cx : Cx) (d : Nat) (sc : Scope) (f : Os → St → (U → St → Prop) → Prop) (x : Expr) : Prop where
  go : ∀ {mk i n p p1 rest fk} {G : U → Os → St → KR → Prop}, BL cx sc n i mk → SW cx d sc fk rest → (∀ {ys os σ K}, G (.fl ys) os σ K → fk (os.set i (mk ys)) σ K) → SW cx d sc (fun os σ K => f os σ fun u σ1 => G u os σ1 K) (.Assign [.Name n p1] x p :: rest)
inductive QI (cx : Cx) (d : Nat) (sc : Scope) (v : Expr) (ks : List (Option Expr)) (vs : List Expr) : (Os → St → (U → St → Prop) → Prop) → Prop
  | mk (g h : Os → St → (U → St → Prop) → Prop) (e : SE cx d sc g v) (p : SP cx d sc h ks vs) : QI cx d sc v ks vs fun os σ Q => g os σ fun v σ1 => h os σ1 fun t σ2 => consU v (fun z => Q z σ2) t
structure Snd (cx : Cx) (d : Nat) (c : CK) (w : WW) : Prop where
  ve : ∀ {sc x}, ScOk sc → (c.e sc x).2 = true → SE cx d sc w.e (c.e sc x).1
  vt : ∀ {sc x}, ScOk sc → (c.t sc x).2 = true → SB cx d sc w.t (c.t sc x).1
  vm : ∀ {sc l p}, ScOk sc → (c.m sc l p).2 = true → SB cx d sc w.t (boolR .And (c.m sc l p).1.1 (c.m sc l p).1.2 p)
  va : ∀ {sc x}, ScOk sc → (c.a sc x).2 = true → SA cx d sc w.e (c.a sc x).1
  vp : ∀ {sc ks vs}, ScOk sc → (c.p sc ks vs).2 = true → SP cx d sc w.e (c.p sc ks vs).1.1 (c.p sc ks vs).1.2
  vq : ∀ {sc ks vs}, ScOk sc → (c.q sc ks vs).2 = true → QI cx d sc (c.q sc ks vs).1.1 (c.q sc ks vs).1.2.1 (c.q sc ks vs).1.2.2 w.e
  vd : ∀ {sc x}, ScOk sc → (c.d sc x).2 = true → SD cx d sc w.e (c.d sc x).1
  vc : ∀ {sc x}, ScOk sc → (c.c sc x).2 = true → SCm cx d sc w.e (c.c sc x).1
  vz : c.z = true → w.e = fun _ σ Q => Q (.tu []) σ
  vn : c.n = true → w.e = fun _ σ Q => Q .no σ
  vy : c.y = true → w.t = fun _ σ P _ => P σ
theorem Snd.tw {k l : Scope → Expr → XB} {w : WW} (h : ∀ {sc x}, ScOk sc → (k sc x).2 = true → SE cx d sc w.e (k sc x).1) (h2 : ∀ {sc x}, ScOk sc → (l sc x).2 = true → SB cx d sc w.t (l sc x).1) : Snd cx d (.b k l) w :=
  ⟨h, h2, h2, fun _ h => fot h, fun _ h => fot h, fun _ h => fot h, fun _ h => fot h, fun _ h => fot h, fot, fot, fot⟩
theorem tvG {k : Scope → Expr → XB} (h : ∀ {sc x}, ScOk sc → (k sc x).2 = true → SE cx d sc f (k sc x).1) (S : ScOk sc) (q : (tvF k sc x).2 = true) : SB cx d sc (mkW f).t (tvF k sc x).1 := .val (h S (an1 q)) fun env => tvB.go (an2 q)
theorem Snd.v {k : Scope → Expr → XB} (h : ∀ {sc x}, ScOk sc → (k sc x).2 = true → SE cx d sc f (k sc x).1) : Snd cx d (.v k) (mkW f) := .tw h (tvG h)
theorem cst.go {u : U} {k : Nat} {p : Pos} (h : cstB u = true) : SE cx d sc (fun _ σ Q => Q u σ) (.Constant (cst u) k p) := by
  cases u with
  | i a => exact .intC
  | s a => exact .strC
  | b a => exact .boolC
  | no => exact .noC
  | _ => exact fot h
theorem cst.n {u : U} (h : isnU u = true) : u = .no := by
  cases u with
  | no => rfl
  | _ => exact fot h
theorem cst.y {u : U} (h : isTr u = true) : u = .b true := by
  cases u with
  | b b => exact congrArg U.b h
  | _ => exact fot h
theorem ckO.go {k : CK} {w : WW} (s : Snd cx d k w) (S : ScOk sc) {o : Option Expr} (h : (ckO k sc o).2 = true) : SO cx d sc w.e (ckO k sc o).1 := by
  cases o with
  | none => rw [s.vn h]; exact .no
  | some x => exact .ofE (s.ve S h)
theorem frB.go {fr : List (Option Nat)} {p : Pt} (h : frB fr p = true) : ∀ i ∈ ptS p, fr[i]? = some none := fun i hi => by
  have := List.all_eq_true.mp h i hi
  revert this
  cases fr[i]? with
  | none => exact fot
  | some o => cases o with
    | none => exact fun _ => rfl
    | some => exact fot
theorem ckIf.go {k : CK} {w : WW} (s : Snd cx d k w) (S : ScOk sc) {l : List Expr} (h : (ckIf k sc l).2 = true) : SC cx d sc w.t (ckIf k sc l).1 := by
  cases l with
  | nil => rw [s.vy h]; exact .nil
  | cons x r => exact .one (s.vt S h)
theorem SB.andR {r : List Expr} {p : Pos} (hl : SB cx d sc b e) (hr : SB cx d sc c (boolR .And e2 r p)) : SB cx d sc (fun os σ P N => b os σ (fun σ1 => c os σ1 P N) N) (.BoolOp .And (e :: e2 :: r) p) := by
  cases r with
  | nil => exact SB.and hl hr
  | cons a r => exact SB.and hl hr
end
end

end
section
noncomputable section
section
variable {cx : Cx} {d : Nat} {sc csc : Scope} {f g h : Os → St → (U → St → Prop) → Prop} {c b : Os → St → (St → Prop) → (St → Prop) → Prop} {e e2 x : Expr} {k1 k2 k3 k4 : CK} {w1 w2 w3 w4 : WW}
theorem nmI.se (S : ScOk sc) {i : Nat} {n : Str} {p : Pos} (h : nmI sc i n = true) : SE cx d sc (fun os σ Q => unQ (fun u => Q u σ) (os.getD i .un)) (.Name n p) := (nmI.go h).elim fun _ e => .name S e
theorem glb_se (S : ScOk sc) (N : Nms cx) {j : Nat} {n : Str} {p : Pos} (h : (glB sc n j && (glV[j]?).isSome) = true) : SE cx d sc (fun _ σ Q => oQ (fun u => Q u σ) glV[j]?) (.Name n p) := by
  have h1 := an1 h
  have h2 := an2 h
  cases e : glV[j]? with
  | none => rw [e] at h2; exact fot h2
  | some u => exact .glob (glB.go S N h1 e)
theorem cons_p (s1 : Snd cx d k1 w1) (s2 : Snd cx d k2 w2) (S : ScOk sc) {ks : List (Option Expr)} {vs : List Expr} {y : Expr} (hy : SE cx d sc w1.e y) (h : (k2.q sc ks vs).2 = true) :
    SP cx d sc (fun os σ Q => w1.e os σ fun u σ1 => w2.e os σ1 fun v σ2 => consU u (fun z => Q z σ2) v) (some y :: (k2.q sc ks vs).1.2.1) ((k2.q sc ks vs).1.1 :: (k2.q sc ks vs).1.2.2) := by
  have q := s2.vq S h
  revert q
  generalize w2.e = w
  exact fun q => QI.casesOn q fun g h h3 h4 => .cons hy h3 h4
theorem dct_se (s : Snd cx d k1 w1) (S : ScOk sc) {ks : List (Option Expr)} {vs : List Expr} {p : Pos}
    (h : (bif k1.z then (Expr.Dict [] [] p, true) else (.Dict (k1.p sc ks vs).1.1 (k1.p sc ks vs).1.2 p, (k1.p sc ks vs).2 && (Nat.ble (k1.p sc ks vs).1.1.length 15 && !(k1.p sc ks vs).1.1.isEmpty))).2 = true) :
    SE cx d sc (fun os σ Q => w1.e os σ (argP fun l σ1 => oQ (dctQ fun u => Q u σ1) (mrg l))) (bif k1.z then (Expr.Dict [] [] p, true) else (.Dict (k1.p sc ks vs).1.1 (k1.p sc ks vs).1.2 p, (k1.p sc ks vs).2 && (Nat.ble (k1.p sc ks vs).1.1.length 15 && !(k1.p sc ks vs).1.1.isEmpty))).1 := by
  cases e : k1.z with
  | true => rw [s.vz e]; exact .dct0
  | false =>
    rw [e] at h
    exact .dct (s.vp S (an1 h)) (Nat.le_of_ble_eq_true (an1 (an2 h))) fun q => by have := an2 (an2 h); rw [q] at this; exact fot this
theorem comp_sd (s1 : Snd cx d k1 w1) (s2 : Snd cx d k2 w2) (s3 : Snd cx d k3 w3) (S : ScOk sc) {fr : List (Option Nat)} {pt : Pt} {it el t : Expr} {ifs : List Expr} {p : Pos}
    (h : ((((scOk csc && frOk csc sc fr) && (noSet (k1.e sc it).1 && ptJ csc pt t)) && (frB fr pt && (ckIf k2 csc ifs).2)) && ((k1.e sc it).2 && (k3.e csc el).2)) = true) :
    SD cx d sc (compW fr pt w1.e w2.t w3.e) (.ListComp (k3.e csc el).1 [⟨t, (k1.e sc it).1, (ckIf k2 csc ifs).1, 0⟩] csc p) ∧ SCm cx d sc (compW fr pt w1.e w2.t w3.e) (.ListComp (k3.e csc el).1 [⟨t, (k1.e sc it).1, (ckIf k2 csc ifs).1, 0⟩] csc p) := by
  have ha := an1 (an1 h)
  have S2 := scOk.go (an1 (an1 ha))
  have hi := s1.ve S (an1 (an2 h))
  have he := s3.ve S2 (an2 (an2 h))
  have hc := ckIf.go s2 S2 (an2 (an2 (an1 h)))
  have hf := frB.go (an1 (an2 (an1 h)))
  exact ⟨.comp S2 (an2 (an1 ha)) (an1 (an2 ha)) hi (an2 (an2 ha)) hf hc he, ⟨fun bl hr hG => .comp S2 (an2 (an1 ha)) (an1 (an2 ha)) hi (an2 (an2 ha)) hf hc he bl hr hG⟩⟩
theorem and_t (s1 : Snd cx d k1 w1) (s2 : Snd cx d k2 w2) (S : ScOk sc) {l l' : List Expr} {p : Pos} (h : (mA (k1.t sc (hx l)) (k2.m sc l' p)).2 = true) :
    SB cx d sc (fun os σ P N => w1.t os σ (fun σ1 => w2.t os σ1 P N) N) (.BoolOp .And ((mA (k1.t sc (hx l)) (k2.m sc l' p)).1.1 :: (mA (k1.t sc (hx l)) (k2.m sc l' p)).1.2) p) := .andR (s1.vt S (an1 h)) (s2.vm S (an2 h))
theorem or_t (s1 : Snd cx d k1 w1) (s2 : Snd cx d k2 w2) (S : ScOk sc) {x y : Expr} {p : Pos} (h : ((k1.t sc x).2 && (k2.t sc y).2) = true) :
    SB cx d sc (fun os σ P N => w1.t os σ P fun σ1 => w2.t os σ1 P N) (.BoolOp .Or [(k1.t sc x).1, (k2.t sc y).1] p) := .or (r := []) (s1.vt S (an1 h)) (s2.vt S (an2 h))
theorem comp_snd (s1 : Snd cx d k1 w1) (s2 : Snd cx d k2 w2) (s3 : Snd cx d k3 w3) {fr : List (Option Nat)} {pt : Pt} : Snd cx d (.co fun sc x => (.ListComp (k3.e (xv x).sc (xv x).a).1 [⟨(xv x).b, (k1.e sc (xv x).c).1, (ckIf k2 (xv x).sc (xv x).l).1, 0⟩] (xv x).sc x.pos,
      (((scOk (xv x).sc && frOk (xv x).sc sc fr) && (noSet (k1.e sc (xv x).c).1 && ptJ (xv x).sc pt (xv x).b)) && (frB fr pt && (ckIf k2 (xv x).sc (xv x).l).2)) && ((k1.e sc (xv x).c).2 && (k3.e (xv x).sc (xv x).a).2))) (mkW (compW fr pt w1.e w2.t w3.e)) :=
  have key := fun {sc x} S h => (comp_sd s1 s2 s3 (sc := sc) (fr := fr) (pt := pt) (csc := (xv x).sc) (it := (xv x).c) (el := (xv x).a) (t := (xv x).b) (ifs := (xv x).l) (p := x.pos) S h)
  have s : Snd cx d (.v fun sc x => (.ListComp (k3.e (xv x).sc (xv x).a).1 [⟨(xv x).b, (k1.e sc (xv x).c).1, (ckIf k2 (xv x).sc (xv x).l).1, 0⟩] (xv x).sc x.pos,
      (((scOk (xv x).sc && frOk (xv x).sc sc fr) && (noSet (k1.e sc (xv x).c).1 && ptJ (xv x).sc pt (xv x).b)) && (frB fr pt && (ckIf k2 (xv x).sc (xv x).l).2)) && ((k1.e sc (xv x).c).2 && (k3.e (xv x).sc (xv x).a).2))) (mkW (compW fr pt w1.e w2.t w3.e)) := .v fun S h => (key S h).1.se
  ⟨s.ve, s.vt, s.vm, s.va, s.vp, s.vq, fun S h => (key S h).1, fun S h => (key S h).2, fot, fot, fot⟩
theorem sound (CF : ClsF cx) (N : Nms cx) : ∀ r : RE, Snd cx d (ck r) (ev (CallT cx d) r)
  | .v i => .v fun S h => nmI.se S h
  | .k u => let s : Snd cx d (.v fun _ x => (.Constant (cst u) (xv x).n x.pos, cstB u)) (mkW fun _ σ Q => Q u σ) := .v fun S h => cst.go h
    ⟨s.ve, s.vt, s.vm, s.va, s.vp, s.vq, s.vd, s.vc, fot, fun h => by cases cst.n h; rfl, fun h => by cases cst.y h; rfl⟩
  | .g j => .v fun S h => glb_se S N h
  | .at e n => .v fun S h => .attr CF ((sound CF N e).ve S (an2 h)) (an1 h)
  | .bin o l r => .v fun S h => .bin ((sound CF N l).ve S (an1 h)) ((sound CF N r).ve S (an2 h))
  | .neg e => .v fun S h => .neg ((sound CF N e).ve S h)
  | .cmp o l r => .tw (fun S h => .cmp ((sound CF N l).ve S (an1 (an2 h))) ((sound CF N r).ve S (an2 (an2 h))) (an1 h)) fun S h => .cmp ((sound CF N l).ve S (an1 (an2 h))) ((sound CF N r).ve S (an2 (an2 h))) (an1 h)
  | .em ne tu e => .tw (fun S h => .em ((sound CF N e).ve S h)) fun S h => .em ((sound CF N e).ve S h)
  | .isn ne e => .tw (fun _ h => fot h) fun S h => .isn ((sound CF N e).ve S h)
  | .c2 l o m p r => .tw (fun _ h => fot h) fun S h => .c2 ((sound CF N l).ve S (an1 (an2 h))) ((sound CF N m).ve S (an1 (an2 (an2 h)))) ((sound CF N r).ve S (an2 (an2 (an2 h)))) (an1 h)
  | .not e => .tw (fun S h => .not ((sound CF N e).ve S h)) fun S h => .not ((sound CF N e).vt S h)
  | .and a b => ⟨fun S h => .and (r := []) ((sound CF N a).ve S (an1 h)) ((sound CF N b).ve S (an2 h)), fun S h => and_t (sound CF N a) (sound CF N b) S h, fun S h => and_t (sound CF N a) (sound CF N b) S h, fun _ h => fot h, fun _ h => fot h, fun _ h => fot h, fun _ h => fot h, fun _ h => fot h, fot, fot, fot⟩
  | .or a b => .tw (fun _ h => fot h) fun S h => or_t (sound CF N a) (sound CF N b) S h
  | .ite t a b => .tw (fun S h => .ite ((sound CF N t).vt S (an1 h)) ((sound CF N a).ve S (an1 (an2 h))) ((sound CF N b).ve S (an2 (an2 h)))) fun _ h => fot h
  | .nil => ⟨fun _ h => fot h, fun _ h => fot h, fun _ h => fot h, fun _ _ => .nil, fun _ _ => .nil, fun _ h => fot h, fun _ h => fot h, fun _ h => fot h, fun _ => rfl, fot, fot⟩
  | .cons e es => ⟨fun _ h => fot h, fun _ h => fot h, fun _ h => fot h, fun S h => .cons ((sound CF N e).ve S (an2 (an1 h))) (an1 (an1 (an1 h))) ((sound CF N es).va S (an2 h)) (Nat.blt_eq.mp (an2 (an1 (an1 h)))),
      fun S h => cons_p (sound CF N e) (sound CF N es) S ((sound CF N e).ve S (an1 h)) (an2 h), fun S h => .mk _ _ ((sound CF N e).ve S (an1 h)) ((sound CF N es).vp S (an2 h)), fun _ h => fot h, fun _ h => fot h, fot, fot, fot⟩
  | .tup es => .v fun S h => .tup ((sound CF N es).va S h)
  | .lst es => let s : Snd cx d (.v fun sc x => va ((ck es).a sc (xv x).l) (fun l => .List l x.pos)) (mkW fun os σ Q => (ev (CallT cx d) es).e os σ (argP fun l σ1 => Q (.fl l) σ1)) := .v fun S h => .lst ((sound CF N es).va S h)
    ⟨s.ve, s.vt, s.vm, s.va, s.vp, s.vq, fun S h => .lst ((sound CF N es).va S h), s.vc, fot, fot, fot⟩
  | .dct es => .v fun S h => dct_se (sound CF N es) S h
  | .sub e i => .v fun S h => .sub ((sound CF N e).ve S (an1 (an2 h))) ((sound CF N i).ve S (an2 (an2 h))) fun o w => noSlc.go (an1 h)
  | .cut e lo hi => .v fun S h => .cut ((sound CF N e).ve S (an1 h)) (ckO.go (sound CF N lo) S (an1 (an2 h))) (ckO.go (sound CF N hi) S (an2 (an2 h)))
  | .call f es => .v fun S h => .call (fnB.go S N (an1 h)) ((sound CF N es).va S (an2 h))
  | .cv i es => .v fun S h => (nmI.go (an1 h)).elim fun _ e => .cv S e ((sound CF N es).va S (an2 h))
  | .mth e n es => .v fun S h => .mth CF ((sound CF N e).ve S (an1 (an2 h))) ((sound CF N es).va S (an2 (an2 h))) (an1 (an1 h)) (an2 (an1 h))
  | .get e a b => .v fun S h => .get ((sound CF N e).ve S (an1 (an2 h))) ((sound CF N a).ve S (an1 (an2 (an2 h)))) ((sound CF N b).ve S (an2 (an2 (an2 h)))) (an1 (an1 (an1 h))) (an1 (an2 (an1 h))) (an2 (an2 (an1 h))) (an2 (an1 (an1 h)))
  | .bi w es => .v fun S h => .bi CF (gloB.go S (an1 h) (N.bi w)) ((sound CF N es).va S (an2 h))
  | .comp fr pt src cond elt => comp_snd (sound CF N src) (sound CF N cond) (sound CF N elt)
  | .mkpot a b c => .v fun S h => .mkpot ((sound CF N a).vd S (an1 (an2 h))) ((sound CF N b).ve S (an1 (an2 (an2 h)))) ((sound CF N c).ve S (an2 (an2 (an2 h)))) (an1 (an1 h)) (an1 (an2 (an1 h))) (an2 (an2 (an1 h)))
  | .mkstp => .v fun _ _ => .mkstp
end
end

end
section
noncomputable section
noncomputable def semO {α : Type} : Sem α → Option α
  | .pure a => some a
  | _ => none
theorem semO.go {α : Type} {z : Sem α} {x : α} (h : semO z = some x) : z = .pure x := by
  cases z with
  | pure a => exact congrArg Sem.pure (Option.some.inj h)
  | _ => exact nos h
noncomputable def sw0 (sc : Scope) (t y : Expr) : Option (Option (List Str)) := semO (swappedStores [t] y ⟨sc, 0, 0, [], Str.empty, none, .none, none, 0⟩)
theorem sw0.go {sc : Scope} {t y : Expr} {o : Option (List Str)} (h : sw0 sc t y = some o) (env : Env) (e : env.scope = sc) : swappedStores [t] y env = pure o := by subst e; exact semO.go h
noncomputable def nthB (sc : Scope) (l : List Nat) (s : List Str) (i : Nat) : Bool := nmJ sc (l.getD i 0) (s.getD i default)
noncomputable def f3 {α : Type} (a : α) (l : List α) : List α := [l.getD 0 a, l.getD 1 a, l.getD 2 a]
structure SVw where
  t : Expr
  x : Expr
  b : List Stmt
  o : List Stmt
  r : Option Expr
noncomputable def sD : SVw := ⟨xD, xD, [], [], none⟩
noncomputable def sv : Stmt → SVw
  | .Return r _ => { sD with r := r }
  | .Assign ts e _ => { sD with t := hx ts, x := e }
  | .If e b o _ => { sD with x := e, b := b, o := o }
  | .Expr e _ => { sD with x := e }
  | .While e b _ _ => { sD with x := e, b := b }
  | .For t e b _ _ => { sD with t := t, x := e, b := b }
  | _ => sD
end

end
section
noncomputable section
noncomputable def hs (ss : List Stmt) : Stmt := ss.headD (.Pass pO)
noncomputable def swC (sc : Scope) (l : List Nat) (ts : List Expr) : Option (Option (List Str)) → Bool
  | some none => nmsJ sc l ts
  | some (some s) => (decide (s = f3 default s) && decide (l = f3 0 l)) && ((decide (l.getD 0 0 ≠ l.getD 1 0) && (decide (l.getD 1 0 ≠ l.getD 2 0) && decide (l.getD 0 0 ≠ l.getD 2 0))) && (nthB sc l s 0 && (nthB sc l s 1 && nthB sc l s 2)))
  | none => false
noncomputable abbrev SL := List Stmt × Bool
noncomputable def asT (t : Expr) : Expr := .Tuple (xv t).l (xv t).n t.pos
noncomputable def ag (s : Stmt) (t : Expr) (y : XB) (g : Bool) (k : SL) : SL := (.Assign [t] y.1 s.pos :: k.1, g && (y.2 && k.2))
noncomputable def ag2 (s : Stmt) (t : XB) (f : Expr → Expr) (y : XB) (g : Bool) (k : SL) : SL := (.Assign [f t.1] y.1 s.pos :: k.1, g && (y.2 && (t.2 && k.2)))
noncomputable def mcl (m : String) (x : Expr) (y : XB) : Expr := .Call (.Attribute (asN (xv (xv x).a).a) (Str.ofString m) (xv x).a.pos) [y.1] [] x.pos
noncomputable def mck (sc : Scope) (i : Nat) (x : Expr) (y : XB) : Bool := ((xv x).a.pos.endLine == x.pos.line) && (nmJ sc i (xv (xv (xv x).a).a).s && noStar y.1)
noncomputable def ckS : RS → Scope → List Stmt → SL
  | .skip, _, _ => ([], true)
  | .ret e, sc, ss => (.Return (ckO (ck e) sc (sv (hs ss)).r).1 (hs ss).pos :: ss.tail, (ckO (ck e) sc (sv (hs ss)).r).2)
  | .cont, _, ss => (.Continue (hs ss).pos :: ss.tail, true)
  | .asg i e k, sc, ss => bif isComp (sv (hs ss)).x then ag (hs ss) (asN (sv (hs ss)).t) ((ck e).c sc (sv (hs ss)).x) (nmJ sc i (xv (sv (hs ss)).t).s) (ckS k sc ss.tail)
      else ag (hs ss) (asN (sv (hs ss)).t) ((ck e).e sc (sv (hs ss)).x) (!isComp ((ck e).e sc (sv (hs ss)).x).1 && nmJ sc i (xv (sv (hs ss)).t).s) (ckS k sc ss.tail)
  | .asgT l e k, sc, ss => ag (hs ss) (asT (sv (hs ss)).t) ((ck e).e sc (sv (hs ss)).x) (!isComp ((ck e).e sc (sv (hs ss)).x).1 && swC sc l (xv (sv (hs ss)).t).l (sw0 sc (asT (sv (hs ss)).t) ((ck e).e sc (sv (hs ss)).x).1)) (ckS k sc ss.tail)
  | .seta o n e k, sc, ss => ag2 (hs ss) ((ck o).e sc (xv (sv (hs ss)).t).a) (fun z => .Attribute z (aN n) (sv (hs ss)).t.pos) ((ck e).e sc (sv (hs ss)).x) (!isComp ((ck e).e sc (sv (hs ss)).x).1) (ckS k sc ss.tail)
  | .seti o i e k, sc, ss => (.Assign [.Subscript ((ck o).e sc (xv (sv (hs ss)).t).a).1 ((ck i).e sc (xv (sv (hs ss)).t).b).1 (sv (hs ss)).t.pos] ((ck e).e sc (sv (hs ss)).x).1 (hs ss).pos :: (ckS k sc ss.tail).1,
      (noSet ((ck i).e sc (xv (sv (hs ss)).t).b).1 && !isComp ((ck e).e sc (sv (hs ss)).x).1) && (((ck e).e sc (sv (hs ss)).x).2 && (((ck o).e sc (xv (sv (hs ss)).t).a).2 && (((ck i).e sc (xv (sv (hs ss)).t).b).2 && (ckS k sc ss.tail).2))))
  | .setc o lo hi e k, sc, ss => (.Assign [.Subscript ((ck o).e sc (xv (sv (hs ss)).t).a).1 (.Slice (ckO (ck lo) sc ((xv (xv (sv (hs ss)).t).b).k.headD none)).1 (ckO (ck hi) sc ((xv (xv (sv (hs ss)).t).b).k.tail.headD none)).1 none (xv (sv (hs ss)).t).b.pos) (sv (hs ss)).t.pos] ((ck e).e sc (sv (hs ss)).x).1 (hs ss).pos :: (ckS k sc ss.tail).1,
      (((ck e).e sc (sv (hs ss)).x).2 && (((ck o).e sc (xv (sv (hs ss)).t).a).2 && ((ckO (ck lo) sc ((xv (xv (sv (hs ss)).t).b).k.headD none)).2 && ((ckO (ck hi) sc ((xv (xv (sv (hs ss)).t).b).k.tail.headD none)).2 && (ckS k sc ss.tail).2)))))
  | .ite t b o k, sc, ss => (.If ((ck t).t sc (sv (hs ss)).x).1 (ckS b sc (sv (hs ss)).b).1 (ckS o sc (sv (hs ss)).o).1 (hs ss).pos :: (ckS k sc ss.tail).1, ((ck t).t sc (sv (hs ss)).x).2 && ((ckS b sc (sv (hs ss)).b).2 && ((ckS o sc (sv (hs ss)).o).2 && (ckS k sc ss.tail).2)))
  | .ex e k, sc, ss => (.Expr ((ck e).e sc (sv (hs ss)).x).1 (hs ss).pos :: (ckS k sc ss.tail).1, !isComp ((ck e).e sc (sv (hs ss)).x).1 && (((ck e).e sc (sv (hs ss)).x).2 && (ckS k sc ss.tail).2))
  | .wh t b k, sc, ss => (.While ((ck t).t sc (sv (hs ss)).x).1 (ckS b sc (sv (hs ss)).b).1 [] (hs ss).pos :: (ckS k sc ss.tail).1, ((ck t).t sc (sv (hs ss)).x).2 && ((ckS b sc (sv (hs ss)).b).2 && (ckS k sc ss.tail).2))
  | .for p e b k, sc, ss => (.For (sv (hs ss)).t ((ck e).e sc (sv (hs ss)).x).1 (ckS b sc (sv (hs ss)).b).1 [] (hs ss).pos :: (ckS k sc ss.tail).1, (noSet ((ck e).e sc (sv (hs ss)).x).1 && ptJ sc p (sv (hs ss)).t) && (((ck e).e sc (sv (hs ss)).x).2 && ((ckS b sc (sv (hs ss)).b).2 && (ckS k sc ss.tail).2)))
  | .newL i es k, sc, ss => ag (hs ss) (asN (sv (hs ss)).t) (va ((ck es).a sc (xv (sv (hs ss)).x).l) fun l => .List l (sv (hs ss)).x.pos) (nmJ sc i (xv (sv (hs ss)).t).s) (ckS k sc ss.tail)
  | .newD i k, sc, ss => ag (hs ss) (asN (sv (hs ss)).t) (.Dict [] [] (sv (hs ss)).x.pos, true) (nmJ sc i (xv (sv (hs ss)).t).s) (ckS k sc ss.tail)
  | .newS i k, sc, ss => ag (hs ss) (asN (sv (hs ss)).t) (.Dict [] [] (sv (hs ss)).x.pos, true) (nmJ sc i (xv (sv (hs ss)).t).s) (ckS k sc ss.tail)
  | .newC i e k, sc, ss => ag (hs ss) (asN (sv (hs ss)).t) ((ck e).c sc (sv (hs ss)).x) (nmJ sc i (xv (sv (hs ss)).t).s) (ckS k sc ss.tail)
  | .newI i c es k, sc, ss => ag (hs ss) (asN (sv (hs ss)).t) (va ((ck es).a sc (xv (sv (hs ss)).x).l) fun l => .Call (asN (xv (sv (hs ss)).x).a) l [] (sv (hs ss)).x.pos) ((nmJ sc i (xv (sv (hs ss)).t).s && (lkN c cF).isSome) && fnB sc (xv (xv (sv (hs ss)).x).a).s (1000000 + c)) (ckS k sc ss.tail)
  | .newH i e k, sc, ss => ag2 (hs ss) ((ck e).e sc (hx (xv (sv (hs ss)).x).l)) (fun _ => asN (sv (hs ss)).t) (v1 ((ck e).e sc (hx (xv (sv (hs ss)).x).l)) fun y => .Call (asN (xv (sv (hs ss)).x).a) [y] [] (sv (hs ss)).x.pos) ((nmJ sc i (xv (sv (hs ss)).t).s && gloB sc (xv (xv (sv (hs ss)).x).a).s (biN .dict)) && noStar ((ck e).e sc (hx (xv (sv (hs ss)).x).l)).1) (ckS k sc ss.tail)
  | .app i e k, sc, ss => (.Expr (mcl "append" (sv (hs ss)).x ((ck e).e sc (hx (xv (sv (hs ss)).x).l))) (hs ss).pos :: (ckS k sc ss.tail).1, mck sc i (sv (hs ss)).x ((ck e).e sc (hx (xv (sv (hs ss)).x).l)) && (((ck e).e sc (hx (xv (sv (hs ss)).x).l)).2 && (ckS k sc ss.tail).2))
  | .ext i e k, sc, ss => (.Expr (mcl "extend" (sv (hs ss)).x ((ck e).e sc (hx (xv (sv (hs ss)).x).l))) (hs ss).pos :: (ckS k sc ss.tail).1, mck sc i (sv (hs ss)).x ((ck e).e sc (hx (xv (sv (hs ss)).x).l)) && (((ck e).e sc (hx (xv (sv (hs ss)).x).l)).2 && (ckS k sc ss.tail).2))
  | .put i a b k, sc, ss => ag2 (hs ss) ((ck a).e sc (xv (sv (hs ss)).t).b) (fun w => .Subscript (asN (xv (sv (hs ss)).t).a) w (sv (hs ss)).t.pos) ((ck b).e sc (sv (hs ss)).x) (nmJ sc i (xv (xv (sv (hs ss)).t).a).s && !isComp ((ck b).e sc (sv (hs ss)).x).1) (ckS k sc ss.tail)
  | .putS i a k, sc, ss => ag2 (hs ss) ((ck a).e sc (xv (sv (hs ss)).t).b) (fun w => .Subscript (asN (xv (sv (hs ss)).t).a) w (sv (hs ss)).t.pos) (.Constant (.bool true) (xv (sv (hs ss)).x).n (sv (hs ss)).x.pos, true) (nmJ sc i (xv (xv (sv (hs ss)).t).a).s) (ckS k sc ss.tail)
  | .seto i n e k, sc, ss => ag (hs ss) (.Attribute (asN (xv (sv (hs ss)).t).a) (aN n) (sv (hs ss)).t.pos) ((ck e).e sc (sv (hs ss)).x) (!isComp ((ck e).e sc (sv (hs ss)).x).1 && nmI sc i (xv (xv (sv (hs ss)).t).a).s) (ckS k sc ss.tail)
  | .frz i k, sc, ss => ((ckS k sc ss).1, (sc.names[i]?).isSome && (ckS k sc ss).2)
  | .adr i k, sc, ss => ((ckS k sc ss).1, (sc.names[i]?).isSome && (ckS k sc ss).2)
section
variable {cx : Cx} {d : Nat} {sc : Scope} {f : Os → St → (U → St → Prop) → Prop} {fk : Os → St → KR → Prop} {e : Expr} {p p1 : Pos} {rest : List Stmt}
theorem asg_t (S : ScOk sc) {l : List Nat} {ts : List Expr} {kk : Nat} (hc : isComp e = false) (h : swC sc l ts (sw0 sc (.Tuple ts kk p1) e) = true) (he : SE cx d sc f e) (hr : SW cx d sc fk rest) :
    SW cx d sc (fun os σ K => f os σ fun u σ1 => asP os (fun os1 => fk os1 σ1 K) (.t l) u) (.Assign [.Tuple ts kk p1] e p :: rest) := by
  cases e1 : sw0 sc (.Tuple ts kk p1) e with
  | none => rw [e1] at h; exact fot h
  | some o =>
    rw [e1] at h
    cases o with
    | none => exact .asgT S hc (sw0.go e1) he h hr
    | some s =>
      have a1 := of_decide_eq_true (an1 (an1 h))
      rw [of_decide_eq_true (an2 (an1 h))]
      rw [a1] at e1
      have h := an2 h
      exact .asgS S hc (sw0.go e1) he (an1 (an2 h)) (an1 (an2 (an2 h))) (an2 (an2 (an2 h))) (of_decide_eq_true (an1 (an1 h))) (of_decide_eq_true (an1 (an2 (an1 h)))) (of_decide_eq_true (an2 (an2 (an1 h)))) hr
theorem ret_t {r : RE} (s : Snd cx d (ck r) (ev (CallT cx d) r)) (S : ScOk sc) {o : Option Expr} (h : (ckO (ck r) sc o).2 = true) : SW cx d sc (fun os σ K => (ev (CallT cx d) r).e os σ fun u σ1 => plQ (fun u => K.r u σ1) u) (.Return (ckO (ck r) sc o).1 p :: rest) := by
  cases o with
  | none => rw [s.vn h]; exact .ret0
  | some x => exact .ret (s.ve S h)
theorem asg_c {r : RE} (s : Snd cx d (ck r) (ev (CallT cx d) r)) (S : ScOk sc) {i : Nat} {st : Stmt} {t x : Expr} {k : SL} (hk : k.2 = true → SW cx d sc fk k.1)
    (h : (bif isComp x then ag st (asN t) ((ck r).c sc x) (nmJ sc i (xv t).s) k else ag st (asN t) ((ck r).e sc x) (!isComp ((ck r).e sc x).1 && nmJ sc i (xv t).s) k).2 = true) :
    SW cx d sc (fun os σ K => (ev (CallT cx d) r).e os σ fun u σ1 => plQ (fun u => fk (os.set i u) σ1 K) u) (bif isComp x then ag st (asN t) ((ck r).c sc x) (nmJ sc i (xv t).s) k else ag st (asN t) ((ck r).e sc x) (!isComp ((ck r).e sc x).1 && nmJ sc i (xv t).s) k).1 := by
  cases e : isComp x with
  | true => rw [e] at h; exact (s.vc S (an1 (an2 h))).go (.frz S (an1 h)) (hk (an2 (an2 h))) fun h => h
  | false => rw [e] at h; exact .asg S (nt (an1 (an1 h))) (s.ve S (an1 (an2 h))) (an2 (an1 h)) (hk (an2 (an2 h)))
theorem soundS (CF : ClsF cx) (N : Nms cx) (S : ScOk sc) : ∀ (r : RS) {ss}, (ckS r sc ss).2 = true → SW cx d sc (wS (CallT cx d) (CallI cx d) r) (ckS r sc ss).1
  | .skip, _, _ => .skip
  | .ret e, _, h => ret_t (sound CF N e) S h
  | .cont, _, _ => .cont
  | .asg i e k, _, h => asg_c (sound CF N e) S (soundS CF N S k) h
  | .asgT l e k, _, h => asg_t S (nt (an1 (an1 h))) (an2 (an1 h)) ((sound CF N e).ve S (an1 (an2 h))) (soundS CF N S k (an2 (an2 h)))
  | .seta o n e k, _, h => .seta CF (nt (an1 h)) ((sound CF N e).ve S (an1 (an2 h))) ((sound CF N o).ve S (an1 (an2 (an2 h)))) (soundS CF N S k (an2 (an2 (an2 h))))
  | .seti o i e k, _, h => .seti (nt (an2 (an1 h))) ((sound CF N e).ve S (an1 (an2 h))) ((sound CF N o).ve S (an1 (an2 (an2 h)))) ((sound CF N i).ve S (an1 (an2 (an2 (an2 h))))) (soundS CF N S k (an2 (an2 (an2 (an2 h))))) (an1 (an1 h))
  | .setc o lo hi e k, _, h => .setc ((sound CF N e).ve S (an1 h)) ((sound CF N o).ve S (an1 (an2 h))) (ckO.go (sound CF N lo) S (an1 (an2 (an2 h)))) (ckO.go (sound CF N hi) S (an1 (an2 (an2 (an2 h))))) (soundS CF N S k (an2 (an2 (an2 (an2 h)))))
  | .ite t b o k, _, h => .ite ((sound CF N t).vt S (an1 h)) (soundS CF N S b (an1 (an2 h))) (soundS CF N S o (an1 (an2 (an2 h)))) (soundS CF N S k (an2 (an2 (an2 h))))
  | .ex e k, _, h => .ex (nt (an1 h)) ((sound CF N e).ve S (an1 (an2 h))) S.kind (soundS CF N S k (an2 (an2 h)))
  | .wh t b k, _, h => .wh ((sound CF N t).vt S (an1 h)) (soundS CF N S b (an1 (an2 h))) (soundS CF N S k (an2 (an2 h)))
  | .for pt e b k, _, h => .for S (an1 (an1 h)) ((sound CF N e).ve S (an1 (an2 h))) (an2 (an1 h)) (soundS CF N S b (an1 (an2 (an2 h)))) (soundS CF N S k (an2 (an2 (an2 h))))
  | .newL i es k, _, h => .own S rfl (.lst ((sound CF N es).va S (an1 (an2 h)))) (an1 h) (soundS CF N S k (an2 (an2 h)))
  | .newD i k, _, h => .newD S (an1 h) (soundS CF N S k (an2 (an2 h)))
  | .newS i k, _, h => .newS S (an1 h) (soundS CF N S k (an2 (an2 h)))
  | .newC i e k, _, h => ((sound CF N e).vc S (an1 (an2 h))).go (.own S (an1 h)) (soundS CF N S k (an2 (an2 h))) fun h => h
  | .newI i c es k, _, h => (Option.isSome_iff_exists.mp (an2 (an1 (an1 h)))).elim fun _ hc => .newI S CF hc (fnB.go S N (an2 (an1 h))) ((sound CF N es).va S (an1 (an2 h))) (an1 (an1 (an1 h))) (soundS CF N S k (an2 (an2 h)))
  | .newH i e k, _, h => .newH S (gloB.go S (an2 (an1 (an1 h))) (N.bi .dict)) ((sound CF N e).ve S (an1 (an2 h))) (an2 (an1 h)) (an1 (an1 (an1 h))) (soundS CF N S k (an2 (an2 (an2 h))))
  | .app i e k, _, h => .app S ((sound CF N e).ve S (an1 (an2 h))) (an2 (an2 (an1 h))) (an1 (an1 h)) S.kind (an1 (an2 (an1 h))) (soundS CF N S k (an2 (an2 h)))
  | .ext i e k, _, h => .ext S ((sound CF N e).ve S (an1 (an2 h))) (an2 (an2 (an1 h))) (an1 (an1 h)) S.kind (an1 (an2 (an1 h))) (soundS CF N S k (an2 (an2 h)))
  | .put i a b k, _, h => .put S (nt (an2 (an1 h))) ((sound CF N b).ve S (an1 (an2 h))) ((sound CF N a).ve S (an1 (an2 (an2 h)))) (an1 (an1 h)) (soundS CF N S k (an2 (an2 (an2 h))))
  | .putS i a k, _, h => .putS S ((sound CF N a).ve S (an1 (an2 (an2 h)))) (an1 h) (soundS CF N S k (an2 (an2 (an2 h))))
  | .seto i n e k, _, h => (nmI.go (an2 (an1 h))).elim fun _ e1 => .seto CF S (nt (an1 (an1 h))) ((sound CF N e).ve S (an1 (an2 h))) e1 (soundS CF N S k (an2 (an2 h)))
  | .frz i k, _, h => (Option.isSome_iff_exists.mp (an1 h)).elim fun _ e => .frz S e (soundS CF N S k (an2 h))
  | .adr i k, _, h => (Option.isSome_iff_exists.mp (an1 h)).elim fun _ e => .adr S e (soundS CF N S k (an2 h))
noncomputable def ckI : RS → Scope → List Stmt → SL
  | .skip, _, _ => ([], true)
  | .seto i n e k, sc, ss => ag (hs ss) (.Attribute (asN (xv (sv (hs ss)).t).a) (aN n) (sv (hs ss)).t.pos) ((ck e).e sc (sv (hs ss)).x) ((Nat.beq i 0 && !isComp ((ck e).e sc (sv (hs ss)).x).1) && nmI sc 0 (xv (xv (sv (hs ss)).t).a).s) (ckI k sc ss.tail)
  | _, _, ss => (ss, false)
theorem soundI (CF : ClsF cx) (N : Nms cx) (S : ScOk sc) (r : RS) : ∀ {ss}, (ckI r sc ss).2 = true → SI cx d sc (wS (CallT cx d) (CallI cx d) r) (ckI r sc ss).1 := by
  induction r with
  | skip => exact fun _ => .nil
  | seto i n e k ih =>
    intro ss h
    cases Nat.eq_of_beq_eq_true (an1 (an1 (an1 h)))
    exact (nmI.go (an2 (an1 h))).elim fun _ e1 => .seto CF S (nt (an2 (an1 (an1 h)))) ((sound CF N e).ve S (an1 (an2 h))) e1 (ih (an2 (an2 h)))
  | _ => exact fun h => fot h
end
end

end
section
noncomputable section

noncomputable def argN (a : Arguments) : List Str := a.args.map (·.arg)

noncomputable def tk : Nat → List Value → List Value
  | 0, _ => []
  | n + 1, l => l.headD .none :: tk n l.tail
theorem tk_eq {n : Nat} {ws : List Value} (h : ws.length = n) : tk n ws = ws := by
  subst h
  induction ws with
  | nil => rfl
  | cons w ws ih => exact congrArg (w :: ·) ih
noncomputable def chk (i : Bool) (b : RS) (sc : Scope) (ss : List Stmt) : SL := bif i then ckI b sc ss else ckS b sc ss
noncomputable def okA (p : Nat × Nat × Bool × RS) : SL × Bool := (chk p.2.2.1 p.2.2.2 (stS (stm p.1)) (stB (stm p.1)), Nat.beq (stA (stm p.1)).args.length p.2.1 && fnScB (stS (stm p.1)) (argN (stA (stm p.1))))
noncomputable def okB (p : Nat × Nat × Bool × RS) : SL × Bool := ((stB (stm p.1), true), true)
noncomputable def cod2 : List (Nat × Nat × Bool × RS) := [(8000, 6, true, b8000), (19000, 7, true, b19000), (54000, 3, true, b54000), (68000, 6, true, b68000)]
theorem okAll : (cod ++ cod2).map okA = (cod ++ cod2).map okB := by kernel_rfl
theorem okAt : ∀ p ∈ cod ++ cod2, okA p = okB p := List.map_inj_left.mp okAll
inductive FnI (cx : Cx) (k : Nat) : Prop
  | mk (f : Addr) (e : cx.fv k = .ref f) (o : FnO cx f (stA (stm k)) (stB (stm k)) (stS (stm k)) .none) : FnI cx k
inductive DfI (cx : Cx) (k : Nat) (ws : Array Value) : Prop
  | mk (f T : Addr) (o : Obj) (n : Nat) (e : cx.fv k = .ref f) (F : FnO cx f (stA (stm k)) (stB (stm k)) (stS (stm k)) (.ref T)) (h : cx.h0.get? T = some o) (d : o.data = .seq ws n) : DfI cx k ws
structure Facts (cx : Cx) : Prop where
  cf : ClsF cx
  nm : Nms cx
  fn : ∀ k p, lkN k cod = some p → FnI cx k
  d8 : DfI cx 8000 #[.none, .none]
  d19 : ∃ t, DfI cx 19000 #[.int 0 t]
  d54 : DfI cx 54000 #[.bool false]
  d68 : DfI cx 68000 #[.none, .none]
theorem lkN.mem2 {α : Type} {c : Nat} {x : α} : ∀ {l : List (Nat × α)}, lkN c l = some x → (c, x) ∈ l
  | [], h => nos h
  | (k, y) :: l, h => by
    have h : (bif Nat.beq k c then some y else lkN c l) = some x := h
    cases e : Nat.beq k c with
    | true => rw [e] at h; cases h; cases Nat.eq_of_beq_eq_true e; exact .head _
    | false => rw [e] at h; exact .tail _ (lkN.mem2 h)
theorem lkN.all {α : Type} {f : Nat × α → Bool} {c : Nat} {x : α} {l : List (Nat × α)} (a : l.all f = true) (h : lkN c l = some x) : f (c, x) = true := List.all_eq_true.mp a _ (lkN.mem2 h)
section
variable {cx : Cx} {d k n c : Nat} {i : Bool} {b : RS} {us dus : List U} {ds : List Value} {σ : St} {Q : U → St → Prop} {R : List U → St → Prop} {a : Arguments} {body : List Stmt} {sc : Scope} {dv : Value} {nf : List Nat}
theorem bndAll (name qual : Str) (kV doc pm : Value) (an : Option Addr) (cdv ct : Value) (l : List Value) : (cod.map fun p => bindArgs (fnOf name qual (stA (stm p.1)) (stB (stm p.1)) (stS (stm p.1)) .none kV doc pm an cdv ct) ⟨tk p.2.1 l, []⟩) = cod.map fun p => pure ((argN (stA (stm p.1))).zip (tk p.2.1 l)) := by kernel_rfl
theorem bndAt (name qual : Str) (kV doc pm : Value) (an : Option Addr) (cdv ct : Value) (l : List Value) : ∀ p ∈ cod, bindArgs (fnOf name qual (stA (stm p.1)) (stB (stm p.1)) (stS (stm p.1)) .none kV doc pm an cdv ct) ⟨tk p.2.1 l, []⟩ = pure ((argN (stA (stm p.1))).zip (tk p.2.1 l)) := List.map_inj_left.mp (bndAll name qual kV doc pm an cdv ct l)
structure OkF (k n : Nat) (i : Bool) (b : RS) : Prop where
  l : (argN (stA (stm k))).length = n
  s : fnScB (stS (stm k)) (argN (stA (stm k))) = true
  c : chk i b (stS (stm k)) (stB (stm k)) = (stB (stm k), true)
theorem okF (h : (k, n, i, b) ∈ cod ++ cod2) : OkF k n i b := by
  have e := Prod.mk.inj (okAt _ h)
  exact ⟨(List.length_map ..).trans (Nat.eq_of_beq_eq_true (an1 e.2)), an2 e.2, e.1⟩
theorem okM (e : lkN k cod = some (n, i, b)) : OkF k n i b := okF (List.mem_append_left _ (lkN.mem2 e))
theorem chk_s {sc : Scope} {ss : List Stmt} (CF : ClsF cx) (N : Nms cx) (S : ScOk sc) (h : chk false b sc ss = (ss, true)) : SW cx d sc (wS (CallT cx d) (CallI cx d) b) ss := by
  have q := soundS (d := d) CF N S b (ss := ss) (congrArg Prod.snd h)
  rw [show (ckS b sc ss).1 = ss from congrArg Prod.fst h] at q
  exact q
theorem chk_i {sc : Scope} {ss : List Stmt} (CF : ClsF cx) (N : Nms cx) (S : ScOk sc) (h : chk true b sc ss = (ss, true)) : SI cx d sc (wS (CallT cx d) (CallI cx d) b) ss := by
  have q := soundI (d := d) CF N S b (ss := ss) (congrArg Prod.snd h)
  rw [show (ckI b sc ss).1 = ss from congrArg Prod.fst h] at q
  exact q
theorem scF {ns : List Str} (h : fnScB sc ns = true) : ScOk sc := scOk.go (an (an (an (an h).1).1).1).1
theorem ndF {ns : List Str} (h : fnScB sc ns = true) : ns.Nodup := parB.nd (an (an h).1).2 (scF h).nd
theorem bnd_of {l : Nat} (e : lkN k cod = some (n, i, b)) (hl : (argN (stA (stm k))).length = n) (hn : n = l) : Bnd cx (stA (stm k)) (stB (stm k)) (stS (stm k)) .none (argN (stA (stm k))) l [] [] :=
  ⟨fun W => rfl, fun W name qual kV doc pm an cdv ct ws h => .of_eq (by
    have q := bndAt name qual kV doc pm an cdv ct ws (k, n, i, b) (lkN.mem2 e)
    have q : bindArgs (fnOf name qual (stA (stm k)) (stB (stm k)) (stS (stm k)) .none kV doc pm an cdv ct) ⟨tk n ws, []⟩ = pure ((argN (stA (stm k))).zip (tk n ws)) := q
    rw [tk_eq (h.trans hn.symm)] at q
    rw [List.append_nil]; exact q), hl.trans hn⟩
theorem fcall (m : Nat) (F : Facts cx) (e : lkN k cod = some (us.length, false, b)) (h : wS (CallT cx d) (CallI cx d) b (us ++ List.replicate m .un) σ (rQ Q)) : CallT cx (d + 1) k us σ Q := by
  obtain ⟨f, e1, o⟩ := F.fn k _ e
  have O := okM e
  have h1 := O.l
  have h2 := O.s
  exact .fn (n := m) e1 o h2 (chk_s F.cf F.nm (scF h2) O.c) (bnd_of e h1 rfl) (by rw [List.append_nil]; exact h)
noncomputable def iQ (c : Nat) (R : List U → St → Prop) : KR := ⟨fun os σ => oiQ (fun c' fs => c' = c ∧ R fs σ) (os.getD 0 .un), fun _ _ => False, fun _ _ => False⟩
theorem first {x : Str} {ns : List Str} (h : fnScB sc (x :: ns) = true) : ∃ q, sc.names[0]? = some q := by
  obtain ⟨k, e, _⟩ := parB.get (i := 0) (an (an h).1).2 rfl
  exact ⟨_, e⟩
theorem ne_first {ns : List Str} (h : fnScB sc ns = true) (hl : ns.length = us.length + 1) : ∃ q, sc.names[0]? = some q := by
  cases ns with
  | nil => exact absurd hl (Nat.succ_ne_zero _).symm
  | cons x ns => exact first h
theorem icall (F : Facts cx) (hc : lkN c cF = some nf) (hk : 1000 * c = k) (e : lkN k cod = some (us.length + 1, true, b)) (h : wS (CallT cx d) (CallI cx d) b (.oi c [] :: us) σ (iQ c R)) : CallI cx (d + 2) c us σ R := by
  subst hk
  obtain ⟨f, e1, o⟩ := F.fn (1000 * c) _ e
  have O := okM e
  have h1 := O.l
  have h2 := O.s
  have B := bnd_of (cx := cx) e h1 rfl
  obtain ⟨q, h0⟩ := ne_first (us := us) h2 B.len
  exact .init (n := 0) F.cf hc e1 o h2 h0 (chk_i F.cf F.nm (scF h2) O.c) B (by show wS _ _ b (.oi c [] :: us ++ [] ++ []) σ _; rw [List.append_nil, List.append_nil]; exact h)
theorem icallE (F : Facts cx) (fs : List U) (hc : lkN c cF = some nf) (hk : 1000 * c = k) (e : lkN k cod = some (us.length + 1, true, b)) (h : wS (CallT cx d) (CallI cx d) b (.oi c [] :: us) σ (iQ c R) = (c = c ∧ R fs σ)) (r : R fs σ) : CallI cx (d + 2) c us σ R := icall F hc hk e (h ▸ ⟨rfl, r⟩)
noncomputable def kB (fd : FuncData) (ws : List Value) : { k : Option (Array Value) → Sem (List (Str × Value)) // bindArgs fd ⟨ws, []⟩ = seqItems? fd.defaults >>= k } := ⟨_, rfl⟩
theorem idef {m : Nat} {wd : Array Value} (F : Facts cx) (hc : lkN c cF = some nf) (D : DfI cx (1000 * c) wd) (ok : (1000 * c, n, true, b) ∈ cod2) (pr : ∀ W : Wd cx, W.prs dus ds) (hm : us.length + 1 = m) (hn : m + dus.length = n)
    (hb : ∀ T name qual kV doc pm an cdv ct (ws : List Value), (kB (fnOf name qual (stA (stm (1000 * c))) (stB (stm (1000 * c))) (stS (stm (1000 * c))) (.ref T) kV doc pm an cdv ct) (tk m ws)).1 (some wd) = pure ((argN (stA (stm (1000 * c)))).zip (tk m ws ++ ds)))
    (h : wS (CallT cx d) (CallI cx d) b (.oi c [] :: us ++ dus) σ (iQ c R)) : CallI cx (d + 2) c us σ R := by
  obtain ⟨f, T, o, m', e1, Fo, hT, hd⟩ := D
  have O := okF (List.mem_append_right _ ok)
  have h1 := O.l
  have h2 := O.s
  obtain ⟨q, h0⟩ := ne_first (us := us ++ dus) h2 (by rw [h1, ← hn, ← hm, List.length_append, Nat.add_right_comm])
  refine .init (n := 0) F.cf hc e1 Fo h2 h0 (chk_i F.cf F.nm (scF h2) O.c) ⟨pr, fun W name qual kV doc pm an cdv ct ws hl => ?_, h1.trans (hn.symm.trans (congrArg (· + _) hm.symm))⟩ (by show wS _ _ b (.oi c [] :: us ++ dus ++ []) σ _; rw [List.append_nil]; exact h)
  have e := tk_eq (hl.trans hm)
  exact .of_defaults (T := T) rfl (W.R.base _ _ hT) hd (kB _ ws).2 (e ▸ hb T name qual kV doc pm an cdv ct ws)
section
variable {u1 u2 u3 u4 u5 u6 : U}
theorem i8 (F : Facts cx) (h : wS (CallT cx d) (CallI cx d) b8000 ([.oi 8 [], u1, u2, u3, u4, u5]) σ (iQ 8 R)) : CallI cx (d + 2) 8 [u1, u2, u3, u4, u5] σ R :=
  idef (ds := []) (dus := []) F rfl F.d8 (.head _) (fun W => rfl) rfl rfl (fun T name qual kV doc pm an cdv ct ws => by kernel_rfl) h
theorem i19 (F : Facts cx) (h : wS (CallT cx d) (CallI cx d) b19000 ([.oi 19 [], u1, u2, u3, u4, u5, .i 0]) σ (iQ 19 R)) : CallI cx (d + 2) 19 [u1, u2, u3, u4, u5] σ R := by
  obtain ⟨t, D⟩ := F.d19
  exact idef (ds := [.int 0 t]) (dus := [.i 0]) F rfl D (.tail _ (.head _)) (fun W => .mk _ _ (show IntR _ _ from .mk t) rfl) rfl rfl (fun T name qual kV doc pm an cdv ct ws => by kernel_rfl) h
theorem i19' (F : Facts cx) (h : wS (CallT cx d) (CallI cx d) b19000 ([.oi 19 [], u1, u2, u3, u4, u5, u6]) σ (iQ 19 R)) : CallI cx (d + 2) 19 [u1, u2, u3, u4, u5, u6] σ R := by
  obtain ⟨t, D⟩ := F.d19
  exact idef (ds := []) (dus := []) F rfl D (.tail _ (.head _)) (fun W => rfl) rfl rfl (fun T name qual kV doc pm an cdv ct ws => by kernel_rfl) h
theorem i54 (F : Facts cx) (h : wS (CallT cx d) (CallI cx d) b54000 ([.oi 54 [], u1, .b false]) σ (iQ 54 R)) : CallI cx (d + 2) 54 [u1] σ R :=
  idef (ds := [.bool false]) (dus := [.b false]) F rfl F.d54 (.tail _ (.tail _ (.head _))) (fun W => .mk _ _ (show Value.bool false = _ from rfl) rfl) rfl rfl (fun T name qual kV doc pm an cdv ct ws => by kernel_rfl) h
theorem i68 (F : Facts cx) (h : wS (CallT cx d) (CallI cx d) b68000 ([.oi 68 [], u1, u2, u3, .no, .no]) σ (iQ 68 R)) : CallI cx (d + 2) 68 [u1, u2, u3] σ R :=
  idef (ds := [.none, .none]) (dus := [.no, .no]) F rfl F.d68 (.tail _ (.tail _ (.tail _ (.head _)))) (fun W => .mk _ _ (show Value.none = _ from rfl) (.mk _ _ (show Value.none = _ from rfl) rfl)) rfl rfl (fun T name qual kV doc pm an cdv ct ws => by kernel_rfl) h
end
end
end

end
section
section
variable {cx : Cx} {d : Nat} {σ : St} {Q : U → St → Prop} {R : List U → St → Prop}
noncomputable def bs (l : List Int) (x : Int) : Nat → Nat → Nat → Nat
  | 0, lo, _ => lo
  | f + 1, lo, hi => if lo < hi then if l.getD ((lo + hi) / 2) 0 < x then bs l x f ((lo + hi) / 2 + 1) hi else bs l x f lo ((lo + hi) / 2) else lo
noncomputable def hasF (l : List Int) (x : Int) : Bool := let p := bs l x l.length 0 l.length; decide (p < l.length) && decide (l.getD p 0 = x)
noncomputable abbrev covU (l : List Int) : U := .fo 2 [.tu (l.map .i)]
theorem tupI {l : List Int} {a : Int} {n : Nat} {Q : U → Prop} (h : n < l.length) (e : a = n) (q : Q (.i (l.getD n 0))) : nthU (l.map U.i) a Q :=
  ⟨n, .i (l.getD n 0), by rw [List.getElem?_map, List.getElem?_eq_getElem h, List.getD_eq_getElem?_getD, List.getElem?_eq_getElem h]; rfl, .inl e, q⟩
theorem half {a b : Nat} : ((a : Int) + b).fdiv 2 = ((a + b) / 2 : Nat) := by rw [Int.fdiv_eq_ediv_of_nonneg _ (by decide)]; exact rfl
inductive BsI (l : List Int) (x : Int) (σ : St) (n : Nat) : Os → St → Prop
  | mk (lo hi : Nat) (m : U) (h1 : hi ≤ l.length) (h2 : hi ≤ lo + n) (e : bs l x n lo hi = bs l x l.length 0 l.length) : BsI l x σ n [covU l, .i x, .i lo, .i hi, m] σ
theorem bsE {l : List Int} {x : Int} {n lo hi : Nat} (h : hi ≤ lo + n) (n2 : ¬ lo < hi) : bs l x n lo hi = lo := by
  cases n with
  | zero => rfl
  | succ n => exact if_neg n2
theorem c_index (F : Facts cx) {l : List Int} {x : Int} (q : ∀ r : Int, decide (0 ≤ r) = hasF l x → Q (.i r) σ) : CallT cx (d + 1) 2001 [covU l, .i x] σ Q := by
  refine fcall 3 F rfl (WhT.mk (BsI l x σ) (l.map U.i).length (.mk 0 (l.map U.i).length .un (Nat.le_of_eq (List.length_map U.i)) (Nat.le_of_eq (Nat.zero_add _).symm) (by rw [List.length_map])) ?_)
  refine fun n _ _ J => BsI.casesOn J fun lo hi m h1 h2 e => ?_
  refine ifB.d (fun h => ?_) fun h => ?_
  · have h := Int.ofNat_lt.mp h
    cases n with
    | zero => exact absurd h (Nat.not_lt.mpr h2)
    | succ n =>
      have hm : (lo + hi) / 2 < hi := by lia
      have e : (if lo < hi then if l.getD ((lo + hi) / 2) 0 < x then bs l x n ((lo + hi) / 2 + 1) hi else bs l x n lo ((lo + hi) / 2) else lo) = _ := e
      rw [if_pos h] at e
      refine ⟨⟨by decide, PyProof.noPylong_small (by decide)⟩, tupI (Nat.lt_of_lt_of_le hm h1) half (ifB.d (fun h => ?_) fun h => ?_)⟩
      · rw [if_pos h] at e
        exact ⟨n, Nat.lt_succ_self n, half.symm ▸ .mk ((lo + hi) / 2 + 1) hi _ h1 (by lia) e⟩
      · rw [if_neg h] at e
        exact ⟨n, Nat.lt_succ_self n, half.symm ▸ .mk lo ((lo + hi) / 2) _ (by lia) (by lia) e⟩
  · have h : ¬ lo < hi := fun q => h (Int.ofNat_lt.mpr q)
    rw [bsE h2 h] at e
    have hf : hasF l x = (decide (lo < l.length) && decide (l.getD lo 0 = x)) := by unfold hasF; rw [← e]
    refine ifB.d (fun h => ?_) fun h => q (-1) ?_
    · have h : lo < l.length := List.length_map U.i ▸ Int.ofNat_lt.mp h
      refine tupI h rfl (ifB.d (fun h' => q lo ?_) fun h' => q (-1) ?_)
      · rw [hf, decide_eq_true h, decide_eq_true h']; exact decide_eq_true (Int.natCast_nonneg lo)
      · rw [hf, decide_eq_false h', Bool.and_false]; rfl
    · rw [hf, decide_eq_false fun q => h (Int.ofNat_lt.mpr ((List.length_map U.i).symm ▸ q))]; rfl
theorem c_has (F : Facts cx) {l : List Int} {x : Int} (q : Q (.b (hasF l x)) σ) : CallT cx (d + 2) 2002 [covU l, .i x] σ Q :=
  fcall 0 F rfl (c_index F fun r e => ifB.d (fun h => by rw [← e, decide_eq_true h] at q; exact q) fun h => by rw [← e, decide_eq_false h] at q; exact q)
end

end
section
section
variable {cx : Cx} {d : Nat} {σ : St} {Q : U → St → Prop} {R : List U → St → Prop}
theorem dGet_map {α β : Type} {f : α → β} {k : Int} : ∀ {ks : List Int} {l : List α}, dGet k ks (l.map f) = (dGet k ks l).map f
  | [], [] => rfl
  | [], _ :: _ => rfl
  | _ :: _, [] => rfl
  | j :: ks, a :: l => by
    show (if j = k then some (f a) else dGet k ks (l.map f)) = Option.map f (if j = k then some a else dGet k ks l)
    by_cases h : j = k
    · rw [if_pos h, if_pos h]; rfl
    · rw [if_neg h, if_neg h]; exact dGet_map
noncomputable abbrev Cls := List Int × List Int
noncomputable abbrev clsU (c : Cls) : U := .fo 63 [.fd c.1 (c.2.map .i)]
noncomputable def clsOf (c : Cls) (g : Int) : Int := (dGet g c.1 c.2).getD 0
theorem c_class_of (F : Facts cx) {c : Cls} {g : Int} (q : Q (.i (clsOf c g)) σ) : CallT cx (d + 1) 63001 [clsU c, .i g] σ Q :=
  fcall 0 F rfl (show plQ (fun u => Q u σ) ((dGet g c.1 (c.2.map U.i)).getD (.i 0)) by rw [dGet_map, Option.getD_map (f := U.i) (x := 0)]; exact q)
set_option genCtorIdx true in
inductive Tst where
  | glyph (g : Int) | cls (c : Cls) (n : Int) | cover (l : List Int)
noncomputable def Tst.l : Tst → List U
  | .glyph g => [.s 4, .i g]
  | .cls c n => [.s 5, clsU c, .i n]
  | .cover l => [.s 6, covU l]
noncomputable abbrev Tst.u (t : Tst) : U := .tu t.l
noncomputable def Tst.fits (g : Int) : Tst → Bool
  | .glyph h => decide (h = g)
  | .cls c n => decide (clsOf c g = n)
  | .cover l => hasF l g
theorem nth0 {α : Type} {x : α} {l : List α} {Q : α → Prop} (q : Q x) : nthU (x :: l) 0 Q := ⟨0, x, rfl, .inl rfl, q⟩
theorem nth1 {α : Type} {x y : α} {l : List α} {Q : α → Prop} (q : Q y) : nthU (x :: y :: l) 1 Q := ⟨1, y, rfl, .inl rfl, q⟩
theorem nth2 {α : Type} {x y z : α} {l : List α} {Q : α → Prop} (q : Q z) : nthU (x :: y :: z :: l) 2 Q := ⟨2, z, rfl, .inl rfl, q⟩
theorem nth3 {α : Type} {x y z w : α} {l : List α} {Q : α → Prop} (q : Q w) : nthU (x :: y :: z :: w :: l) 3 Q := ⟨3, w, rfl, .inl rfl, q⟩
theorem ifB.v {c : Prop} {i : Decidable c} {Q : Bool → Prop} (q : Q (decide c)) : ifB (decide c) (Q true) (Q false) := by
  by_cases h : c
  · rw [decide_eq_true h] at q ⊢; exact q
  · rw [decide_eq_false h] at q ⊢; exact q
theorem c_fits (F : Facts cx) {g : Int} : ∀ {t : Tst}, Q (.b (t.fits g)) σ → CallT cx (d + 3) 31 [t.u, .i g] σ Q
  | .glyph h, q => fcall 0 F rfl (nth0 (nth1 (ifB.v (Q := fun b => Q (.b b) σ) q)))
  | .cls c n, q => fcall 0 F rfl (nth0 (nth0 (nth1 (c_class_of F (nth2 (ifB.v (Q := fun b => Q (.b b) σ) q))))))
  | .cover l, q => fcall 0 F rfl (nth0 (nth0 (nth1 (c_has F q))))
theorem mapAt {α β : Type} {l : List α} {c : α → β} {n : Nat} {x : β} (h : (l.map c)[n]? = some x) : ∃ a, l[n]? = some a ∧ c a = x := Option.map_eq_some_iff.mp (List.getElem?_map.symm.trans h)
theorem takeS {α : Type} {l : List α} {n : Nat} {a : α} (h : l[n]? = some a) : l.take (n + 1) = l.take n ++ [a] := List.take_succ.trans (by rw [h]; rfl)
theorem CompT.fm {α β : Type} {l : List α} {c : α → U} {c' : β → U} {tr : U → St → (U → St → Prop) → (St → Prop) → Prop} {stay : St → Prop} (g : α → Option β) (hs : stay σ) (h : ∀ a ∈ l, ∀ (Y : U → St → Prop) (N : St → Prop), (∀ b, g a = some b → Y (c' b) σ) → (g a = none → N σ) → tr (c a) σ Y N)
    (q : Q (.fl ((l.filterMap g).map c')) σ) : CompT tr (l.map c) stay Q σ :=
  .mk (fun n ys σ' => σ' = σ ∧ ys = ((l.take n).filterMap g).map c') ⟨rfl, rfl⟩ (fun n x ys σ' hx j => by
    obtain ⟨a, e, rfl⟩ := mapAt hx
    obtain ⟨rfl, rfl⟩ := j
    refine ⟨hs, h a (List.mem_of_getElem? e) _ _ (fun b hb => ⟨rfl, ?_⟩) fun hb => ⟨rfl, ?_⟩⟩ <;> rw [takeS e, List.filterMap_append, List.map_append, List.filterMap_cons, hb]
    · rfl
    · exact (List.append_nil _).symm) fun ys σ' j => by
    obtain ⟨rfl, rfl⟩ := j
    rw [List.length_map, List.take_length]
    exact ⟨hs, q⟩
theorem CompT.m {α β : Type} {l : List α} {c : α → U} {c' : β → U} {tr : U → St → (U → St → Prop) → (St → Prop) → Prop} {stay : St → Prop} (g : α → β) (hs : stay σ) (h : ∀ a ∈ l, ∀ (Y : U → St → Prop) (N : St → Prop), Y (c' (g a)) σ → tr (c a) σ Y N)
    (q : Q (.fl ((l.map g).map c')) σ) : CompT tr (l.map c) stay Q σ :=
  .fm (fun a => some (g a)) hs (fun a ha Y N y _ => h a ha Y N (y _ rfl)) (by rw [show l.filterMap (fun a => some (g a)) = l.map g from congrFun List.filterMap_eq_map l]; exact q)
theorem ForT.m {α : Type} {l : List α} {c : α → U} {b : U → Os → St → (Os → St → Prop) → Prop} {k : Os → St → Prop} {os : Os} {stay : St → Prop} (J : Nat → Os → St → Prop) (h0 : J 0 os σ) (st : ∀ n a os σ, l[n]? = some a → J n os σ → stay σ ∧ b (c a) os σ (J (n + 1))) (fin : ∀ os σ, J l.length os σ → stay σ ∧ k os σ) :
    ForT (l.map c) stay b k os σ := .mk J h0 (fun n x os σ h j => by obtain ⟨a, e, rfl⟩ := mapAt h; exact st n a os σ e j) (by rw [List.length_map]; exact fin)
end

end
section
section
variable {cx : Cx} {d : Nat} {σ : St} {Q : U → St → Prop} {R : List U → St → Prop}
set_option genCtorIdx true in
inductive Row where
  | is (l : List Int) | cs (l : List (List Int))
noncomputable def Row.l : Row → List U
  | .is l => l.map .i
  | .cs l => l.map covU
noncomputable abbrev Row.u (r : Row) : U := .tu r.l
noncomputable def Row.tests (form : Nat) (c : Cls) : Row → List Tst
  | .is l => bif Nat.beq form 1 then l.map .glyph else l.map (.cls c)
  | .cs l => l.map .cover
noncomputable def Row.ok (form : Nat) : Row → Prop
  | .is _ => form = 1 ∨ form = 2
  | .cs _ => form = 3
noncomputable def actU (p : Nat × Nat) : U := .tu [.i p.1, .i p.2]
structure RuleD where
  back : Row
  inside : Row
  ahead : Row
  actions : List (Nat × Nat)
noncomputable abbrev RuleD.u (r : RuleD) : U := .fo 7 [r.back.u, r.inside.u, r.ahead.u, .tu (r.actions.map actU)]
structure CtxD where
  form : Nat
  chained : Bool
  ks : List Int
  sets : List (List RuleD)
  cov : List Int
  c0 : Cls
  c1 : Cls
  c2 : Cls
noncomputable abbrev rulesU (rs : List RuleD) : U := .fl (rs.map RuleD.u)
noncomputable abbrev CtxD.u (t : CtxD) : U := .fo 8 [.i t.form, .b t.chained, .fd t.ks (t.sets.map rulesU), covU t.cov, .tu [clsU t.c0, clsU t.c1, clsU t.c2]]
structure TestsD where
  back : List Tst
  inside : List Tst
  ahead : List Tst
  acts : List (Nat × Nat)
noncomputable abbrev tstsU (l : List Tst) : U := .fl (l.map Tst.u)
noncomputable abbrev TestsD.u (t : TestsD) : U := .tu [tstsU t.back, tstsU t.inside, tstsU t.ahead, .tu (t.acts.map actU)]
noncomputable abbrev RuleD.ok (form : Nat) (r : RuleD) : Prop := r.back.ok form ∧ r.inside.ok form ∧ r.ahead.ok form
noncomputable def CtxD.tests (t : CtxD) (r : RuleD) : TestsD := ⟨r.back.tests t.form t.c0, r.inside.tests t.form t.c1, r.ahead.tests t.form t.c2, r.actions⟩
noncomputable def wordOf : Nat → Nat
  | 1 => 4 | 2 => 5 | _ => 6
theorem c_tests_of (F : Facts cx) {c : Cls} {w : U} {form : Nat} (hw : form = 2 → w = clsU c) : ∀ {r : Row}, r.ok form → Q (tstsU (r.tests form c)) σ → CallT cx (d + 1) 10 [r.u, .s (wordOf form), w] σ Q
  | .is l, .inl h, q => by subst h; exact fcall 0 F rfl (CompT.m (c' := Tst.u) Tst.glyph trivial (fun _ _ _ _ y => y) q)
  | .is l, .inr h, q => by subst h; cases hw rfl; exact fcall 0 F rfl (CompT.m (c' := Tst.u) (Tst.cls c) trivial (fun _ _ _ _ y => y) q)
  | .cs l, h, q => by cases h; exact fcall 0 F rfl (CompT.m (c' := Tst.u) Tst.cover trivial (fun _ _ _ _ y => y) q)
theorem c_rule_tests (F : Facts cx) {t : CtxD} {r : RuleD} (hf : t.form = 1 ∨ t.form = 2 ∨ t.form = 3) (ok : r.ok t.form) (q : Q (t.tests r).u σ) : CallT cx (d + 2) 11 [t.u, r.u] σ Q := by
  refine fcall 4 F rfl ?_
  obtain ⟨fm, ch, ks, sets, cov, c0, c1, c2⟩ := t
  rcases hf with e | e | e <;> cases e
  · exact nth1 (c_tests_of (form := 1) F nofun ok.1 (c_tests_of (form := 1) F nofun ok.2.1 (c_tests_of (form := 1) F nofun ok.2.2 q)))
  · exact nth2 (c_tests_of (form := 2) F (fun _ => rfl) ok.1 (c_tests_of (form := 2) F (fun _ => rfl) ok.2.1 (c_tests_of (form := 2) F (fun _ => rfl) ok.2.2 q)))
  · exact nth3 (c_tests_of (form := 3) F nofun ok.1 (c_tests_of (form := 3) F nofun ok.2.1 (c_tests_of (form := 3) F nofun ok.2.2 q)))
end

end
section
section
variable {cx : Cx} {d : Nat} {σ : St} {Q : U → St → Prop} {R : List U → St → Prop}
noncomputable abbrev gdefU : U := .fo 68 [clsU ([], []), clsU ([], []), .fl [], .fd [] [], .fd [] []]
noncomputable abbrev lkU (kind : Nat) (ts : List U) : U := .fo 18 [.s kind, .i 0, .i (-1), .fl ts]
noncomputable abbrev scn (st : Nat) (ls : List U) (kd : Nat) (ts : List U) (dp : Nat) : U := .fo 19 [.lo .buf, gdefU, .fl ls, lkU kd ts, .i 3, .i dp, .lo (.stp st)]
variable {st kd dp : Nat} {ls ts : List U}
theorem c_glyph_class (F : Facts cx) {g : Int} (q : Q (.i 0) σ) : CallT cx (d + 2) 68001 [gdefU, .i g] σ Q := fcall 1 F rfl (c_class_of F q)
theorem c_class_bit (F : Facts cx) (q : Q (.i 0) σ) : CallT cx (d + 1) 21 [.i 0] σ Q := fcall 0 F rfl q
theorem c_is_ignored (F : Facts cx) {g : Int} (q : Q (.b false) σ) : CallT cx (d + 3) 22 [gdefU, lkU kd ts, .i g] σ Q := fcall 2 F rfl (c_glyph_class F (c_class_bit F q))
theorem rowI {l : List Nat} {n j : Nat} {a : Int} {P : U → Prop} (h : l[n]? = some j) (e : a = n) (q : P (.lo (.inf j))) : nthU (infU l) a P := ⟨n, .lo (.inf j), by unfold infU; rw [List.getElem?_map, h]; rfl, .inl e, q⟩
theorem c_passes (F : Facts cx) {n j : Nat} {a : Int} (h : σ.row[n]? = some j) (e : a = n) (q : Q (.b false) σ) : CallT cx (d + 4) 23 [scn st ls kd ts dp, .i a] σ Q := fcall 0 F rfl (rowI h e (c_is_ignored F q))
noncomputable abbrev Mk (σ : St) : Prop := ∀ j ∈ σ.row, (σ.inf j).m = 1 ∨ (σ.inf j).m = 2 ∨ (σ.inf j).m = 3
theorem and3 {m : Int} (h : m = 1 ∨ m = 2 ∨ m = 3) : Builtin.bitAnd m 3 ≠ 0 := by rcases h with rfl | rfl | rfl <;> decide
theorem c_takes (F : Facts cx) {n j : Nat} (h : σ.row[n]? = some j) (hm : Mk σ) (q : Q (.b true) σ) : CallT cx (d + 5) 24 [scn st ls kd ts dp, .i n] σ Q :=
  fcall 0 F rfl (rowI h rfl (ifB.d (fun e => absurd e (and3 (hm j (List.mem_of_getElem? h)))) fun _ => c_passes F h rfl q))
theorem c_is_borne (F : Facts cx) {j : Nat} (hm : (σ.inf j).m = 1 ∨ (σ.inf j).m = 2 ∨ (σ.inf j).m = 3) (q : Q (.b true) σ) : CallT cx (d + 1) 32 [scn st ls kd ts dp, .lo (.inf j)] σ Q :=
  fcall 0 F rfl (ifB.d (fun e => absurd e (and3 hm)) fun _ => q)
noncomputable def knd (b : Bool) : List U := bif b then [.s 1, .s 2] else [.s 1, .s 3, .s 2]
structure FndI (σ : St) (k : Int) (t : Tst) (n : Nat) : Prop where
  e : (n : Int) = k
  h : ∃ j, σ.row[n]? = some j ∧ t.fits (σ.inf j).g = true
theorem c_found_at (F : Facts cx) {k : Int} {step : Int} {t : Tst} {inp : Bool} (hm : Mk σ) (q0 : Q (.i (-1)) σ) (q : ∀ n : Nat, FndI σ (k + step) t n → Q (.i n) σ) :
    CallT cx (d + 5) 33 [scn st ls kd ts dp, .i k, .i step, t.u, .tu (knd inp), .b inp] σ Q := by
  refine fcall 2 F rfl (WhT.mk (fun n os σ' => os = [scn st ls kd ts dp, .i k, .i step, t.u, .tu (knd inp), .b inp, .i (k + step), .un] ∧ σ' = σ) 0 ⟨rfl, rfl⟩ ?_)
  rintro n os σ' ⟨rfl, rfl⟩
  refine ifB.d (fun h0 => ifB.d (fun h1 => ?_) fun _ => q0) fun _ => q0
  obtain ⟨j, hj⟩ : ∃ j : Nat, k + step = j := ⟨(k + step).toNat, (Int.toNat_of_nonneg h0).symm⟩
  have hjl : j < σ'.row.length := Int.ofNat_lt.mp (hj ▸ h1)
  have hr : σ'.row[j]? = some σ'.row[j] := List.getElem?_eq_getElem hjl
  refine c_passes F hr hj (rowI hr hj (c_fits F (ifB.mk (fun hf => ?_) fun hf => ?_)))
  · exact c_is_borne F (hm _ (List.getElem_mem hjl)) (hj.symm ▸ q j ⟨hj.symm, _, hr, hf⟩)
  · cases inp <;> exact q0
end

end
section
section
variable {cx : Cx} {d : Nat} {σ : St} {Q : U → St → Prop} {R : List U → St → Prop}
theorem isort1 {a : Int} : isort [a] = [a] := by unfold isort; exact List.mergeSort_singleton a
inductive LayI {α : Type} (l : List α) (c : α → U) (σ : St) (f : U → U → Os) (n : Nat) : Os → St → Prop
  | mk (y : U) : LayI l c σ f n (f (.ol ((l.take n).map c)) y) σ
theorem LayI.next {α : Type} {l : List α} {c : α → U} {f : U → U → Os} {n : Nat} {a : α} (y : U) (h : l[n]? = some a) : LayI l c σ f (n + 1) (f (.ol ((l.take n).map c ++ [c a])) y) σ := by
  have := LayI.mk (l := l) (c := c) (σ := σ) (f := f) (n := n + 1) y
  rw [takeS h, List.map_append] at this
  exact this
theorem lt_mx {α : Type} {l : List α} {c : α → U} {n : Nat} (h : l.length ≤ 1000) : ((l.take n).map c).length < mxL := by
  rw [List.length_map]
  exact Nat.lt_of_le_of_lt (Nat.le_trans (List.length_take_le' n l) h) (by decide)
theorem c_rules (F : Facts cx) {t : CtxD} {rs : List RuleD} (hk : t.ks = [0]) (hs : t.sets = [rs]) (hl : rs.length ≤ 1000) (q : Q (rulesU rs) σ) : CallT cx (d + 1) 8003 [t.u] σ Q := by
  obtain ⟨fm, ch, ks, sets, cov, c0, c1, c2⟩ := t
  cases hk; cases hs
  let T : U := CtxD.u ⟨fm, ch, [0], [rs], cov, c0, c1, c2⟩
  refine fcall 3 F rfl ⟨(show ([0] : List Int).length < 64 by decide), ?_⟩
  rw [isort1]
  refine .mk (fun n os σ' => match n with | 0 => os = [T, .ol [], .un, .un] ∧ σ' = σ | _ => LayI rs RuleD.u σ (fun l y => [T, l, .i 0, y]) rs.length os σ') ⟨rfl, rfl⟩ (fun n x os σ' hx j => ⟨rfl, ?_⟩) (fun os σ' j => ⟨rfl, ?_⟩)
  · cases n with
    | succ n => exact nomatch hx
    | zero =>
      cases hx
      obtain ⟨rfl, rfl⟩ := j
      refine ⟨rulesU rs, rfl, ForT.m (LayI rs RuleD.u σ' (fun l y => [T, l, .i 0, y])) (.mk .un) (fun n a os σ hx j => ⟨rfl, ?_⟩) fun os σ j => ⟨rfl, j⟩⟩
      refine LayI.casesOn j fun _ => ?_
      exact ⟨lt_mx hl, .next _ hx⟩
  · refine LayI.casesOn (show LayI rs RuleD.u σ (fun l y => [T, l, .i 0, y]) rs.length os σ' from j) fun _ => ?_
    show Q (.fl ((rs.take rs.length).map RuleD.u)) σ
    rw [List.take_length]; exact q
noncomputable def Row.hd : Row → List Int
  | .cs (c :: _) => c
  | _ => []
noncomputable def CtxD.rulesAt (t : CtxD) (g : Int) : List RuleD := match t.form with
  | 1 => (dGet g t.ks t.sets).getD []
  | 2 => bif hasF t.cov g then (dGet (clsOf t.c1 g) t.ks t.sets).getD [] else []
  | _ => (t.sets.headD []).filter fun r => hasF r.inside.hd g
structure CtxD.ok (t : CtxD) : Prop where
  form : t.form = 1 ∨ t.form = 2 ∨ t.form = 3
  ru : ∀ rs ∈ t.sets, rs.length ≤ 1000 ∧ ∀ r ∈ rs, r.ok t.form ∧ (t.form = 3 → ∃ c l, r.inside = .cs (c :: l))
  f3 : t.form = 3 → t.ks = [0] ∧ ∃ rs, t.sets = [rs]
theorem dGet_mem {α : Type} {k : Int} : ∀ {ks : List Int} {l : List α} {x : α}, dGet k ks l = some x → x ∈ l
  | [], [], _, h => nos h
  | [], _ :: _, _, h => nos h
  | _ :: _, [], _, h => nos h
  | j :: ks, a :: l, x, h => by
    have h : (if j = k then some a else dGet k ks l) = some x := h
    by_cases e : j = k
    · rw [if_pos e] at h; cases h; exact .head _
    · rw [if_neg e] at h; exact .tail _ (dGet_mem h)
theorem dGet_rules {t : CtxD} (ok : t.ok) {k : Int} : ∀ r ∈ (dGet k t.ks t.sets).getD [], r.ok t.form := fun r hr => by
  cases e : dGet k t.ks t.sets with
  | none => rw [e] at hr; exact nomatch hr
  | some rs => rw [e] at hr; exact ((ok.ru rs (dGet_mem e)).2 r hr).1
theorem CtxD.tests_at {t : CtxD} {g : Int} (ok : t.ok) : ∀ r ∈ t.rulesAt g, r.ok t.form := fun r hr => by
  unfold CtxD.rulesAt at hr
  split at hr
  · exact dGet_rules ok r hr
  · cases e : hasF t.cov g with
    | true => rw [e] at hr; exact dGet_rules ok r hr
    | false => rw [e] at hr; exact nomatch hr
  · cases e : t.sets with
    | nil => rw [e] at hr; exact nomatch hr
    | cons rs l => rw [e] at hr; exact ((ok.ru rs (e ▸ .head _)).2 r (List.mem_filter.mp hr).1).1
theorem getRules {ks : List Int} {sets : List (List RuleD)} {k : Int} : (dGet k ks (sets.map rulesU)).getD (.fl []) = rulesU ((dGet k ks sets).getD []) := by
  rw [dGet_map]; cases dGet k ks sets <;> rfl
theorem rules_end (F : Facts cx) {t : CtxD} {rs : List RuleD} {g : Int} (hf : t.form = 1 ∨ t.form = 2 ∨ t.form = 3) (ok : ∀ r ∈ rs, r.ok t.form) (q : Q (.fl ((rs.map t.tests).map TestsD.u)) σ) : wS (CallT cx (d + 2)) (CallI cx (d + 2)) b12_1 [t.u, .i g, rulesU rs, .un] σ (rQ Q) :=
  CompT.m (c' := TestsD.u) t.tests rfl (fun r hr Y N y => c_rule_tests F hf (ok r hr) y) q
theorem c_rules_at (F : Facts cx) {t : CtxD} {g : Int} (ok : t.ok) (q : Q (.fl (((t.rulesAt g).map t.tests).map TestsD.u)) σ) : CallT cx (d + 3) 12 [t.u, .i g] σ Q := by
  have H := CtxD.tests_at ok (g := g)
  obtain ⟨fm, ch, ks, sets, cov, c0, c1, c2⟩ := t
  refine fcall 2 F rfl ?_
  rcases ok.form with e | e | e <;> cases e
  · show plQ (fun u => wS (CallT cx (d + 2)) (CallI cx (d + 2)) b12_1 [CtxD.u ⟨1, ch, ks, sets, cov, c0, c1, c2⟩, .i g, u, .un] σ (rQ Q)) ((dGet g ks (sets.map rulesU)).getD (.fl []))
    rw [getRules]
    exact rules_end F (.inl rfl) H q
  · refine c_has F (ifB.mk (fun h => nth1 (c_class_of F ?_)) fun h => ?_)
    · show plQ (fun u => wS (CallT cx (d + 2)) (CallI cx (d + 2)) b12_1 [CtxD.u ⟨2, ch, ks, sets, cov, c0, c1, c2⟩, .i g, u, .un] σ (rQ Q)) ((dGet (clsOf c1 g) ks (sets.map rulesU)).getD (.fl []))
      rw [getRules]
      have e : CtxD.rulesAt ⟨2, ch, ks, sets, cov, c0, c1, c2⟩ g = (dGet (clsOf c1 g) ks sets).getD [] := by unfold CtxD.rulesAt; rw [h]; rfl
      rw [e] at H q
      exact rules_end F (.inr (.inl rfl)) H q
    · have e : CtxD.rulesAt ⟨2, ch, ks, sets, cov, c0, c1, c2⟩ g = [] := by unfold CtxD.rulesAt; rw [h]; rfl
      rw [e] at H q
      exact rules_end F (rs := []) (.inr (.inl rfl)) H q
  · obtain ⟨hk, rs, hs⟩ := ok.f3 rfl
    have hr := ok.ru rs (by rw [hs]; exact .head _)
    refine c_rules F hk hs hr.1 (CompT.fm (c' := RuleD.u) (Option.guard fun r => hasF r.inside.hd g) rfl (fun r hm Y N y n => ?_) ?_)
    · obtain ⟨_, h2⟩ := hr.2 r hm
      obtain ⟨c, l, e⟩ := h2 rfl
      obtain ⟨b, i, a, acts⟩ := r
      cases e
      refine nth0 (c_has F (ifB.mk (fun h => y _ ?_) fun h => n ?_))
      · exact if_pos h
      · exact if_neg (ne_true_of_eq_false h)
    · have e : CtxD.rulesAt ⟨3, ch, ks, sets, cov, c0, c1, c2⟩ g = rs.filterMap (Option.guard fun r => hasF r.inside.hd g) := by
        rw [show CtxD.rulesAt ⟨3, ch, ks, sets, cov, c0, c1, c2⟩ g = (sets.headD []).filter _ from rfl, show sets = [rs] from hs]
        rw [List.filterMap_eq_filter]; rfl
      rw [e] at H q
      exact rules_end F (.inr (.inr rfl)) H q
end

end
section
section
variable {cx : Cx} {d : Nat} {σ : St} {Q : U → St → Prop} {R : List U → St → Prop}
variable {st kd dp : Nat} {ls tb : List U}
noncomputable def plc (k n : Nat) : List Int := (List.range n).map fun (j : Nat) => ((k + j : Nat) : Int)
theorem plcS {k n : Nat} : plc k (n + 1) = plc k n ++ [((k + n : Nat) : Int)] := by unfold plc; rw [List.range_succ, List.map_append]; rfl
theorem plc_len {k n : Nat} : (plc k n).length = n := by unfold plc; rw [List.length_map, List.length_range]
theorem plc_get {k n j : Nat} (h : j < n) : (plc k n)[j]? = some ((k + j : Nat) : Int) := by unfold plc; rw [List.getElem?_map, List.getElem?_range h]; rfl
noncomputable def FitAt (σ : St) (k : Nat) (ts : List Tst) : Prop := ∀ (j : Nat) t, ts[j]? = some t → ∃ i, σ.row[k + j]? = some i ∧ t.fits (σ.inf i).g = true
theorem FitAt.snoc {k : Nat} {ts : List Tst} {t : Tst} {i : Nat} (f : FitAt σ k ts) (h : σ.row[k + ts.length]? = some i) (h2 : t.fits (σ.inf i).g = true) : FitAt σ k (ts ++ [t]) := fun j u e => by
  rw [List.getElem?_append] at e
  split at e
  · exact f j u e
  · have hj : j - ts.length = 0 := Nat.lt_one_iff.mp (List.getElem?_eq_some_iff.mp e).1
    rw [hj] at e
    cases e
    rw [show j = ts.length from Nat.le_antisymm (Nat.sub_eq_zero_iff_le.mp hj) (Nat.le_of_not_lt ‹_›)]
    exact ⟨i, h, h2⟩
theorem lastI {l : List U} {x : U} {P : U → Prop} (q : P x) : nthU (l ++ [x]) (-1) P := ⟨l.length, x, List.getElem?_concat_length, .inr (by rw [List.length_append]; show (-1 : Int) = _ - ((l.length + 1 : Nat) : Int); lia), q⟩
theorem cutE {x : U} {r : List U} : cutL (x :: r) (clipAt (r.length + 1) 1) (r.length + 1) = r := by
  have e : clipAt (r.length + 1) 1 = 1 := by unfold clipAt; simp; lia
  rw [e]
  show List.take (r.length + 1 - 1) r = r
  rw [Nat.add_sub_cancel, List.take_length]
inductive InI (σ : St) (T v : U) (k : Nat) (ts : List Tst) (n : Nat) : Os → St → Prop
  | mk (x y : U) (f : FitAt σ k (ts.take (n + 1))) : InI σ T v k ts n [T, .i k, v, .ol ((plc k (n + 1)).map .i), x, y] σ
theorem input_loop (F : Facts cx) {v : U} {k : Nat} {t0 : Tst} {tr : List Tst} {stay : St → Prop} {xs : List U} (hx : xs = tr.map Tst.u) (hs : stay σ) (hm : Mk σ) (hl : tr.length ≤ 999) (f0 : FitAt σ k [t0]) (q0 : Q .no σ) (q : FitAt σ k (t0 :: tr) → Q (.fl ((plc k (tr.length + 1)).map .i)) σ) :
    ForT xs stay (fun x os σ go => asP os (fun os1 => wS (CallT cx (d + 5)) (CallI cx (d + 5)) b34_2 os1 σ ⟨go, Q, go⟩) (.n 4) x) (fun os σ => wS (CallT cx (d + 5)) (CallI cx (d + 5)) b34_3 os σ (rQ Q)) [scn st ls kd tb dp, .i k, v, .ol [.i k], .un, .un] σ := by
  subst hx
  refine .m (InI σ (scn st ls kd tb dp) v k (t0 :: tr)) (.mk _ _ f0) (fun n t os σ' ht j => ?_) fun os σ' j => ?_
  · refine InI.casesOn j fun x y f => ?_
    refine ⟨hs, ?_⟩
    have e : ((plc k (n + 1)).map U.i) = (plc k n).map U.i ++ [.i ((k + n : Nat) : Int)] := by rw [plcS, List.map_append]; rfl
    have ln : (List.take (n + 1) (t0 :: tr)).length = n + 1 := List.length_take_of_le (Nat.le_of_lt (Nat.succ_lt_succ (List.getElem?_eq_some_iff.mp ht).1))
    show nthU ((plc k (n + 1)).map U.i) (-1) _
    rw [e]
    refine lastI (c_found_at F (t := t) (inp := true) hm q0 fun m fn => ⟨?_, ?_⟩)
    · rw [← e, List.length_map, plc_len]; exact Nat.lt_of_le_of_lt (Nat.succ_le_succ (Nat.le_trans (Nat.le_of_lt (List.getElem?_eq_some_iff.mp ht).1) hl)) (by decide)
    · obtain ⟨em, i, hi, hf⟩ := fn
      have em : m = k + (n + 1) := by lia
      subst em
      have := InI.mk (σ := σ) (T := scn st ls kd tb dp) (v := v) (k := k) (ts := t0 :: tr) (n := n + 1) t.u (.i ((k + (n + 1) : Nat) : Int)) (by
        rw [takeS (l := t0 :: tr) (n := n + 1) ht]
        exact f.snoc (by rw [ln]; exact hi) hf)
      rw [plcS (n := n + 1), List.map_append, e] at this
      exact this
  · refine InI.casesOn j fun x y f => ?_
    refine ⟨hs, q ?_⟩
    rw [show tr.length + 1 = (t0 :: tr).length from rfl, List.take_length] at f
    exact f
theorem c_input_at (F : Facts cx) {v : U} {k j : Nat} {t0 : Tst} {tr : List Tst} (hv : v = .fl ((t0 :: tr).map Tst.u) ∨ v = .tu ((t0 :: tr).map Tst.u)) (h : σ.row[k]? = some j) (hm : Mk σ) (hl : tr.length ≤ 999) (q0 : Q .no σ) (q : ∀ n, n = tr.length + 1 → FitAt σ k (t0 :: tr) → Q (.fl ((plc k n).map .i)) σ) :
    CallT cx (d + 6) 34 [scn st ls kd tb dp, .i k, v] σ Q := by
  refine fcall 3 F rfl ?_
  have key : t0.fits (σ.inf j).g = true → FitAt σ k [t0] := fun hf i t e => by
    have hi : i = 0 := Nat.lt_one_iff.mp (List.getElem?_eq_some_iff.mp e).1
    subst hi; cases e
    exact ⟨j, h, hf⟩
  rcases hv with rfl | rfl
  · exact nth0 (rowI h rfl (c_fits F (ifB.mk (fun hf => input_loop F cutE rfl hm hl (key hf) q0 (q _ rfl)) fun _ => q0)))
  · exact nth0 (rowI h rfl (c_fits F (ifB.mk (fun hf => ⟨1, rfl, Nat.le_refl 1, Nat.succ_le_succ (Nat.zero_le _), input_loop F rfl trivial hm hl (key hf) q0 (q _ rfl)⟩) fun _ => q0)))
end

end
section
section
variable {cx : Cx} {d : Nat} {σ : St} {Q : U → St → Prop} {R : List U → St → Prop}
variable {st kd dp : Nat} {ls tb : List U}
noncomputable def AnyFit (σ : St) (ts : List Tst) : Prop := ∀ t ∈ ts, ∃ i ∈ σ.row, t.fits (σ.inf i).g = true
inductive LaI (σ : St) (f : U → U → Os) (ts : List Tst) (n : Nat) : Os → St → Prop
  | mk (m : Nat) (y : U) (h : AnyFit σ (ts.take n)) : LaI σ f ts n (f (.i m) y) σ
theorem AnyFit.snoc {ts : List Tst} {t : Tst} {k : Int} {m : Nat} (f : AnyFit σ ts) (h : FndI σ k t m) : AnyFit σ (ts ++ [t]) := fun u hu => (List.mem_append.mp hu).elim (f u) fun q => by
  obtain ⟨_, i, hi, hf⟩ := h
  cases List.mem_singleton.mp q
  exact ⟨i, List.mem_of_getElem? hi, hf⟩
theorem last_loop (F : Facts cx) {v : U} {k : Nat} {step : Int} {ts : List Tst} {stay : St → Prop} (hs : stay σ) (hm : Mk σ) (q0 : Q (.i (-1)) σ) (q : AnyFit σ ts → ∀ n : Nat, Q (.i n) σ) :
    ForT (ts.map Tst.u) stay (fun x os σ go => asP os (fun os1 => wS (CallT cx (d + 5)) (CallI cx (d + 5)) b35_1 os1 σ ⟨go, Q, go⟩) (.n 5) x) (fun os σ => wS (CallT cx (d + 5)) (CallI cx (d + 5)) b35_2 os σ (rQ Q)) [scn st ls kd tb dp, .i k, .i step, v, .i k, .un] σ :=
  .m (LaI σ (fun m y => [scn st ls kd tb dp, .i k, .i step, v, m, y]) ts) (.mk k .un fun _ h => nomatch h) (fun n t os σ' ht j => by
    refine LaI.casesOn j fun m y h => ?_
    exact ⟨hs, c_found_at F (t := t) (inp := false) hm q0 fun m' fn => LaI.mk (f := fun m y => [scn st ls kd tb dp, .i k, .i step, v, m, y]) m' t.u (takeS ht ▸ h.snoc fn)⟩) fun os σ' j => by
    refine LaI.casesOn j fun m y h => ?_
    rw [List.take_length] at h
    exact ⟨hs, q h m⟩
theorem c_last_at (F : Facts cx) {v : U} {k : Nat} {step : Int} {ts : List Tst} (hv : v = .fl (ts.map Tst.u) ∨ v = .tu (ts.map Tst.u)) (hm : Mk σ) (q0 : Q (.i (-1)) σ) (q : AnyFit σ ts → ∀ n : Nat, Q (.i n) σ) : CallT cx (d + 6) 35 [scn st ls kd tb dp, .i k, .i step, v] σ Q := by
  refine fcall 2 F rfl ?_
  rcases hv with rfl | rfl
  · exact last_loop F rfl hm q0 q
  · exact last_loop F trivial hm q0 q
theorem c_ahead_at (F : Facts cx) {v : U} {k : Nat} {ts : List Tst} (hv : v = .fl (ts.map Tst.u) ∨ v = .tu (ts.map Tst.u)) (hm : Mk σ) (q0 : Q (.i (-1)) σ) (q : AnyFit σ ts → ∀ n : Nat, Q (.i n) σ) : CallT cx (d + 7) 36 [scn st ls kd tb dp, .i k, v] σ Q := by
  refine fcall 0 F rfl ?_
  rcases hv with rfl | rfl
  · exact c_last_at F (.inl rfl) hm q0 q
  · exact c_last_at F (.inr rfl) hm q0 q
theorem c_back_at (F : Facts cx) {v : U} {k : Nat} {ts : List Tst} (hv : v = .fl (ts.map Tst.u) ∨ v = .tu (ts.map Tst.u)) (hm : Mk σ) (q0 : Q (.i (-1)) σ) (q : AnyFit σ ts → ∀ n : Nat, Q (.i n) σ) : CallT cx (d + 7) 37 [scn st ls kd tb dp, .i k, v] σ Q := by
  refine fcall 0 F rfl ?_
  rcases hv with rfl | rfl
  · exact c_last_at F (.inl rfl) hm q0 q
  · exact c_last_at F (.inr rfl) hm q0 q
theorem c_glyph_tests (F : Facts cx) {l : List Int} (q : Q (.tu ((l.map Tst.glyph).map Tst.u)) σ) : CallT cx (d + 1) 29 [.tu (l.map .i)] σ Q := fcall 0 F rfl (CompT.m (c' := Tst.u) Tst.glyph trivial (fun _ _ _ _ y => y) q)
theorem c_cover_tests (F : Facts cx) {l : List (List Int)} (q : Q (.tu ((l.map Tst.cover).map Tst.u)) σ) : CallT cx (d + 1) 30 [.tu (l.map covU)] σ Q := fcall 0 F rfl (CompT.m (c' := Tst.u) Tst.cover trivial (fun _ _ _ _ y => y) q)
theorem c_is_piece (F : Facts cx) {j : Nat} (q : ∀ b, Q (.b b) σ) : CallT cx (d + 1) 38 [.lo (.inf j)] σ Q := fcall 0 F rfl fun x => ifB.d (fun _ => q _) fun _ y => ifB.d (fun _ => q _) fun _ => q _
inductive HtI (σ : St) (f : U → U → Os) (n : Nat) : Os → St → Prop
  | mk (x y : U) : HtI σ f n (f x y) σ
theorem plc_cons {k n : Nat} : plc k (n + 1) = (k : Int) :: plc (k + 1) n := by
  unfold plc
  rw [List.range_succ_eq_map, List.map_cons, List.map_map]
  refine congrArg (_ :: ·) (List.map_congr_left fun j _ => ?_)
  show ((k + (j + 1) : Nat) : Int) = ((k + 1 + j : Nat) : Int)
  rw [Nat.add_assoc, Nat.add_comm 1 j]
theorem c_hold_together (F : Facts cx) {k n : Nat} (h : k + (n + 1) ≤ σ.row.length) (q : ∀ b, Q (.b b) σ) : CallT cx (d + 2) 39 [.lo .row, .fl ((plc k (n + 1)).map .i)] σ Q := by
  have hx : ∀ {j : Nat}, j < k + (n + 1) → ∃ i, σ.row[j]? = some i := fun hj => ⟨_, List.getElem?_eq_getElem (Nat.lt_of_lt_of_le hj h)⟩
  rw [plc_cons]
  refine fcall 3 F rfl (nth0 ?_)
  obtain ⟨i0, h0⟩ := hx (j := k) (Nat.lt_add_of_pos_right (Nat.succ_pos n))
  refine rowI h0 rfl ?_
  refine .mk (fun _ => HtI σ (fun x y => [.lo .row, .fl (((k : Int) :: plc (k + 1) n).map .i), .lo (.inf i0), x, y]) 0) (.mk .un .un) (fun m x os σ' hx' j => ⟨rfl, ?_⟩) fun os σ' j => ⟨rfl, ?_⟩
  · obtain ⟨a, ha, rfl⟩ := mapAt ((congrArg (·[m]?) (cutE (x := .i k) (r := (plc (k + 1) n).map U.i))).symm.trans hx')
    have hm : m < n := plc_len (k := k + 1) (n := n) ▸ (List.getElem?_eq_some_iff.mp ha).1
    cases (plc_get hm).symm.trans ha
    obtain ⟨i1, h1⟩ := hx (j := k + 1 + m) (by lia)
    refine HtI.casesOn j fun x y => ?_
    refine rowI h1 rfl (c_is_piece F fun b => ?_)
    have go : HtI σ (fun x y => [.lo .row, .fl (((k : Int) :: plc (k + 1) n).map .i), .lo (.inf i0), x, y]) 0 [.lo .row, .fl (((k : Int) :: plc (k + 1) n).map .i), .lo (.inf i0), .i ((k + 1 + m : Nat) : Int), .lo (.inf i1)] σ := .mk (.i ((k + 1 + m : Nat) : Int)) (.lo (.inf i1))
    cases b with
    | true => exact fun a b c e => .two [a, b] [c, e] rfl rfl (fun _ => go) fun _ => q false
    | false =>
      refine c_is_piece F fun b => ?_
      cases b with
      | true => exact fun a b => ifB.d (fun _ => go) fun _ => q false
      | false => exact go
  · refine HtI.casesOn j fun _ _ => ?_
    exact q true
end

end
section
section
variable {cx : Cx} {d : Nat} {σ : St} {Q : U → St → Prop} {R : List U → St → Prop}
theorem setI_self {j : Nat} : σ.setI j (σ.inf j) = σ := by
  unfold St.setI
  have e : (fun i => if i = j then σ.inf j else σ.inf i) = σ.inf := by
    funext i
    by_cases h : i = j
    · rw [if_pos h, h]
    · rw [if_neg h]
  rw [e]
theorem c_set_cluster (F : Facts cx) {j : Nat} {c : Int} (q : Q .no (σ.setI j { σ.inf j with c := c })) : CallT cx (d + 1) 55 [.lo (.inf j), .i c] σ Q :=
  fcall 0 F rfl (ifB.d (fun e => by cases e; rw [setI_self] at q; exact q) fun _ => q)
noncomputable def clF (row : List Nat) (f : Nat → Inf) : List Int := row.map fun j => (f j).c
noncomputable abbrev St.cl (σ : St) : List Int := clF σ.row σ.inf
theorem cl_get {row : List Nat} {f : Nat → Inf} {i j : Nat} (h : row[i]? = some j) : (clF row f)[i]? = some (f j).c := by unfold clF; rw [List.getElem?_map, h]; rfl
noncomputable def seg {α : Type} (l : List α) (k e : Nat) : List α := (l.drop k).take (e - k)
theorem clip_nat {n k : Nat} : clipAt n k = min k n := by
  unfold clipAt
  rw [if_neg (Int.not_lt.mpr (Int.natCast_nonneg k))]
  rcases Nat.le_total k n with h | h
  · rw [Int.min_eq_left (Int.ofNat_le.mpr h), Nat.min_eq_left h, Int.max_eq_right (Int.natCast_nonneg _)]; rfl
  · rw [Int.min_eq_right (Int.ofNat_le.mpr h), Nat.min_eq_right h, Int.max_eq_right (Int.natCast_nonneg _)]; rfl
theorem cut_seg {α : Type} {l : List α} {k e : Nat} : cutL l (min k l.length) (min e l.length) = seg l k e := by
  unfold cutL seg
  rcases Nat.le_total k l.length with h | h
  · rw [Nat.min_eq_left h, List.take_eq_take_min (i := e - k), List.length_drop, Nat.sub_min_sub_right]
  · rw [Nat.min_eq_right h, List.drop_eq_nil_of_le h, List.drop_length, List.take_nil, List.take_nil]
theorem rowCut {l : List Nat} {k e : Nat} : cutL (infU l) (clipAt (infU l).length k) (clipAt (infU l).length e) = infU (seg l k e) := by
  rw [clip_nat, clip_nat, cut_seg]
  unfold seg infU
  rw [List.map_take, List.map_drop]
inductive WiI (σ : St) (k e n : Nat) : Os → St → Prop
  | mk (b : Nat) (h1 : e ≤ b) (h2 : b ≤ max e σ.row.length) (hn : σ.row.length ≤ b + n) : WiI σ k e n [.lo .row, .i k, .i e, .i k, .i b] σ
inductive WjI (σ : St) (k e b n : Nat) : Os → St → Prop
  | mk (h : n ≤ k) (he : ∀ i, n ≤ i → i ≤ k → σ.cl[i]? = σ.cl[k]?) : WjI σ k e b n [.lo .row, .i k, .i e, .i n, .i b] σ
theorem pred {b : Nat} (h : 0 < b) : (b : Int) - 1 = ((b - 1 : Nat) : Int) := (Int.ofNat_sub h).symm
theorem c_widened (F : Facts cx) {k e : Nat} (hk : k < σ.row.length) (he : 1 ≤ e) (q : ∀ f b : Nat, f ≤ k → e ≤ b → b ≤ max e σ.row.length → (∀ i, f ≤ i → i ≤ k → σ.cl[i]? = σ.cl[k]?) → Q (.tu [.i f, .i b]) σ) : CallT cx (d + 1) 56 [.lo .row, .i k, .i e] σ Q := by
  refine fcall 2 F rfl (WhT.mk (WiI σ k e) σ.row.length (.mk e (Nat.le_refl e) (Nat.le_max_left ..) (Nat.le_add_left ..)) ?_)
  refine fun n _ _ J => WiI.casesOn J fun b h1 h2 hn => ?_
  have at_ : ∀ {i : Nat}, i < σ.row.length → ∃ j, σ.row[i]? = some j := fun h => ⟨_, List.getElem?_eq_getElem h⟩
  have stop : wS (CallT cx d) (CallI cx d) b56_4 [.lo .row, .i k, .i e, .i k, .i b] σ (rQ Q) := by
    refine WhT.mk (WjI σ k e b) k (.mk (Nat.le_refl k) fun i a c => by rw [Nat.le_antisymm c a]) ?_
    rintro f _ _ ⟨hf, hq⟩
    have ret := q f b hf h1 h2 hq
    refine ifB.d (fun h => ?_) fun _ => ret
    have h : 0 < f := Int.ofNat_lt.mp h
    obtain ⟨j1, e1⟩ := at_ (i := f - 1) (by lia)
    obtain ⟨j2, e2⟩ := at_ (i := f) (by lia)
    refine rowI e1 (pred h) (rowI e2 rfl (ifB.d (fun hc => ⟨f - 1, Nat.sub_lt h (Nat.succ_pos 0), ?_⟩) fun _ => ret))
    rw [pred h]
    refine .mk (by lia) fun i a c => ?_
    rcases Nat.lt_or_ge i f with g | g
    · have : i = f - 1 := by lia
      rw [this, cl_get e1, ← hq f (Nat.le_refl f) hf, cl_get e2]
      exact congrArg some hc
    · exact hq i g c
  refine ifB.d (fun h => ?_) fun _ => stop
  have h : b < σ.row.length := Int.ofNat_lt.mp h
  have hb : 0 < b := Nat.lt_of_lt_of_le he h1
  obtain ⟨j1, e1⟩ := at_ h
  obtain ⟨j2, e2⟩ := at_ (i := b - 1) (by lia)
  refine rowI e1 rfl (rowI e2 (pred hb) (ifB.d (fun _ => ⟨n - 1, by lia, ?_⟩) fun _ => stop))
  exact .mk (b + 1) (by lia) (by lia) (by lia)
end

end
section
section
variable {cx : Cx} {d : Nat} {σ : St} {Q : U → St → Prop} {R : List U → St → Prop}
structure Re (row : List Nat) (f f' : Nat → Inf) : Prop where
  g : ∀ j ∈ row, (f' j).g = (f j).g
  m : ∀ j ∈ row, (f' j).m = (f j).m
  s : (clF row f).Pairwise (· ≤ ·) → (clF row f').Pairwise (· ≤ ·)
  h : (clF row f')[0]? = (clF row f)[0]?
theorem Re.refl {row : List Nat} {f : Nat → Inf} : Re row f f := ⟨fun _ _ => rfl, fun _ _ => rfl, id, rfl⟩
theorem Re.trans {row : List Nat} {f f1 f2 : Nat → Inf} (x : Re row f f1) (y : Re row f1 f2) : Re row f f2 := ⟨fun j h => (y.g j h).trans (x.g j h), fun j h => (y.m j h).trans (x.m j h), fun s => y.s (x.s s), y.h.trans x.h⟩
theorem sorted_iff {l : List Int} : l.Pairwise (· ≤ ·) ↔ ∀ (i j : Nat) (x y : Int), i < j → l[i]? = some x → l[j]? = some y → x ≤ y := by
  rw [List.pairwise_iff_getElem]
  constructor
  · intro h i j x y hij hi hj
    obtain ⟨a, rfl⟩ := List.getElem?_eq_some_iff.mp hi
    obtain ⟨b, rfl⟩ := List.getElem?_eq_some_iff.mp hj
    exact h i j a b hij
  · intro h i j a b hij
    exact h i j _ _ hij (List.getElem?_eq_getElem a) (List.getElem?_eq_getElem b)
theorem seg_get {α : Type} {l : List α} {k e i : Nat} {x : α} : (seg l k e)[i]? = some x → i < e - k ∧ l[k + i]? = some x := fun h => by
  unfold seg at h
  rw [List.getElem?_take] at h
  split at h
  · rw [List.getElem?_drop] at h; exact ⟨‹_›, h⟩
  · exact nos h
theorem seg_mem {α : Type} {l : List α} {k e : Nat} {x : α} : x ∈ seg l k e ↔ ∃ i, k ≤ i ∧ i < e ∧ l[i]? = some x := by
  constructor
  · intro h
    obtain ⟨i, hi⟩ := List.getElem?_of_mem h
    obtain ⟨h1, h2⟩ := seg_get hi
    exact ⟨k + i, Nat.le_add_right .., by lia, h2⟩
  · rintro ⟨i, h1, h2, h3⟩
    refine List.mem_of_getElem? (i := i - k) ?_
    unfold seg
    rw [List.getElem?_take, if_pos (Nat.sub_lt_sub_right h1 h2), List.getElem?_drop, Nat.add_sub_cancel' h1]; exact h3
noncomputable def setC (f : Nat → Inf) (l : List Nat) (c : Int) : Nat → Inf := fun j => if j ∈ l then { f j with c := c } else f j
theorem setC_next {l : List Nat} {c : Int} {n a : Nat} (h : l[n]? = some a) : ({ σ with inf := setC σ.inf (l.take n) c } : St).setI a { setC σ.inf (l.take n) c a with c := c } = { σ with inf := setC σ.inf (l.take (n + 1)) c } := by
  unfold St.setI
  have e : (fun j => if j = a then { setC σ.inf (l.take n) c a with c := c } else setC σ.inf (l.take n) c j) = setC σ.inf (l.take (n + 1)) c := by
    funext j
    unfold setC
    rw [takeS h]
    by_cases q : j = a
    · subst q
      rw [if_pos rfl, if_pos (List.mem_append_right _ (.head _))]
      split <;> rfl
    · rw [if_neg q]
      by_cases p : j ∈ l.take n
      · rw [if_pos p, if_pos (List.mem_append_left _ p)]
      · rw [if_neg p, if_neg fun z => (List.mem_append.mp z).elim p fun z => q (List.mem_singleton.mp z)]
  rw [← e]
theorem nd_ix {l : List Nat} (nd : l.Nodup) {i j x : Nat} (h1 : l[i]? = some x) (h2 : l[j]? = some x) : i = j := by
  obtain ⟨a, e1⟩ := List.getElem?_eq_some_iff.mp h1
  obtain ⟨b, e2⟩ := List.getElem?_eq_some_iff.mp h2
  have p := List.pairwise_iff_getElem.mp nd
  rcases Nat.lt_trichotomy i j with h | h | h
  · exact absurd (e1.trans e2.symm) (p i j a b h)
  · exact h
  · exact absurd (e2.trans e1.symm) (p j i b a h)
theorem cl_set {row : List Nat} {f : Nat → Inf} (nd : row.Nodup) {a b : Nat} {c : Int} {i : Nat} {x : Int} (h : (clF row (setC f (seg row a b) c))[i]? = some x) : (a ≤ i ∧ i < b ∧ x = c) ∨ ((i < a ∨ b ≤ i) ∧ (clF row f)[i]? = some x) := by
  obtain ⟨j, hj, e⟩ := mapAt h
  unfold setC at e
  by_cases p : j ∈ seg row a b
  · rw [if_pos p] at e
    obtain ⟨i', h1, h2, h3⟩ := seg_mem.mp p
    rw [nd_ix nd h3 hj] at h1 h2
    exact .inl ⟨h1, h2, e.symm⟩
  · rw [if_neg p] at e
    refine .inr ⟨?_, by rw [cl_get hj]; exact congrArg some e⟩
    by_cases q : a ≤ i
    · exact .inr (Nat.le_of_not_lt fun z => p (seg_mem.mpr ⟨i, q, z, hj⟩))
    · exact .inl (Nat.lt_of_not_le q)
theorem Re.merge {row : List Nat} {f : Nat → Inf} (nd : row.Nodup) (hs : (clF row f).Pairwise (· ≤ ·)) {a b k : Nat} {c : Int} (hc : (clF row f)[k]? = some c) (ha : a ≤ k) (hb : k < b) (hq : ∀ i, a ≤ i → i ≤ k → (clF row f)[i]? = (clF row f)[k]?) : Re row f (setC f (seg row a b) c) := by
  have hs' := sorted_iff.mp hs
  refine ⟨fun j _ => ?_, fun j _ => ?_, fun _ => sorted_iff.mpr fun i j x y hij hi hj => ?_, ?_⟩
  · unfold setC; split <;> rfl
  · unfold setC; split <;> rfl
  · rcases cl_set nd hi with ⟨h1, h2, rfl⟩ | ⟨h1, h2⟩
    · rcases cl_set nd hj with ⟨h3, h4, rfl⟩ | ⟨h3, h4⟩
      · exact Int.le_refl _
      · exact hs' k j _ _ (h3.elim (fun h => absurd (Nat.lt_of_le_of_lt h1 hij) (Nat.lt_asymm h)) (Nat.lt_of_lt_of_le hb)) hc h4
    · rcases cl_set nd hj with ⟨h3, h4, rfl⟩ | ⟨h3, h4⟩
      · rcases h1 with h1 | h1
        · exact hs' i k _ _ (Nat.lt_of_lt_of_le h1 ha) h2 hc
        · exact absurd (Nat.lt_trans hij h4) (Nat.not_lt.mpr h1)
      · exact hs' i j _ _ hij h2 h4
  · cases e : (clF row f)[0]? with
    | none => rw [List.getElem?_eq_none_iff] at e ⊢; unfold clF at e ⊢; rw [List.length_map] at e ⊢; exact e
    | some x =>
      obtain ⟨j, hj, _⟩ := mapAt e
      have := cl_get (f := setC f (seg row a b) c) hj
      rcases cl_set nd this with ⟨h1, h2, h3⟩ | ⟨h1, h2⟩
      · rw [this, h3, ← hc, ← hq 0 h1 (Nat.zero_le k), e]
      · rw [this, ← h2, e]
theorem merge_at {row : List Nat} {f : Nat → Inf} {a b k e : Nat} {c : Int} (hc : (clF row f)[k]? = some c) (ha : a ≤ k) (hb : e ≤ b) {i : Nat} (h1 : k ≤ i) (h2 : i < e) (h3 : i < row.length) : (clF row (setC f (seg row a b) c))[i]? = (clF row f)[k]? := by
  obtain ⟨j, hj⟩ : ∃ j, row[i]? = some j := ⟨_, List.getElem?_eq_getElem h3⟩
  rw [cl_get hj, hc]
  unfold setC
  rw [if_pos (seg_mem.mpr ⟨i, Nat.le_trans ha h1, Nat.lt_of_lt_of_le h2 hb, hj⟩)]
theorem cl_eq {row : List Nat} {f f' : Nat → Inf} (h : ∀ j ∈ row, f' j = f j) : clF row f' = clF row f := List.map_congr_left fun j hj => congrArg Inf.c (h j hj)
theorem Re.of {row : List Nat} {f f' f1 : Nat → Inf} (h : ∀ j ∈ row, f' j = f j) (r : Re row f' f1) : Re row f f1 := ⟨fun j hj => (r.g j hj).trans (congrArg Inf.g (h j hj)), fun j hj => (r.m j hj).trans (congrArg Inf.m (h j hj)), fun s => r.s (cl_eq h ▸ s), cl_eq h ▸ r.h⟩
end

end
section
section
variable {cx : Cx} {d : Nat} {σ : St} {Q : U → St → Prop} {R : List U → St → Prop}
theorem c_merge1 (F : Facts cx) {k e : Int} (h : e - k < 2) (q : Q .no σ) : CallT cx (d + 1) 57 [.lo .buf, .i k, .i e] σ Q := fcall 4 F rfl (ifB.d (fun _ => q) fun n => absurd h n)
inductive MeI (σ : St) (os : U → Os) (l : List Nat) (c : Int) (n : Nat) : Os → St → Prop
  | mk (y : U) : MeI σ os l c n (os y) { σ with inf := setC σ.inf (l.take n) c }
theorem setC_nil {f : Nat → Inf} {c : Int} : setC f [] c = f := funext fun j => if_neg (by intro h; exact nomatch h)
theorem c_merge (F : Facts cx) {k e : Nat} (nd : σ.row.Nodup) (hs : σ.cl.Pairwise (· ≤ ·)) (hk : k < σ.row.length) (he : k + 2 ≤ e)
    (q : ∀ f', Re σ.row σ.inf f' → (∀ i, k ≤ i → i < e → i < σ.row.length → (clF σ.row f')[i]? = σ.cl[k]?) → Q .no { σ with inf := f' }) : CallT cx (d + 2) 57 [.lo .buf, .i k, .i e] σ Q := by
  obtain ⟨j0, hj⟩ : ∃ j, σ.row[k]? = some j := ⟨_, List.getElem?_eq_getElem hk⟩
  have hc := cl_get (f := σ.inf) hj
  refine fcall 4 F rfl (ifB.d (fun h => absurd h (by lia)) fun _ => ?_)
  show CompT _ _ _ _ σ
  refine (show ∀ xs, xs = infU (seg σ.row k e) → CompT _ xs (fun σ' => lsU σ' (.fl xs) = some xs) _ σ from fun xs hx => ?_) _ rowCut
  subst hx
  refine .m (c' := U.i) (fun j => (σ.inf j).c) rfl (fun _ _ _ _ y => y) ⟨(seg σ.row k e).map fun j => (σ.inf j).c, rfl, fun h => ?_, fun m hm hl => ?_⟩
  · have : j0 ∈ seg σ.row k e := seg_mem.mpr ⟨k, Nat.le_refl k, by lia, hj⟩
    rw [List.map_eq_nil_iff.mp h] at this
    exact nomatch this
  have em : m = (σ.inf j0).c := by
    refine Int.le_antisymm (hl _ (List.mem_map.mpr ⟨j0, seg_mem.mpr ⟨k, Nat.le_refl k, by lia, hj⟩, rfl⟩)) ?_
    obtain ⟨j, hj', rfl⟩ := List.mem_map.mp hm
    obtain ⟨i, h1, h2, h3⟩ := seg_mem.mp hj'
    rcases Nat.eq_or_lt_of_le h1 with rfl | h1
    · cases hj.symm.trans h3; exact Int.le_refl _
    · exact sorted_iff.mp hs k i _ _ h1 hc (cl_get h3)
  subst em
  refine c_widened F hk (by lia) fun a b ha hb hb2 hq => ?_
  refine (show ∀ xs, xs = infU (seg σ.row a b) → ForT xs (fun σ' => lsU σ' (.fl xs) = some xs) _ _ _ σ from fun xs hx => ?_) _ rowCut
  subst hx
  let os : U → Os := fun y => [.lo .buf, .i k, .i e, y, .i (σ.inf j0).c, .i a, .i b]
  refine .m (MeI σ os (seg σ.row a b) (σ.inf j0).c) (by have := MeI.mk (σ := σ) (os := os) (l := seg σ.row a b) (c := (σ.inf j0).c) (n := 0) .un; rw [List.take_zero, setC_nil] at this; exact this) (fun n j os' σ' hj' J => ?_) fun os' σ' J => ?_
  · refine MeI.casesOn J fun y => ?_
    refine ⟨rfl, c_set_cluster F ?_⟩
    rw [setC_next hj']
    exact .mk _
  · refine MeI.casesOn J fun y => ?_
    rw [List.take_length]
    exact ⟨rfl, q _ (Re.merge nd hs hc ha (by lia) hq) fun i h1 h2 h3 => merge_at hc ha hb h1 h2 h3⟩
end

end
section
section
variable {cx : Cx} {d : Nat} {σ : St} {Q : U → St → Prop} {R : List U → St → Prop}
theorem c_hang (F : Facts cx) {k e : Nat} (q : Q .no σ) : CallT cx (d + 2) 58 [.lo .buf, .i k, .i e] σ Q := by
  refine fcall 3 F rfl ?_
  refine (show ∀ xs, xs = infU (seg σ.row k e) → wS (CallT cx (d + 1)) (CallI cx (d + 1)) (.ite (.cmp .lt (.bi .len (.cons (.v 3) .nil)) (.k (.i 2))) (.ret (.k .no)) .skip b58_2) [.lo .buf, .i k, .i e, .fl xs, .un, .un] σ (rQ Q) from fun xs hx => ?_) _ rowCut
  subst hx
  refine ifB.d (fun _ => q) fun h => ?_
  refine .m (c' := U.i) (fun j => (σ.inf j).c) rfl (fun _ _ _ _ y => y) ⟨(seg σ.row k e).map fun j => (σ.inf j).c, rfl, fun h' => h ?_, fun m _ _ => ?_⟩
  · rw [List.map_eq_nil_iff.mp h']; exact (by decide : ((0 : Nat) : Int) < 2)
  refine .m (fun _ => HtI σ (fun y _ => [.lo .buf, .i k, .i e, .fl (infU (seg σ.row k e)), y, .i m]) 0) (.mk .un .un) (fun n j os' σ' _ J => ⟨rfl, ?_⟩) fun os' σ' J => ⟨rfl, HtI.casesOn J fun _ _ => q⟩
  refine HtI.casesOn J fun _ _ => ?_
  exact ifB.d (fun _ => .mk _ .un) fun _ => .mk _ .un
theorem c_hand_back (F : Facts cx) {k j : Nat} {a c : Int} (h : σ.row[k]? = some j) (e : a = k) (hc : ¬ c < (σ.inf j).c) (q : Q .no σ) : CallT cx (d + 2) 59 [.lo .row, .i a, .i c] σ Q :=
  fcall 2 F rfl (rowI h e (WhT.mk (fun _ os σ' => os = [.lo .row, .i a, .i c, .i (σ.inf j).c, .i a] ∧ σ' = σ) 0 ⟨rfl, rfl⟩ fun n os σ' e => by
    obtain ⟨rfl, rfl⟩ := e
    exact ifB.d (fun h => absurd h hc) fun _ => q))
theorem c_Info (F : Facts cx) {a g c : Int} (q : Q (.lo (.inf σ.nx)) (σ.addI ⟨g, c, 0⟩)) : CallT cx (d + 2) 1000053 [.i a, .i g, .i c] σ Q :=
  callNm (c := 53) F.cf rfl rfl (icallE (c := 53) (k := 53000) (b := b53000) F [.i a, .i g, .i c, .i 0, .b false, .i 0, .i 0, .i 0, .i 0, .s 0, .i 0, .i 0, .i 0, .i 0, .i 0, .s 0] rfl rfl rfl (by kernel_rfl) (NmQ.inf q))
theorem addI_get {x : Inf} {j : Nat} (h : j < σ.nx) : (σ.addI x).inf j = σ.inf j := if_neg (Nat.ne_of_lt h)
theorem addI_at {x : Inf} : (σ.addI x).inf σ.nx = x := if_pos rfl
theorem addI_set {x y : Inf} : (σ.addI x).setI σ.nx y = σ.addI y := by
  unfold St.addI St.setI
  have e : (fun j => if j = σ.nx then y else if j = σ.nx then x else σ.inf j) = fun j => if j = σ.nx then y else σ.inf j := funext fun j => by
    by_cases h : j = σ.nx
    · rw [if_pos h, if_pos h]
    · rw [if_neg h, if_neg h, if_neg h]
  exact congrArg (fun f => ({ σ with nx := σ.nx + 1, inf := f } : St)) e
theorem c_copied (F : Facts cx) {j : Nat} (h : j < σ.nx) (q : Q (.lo (.inf σ.nx)) (σ.addI (σ.inf j))) : CallT cx (d + 3) 53001 [.lo (.inf j)] σ Q := by
  refine fcall 1 F rfl fun a => c_Info F fun _ _ _ _ _ _ _ _ _ _ => ?_
  show Q _ ((σ.addI ⟨(σ.inf j).g, (σ.inf j).c, 0⟩).setI σ.nx { (σ.addI ⟨(σ.inf j).g, (σ.inf j).c, 0⟩).inf σ.nx with m := ((σ.addI ⟨(σ.inf j).g, (σ.inf j).c, 0⟩).inf j).m })
  rw [addI_set, addI_at, addI_get h]; exact q
theorem c_next_lig (F : Facts cx) (q : ∀ x : Int, Q (.i x) σ) : CallT cx (d + 1) 54004 [.lo .buf] σ Q := fcall 0 F rfl fun _ => q
theorem c_next_split (F : Facts cx) (q : ∀ x : Int, Q (.i x) σ) : CallT cx (d + 1) 54005 [.lo .buf] σ Q := fcall 0 F rfl fun _ => q
noncomputable def St.gl (σ : St) : List Int := σ.row.map fun j => (σ.inf j).g
theorem c_glyphs (F : Facts cx) (q : Q (.fl (σ.gl.map .i)) σ) : CallT cx (d + 1) 54001 [.lo .buf] σ Q := fcall 0 F rfl (CompT.m (c' := U.i) (fun j => (σ.inf j).g) rfl (fun _ _ _ _ y => y) q)
theorem c_clusters (F : Facts cx) (q : Q (.fl (σ.cl.map .i)) σ) : CallT cx (d + 1) 54002 [.lo .buf] σ Q := fcall 0 F rfl (CompT.m (c' := U.i) (fun j => (σ.inf j).c) rfl (fun _ _ _ _ y => y) q)
end

end
section
section
variable {cx : Cx} {d : Nat} {σ : St} {Q : U → St → Prop} {R : List U → St → Prop}
theorem CompT.any {xs : List U} {tr : U → St → (U → St → Prop) → (St → Prop) → Prop} {stay : St → Prop} (hs : stay σ) (h : ∀ x ∈ xs, ∀ (Y : U → St → Prop) (N : St → Prop), (∀ y, Y y σ) → N σ → tr x σ Y N) (q : ∀ ys, Q (.fl ys) σ) : CompT tr xs stay Q σ :=
  .mk (fun _ _ σ' => σ' = σ) rfl (fun n x ys σ' hx e => by cases e; exact ⟨hs, h x (List.mem_of_getElem? hx) _ _ (fun _ => rfl) rfl⟩) fun ys σ' e => by cases e; exact ⟨hs, q ys⟩
noncomputable def nb (row : List Nat) (s : Int) : Option Nat := if 0 ≤ s ∧ s < row.length then row[s.toNat]? else none
noncomputable def bes (row : List Nat) (k : Nat) : List Nat := [(k : Int) - 1, (k : Int) + 1].filterMap (nb row)
theorem bes_end (F : Facts cx) {k : Nat} {c : Int} {b : Bool} {l : List Nat} (q : Q .no σ) : wS (CallT cx (d + 3)) (CallI cx (d + 3)) b60_2 [.lo .buf, .i k, .lo .row, .i c, .b b, .fl (infU l), .un] σ (rQ Q) := by
  refine .m (c := fun i => U.lo (.inf i)) (fun _ => HtI σ (fun y _ => [.lo .buf, .i k, .lo .row, .i c, .b b, .fl (infU l), y]) 0) (.mk .un .un) (fun n j os' σ' _ J => ⟨rfl, ?_⟩) fun os' σ' J => ⟨rfl, HtI.casesOn J fun _ _ => q⟩
  refine HtI.casesOn J fun _ _ => ?_
  exact ifB.mk (fun _ => ifB.d (fun _ => .mk _ .un) fun _ => .mk _ .un) fun _ => .mk _ .un
theorem c_drop_cluster (F : Facts cx) {k : Nat} (nd : σ.row.Nodup) (hs : σ.cl.Pairwise (· ≤ ·)) (hk : k < σ.row.length) (q : ∀ f', Re σ.row σ.inf f' → (k = 0 → 1 < σ.row.length → (clF σ.row f')[1]? = σ.cl[0]?) → Q .no { σ with inf := f' }) : CallT cx (d + 4) 60 [.lo .buf, .i k] σ Q := by
  obtain ⟨j0, hj⟩ : ∃ j, σ.row[k]? = some j := ⟨_, List.getElem?_eq_getElem hk⟩
  refine fcall 5 F rfl (rowI hj rfl (rowI hj rfl fun b => ?_))
  refine .fm (l := [(k : Int) - 1, (k : Int) + 1]) (c := U.i) (c' := fun i => U.lo (.inf i)) (nb σ.row) trivial (fun s _ Y N y n => ifB.d (fun h0 => ifB.d (fun h1 => ?_) fun h1 => n (if_neg fun h => h1 h.2)) fun h0 => n (if_neg fun h => h0 h.1)) ?_
  · obtain ⟨m, rfl⟩ := Int.eq_ofNat_of_zero_le h0
    have hm : m < σ.row.length := Int.ofNat_lt.mp h1
    exact rowI (List.getElem?_eq_getElem hm) rfl (y _ ((if_pos ⟨h0, h1⟩).trans (List.getElem?_eq_getElem hm)))
  refine .m (c' := U.i) (fun j => (σ.inf j).c) rfl (fun _ _ _ _ y => y) ⟨(bes σ.row k).map fun j => (σ.inf j).c, rfl, fun hin => ?_, fun _ => ?_⟩
  · refine bes_end F (q σ.inf .refl fun h0 h1 => ?_)
    subst h0
    obtain ⟨j, hj', e⟩ := List.mem_map.mp hin
    obtain ⟨s, hs', e2⟩ := List.mem_filterMap.mp hj'
    have e3 : σ.row[1]? = some j := by
      unfold nb at e2
      rcases List.mem_cons.mp hs' with rfl | hs'
      · exact nos e2
      · cases List.mem_singleton.mp hs'
        split at e2
        · exact e2
        · exact nos e2
    rw [cl_get e3, cl_get hj]; exact congrArg some e
  · refine ifB.d (fun h => ?_) fun h => ?_
    · have h : 0 < k := Int.ofNat_lt.mp h
      obtain ⟨j1, h1⟩ : ∃ j, σ.row[k - 1]? = some j := ⟨_, List.getElem?_eq_getElem (Nat.lt_of_le_of_lt (Nat.sub_le k 1) hk)⟩
      exact c_hand_back F h1 (pred h) (Int.not_lt.mpr (sorted_iff.mp hs _ _ _ _ (Nat.sub_lt h (Nat.succ_pos 0)) (cl_get h1) (cl_get hj))) (bes_end F (q σ.inf .refl fun h0 => absurd h0 (Nat.ne_of_gt h)))
    · obtain rfl : k = 0 := Nat.eq_zero_of_not_pos fun q => h (Int.ofNat_lt.mpr q)
      exact c_merge F nd hs hk (e := 2) (Nat.le_refl 2) fun f' re at_ => bes_end F (q f' re fun _ h1 => at_ 1 (Nat.zero_le 1) (Nat.lt_succ_self 1) h1)
end

end
section
section
variable {cx : Cx} {d : Nat} {σ : St} {Q : U → St → Prop} {R : List U → St → Prop}
theorem ifF {P N : Prop} (h : N) : ifB false P N := h
theorem ifT {P N : Prop} (h : P) : ifB true P N := h
theorem setc_i {R : St → Prop} {u : U} {k e : Nat} {lo hi : Int} {is : List Nat} (e1 : lo = k) (e2 : hi = e) (hk : k ≤ e) (he : e ≤ σ.row.length) (hu : isRow u = false) (hl : lsU σ u = some (infU is)) (h1 : σ.row.length + is.length ≤ 1000) (r : R { σ with row := σ.row.take k ++ is ++ σ.row.drop e }) : setcU σ R u (.i lo) (.i hi) (.lo .row) := by
  subst e1 e2
  unfold setcU
  show guB (!isRow u) (lsQ σ (fun l => ∃ is, (l = infU is ∧ σ.row.length + is.length ≤ mxL ∧ (σ.row.take (clipAt σ.row.length k) ++ is ++ σ.row.drop (max (clipAt σ.row.length k) (clipAt σ.row.length e))).length ≤ 1000) ∧ R { σ with row := σ.row.take (clipAt σ.row.length k) ++ is ++ σ.row.drop (max (clipAt σ.row.length k) (clipAt σ.row.length e)) }) u)
  rw [hu, clip_nat, clip_nat, Nat.min_eq_left (Nat.le_trans hk he), Nat.min_eq_left he, Nat.max_eq_right hk]
  unfold lsQ
  rw [hl]
  refine ⟨is, ⟨rfl, Nat.le_trans h1 (by decide), ?_⟩, r⟩
  rw [List.length_append, List.length_append, List.length_take_of_le (Nat.le_trans hk he), List.length_drop]
  refine Nat.le_trans ?_ h1
  rw [Nat.add_right_comm]
  exact Nat.add_le_add_right (by lia) _
structure Ad (σ : St) (x : Inf) (gs : List Int) (n : Nat) (f : Nat → Inf) : Prop where
  old : ∀ j, j < σ.nx → f j = σ.inf j
  new : ∀ (i : Nat) g, i < n → gs[i]? = some g → f (σ.nx + i) = { x with g := g }
noncomputable abbrev St.ad (σ : St) (n : Nat) (f : Nat → Inf) : St := { σ with nx := σ.nx + n, inf := f }
inductive PuI (σ : St) (j k : Nat) (gs : List Int) (n : Nat) : Os → St → Prop
  | mk (x y : U) (f : Nat → Inf) (h : Ad σ (σ.inf j) gs n f) : PuI σ j k gs n [.lo .buf, .i k, .i 1, .tu (gs.map .i), .lo (.inf j), x, .ol (infU (List.range' σ.nx n)), y] (σ.ad n f)
theorem Ad.next {x : Inf} {gs : List Int} {n : Nat} {f : Nat → Inf} {g : Int} (h : Ad σ x gs n f) (hg : gs[n]? = some g) : Ad σ x gs (n + 1) fun j => if j = σ.nx + n then { x with g := g } else f j :=
  ⟨fun j hj => (if_neg (Nat.ne_of_lt (Nat.lt_of_lt_of_le hj (Nat.le_add_right ..)))).trans (h.old j hj), fun i g' hi e => by
    rcases Nat.eq_or_lt_of_le (Nat.le_of_lt_succ hi) with rfl | hi
    · cases hg.symm.trans e; exact if_pos rfl
    · exact (if_neg fun q => Nat.ne_of_lt hi (Nat.add_left_cancel q)).trans (h.new i g' hi e)⟩
theorem c_put (F : Facts cx) {k : Nat} {gs : List Int} (nd : σ.row.Nodup) (hs : σ.cl.Pairwise (· ≤ ·)) (hk : k < σ.row.length) (hx : ∀ j ∈ σ.row, j < σ.nx) (hl : σ.row.length + gs.length ≤ 1000)
    (q0 : gs = [] → ∀ f', Re σ.row σ.inf f' → (k = 0 → 1 < σ.row.length → (clF σ.row f')[1]? = σ.cl[0]?) → Q .no { σ with inf := f', row := σ.row.take k ++ [] ++ σ.row.drop (k + 1) })
    (q1 : gs ≠ [] → ∀ j, σ.row[k]? = some j → ∀ f, Ad σ (σ.inf j) gs gs.length f → Q .no { σ.ad gs.length f with row := σ.row.take k ++ List.range' σ.nx gs.length ++ σ.row.drop (k + 1) }) : CallT cx (d + 5) 61 [.lo .buf, .i k, .i 1, .tu (gs.map .i)] σ Q := by
  obtain ⟨j, hj⟩ : ∃ j, σ.row[k]? = some j := ⟨_, List.getElem?_eq_getElem hk⟩
  have hjx := hx j (List.mem_of_getElem? hj)
  refine fcall 4 F rfl (c_merge1 F (by lia) (rowI hj rfl ?_))
  let O : U → Os := fun y => [.lo .buf, .i k, .i 1, .tu (gs.map .i), .lo (.inf j), .un, y, .un]
  have main : wS (CallT cx (d + 4)) (CallI cx (d + 4)) (.newL 6 .nil (.for (.n 7) (.v 3) b61_1 b61_2)) (O .un) σ (rQ Q) := by
    refine ForT.m (PuI σ j k gs) (.mk .un .un σ.inf ⟨fun _ _ => rfl, fun _ _ h => nomatch h⟩) (fun n g os σ' hg J => ⟨trivial, ?_⟩) fun os σ' J => ⟨trivial, ?_⟩
    · refine PuI.casesOn J fun x y f h => ?_
      refine c_copied F (Nat.lt_of_lt_of_le hjx (Nat.le_add_right ..)) ?_
      show (infU (List.range' σ.nx n)).length < mxL ∧ PuI σ j k gs (n + 1) [.lo .buf, .i k, .i 1, .tu (gs.map .i), .lo (.inf j), .lo (.inf (σ.nx + n)), .ol (infU (List.range' σ.nx n) ++ [.lo (.inf (σ.nx + n))]), .i g] (((σ.ad n f).addI (f j)).setI (σ.ad n f).nx { ((σ.ad n f).addI (f j)).inf (σ.ad n f).nx with g := g })
      rw [addI_set, addI_at, h.old j hjx]
      have e : infU (List.range' σ.nx n) ++ [.lo (.inf (σ.nx + n))] = infU (List.range' σ.nx (n + 1)) := by unfold infU; rw [List.range'_1_concat, List.map_append]; rfl
      rw [e]
      refine ⟨?_, .mk _ _ _ (h.next hg)⟩
      unfold infU
      rw [List.length_map, List.length_range']
      exact Nat.lt_of_lt_of_le (List.getElem?_eq_some_iff.mp hg).1 (Nat.le_trans (Nat.le_add_left _ _) (Nat.le_trans hl (by decide)))
    · refine PuI.casesOn J fun x y f h => ?_
      have er : σ.row.take k ++ [j] ++ σ.row.drop (k + 1) = σ.row := by rw [← takeS hj, List.take_append_drop]
      have ag : ∀ i ∈ σ.row, f i = σ.inf i := fun i hi => h.old i (hx i hi)
      refine ⟨fun he => ?_, fun ne => setc_i (σ := σ.ad gs.length f) (u := .ol (infU (List.range' σ.nx gs.length))) (k := k) (e := k + 1) (is := List.range' σ.nx gs.length) rfl rfl (Nat.le_succ k) hk rfl rfl (by rw [List.length_range']; exact hl) (q1 (fun e => ne (by subst e; rfl)) j hj f h)⟩
      have hg : gs = [] := List.length_eq_zero_iff.mp (by have := congrArg List.length he; unfold infU at this; rw [List.length_map, List.length_range'] at this; exact this)
      subst hg
      have ce : ∀ {e : Nat}, e ≤ σ.row.length → clipAt σ.row.length e = e := fun h => clip_nat.trans (Nat.min_eq_left h)
      have c1 := ce (Nat.le_of_lt hk)
      have c2 : clipAt σ.row.length ((k : Int) + 1) = k + 1 := ce hk
      refine ifF ⟨[j], ⟨rfl, Nat.le_trans (Nat.succ_le_succ (Nat.le_trans (Nat.le_add_right _ _) hl)) (by decide), ?_⟩, ?_⟩
      · show (σ.row.take (clipAt σ.row.length k) ++ [j] ++ σ.row.drop (max (clipAt σ.row.length k) (clipAt σ.row.length ((k : Int) + 1)))).length ≤ 1000
        rw [c1, c2, Nat.max_eq_right (Nat.le_succ k), er]; exact Nat.le_trans (Nat.le_add_right _ _) hl
      show wS (CallT cx (d + 4)) (CallI cx (d + 4)) (.ex (.call 60 (.cons (.v 0) (.cons (.v 1) .nil))) (.setc (.at (.v 0) 35) (.v 1) (.bin .add (.v 1) (.k (.i 1))) (.lst .nil) .skip)) [.lo .buf, .i k, .i 1, .tu [], .lo (.inf j), x, .ol [], y] { σ.ad 0 f with row := σ.row.take (clipAt σ.row.length k) ++ [j] ++ σ.row.drop (max (clipAt σ.row.length k) (clipAt σ.row.length ((k : Int) + 1))) } (rQ Q)
      rw [c1, c2, Nat.max_eq_right (Nat.le_succ k)]
      rw [er]
      refine c_drop_cluster (σ := σ.ad 0 f) F nd (by show (clF σ.row f).Pairwise _; rw [cl_eq ag]; exact hs) hk fun f' re h0 => ?_
      exact setc_i (σ := { σ.ad 0 f with inf := f' }) (u := .fl []) (k := k) (e := k + 1) (is := []) rfl rfl (Nat.le_succ k) hk rfl rfl hl (q0 rfl f' (re.of ag) fun e l => (h0 e l).trans (by show (clF σ.row f)[0]? = _; rw [cl_eq ag]))
  refine (show ∀ xs, xs = infU (seg σ.row k (k + 1)) → CompT _ xs (fun σ' => lsU σ' (.fl xs) = some xs) _ σ from fun xs hx => ?_) _ rowCut
  subst hx
  refine .any rfl (fun x hx Y N y n => ?_) fun ys => ⟨fun _ => main, fun _ => main⟩
  obtain ⟨i, _, rfl⟩ := List.mem_map.mp hx
  exact fun b => ifB.mk (fun _ => y _) fun _ => n
end

end
section
section
variable {cx : Cx} {d : Nat} {σ : St} {Q : U → St → Prop} {R : List U → St → Prop}
structure Ok (K : List Int) (σ : St) : Prop where
  nd : σ.row.Nodup
  lt : ∀ j ∈ σ.row, j < σ.nx
  mks : Mk σ
  s : σ.cl.Pairwise (· ≤ ·)
  z : ∀ x, σ.cl[0]? = some x → x = 0
  gl : ∀ j ∈ σ.row, (σ.inf j).g ∈ K
structure Gp (σ σ' : St) : Prop where
  n : σ.np ≤ σ'.np
  p : ∀ i, i < σ.np → σ'.pls i = σ.pls i
theorem Gp.refl : Gp σ σ := ⟨Nat.le_refl _, fun _ _ => rfl⟩
theorem Gp.trans {σ1 σ2 : St} (x : Gp σ σ1) (y : Gp σ1 σ2) : Gp σ σ2 := ⟨Nat.le_trans x.n y.n, fun i h => (y.p i (Nat.lt_of_lt_of_le h x.n)).trans (x.p i h)⟩
structure Hit (K : List Int) (σ : St) (k : Nat) (w : Nat) (m : Nat) (σ' : St) : Prop where
  ok : Ok K σ'
  gp : Gp σ σ'
  lt : σ'.row.length + k < σ.row.length + m
  le : σ'.row.length ≤ σ.row.length + w
theorem Ok.re {K : List Int} {f : Nat → Inf} (o : Ok K σ) (r : Re σ.row σ.inf f) : Ok K { σ with inf := f } :=
  ⟨o.nd, o.lt, fun j h => (r.m j h).symm ▸ o.mks j h, r.s o.s, fun x e => o.z x (r.h.symm.trans e), fun j h => (r.g j h).symm ▸ o.gl j h⟩
theorem Ok.setG {K : List Int} {j : Nat} {g : Int} (o : Ok K σ) (hg : g ∈ K) : Ok K (σ.setI j { σ.inf j with g := g }) := by
  have e : ∀ i, (if i = j then { σ.inf j with g := g } else σ.inf i).c = (σ.inf i).c ∧ (if i = j then { σ.inf j with g := g } else σ.inf i).m = (σ.inf i).m := fun i => by
    by_cases h : i = j
    · rw [if_pos h, h]; exact ⟨rfl, rfl⟩
    · rw [if_neg h]; exact ⟨rfl, rfl⟩
  have ec : (σ.setI j { σ.inf j with g := g }).cl = σ.cl := List.map_congr_left fun i _ => (e i).1
  refine ⟨o.nd, o.lt, fun i h => (e i).2.symm ▸ o.mks i h, ec.symm ▸ o.s, ec.symm ▸ o.z, fun i h => ?_⟩
  show (if i = j then { σ.inf j with g := g } else σ.inf i).g ∈ K
  by_cases q : i = j
  · rw [if_pos q]; exact hg
  · rw [if_neg q]; exact o.gl i h
theorem Hit.setG {K : List Int} {j k : Nat} {g : Int} (o : Ok K σ) (hg : g ∈ K) : Hit K σ k 0 (k + 1) (σ.setI j { σ.inf j with g := g }) := ⟨o.setG hg, ⟨Nat.le_refl _, fun _ _ => rfl⟩, Nat.lt_succ_self _, Nat.le_refl _⟩
theorem dGet_of {α : Type} {k : Int} : ∀ {ks : List Int} {l : List α}, ks.length = l.length → k ∈ ks → ∃ x, dGet k ks l = some x
  | [], _, _, h => nomatch h
  | _ :: _, [], h, _ => nomatch h
  | j :: ks, a :: l, hl, h => by
    show ∃ x, (if j = k then some a else dGet k ks l) = some x
    by_cases e : j = k
    · exact ⟨a, if_pos e⟩
    · rw [if_neg e]; exact dGet_of (Nat.succ.inj hl) ((List.mem_cons.mp h).resolve_left fun q => e q.symm)
theorem dGet_m {α : Type} {f : α → U} {k : Int} {ks : List Int} {l : List α} {x : α} (h : dGet k ks l = some x) : dGet k ks (l.map f) = some (f x) := dGet_map.trans (congrArg (Option.map f) h)
noncomputable abbrev singU (m : Cls) : U := .fo 100 [.fd m.1 (m.2.map .i)]
noncomputable abbrev tupsU (m : List Int × List (List Int)) : U := .fd m.1 (m.2.map fun l => .tu (l.map .i))
variable {st kd dp : Nat} {ls tb : List U} {K : List Int}
theorem c_apply_single (F : Facts cx) {m : Cls} {k j : Nat} (h : σ.row[k]? = some j) (o : Ok K σ) (hm : m.1.length = m.2.length) (cl : ∀ v, dGet (σ.inf j).g m.1 m.2 = some v → v ∈ K) (q0 : Q (.i (-1)) σ) (q : ∀ n σ', Hit K σ k 0 n σ' → Q (.i n) σ') : CallT cx (d + 1) 103 [scn st ls kd tb dp, singU m, .i k] σ Q := by
  refine fcall 1 F rfl (rowI h rfl ⟨fun hin => ?_, fun _ => q0⟩)
  obtain ⟨v, e⟩ := dGet_of hm hin
  exact ⟨_, dGet_m e, q (k + 1) _ (.setG o (cl v e))⟩
theorem c_choice_of (F : Facts cx) {m : Int} (q : ∀ n : Int, Q (.i n) σ) : CallT cx (d + 1) 105 [.i m, .i 3] σ Q :=
  fcall 1 F rfl (WhT.mk (fun _ os σ' => os = [.i m, .i 3, .i (Builtin.bitAnd m 3)] ∧ σ' = σ) 0 ⟨rfl, rfl⟩ fun n os σ' e => by
    obtain ⟨rfl, rfl⟩ := e
    exact ⟨by decide, q _⟩)
theorem c_apply_alternate (F : Facts cx) {m : List Int × List (List Int)} {k j : Nat} (h : σ.row[k]? = some j) (o : Ok K σ) (cl : ∀ v, dGet (σ.inf j).g m.1 m.2 = some v → ∀ x ∈ v, x ∈ K) (q0 : Q (.i (-1)) σ) (q : ∀ n σ', Hit K σ k 0 n σ' → Q (.i n) σ') : CallT cx (d + 2) 106 [scn st ls kd tb dp, .fo 102 [tupsU m], .i k] σ Q := by
  refine fcall 3 F rfl (rowI h rfl ?_)
  have key : ∀ l : List Int, (∀ x ∈ l, x ∈ K) → plQ (fun u => wS (CallT cx (d + 1)) (CallI cx (d + 1)) (.asg 5 (.call 105 (.cons (.at (.v 3) 18) (.cons (.at (.v 0) 18) .nil))) (.ite (.not (.c2 (.k (.i 1)) .le (.v 5) .le (.bi .len (.cons (.v 4) .nil)))) (.ret (.neg (.k (.i 1)))) .skip b106_1)) [scn st ls kd tb dp, .fo 102 [tupsU m], .i k, .lo (.inf j), u, .un] σ (rQ Q)) (.tu (l.map .i)) := fun l hl => by
    refine c_choice_of F fun n => ifB.d (fun h1 => ifB.d (fun h2 => ?_) fun _ => q0) fun _ => q0
    have h2 : n ≤ l.length := by have h2 : n ≤ (l.map U.i).length := h2; rw [List.length_map] at h2; exact h2
    obtain ⟨i, rfl⟩ : ∃ i : Nat, n = (i : Int) + 1 := ⟨(n - 1).toNat, by lia⟩
    have hi : i < l.length := by lia
    exact tupI hi (Int.add_sub_cancel _ _) (q (k + 1) _ (.setG o (hl _ (by rw [List.getD_eq_getElem?_getD, List.getElem?_eq_getElem hi]; exact List.getElem_mem hi))))
  obtain ⟨l, e, hl⟩ : ∃ l : List Int, (dGet (σ.inf j).g m.1 (m.2.map fun l => U.tu (l.map .i))).getD (.tu []) = .tu (l.map .i) ∧ ∀ x ∈ l, x ∈ K := by
    cases e : dGet (σ.inf j).g m.1 m.2 with
    | none => exact ⟨[], by rw [dGet_map, e]; rfl, fun _ h => nomatch h⟩
    | some l => exact ⟨l, by rw [dGet_m e]; rfl, cl l e⟩
  have h2 := key l hl
  rw [← e] at h2
  exact h2
end

end
section
section
variable {cx : Cx} {d : Nat} {σ : St} {Q : U → St → Prop} {R : List U → St → Prop}
structure RgF (a b : Int) (n : Nat) : Prop where
  s : Builtin.Range.small a b 1 = true
  l : (rngL a b 1).length ≤ mxL
  e : (rngL a b 1).map U.i = (List.range n).map fun (k : Nat) => U.i (a + k)
theorem rgF {a b : Int} {n : Nat} (h : b = a + n) (ha : 0 ≤ a) (hb : b ≤ 100000) : RgF a b n := by
  have hs : (Builtin.Range.rangeSize a b 1).toNat = n := by rw [PySem.rangeSize_one]; split <;> lia
  refine ⟨PySem.small_one (by lia) (by lia) (by lia) (by lia), ?_, ?_⟩
  · unfold rngL; rw [List.length_map, List.length_range, hs]; unfold mxL; lia
  · unfold rngL; rw [hs, List.map_map]
    exact List.map_congr_left fun k _ => congrArg U.i (congrArg (a + ·) (Int.mul_one _))
variable {st kd dp : Nat} {ls tb : List U} {K : List Int}
theorem split_at {α : Type} {l : List α} {k : Nat} {x : α} (h : l[k]? = some x) : l = l.take k ++ x :: l.drop (k + 1) := by
  have := List.take_append_drop (k + 1) l
  rw [takeS h, List.append_assoc] at this
  exact this.symm
theorem pw_swap {A B R : List Int} {c : Int} (h : (A ++ c :: B).Pairwise (· ≤ ·)) (hr : ∀ x ∈ R, x = c) : (A ++ (R ++ B)).Pairwise (· ≤ ·) := by
  obtain ⟨h1, h2, h3⟩ := List.pairwise_append.mp h
  obtain ⟨h4, h5⟩ := List.pairwise_cons.mp h2
  refine List.pairwise_append.mpr ⟨h1, List.pairwise_append.mpr ⟨?_, h5, fun a ha b hb => hr a ha ▸ h4 b hb⟩, fun a ha b hb => ?_⟩
  · exact List.pairwise_iff_forall_sublist.mpr fun {a b} s => by rw [hr a (s.subset (.head _)), hr b (s.subset (.tail _ (.head _)))]; exact Int.le_refl c
  · rcases List.mem_append.mp hb with q | q
    · exact h3 a ha b (hr b q ▸ .head _)
    · exact h3 a ha b (.tail _ q)
theorem Ok.put1 {k j : Nat} {gs : List Int} {f : Nat → Inf} (o : Ok K σ) (h : σ.row[k]? = some j) (a : Ad σ (σ.inf j) gs gs.length f) (hg : ∀ g ∈ gs, g ∈ K) (hn : 0 < gs.length) : Ok K { σ.ad gs.length f with row := σ.row.take k ++ List.range' σ.nx gs.length ++ σ.row.drop (k + 1) } := by
  have e := split_at h
  have hj := List.mem_of_getElem? h
  have old : ∀ i ∈ σ.row, f i = σ.inf i := fun i hi => a.old i (o.lt i hi)
  have new : ∀ i ∈ List.range' σ.nx gs.length, ∃ g ∈ gs, f i = { σ.inf j with g := g } := fun i hi => by
    obtain ⟨m, hm, rfl⟩ := List.mem_range'.mp hi
    exact ⟨gs[m], List.getElem_mem hm, by rw [Nat.one_mul]; exact a.new m _ hm (List.getElem?_eq_getElem hm)⟩
  have inA : ∀ i, i ∈ σ.row.take k ++ List.range' σ.nx gs.length ++ σ.row.drop (k + 1) → i ∈ σ.row ∨ i ∈ List.range' σ.nx gs.length := fun i hi => by
    rcases List.mem_append.mp hi with q | q
    · rcases List.mem_append.mp q with q | q
      · exact .inl (List.mem_of_mem_take q)
      · exact .inr q
    · exact .inl (List.mem_of_mem_drop q)
  have ec : clF (σ.row.take k ++ List.range' σ.nx gs.length ++ σ.row.drop (k + 1)) f = clF (σ.row.take k) σ.inf ++ (clF (List.range' σ.nx gs.length) f ++ clF (σ.row.drop (k + 1)) σ.inf) := by
    unfold clF
    rw [List.map_append, List.map_append, List.append_assoc]
    have e1 : ∀ l : List Nat, (∀ i ∈ l, i ∈ σ.row) → l.map (fun i => (f i).c) = l.map fun i => (σ.inf i).c := fun l hl => List.map_congr_left fun i hi => congrArg Inf.c (old i (hl i hi))
    rw [e1 _ fun i q => List.mem_of_mem_take q, e1 _ fun i q => List.mem_of_mem_drop q]
  have ecl : σ.cl = clF (σ.row.take k) σ.inf ++ (σ.inf j).c :: clF (σ.row.drop (k + 1)) σ.inf := by
    show clF σ.row σ.inf = _
    unfold clF
    rw [← List.map_cons (f := fun i => (σ.inf i).c), ← List.map_append, ← e]
  have hr : ∀ x ∈ clF (List.range' σ.nx gs.length) f, x = (σ.inf j).c := fun x hx => by
    obtain ⟨i, hi, rfl⟩ := List.mem_map.mp hx
    obtain ⟨g, _, q⟩ := new i hi
    rw [q]
  refine ⟨?_, fun i hi => ?_, fun i hi => ?_, ?_, fun x hx => ?_, fun i hi => ?_⟩
  · have nd := o.nd
    rw [e] at nd
    obtain ⟨n1, n2, n3⟩ := List.nodup_append.mp nd
    obtain ⟨n4, n5⟩ := List.nodup_cons.mp n2
    have fresh : ∀ i ∈ σ.row, ∀ x ∈ List.range' σ.nx gs.length, i ≠ x := fun i hi x hx q => by
      obtain ⟨m, _, e⟩ := List.mem_range'.mp hx
      have := o.lt i hi
      lia
    refine List.nodup_append.mpr ⟨List.nodup_append.mpr ⟨n1, List.nodup_range', fun a ha b hb => fresh a (List.mem_of_mem_take ha) b hb⟩, n5, fun a ha b hb => ?_⟩
    rcases List.mem_append.mp ha with q | q
    · exact n3 a q b (.tail _ hb)
    · exact (fresh b (List.mem_of_mem_drop hb) a q).symm
  · rcases inA i hi with q | q
    · exact Nat.lt_of_lt_of_le (o.lt i q) (Nat.le_add_right _ _)
    · obtain ⟨m, hm, e⟩ := List.mem_range'.mp q
      show i < σ.nx + gs.length
      lia
  · show (f i).m = 1 ∨ (f i).m = 2 ∨ (f i).m = 3
    rcases inA i hi with q | q
    · rw [old i q]; exact o.mks i q
    · obtain ⟨g, _, e⟩ := new i q; rw [e]; exact o.mks j hj
  · show (clF _ f).Pairwise _
    rw [ec]
    exact pw_swap (ecl ▸ o.s) hr
  · have hx : (clF (σ.row.take k ++ List.range' σ.nx gs.length ++ σ.row.drop (k + 1)) f)[0]? = some x := hx
    refine o.z x ?_
    rw [ec] at hx
    rw [ecl]
    cases q : clF (σ.row.take k) σ.inf with
    | cons y r => rw [q] at hx; exact hx
    | nil =>
      rw [q] at hx
      have hx : (clF (List.range' σ.nx gs.length) f ++ clF (σ.row.drop (k + 1)) σ.inf)[0]? = some x := hx
      rw [List.getElem?_append_left (by unfold clF; rw [List.length_map, List.length_range']; exact hn)] at hx
      exact congrArg some (hr x (List.mem_of_getElem? hx)).symm
  · show (f i).g ∈ K
    rcases inA i hi with q | q
    · rw [old i q]; exact o.gl i q
    · obtain ⟨g, hg', e⟩ := new i q; rw [e]; exact hg g hg'
end

end
section
section
variable {cx : Cx} {d : Nat} {σ : St} {Q : U → St → Prop} {R : List U → St → Prop}
variable {st kd dp : Nat} {ls tb : List U} {K : List Int}
theorem Ok.put0 {k j : Nat} {f : Nat → Inf} (o : Ok K σ) (h : σ.row[k]? = some j) (r : Re σ.row σ.inf f) (h0 : k = 0 → 1 < σ.row.length → (clF σ.row f)[1]? = σ.cl[0]?) : Ok K { σ with inf := f, row := σ.row.take k ++ [] ++ σ.row.drop (k + 1) } := by
  have e := split_at h
  have sub : (σ.row.take k ++ [] ++ σ.row.drop (k + 1)).Sublist σ.row := by
    rw [List.append_nil]
    have := List.sublist_append_of_sublist_right (l₁ := [j]) (List.Sublist.refl (σ.row.drop (k + 1)))
    exact ((List.Sublist.refl (σ.row.take k)).append this).trans (by rw [List.singleton_append, ← e]; exact List.Sublist.refl _)
  refine ⟨sub.nodup o.nd, fun i hi => o.lt i (sub.subset hi), fun i hi => (r.m i (sub.subset hi)).symm ▸ o.mks i (sub.subset hi), List.Pairwise.sublist (sub.map _) (r.s o.s), fun x hx => ?_, fun i hi => (r.g i (sub.subset hi)).symm ▸ o.gl i (sub.subset hi)⟩
  have hx : (clF (σ.row.take k ++ [] ++ σ.row.drop (k + 1)) f)[0]? = some x := hx
  cases k with
  | zero =>
    have hx : (clF (σ.row.drop 1) f)[0]? = some x := hx
    unfold clF at hx
    rw [← List.drop_zero (l := List.map _ (σ.row.drop 1)), List.map_drop, List.drop_drop, List.getElem?_drop] at hx
    have hl : 1 < σ.row.length := by have := (List.getElem?_eq_some_iff.mp hx).1; rw [List.length_map] at this; exact this
    exact o.z x ((h0 rfl hl).symm.trans hx)
  | succ k =>
    refine o.z x (r.h.symm.trans ?_)
    cases q : σ.row with
    | nil => rw [q] at h; exact nos h
    | cons a l => rw [q] at hx; exact hx
theorem len_put {k j n : Nat} {R : List Nat} (h : σ.row[k]? = some j) (hR : R.length = n) : (σ.row.take k ++ R ++ σ.row.drop (k + 1)).length + 1 = σ.row.length + n := by
  have hk := (List.getElem?_eq_some_iff.mp h).1
  rw [List.length_append, List.length_append, List.length_take_of_le (Nat.le_of_lt hk), List.length_drop, hR]
  lia
theorem put_get {k j n i : Nat} {R : List Nat} (h : σ.row[k]? = some j) (hR : R.length = n) (hi : i < n) : ∃ x, (σ.row.take k ++ R ++ σ.row.drop (k + 1))[k + i]? = some x := ⟨_, List.getElem?_eq_getElem (by
  have := len_put h hR
  have hk := (List.getElem?_eq_some_iff.mp h).1
  lia)⟩
theorem c_apply_multiple (F : Facts cx) {m : List Int × List (List Int)} {k j : Nat} (h : σ.row[k]? = some j) (o : Ok K σ) (hm : m.1.length = m.2.length) (hl : σ.row.length ≤ 998) (cl : ∀ v, dGet (σ.inf j).g m.1 m.2 = some v → v.length ≤ 2 ∧ ∀ x ∈ v, x ∈ K) (q0 : Q (.i (-1)) σ) (q : ∀ n σ', Hit K σ k 1 n σ' → Q (.i n) σ') :
    CallT cx (d + 6) 104 [scn st ls kd tb dp, .fo 101 [tupsU m], .i k] σ Q := by
  refine fcall 6 F rfl (rowI h rfl ⟨fun hin => ?_, fun _ => q0⟩)
  obtain ⟨v, e⟩ := dGet_of hm hin
  obtain ⟨hv, hK⟩ := cl v e
  refine ⟨_, dGet_m e, ifB.d (fun h1 => ?_) fun h1 => fun x => ?_⟩
  · have h1 : v.length = 1 := by have h1 : ((v.map U.i).length : Int) = 1 := h1; rw [List.length_map] at h1; exact Int.ofNat.inj h1
    exact tupI (n := 0) (by rw [h1]; decide) rfl (q (k + 1) _ ⟨o.setG (hK _ (by rw [List.getD_eq_getElem?_getD, List.getElem?_eq_getElem (by rw [h1]; decide)]; exact List.getElem_mem _)), ⟨Nat.le_refl _, fun _ _ => rfl⟩, Nat.lt_succ_self _, Nat.le_succ _⟩)
  · have hk := (List.getElem?_eq_some_iff.mp h).1
    have fin : ∀ {σ' : St} {R : List Nat}, R.length = v.length → σ'.row = σ.row.take k ++ R ++ σ.row.drop (k + 1) → Ok K σ' → Gp σ σ' → Q (.i ((k : Int) + ((v.map U.i).length : Nat))) σ' := fun {σ' R} hR hr o' g => by
      have := len_put h hR
      rw [← hr] at this
      rw [List.length_map]
      exact q (k + v.length) σ' ⟨o', g, by lia, by lia⟩
    have main : ∀ b : Bool, wS (CallT cx (d + 5)) (CallI cx (d + 5)) (.ex (.call 61 (.cons (.at (.v 0) 14) (.cons (.v 2) (.cons (.k (.i 1)) (.cons (.v 4) .nil))))) (.ite (.v 4) (.asg 6 (.mth (.at (.v 0) 14) 59 .nil) (.for (.n 7) (.bi .range1 (.cons (.bi .len (.cons (.v 4) .nil)) .nil)) b104_1 .skip)) .skip b104_2)) [scn st ls kd tb dp, .fo 101 [tupsU m], .i k, .lo (.inf j), .tu (v.map .i), .b b, .un, .un, .un] σ (rQ Q) := fun b => by
      refine c_put F o.nd o.s hk o.lt (by lia) (fun hv0 f' re h0 => ?_) fun hv1 j' hj' f a => ?_
      · subst hv0
        exact ⟨fun n => absurd rfl n, fun _ => fin (R := []) rfl rfl (o.put0 h re h0) ⟨Nat.le_refl _, fun _ _ => rfl⟩⟩
      · cases h.symm.trans hj'
        let σ1 : St := { σ.ad v.length f with row := σ.row.take k ++ List.range' σ.nx v.length ++ σ.row.drop (k + 1) }
        refine ⟨fun _ => c_next_split F fun y => ?_, fun e => absurd (List.map_eq_nil_iff.mp e) hv1⟩
        have rf : RgF 0 ((v.map U.i).length : Nat) (v.map U.i).length := rgF (Int.zero_add _).symm (Int.le_refl 0) (by rw [List.length_map]; lia)
        refine ⟨⟨rf.s, rf.l⟩, ?_⟩
        rw [rf.e, List.length_map]
        refine ForT.m (HtI σ1 (fun p q => [scn st ls kd tb dp, .fo 101 [tupsU m], .i k, .lo (.inf j), .tu (v.map .i), .b b, .i y, p, q])) (.mk .un .un) (fun n t os σ' ht J => ⟨trivial, ?_⟩) fun os σ' J => ⟨trivial, ?_⟩
        · refine HtI.casesOn J fun _ _ => ?_
          have hn : n < v.length := by have := (List.getElem?_eq_some_iff.mp ht).1; rw [List.length_range] at this; exact this
          have et : t = n := by rw [List.getElem?_range hn] at ht; exact (Option.some.inj ht).symm
          subst et
          obtain ⟨x, hx⟩ := put_get h (List.length_range' (s := σ.nx)) hn
          refine rowI (n := k + t) hx (by lia) (ifB.mk (fun _ => HtI.mk _ _) fun _ => HtI.mk _ _)
        · refine HtI.casesOn J fun _ _ => ?_
          exact fin (σ' := σ1) (R := List.range' σ.nx v.length) List.length_range' rfl (o.put1 h a hK (List.length_pos_iff.mpr hv1)) ⟨Nat.le_refl _, fun _ _ => rfl⟩
    exact ifB.d (fun _ => main false) fun _ => main true
end

end
section
section
variable {cx : Cx} {d : Nat} {σ : St} {Q : U → St → Prop} {R : List U → St → Prop}
variable {st kd dp : Nat} {ls tb : List U} {K : List Int}
noncomputable abbrev revU (m : Cls) (b a : List (List Int)) : U := .fo 97 [.fd m.1 (m.2.map .i), .tu (b.map covU), .tu (a.map covU)]
theorem c_reverse_deep (F : Facts cx) {m : Cls} {b a : List (List Int)} {k j : Nat} (h : σ.row[k]? = some j) (hd : 0 < dp) (q0 : Q (.i (-1)) σ) : CallT cx (d + 1) 98 [scn st ls kd tb dp, revU m b a, .i k] σ Q :=
  fcall 3 F rfl (rowI h rfl (ifB.d (fun _ => q0) fun n => absurd (Int.ofNat_lt.mpr hd) n))
theorem any_cov {l : List (List Int)} (f : AnyFit σ (l.map Tst.cover)) (o : Ok K σ) : ∀ c ∈ l, ∃ g ∈ K, hasF c g = true := fun c hc =>
  let ⟨i, hi, hf⟩ := f (.cover c) (List.mem_map.mpr ⟨c, hc, rfl⟩)
  ⟨_, o.gl i hi, hf⟩
theorem c_reverse (F : Facts cx) {m : Cls} {b a : List (List Int)} {k j : Nat} (h : σ.row[k]? = some j) (o : Ok K σ) (hm : m.1.length = m.2.length) (cl : ∀ v, dGet (σ.inf j).g m.1 m.2 = some v → (∀ c ∈ b ++ a, ∃ g ∈ K, hasF c g = true) → v ∈ K) (q0 : Q (.i (-1)) σ)
    (q : ∀ σ', Ok K σ' → Gp σ σ' → σ'.row = σ.row → Q (.i k) σ') : CallT cx (d + 8) 98 [scn st ls kd tb 0, revU m b a, .i k] σ Q := by
  refine fcall 3 F rfl (rowI h rfl ⟨fun hin => ?_, fun _ => q0⟩)
  obtain ⟨v, e⟩ := dGet_of hm hin
  refine c_cover_tests F (c_back_at F (.inr rfl) o.mks (c_cover_tests F (c_ahead_at F (.inr rfl) o.mks q0 fun _ _ => q0)) fun fb n1 => ?_)
  refine c_cover_tests F (c_ahead_at F (.inr rfl) o.mks q0 fun fa n2 => c_hang F (e := n2 + 1) ?_)
  exact ⟨_, dGet_m e, q _ (o.setG (cl v e fun c hc => (List.mem_append.mp hc).elim (any_cov fb o c) (any_cov fa o c))) ⟨Nat.le_refl _, fun _ _ => rfl⟩ rfl⟩
theorem c_way_of (F : Facts cx) {l : List Int} (hl : 2 ≤ l.length) (q : Q (.s 9) σ) : CallT cx (d + 3) 77 [gdefU, .fl (l.map .i)] σ Q := by
  cases l with
  | nil => exact nomatch hl
  | cons a l => cases l with
  | nil => exact absurd (Nat.le_of_succ_le_succ hl) (Nat.not_succ_le_zero 0)
  | cons b l =>
  refine fcall 2 F rfl ?_
  refine (show ∀ xs, xs = (b :: l).map U.i → CompT _ xs (fun σ' => lsU σ' (.fl xs) = some xs) _ σ from fun xs hx => ?_) _ cutE
  subst hx
  refine .m (c' := U.i) id rfl (fun g _ Y N y => c_glyph_class F y) ?_
  exact ⟨fun e => (nomatch e), fun _ => q⟩
theorem c_part_count (F : Facts cx) {j : Nat} (q : ∀ x : Int, Q (.i x) σ) : CallT cx (d + 1) 76 [.lo (.inf j)] σ Q := fcall 0 F rfl fun _ => q _
theorem c_tie (F : Facts cx) {j : Nat} {x y z : Int} (q : Q .no σ) : CallT cx (d + 1) 78 [.lo (.inf j), .i x, .i y, .i z] σ Q := fcall 1 F rfl fun _ => ifB.d (fun _ => fun _ => q) fun _ => q
inductive TbI (σ : St) (f : U → Os) (n : Nat) : Os → St → Prop
  | mk (s : Nat) (h : σ.row.length ≤ s + n) : TbI σ f n (f (.i s)) σ
theorem c_tie_behind (F : Facts cx) {s : Nat} {o i a c : Int} (q : Q .no σ) : CallT cx (d + 2) 79 [.lo .row, .i s, .i o, .i i, .i a, .i c] σ Q := by
  refine fcall 1 F rfl (WhT.mk (TbI σ fun y => [.lo .row, .i s, .i o, .i i, .i a, .i c, y]) σ.row.length (.mk s (Nat.le_add_left _ _)) ?_)
  refine fun n _ _ J => TbI.casesOn J fun p h => ?_
  refine ifB.d (fun _ => ifB.d (fun hp => ?_) fun _ => q) fun _ => q
  have hp : p < σ.row.length := Int.ofNat_lt.mp hp
  have hr : σ.row[p]? = some σ.row[p] := List.getElem?_eq_getElem hp
  refine rowI hr rfl fun _ => ifB.d (fun _ => rowI hr rfl fun _ => ifB.d (fun _ => rowI hr rfl (c_tie F ?_)) fun _ => q) fun _ => q
  cases n with
  | zero => exact absurd hp (Nat.not_lt.mpr h)
  | succ n => exact ⟨n, Nat.lt_succ_self n, .mk (p + 1) (by rw [Nat.add_right_comm]; exact h)⟩
end

end
section
section
variable {cx : Cx} {d : Nat} {σ : St} {Q : U → St → Prop} {R : List U → St → Prop}
variable {st kd dp : Nat} {ls tb : List U} {K : List Int}
theorem plcI {k n i : Nat} {a : Int} {P : U → Prop} (h : i < n) (e : a = i) (q : P (.i ((k + i : Nat) : Int))) : nthU ((plc k n).map U.i) a P := ⟨i, _, by rw [List.getElem?_map, plc_get h]; rfl, .inl e, q⟩
theorem plcL {k n : Nat} {P : U → Prop} (q : P (.i ((k + n : Nat) : Int))) : nthU ((plc k (n + 1)).map U.i) (-1) P := by
  rw [plcS, List.map_append]; exact lastI q
inductive TaI (σ : St) (k n : Nat) (lg : Int) : Os → St → Prop
  | mk (j : Nat) (a c o : Int) (x y : U) : TaI σ k n lg [.lo .row, .fl ((plc k (n + 1)).map .i), .s 9, .i lg, .lo (.inf j), .i a, .i c, .i o, x, y] σ
theorem rg_at {n t i : Nat} (h : (List.range n)[i]? = some t) : t = i ∧ i < n := by
  have hi : i < n := by have := (List.getElem?_eq_some_iff.mp h).1; rw [List.length_range] at this; exact this
  rw [List.getElem?_range hi] at h
  exact ⟨(Option.some.inj h).symm, hi⟩
theorem c_tie_all (F : Facts cx) {k n : Nat} {lg : Int} (h : k + (n + 1) ≤ σ.row.length) (hl : σ.row.length ≤ 1000) (q : ∀ x : Int, Q (.i x) σ) : CallT cx (d + 3) 80 [.lo .row, .fl ((plc k (n + 1)).map .i), .s 9, .i lg] σ Q := by
  have hx : ∀ {j : Nat}, j < k + (n + 1) → ∃ i, σ.row[j]? = some i := fun hj => ⟨_, List.getElem?_eq_getElem (Nat.lt_of_lt_of_le hj h)⟩
  obtain ⟨j0, h0⟩ := hx (j := k) (Nat.lt_add_of_pos_right (Nat.succ_pos n))
  refine fcall 6 F rfl (plcI (Nat.succ_pos n) rfl (rowI h0 rfl (c_part_count F fun c => fun o => ?_)))
  have rf : RgF 1 (((plc k (n + 1)).map U.i).length : Nat) n := rgF (by rw [List.length_map, plc_len]; exact Int.add_comm (n : Int) 1) (by decide) (by rw [List.length_map, plc_len]; lia)
  refine ⟨⟨rf.s, rf.l⟩, ?_⟩
  rw [rf.e]
  refine ForT.m (fun _ => TaI σ k n lg) (.mk j0 0 c o .un .un) (fun i t os σ' ht J => ⟨trivial, ?_⟩) fun os σ' J => ⟨trivial, ?_⟩
  · obtain ⟨rfl, hi⟩ := rg_at ht
    refine TaI.casesOn J fun j a c o x y => ?_
    refine plcI (i := t) (by lia) (by lia) (plcI (i := t + 1) (by lia) (by lia) ?_)
    have rg : RgF (((k + t : Nat) : Int) + 1) ((k + (t + 1) : Nat) : Int) 0 := rgF (by lia) (by lia) (by lia)
    refine ⟨⟨rg.s, rg.l⟩, ?_⟩
    rw [rg.e]
    obtain ⟨j1, h1⟩ := hx (j := k + (t + 1)) (by lia)
    refine ForT.m (l := List.range 0) (fun _ os σ' => os = [.lo .row, .fl ((plc k (n + 1)).map .i), .s 9, .i lg, .lo (.inf j), .i a, .i c, .i o, .i (1 + (t : Int)), y] ∧ σ' = σ) ⟨rfl, rfl⟩ (fun _ _ _ _ e _ => nomatch e) fun os σ' e => ⟨trivial, ?_⟩
    obtain ⟨rfl, rfl⟩ := e
    exact plcI (i := t + 1) (by lia) (by lia) (rowI h1 rfl (c_part_count F fun c' => fun o' => TaI.mk j1 _ c' o' _ y))
  · refine TaI.casesOn J fun j a c o x y => ?_
    exact plcL (c_tie_behind F (s := k + n + 1) (q _))
end

end
section
section
variable {cx : Cx} {d : Nat} {σ : St} {Q : U → St → Prop} {R : List U → St → Prop}
variable {st kd dp : Nat} {ls tb : List U} {K : List Int}
theorem Ok.sub {row : List Nat} (o : Ok K σ) (hs : row.Sublist σ.row) (h0 : row[0]? = σ.row[0]?) : Ok K { σ with row := row } :=
  ⟨hs.nodup o.nd, fun i hi => o.lt i (hs.subset hi), fun i hi => o.mks i (hs.subset hi), List.Pairwise.sublist (hs.map _) o.s, fun x hx => o.z x (by
    have hx : (row.map fun j => (σ.inf j).c)[0]? = some x := hx
    show (σ.row.map fun j => (σ.inf j).c)[0]? = some x
    rw [List.getElem?_map, ← h0, ← List.getElem?_map]; exact hx), fun i hi => o.gl i (hs.subset hi)⟩
noncomputable def gAt (σ : St) (x : Int) : Int := match σ.row[x.toNat]? with
  | some j => (σ.inf j).g
  | none => 0
theorem c_join (F : Facts cx) {k n j : Nat} {lig : Int} (hj : σ.row[k]? = some j) (h : k + (n + 2) ≤ σ.row.length) (hl : σ.row.length ≤ 999) (o : Ok K σ) (hg : lig ∈ K) (q : ∀ σ', Ok K σ' → Gp σ σ' → σ'.row.length + (n + 1) = σ.row.length → Q .no σ') :
    CallT cx (d + 4) 81 [scn st ls kd tb dp, .fl ((plc k (n + 2)).map .i), .i lig] σ Q := by
  have hx : ∀ {i : Nat}, i < k + (n + 2) → ∃ x, σ.row[i]? = some x := fun hi => ⟨_, List.getElem?_eq_getElem (Nat.lt_of_lt_of_le hi h)⟩
  have mem : ∀ {a : Int}, a ∈ plc k (n + 2) → ∃ i, i < n + 2 ∧ a = ((k + i : Nat) : Int) := fun ha => by
    obtain ⟨i, hi, e⟩ := List.mem_map.mp ha
    exact ⟨i, List.mem_range.mp hi, e.symm⟩
  refine fcall 6 F rfl ?_
  refine .m (c := U.i) (c' := U.i) (gAt σ) rfl (fun a ha Y N y => ?_) ?_
  · obtain ⟨i, hi, rfl⟩ := mem ha
    obtain ⟨x, e⟩ := hx (i := k + i) (Nat.add_lt_add_left hi k)
    have : gAt σ ((k + i : Nat) : Int) = (σ.inf x).g := by unfold gAt; rw [Int.toNat_natCast, e]
    rw [this] at y
    exact rowI e rfl y
  refine c_way_of F (by rw [List.length_map, plc_len]; lia) (plcI (Nat.succ_pos _) rfl (plcL ?_))
  refine c_merge F (k := k) (e := k + (n + 2)) o.nd o.s (Nat.lt_of_lt_of_le (Nat.lt_add_of_pos_right (Nat.succ_pos _)) h) (by lia) fun f' re _ => ?_
  refine c_next_lig F fun lg => c_tie_all (σ := { σ with inf := f' }) F h (by exact Nat.le_succ_of_le hl) fun tot => plcI (Nat.succ_pos _) rfl (rowI hj rfl ?_)
  let σ2 : St := St.setI { σ with inf := f' } j { f' j with g := lig }
  have o2 : Ok K σ2 := (o.re re).setG hg
  refine .any rfl (fun u hu Y N y nn => ?_) fun ys => ?_
  · obtain ⟨a, ha, rfl⟩ := List.mem_map.mp hu
    obtain ⟨i, hi, rfl⟩ := mem ha
    obtain ⟨x, e⟩ := hx (i := k + i) (Nat.add_lt_add_left hi k)
    exact rowI e rfl fun b => ifB.mk (fun _ => y _) fun _ => nn
  have main : wS (CallT cx (d + 3)) (CallI cx (d + 3)) b81_1 [scn st ls kd tb dp, .fl ((plc k (n + 2)).map .i), .i lig, .lo .buf, .lo .row, .s 9, .i lg, .i tot, .lo (.inf j)] σ2 (rQ Q) := by
    refine plcI (Nat.succ_pos _) rfl (plcL ?_)
    have rf : RgF ((k + 0 : Nat) : Int) (((k + (n + 1) : Nat) : Int) + 1) (n + 2) := rgF (by lia) (by lia) (by lia)
    refine ⟨⟨rf.s, rf.l⟩, ?_⟩
    rw [rf.e]
    refine .fm (c' := fun i => U.lo (.inf i)) (fun t => if t = 0 then some j else none) trivial (fun t ht Y N y nn => plcI (Nat.succ_pos _) rfl (ifB.d (fun e => ?_) fun e => ⟨_, rfl, fun _ => nn (if_neg fun q => e (by rw [q]; exact Int.add_zero _)), fun hn => absurd ?_ hn⟩)) ?_
    · have : t = 0 := by lia
      subst this
      exact rowI (n := k) hj (Int.add_zero _) (y j (if_pos rfl))
    · exact List.mem_map.mpr ⟨t, ht, by lia⟩
    have er : ((List.range (n + 2)).filterMap fun t => if t = 0 then some j else none) = [j] := by
      rw [List.range_succ_eq_map, List.filterMap_cons, if_pos rfl]
      exact congrArg (j :: ·) (List.filterMap_eq_nil_iff.mpr fun t ht => by
        obtain ⟨u, _, rfl⟩ := List.mem_map.mp ht
        exact if_neg (Nat.succ_ne_zero u))
    rw [er]
    refine plcI (Nat.succ_pos _) rfl (plcL (setc_i (σ := σ2) (u := .fl [.lo (.inf j)]) (k := k) (e := k + (n + 2)) (is := [j]) rfl rfl (Nat.le_add_right _ _) h rfl rfl (Nat.succ_le_succ hl) ?_))
    have hsub : (σ.row.take k ++ [j] ++ σ.row.drop (k + (n + 2))).Sublist σ.row := by
      rw [← takeS hj]
      have := (List.Sublist.refl (σ.row.take (k + 1))).append (List.drop_sublist_drop_left σ.row (show k + 1 ≤ k + (n + 2) by lia))
      rw [List.take_append_drop] at this; exact this
    refine q _ (o2.sub hsub ?_) ⟨Nat.le_refl _, fun _ _ => rfl⟩ ?_
    · show (σ.row.take k ++ [j] ++ σ.row.drop (k + (n + 2)))[0]? = σ.row[0]?
      rw [← takeS hj, List.getElem?_append_left (by rw [List.length_take]; lia), List.getElem?_take, if_pos (Nat.succ_pos k)]
    · show (σ.row.take k ++ [j] ++ σ.row.drop (k + (n + 2))).length + (n + 1) = σ.row.length
      rw [← takeS hj, List.length_append, List.length_take, List.length_drop]
      lia
  exact ⟨fun _ => main, fun _ => main⟩
end

end
section
section
variable {cx : Cx} {d : Nat} {σ : St} {Q : U → St → Prop} {R : List U → St → Prop}
variable {st kd dp : Nat} {ls tb : List U} {K : List Int}
noncomputable abbrev ligU (m : List Int × List (List (List Int × Int))) : U := .fo 75 [.fd m.1 (m.2.map fun rs => .fl (rs.map rowU))]
theorem Dt.is {l : List Int} : ∃ n, n ≤ 500 ∧ ∀ x ∈ l.map U.i, Dt n x := ⟨0, Nat.zero_le _, fun x hx => by obtain ⟨a, _, rfl⟩ := List.mem_map.mp hx; trivial⟩
theorem fit_glyphs {k : Nat} {g : Int} {rest : List Int} (f : FitAt σ k ((g :: rest).map Tst.glyph)) (o : Ok K σ) : k + (rest.length + 1) ≤ σ.row.length ∧ ∀ x ∈ rest, x ∈ K := by
  have at_ : ∀ {i : Nat} {x : Int}, (g :: rest)[i]? = some x → ∃ j, σ.row[k + i]? = some j ∧ x = (σ.inf j).g := fun {i x} h => by
    obtain ⟨j, h1, h2⟩ := f i (.glyph x) (by rw [List.getElem?_map, h]; rfl)
    exact ⟨j, h1, of_decide_eq_true h2⟩
  refine ⟨?_, fun x hx => ?_⟩
  · obtain ⟨x, hx⟩ : ∃ x, (g :: rest)[rest.length]? = some x := ⟨_, List.getElem?_eq_getElem (Nat.lt_succ_self _)⟩
    obtain ⟨j, h1, _⟩ := at_ hx
    exact (List.getElem?_eq_some_iff.mp h1).1
  · obtain ⟨i, hi⟩ := List.getElem?_of_mem hx
    obtain ⟨j, h1, rfl⟩ := at_ (i := i + 1) (x := x) hi
    exact o.gl j (List.mem_of_getElem? h1)
inductive LgI (σ : St) (f : U → U → U → Os) : Os → St → Prop
  | mk (x y z : U) : LgI σ f (f x y z) σ
theorem c_apply_ligature (F : Facts cx) {m : List Int × List (List (List Int × Int))} {k j : Nat} (h : σ.row[k]? = some j) (o : Ok K σ) (hl : σ.row.length ≤ 999) (cl : ∀ rs, dGet (σ.inf j).g m.1 m.2 = some rs → ∀ p ∈ rs, p.1.length ≤ 2 ∧ ((∀ x ∈ p.1, x ∈ K) → p.2 ∈ K)) (q0 : Q (.i (-1)) σ) (q : ∀ n σ', Hit K σ k 0 n σ' → Q (.i n) σ') :
    CallT cx (d + 7) 82 [scn st ls kd tb dp, ligU m, .i k] σ Q := by
  refine fcall 5 F rfl (rowI h rfl ?_)
  let os : U → U → U → Os := fun x y z => [scn st ls kd tb dp, ligU m, .i k, .lo .row, .i (σ.inf j).g, x, y, z]
  let W : U → Prop := fun u => bif isOl u then False else srcU σ (fun xs stay => ForT xs stay (fun x os σ go => asP os (fun os1 => wS (CallT cx (d + 6)) (CallI cx (d + 6)) b82_2 os1 σ ⟨go, Q, go⟩) (.t [5, 6]) x) (fun os σ => wS (CallT cx (d + 6)) (CallI cx (d + 6)) b82_3 os σ (rQ Q)) (os .un .un .un) σ) u
  have main : ∀ rs : List (List Int × Int), (∀ p ∈ rs, p.1.length ≤ 2 ∧ ((∀ x ∈ p.1, x ∈ K) → p.2 ∈ K)) → W (.fl (rs.map rowU)) := fun rs hrs => by
    refine ForT.m (fun _ => LgI σ os) (.mk .un .un .un) (fun n p os' σ' hp J => ⟨rfl, ?_⟩) fun os' σ' J => ⟨rfl, LgI.casesOn J fun _ _ _ => q0⟩
    obtain ⟨rest, lig⟩ := p
    obtain ⟨hr, hK⟩ := hrs _ (List.mem_of_getElem? hp)
    refine LgI.casesOn J fun x y z => ?_
    refine ⟨Dt.is, fun e => ?_, fun ne => ?_⟩
    · have : rest = [] := List.map_eq_nil_iff.mp e
      subst this
      exact rowI h rfl (q (k + 1) _ (.setG o (hK fun _ h => nomatch h)))
    · cases rest with
      | nil => exact absurd rfl ne
      | cons r0 rr =>
        refine ⟨?_, c_glyph_tests (l := (σ.inf j).g :: r0 :: rr) F (c_input_at (t0 := .glyph (σ.inf j).g) (tr := (r0 :: rr).map Tst.glyph) F (.inr rfl) h o.mks ?_ (LgI.mk (f := os) _ _ _) fun n en f => ?_)⟩
        · exact Nat.le_trans (Nat.add_le_add_left (by rw [List.length_map]; exact hr) 1) (by decide)
        · rw [List.length_map]; exact Nat.le_trans hr (by decide)
        · rw [List.length_map] at en
          subst en
          obtain ⟨hk, hin⟩ := fit_glyphs f o
          refine c_hold_together (n := (r0 :: rr).length) F hk fun b => ifB.mk (fun _ => ?_) fun _ => LgI.mk (f := os) _ _ _
          refine c_join (n := rr.length) F h hk hl o (hK hin) fun σ' o' g' hlen => plcL ?_
          show Q (.i (((k + (rr.length + 1) : Nat) : Int) + 1 - (((r0 :: rr).map U.i).length : Nat))) σ'
          have e : ((k + (rr.length + 1) : Nat) : Int) + 1 - (((r0 :: rr).map U.i).length : Nat) = ((k + 1 : Nat) : Int) := by rw [List.length_map, List.length_cons]; lia
          rw [e]
          exact q (k + 1) σ' ⟨o', g', by lia, by lia⟩
  obtain ⟨rs, e, hrs⟩ : ∃ rs : List (List Int × Int), (dGet (σ.inf j).g m.1 (m.2.map fun rs => U.fl (rs.map rowU))).getD (.fl []) = .fl (rs.map rowU) ∧ ∀ p ∈ rs, p.1.length ≤ 2 ∧ ((∀ x ∈ p.1, x ∈ K) → p.2 ∈ K) := by
    cases e : dGet (σ.inf j).g m.1 m.2 with
    | none => exact ⟨[], by rw [dGet_map, e]; rfl, fun _ h => nomatch h⟩
    | some l => exact ⟨l, by rw [dGet_m e]; rfl, cl l e⟩
  show W ((dGet (σ.inf j).g m.1 (m.2.map fun rs => U.fl (rs.map rowU))).getD (.fl []))
  rw [e]
  exact main rs hrs
end

end
section
section
variable {cx : Cx} {d : Nat} {σ : St} {Q : U → St → Prop} {R : List U → St → Prop}
variable {st kd dp : Nat} {ls tb : List U} {K : List Int}
set_option genCtorIdx true in
inductive TblD where
  | single (m : Cls) | mult (m : List Int × List (List Int)) | alt (m : List Int × List (List Int)) | lig (m : List Int × List (List (List Int × Int))) | rev (m : Cls) (b a : List (List Int)) | ctx (c : CtxD)
noncomputable def TblD.u : TblD → U
  | .single m => singU m
  | .mult m => .fo 101 [tupsU m]
  | .alt m => .fo 102 [tupsU m]
  | .lig m => ligU m
  | .rev m b a => revU m b a
  | .ctx c => c.u
structure LkD where
  kind : Nat
  tabs : List TblD
noncomputable abbrev LkD.u (l : LkD) : U := lkU l.kind (l.tabs.map TblD.u)
noncomputable abbrev lksU (lks : List LkD) : List U := lks.map LkD.u
noncomputable abbrev St.ns1 (σ : St) : St := { σ with ns := σ.ns + 1 }
theorem c_Scene (F : Facts cx) (r : R [.lo .buf, gdefU, .fl ls, lkU kd tb, .i 3, .i dp, .lo (.stp σ.ns)] σ.ns1) : CallI cx (d + 2) 19 [.lo .buf, gdefU, .fl ls, lkU kd tb, .i 3, .i dp] σ R := by
  have e : wS (CallT cx d) (CallI cx d) b19000 [.oi 19 [], .lo .buf, gdefU, .fl ls, lkU kd tb, .i 3, .i dp] σ (iQ 19 R) = (19 = 19 ∧ R [.lo .buf, gdefU, .fl ls, lkU kd tb, .i 3, .i dp, .lo (.stp σ.ns)] σ.ns1) := by kernel_rfl
  exact i19' F (e ▸ ⟨rfl, r⟩)
theorem c_Scene5 (F : Facts cx) (r : R [.lo .buf, gdefU, .fl ls, lkU kd tb, .i 3, .i 0, .lo (.stp σ.ns)] σ.ns1) : CallI cx (d + 2) 19 [.lo .buf, gdefU, .fl ls, lkU kd tb, .i 3] σ R := by
  have e : wS (CallT cx d) (CallI cx d) b19000 [.oi 19 [], .lo .buf, gdefU, .fl ls, lkU kd tb, .i 3, .i 0] σ (iQ 19 R) = (19 = 19 ∧ R [.lo .buf, gdefU, .fl ls, lkU kd tb, .i 3, .i 0, .lo (.stp σ.ns)] σ.ns1) := by kernel_rfl
  exact i19 F (e ▸ ⟨rfl, r⟩)
theorem mapI {α : Type} {l : List α} {c : α → U} {j : Nat} {x : α} {a : Int} {P : U → Prop} (h : l[j]? = some x) (e : a = j) (q : P (c x)) : nthU (l.map c) a P := ⟨j, c x, by rw [List.getElem?_map, h]; rfl, .inl e, q⟩
theorem c_nested_scene (F : Facts cx) {lks : List LkD} {n : Int} (qn : Q .no σ) (q : ∀ (j : Nat) l, n = j → lks[j]? = some l → Q (scn st (lksU lks) l.kind (l.tabs.map TblD.u) (dp + 1)) σ.ns1) : CallT cx (d + 3) 25 [scn st (lksU lks) kd tb dp, .i n] σ Q := by
  refine fcall 1 F rfl (ifB.d (fun h0 => ifB.d (fun h1 => ?_) fun _ => qn) fun _ => qn)
  obtain ⟨j, rfl⟩ := Int.eq_ofNat_of_zero_le h0
  have hj : j < lks.length := by have h1 : (j : Int) < ((lksU lks).length : Nat) := h1; rw [List.length_map] at h1; exact Int.ofNat_lt.mp h1
  have hl : lks[j]? = some lks[j] := List.getElem?_eq_getElem hj
  exact mapI (c := LkD.u) hl rfl (c_Scene (dp := dp + 1) F (q j _ rfl hl))
theorem c_inner_scene (F : Facts cx) {lks : List LkD} {n : Int} (qn : Q .no σ) (q : ∀ (j : Nat) l, n = j → lks[j]? = some l → Q (scn st (lksU lks) l.kind (l.tabs.map TblD.u) (dp + 1)) σ.ns1) : CallT cx (d + 4) 89 [scn st (lksU lks) kd tb dp, .i n] σ Q :=
  fcall 0 F rfl (ifB.d (fun _ => qn) fun _ => c_nested_scene F qn q)
structure Met (σ : St) (k : Nat) (t : TestsD) : Prop where
  i : FitAt σ k t.inside
  b : AnyFit σ t.back
  a : AnyFit σ t.ahead
theorem c_match_rule (F : Facts cx) {t : TestsD} {k j : Nat} (h : σ.row[k]? = some j) (hm : Mk σ) (ht : 0 < t.inside.length) (hl : t.inside.length ≤ 1000) (q0 : Q .no σ) (q : ∀ n nb ne : Nat, n + 1 = t.inside.length → Met σ k t → Q (.tu [.fl ((plc k (n + 1)).map .i), .i nb, .i ne]) σ) :
    CallT cx (d + 8) 88 [scn st ls kd tb dp, .i k, t.u] σ Q := by
  obtain ⟨tb, ti, ta, acts⟩ := t
  cases ti with
  | nil => exact nomatch ht
  | cons t0 tr =>
    refine fcall 7 F rfl (c_input_at (t0 := t0) (tr := tr) F (.inl rfl) h hm (Nat.le_of_succ_le_succ hl) q0 fun n en fi => ?_)
    subst en
    refine c_back_at F (.inl rfl) hm q0 fun fb nb => plcL (c_ahead_at F (.inl rfl) hm q0 fun fa ne => q tr.length nb ne rfl ⟨fi, fb, fa⟩)
end

end
section
section
variable {cx : Cx} {d : Nat} {σ : St} {Q : U → St → Prop} {R : List U → St → Prop}
theorem cutTo {α : Type} {l : List α} {k : Nat} : cutL l 0 (clipAt l.length k) = l.take k := by
  rw [clip_nat]
  show List.take (min k l.length - 0) l = _
  rw [Nat.sub_zero, ← List.take_eq_take_min]
theorem cutFrom {α : Type} {l : List α} {k : Nat} : cutL l (clipAt l.length k) l.length = l.drop k := by
  rw [clip_nat]
  unfold cutL
  rcases Nat.le_total k l.length with h | h
  · rw [Nat.min_eq_left h, List.take_of_length_le (by rw [List.length_drop]; exact Nat.le_refl _)]
  · rw [Nat.min_eq_right h, Nat.sub_self, List.take_zero, List.drop_eq_nil_of_le h]
theorem mTo {l : List Int} {k : Nat} : cutL (l.map U.i) 0 (clipAt (l.map U.i).length k) = (l.take k).map U.i := cutTo.trans (List.map_take ..).symm
theorem mFrom {l : List Int} {k : Nat} : cutL (l.map U.i) (clipAt (l.map U.i).length k) (l.map U.i).length = (l.drop k).map U.i := cutFrom.trans (List.map_drop ..).symm
theorem td {α : Type} {l : List α} {k : Nat} : (l.take k).length + (l.drop k).length = l.length := by rw [← List.length_append, List.take_append_drop]
theorem td2 {α : Type} {l : List α} {k m : Nat} : (l.take k).length + (l.drop (k + m)).length ≤ l.length := Nat.le_trans (Nat.add_le_add_left (by rw [List.length_drop, List.length_drop]; exact Nat.sub_le_sub_left (Nat.le_add_right k m) _) _) (Nat.le_of_eq td)
theorem lg3 {A G C : List U} {ps : List Int} {i m : Nat} (hA : A.length = (ps.take i).length) (hF : G.length = m) (hB : C.length = (ps.drop i).length) : (A ++ G).length + C.length = ps.length + m := by rw [List.length_append, hA, hF, hB, Nat.add_right_comm, td]
theorem lg2 {A C : List U} {ps : List Int} {i m : Nat} (hA : A.length = (ps.take i).length) (hB : C.length = (ps.drop (i + m)).length) : A.length + C.length ≤ ps.length := by rw [hA, hB]; exact td2
noncomputable def frs (x : Int) (m : Nat) : List Int := (List.range m).map fun (t : Nat) => x + 1 + (0 + (t : Int))
theorem frs_len {x : Int} {m : Nat} : (frs x m).length = m := by unfold frs; rw [List.length_map, List.length_range]
noncomputable def grown (ps : List Int) (i m : Nat) (x : Int) : List Int := ps.take (i + 1) ++ frs x m ++ (ps.drop (i + 1)).map (· + (m : Int))
noncomputable def shrunk (ps : List Int) (i m : Nat) : List Int := ps.take (i + 1) ++ (ps.drop (i + 1 + m)).map (· - (m : Int))
theorem c_grow (F : Facts cx) {p i m : Nat} {x : Int} (hi : (σ.pls p).1[i]? = some x) (hl : (σ.pls p).1.length + m ≤ 1000) (q : Q .no (σ.setP p (grown (σ.pls p).1 i m x, (σ.pls p).2))) : CallT cx (d + 1) 90 [.lo (.pl p), .i i, .i m] σ Q := by
  have rf : RgF 0 (m : Int) m := rgF (Int.zero_add _).symm (Int.le_refl 0) (by lia)
  refine fcall 1 F rfl ⟨⟨rf.s, rf.l⟩, ?_⟩
  rw [rf.e]
  refine .m (c' := U.i) (fun (t : Nat) => x + 1 + (0 + (t : Int))) trivial (fun t _ Y N y => mapI hi rfl y) ?_
  have e1 := mTo (l := (σ.pls p).1) (k := i + 1)
  have l1 : (cutL ((σ.pls p).1.map U.i) 0 (clipAt ((σ.pls p).1.map U.i).length ((i + 1 : Nat) : Int))).length ≤ (σ.pls p).1.length := by rw [e1, List.length_map]; exact List.length_take_le' _ _
  refine ⟨Nat.le_trans (Nat.add_le_add_right l1 _) (by rw [List.length_map, List.length_map, List.length_range]; exact Nat.le_trans hl (by decide)), ?_⟩
  refine (show ∀ xs, xs = ((σ.pls p).1.drop (i + 1)).map U.i → CompT _ xs (fun σ' => lsU σ' (.fl xs) = some xs) _ σ from fun xs hx => ?_) _ mFrom
  subst hx
  refine .m (c' := U.i) (· + (m : Int)) rfl (fun _ _ _ _ y => y) ⟨?_, grown (σ.pls p).1 i m x, ?_, q⟩
  · exact Nat.le_trans (Nat.le_of_eq (lg3 ((congrArg List.length e1).trans (List.length_map ..)) (by rw [List.length_map, List.length_map, List.length_range]) (by rw [List.length_map, List.length_map]))) (Nat.le_trans hl (by decide))
  · unfold grown frs; rw [List.map_append, List.map_append, ← e1]; rfl
theorem c_shrink (F : Facts cx) {p i m : Nat} {a : Int} (e : a = m) (hl : (σ.pls p).1.length ≤ 1000) (q : Q .no (σ.setP p (shrunk (σ.pls p).1 i m, (σ.pls p).2))) : CallT cx (d + 1) 91 [.lo (.pl p), .i i, .i a] σ Q := by
  subst e
  refine fcall 0 F rfl ?_
  have e1 := mTo (l := (σ.pls p).1) (k := i + 1)
  refine (show ∀ xs, xs = ((σ.pls p).1.drop (i + 1 + m)).map U.i → CompT _ xs (fun σ' => lsU σ' (.fl xs) = some xs) _ σ from fun xs hx => ?_) _ mFrom
  subst hx
  refine .m (c' := U.i) (· - (m : Int)) rfl (fun _ _ _ _ y => y) ⟨?_, shrunk (σ.pls p).1 i m, ?_, q⟩
  · exact Nat.le_trans (lg2 ((congrArg List.length e1).trans (List.length_map ..)) (by rw [List.length_map, List.length_map])) (Nat.le_trans hl (by decide))
  · unfold shrunk; rw [List.map_append, ← e1]; rfl
structure POk (ps : List Int) (e : Int) : Prop where
  inc : ps.Pairwise (· < ·)
  nn : ∀ p ∈ ps, 0 ≤ p
  le : ∀ p ∈ ps, p ≤ e
  len : ps.length ≤ 100
structure Spl (ps A B : List Int) (x : Int) : Prop where
  a : (A ++ [x]).Pairwise (· < ·)
  b : B.Pairwise (· < ·)
  ax : ∀ p ∈ A ++ [x], p ≤ x
  xb : ∀ p ∈ B, x < p
theorem POk.spl {ps : List Int} {e x : Int} {i : Nat} (h : POk ps e) (hi : ps[i]? = some x) : Spl ps (ps.take i) (ps.drop (i + 1)) x := by
  have e1 := split_at hi
  have p := h.inc
  rw [e1] at p
  obtain ⟨p1, p2, p3⟩ := List.pairwise_append.mp p
  obtain ⟨p4, p5⟩ := List.pairwise_cons.mp p2
  refine ⟨?_, p5, fun q hq => ?_, p4⟩
  · rw [← takeS hi]; exact h.inc.sublist (List.take_sublist _ _)
  · rcases List.mem_append.mp hq with r | r
    · exact Int.le_of_lt (p3 q r x (.head _))
    · rw [List.mem_singleton.mp r]; exact Int.le_refl x
theorem frs_mem {x a : Int} {m : Nat} (h : a ∈ frs x m) : x < a ∧ a ≤ x + m := by
  obtain ⟨t, ht, rfl⟩ := List.mem_map.mp h
  have := List.mem_range.mp ht
  lia
theorem grown_ok {ps : List Int} {e x : Int} {i m : Nat} (h : POk ps e) (hi : ps[i]? = some x) (hl : m + ps.length ≤ 100) : POk (grown ps i m x) (e + m) := by
  have s := h.spl hi
  have hx := List.mem_of_getElem? hi
  have mem : ∀ a ∈ grown ps i m x, a ∈ ps.take i ++ [x] ∨ a ∈ frs x m ∨ ∃ b ∈ ps.drop (i + 1), b + (m : Int) = a := fun a ha => by
    unfold grown at ha
    rw [takeS hi] at ha
    rcases List.mem_append.mp ha with q | q
    · exact (List.mem_append.mp q).imp id .inl
    · exact .inr (.inr (List.mem_map.mp q))
  have inps : ∀ a ∈ ps.take i ++ [x], a ∈ ps := fun a ha => (List.mem_append.mp ha).elim List.mem_of_mem_take fun q => List.mem_singleton.mp q ▸ hx
  have x0 := h.nn x hx
  have xe := h.le x hx
  refine ⟨?_, fun a ha => ?_, fun a ha => ?_, ?_⟩
  · unfold grown
    rw [takeS hi]
    refine List.pairwise_append.mpr ⟨List.pairwise_append.mpr ⟨s.a, ?_, fun a ha b hb => Int.lt_of_le_of_lt (s.ax a ha) (frs_mem hb).1⟩, List.pairwise_map.mpr (s.b.imp fun h => Int.add_lt_add_right h _), fun a ha b hb => ?_⟩
    · unfold frs; exact List.pairwise_map.mpr (List.pairwise_lt_range.imp fun {a b} h => by lia)
    · obtain ⟨c, hc, rfl⟩ := List.mem_map.mp hb
      have := s.xb c hc
      rcases List.mem_append.mp ha with q | q
      · have := s.ax a q; lia
      · have := (frs_mem q).2; lia
  · rcases mem a ha with q | q | ⟨b, hb, rfl⟩
    · exact h.nn a (inps a q)
    · have := (frs_mem q).1; lia
    · have := h.nn b (List.mem_of_mem_drop hb); lia
  · rcases mem a ha with q | q | ⟨b, hb, rfl⟩
    · have := h.le a (inps a q); lia
    · have := (frs_mem q).2; lia
    · have := h.le b (List.mem_of_mem_drop hb); lia
  · unfold grown
    rw [List.length_append, List.length_append, frs_len, List.length_map, Nat.add_right_comm, td, Nat.add_comm]; exact hl
theorem inc_drop {x : Int} : ∀ {l : List Int} {m : Nat}, (∀ b ∈ l, x < b) → l.Pairwise (· < ·) → ∀ b ∈ l.drop m, x + m < b
  | [], m, _, _, b, h => by rw [List.drop_nil] at h; exact nomatch h
  | a :: l, 0, h1, _, b, h => by have := h1 b h; lia
  | a :: l, m + 1, h1, h2, b, h => by
    obtain ⟨h3, h4⟩ := List.pairwise_cons.mp h2
    have := inc_drop (x := a) (l := l) (m := m) h3 h4 b h
    have := h1 a (.head _)
    lia
theorem shrunk_ok {ps : List Int} {e e' x : Int} {i m : Nat} (h : POk ps e) (hi : ps[i]? = some x) (h1 : x ≤ e') (h2 : e - m ≤ e') : POk (shrunk ps i m) e' := by
  have s := h.spl hi
  have hx := List.mem_of_getElem? hi
  have dr : ∀ b ∈ ps.drop (i + 1 + m), x + m < b := fun b hb => inc_drop s.xb s.b b (by rw [List.drop_drop]; exact hb)
  have x0 := h.nn x hx
  have inps : ∀ a ∈ ps.take i ++ [x], a ∈ ps := fun a ha => (List.mem_append.mp ha).elim List.mem_of_mem_take fun q => List.mem_singleton.mp q ▸ hx
  have mem : ∀ a ∈ shrunk ps i m, a ∈ ps.take i ++ [x] ∨ ∃ b ∈ ps.drop (i + 1 + m), b - (m : Int) = a := fun a ha => by
    unfold shrunk at ha
    rw [takeS hi] at ha
    exact (List.mem_append.mp ha).imp id List.mem_map.mp
  refine ⟨?_, fun a ha => ?_, fun a ha => ?_, ?_⟩
  · unfold shrunk
    rw [takeS hi]
    refine List.pairwise_append.mpr ⟨s.a, List.pairwise_map.mpr ((h.inc.sublist (List.drop_sublist _ _)).imp fun h => Int.sub_lt_sub_right h _), fun a ha b hb => ?_⟩
    obtain ⟨c, hc, rfl⟩ := List.mem_map.mp hb
    have := s.ax a ha
    have := dr c hc
    lia
  · rcases mem a ha with q | ⟨b, hb, rfl⟩
    · exact h.nn a (inps a q)
    · have := dr b hb; lia
  · rcases mem a ha with q | ⟨b, hb, rfl⟩
    · exact Int.le_trans (s.ax a q) h1
    · have := h.le b (List.mem_of_mem_drop hb); lia
  · unfold shrunk
    rw [List.length_append, List.length_map]; exact Nat.le_trans td2 h.len
end

end
section
section
variable {cx : Cx} {d : Nat} {σ : St} {Q : U → St → Prop} {R : List U → St → Prop}
theorem setP_setP {p : Nat} {y z : List Int × Int} : (σ.setP p y).setP p z = σ.setP p z := by
  unfold St.setP
  have e : (fun j => if j = p then z else if j = p then y else σ.pls j) = fun j => if j = p then z else σ.pls j := funext fun j => by
    by_cases h : j = p
    · rw [if_pos h, if_pos h]
    · rw [if_neg h, if_neg h, if_neg h]
  exact congrArg (fun f => ({ σ with pls := f } : St)) e
theorem move_end (F : Facts cx) {p i : Nat} {c x : Int} (hi : (σ.pls p).1[i]? = some x) (hn : (σ.pls p).1.length ≤ 100) (hl : c ≤ 100) (q1 : ∀ m : Nat, c = m → 0 < m → Q .no (σ.setP p (grown (σ.pls p).1 i m x, (σ.pls p).2))) (q2 : ∀ m : Nat, -c = m → Q .no (σ.setP p (shrunk (σ.pls p).1 i m, (σ.pls p).2))) (q0 : c = 0 → Q .no σ) :
    wS (CallT cx (d + 1)) (CallI cx (d + 1)) b92_1 [.lo (.pl p), .i i, .i c] σ (rQ Q) := by
  refine ifB.d (fun h => ?_) fun h => ifB.d (fun h2 => ?_) fun h2 => q0 (Int.le_antisymm (Int.not_lt.mp h) (Int.not_lt.mp h2))
  · obtain ⟨m, rfl⟩ := Int.eq_ofNat_of_zero_le (Int.le_of_lt h)
    exact c_grow F hi (Nat.le_trans (Nat.add_le_add hn (Int.ofNat_le.mp hl)) (by decide)) (q1 m rfl (Int.ofNat_lt.mp h))
  · obtain ⟨m, e⟩ := Int.eq_ofNat_of_zero_le (Int.le_of_lt (Int.neg_pos_of_neg h2))
    exact c_shrink F e (Nat.le_trans hn (by decide)) (q2 m e)
theorem c_move (F : Facts cx) {p i : Nat} {c x : Int} (ok : POk (σ.pls p).1 (σ.pls p).2) (hi : (σ.pls p).1[i]? = some x) (hl : c + (σ.pls p).1.length ≤ 100) (q : ∀ ps' e', POk ps' e' → (σ.pls p).2 + c ≤ e' → 0 ≤ e' → Q .no (σ.setP p (ps', e'))) : CallT cx (d + 2) 92 [.lo (.pl p), .i i, .i c] σ Q := by
  refine fcall 0 F rfl ?_
  let σ1 := σ.setP p ((σ.pls p).1, (σ.pls p).2 + c)
  have h1 : σ1.pls p = ((σ.pls p).1, (σ.pls p).2 + c) := setP_same
  have hi1 : (σ1.pls p).1[i]? = some x := by rw [h1]; exact hi
  have hx := List.mem_of_getElem? hi
  have x0 := ok.nn x hx
  have xe := ok.le x hx
  have hn := ok.len
  refine mapI (l := (σ1.pls p).1) hi1 rfl (ifB.d (fun h => ?_) fun h => ?_)
  · have h : (σ.pls p).2 + c < x := by have h : (σ1.pls p).2 < x := h; rw [h1] at h; exact h
    refine mapI (l := (σ1.pls p).1) hi1 rfl (mapI (l := (σ1.pls p).1) hi1 rfl ?_)
    let σ2 := σ1.setP p ((σ1.pls p).1, x)
    have h2 : σ2.pls p = ((σ.pls p).1, x) := setP_same.trans (by rw [h1])
    have e2 : ∀ z, σ2.setP p z = σ.setP p z := fun z => setP_setP.trans setP_setP
    have ec : c + x - (σ1.pls p).2 = x - (σ.pls p).2 := by rw [h1]; show c + x - ((σ.pls p).2 + c) = _; lia
    refine move_end (σ := σ2) F (by rw [h2]; exact hi) (by rw [h2]; exact hn) (by rw [ec]; lia) (fun m e hm => ?_) (fun m e => ?_) fun e => ?_
    · rw [ec] at e; lia
    · rw [ec] at e; rw [e2, h2]; exact q _ _ (shrunk_ok ok hi (Int.le_refl x) (by lia)) (Int.le_of_lt h) x0
    · have : σ2 = σ.setP p ((σ.pls p).1, x) := (congrArg (fun y => σ1.setP p y) (by rw [h1])).trans setP_setP
      rw [this]
      rw [ec] at e
      exact q _ _ (show (σ.pls p).2 = x by lia ▸ ok) (Int.le_of_lt h) x0
  · have h : x ≤ (σ.pls p).2 + c := by have h : ¬ (σ1.pls p).2 < x := h; rw [h1] at h; exact Int.not_lt.mp h
    have e1 : ∀ z, σ1.setP p z = σ.setP p z := fun z => setP_setP
    refine move_end (σ := σ1) F hi1 (by rw [h1]; exact hn) (by lia) (fun m e hm => ?_) (fun m e => ?_) fun e => ?_
    · rw [e1, h1]; subst e; exact q _ _ (grown_ok ok hi (by lia)) (Int.le_refl _) (by lia)
    · rw [e1, h1]; exact q _ _ (shrunk_ok ok hi h (by lia)) (Int.le_refl _) (by lia)
    · exact q _ _ ⟨ok.inc, ok.nn, fun y hy => by have := ok.le y hy; lia, ok.len⟩ (Int.le_refl _) (by lia)
end

end
section
section
variable {cx : Cx} {d : Nat} {σ : St} {Q : U → St → Prop} {R : List U → St → Prop}
variable {st kd dp w : Nat} {tb : List U} {K : List Int} {lks : List LkD} {P : Nat → Int → Prop}
structure Act (K : List Int) (p w : Nat) (σ σ' : St) : Prop where
  ok : Ok K σ'
  po : POk (σ'.pls p).1 (σ'.pls p).2
  e0 : 0 ≤ (σ'.pls p).2
  n : σ.np ≤ σ'.np
  o : ∀ i, i < σ.np → i ≠ p → σ'.pls i = σ.pls i
  le : σ'.row.length ≤ σ.row.length + w
  en : (σ'.row.length : Int) + (σ.pls p).2 ≤ σ.row.length + (σ'.pls p).2
theorem Ok.ns {K : List Int} (o : Ok K σ) : Ok K σ.ns1 := ⟨o.nd, o.lt, o.mks, o.s, o.z, o.gl⟩
theorem Ok.setP {K : List Int} {p : Nat} {y : List Int × Int} (o : Ok K σ) : Ok K (σ.setP p y) := ⟨o.nd, o.lt, o.mks, o.s, o.z, o.gl⟩
theorem setP_ne {p i : Nat} {y : List Int × Int} (h : i ≠ p) : (σ.setP p y).pls i = σ.pls i := if_neg h
noncomputable def SubAt (cx : Cx) (lks : List LkD) (K : List Int) (P : Nat → Int → Prop) (d j w : Nat) : Prop := ∀ l, lks[j]? = some l → ∀ (σ : St) (st dp k i : Nat) (Q : U → St → Prop), Ok K σ → σ.row[k]? = some i → P j (σ.inf i).g → σ.row.length + w ≤ 900 → 0 < dp → Q (.i (-1)) σ → (∀ m σ', Hit K σ k w m σ' → Q (.i m) σ') →
  CallT cx d 109 [scn st (lksU lks) l.kind (l.tabs.map TblD.u) dp, .i k] σ Q
theorem c_do_action (F : Facts cx) {p s num : Nat} (o : Ok K σ) (hp : p < σ.np) (po : POk (σ.pls p).1 (σ.pls p).2) (e0 : 0 ≤ (σ.pls p).2) (hP : ∀ n i : Nat, (σ.pls p).1[s]? = some (n : Int) → σ.row[n]? = some i → P num (σ.inf i).g) (hs : SubAt cx lks K P (d + 4) num w) (hl : σ.row.length + w ≤ 900)
    (q : ∀ b σ', Act K p w σ σ' → Q (.b b) σ') : CallT cx (d + 5) 93 [scn st (lksU lks) kd tb dp, .lo (.pl p), actU (s, num), .f 109] σ Q := by
  have same : ∀ {σ' : St}, Ok K σ' → σ'.pls = σ.pls → σ'.row = σ.row → σ'.np = σ.np → Act K p w σ σ' := fun {σ'} o' e1 e2 e3 => ⟨o', by rw [e1]; exact po, by rw [e1]; exact e0, Nat.le_of_eq e3.symm, fun i _ _ => by rw [e1], by rw [e2]; exact Nat.le_add_right _ _, by rw [e1, e2]; exact Int.le_refl _⟩
  have s0 := q true σ (same o rfl rfl rfl)
  have s1 := q true σ.ns1 (same o.ns rfl rfl rfl)
  refine fcall 5 F rfl (ifB.d (fun _ => s0) fun h1 => ?_)
  have hs1 : s < (σ.pls p).1.length := by
    have h1 : ¬ ((((σ.pls p).1.map U.i).length : Nat) : Int) ≤ (s : Int) := h1
    rw [List.length_map] at h1; exact Nat.lt_of_not_le fun q => h1 (Int.ofNat_le.mpr q)
  have hx : (σ.pls p).1[s]? = some (σ.pls p).1[s] := List.getElem?_eq_getElem hs1
  obtain ⟨n, en⟩ := Int.eq_ofNat_of_zero_le (po.nn _ (List.getElem_mem hs1))
  rw [en] at hx
  refine mapI (l := (σ.pls p).1) hx rfl (ifB.d (fun _ => s0) fun h2 => ?_)
  have hn : n < σ.row.length := Nat.lt_of_not_le fun q => h2 (Int.ofNat_le.mpr q)
  have hi : σ.row[n]? = some σ.row[n] := List.getElem?_eq_getElem hn
  refine c_inner_scene F s0 fun j l ej hj => ⟨rfl, fun x => ifB.d (fun _ => s1) fun _ => ⟨rfl, fun x => ⟨rfl, ?_⟩⟩⟩
  cases Int.ofNat.inj ej
  refine mapI (l := (σ.pls p).1) hx rfl (hs l hj σ.ns1 st (dp + 1) n _ _ o.ns hi (hP n _ hx hi) hl (Nat.succ_pos _) s1 fun m σ2 H => ?_)
  have ep : σ2.pls p = σ.pls p := H.gp.p p hp
  have gp := H.gp
  have hn2 := gp.n
  have hle := H.le
  have oth : ∀ {y : List Int × Int} i, i < σ.np → i ≠ p → (σ2.setP p y).pls i = σ.pls i := fun i h1 h2 => (setP_ne h2).trans (gp.p i h1)
  let c : Int := (σ2.row.length : Int) - σ.row.length
  have fin : ∀ b ps' e', POk ps' e' → (σ2.pls p).2 + c ≤ e' → 0 ≤ e' → Q (.b b) (σ2.setP p (ps', e')) := fun b ps' e' h1 h2 h3 => q b _ ⟨H.ok.setP, by rw [setP_same]; exact h1, by rw [setP_same]; exact h3, hn2, oth, hle, by
    rw [setP_same]
    rw [ep] at h2
    show (σ2.row.length : Int) + (σ.pls p).2 ≤ σ.row.length + e'
    have : (σ.pls p).2 + ((σ2.row.length : Int) - σ.row.length) ≤ e' := h2
    lia⟩
  have po2 : POk (σ2.pls p).1 (σ2.pls p).2 := by rw [ep]; exact po
  have rest : (0 < c → c + (σ2.pls p).1.length ≤ 64) → wS (CallT cx (d + 4)) (CallI cx (d + 4)) b93_2 [scn st (lksU lks) kd tb dp, .lo (.pl p), actU (s, num), .f 109, .i s, .i num, scn st (lksU lks) l.kind (l.tabs.map TblD.u) (dp + 1), .i σ.row.length, .i c] σ2 (rQ Q) := fun hc => by
    refine ifB.d (fun h => ?_) fun _ => c_move F po2 (by rw [ep]; exact hx) ?_ fun ps' e' h1 h2 h3 => fin true ps' e' h1 h2 h3
    · refine q true σ2 ⟨H.ok, po2, by rw [ep]; exact e0, hn2, fun i h1 _ => gp.p i h1, hle, ?_⟩
      rw [ep]
      have : (σ2.row.length : Int) - σ.row.length = 0 := h
      lia
    · have := po2.len
      rcases Int.lt_or_le 0 c with g | g
      · have := hc g; lia
      · lia
  refine ifB.d (fun h3 => ifB.d (fun h4 => ?_) fun h4 => rest fun _ => ?_) fun h3 => rest fun g => absurd g h3
  · refine fin false _ _ ⟨po2.inc, po2.nn, fun y hy => ?_, po2.len⟩ (Int.le_refl _) ?_
    · have := po2.le y hy
      have h3 : 0 < c := h3
      lia
    · have h3 : 0 < c := h3
      rw [ep]; lia
  · have h4 : ¬ 64 < c + (((σ2.pls p).1.map U.i).length : Nat) := h4
    rw [List.length_map] at h4; exact Int.not_lt.mp h4
end

end
section
section
variable {cx : Cx} {d : Nat} {σ : St} {Q : U → St → Prop} {R : List U → St → Prop}
variable {st kd dp w : Nat} {tb : List U} {K : List Int} {lks : List LkD} {P : Nat → Int → Prop}
theorem c_Places (F : Facts cx) {is : List Int} {e : Int} (q : Q (.lo (.pl σ.np)) (σ.addP (is, e))) : CallT cx (d + 2) 1000087 [.fl (is.map .i), .i e] σ Q :=
  callNm (c := 87) F.cf rfl rfl (icallE (c := 87) (k := 87000) (b := b87000) F [.fl (is.map .i), .i e] rfl rfl rfl (by kernel_rfl) (NmQ.pl q))
theorem Act.trans {p a b : Nat} {σ1 σ2 : St} (x : Act K p a σ σ1) (y : Act K p b σ1 σ2) : Act K p (a + b) σ σ2 :=
  ⟨y.ok, y.po, y.e0, Nat.le_trans x.n y.n, fun i h g => (y.o i (Nat.lt_of_lt_of_le h x.n) g).trans (x.o i h g), by have := x.le; have := y.le; lia, by have := x.en; have := y.en; lia⟩
structure DaI (K : List Int) (p w : Nat) (σ : St) (n : Nat) (σ' : St) : Prop where
  a : Act K p (n * w) σ σ'
  z : n = 0 → σ' = σ
inductive DoI (K : List Int) (p w : Nat) (σ : St) (f : U → Os) (n : Nat) : Os → St → Prop
  | mk (y : U) (σ' : St) (h : DaI K p w σ n σ') : DoI K p w σ f n (f y) σ'
theorem c_do_actions (F : Facts cx) {p : Nat} {acts : List (Nat × Nat)} (o : Ok K σ) (hp : p < σ.np) (po : POk (σ.pls p).1 (σ.pls p).2) (e0 : 0 ≤ (σ.pls p).2) (hn : acts.length ≤ 3) (hl : σ.row.length + 3 * w ≤ 900)
    (hP : ∀ a, acts[0]? = some a → ∀ n i : Nat, (σ.pls p).1[a.1]? = some (n : Int) → σ.row[n]? = some i → P a.2 (σ.inf i).g) (hK : ∀ (t : Nat) a, 0 < t → acts[t]? = some a → ∀ h ∈ K, P a.2 h) (hs : ∀ a ∈ acts, SubAt cx lks K P (d + 4) a.2 w)
    (q : ∀ σ', Act K p (3 * w) σ σ' → Q (.i (σ'.pls p).2) σ') : CallT cx (d + 6) 94 [scn st (lksU lks) kd tb dp, .lo (.pl p), .tu (acts.map actU), .f 109] σ Q := by
  have fin : ∀ {n σ'}, n ≤ 3 → Act K p (n * w) σ σ' → Q (.i (σ'.pls p).2) σ' := fun {n σ'} h a => q σ' { a with le := Nat.le_trans a.le (Nat.add_le_add_left (Nat.mul_le_mul_right w h) _) }
  have a0 : Act K p (0 * w) σ σ := ⟨o, po, e0, Nat.le_refl _, fun _ _ _ => rfl, Nat.le_add_right _ _, Int.le_refl _⟩
  refine fcall 1 F rfl (ForT.m (DoI K p w σ fun y => [scn st (lksU lks) kd tb dp, .lo (.pl p), .tu (acts.map actU), .f 109, y]) (.mk .un σ ⟨a0, fun _ => rfl⟩) (fun n a os σ' ha J => ⟨trivial, ?_⟩) fun os σ' J => ⟨trivial, ?_⟩)
  · refine DoI.casesOn J fun y σ' ⟨a1, z⟩ => ?_
    have hn3 : n < 3 := Nat.lt_of_lt_of_le (List.getElem?_eq_some_iff.mp ha).1 hn
    have hw : (n + 1) * w ≤ 3 * w := Nat.mul_le_mul_right w hn3
    have ew : (n + 1) * w = n * w + w := Nat.succ_mul n w
    refine c_do_action F a1.ok (Nat.lt_of_lt_of_le hp a1.n) a1.po a1.e0 (fun m i h1 h2 => ?_) (hs a (List.mem_of_getElem? ha)) (by have := a1.le; lia) fun b σ2 a2 => ?_
    · cases n with
      | zero => cases z rfl; exact hP a ha m i h1 h2
      | succ n => exact hK _ a (Nat.succ_pos n) ha _ (a1.ok.gl i (List.mem_of_getElem? h2))
    · have a3 := a1.trans a2
      rw [← ew] at a3
      cases b with
      | true => exact DoI.mk (f := fun y => [scn st (lksU lks) kd tb dp, .lo (.pl p), .tu (acts.map actU), .f 109, y]) _ _ ⟨a3, fun h => nomatch h⟩
      | false => exact fin hn3 a3
  · refine DoI.casesOn J fun y σ' ⟨a1, _⟩ => ?_
    exact fin hn a1
end

end
section
section
variable {cx : Cx} {d : Nat} {σ : St} {Q : U → St → Prop} {R : List U → St → Prop}
variable {st kd dp w : Nat} {tb : List U} {K : List Int} {lks : List LkD} {P : Nat → Int → Prop}
structure ClR (K : List Int) (P : Nat → Int → Prop) (g : Int) (t : TestsD) : Prop where
  z : ∀ num, t.acts[0]? = some (0, num) → P num g
  s : ∀ s num, t.acts[0]? = some (s, num) → 0 < s → ∀ x, t.inside[s]? = some x → ∀ h ∈ K, x.fits h = true → P num h
  a : ∀ (i : Nat) a, 0 < i → t.acts[i]? = some a → ∀ h ∈ K, P a.2 h
noncomputable def ClosedCtx (K : List Int) (P : Nat → Int → Prop) (g : Int) (c : CtxD) : Prop := ∀ r ∈ c.rulesAt g, (∀ x ∈ (c.tests r).back ++ (c.tests r).inside.drop 1 ++ (c.tests r).ahead, ∃ h ∈ K, x.fits h = true) → ClR K P g (c.tests r)
structure TestsD.ok (t : TestsD) : Prop where
  i : 0 < t.inside.length ∧ t.inside.length ≤ 100
  a : t.acts.length ≤ 3
theorem plc_ok {k n : Nat} (h : n + 1 ≤ 100) : POk (plc k (n + 1)) (((k + n : Nat) : Int) + 1) := by
  have mem : ∀ p ∈ plc k (n + 1), ∃ j, j < n + 1 ∧ ((k + j : Nat) : Int) = p := fun p hp => by
    obtain ⟨j, hj, e⟩ := List.mem_map.mp hp
    exact ⟨j, List.mem_range.mp hj, e⟩
  refine ⟨List.pairwise_map.mpr (List.pairwise_lt_range.imp fun {a b} h => by lia), fun p hp => ?_, fun p hp => ?_, by rw [plc_len]; exact h⟩
  · obtain ⟨j, _, rfl⟩ := mem p hp; exact Int.natCast_nonneg _
  · obtain ⟨j, hj, rfl⟩ := mem p hp; lia
theorem met_some {k : Nat} {t : TestsD} (m : Met σ k t) (o : Ok K σ) : ∀ x ∈ t.back ++ t.inside.drop 1 ++ t.ahead, ∃ h ∈ K, x.fits h = true := fun x hx => by
  have any : ∀ {ts : List Tst}, AnyFit σ ts → x ∈ ts → ∃ h ∈ K, x.fits h = true := fun f h => let ⟨i, hi, hf⟩ := f x h; ⟨_, o.gl i hi, hf⟩
  rcases List.mem_append.mp hx with q | q
  · rcases List.mem_append.mp q with q | q
    · exact any m.b q
    · obtain ⟨i, hi⟩ := List.getElem?_of_mem (List.mem_of_mem_drop q)
      obtain ⟨j, h1, h2⟩ := m.i i x hi
      exact ⟨_, o.gl j (List.mem_of_getElem? h1), h2⟩
  · exact any m.a q
theorem addP_same {x : List Int × Int} : (σ.addP x).pls σ.np = x := if_pos rfl
theorem hit_lt {a b k n e : Nat} (h : (a : Int) + (((k + n : Nat) : Int) + 1) ≤ b + e) : a + k < b + e := by lia
theorem c_apply_context (F : Facts cx) {c : CtxD} {k j : Nat} (h : σ.row[k]? = some j) (o : Ok K σ) (ok : c.ok) (ht : ∀ r ∈ c.rulesAt (σ.inf j).g, (c.tests r).ok) (cl : ClosedCtx K P (σ.inf j).g c) (hs : ∀ r ∈ c.rulesAt (σ.inf j).g, ∀ a ∈ r.actions, SubAt cx lks K P (d + 8) a.2 w) (hl : σ.row.length + 3 * w ≤ 900)
    (q0 : Q (.i (-1)) σ) (q : ∀ m σ', Hit K σ k (3 * w) m σ' → Q (.i m) σ') : CallT cx (d + 11) 95 [scn st (lksU lks) kd tb dp, c.u, .i k, .f 109] σ Q := by
  refine fcall 2 F rfl ?_
  have main : wS (CallT cx (d + 10)) (CallI cx (d + 10)) b95_3 [scn st (lksU lks) kd tb dp, c.u, .i k, .f 109, .un, .un] σ (rQ Q) := by
    refine rowI h rfl (c_rules_at F ok ?_)
    refine ForT.m (fun _ => HtI σ (fun x y => [scn st (lksU lks) kd tb dp, c.u, .i k, .f 109, x, y]) 0) (.mk .un .un) (fun n t os σ' hn J => ⟨rfl, ?_⟩) fun os σ' J => ⟨rfl, HtI.casesOn J fun _ _ => q0⟩
    refine HtI.casesOn J fun _ _ => ?_
    obtain ⟨r, hr, rfl⟩ := mapAt hn
    have hr := List.mem_of_getElem? hr
    obtain ⟨⟨ti, ti2⟩, ta⟩ := ht r hr
    refine c_match_rule F h o.mks ti (Nat.le_trans ti2 (by decide)) (HtI.mk (f := fun x y => [scn st (lksU lks) kd tb dp, c.u, .i k, .f 109, x, y]) _ _) fun n nb ne en m => ?_
    refine nth1 (nth2 (c_hang (e := ne + 1) F ?_))
    refine nth0 (nth0 (plcL (c_Places F (nth3 ?_))))
    have C := cl r hr (met_some m o)
    have po := plc_ok (k := k) (n := n) (en ▸ ti2)
    have hit : ∀ σ', Act K σ.np (3 * w) (σ.addP (plc k (n + 1), ((k + n : Nat) : Int) + 1)) σ' → Q (.i (σ'.pls σ.np).2) σ' := fun σ' A => by
      have e0 := A.e0
      have en := A.en
      rw [addP_same] at en
      obtain ⟨e, he⟩ := Int.eq_ofNat_of_zero_le e0
      rw [he] at en ⊢
      exact q e σ' ⟨A.ok, ⟨Nat.le_of_succ_le A.n, fun i hi => (A.o i (Nat.lt_succ_of_lt hi) (Nat.ne_of_lt hi)).trans (if_neg (Nat.ne_of_lt hi))⟩, hit_lt en, A.le⟩
    refine c_do_actions F (p := σ.np) (σ := σ.addP (plc k (n + 1), ((k + n : Nat) : Int) + 1)) ⟨o.nd, o.lt, o.mks, o.s, o.z, o.gl⟩ (Nat.lt_succ_self _) (by rw [addP_same]; exact po) (by rw [addP_same]; exact Int.le_add_one (Int.natCast_nonneg _)) ta hl (fun a ha x i hx hi => ?_) C.a (hs r hr) hit
    rw [addP_same] at hx
    obtain ⟨s, num⟩ := a
    have hx : (plc k (n + 1))[s]? = some (x : Int) := hx
    have hs : s < n + 1 := by have := (List.getElem?_eq_some_iff.mp hx).1; rw [plc_len] at this; exact this
    rw [plc_get hs] at hx
    cases Int.ofNat.inj (Option.some.inj hx)
    cases s with
    | zero => cases h.symm.trans hi; exact C.z num ha
    | succ s =>
      obtain ⟨i', hi', hf⟩ := m.i (s + 1) _ (List.getElem?_eq_getElem (en ▸ hs))
      cases hi'.symm.trans hi
      exact C.s (s + 1) num ha (Nat.succ_pos s) _ (List.getElem?_eq_getElem (en ▸ hs)) _ (o.gl _ (List.mem_of_getElem? hi)) hf
  exact ifB.d (fun _ => ⟨rfl, main⟩) fun _ => main
end

end
section
section
variable {cx : Cx} {d : Nat} {σ : St} {Q : U → St → Prop} {R : List U → St → Prop}
variable {st kd dp w : Nat} {tb : List U} {K : List Int} {lks : List LkD} {P : Nat → Int → Prop}
noncomputable abbrev U5 : List Int := [1, 2, 3, 4, 5]
structure DOk {α : Type} (ks : List Int) (l : List α) : Prop where
  e : ks.length = l.length
  l : ks.length ≤ 5
structure RuleOk (num : Nat) (r : RuleD) : Prop where
  i : 0 < r.inside.l.length ∧ r.inside.l.length ≤ 2
  b : r.back.l.length ≤ 1
  a : r.ahead.l.length ≤ 1
  n : r.actions.length ≤ 3
  x : ∀ a ∈ r.actions, a.1 < r.inside.l.length ∧ num < a.2
noncomputable def TblD.ok (num : Nat) : TblD → Prop
  | .single m => DOk m.1 m.2 ∧ ∀ v ∈ m.2, v ∈ U5
  | .mult m => DOk m.1 m.2 ∧ ∀ v ∈ m.2, v.length ≤ 2 ∧ ∀ x ∈ v, x ∈ U5
  | .alt m => DOk m.1 m.2 ∧ ∀ v ∈ m.2, v.length ≤ 2 ∧ ∀ x ∈ v, x ∈ U5
  | .lig m => DOk m.1 m.2 ∧ ∀ rs ∈ m.2, rs.length ≤ 2 ∧ ∀ p ∈ rs, p.1.length ≤ 2 ∧ p.2 ∈ U5
  | .rev m b a => DOk m.1 m.2 ∧ (∀ v ∈ m.2, v ∈ U5) ∧ b.length ≤ 1 ∧ a.length ≤ 1
  | .ctx c => c.ok ∧ (DOk c.ks c.sets ∧ DOk c.c0.1 c.c0.2 ∧ DOk c.c1.1 c.c1.2 ∧ DOk c.c2.1 c.c2.2 ∧ ∀ rs ∈ c.sets, rs ≠ []) ∧ ∀ rs ∈ c.sets, rs.length ≤ 2 ∧ ∀ r ∈ rs, RuleOk num r
noncomputable def TblD.hasK (k : Nat) : TblD → Prop
  | .single _ => k = 10 | .mult _ => k = 12 | .alt _ => k = 13 | .lig _ => k = 9 | .rev _ _ _ => k = 11 | .ctx _ => k = 7 ∨ k = 8
noncomputable def ClT (K : List Int) (P : Nat → Int → Prop) (g : Int) : TblD → Prop
  | .single m => ∀ v, dGet g m.1 m.2 = some v → v ∈ K
  | .mult m => ∀ v, dGet g m.1 m.2 = some v → ∀ x ∈ v, x ∈ K
  | .alt m => ∀ v, dGet g m.1 m.2 = some v → ∀ x ∈ v, x ∈ K
  | .lig m => ∀ rs, dGet g m.1 m.2 = some rs → ∀ p ∈ rs, (∀ x ∈ p.1, x ∈ K) → p.2 ∈ K
  | .rev m b a => ∀ v, dGet g m.1 m.2 = some v → (∀ c ∈ b ++ a, ∃ h ∈ K, hasF c h = true) → v ∈ K
  | .ctx c => ClosedCtx K P g c
theorem Hit.mono {k a b m : Nat} {σ' : St} (h : Hit K σ k a m σ') (l : a ≤ b) : Hit K σ k b m σ' := { h with le := Nat.le_trans h.le (Nat.add_le_add_left l _) }
theorem rulesAt_of {c : CtxD} {g : Int} {p : RuleD → Prop} (h : ∀ rs ∈ c.sets, ∀ r ∈ rs, p r) : ∀ r ∈ c.rulesAt g, p r := by
  have hd : ∀ k, ∀ r ∈ (dGet k c.ks c.sets).getD [], p r := fun k r hr => by
    cases e : dGet k c.ks c.sets with
    | none => rw [e] at hr; exact nomatch hr
    | some rs => rw [e] at hr; exact h _ (dGet_mem e) r hr
  intro r hr
  unfold CtxD.rulesAt at hr
  split at hr
  · exact hd _ r hr
  · cases e : hasF c.cov g with
    | true => rw [e] at hr; exact hd _ r hr
    | false => rw [e] at hr; exact nomatch hr
  · cases e : c.sets with
    | nil => rw [e] at hr; exact nomatch hr
    | cons rs l => rw [e] at hr; exact h rs (e ▸ .head _) r (List.mem_filter.mp hr).1
theorem Row.tests_len {form : Nat} {c : Cls} : ∀ {r : Row}, (r.tests form c).length = r.l.length
  | .is l => by
    show (bif Nat.beq form 1 then l.map Tst.glyph else l.map (.cls c)).length = (l.map U.i).length
    cases Nat.beq form 1 <;> exact (List.length_map ..).trans (List.length_map ..).symm
  | .cs l => (List.length_map ..).trans (List.length_map ..).symm
theorem RuleOk.tests {num : Nat} {r : RuleD} (h : RuleOk num r) (c : CtxD) : (c.tests r).ok := ⟨by
  show 0 < (r.inside.tests c.form c.c1).length ∧ (r.inside.tests c.form c.c1).length ≤ 100
  rw [Row.tests_len]; exact ⟨h.i.1, Nat.le_trans h.i.2 (by decide)⟩, h.n⟩
theorem c_apply_table (F : Facts cx) {t : TblD} {u : U} {num kind k j : Nat} (eu : t.u = u) (h : σ.row[k]? = some j) (o : Ok K σ) (okt : t.ok num) (hk : t.hasK kind) (cl : ClT K P (σ.inf j).g t) (hr : 0 < dp ∨ kind ≠ 11) (hw : 0 < w) (hs : ∀ n, num < n → SubAt cx lks K P (d + 8) n w) (hl : σ.row.length + 3 * w ≤ 900)
    (q0 : Q (.i (-1)) σ) (q : ∀ m σ', Hit K σ k (3 * w) m σ' → Q (.i m) σ') : CallT cx (d + 12) 108 [scn st (lksU lks) kd tb dp, .s kind, u, .i k] σ Q := by
  subst eu
  have l9 : σ.row.length ≤ 998 := Nat.le_trans (Nat.le_trans (Nat.le_add_right _ _) hl) (by decide)
  have q1 : ∀ m σ', Hit K σ k 0 m σ' → Q (.i m) σ' := fun m σ' x => q m σ' (x.mono (Nat.zero_le _))
  cases t with
  | single m => cases hk; exact fcall 0 F rfl (c_apply_single F h o okt.1.e cl q0 q1)
  | mult m => cases hk; exact fcall 0 F rfl (c_apply_multiple F h o okt.1.e l9 (fun v e => ⟨(okt.2 v (dGet_mem e)).1, cl v e⟩) q0 fun m σ' x => q m σ' (x.mono (Nat.le_trans hw (Nat.le_mul_of_pos_left w (by decide)))))
  | alt m => cases hk; exact fcall 0 F rfl (c_apply_alternate F h o cl q0 q1)
  | lig m => cases hk; exact fcall 0 F rfl (c_apply_ligature F h o (Nat.le_succ_of_le l9) (fun rs e p hp => ⟨((okt.2 rs (dGet_mem e)).2 p hp).1, cl rs e p hp⟩) q0 q1)
  | rev m b a => cases hk; exact fcall 0 F rfl (c_reverse_deep F h (hr.resolve_right fun n => n rfl) q0)
  | ctx c =>
    have hr := rulesAt_of (g := (σ.inf j).g) fun rs hrs => (okt.2.2 rs hrs).2
    have this := fun Q' (q0 : Q' (.i (-1)) σ) (q : ∀ m σ', Hit K σ k (3 * w) m σ' → Q' (.i m) σ') => c_apply_context (d := d) (st := st) (kd := kd) (dp := dp) (tb := tb) (Q := Q') F h o okt.1 (fun r hm => (hr r hm).tests c) cl (fun r hm a ha => hs _ ((hr r hm).x a ha).2) hl q0 q
    rcases hk with rfl | rfl <;> exact fcall 0 F rfl (this _ q0 q)
structure LkD.ok (num : Nat) (l : LkD) : Prop where
  t : ∀ t ∈ l.tabs, t.ok num ∧ t.hasK l.kind
  n : l.tabs.length ≤ 2
  k : Nat.blt l.kind 17 = true
theorem guB_mk {c : Bool} {X : Prop} (h : c = true) (x : X) : guB c X := by subst h; exact x
theorem c_substitute_at (F : Facts cx) {l : LkD} {num k j : Nat} (h : σ.row[k]? = some j) (o : Ok K σ) (okl : l.ok num) (cl : ∀ t ∈ l.tabs, ClT K P (σ.inf j).g t) (hr : 0 < dp ∨ l.kind ≠ 11) (hw : 0 < w) (hs : ∀ n, num < n → SubAt cx lks K P (d + 8) n w) (hl : σ.row.length + 3 * w ≤ 900)
    (q0 : Q (.i (-1)) σ) (q : ∀ m σ', Hit K σ k (3 * w) m σ' → Q (.i m) σ') : CallT cx (d + 13) 109 [scn st (lksU lks) l.kind (l.tabs.map TblD.u) dp, .i k] σ Q := by
  let f : U → U → Os := fun x y => [scn st (lksU lks) l.kind (l.tabs.map TblD.u) dp, .i k, x, y]
  refine fcall 2 F rfl (ForT.m (fun _ => HtI σ f 0) (.mk .un .un) (fun n t os σ' ht J => ⟨rfl, ?_⟩) fun os σ' J => ⟨rfl, HtI.casesOn J fun _ _ => q0⟩)
  refine HtI.casesOn J fun _ _ => ?_
  have ht := List.mem_of_getElem? ht
  obtain ⟨c, x, e⟩ : ∃ c x, t.u = .fo c x := by cases t <;> exact ⟨_, _, rfl⟩
  rw [e]
  refine c_apply_table F e h o (okl.t t ht).1 (okl.t t ht).2 (cl t ht) hr hw hs hl (HtI.mk (f := f) _ _) fun m σ' x => q m σ' x
theorem sub_all (F : Facts cx) (ok : ∀ (j : Nat) l, lks[j]? = some l → l.ok j) (cl : ∀ (j : Nat) l g, lks[j]? = some l → P j g → ∀ t ∈ l.tabs, ClT K P g t) (hn : lks.length ≤ 3) : ∀ i n : Nat, 3 ≤ n + i → SubAt cx lks K P (d + 5 * i + 8) n (3 ^ i)
  | 0, n, hi => fun l hl => nomatch (Nat.not_le_of_lt (List.getElem?_eq_some_iff.mp hl).1 (Nat.le_trans hn hi))
  | i + 1, n, hi => fun l hl σ st dp k j Q o h hP hle hd q0 q => by
    have e : 3 ^ (i + 1) = 3 * 3 ^ i := (Nat.pow_succ ..).trans (Nat.mul_comm ..)
    rw [e] at hle
    exact c_substitute_at (d := d + 5 * i) F h o (ok n l hl) (fun t ht => cl n l _ hl hP t ht) (.inl hd) (Nat.pow_pos (by decide)) (fun m hm => sub_all F ok cl hn i m (by lia)) hle q0 fun m σ' x => q m σ' (e ▸ x)
end

end
section
section
variable {cx : Cx} {d : Nat} {σ : St} {Q : U → St → Prop} {R : List U → St → Prop}
variable {st kd dp w : Nat} {tb : List U} {K : List Int} {lks : List LkD} {P : Nat → Int → Prop}
theorem c_sub_rev (F : Facts cx) {tabs : List TblD} {ls : List U} {num k j : Nat} (h : σ.row[k]? = some j) (o : Ok K σ) (okl : (LkD.mk 11 tabs).ok num) (cl : ∀ t ∈ tabs, ClT K P (σ.inf j).g t)
    (q0 : Q (.i (-1)) σ) (q : ∀ σ', Ok K σ' → Gp σ σ' → σ'.row = σ.row → Q (.i k) σ') : CallT cx (d + 10) 109 [scn st ls 11 (tabs.map TblD.u) 0, .i k] σ Q := by
  let f : U → U → Os := fun x y => [scn st ls 11 (tabs.map TblD.u) 0, .i k, x, y]
  refine fcall 2 F rfl (ForT.m (fun _ => HtI σ f 0) (.mk .un .un) (fun n t os σ' ht J => ⟨rfl, ?_⟩) fun os σ' J => ⟨rfl, HtI.casesOn J fun _ _ => q0⟩)
  refine HtI.casesOn J fun _ _ => ?_
  have ht := List.mem_of_getElem? ht
  obtain ⟨okt, hk⟩ := okl.t t ht
  have cl := cl t ht
  cases t with
  | rev m b a =>
    refine (show ∀ Q', Q' (.i (-1)) σ → (∀ σ', Ok K σ' → Gp σ σ' → σ'.row = σ.row → Q' (.i k) σ') → CallT cx (d + 9) 108 [scn st ls 11 (tabs.map TblD.u) 0, .s 11, revU m b a, .i k] σ Q' from fun Q' q0 q => fcall 0 F rfl (c_reverse F h o okt.1.e cl q0 q)) _ (HtI.mk (f := f) _ _) q
  | single m => exact nomatch hk
  | mult m => exact nomatch hk
  | alt m => exact nomatch hk
  | lig m => exact nomatch hk
  | ctx c => exact nomatch hk
structure RgB (n : Nat) : Prop where
  s : Builtin.Range.small ((n : Int) - 1) (-1) (-1) = true
  l : (rngL ((n : Int) - 1) (-1) (-1)).length ≤ mxL
  e : (rngL ((n : Int) - 1) (-1) (-1)).map U.i = (List.range n).map fun (k : Nat) => U.i ((n - 1 - k : Nat) : Int)
theorem rgB {n : Nat} (h : n ≤ 999) : RgB n := by
  have hs : (Builtin.Range.rangeSize ((n : Int) - 1) (-1) (-1)).toNat = n := by rw [PySem.W.rangeSize_downNat]; lia
  refine ⟨PySem.W.small_down (by lia) (by lia) (by decide) (by decide), ?_, ?_⟩
  · unfold rngL; rw [List.length_map, List.length_range, hs]; exact Nat.le_trans h (by decide)
  · unfold rngL; rw [hs, List.map_map]
    exact List.map_congr_left fun k hk => congrArg U.i (by have := List.mem_range.mp hk; lia)
structure Run (K : List Int) (σ σ' : St) (c : Nat) : Prop where
  ok : Ok K σ'
  gp : Gp σ σ'
  z : c = 0 → σ' = σ
inductive RbI (K : List Int) (σ : St) (f : U → U → Os) (n : Nat) : Os → St → Prop
  | mk (c : Nat) (x : U) (σ' : St) (r : Run K σ σ' c) (e : σ'.row = σ.row) : RbI K σ f n (f (.i c) x) σ'
theorem c_run_backward (F : Facts cx) {tabs : List TblD} {ls : List U} {num : Nat} (o : Ok K σ) (okl : (LkD.mk 11 tabs).ok num) (cl : ∀ g ∈ K, ∀ t ∈ tabs, ClT K P g t) (hl : σ.row.length ≤ 999)
    (q : ∀ c σ', Run K σ σ' c → σ'.row = σ.row → Q (.i c) σ') : CallT cx (d + 11) 111 [scn st ls 11 (tabs.map TblD.u) 0] σ Q := by
  let f : U → U → Os := fun c x => [scn st ls 11 (tabs.map TblD.u) 0, c, x]
  have rf := rgB hl
  refine fcall 2 F rfl ?_
  refine ⟨rfl, PyProof.noPylong_small (by decide), ⟨rf.s, rf.l⟩, ?_⟩
  rw [rf.e]
  refine ForT.m (RbI K σ f) (.mk 0 _ σ ⟨o, .refl, fun _ => rfl⟩ rfl) (fun n t os σ' ht J => ⟨trivial, ?_⟩) fun os σ' J => ⟨trivial, ?_⟩
  · refine RbI.casesOn J fun c x σ' r e => ?_
    have hn : n < σ.row.length := by have := (List.getElem?_eq_some_iff.mp ht).1; rw [List.length_range] at this; exact this
    rw [List.getElem?_range hn] at ht
    cases ht
    have hi : σ'.row[σ.row.length - 1 - n]? = some _ := List.getElem?_eq_getElem (by rw [e]; lia)
    have next : ∀ σ2, Ok K σ2 → Gp σ' σ2 → σ2.row = σ'.row → RbI K σ f (n + 1) (f (.i (c + 1 : Nat)) (.i ((σ.row.length - 1 - n : Nat) : Int))) σ2 := fun σ2 o2 g2 e2 => .mk (c + 1) _ σ2 ⟨o2, r.gp.trans g2, fun h => nomatch h⟩ (e2.trans e)
    exact c_takes F hi r.ok.mks (c_sub_rev F hi r.ok okl (cl _ (r.ok.gl _ (List.mem_of_getElem? hi))) (RbI.mk (f := f) c _ σ' r e) next)
  · refine RbI.casesOn J fun c x σ' r e => ?_
    exact q c σ' r e
end

end
section
section
variable {cx : Cx} {d : Nat} {σ : St} {Q : U → St → Prop} {R : List U → St → Prop}
variable {st kd dp w : Nat} {tb : List U} {K : List Int} {lks : List LkD} {P : Nat → Int → Prop}
inductive RfI (K : List Int) (σ : St) (f : U → U → U → Os) (n : Nat) : Os → St → Prop
  | mk (c k : Nat) (x : U) (σ' : St) (r : Run K σ σ' c) (h : σ'.row.length + 27 * (σ'.row.length - k) ≤ 340) (e : n = σ'.row.length - k) : RfI K σ f n (f (.i c) (.i k) x) σ'
theorem rf_step {a b k m : Nat} (h : a + 27 * (a - k) ≤ 340) (h1 : b + k < a + m) (h2 : b ≤ a + 27) (h3 : k < a) : b + 27 * (b - m) ≤ 340 ∧ b - m < a - k := by lia
theorem c_run_forward (F : Facts cx) {l : LkD} {num : Nat} (o : Ok K σ) (okl : l.ok num) (cl : ∀ g ∈ K, ∀ t ∈ l.tabs, ClT K P g t) (hr : l.kind ≠ 11) (hs : ∀ n, num < n → SubAt cx lks K P (d + 8) n 9) (hl : σ.row.length ≤ 12)
    (q : ∀ (c : Nat) σ', Run K σ σ' c → σ'.row.length ≤ 340 → Q (.i c) σ') : CallT cx (d + 14) 110 [scn st (lksU lks) l.kind (l.tabs.map TblD.u) 0] σ Q := by
  let f : U → U → U → Os := fun c k x => [scn st (lksU lks) l.kind (l.tabs.map TblD.u) 0, c, k, x]
  refine fcall 3 F rfl (WhT.mk (RfI K σ f) _ (.mk 0 0 _ σ ⟨o, .refl, fun _ => rfl⟩ (Nat.le_trans (Nat.add_le_add hl (Nat.mul_le_mul_left 27 hl)) (by decide)) rfl) fun n os σ' J => ?_)
  refine RfI.casesOn J fun c k x σ' r h e => ?_
  refine ifB.d (fun hk => ?_) fun _ => q c σ' r (Nat.le_trans (Nat.le_add_right _ _) h)
  have hk : k < σ'.row.length := Int.ofNat_lt.mp hk
  have hi : σ'.row[k]? = some _ := List.getElem?_eq_getElem hk
  refine c_takes F hi r.ok.mks (c_substitute_at (w := 9) F hi r.ok okl (cl _ (r.ok.gl _ (List.mem_of_getElem? hi))) (.inr hr) (by decide) hs (Nat.le_trans (Nat.add_le_add_right (Nat.le_trans (Nat.le_add_right _ _) h) _) (by decide)) ?_ fun m σ2 H => ?_)
  · obtain ⟨h1, h2⟩   := rf_step (m := k + 1) h (Nat.lt_succ_self (σ'.row.length + k)) (Nat.le_add_right _ _) hk
    exact ⟨_, e ▸ h2, RfI.mk (f := f) c (k + 1) _ σ' r h1 rfl⟩
  · obtain ⟨h1, h2⟩ := rf_step h H.lt H.le hk
    exact ⟨_, e ▸ h2, RfI.mk (f := f) (c + 1) m _ σ2 ⟨H.ok, r.gp.trans H.gp, fun h => nomatch h⟩ h1 rfl⟩
theorem c_run_substitution (F : Facts cx) {l : LkD} {j : Nat} (o : Ok K σ) (hl : σ.row.length ≤ 12) (hj : lks[j]? = some l)
    (hok : ∀ (j : Nat) l, lks[j]? = some l → l.ok j) (hcl : ∀ (j : Nat) l g, lks[j]? = some l → P j g → ∀ t ∈ l.tabs, ClT K P g t) (hn : lks.length ≤ 3) (hP : ∀ g ∈ K, P j g)
    (q : ∀ (c : Nat) σ', Run K σ.ns1 σ' c → σ'.row.length ≤ 340 → Q (.i c) σ') : CallT cx (d + 25) 112 [.lo .buf, gdefU, .fl (lksU lks), .i j, .i 3] σ Q := by
  have o' : Ok K σ.ns1 := o.ns
  have cl := fun g hg => hcl j l g hj (hP g hg)
  have okl := hok j l hj
  refine fcall 1 F rfl (mapI (c := LkD.u) hj rfl (c_Scene5 F (guB_mk (congrArg (· && Nat.blt 11 17) okl.k) (ifB.mk (fun hk => ?_) fun hk => ?_))))
  · obtain ⟨kind, tabs⟩ := l
    have hk : kind = 11 := Nat.eq_of_beq_eq_true hk
    subst hk
    exact c_run_backward F o' okl cl (Nat.le_trans hl (by decide)) fun c σ' r e => q c σ' r (Nat.le_trans (Nat.le_of_eq (congrArg List.length e)) (Nat.le_trans hl (by decide)))
  · exact c_run_forward (d := d + 10) F o' okl cl (Nat.ne_of_beq_eq_false hk) (fun n hn' => sub_all F hok hcl hn 2 n (by lia)) hl q
end

end
section
section
variable {cx : Cx} {d : Nat} {σ : St} {Q : U → St → Prop} {R : List U → St → Prop}
theorem inB {a : Int} {K : List Int} {Y : U → St → Prop} (y : Y (.b (decide (a ∈ K))) σ) : (a ∈ K → Y (.b true) σ) ∧ (¬ a ∈ K → Y (.b false) σ) := by
  by_cases h : a ∈ K
  · rw [decide_eq_true h] at y; exact ⟨fun _ => y, fun n => absurd h n⟩
  · rw [decide_eq_false h] at y; exact ⟨fun q => absurd q h, fun _ => y⟩
theorem allE {α : Type} {l : List α} {f : α → Bool} (P : Bool → Prop) (q : P (l.all f)) : P ((l.map f).all id) := by rw [List.all_map]; exact q
theorem anyE {α : Type} {l : List α} {f : α → Bool} (P : Bool → Prop) (q : P (l.any f)) : P ((l.map f).any id) := by rw [List.any_map]; exact q
noncomputable def metB (K : List Int) (cs : List (List Int)) : Bool := cs.all fun c => c.any fun g => decide (g ∈ K)
theorem c_is_met (F : Facts cx) {cs : List (List Int)} {xs : List U} (hx : cs.map covU = xs) (q : Q (.b (metB σ.held cs)) σ) : CallT cx (d + 1) 43 [.tu xs, .lo .held] σ Q := by
  subst hx
  exact fcall 0 F rfl (CompT.m (c' := U.b) (fun c : List Int => c.any fun g => decide (g ∈ σ.held)) trivial (fun c _ Y N y => CompT.m (c' := U.b) (fun g : Int => decide (g ∈ σ.held)) trivial (fun g _ Y N y => inB y) ⟨_, rfl, anyE (fun b => Y (.b b) σ) y⟩) ⟨_, rfl, allE (fun b => Q (.b b) σ) q⟩)
noncomputable def fitB (K : List Int) (ts : List Tst) : Bool := ts.all fun t => K.any fun g => t.fits g
theorem Tst.uT (t : Tst) : ∃ l, t.u = .tu l := by cases t <;> exact ⟨_, rfl⟩
theorem c_fitsT (F : Facts cx) {g : Int} {t : Tst} {l : List U} (e : t.u = .tu l) (q : Q (.b (t.fits g)) σ) : CallT cx (d + 3) 31 [.tu l, .i g] σ Q := e ▸ c_fits F q
theorem c_is_fitted (F : Facts cx) {ts : List Tst} {xs : List U} (hx : ts.map Tst.u = xs) (q : Q (.b (fitB σ.held ts)) σ) : CallT cx (d + 4) 44 [.fl xs, .lo .held] σ Q := by
  subst hx
  exact fcall 0 F rfl (CompT.m (c' := U.b) (fun t : Tst => σ.held.any fun g => t.fits g) rfl (fun t _ Y N y => by
    obtain ⟨l, e⟩ := t.uT
    rw [e]
    exact CompT.m (c' := U.b) (fun g : Int => t.fits g) ⟨rfl, rfl⟩ (fun g _ Y N y => c_fitsT F e y) ⟨_, rfl, anyE (fun b => Y (.b b) σ) y⟩) ⟨_, rfl, allE (fun b => Q (.b b) σ) q⟩)
noncomputable abbrev ligM (K : List Int) (p : List Int × Int) : Option Int := if p.1.all (fun o => decide (o ∈ K)) = true then some p.2 else none
theorem c_made_by_ligature (F : Facts cx) {m : List Int × List (List (List Int × Int))} {g : Int} (q : Q (.fl ((((dGet g m.1 m.2).getD []).filterMap (ligM σ.held)).map .i)) σ) : CallT cx (d + 1) 45 [ligU m, .i g, .lo .held] σ Q := by
  have e : (dGet g m.1 (m.2.map fun rs => U.fl (rs.map rowU))).getD (.fl []) = .fl (((dGet g m.1 m.2).getD []).map rowU) := by rw [dGet_map]; cases dGet g m.1 m.2 <;> rfl
  refine fcall 3 F rfl ?_
  refine (show ∀ u, u = .fl (((dGet g m.1 m.2).getD []).map rowU) → srcU σ (fun xs stay => CompT (fun x σ Y N => asP (osC [none, none, none, none, some 2] [ligU m, .i g, .lo .held, .un, .un, .un]) (fun os2 => (ev (CallT cx d) (.bi .all (.cons (.comp ([none, none, some 4]) (.n 1) (.v 1) (.k (.b true)) (.cmp .isin (.v 1) (.v 2))) .nil))).t os2 σ (fun σ2 => (ev (CallT cx d) (.v 2)).e os2 σ2 fun z σ3 => guB z.pl (Y z σ3)) N) (.t [1, 2]) x) xs stay (fun u σ1 => plQ (fun u => Q u σ1) u) σ) u from fun u hu => ?_) _ e
  subst hu
  refine CompT.fm (c' := U.i) (ligM σ.held) rfl (fun p _ Y N y n => CompT.m (c' := U.b) (fun o : Int => decide (o ∈ σ.held)) trivial (fun g _ Y N y => inB y) ⟨_, rfl, allE (fun b => ifB b (Y (.i p.2) σ) (N σ)) ?_⟩) q
  exact ifB.mk (fun h => y _ (if_pos h)) fun h => n (if_neg (ne_true_of_eq_false h))
end

end
section
section
variable {cx : Cx} {d : Nat} {σ : St} {Q : U → St → Prop} {R : List U → St → Prop}
theorem hasF_mem {c : List Int} {h : Int} (e : hasF c h = true) : h ∈ c := by
  have e : (decide (bs c h c.length 0 c.length < c.length) && decide (c.getD (bs c h c.length 0 c.length) 0 = h)) = true := e
  rw [Bool.and_eq_true] at e
  have l := of_decide_eq_true e.1
  rw [← of_decide_eq_true e.2, List.getD_eq_getElem?_getD, List.getElem?_eq_getElem l]
  exact List.getElem_mem l
theorem dGet_key {α : Type} {k : Int} : ∀ {ks : List Int} {l : List α} {x : α}, dGet k ks l = some x → k ∈ ks
  | [], [], _, h => nos h
  | [], _ :: _, _, h => nos h
  | _ :: _, [], _, h => nos h
  | j :: ks, a :: l, x, h => by
    have h : (if j = k then some a else dGet k ks l) = some x := h
    by_cases e : j = k
    · subst e; exact .head _
    · rw [if_neg e] at h; exact .tail _ (dGet_key h)
theorem c_made_by (F : Facts cx) {t : TblD} {u : U} (eu : t.u = u) {g : Int} {kind num : Nat} (okt : t.ok num) (hk : t.hasK kind) (hn : ∀ c, t ≠ .ctx c)
    (q : ∀ ms : List Int, (∀ x ∈ ms, x ∈ U5) → ((∀ x ∈ ms, x ∈ σ.held) → ∀ P, ClT σ.held P g t) → Q (.fl (ms.map .i)) σ) : CallT cx (d + 2) 46 [.s kind, u, .i g, .lo .held] σ Q := by
  subst eu
  cases t with
  | single m =>
    cases hk
    refine fcall 0 F rfl ⟨fun hin => ?_, fun hn => q [] nofun fun _ P v e => absurd (dGet_key e) hn⟩
    obtain ⟨v, e⟩ := dGet_of okt.1.e hin
    exact ⟨_, dGet_m e, q [v] (fun x h => by cases List.mem_singleton.mp h; exact okt.2 _ (dGet_mem e)) fun h P v' e' => by cases e.symm.trans e'; exact h _ (.head _)⟩
  | mult m =>
    cases hk
    refine fcall 0 F rfl ⟨fun hin => ?_, fun hn => q [] nofun fun _ P v e => absurd (dGet_key e) hn⟩
    obtain ⟨v, e⟩ := dGet_of okt.1.e hin
    exact ⟨_, dGet_m e, q v (okt.2 v (dGet_mem e)).2 fun h P v' e' => by cases e.symm.trans e'; exact h⟩
  | alt m =>
    cases hk
    refine fcall 0 F rfl ⟨fun hin => ?_, fun hn => q [] nofun fun _ P v e => absurd (dGet_key e) hn⟩
    obtain ⟨v, e⟩ := dGet_of okt.1.e hin
    exact ⟨_, dGet_m e, q v (okt.2 v (dGet_mem e)).2 fun h P v' e' => by cases e.symm.trans e'; exact h⟩
  | lig m =>
    cases hk
    have hm : ∀ p ∈ (dGet g m.1 m.2).getD [], p.2 ∈ U5 := fun p hp => by
      cases e : dGet g m.1 m.2 with
      | none => rw [e] at hp; exact nomatch hp
      | some rs => rw [e] at hp; exact ((okt.2 rs (dGet_mem e)).2 p hp).2
    refine fcall 0 F rfl (c_made_by_ligature F (q _ (fun x hx => ?_) fun h P rs e p hp hK => h _ (List.mem_filterMap.mpr ⟨p, by rw [e]; exact hp, if_pos (List.all_eq_true.mpr fun o ho => decide_eq_true (hK o ho))⟩)))
    obtain ⟨p, hp, e⟩ := List.mem_filterMap.mp hx
    have e : (if p.1.all (fun o => decide (o ∈ σ.held)) = true then some p.2 else none) = some x := e
    split at e
    · cases e; exact hm p hp
    · exact nos e
  | rev m b a =>
    cases hk
    refine fcall 0 F rfl ⟨fun hin => ?_, fun hn => q [] nofun fun _ P v e => absurd (dGet_key e) hn⟩
    obtain ⟨v, e⟩ := dGet_of okt.1.e hin
    refine ⟨?_, c_is_met F List.map_append (ifB.mk (fun _ => ⟨_, dGet_m e, q [v] (fun x h => by cases List.mem_singleton.mp h; exact okt.2.1 _ (dGet_mem e)) fun h P v' e' _ => by cases e.symm.trans e'; exact h _ (.head _)⟩) fun hm => q [] nofun fun _ P v e hc => ?_)⟩
    · rw [List.length_map, List.length_map]; exact Nat.le_trans (Nat.add_le_add okt.2.2.1 okt.2.2.2) (by decide)
    · refine absurd (List.all_eq_true.mpr fun c hcm => ?_) (ne_true_of_eq_false hm)
      obtain ⟨h, h1, h2⟩ := hc c hcm
      exact List.any_eq_true.mpr ⟨h, hasF_mem h2, decide_eq_true h1⟩
  | ctx c => exact absurd rfl (hn c)
end

end
section
section
variable {cx : Cx} {d : Nat} {σ : St} {Q : U → St → Prop} {R : List U → St → Prop}
theorem isort_mem {K : List Int} {x : Int} : x ∈ isort K ↔ x ∈ K := (List.mergeSort_perm K _).mem_iff
theorem isort_sorted (K : List Int) : (isort K).Pairwise (· ≤ ·) := (List.pairwise_mergeSort (le := fun a b : Int => decide (a ≤ b)) (fun a b c h1 h2 => decide_eq_true (Int.le_trans (of_decide_eq_true h1) (of_decide_eq_true h2))) (fun a b => (Int.le_total a b).elim (fun h => by rw [decide_eq_true h]; rfl) fun h => by rw [decide_eq_true h, Bool.or_true]) K).imp of_decide_eq_true
theorem sub_of_sorted : ∀ {b a : List Int}, a.Pairwise (· < ·) → b.Pairwise (· < ·) → (∀ x ∈ a, x ∈ b) → a.Sublist b
  | b, [], _, _, _ => List.nil_sublist _
  | [], x :: a, _, _, h => nomatch h x (.head _)
  | y :: b, x :: a, ha, hb, h => by
    obtain ⟨ha1, ha2⟩ := List.pairwise_cons.mp ha
    obtain ⟨hb1, hb2⟩ := List.pairwise_cons.mp hb
    have tl : ∀ z, z ∈ y :: b → y < z → z ∈ b := fun z hz hl => (List.mem_cons.mp hz).resolve_left fun e => absurd (e ▸ hl) (Int.lt_irrefl _)
    rcases List.mem_cons.mp (h x (.head _)) with e | e
    · subst e
      exact (sub_of_sorted ha2 hb2 fun z hz => tl z (h z (.tail _ hz)) (ha1 z hz)).cons_cons _
    · refine (sub_of_sorted ha hb2 fun z hz => tl z (h z hz) ?_).cons _
      rcases List.mem_cons.mp hz with e2 | e2
      · exact e2 ▸ hb1 x e
      · exact Int.lt_trans (hb1 x e) (ha1 z e2)
noncomputable abbrev KeyOk (b : List Int) : Prop := b.Sublist U5
structure HK (K : List Int) : Prop where
  nd : K.Nodup
  u : ∀ x ∈ K, x ∈ U5
theorem HK.key {K : List Int} (h : HK K) : KeyOk (isort K) := sub_of_sorted (((isort_sorted K).and ((List.mergeSort_perm K _).nodup_iff.mpr h.nd)).imp fun ⟨a, b⟩ => Int.lt_iff_le_and_ne.mpr ⟨a, b⟩) (by decide) fun x hx => h.u x (isort_mem.mp hx)
theorem HK.len {K : List Int} (h : HK K) : K.length ≤ 5 := by
  have := h.key.length_le
  unfold isort at this
  rw [List.length_mergeSort] at this
  exact this
structure Bg (K : List Int) (ts : List Tst) (s : Nat) (g : Int) (b : List Int) : Prop where
  k : KeyOk b
  z : s = 0 → g ∈ b
  s : 0 < s → ∀ x, ts[s]? = some x → ∀ h ∈ K, x.fits h = true → h ∈ b
theorem c_begun_by (F : Facts cx) {ts : List Tst} {s : Nat} {g : Int} (hk : HK σ.held) (hg : g ∈ U5) (hs : s < ts.length) (q : ∀ b, Bg σ.held ts s g b → Q (.tu (b.map .i)) σ) : CallT cx (d + 4) 47 [tstsU ts, .i s, .i g, .lo .held] σ Q := by
  have hx : ts[s]? = some ts[s] := List.getElem?_eq_getElem hs
  refine fcall 1 F rfl (ifB.d (fun h => q [g] ⟨List.singleton_sublist.mpr hg, fun _ => .head _, fun h0 => absurd (Int.ofNat.inj h) (Nat.ne_of_gt h0)⟩) fun h0 => ⟨Nat.lt_of_le_of_lt hk.len (by decide), ?_⟩)
  refine CompT.fm (c' := U.i) (Option.guard fun o => ts[s].fits o) rfl (fun o _ Y N y n => mapI hx rfl ?_) (q _ ⟨?_, fun e => absurd (e ▸ rfl) h0, fun _ x e h hK hf => ?_⟩)
  · obtain ⟨l, e⟩ := ts[s].uT
    rw [e]
    exact c_fitsT F e (ifB.mk (fun h => y o (if_pos h)) fun h => n (if_neg (ne_true_of_eq_false h)))
  · rw [show List.filterMap (Option.guard fun o => ts[s].fits o) = List.filter fun o => ts[s].fits o from List.filterMap_eq_filter]
    exact List.filter_sublist.trans hk.key
  · cases hx.symm.trans e
    exact List.mem_filterMap.mpr ⟨h, isort_mem.mpr hK, if_pos hf⟩
end

end
section
section
variable {cx : Cx} {d : Nat} {σ : St} {Q : U → St → Prop} {R : List U → St → Prop}
theorem rulesAt_len {c : CtxD} {g : Int} {n : Nat} (h : ∀ rs ∈ c.sets, rs.length ≤ n) : (c.rulesAt g).length ≤ n := by
  have hd : ∀ k, ((dGet k c.ks c.sets).getD []).length ≤ n := fun k => by
    cases e : dGet k c.ks c.sets with
    | none => exact Nat.zero_le _
    | some rs => exact h _ (dGet_mem e)
  unfold CtxD.rulesAt
  split
  · exact hd _
  · cases e : hasF c.cov g with
    | true => exact hd _
    | false => exact Nat.zero_le _
  · cases e : c.sets with
    | nil => exact Nat.zero_le _
    | cons rs l => exact Nat.le_trans (List.length_filter_le _ _) (h rs (e ▸ .head _))
noncomputable abbrev Stp := Nat × List Int
noncomputable abbrev stepU (s : Stp) : U := .tu [.i s.1, .tu (s.2.map .i)]
noncomputable def Lead (K : List Int) (P : Nat → Int → Prop) (s : Stp) : Prop := ∀ h, (s.2 = [] → h ∈ K) → (s.2 ≠ [] → h ∈ s.2) → P s.1 h
structure Sf (K : List Int) (X : (Nat → Int → Prop) → Prop) (n : Nat) (l : List Stp) : Prop where
  n : l.length ≤ n
  k : ∀ s ∈ l, KeyOk s.2
  x : ∀ P, (∀ s ∈ l, Lead K P s) → X P
theorem Sf.mono {K : List Int} {X Y : (Nat → Int → Prop) → Prop} {n m : Nat} {l : List Stp} (h : Sf K X n l) (hn : n ≤ m) (f : ∀ P, X P → Y P) : Sf K Y m l := ⟨Nat.le_trans h.n hn, h.k, fun P y => f P (h.x P y)⟩
theorem Sf.app {K : List Int} {X Y : (Nat → Int → Prop) → Prop} {n m : Nat} {l r : List Stp} (h : Sf K X n l) (y : Sf K Y m r) : Sf K (fun P => X P ∧ Y P) (n + m) (l ++ r) :=
  ⟨by rw [List.length_append]; exact Nat.add_le_add h.n y.n, fun s hs => (List.mem_append.mp hs).elim (h.k s) (y.k s), fun P p => ⟨h.x P fun s hs => p s (List.mem_append_left _ hs), y.x P fun s hs => p s (List.mem_append_right _ hs)⟩⟩
theorem Sf.one {K : List Int} {s : Stp} (h : KeyOk s.2) : Sf K (fun P => Lead K P s) 1 [s] := ⟨Nat.le_refl _, fun _ e => by cases List.mem_singleton.mp e; exact h, fun P p => p s (.head _)⟩
structure ActC (K : List Int) (P : Nat → Int → Prop) (g : Int) (ts : List Tst) (i : Nat) (a : Nat × Nat) : Prop where
  z : i = 0 → a.1 = 0 → P a.2 g
  s : i = 0 → 0 < a.1 → ∀ x, ts[a.1]? = some x → ∀ h ∈ K, x.fits h = true → P a.2 h
  a : 0 < i → ∀ h ∈ K, P a.2 h
theorem ClR.of {K : List Int} {P : Nat → Int → Prop} {g : Int} {t : TestsD} (h : ∀ (i : Nat) a, t.acts[i]? = some a → ActC K P g t.inside i a) : ClR K P g t :=
  ⟨fun n e => (h 0 _ e).z rfl rfl, fun s n e hs x hx y hy hf => (h 0 _ e).s rfl hs x hx y hy hf, fun i a hi e => (h i a e).a hi⟩
theorem ActC.bg {K : List Int} {P : Nat → Int → Prop} {g : Int} {ts : List Tst} {a : Nat × Nat} {b : List Int} (h : Bg K ts a.1 g b) (l : Lead K P (a.2, b)) (hf : a.1 = 0 → b ≠ []) : ActC K P g ts 0 a :=
  ⟨fun _ e => l g (fun e2 => absurd e2 (hf e)) fun _ => h.z e, fun _ hs x hx y hy hfx => l y (fun _ => hy) fun _ => h.s hs x hx y hy hfx, fun h => absurd h (Nat.lt_irrefl 0)⟩
theorem ActC.nil {K : List Int} {P : Nat → Int → Prop} {g : Int} {ts : List Tst} {i : Nat} {a : Nat × Nat} (l : Lead K P (a.2, [])) (hi : 0 < i) : ActC K P g ts i a :=
  ⟨fun e => absurd (e ▸ hi) (Nat.lt_irrefl 0), fun e => absurd (e ▸ hi) (Nat.lt_irrefl 0), fun _ h hK => l h (fun _ => hK) fun n => absurd rfl n⟩
theorem cutD {l : List U} : cutL l (clipAt l.length 1) l.length = l.drop 1 := by
  cases l with
  | nil => unfold cutL; rw [List.drop_nil, List.take_nil]; rfl
  | cons x r => exact cutE
end

end
section
section
variable {cx : Cx} {d : Nat} {σ : St} {Q : U → St → Prop} {R : List U → St → Prop}
inductive StpI (σ : St) (f : U → U → U → U → U → U → U → U → Os) (Y : Nat → List Stp → Prop) (n : Nat) : Os → St → Prop
  | mk (l : List Stp) (h : Y n l) (a b c d x y z : U) : StpI σ f Y n (f (.ol (l.map stepU)) a b c d x y z) σ
theorem stp_app {l : List Stp} {s : Stp} : (l.map stepU) ++ [stepU s] = (l ++ [s]).map stepU := by rw [List.map_append]; rfl
noncomputable def ActsC (K : List Int) (P : Nat → Int → Prop) (g : Int) (ts : List Tst) (acts : List (Nat × Nat)) (n : Nat) : Prop := ∀ (i : Nat) a, i < n → acts[i]? = some a → ActC K P g ts i a
theorem ActsC.succ {K : List Int} {P : Nat → Int → Prop} {g : Int} {ts : List Tst} {acts : List (Nat × Nat)} {n : Nat} {a : Nat × Nat} (h : ActsC K P g ts acts n) (e : acts[n]? = some a) (c : ActC K P g ts n a) : ActsC K P g ts acts (n + 1) := fun i b hi hb =>
  (Nat.lt_or_eq_of_le (Nat.le_of_lt_succ hi)).elim (fun hl => h i b hl hb) fun e2 => by subst e2; cases e.symm.trans hb; exact c
theorem nested_in (F : Facts cx) {T u4 u6 : U} {ts : List Tst} {acts : List (Nat × Nat)} {g : Int} {X : (Nat → Int → Prop) → Prop} {n0 : Nat} {l0 : List Stp} {a b c : U} {Z : KR} (hk : HK σ.held) (hg : g ∈ U5) (hx : ∀ p ∈ acts, p.1 < ts.length) (ha : acts.length ≤ 3) (hn : n0 ≤ 1000) (s0 : Sf σ.held X n0 l0)
    (fin : ∀ l x y z, Sf σ.held (fun P => X P ∧ ∀ (i : Nat) a, acts[i]? = some a → ActC σ.held P g ts i a) (n0 + 3) l → Z.n [T, .i g, .lo .held, .ol (l.map stepU), u4, tstsU ts, u6, .tu (acts.map actU), x, y, z] σ) :
    wS (CallT cx (d + 4)) (CallI cx (d + 4)) b48_2 [T, .i g, .lo .held, .ol (l0.map stepU), u4, tstsU ts, u6, .tu (acts.map actU), a, b, c] σ Z := by
  let f : U → U → U → U → U → U → U → U → Os := fun o _ _ _ _ x y z => [T, .i g, .lo .held, o, u4, tstsU ts, u6, .tu (acts.map actU), x, y, z]
  have rf : RgF 0 ((acts.map actU).length : Nat) acts.length := rgF (by rw [List.length_map, Int.zero_add]) (Int.le_refl 0) (by rw [List.length_map]; lia)
  refine ⟨⟨rf.s, rf.l⟩, ?_⟩
  rw [rf.e]
  let Y : Nat → List Stp → Prop := fun n l => Sf σ.held (fun P => X P ∧ ActsC σ.held P g ts acts n) (n0 + n) l
  refine ForT.m (StpI σ f Y) (.mk l0 ⟨s0.n, s0.k, fun P p => ⟨s0.x P p, fun i _ hi => absurd hi (Nat.not_lt_zero i)⟩⟩ .un .un .un .un a b c) (fun n t os σ' ht J => ⟨trivial, ?_⟩) fun os σ' J => ⟨trivial, ?_⟩
  · refine StpI.casesOn J fun l s _ _ _ _ x y z => ?_
    have hn' : n < acts.length := by have := (List.getElem?_eq_some_iff.mp ht).1; rw [List.length_range] at this; exact this
    rw [List.getElem?_range hn'] at ht
    cases ht
    have hact : acts[n]? = some acts[n] := List.getElem?_eq_getElem hn'
    have ll : (l.map stepU).length < mxL := by rw [List.length_map]; have := s.n; unfold mxL; lia
    have hs := hx _ (List.getElem_mem hn')
    refine mapI hact (Int.zero_add _) ?_
    refine ifB.d (fun h => ⟨ll, ?_⟩) fun h => ifB.d (fun h1 => ?_) fun h1 => ?_
    · have hp : 0 < n := Int.ofNat_lt.mp ((Int.zero_add (n : Int)) ▸ h)
      have ln := s.app (Sf.one (K := σ.held) (s := (acts[n].2, [])) (List.nil_sublist _))
      have := StpI.mk (σ := σ) (f := f) (Y := Y) (n := n + 1) _ (ln.mono (Nat.le_refl _) fun P h => ⟨h.1.1, h.1.2.succ hact (.nil h.2 hp)⟩) .un .un .un .un (.i (0 + (n : Int))) (.i acts[n].1) (.i acts[n].2)
      rw [← stp_app] at this
      exact this
    · have hz : n = 0 := Nat.eq_zero_of_not_pos fun hp => h (by rw [Int.zero_add]; exact Int.ofNat_lt.mpr hp)
      subst hz
      refine c_begun_by F hk hg hs fun b hb => ⟨ll, ?_⟩
      have ln := s.app (Sf.one (K := σ.held) (s := (acts[0].2, b)) hb.k)
      have := StpI.mk (σ := σ) (f := f) (Y := Y) (n := 0 + 1) _ (ln.mono (Nat.le_refl _) fun P h => ⟨h.1.1, h.1.2.succ hact (.bg hb h.2 fun e e2 => nomatch e2 ▸ hb.z e)⟩) .un .un .un .un (.i (0 + ((0 : Nat) : Int))) (.i acts[0].1) (.i acts[0].2)
      rw [← stp_app] at this
      exact this
    · exact absurd (Int.ofNat_lt.mpr hs) (by rw [← List.length_map (f := Tst.u)]; exact h1)
  · refine StpI.casesOn J fun l s _ _ _ _ x y z => ?_
    rw [List.length_range] at s
    exact fin l x y z (s.mono (Nat.add_le_add_left ha _) fun P h => ⟨h.1, fun i a e => h.2 i a (List.getElem?_eq_some_iff.mp e).1 e⟩)
end

end
section
section
variable {cx : Cx} {d : Nat} {σ : St} {Q : U → St → Prop} {R : List U → St → Prop}
theorem CtxD.okr {c : CtxD} {num : Nat} (ok : (TblD.ctx c).ok num) (g : Int) : (c.rulesAt g).length ≤ 2 ∧ ∀ r ∈ c.rulesAt g, RuleOk num r := ⟨rulesAt_len fun rs h => (ok.2.2 rs h).1, rulesAt_of fun rs h => (ok.2.2 rs h).2⟩
theorem c_nested_steps (F : Facts cx) {c : CtxD} {u : U} {g : Int} {num : Nat} (eu : c.u = u) (hk : HK σ.held) (hg : g ∈ U5) (ok : (TblD.ctx c).ok num) (q : ∀ l, Sf σ.held (fun P => ClosedCtx σ.held P g c) 6 l → Q (.fl (l.map stepU)) σ) : CallT cx (d + 5) 48 [u, .i g, .lo .held] σ Q := by
  subst eu
  let f : U → U → U → U → U → U → U → U → Os := fun o a b e r x y z => [c.u, .i g, .lo .held, o, a, b, e, r, x, y, z]
  let Y : Nat → List Stp → Prop := fun n l => Sf σ.held (fun P => ∀ (i : Nat) r, i < n → (c.rulesAt g)[i]? = some r → (∀ x ∈ (c.tests r).back ++ (c.tests r).inside.drop 1 ++ (c.tests r).ahead, ∃ h ∈ σ.held, x.fits h = true) → ClR σ.held P g (c.tests r)) (3 * n) l
  obtain ⟨okl, okr⟩ := CtxD.okr ok g
  have succ : ∀ {P : Nat → Int → Prop} {n : Nat} {r : RuleD}, (c.rulesAt g)[n]? = some r → (∀ (i : Nat) r, i < n → (c.rulesAt g)[i]? = some r → (∀ x ∈ (c.tests r).back ++ (c.tests r).inside.drop 1 ++ (c.tests r).ahead, ∃ h ∈ σ.held, x.fits h = true) → ClR σ.held P g (c.tests r)) →
      ((∀ x ∈ (c.tests r).back ++ (c.tests r).inside.drop 1 ++ (c.tests r).ahead, ∃ h ∈ σ.held, x.fits h = true) → ClR σ.held P g (c.tests r)) → ∀ (i : Nat) r, i < n + 1 → (c.rulesAt g)[i]? = some r → (∀ x ∈ (c.tests r).back ++ (c.tests r).inside.drop 1 ++ (c.tests r).ahead, ∃ h ∈ σ.held, x.fits h = true) → ClR σ.held P g (c.tests r) := fun e h1 h2 i r hi er =>
    (Nat.lt_or_eq_of_le (Nat.le_of_lt_succ hi)).elim (fun hl => h1 i r hl er) fun e2 => by subst e2; cases e.symm.trans er; exact h2
  refine fcall 8 F rfl (c_rules_at F ok.1 (ForT.m (StpI σ f Y) (.mk [] ⟨Nat.zero_le _, nofun, fun P _ i r hi => absurd hi (Nat.not_lt_zero i)⟩ .un .un .un .un .un .un .un) (fun n t os σ' ht J => ⟨rfl, ?_⟩) fun os σ' J => ⟨rfl, ?_⟩))
  · obtain ⟨r, hr, rfl⟩ := mapAt ht
    refine StpI.casesOn J fun l s a b e v x y z => ?_
    have okr := okr r (List.mem_of_getElem? hr)
    have hn : n < 2 := Nat.lt_of_lt_of_le (List.getElem?_eq_some_iff.mp hr).1 okl
    have tl : ∀ {w : Row} {cl : Cls}, w.l.length ≤ 2 → (w.tests c.form cl).length ≤ 2 := fun h => by rw [Row.tests_len]; exact h
    have lb : (c.tests r).back.length ≤ 2 := tl (Nat.le_succ_of_le okr.b)
    have li : (c.tests r).inside.length ≤ 2 := tl okr.i.2
    have la : (c.tests r).ahead.length ≤ 2 := tl (Nat.le_succ_of_le okr.a)
    refine ⟨?_, ?_, c_is_fitted (ts := (c.tests r).back ++ (c.tests r).inside.drop 1 ++ (c.tests r).ahead) F ?_ (ifB.mk (fun hf => ?_) fun hf => ?_)⟩
    · rw [cutD, List.length_drop, List.length_map, List.length_map]
      exact Nat.le_trans (Nat.add_le_add lb (Nat.le_trans (Nat.sub_le _ _) li)) (by decide)
    · rw [cutD, List.length_append, List.length_drop, List.length_map, List.length_map, List.length_map]
      exact Nat.le_trans (Nat.add_le_add (Nat.add_le_add lb (Nat.le_trans (Nat.sub_le _ _) li)) la) (by decide)
    · rw [cutD, List.map_append, List.map_append, List.map_drop]
    · refine nested_in F (n0 := 3 * n) hk hg (fun p hp => ?_) okr.n (Nat.le_trans (Nat.mul_le_mul_left 3 (Nat.le_of_lt hn)) (by decide)) s fun l2 x y z s2 => ?_
      · show p.1 < (r.inside.tests c.form c.c1).length
        rw [Row.tests_len]; exact (okr.x p hp).1
      · exact StpI.mk (f := f) (Y := Y) (n := n + 1) l2 (s2.mono (Nat.le_refl _) fun P h => succ hr h.1 fun _ => .of h.2) _ _ _ _ x y z
    · refine StpI.mk (f := f) (Y := Y) (n := n + 1) l (s.mono (Nat.mul_le_mul_left 3 (Nat.le_succ n)) fun P h => succ hr h fun hx => absurd (List.all_eq_true.mpr fun t ht => ?_) (ne_true_of_eq_false hf)) _ _ _ _ x y z
      obtain ⟨k, h1, h2⟩ := hx t ht
      exact List.any_eq_true.mpr ⟨k, h1, h2⟩
  · refine StpI.casesOn J fun l s _ _ _ _ _ _ _ => ?_
    refine q l (s.mono ?_ fun P h => ?_)
    · rw [List.length_map]; exact Nat.mul_le_mul_left 3 okl
    · intro r hr hf
      obtain ⟨i, hi⟩ := List.getElem?_of_mem hr
      exact h i r (by rw [List.length_map]; exact (List.getElem?_eq_some_iff.mp hi).1) hi hf
end

end
section
section
variable {cx : Cx} {d : Nat} {σ : St} {Q : U → St → Prop} {R : List U → St → Prop}
noncomputable abbrev St.hel (σ : St) (K : List Int) (o : Obj) : St := { σ with held := K, hob := o }
noncomputable abbrev addK (K : List Int) (a : Int) : List Int := if a ∈ K then K else K ++ [a]
theorem addK_px {K : List Int} {a : Int} : K <+: addK K a := by unfold addK; split; exact List.prefix_refl _; exact List.prefix_append _ _
theorem addK_mem {K : List Int} {a : Int} : a ∈ addK K a := by unfold addK; split; assumption; exact List.mem_append_right _ (.head _)
theorem HK.add {K : List Int} {a : Int} (h : HK K) (ha : a ∈ U5) : HK (addK K a) := by
  unfold addK
  split
  · exact h
  · rename_i n
    refine ⟨List.nodup_append.mpr ⟨h.nd, List.pairwise_singleton _ _, fun x hx y hy e => ?_⟩, fun x hx => (List.mem_append.mp hx).elim (h.u x) fun q => ?_⟩
    · cases List.mem_singleton.mp hy; exact n (e ▸ hx)
    · cases List.mem_singleton.mp q; exact ha
theorem px_mid {a b : List Int} (h1 : a <+: b) (h2 : b <+: a) : b = a := h2.eq_of_length (Nat.le_antisymm h2.length_le h1.length_le)
structure FsI (K : List Int) (X : (Nat → Int → Prop) → Prop) (n : Nat) (K' : List Int) (l : List Stp) : Prop where
  hk : HK K'
  px : K <+: K'
  n : l.length ≤ n
  k : ∀ s ∈ l, KeyOk s.2
  x : K' = K → ∀ P, (∀ s ∈ l, Lead K P s) → X P
theorem FsI.mono {K : List Int} {X Y : (Nat → Int → Prop) → Prop} {n m : Nat} {K' : List Int} {l : List Stp} (h : FsI K X n K' l) (hn : n ≤ m) (f : ∀ P, X P → Y P) : FsI K Y m K' l := ⟨h.hk, h.px, Nat.le_trans h.n hn, h.k, fun e P y => f P (h.x e P y)⟩
theorem FsI.app {K : List Int} {X Y : (Nat → Int → Prop) → Prop} {n m : Nat} {K' : List Int} {l r : List Stp} (h : FsI K X n K' l) (y : Sf K' Y m r) : FsI K (fun P => X P ∧ K' = K ∧ Y P) (n + m) K' (l ++ r) :=
  ⟨h.hk, h.px, by rw [List.length_append]; exact Nat.add_le_add h.n y.n, fun s hs => (List.mem_append.mp hs).elim (h.k s) (y.k s), fun e P p => ⟨h.x e P fun s hs => p s (List.mem_append_left _ hs), e, y.x P fun s hs => e ▸ p s (List.mem_append_right _ hs)⟩⟩
theorem FsI.grow {K : List Int} {X : (Nat → Int → Prop) → Prop} {n : Nat} {K' K2 : List Int} {l : List Stp} (h : FsI K X n K' l) (hk : HK K2) (px : K' <+: K2) : FsI K (fun P => K2 = K ∧ X P) n K2 l :=
  ⟨hk, h.px.trans px, h.n, h.k, fun e P p => ⟨e, h.x (px_mid h.px (e ▸ px)) P p⟩⟩
inductive FlI (σ : St) (f : U → U → U → U → Os) (Y : Nat → List Int → List Stp → Prop) (n : Nat) : Os → St → Prop
  | mk (K : List Int) (o : Obj) (l : List Stp) (h : Y n K l) (a b c : U) : FlI σ f Y n (f (.ol (l.map stepU)) a b c) (σ.hel K o)
theorem inKind {t : TblD} {kind : Nat} {P N : Prop} (h : t.hasK kind) (p : ∀ c, t = .ctx c → P) (n : (∀ c, t ≠ .ctx c) → N) : inU σ P N (.s kind) (.tu [.s 7, .s 8]) := by
  cases t with
  | ctx c => rcases h with h | h <;> cases h <;> exact p c rfl
  | _ => cases h; exact n nofun
theorem TblD.foU (t : TblD) : ∃ c x, t.u = .fo c x := by cases t <;> exact ⟨_, _, rfl⟩
inductive FmI (σ : St) (f : U → Os) (Y : Nat → List Int → Prop) (n : Nat) : Os → St → Prop
  | mk (K : List Int) (o : Obj) (h : Y n K) (a : U) : FmI σ f Y n (f a) (σ.hel K o)
structure AddI (ms K : List Int) (n : Nat) (K' : List Int) : Prop where
  hk : HK K'
  px : K <+: K'
  i : ∀ (i : Nat) x, i < n → ms[i]? = some x → x ∈ K'
theorem snoc_all {α : Type} {p : α → Prop} {l : List α} {n : Nat} {a : α} (e : l[n]? = some a) (h : ∀ (i : Nat) x, i < n → l[i]? = some x → p x) (ha : p a) : ∀ (i : Nat) x, i < n + 1 → l[i]? = some x → p x := fun i x hi hx =>
  (Nat.lt_or_eq_of_le (Nat.le_of_lt_succ hi)).elim (fun hl => h i x hl hx) fun e2 => by subst e2; cases e.symm.trans hx; exact ha
theorem AddI.next {ms K K' : List Int} {n : Nat} {a : Int} (h : AddI ms K n K') (e : ms[n]? = some a) (ha : a ∈ U5) : AddI ms K (n + 1) (addK K' a) :=
  ⟨h.hk.add ha, h.px.trans addK_px, snoc_all e (fun i x hi hx => addK_px.subset (h.i i x hi hx)) addK_mem⟩
theorem c_follow_step (F : Facts cx) {l : LkD} {num : Nat} {gs : List Int} (hk : HK σ.held) (hg : KeyOk gs) (ok : l.ok num) (q : ∀ K' o r, FsI σ.held (fun P => ∀ g ∈ gs, ∀ t ∈ l.tabs, ClT σ.held P g t) 60 K' r → Q (.fl (r.map stepU)) (σ.hel K' o)) :
    CallT cx (d + 6) 49 [l.u, .tu (gs.map .i), .lo .held] σ Q := by
  obtain ⟨kind, tabs⟩ := l
  let f : U → U → U → U → Os := fun o a b c => [(LkD.mk kind tabs).u, .tu (gs.map .i), .lo .held, o, a, b, c]
  let X : Nat → (Nat → Int → Prop) → Prop := fun n P => ∀ (i : Nat) g, i < n → gs[i]? = some g → ∀ t ∈ tabs, ClT σ.held P g t
  let X2 : Int → Nat → (Nat → Int → Prop) → Prop := fun g n P => ∀ (i : Nat) t, i < n → tabs[i]? = some t → ClT σ.held P g t
  let Y : Nat → List Int → List Stp → Prop := fun n => FsI σ.held (X n) (12 * n)
  refine fcall 4 F rfl (ForT.m (FlI σ f Y) (FlI.mk (f := f) (Y := Y) (n := 0) σ.held σ.hob [] ⟨hk, List.prefix_refl _, Nat.zero_le _, nofun, fun _ P _ i g hi => absurd hi (Nat.not_lt_zero i)⟩ .un .un .un) (fun n g os σ' ht J => ⟨trivial, ?_⟩) fun os σ' J => ⟨trivial, ?_⟩)
  · refine FlI.casesOn J fun K1 o1 l1 s1 a b c => ?_
    have hg5 : g ∈ U5 := hg.subset (List.mem_of_getElem? ht)
    let f2 : U → U → U → U → Os := fun o a b c => [(LkD.mk kind tabs).u, .tu (gs.map .i), .lo .held, o, .i g, b, c]
    let Y2 : Nat → List Int → List Stp → Prop := fun m => FsI σ.held (fun P => X n P ∧ X2 g m P) (12 * n + 6 * m)
    refine ForT.m (FlI σ f2 Y2) (FlI.mk (f := f2) (Y := Y2) (n := 0) K1 o1 l1 (FsI.mono s1 (Nat.le_refl _) fun P h => ⟨h, fun i t hi => absurd hi (Nat.not_lt_zero i)⟩) .un b c) (fun m t os σ' ht2 J => ⟨rfl, ?_⟩) fun os σ' J => ⟨rfl, ?_⟩
    · refine FlI.casesOn J fun K2 o2 l2 s2 a b c => ?_
      obtain ⟨okt, hkd⟩ := ok.t t (List.mem_of_getElem? ht2)
      obtain ⟨cc, x, e⟩ := t.foU
      rw [e]
      refine inKind (σ := σ) hkd (fun cd et => ?_) fun hn => ?_
      · subst et
        refine c_nested_steps (σ := σ.hel K2 o2) F e s2.hk hg5 okt fun r sr => ⟨?_, ?_⟩
        · rw [List.length_map, List.length_map]
          have hn : n ≤ 5 := Nat.le_trans (Nat.le_of_lt (List.getElem?_eq_some_iff.mp ht).1) hg.length_le
          have hm : m ≤ 2 := Nat.le_trans (Nat.le_of_lt (List.getElem?_eq_some_iff.mp ht2).1) ok.n
          exact Nat.le_trans (Nat.add_le_add s2.n sr.n) (Nat.le_trans (Nat.add_le_add_right (Nat.add_le_add (Nat.mul_le_mul_left 12 hn) (Nat.mul_le_mul_left 6 hm)) 6) (by decide))
        · have := FlI.mk (σ := σ) (f := f2) (Y := Y2) (n := m + 1) K2 o2 (l2 ++ r) ((s2.app sr).mono (Nat.le_refl _) fun P h => ⟨h.1.1, snoc_all ht2 h.1.2 (h.2.1 ▸ h.2.2)⟩) (.i g) (.fo cc x) c
          rw [List.map_append] at this
          exact this
      · refine c_made_by (σ := σ.hel K2 o2) F e okt hkd hn fun ms m1 m2 => ?_
        let f3 : U → Os := fun c => [(LkD.mk kind tabs).u, .tu (gs.map .i), .lo .held, .ol (l2.map stepU), .i g, .fo cc x, c]
        refine ForT.m (FmI σ f3 (AddI ms K2)) (.mk K2 o2 ⟨s2.hk, List.prefix_refl _, fun i x hi => absurd hi (Nat.not_lt_zero i)⟩ _) (fun k y os σ' hy J => ⟨rfl, ?_⟩) fun os σ' J => ⟨rfl, ?_⟩
        · refine FmI.casesOn J fun K3 o3 h3 a => ?_
          exact ⟨Nat.lt_of_le_of_lt h3.hk.len (by decide), fun o => FmI.mk (f := f3) (Y := AddI ms K2) (n := k + 1) _ o (h3.next hy (m1 y (List.mem_of_getElem? hy))) (.i y)⟩
        · refine FmI.casesOn J fun K3 o3 h3 a => ?_
          exact FlI.mk (σ := σ) (f := f2) (Y := Y2) (n := m + 1) K3 o3 l2 ((s2.grow h3.hk h3.px).mono (Nat.le_add_right (12 * n + 6 * m) 6) fun P h => ⟨h.2.1, snoc_all ht2 h.2.2 (by
            have e2 : K2 = σ.held := px_mid s2.px (h.1 ▸ h3.px)
            have := m2 (fun y hy => ?_) P
            · rw [← e2]; exact this
            · obtain ⟨i, hi⟩ := List.getElem?_of_mem hy
              have := h3.i i y (List.getElem?_eq_some_iff.mp hi).1 hi
              rw [h.1, ← e2] at this
              exact this)⟩) (.i g) (.fo cc x) a
    · refine FlI.casesOn J fun K2 o2 l2 s2 a b c => ?_
      refine FlI.mk (σ := σ) (f := f) (Y := Y) (n := n + 1) K2 o2 l2 (s2.mono ?_ fun P h => snoc_all ht h.1 fun t htm => ?_) (.i g) b c
      · have := ok.n; lia
      · obtain ⟨i, hi⟩ := List.getElem?_of_mem htm
        exact h.2 i t (List.getElem?_eq_some_iff.mp hi).1 hi
  · refine FlI.casesOn J fun K1 o1 l1 s1 a b c => ?_
    refine q K1 o1 l1 (s1.mono (Nat.mul_le_mul_left 12 hg.length_le) fun P h g hgm => ?_)
    obtain ⟨i, hi⟩ := List.getElem?_of_mem hgm
    exact h i g (List.getElem?_eq_some_iff.mp hi).1 hi
end

end
section
section
variable {cx : Cx} {d : Nat} {σ : St} {Q : U → St → Prop} {R : List U → St → Prop}
noncomputable abbrev featU (named : List Nat) : U := .fo 114 [.s 16, .fl (named.map fun (n : Nat) => .i n)]
noncomputable abbrev layU (named : List Nat) (lks : List LkD) : U := .fo 115 [.fd [] [], .fl [featU named], .fl (lksU lks)]
theorem dPut_fst {α : Type} {k : Int} {v : α} {ks : List Int} {l : List α} : (dPut k v ks l).1 = addK ks k := by unfold dPut addK; split <;> rfl
structure NlY (named : List Nat) (b n : Nat) (ks : List Int) : Prop where
  le : ks.length ≤ n
  nn : ∀ x ∈ ks, 0 ≤ x
  m : ∀ (i x : Nat), i < n → named[i]? = some x → x < b → (x : Int) ∈ ks
theorem addK_len {K : List Int} {a : Int} : (addK K a).length ≤ K.length + 1 := by unfold addK; split; exact Nat.le_succ _; exact Nat.le_of_eq List.length_append
theorem addK_or {K : List Int} {a x : Int} (h : x ∈ addK K a) : x ∈ K ∨ x = a := by
  unfold addK at h
  split at h
  · exact .inl h
  · exact (List.mem_append.mp h).imp id List.mem_singleton.mp
inductive NlI (T : U) (σ : St) (Y : Nat → List Int → Prop) (n : Nat) : Os → St → Prop
  | mk (ks : List Int) (l : List U) (h : Y n ks) (a b : U) : NlI T σ Y n [T, .od ks l, a, b] σ
theorem NlY.in0 {named : List Nat} {b : Nat} : NlY named b 0 [] := ⟨Nat.le_refl 0, nofun, fun i x hi => absurd hi (Nat.not_lt_zero i)⟩
theorem c_named_lookups (F : Facts cx) {named : List Nat} {lks : List LkD} (hn : named.length ≤ 3) (q : ∀ ns : List Nat, (∀ n ∈ named, n < lks.length → n ∈ ns) → ns.length ≤ 3 → Q (.fl (ns.map fun (n : Nat) => .i n)) σ) :
    CallT cx (d + 1) 42 [layU named lks] σ Q := by
  let T := layU named lks
  refine fcall 3 F rfl (ForT.mk (NlI T σ fun n ks => NlY named lks.length (n * named.length) ks) (NlI.mk [] [] (by rw [Nat.zero_mul]; exact .in0) .un .un) (fun n x os σ' hx J => ⟨rfl, ?_⟩) fun os σ' J => ⟨rfl, ?_⟩)
  · cases n with
    | succ n => exact nomatch hx
    | zero =>
    cases hx
    refine NlI.casesOn J fun ks l h a b => ?_
    rw [Nat.zero_mul] at h
    refine ForT.m (NlI T σ (NlY named lks.length)) (NlI.mk ks l h (featU named) b) (fun n a os σ' ha J => ⟨rfl, ?_⟩) fun os σ' J => ⟨rfl, ?_⟩
    · refine NlI.casesOn J fun ks l h x y => ?_
      have hl : n < 3 := Nat.lt_of_lt_of_le (List.getElem?_eq_some_iff.mp ha).1 hn
      refine ifB.d (fun h1 => ⟨Nat.lt_of_le_of_lt h.le (Nat.lt_of_lt_of_le hl (by decide)), ?_⟩) fun h1 => ?_
      · refine NlI.mk (Y := NlY named lks.length) (n := n + 1) _ _ ?_ _ _
        rw [dPut_fst]
        exact ⟨Nat.le_trans addK_len (Nat.succ_le_succ h.le), fun x hx => (addK_or hx).elim (h.nn x) fun e => e ▸ Int.natCast_nonneg a, snoc_all ha (fun i x hi hx hb => addK_px.subset (h.m i x hi hx hb)) fun _ => addK_mem⟩
      · refine NlI.mk (Y := NlY named lks.length) (n := n + 1) ks l ⟨Nat.le_succ_of_le h.le, h.nn, snoc_all ha h.m fun hb => absurd (Int.ofNat_lt.mpr hb) ?_⟩ _ _
        rw [← List.length_map (f := LkD.u)]; exact h1
    · refine NlI.casesOn J fun ks l h x y => ?_
      refine NlI.mk (Y := fun n ks => NlY named lks.length (n * named.length) ks) (n := 0 + 1) ks l ?_ x y
      rw [Nat.zero_add, Nat.one_mul]; exact h
  · refine NlI.casesOn J fun ks l h x y => ?_
    have h : NlY named lks.length (1 * named.length) ks := h
    rw [Nat.one_mul] at h
    refine ⟨Nat.lt_of_le_of_lt h.le (Nat.lt_of_le_of_lt hn (by decide)), ?_⟩
    have e : (isort ks).map U.i = ((isort ks).map Int.toNat).map fun (n : Nat) => U.i n := by
      rw [List.map_map]; exact List.map_congr_left fun x hx => congrArg U.i (Int.toNat_of_nonneg (h.nn x (isort_mem.mp hx))).symm
    rw [e]
    refine q _ (fun n hn' hb => ?_) ?_
    · obtain ⟨i, hi⟩ := List.getElem?_of_mem hn'
      exact List.mem_map.mpr ⟨(n : Int), isort_mem.mpr (h.m i n (List.getElem?_eq_some_iff.mp hi).1 hi hb), rfl⟩
    · rw [List.length_map]; unfold isort; rw [List.length_mergeSort]; exact Nat.le_trans h.le hn
end

end
section
section
variable {cx : Cx} {d : Nat} {σ : St} {Q : U → St → Prop} {R : List U → St → Prop}
noncomputable def subs : List Int → List (List Int)
  | [] => [[]]
  | x :: xs => subs xs ++ (subs xs).map (x :: ·)
theorem mem_subs : ∀ {b a : List Int}, a.Sublist b → a ∈ subs b
  | _, _, .slnil => .head _
  | _, _, .cons x h => List.mem_append_left _ (mem_subs h)
  | _, _, .cons_cons x h => List.mem_append_right _ (List.mem_map.mpr ⟨_, mem_subs h, rfl⟩)
noncomputable def allKeys : List (List Int) := [(0 : Int), 1, 2].flatMap fun n => (subs U5).map (n :: ·)
theorem key_mem {n : Nat} {b : List Int} (h : n < 3) (hb : KeyOk b) : ((n : Int) :: b) ∈ allKeys := List.mem_flatMap.mpr ⟨n, match n, h with | 0, _ => .head _ | 1, _ => .tail _ (.head _) | 2, _ => .tail _ (.tail _ (.head _)), List.mem_map.mpr ⟨b, mem_subs hb, rfl⟩⟩
theorem nodup_len {α : Type} [BEq α] [LawfulBEq α] : ∀ {a b : List α}, a.Nodup → (∀ x ∈ a, x ∈ b) → a.length ≤ b.length
  | [], _, _, _ => Nat.zero_le _
  | x :: a, b, nd, h => by
    have hx := h x (.head _)
    obtain ⟨n1, n2⟩ := List.nodup_cons.mp nd
    have := nodup_len (b := b.erase x) n2 fun y hy => (List.mem_erase_of_ne fun (e : y = x) => n1 (e ▸ hy)).mpr (h y (.tail _ hy))
    rw [List.length_erase_of_mem hx] at this
    have := List.length_pos_of_mem hx
    show a.length + 1 ≤ _
    lia
theorem keys_len {S : List (List Int)} (nd : S.Nodup) (h : ∀ k ∈ S, k ∈ allKeys) : S.length ≤ 96 := Nat.le_trans (nodup_len nd h) (by decide)
noncomputable def ClosedAll (K : List Int) (named : List Nat) (lks : List LkD) : Prop := ∃ P : Nat → Int → Prop, (∀ (j : Nat) l g, lks[j]? = some l → P j g → ∀ t ∈ l.tabs, ClT K P g t) ∧ ∀ n ∈ named, ∀ g ∈ K, P n g
structure FaI (K : List Int) (lks : List LkD) (named : List Nat) (at_ : Nat) (K' : List Int) (line : List Stp) (S : List (List Int)) : Prop where
  hk : HK K'
  px : K <+: K'
  ale : at_ ≤ line.length
  ko : ∀ s ∈ line, KeyOk s.2
  nd : S.Nodup
  su : ∀ k ∈ S, k ∈ allKeys
  ll : line.length ≤ 3 + 60 * S.length
  nm : ∀ n ∈ named, n < lks.length → (n, []) ∈ line
  dn : ∀ (i : Nat) s, i < at_ → line[i]? = some s → s.1 < lks.length → ((s.1 : Int) :: s.2) ∈ S
  cl : K' = K → ∀ P, (∀ s ∈ line, Lead K P s) → ∀ (j : Nat) b l, ((j : Int) :: b) ∈ S → lks[j]? = some l → ∀ g, (b = [] → g ∈ K) → (b ≠ [] → g ∈ b) → ∀ t ∈ l.tabs, ClT K P g t
theorem FaI.fin {K : List Int} {lks : List LkD} {named : List Nat} {at_ : Nat} {K' : List Int} {line : List Stp} {S : List (List Int)} (h : FaI K lks named at_ K' line S) (ha : at_ = line.length) (e : K' = K) : ClosedAll K named lks := by
  have inS : ∀ s ∈ line, s.1 < lks.length → ((s.1 : Int) :: s.2) ∈ S := fun s hs hl =>
    let ⟨i, hi⟩ := List.getElem?_of_mem hs
    h.dn i s (ha ▸ (List.getElem?_eq_some_iff.mp hi).1) hi hl
  let P : Nat → Int → Prop := fun n g => n < lks.length → ∃ b, ((n : Int) :: b) ∈ S ∧ (b = [] → g ∈ K) ∧ (b ≠ [] → g ∈ b)
  refine ⟨P, fun j l g hl hP t ht => ?_, fun n hn g hg hl => ⟨[], inS _ (h.nm n hn hl) hl, fun _ => hg, fun x => absurd rfl x⟩⟩
  obtain ⟨b, hb, h1, h2⟩ := hP (List.getElem?_eq_some_iff.mp hl).1
  exact h.cl e P (fun s hs g h1 h2 hl => ⟨s.2, inS s hs hl, h1, h2⟩) j b l hb hl g h1 h2 t ht
theorem FaI.skip {K : List Int} {lks : List LkD} {named : List Nat} {at_ : Nat} {K' : List Int} {line : List Stp} {S : List (List Int)} {s : Stp} (h : FaI K lks named at_ K' line S) (hs : line[at_]? = some s) (hk : s.1 < lks.length → ((s.1 : Int) :: s.2) ∈ S) : FaI K lks named (at_ + 1) K' line S :=
  { h with ale := (List.getElem?_eq_some_iff.mp hs).1, dn := snoc_all (p := fun s => s.1 < lks.length → ((s.1 : Int) :: s.2) ∈ S) hs h.dn hk }
theorem FaI.next {K : List Int} {lks : List LkD} {named : List Nat} {at_ : Nat} {K1 K2 : List Int} {line r : List Stp} {S : List (List Int)} {s : Stp} {l : LkD} {gs : List Int} (h : FaI K lks named at_ K1 line S) (hs : line[at_]? = some s) (hl3 : lks.length ≤ 3) (hl : lks[s.1]? = some l) (hn : ¬ ((s.1 : Int) :: s.2) ∈ S) (hg : ∀ g, (s.2 = [] → g ∈ K1) → (s.2 ≠ [] → g ∈ s.2) → g ∈ gs)
    (f : FsI K1 (fun P => ∀ g ∈ gs, ∀ t ∈ l.tabs, ClT K1 P g t) 60 K2 r) : FaI K lks named (at_ + 1) K2 (line ++ r) (S ++ [(s.1 : Int) :: s.2]) := by
  have hat := (List.getElem?_eq_some_iff.mp hs).1
  have hs1 := (List.getElem?_eq_some_iff.mp hl).1
  refine ⟨f.hk, h.px.trans f.px, ?_, fun x hx => (List.mem_append.mp hx).elim (h.ko x) (f.k x), ?_, fun k hk => (List.mem_append.mp hk).elim (h.su k) fun e => ?_, ?_, fun n hn hl => List.mem_append_left _ (h.nm n hn hl), ?_, fun e P p j b l' hb hl' g h1 h2 t ht => ?_⟩
  · rw [List.length_append]; exact Nat.le_trans hat (Nat.le_add_right _ _)
  · refine List.nodup_append.mpr ⟨h.nd, List.pairwise_singleton _ _, fun x hx y hy e => ?_⟩
    cases List.mem_singleton.mp hy; exact hn (e ▸ hx)
  · cases List.mem_singleton.mp e
    exact key_mem (Nat.lt_of_lt_of_le hs1 hl3) (h.ko s (List.mem_of_getElem? hs))
  · rw [List.length_append, List.length_append, List.length_singleton, Nat.mul_succ]
    exact Nat.le_trans (Nat.add_le_add h.ll f.n) (Nat.le_of_eq (Nat.add_assoc 3 _ 60))
  · intro i x hi hx hlx
    rw [List.getElem?_append_left (Nat.lt_of_lt_of_le hi hat)] at hx
    exact snoc_all (p := fun s => s.1 < lks.length → ((s.1 : Int) :: s.2) ∈ S ++ [_]) hs (fun i x hi hx hl => List.mem_append_left _ (h.dn i x hi hx hl)) (fun _ => List.mem_append_right _ (.head _)) i x hi hx hlx
  · have e1 : K1 = K := px_mid h.px (e ▸ f.px)
    subst e1
    rcases List.mem_append.mp hb with q | q
    · exact h.cl rfl P (fun s hs => p s (List.mem_append_left _ hs)) j b l' q hl' g h1 h2 t ht
    · obtain ⟨e1, e2⟩ := List.cons.inj (List.mem_singleton.mp q)
      cases Int.ofNat.inj e1
      cases e2
      cases hl.symm.trans hl'
      exact f.x e P (fun s hs => p s (List.mem_append_right _ hs)) g (hg g h1 h2) t ht
end

end
section
section
variable {cx : Cx} {d : Nat} {σ : St} {Q : U → St → Prop} {R : List U → St → Prop}
inductive FaO (σ : St) (T : U) (Y : Nat → List Int → List Stp → List (List Int) → Prop) (n : Nat) : Os → St → Prop
  | mk (K : List Int) (o : Obj) (line : List Stp) (S : List (List Int)) (at_ : Nat) (h : Y at_ K line S) (e : n = 100 * (96 - S.length) + (line.length - at_)) (a b c : U) : FaO σ T Y n [T, .lo .held, a, .ol (line.map stepU), .ok S, .i at_, b, c] (σ.hel K o)
theorem fa_dec {s r l a : Nat} (h1 : s + 1 ≤ 96) (h2 : r ≤ 60) (ha : a < l) : 100 * (96 - (s + 1)) + (l + r - (a + 1)) < 100 * (96 - s) + (l - a) := by
  obtain ⟨x, hx⟩ := Nat.exists_eq_add_of_le h1
  obtain ⟨y, hy⟩ := Nat.exists_eq_add_of_lt ha
  subst hy
  have e1 : 96 - (s + 1) = x := by rw [hx]; exact Nat.add_sub_cancel_left _ _
  have e2 : 96 - s = x + 1 := by rw [hx, Nat.add_assoc, Nat.add_sub_cancel_left]; exact Nat.add_comm 1 x
  rw [e1, e2]
  have e3 : a + y + 1 + r - (a + 1) = y + r := by rw [Nat.add_right_comm a y 1, Nat.add_assoc (a + 1), Nat.add_sub_cancel_left]
  have e4 : a + y + 1 - a = y + 1 := by rw [Nat.add_assoc, Nat.add_sub_cancel_left]
  rw [e3, e4, Nat.mul_succ, Nat.add_assoc]
  exact Nat.add_lt_add_left (Nat.lt_of_le_of_lt (Nat.add_comm y r ▸ Nat.add_le_add_right h2 y) (by rw [← Nat.add_assoc]; exact Nat.lt_succ_of_lt (Nat.lt_of_lt_of_le (Nat.add_lt_add_right (by decide : 60 < 100) y) (Nat.le_refl _)))) _
theorem c_follow_all (F : Facts cx) {named : List Nat} {lks : List LkD} (hk : HK σ.held) (hn : named.length ≤ 3) (hl : lks.length ≤ 3) (ok : ∀ (j : Nat) l, lks[j]? = some l → l.ok j)
    (q : ∀ K' o, HK K' → σ.held <+: K' → (K' = σ.held → ClosedAll σ.held named lks) → Q .no (σ.hel K' o)) : CallT cx (d + 7) 50 [layU named lks, .lo .held] σ Q := by
  let Y := FaI σ.held lks named
  refine fcall 6 F rfl (c_named_lookups F hn fun ns h1 h2 => ?_)
  refine CompT.m (c := fun n : Nat => U.i n) (c' := stepU) (fun n => (n, [])) rfl (fun n _ _ _ y => y) ?_
  have h0 : Y 0 σ.held (ns.map fun n => (n, [])) [] := ⟨hk, List.prefix_refl _, Nat.zero_le _, fun s hs => by
    obtain ⟨n, _, rfl⟩ := List.mem_map.mp hs; exact List.nil_sublist _, List.nodup_nil, nofun, by rw [List.length_map]; exact h2, fun n h hb => List.mem_map.mpr ⟨n, h1 n h hb, rfl⟩, fun i s hi => absurd hi (Nat.not_lt_zero i), fun _ P _ j b l hb => nomatch hb⟩
  refine WhT.mk (FaO σ (layU named lks) Y) _ (FaO.mk σ.held σ.hob _ [] 0 h0 rfl .un .un .un) fun n os σ' J => ?_
  · refine FaO.casesOn J fun K1 o1 line S at_ h e a b c => ?_
    have sl := keys_len h.nd h.su
    have ll := h.ll
    subst e
    refine ifB.d (fun hat => ?_) fun hat => ?_
    · have hat : at_ < line.length := by
        have hat : (at_ : Int) < ((line.map stepU).length : Nat) := hat
        rw [List.length_map] at hat; exact Int.ofNat_lt.mp hat
      have hs : line[at_]? = some line[at_] := List.getElem?_eq_getElem hat
      have ko := h.ko _ (List.getElem_mem hat)
      have le : line.length - (at_ + 1) < line.length - at_ := Nat.sub_lt_sub_left hat (Nat.lt_succ_self at_)
      generalize line[at_] = s at hs ko
      obtain ⟨num, bg⟩ := s
      refine mapI hs rfl ⟨?_, (num : Int) :: bg, rfl, fun hin => ?_, fun hin => ifB.d (fun h4 => ⟨(num : Int) :: bg, ⟨rfl, Nat.lt_of_le_of_lt sl (by decide)⟩, ?_⟩) fun h4 => ?_⟩
      · rw [List.length_map]; exact Nat.le_trans (Nat.add_le_add_left ko.length_le 1) (by decide)
      · exact ⟨_, Nat.add_lt_add_left le _, FaO.mk (T := layU named lks) (Y := Y) K1 o1 line S (at_ + 1) (h.skip hs fun _ => hin) rfl (.i num) (.tu (bg.map .i)) (.tu (.i num :: bg.map .i))⟩
      · have hlk : num < lks.length := by
          have h4 : (num : Int) < ((lksU lks).length : Nat) := h4
          rw [List.length_map] at h4; exact Int.ofNat_lt.mp h4
        have hl' : lks[num]? = some lks[num] := List.getElem?_eq_getElem hlk
        rw [if_neg hin]
        have go : ∀ gs, (∀ g, (bg = [] → g ∈ K1) → (bg ≠ [] → g ∈ bg) → g ∈ gs) → KeyOk gs → CallT cx (d + 6) 49 [lks[num].u, .tu (gs.map .i), .lo .held] (σ.hel K1 o1) fun u σ1 => flQ (fun m => (line.map stepU).length + m.length ≤ mxL ∧ ∃ m', m' < 100 * (96 - S.length) + (line.length - at_) ∧ FaO σ (layU named lks) Y m' [layU named lks, .lo .held, .i num, .ol (line.map stepU ++ m), .ok (S ++ [(num : Int) :: bg]), .i ((at_ + 1 : Nat) : Int), .tu (bg.map .i), .tu (.i num :: bg.map .i)] σ1) u := fun gs hgs hgk => by
          refine c_follow_step (σ := σ.hel K1 o1) F h.hk hgk (ok num _ hl') fun K2 o2 r f => ?_
          have n2 := h.next hs hl hl' hin hgs f
          have sl2 := keys_len n2.nd n2.su
          rw [List.length_append, List.length_singleton] at sl2
          refine ⟨?_, 100 * (96 - (S ++ [(num : Int) :: bg]).length) + ((line ++ r).length - (at_ + 1)), ?_, ?_⟩
          · rw [List.length_map, List.length_map]
            have := f.n; unfold mxL; lia
          · rw [List.length_append, List.length_append, List.length_singleton]
            exact fa_dec sl2 f.n hat
          · have := FaO.mk (σ := σ) (T := layU named lks) (Y := Y) K2 o2 (line ++ r) (S ++ [(num : Int) :: bg]) (at_ + 1) n2 rfl (.i num) (.tu (bg.map .i)) (.tu (.i num :: bg.map .i))
            rw [List.map_append] at this
            exact this
        refine mapI (c := LkD.u) hl' rfl ⟨fun hb => go bg (fun g _ h2 => h2 fun e => hb (congrArg (List.map U.i) e)) ko, fun hb => ⟨Nat.lt_of_le_of_lt h.hk.len (by decide), go (isort K1) (fun g h1 _ => isort_mem.mpr (h1 (List.map_eq_nil_iff.mp hb))) h.hk.key⟩⟩
      · refine ⟨_, Nat.add_lt_add_left le _, FaO.mk (T := layU named lks) (Y := Y) K1 o1 line S (at_ + 1) (h.skip hs fun hlk => absurd (Int.ofNat_lt.mpr hlk) ?_) rfl (.i num) (.tu (bg.map .i)) (.tu (.i num :: bg.map .i))⟩
        rw [← List.length_map (f := LkD.u)]; exact h4
    · have hat : at_ = line.length := Nat.le_antisymm h.ale (Nat.le_of_not_lt fun hl => hat (by show (at_ : Int) < ((line.map stepU).length : Nat); rw [List.length_map]; exact Int.ofNat_lt.mpr hl))
      exact q K1 o1 h.hk h.px (h.fin hat)
end

end
section
section
variable {cx : Cx} {d : Nat} {σ : St} {Q : U → St → Prop} {R : List U → St → Prop}
noncomputable abbrev tru : Int → U := fun _ => .b true
theorem put_tru {k : Int} {ks : List Int} : dPut k (.b true) ks (ks.map tru) = (addK ks k, (addK ks k).map tru) := by
  unfold dPut addK
  split
  · rw [List.zipWith_map_right, List.zipWith_self]
    exact congrArg _ (List.map_congr_left fun j _ => ite_self _)
  · rw [List.map_append]; rfl
theorem mrg_tru : ∀ {gs ks : List Int}, dMrg (gs.map fun g => (g, .b true)) (ks, ks.map tru) = (gs.foldl addK ks, (gs.foldl addK ks).map tru)
  | [], _ => rfl
  | g :: gs, ks => by
    show dMrg (gs.map _) (dPut g (.b true) ks (ks.map tru)) = _
    rw [put_tru]; exact mrg_tru
structure FoK (gs K : List Int) : Prop where
  hk : HK K
  i : ∀ g ∈ gs, g ∈ K
theorem fold_K : ∀ {gs ks : List Int}, HK ks → (∀ g ∈ gs, g ∈ U5) → HK (gs.foldl addK ks) ∧ ks <+: gs.foldl addK ks ∧ ∀ g ∈ gs, g ∈ gs.foldl addK ks
  | [], ks, h, _ => ⟨h, List.prefix_refl _, nofun⟩
  | g :: gs, ks, h, hu => by
    obtain ⟨h1, h2, h3⟩ := fold_K (gs := gs) (h.add (hu g (.head _))) fun x hx => hu x (.tail _ hx)
    refine ⟨h1, addK_px.trans h2, fun x hx => (List.mem_cons.mp hx).elim (fun e => ?_) (h3 x)⟩
    subst e; exact h2.subset addK_mem
noncomputable abbrev St.hol (σ : St) (K : List Int) (o : Obj) : St := { σ with ph := 4, held := K, hob := o }
inductive CoI (σ : St) (T u : U) (Y : Int → List Int → Prop) (n : Nat) : Os → St → Prop
  | mk (K : List Int) (o : Obj) (k : Int) (h : Y k K) (e : n = (6 - k).toNat) : CoI σ T u Y n [T, u, .lo .held, .i k] (σ.hol K o)
structure CoY (gs : List Int) (named : List Nat) (lks : List LkD) (k : Int) (K : List Int) : Prop where
  hk : HK K
  i : ∀ g ∈ gs, g ∈ K
  le : k ≤ K.length
  cl : k = K.length → ClosedAll K named lks
theorem c_closure_of (F : Facts cx) {gs : List Int} {named : List Nat} {lks : List LkD} (hph : σ.ph = 3) (hg : ∀ g ∈ gs, g ∈ U5) (hn : named.length ≤ 3) (hl : lks.length ≤ 3) (ok : ∀ (j : Nat) l, lks[j]? = some l → l.ok j)
    (q : ∀ K o, (∀ g ∈ gs, g ∈ K) → ClosedAll K named lks → Q (.fl ((isort K).map .i)) (σ.hol K o)) : CallT cx (d + 8) 51 [layU named lks, .fl (gs.map .i)] σ Q := by
  refine fcall 2 F rfl (CompT.m (c' := pairU) (fun g : Int => (g, .b true)) rfl (fun _ _ _ _ y => y) ⟨_, rfl, ?_⟩)
  obtain ⟨h1, _, h3⟩ := fold_K (ks := []) ⟨List.nodup_nil, nofun⟩ hg
  have e := mrg_tru (gs := gs) (ks := [])
  refine (show ∀ p, p = (gs.foldl addK [], (gs.foldl addK []).map tru) → (σ.ph = 3 ∧ p.2 = p.1.map fun _ => .b true) ∧ ∀ o, wS (CallT cx (d + 7)) (CallI cx (d + 7)) (.asg 3 (.neg (.k (.i 1))) (.wh (.cmp .lt (.v 3) (.bi .len (.cons (.v 2) .nil))) b51_1 b51_2)) [layU named lks, .fl (gs.map .i), .lo .held, .un] (σ.hol p.1 o) (rQ Q) from fun p hp => ?_) _ e
  subst hp
  refine ⟨⟨hph, rfl⟩, fun o => ?_⟩
  refine WhT.mk (CoI σ (layU named lks) (.fl (gs.map .i)) (CoY gs named lks)) _ (.mk _ o (-1) ⟨h1, h3, by lia, fun h => by lia⟩ rfl) fun n os σ' J => ?_
  refine CoI.casesOn J fun K o k h e => ?_
  subst e
  have hkl := h.hk.len
  refine ifB.d (fun hlt => ?_) fun hge => ⟨Nat.lt_of_le_of_lt hkl (by decide), q K o h.i (h.cl (Int.le_antisymm h.le (Int.not_lt.mp hge)))⟩
  refine c_follow_all (σ := σ.hol K o) F h.hk hn hl ok fun K2 o2 hk2 px cl => ⟨(6 - (K.length : Int)).toNat, ?_, .mk K2 o2 K.length ⟨hk2, fun g hg => px.subset (h.i g hg), Int.ofNat_le.mpr px.length_le, fun e => ?_⟩ rfl⟩
  · have hlt : k < (K.length : Int) := hlt
    lia
  · have e2 : K2 = K := (px.eq_of_length (Int.ofNat.inj e)).symm
    subst e2
    exact cl rfl
end

end
section
section
variable {cx : Cx} {d : Nat} {σ : St} {Q : U → St → Prop} {R : List U → St → Prop}
structure Tld (cx : Cx) (d k : Nat) (u : U) (n : Nat) (l : List U) : Prop where
  dt : ∀ x ∈ l, Dt n x
  run : ∀ σ Q, Q (.tu l) σ → CallT cx d k [u] σ Q
theorem tldL {α : Type} {cx : Cx} {d n : Nat} {l : List α} {c : α → U} {k : α → Nat} (h : ∀ a ∈ l, ∃ v, Tld cx d (k a) (c a) n v) : ∃ g : α → List U, ∀ a ∈ l, Tld cx d (k a) (c a) n (g a) :=
  ⟨fun a => Classical.epsilon (Tld cx d (k a) (c a) n), fun a ha => Classical.epsilon_spec (h a ha)⟩
theorem dt_map {α : Type} {n : Nat} {l : List α} {f : α → U} (h : ∀ a ∈ l, Dt n (f a)) : ∀ x ∈ l.map f, Dt n x := fun x hx => by
  obtain ⟨a, ha, rfl⟩ := List.mem_map.mp hx; exact h a ha
theorem dt_tu {α : Type} {n : Nat} {l : List α} {g : α → List U} (h : ∀ a ∈ l, ∀ x ∈ g a, Dt n x) : ∀ x ∈ (l.map g).map U.tu, Dt (n + 1) x := fun x hx => by
  obtain ⟨v, hv, rfl⟩ := List.mem_map.mp hx
  obtain ⟨a, ha, rfl⟩ := List.mem_map.mp hv
  exact h a ha
theorem dt_is {n : Nat} {l : List Int} : ∀ x ∈ l.map U.i, Dt (n + 1) x := dt_map fun _ _ => trivial
theorem t_cov (F : Facts cx) (c : List Int) : Tld cx (d + 1) 2003 (covU c) 1 (c.map .i) := ⟨dt_is, fun σ Q q => fcall 0 F rfl q⟩
theorem t_row (F : Facts cx) : ∀ r : Row, ∃ v, Tld cx (d + 2) 9 (.tu r.l) 2 v
  | .is l => ⟨l.map .i, dt_is, fun σ Q q => fcall 0 F rfl (CompT.m (c' := U.i) (fun a => a) trivial (fun _ _ _ _ y => y) (by rw [List.map_id']; exact q))⟩
  | .cs l => ⟨(l.map fun c : List Int => c.map U.i).map U.tu, dt_tu fun _ _ => dt_is, fun σ Q q => fcall 0 F rfl (CompT.m (c' := U.tu) (fun c : List Int => c.map U.i) trivial (fun c _ _ _ y => (t_cov F c).run _ _ y) q)⟩
end

end
section
section
variable {cx : Cx} {d : Nat} {σ : St} {Q : U → St → Prop} {R : List U → St → Prop}
noncomputable def dictV {α : Type} (w : α → U) (ks : List Int) (l : List α) : List U := ((isort ks).map fun a => [U.i a, (dGet a ks (l.map w)).getD .un]).map U.tu
theorem isort_len {ks : List Int} : (isort ks).length = ks.length := by unfold isort; rw [List.length_mergeSort]
theorem dictV_len {α : Type} {w : α → U} {ks : List Int} {l : List α} : (dictV w ks l).length = ks.length := by unfold dictV; rw [List.length_map, List.length_map, isort_len]
theorem dt_dict {α : Type} {n : Nat} {w : α → U} {ks : List Int} {l : List α} (h : ks.length = l.length) (hw : ∀ v ∈ l, Dt (n + 1) (w v)) : ∀ x ∈ dictV w ks l, Dt (n + 2) x := dt_tu fun a ha x hx => by
  obtain ⟨v, e⟩ := dGet_of h (isort_mem.mp ha)
  rw [dGet_m e] at hx
  rcases List.mem_cons.mp hx with q | q
  · subst q; trivial
  · cases List.mem_singleton.mp q; exact hw v (dGet_mem e)
theorem CompT.dict {α : Type} {ks : List Int} {l : List α} {f w : α → U} {tr : U → St → (U → St → Prop) → (St → Prop) → Prop} {stay : St → Prop} (h : ks.length = l.length) (hs : stay σ) (hy : ∀ a v, v ∈ l → dGet a ks (l.map f) = some (f v) → ∀ (Y : U → St → Prop) (N : St → Prop), Y (.tu [.i a, w v]) σ → tr (.i a) σ Y N)
    (q : Q (.fl (dictV w ks l)) σ) : CompT tr ((isort ks).map .i) stay Q σ :=
  CompT.m (c' := U.tu) (fun a => [U.i a, (dGet a ks (l.map w)).getD .un]) hs (fun a ha Y N y => by
    obtain ⟨v, e⟩ := dGet_of h (isort_mem.mp ha)
    rw [dGet_m e] at y
    exact hy a v (dGet_mem e) (dGet_m e) Y N y) q
theorem t_cls (F : Facts cx) {c : Cls} (h : DOk c.1 c.2) : Tld cx (d + 1) 63004 (clsU c) 2 (dictV .i c.1 c.2) :=
  ⟨dt_dict h.e fun _ _ => trivial, fun σ Q q => fcall 0 F rfl ⟨Nat.lt_of_le_of_lt h.l (by decide), CompT.dict (f := U.i) h.e rfl (fun a v _ e Y N y => ⟨_, e, y⟩) q⟩⟩
theorem pre_le {α : Type} {w : α → U} {ks : List Int} {l : List α} (h : DOk ks l) : 1 + (dictV w ks l).length ≤ mxL := by rw [dictV_len]; exact Nat.le_trans (Nat.add_le_add_left h.l 1) (by decide)
theorem dt_cons {n : Nat} {a : U} {l : List U} (ha : Dt n a) (h : ∀ x ∈ l, Dt n x) : ∀ x ∈ a :: l, Dt n x := fun x hx => (List.mem_cons.mp hx).elim (fun e => e ▸ ha) (h x)
theorem t_single (F : Facts cx) {n : Nat} {m : Cls} (h : DOk m.1 m.2) : Tld cx (d + 1) 100001 (singU m) (n + 2) (.s 10 :: dictV .i m.1 m.2) :=
  ⟨dt_cons trivial (dt_dict h.e fun _ _ => trivial), fun σ Q q => fcall 0 F rfl ⟨Nat.lt_of_le_of_lt h.l (by decide), CompT.dict (f := U.i) h.e rfl (fun a v _ e Y N y => ⟨_, e, y⟩) ⟨pre_le h, q⟩⟩⟩
noncomputable abbrev tupI' (v : List Int) : U := .tu (v.map .i)
theorem t_mult (F : Facts cx) {n : Nat} {m : List Int × List (List Int)} (h : DOk m.1 m.2) : Tld cx (d + 1) 101001 (.fo 101 [tupsU m]) (n + 3) (.s 12 :: dictV tupI' m.1 m.2) :=
  ⟨dt_cons trivial (dt_dict h.e fun _ _ => dt_is), fun σ Q q => fcall 0 F rfl ⟨Nat.lt_of_le_of_lt h.l (by decide), CompT.dict (f := tupI') h.e rfl (fun a v _ e Y N y => ⟨_, e, y⟩) ⟨pre_le h, q⟩⟩⟩
theorem t_alt (F : Facts cx) {n : Nat} {m : List Int × List (List Int)} (h : DOk m.1 m.2) : Tld cx (d + 1) 102001 (.fo 102 [tupsU m]) (n + 3) (.s 13 :: dictV tupI' m.1 m.2) :=
  ⟨dt_cons trivial (dt_dict h.e fun _ _ => dt_is), fun σ Q q => fcall 0 F rfl ⟨Nat.lt_of_le_of_lt h.l (by decide), CompT.dict (f := tupI') h.e rfl (fun a v _ e Y N y => ⟨_, e, y⟩) ⟨pre_le h, q⟩⟩⟩
end

end
section
section
variable {cx : Cx} {d : Nat} {σ : St} {Q : U → St → Prop} {R : List U → St → Prop}
noncomputable abbrev covsV (l : List (List Int)) : List U := (l.map fun c : List Int => c.map U.i).map U.tu
theorem dt_covs {n : Nat} {l : List (List Int)} : ∀ x ∈ covsV l, Dt (n + 2) x := dt_tu fun _ _ => dt_is
theorem t_rev (F : Facts cx) {n : Nat} {m : Cls} {b a : List (List Int)} (h : DOk m.1 m.2) : Tld cx (d + 2) 97001 (revU m b a) (n + 3) [.tu (dictV .i m.1 m.2), .tu (covsV b), .tu (covsV a)] :=
  ⟨dt_cons (dt_dict h.e fun _ _ => trivial) (dt_cons dt_covs (dt_cons dt_covs nofun)), fun σ Q q => fcall 2 F rfl ⟨Nat.lt_of_le_of_lt h.l (by decide), CompT.dict (f := U.i) h.e rfl (fun a v _ e Y N y => ⟨_, e, y⟩)
    (CompT.m (c' := U.tu) (fun c : List Int => c.map U.i) trivial (fun c _ _ _ y => (t_cov F c).run _ _ y) (CompT.m (c' := U.tu) (fun c : List Int => c.map U.i) trivial (fun c _ _ _ y => (t_cov F c).run _ _ y) q))⟩⟩
theorem dt_acts {n : Nat} {l : List (Nat × Nat)} : ∀ x ∈ l.map actU, Dt (n + 2) x := dt_map fun _ _ => dt_cons trivial (dt_cons trivial nofun)
theorem t_rule (F : Facts cx) (r : RuleD) : ∃ v, Tld cx (d + 3) 7001 r.u 3 v := by
  obtain ⟨v1, h1⟩ := t_row (d := d) F r.back
  obtain ⟨v2, h2⟩ := t_row (d := d) F r.inside
  obtain ⟨v3, h3⟩ := t_row (d := d) F r.ahead
  exact ⟨[.tu v1, .tu v2, .tu v3, .tu (r.actions.map actU)], dt_cons h1.dt (dt_cons h2.dt (dt_cons h3.dt (dt_cons dt_acts nofun))), fun σ Q q => fcall 0 F rfl (h1.run _ _ (h2.run _ _ (h3.run _ _ q)))⟩
noncomputable def CtxD.used (c : CtxD) : List Cls := bif c.chained then [c.c0, c.c1, c.c2] else [c.c1]
theorem c_used (F : Facts cx) {c : CtxD} (q : Q (.fl (c.used.map clsU)) σ) : CallT cx (d + 1) 8002 [c.u] σ Q := by
  obtain ⟨fm, ch, ks, sets, cov, c0, c1, c2⟩ := c
  cases ch with
  | true => exact fcall 0 F rfl q
  | false => exact fcall 0 F rfl (nth1 q)
theorem t_ctx (F : Facts cx) {c : CtxD} {num : Nat} (ok : (TblD.ctx c).ok num) : ∃ v, Tld cx (d + 4) 8001 c.u 7 v := by
  obtain ⟨okc, ⟨k0, kc⟩, _⟩ := ok
  obtain ⟨g, hg⟩ := tldL (d := d + 3) (n := 3) (l := c.sets.flatten) (c := RuleD.u) fun r _ => t_rule (d := d) F r
  let w : List RuleD → U := fun rs => .tu ((rs.map g).map .tu)
  have dw : ∀ x ∈ dictV w c.ks c.sets, Dt 6 x := dt_dict (n := 4) k0.e fun rs hrs => dt_tu fun r hr => (hg r (List.mem_flatten.mpr ⟨rs, hrs, hr⟩)).dt
  have key : ∀ σ Q, wS (CallT cx (d + 3)) (CallI cx (d + 3)) (.ite (.cmp .ne (.at (.v 0) 5) (.g 0)) (.ret (.tup (.cons (.at (.v 0) 5) (.cons (.at (.v 0) 6) (.cons (.v 1) .nil))))) .skip b8001_1) [c.u, .tu (dictV w c.ks c.sets)] σ (rQ Q) → CallT cx (d + 4) 8001 [c.u] σ Q := fun σ Q q =>
    fcall 1 F rfl ⟨Nat.lt_of_le_of_lt k0.l (by decide), CompT.dict (f := rulesU) k0.e rfl (fun a rs hrs e Y N y => ⟨_, e, ifB.d (fun _ => ⟨_, e, CompT.m (c' := U.tu) g rfl (fun r hr Y N y => (hg r (List.mem_flatten.mpr ⟨rs, hrs, hr⟩)).run _ _ y) y⟩) fun n => absurd (Int.ofNat_lt.mpr (Nat.lt_of_lt_of_eq (List.length_pos_iff.mpr (kc.2.2.2 rs hrs)) (List.length_map ..).symm)) n⟩) q⟩
  obtain ⟨k1, k2, k3, _⟩ := kc
  have hu : ∀ x ∈ c.used, DOk x.1 x.2 := fun x hx => by
    unfold CtxD.used at hx
    cases e : c.chained with
    | true => rw [e] at hx; rcases List.mem_cons.mp hx with q | q; exact q ▸ k1; rcases List.mem_cons.mp q with q | q; exact q ▸ k2; cases List.mem_singleton.mp q; exact k3
    | false => rw [e] at hx; cases List.mem_singleton.mp hx; exact k2
  by_cases hf : c.form = 2
  · exact ⟨[.i c.form, .b c.chained, .tu (dictV w c.ks c.sets), .tu (c.cov.map .i), .tu ((c.used.map fun x : Cls => dictV .i x.1 x.2).map .tu)], dt_cons trivial (dt_cons trivial (dt_cons dw (dt_cons dt_is (dt_cons (dt_tu fun x hx => dt_dict (n := 3) (hu x hx).e fun _ _ => trivial) nofun)))), fun σ Q q => key σ Q (ifB.d (fun h => (t_cov F c.cov).run _ _ (c_used F (CompT.m (c' := U.tu) (fun x : Cls => dictV .i x.1 x.2) rfl (fun x hx Y N y => (t_cls F (hu x hx)).run _ _ y) q))) fun h => absurd (congrArg Int.ofNat hf) h)⟩
  · exact ⟨[.i c.form, .b c.chained, .tu (dictV w c.ks c.sets)], dt_cons trivial (dt_cons trivial (dt_cons dw nofun)), fun σ Q q => key σ Q (ifB.d (fun h => absurd (Int.ofNat.inj h) hf) fun _ => q)⟩
end

end
section
section
variable {cx : Cx} {d : Nat} {σ : St} {Q : U → St → Prop} {R : List U → St → Prop}
noncomputable def begB (rest lead : List Int) : Bool := decide (rest.take lead.length = lead)
theorem c_begins_with (F : Facts cx) {rest lead : List Int} (q : Q (.b (begB rest lead)) σ) : CallT cx (d + 1) 73 [tupI' rest, tupI' lead] σ Q :=
  fcall 0 F rfl ⟨(lead.map U.i).length, rfl, .two (rest.take lead.length) lead (by rw [List.length_map, List.map_take]) rfl (fun e => by rw [show begB rest lead = true from decide_eq_true e] at q; exact q) fun n => by rw [show begB rest lead = false from decide_eq_false n] at q; exact q⟩
noncomputable abbrev LRow := List Int × Int
noncomputable abbrev begs (r x : LRow) : Option (List Int) := if begB r.1 x.1 = true then some x.1 else none
noncomputable def liveStep (fd : List LRow) (r : LRow) : List LRow := if fd.filterMap (begs r) = [] then fd ++ [r] else fd
noncomputable def live (rs : List LRow) : List LRow := rs.foldl liveStep []
theorem liveStep_len {fd : List LRow} {r : LRow} : (liveStep fd r).length ≤ fd.length + 1 := by unfold liveStep; split; exact Nat.le_of_eq List.length_append; exact Nat.le_succ _
theorem live_next {rs : List LRow} {n : Nat} {r : LRow} (h : rs[n]? = some r) : live (rs.take (n + 1)) = liveStep (live (rs.take n)) r := by rw [takeS h]; unfold live; rw [List.foldl_append]; rfl
theorem live_len : ∀ {rs fd : List LRow}, (rs.foldl liveStep fd).length ≤ fd.length + rs.length
  | [], fd => Nat.le_refl _
  | r :: rs, fd => Nat.le_trans (live_len (rs := rs) (fd := liveStep fd r)) (by rw [List.length_cons, Nat.add_comm rs.length, ← Nat.add_assoc]; exact Nat.add_le_add_right liveStep_len _)
theorem live_le {rs : List LRow} : (live rs).length ≤ rs.length := Nat.zero_add rs.length ▸ live_len
inductive LiI (rs : List LRow) (σ : St) (f : U → U → U → Os) (n : Nat) : Os → St → Prop
  | mk (fd : List LRow) (x y : U) (e : live (rs.take n) = fd) : LiI rs σ f n (f (.ol (fd.map rowU)) x y) σ
theorem c_live_rows (F : Facts cx) {rs : List LRow} (hl : rs.length ≤ 1000) (q : Q (.fl ((live rs).map rowU)) σ) : CallT cx (d + 2) 74 [.fl (rs.map rowU)] σ Q := by
  let f : U → U → U → Os := fun l x y => [.fl (rs.map rowU), l, x, y]
  refine fcall 3 F rfl (ForT.m (LiI rs σ f) (.mk [] .un .un rfl) (fun n r os σ' hr J => ⟨rfl, ?_⟩) fun os σ' J => ⟨rfl, ?_⟩)
  · refine LiI.casesOn J fun fd x y e => ?_
    have hn := live_next hr
    have hf : fd.length ≤ 1000 := e ▸ Nat.le_trans live_le (Nat.le_trans (List.length_take_le' _ _) hl)
    rw [e] at hn
    refine CompT.fm (c := rowU) (c' := tupI') (begs r) rfl (fun a _ Y N y nn => c_begins_with F (ifB.mk (fun h => y _ (if_pos h)) fun h => nn (if_neg (by rw [h]; exact nofun)))) ⟨fun h => ⟨?_, ?_⟩, fun h => ?_⟩
    · rw [List.length_map]; exact Nat.lt_of_le_of_lt hf (by decide)
    · have := LiI.mk (rs := rs) (σ := σ) (f := f) (n := n + 1) (fd ++ [r]) (tupI' r.1) (.i r.2) (hn.trans (if_pos (List.map_eq_nil_iff.mp h)))
      rw [List.map_append] at this
      exact this
    · exact LiI.mk (f := f) fd _ _ (hn.trans (if_neg fun n => h (congrArg (List.map tupI') n)))
  · refine LiI.casesOn J fun fd x y e => ?_
    rw [List.take_length] at e
    subst e; exact q
theorem sortRows_len : ∀ {l : List LRow}, (sortRows l).length = l.length
  | [] => rfl
  | [_] => rfl
  | [a, b] => by show (if rowLt b a then [b, a] else [a, b]).length = 2; split <;> rfl
  | _ :: _ :: _ :: _ => rfl
theorem dt_rows {n : Nat} {l : List LRow} : ∀ x ∈ l.map rowU, Dt (n + 3) x := dt_map fun _ _ => dt_cons dt_is (dt_cons trivial nofun)
noncomputable def keepR (l : List U) : Option (List U) := @ite _ (l[1]? = some (.tu [])) (Classical.propDecidable _) none (some l)
theorem t_lig (F : Facts cx) {n : Nat} {m : List Int × List (List LRow)} (h : DOk m.1 m.2) (h2 : ∀ rs ∈ m.2, rs.length ≤ 2) : ∃ v, Tld cx (d + 3) 75001 (ligU m) (n + 5) v := by
  let w : List LRow → U := fun rs => .tu ((sortRows (live rs)).map rowU)
  let g : Int → List U := fun a => [.i a, (dGet a m.1 (m.2.map w)).getD .un]
  have hg : ∀ a ∈ isort m.1, ∃ rs ∈ m.2, dGet a m.1 (m.2.map fun rs : List LRow => U.fl (rs.map rowU)) = some (.fl (rs.map rowU)) ∧ g a = [.i a, w rs] := fun a ha => by
    obtain ⟨v, e⟩ := dGet_of h.e (isort_mem.mp ha)
    exact ⟨v, dGet_mem e, dGet_m e, by show [U.i a, (dGet a m.1 (m.2.map w)).getD .un] = _; rw [dGet_m e]; rfl⟩
  refine ⟨((((isort m.1).map g).filterMap keepR)).map U.tu, fun x hx => ?_, fun σ Q q => fcall 1 F rfl ⟨Nat.lt_of_le_of_lt h.l (by decide), CompT.m (c' := U.tu) g rfl (fun a ha Y N y => ?_) (CompT.fm (c' := U.tu) keepR rfl (fun v hv Y N y nn => ?_) q)⟩⟩
  · obtain ⟨v, hv, rfl⟩ := List.mem_map.mp hx
    obtain ⟨u, hu, e⟩ := List.mem_filterMap.mp hv
    obtain ⟨a, ha, rfl⟩ := List.mem_map.mp hu
    obtain ⟨rs, _, _, e2⟩ := hg a ha
    rw [e2] at e
    have : v = [.i a, w rs] := by
      unfold keepR at e
      split at e
      · exact nos e
      · exact (Option.some.inj e).symm
    subst this
    exact dt_cons trivial (dt_cons dt_rows nofun)
  · obtain ⟨rs, hrs, e1, e2⟩ := hg a ha
    rw [e2] at y
    exact ⟨_, e1, c_live_rows F (Nat.le_trans (h2 rs hrs) (by decide)) (.inr ⟨live rs, rfl, Nat.le_trans live_le (h2 rs hrs), y⟩)⟩
  · obtain ⟨a, ha, rfl⟩ := List.mem_map.mp hv
    obtain ⟨rs, _, _, e2⟩ := hg a ha
    rw [e2] at y nn ⊢
    have key : ∀ l : List LRow, (∀ b, keepR [.i a, .tu (l.map rowU)] = some b → Y (.tu b) σ) → (keepR [.i a, .tu (l.map rowU)] = none → N σ) → (l.map rowU = [] → N σ) ∧ (l.map rowU ≠ [] → Y (.tu [.i a, .tu (l.map rowU)]) σ) := fun l y nn => by
      cases l with
      | nil => exact ⟨fun _ => nn (if_pos rfl), fun n => absurd rfl n⟩
      | cons r l => exact ⟨nofun, fun _ => y _ (if_neg nofun)⟩
    exact nth1 ⟨⟨3, by decide, dt_rows⟩, key _ y nn⟩
end

end
section
section
variable {cx : Cx} {d : Nat} {σ : St} {Q : U → St → Prop} {R : List U → St → Prop}
noncomputable def TblD.fn : TblD → Nat
  | .single _ => 100001 | .mult _ => 101001 | .alt _ => 102001 | .lig _ => 75001 | .rev _ _ _ => 97001 | .ctx _ => 8001
theorem t_tbl (F : Facts cx) {num : Nat} : ∀ {t : TblD}, t.ok num → ∃ v, Tld cx (d + 4) t.fn t.u 7 v
  | .single m, h => ⟨_, t_single F h.1⟩
  | .mult m, h => ⟨_, t_mult F h.1⟩
  | .alt m, h => ⟨_, t_alt F h.1⟩
  | .lig m, h => t_lig F h.1 fun rs hrs => (h.2 rs hrs).1
  | .rev m b a, h => ⟨_, t_rev F h.1⟩
  | .ctx c, h => t_ctx F h
theorem t_lk (F : Facts cx) {num : Nat} {l : LkD} (ok : l.ok num) : ∃ v, Tld cx (d + 5) 18001 l.u 9 v := by
  obtain ⟨g, hg⟩ := tldL (d := d + 4) (n := 7) (l := l.tabs) (c := TblD.u) (k := TblD.fn) fun t ht => t_tbl (d := d) F (ok.t t ht).1
  refine ⟨[.s l.kind, .i 0, .i (-1), .tu ((l.tabs.map g).map .tu)], dt_cons trivial (dt_cons trivial (dt_cons trivial (dt_cons (dt_tu fun t ht => (hg t ht).dt) nofun))), fun σ Q q => fcall 1 F rfl (CompT.m (c' := U.tu) g rfl (fun t ht Y N y => ?_) q)⟩
  have h := fun Q q => (hg t ht).run σ Q q
  cases t <;> exact h _ y
theorem t_feat (F : Facts cx) {n : Nat} {named : List Nat} : Tld cx (d + 1) 114001 (featU named) (n + 2) [.s 16, .tu (named.map fun (n : Nat) => .i n)] :=
  ⟨dt_cons trivial (dt_cons (dt_map fun _ _ => trivial) nofun), fun σ Q q => fcall 0 F rfl q⟩
theorem t_lay (F : Facts cx) {named : List Nat} {lks : List LkD} (ok : ∀ (j : Nat) l, lks[j]? = some l → l.ok j) : ∃ v, Tld cx (d + 6) 115001 (layU named lks) 11 v := by
  obtain ⟨g, hg⟩ := tldL (d := d + 5) (n := 9) (l := lks) (c := LkD.u) (k := fun _ => 18001) fun l hl => let ⟨j, hj⟩ := List.getElem?_of_mem hl; t_lk (d := d) F (ok j l hj)
  refine ⟨[.tu (((isort []).map fun _ => []).map .tu), .tu [.tu [.s 16, .tu (named.map fun (n : Nat) => .i n)]], .tu ((lks.map g).map .tu)], dt_cons (dt_tu fun _ _ => nofun) (dt_cons (dt_cons (show Dt 10 (.tu _) from (t_feat (d := 0) (n := 7) F).dt) nofun) (dt_cons (dt_tu fun l hl => (hg l hl).dt) nofun)), fun σ Q q => fcall 2 F rfl ⟨by decide, CompT.m (c' := U.tu) (fun _ => []) rfl (fun a ha _ _ _ => nomatch isort_mem.mp ha) ?_⟩⟩
  refine CompT.m (l := [named]) (c := featU) (c' := U.tu) (fun named => [.s 16, .tu (named.map fun (n : Nat) => .i n)]) rfl (fun a _ Y N y => (t_feat (n := 0) F).run _ _ y) ?_
  exact CompT.m (c' := U.tu) g rfl (fun l hl Y N y => (hg l hl).run _ _ y) q
end

end
section
section
variable {cx : Cx} {d : Nat} {σ : St} {Q : U → St → Prop} {R : List U → St → Prop}
theorem c_Coverage (F : Facts cx) {l : List U} (q : Q (.fo 2 [.tu l]) σ) : CallT cx (d + 2) 1000002 [.tu l] σ Q := callFo F.cf rfl rfl (icallE F [.tu l] rfl rfl rfl (by kernel_rfl) q)
inductive CvI (T : U) (σ : St) (n : Nat) : Os → St → Prop
  | mk (ks : List Int) (l : List U) (h : ks.length ≤ n) (x : U) : CvI T σ n [T, .od ks l, x] σ
theorem c_coverage_of (F : Facts cx) {gs : List Int} (hl : gs.length ≤ 60) (q : ∀ ks, Q (covU ks) σ) : CallT cx (d + 3) 3 [.fl (gs.map .i)] σ Q := by
  refine fcall 2 F rfl (ForT.m (CvI (.fl (gs.map .i)) σ) (.mk [] [] (Nat.le_refl 0) .un) (fun n a os σ' ha J => ⟨rfl, ?_⟩) fun os σ' J => ⟨rfl, ?_⟩)
  · refine CvI.casesOn J fun ks l h x => ?_
    refine ⟨Nat.lt_of_le_of_lt h (Nat.lt_of_lt_of_le (Nat.lt_of_lt_of_le (List.getElem?_eq_some_iff.mp ha).1 hl) (by decide)), .mk _ _ ?_ _⟩
    rw [dPut_fst]
    exact Nat.le_trans addK_len (Nat.succ_le_succ h)
  · refine CvI.casesOn J fun ks l h x => ?_
    exact ⟨Nat.lt_of_le_of_lt (Nat.le_trans h hl) (by decide), c_Coverage F (q _)⟩
structure Dr (n : Nat) (σ0 σ : St) : Prop where
  lo : 0 ≤ σ.pp
  hi : σ.pp ≤ n
  ph : σ.ph = σ0.ph
  nx : σ.nx = σ0.nx
  inf : σ.inf = σ0.inf
variable {σ0 : St} {n : Nat}
theorem Dr.le {m : Nat} (h : Dr n σ0 σ) (l : n ≤ m) : Dr m σ0 σ := { h with hi := Int.le_trans h.hi (Int.ofNat_le.mpr l) }
theorem Dr.nxt {cs : List Int} {p : Int} (h : Dr n σ0 σ) : Dr (n + 1) σ0 { σ with cells := cs, ps := p, pp := σ.pp + 1 } :=
  ⟨Int.le_trans h.lo (Int.le_add_one (Int.le_refl _)), Int.add_le_add_right h.hi 1, h.ph, h.nx, h.inf⟩
theorem skp {CT : Nat → List U → St → (U → St → Prop) → Prop} {CI : Nat → List U → St → (List U → St → Prop) → Prop} {os : Os} {K : KR} (h : K.n os σ) : wS CT CI .skip os σ K := h
theorem c_draw (F : Facts cx) {lim : Int} (D : Dr n σ0 σ) (hn : n ≤ 100000) (h1 : 1 ≤ lim) (h2 : lim ≤ 10) (q : ∀ r σ', Dr (n + 1) σ0 σ' → 0 ≤ r → r < lim → Q (.i r) σ') : CallT cx (d + 1) 118 [.lo .pot, .i lim] σ Q := by
  have hne : lim ≠ 0 := fun e => by rw [e] at h1; exact absurd h1 (by decide)
  have hp : 0 < lim := Int.lt_of_lt_of_le (by decide) h1
  have np : ∀ a, Builtin.divisionGoesByPylong a lim = false := fun a => PyProof.noPylong_small (by lia)
  have hpp : IntMulOk σ.pp σ.pp := .of_right (intBits_le_64 (by have := D.lo; lia) (by have := D.hi; lia))
  have tail : ∀ x y, wS (CallT cx d) (CallI cx d) b118_1 [.lo .pot, .i lim, .i σ.pp, x, y] { σ with pp := σ.pp + 1 } (rQ Q) := fun x y =>
    nth1 ⟨.of_right (by decide), hpp, by decide, nth1 ⟨⟨by decide, PyProof.noPylong_small (by decide)⟩, hne, q _ _ D.nxt (Int.fmod_nonneg_of_pos _ hp) (Int.fmod_lt_of_pos _ hp)⟩⟩
  refine fcall 3 F rfl (nth2 ⟨rfl, nth0 ⟨fun hc => ?_, fun _ => skp (tail .un .un)⟩⟩)
  have hc0 : 0 < σ.cells.length := List.length_pos_iff.mpr hc
  have hcp : (0 : Int) < (σ.cells.length : Int) := Int.ofNat_lt.mpr hc0
  obtain ⟨k, hk⟩ := Int.eq_ofNat_of_zero_le (Int.fmod_nonneg_of_pos σ.pp hcp)
  have hlt := Int.fmod_lt_of_pos σ.pp hcp
  have hkl : k < σ.cells.length := Int.ofNat_lt.mp (hk ▸ hlt)
  refine nth0 ⟨Int.ne_of_gt hcp, nth0 (mapI (List.getElem?_eq_getElem hkl) hk (ifB.d (fun _ => ⟨⟨hne, np _⟩, nth0 ⟨⟨Int.fmod_nonneg_of_pos σ.pp hcp, hlt⟩, hne, ?_⟩⟩) fun _ => ?_))⟩
  · exact q _ _ D.nxt (Int.fmod_nonneg_of_pos _ hp) (Int.fmod_lt_of_pos _ hp)
  · refine skp ?_
    dsimp only
    refine skp ?_
    dsimp only
    exact tail (.i (σ.pp.fmod σ.cells.length)) (.i σ.cells[k])
theorem c_glyph (F : Facts cx) (D : Dr n σ0 σ) (hn : n ≤ 100000) (q : ∀ g σ', Dr (n + 1) σ0 σ' → g ∈ U5 → Q (.i g) σ') : CallT cx (d + 2) 119 [.lo .pot] σ Q :=
  fcall 0 F rfl (c_draw F D hn (by decide) (by decide) fun r σ' D' r0 r1 => q _ _ D' (by
    obtain ⟨k, rfl⟩ := Int.eq_ofNat_of_zero_le r0
    exact (show 1 + (k : Int) ∈ (List.range 5).map fun k : Nat => 1 + (k : Int) from List.mem_map.mpr ⟨k, List.mem_range.mpr (Int.ofNat_lt.mp r1), rfl⟩)))
structure DrJ {β : Type} (g : β → U) (P : Nat → β → Prop) (n k : Nat) (σ0 : St) (i : Nat) (ys : List U) (σ' : St) (bs : List β) : Prop where
  e : ys = bs.map g
  l : bs.length = i
  p : ∀ j b, bs[j]? = some b → P j b
  d : Dr (n + k * i) σ0 σ'
theorem snoc_get {α : Type} {l : List α} {a x : α} {i : Nat} (h : (l ++ [a])[i]? = some x) : l[i]? = some x ∨ i = l.length ∧ a = x := by
  rw [List.getElem?_append] at h
  split at h
  · exact .inl h
  · have := (List.getElem?_eq_some_iff.mp h).1
    have e : i - l.length = 0 := Nat.lt_one_iff.mp this
    rw [e] at h
    exact .inr ⟨Nat.le_antisymm (Nat.le_of_sub_eq_zero e) (Nat.le_of_not_lt ‹_›), Option.some.inj h⟩
theorem CompT.dr {α β : Type} {l : List α} {c : α → U} {g : β → U} {tr : U → St → (U → St → Prop) → (St → Prop) → Prop} {stay : St → Prop} (P : Nat → β → Prop) (k : Nat) (hs : ∀ σ, stay σ) (D : Dr n σ0 σ)
    (h : ∀ i a σ', l[i]? = some a → Dr (n + k * i) σ0 σ' → ∀ Y N, (∀ b σ2, P i b → Dr (n + k * i + k) σ0 σ2 → Y (g b) σ2) → tr (c a) σ' Y N)
    (q : ∀ (bs : List β) σ', bs.length = l.length → (∀ i b, bs[i]? = some b → P i b) → Dr (n + k * l.length) σ0 σ' → Q (.fl (bs.map g)) σ') : CompT tr (l.map c) stay Q σ :=
  .mk (fun i ys σ' => ∃ bs, DrJ g P n k σ0 i ys σ' bs) ⟨[], rfl, rfl, nofun, D⟩ (fun i x ys σ' hx ⟨bs, j⟩ => by
    obtain ⟨a, e, rfl⟩ := mapAt hx
    refine ⟨hs _, h i a σ' e j.d _ _ fun b σ2 p D2 => ⟨bs ++ [b], ?_, ?_, fun i' b' hb => ?_, Nat.add_assoc n _ _ ▸ D2⟩⟩
    · rw [j.e, List.map_append]; rfl
    · rw [List.length_append, j.l]; rfl
    · rcases snoc_get hb with q | ⟨q, e⟩
      · exact j.p _ _ q
      · rw [q, ← e, j.l]; exact p) fun ys σ' ⟨bs, j⟩ => by
    have dd := j.d
    have ll := j.l
    rw [List.length_map] at dd ll
    rw [j.e]
    exact ⟨hs _, q bs σ' ll j.p dd⟩
noncomputable abbrev rgI (a : Int) : Nat → U := fun k => U.i (a + k)
theorem rgT {a b : Int} (h : a ≤ b) (ha : 0 ≤ a) (hb : b ≤ 100000) : RgF a b (b - a).toNat := rgF (by lia) ha hb
theorem c_some (F : Facts cx) {most : Int} (D : Dr n σ0 σ) (hn : n ≤ 50000) (h0 : 0 ≤ most) (h4 : most ≤ 4) (q : ∀ (gs : List Int) σ', gs.length ≤ 4 → (gs.length : Int) ≤ most → (∀ g ∈ gs, g ∈ U5) → Dr (n + 5) σ0 σ' → Q (.fl (gs.map .i)) σ') : CallT cx (d + 3) 120 [.lo .pot, .i most] σ Q := by
  refine fcall 1 F rfl (c_draw F D (Nat.le_trans hn (by decide)) (Int.le_add_of_nonneg_left h0) (Int.le_trans (Int.add_le_add_right h4 1) (by decide)) fun r σ' D' r0 r1 => ?_)
  have rf := rgT r0 (Int.le_refl 0) (by lia)
  refine ⟨⟨rf.s, rf.l⟩, ?_⟩
  rw [rf.e]
  refine CompT.dr (g := U.i) (fun _ g => g ∈ U5) 1 (fun _ => trivial) D' (fun i a σ2 ha D2 Y N y => c_glyph F D2 ?_ fun g σ3 D3 hg => y g σ3 hg D3) fun gs σ2 hl hp D2 => ?_
  · have := (List.getElem?_eq_some_iff.mp ha).1
    rw [List.length_range] at this
    lia
  · rw [List.length_range] at hl D2
    exact q gs σ2 (by lia) (by lia) (fun g hg => let ⟨i, hi⟩ := List.getElem?_of_mem hg; hp i g hi) (D2.le (by lia))
end

end
section
section
variable {cx : Cx} {d : Nat} {σ : St} {Q : U → St → Prop} {R : List U → St → Prop}
variable {σ0 : St} {n : Nat}
inductive PoI (σ : St) (f : U → Int → Os) : Os → St → Prop
  | mk (x : U) (s : Int) : PoI σ f (f x s) σ
theorem c_pot (F : Facts cx) {xs : List Int} (hp : σ.ph = 0) (q : ∀ σ', Dr 0 { σ with ph := 1 } σ' → Q (.lo .pot) σ') : CallT cx (d + 1) 117 [.fl (xs.map .i)] σ Q := by
  refine fcall 3 F rfl ?_
  refine (show ∀ ys, ys = (xs.take 40).map U.i → CompT _ ys (fun σ' => lsU σ' (.fl ys) = some ys) _ σ from fun ys hy => ?_) _ mTo
  subst hy
  refine .m (c' := U.i) (fun a : Int => a) rfl (fun _ _ _ _ y => y) ?_
  rw [List.map_id']
  let f : U → Int → Os := fun x s => [.fl (xs.map .i), x, .fl ((xs.take 40).map .i), .i s]
  refine ForT.m (fun _ => PoI σ f) (.mk .un 1) (fun n a os σ' _ J => ⟨rfl, ?_⟩) fun os σ' J => ⟨rfl, ?_⟩
  · refine PoI.casesOn J fun _ _ => ?_
    exact ⟨.of_right (by decide), by decide, by decide, PoI.mk (f := f) _ _⟩
  · refine PoI.casesOn J fun _ _ => ?_
    refine .m (c' := U.i) (fun a : Int => (a.natAbs : Int).fmod (10 ^ (400 : Int).toNat)) rfl (fun a _ Y N y => ⟨by decide, Int.ne_of_gt (Int.pow_pos (by decide)), y⟩) ⟨hp, _, rfl, q _ ⟨Int.le_refl 0, Int.le_refl 0, rfl, rfl, rfl⟩⟩
end

end
section
section
variable {cx : Cx} {d : Nat} {σ : St} {Q : U → St → Prop} {R : List U → St → Prop}
variable {σ0 : St} {n : Nat}
structure DP {α : Type} (R : α → Prop) (ks : List Int) (l : List α) : Prop where
  e : ks.length = l.length
  p : ∀ v ∈ l, R v
theorem dPut_map {α : Type} {w : α → U} {v : α} {k : Int} {ks : List Int} {l : List α} : dPut k (w v) ks (l.map w) = ((dPut k v ks l).1, (dPut k v ks l).2.map w) := by
  unfold dPut
  split
  · rw [List.zipWith_map_right, List.map_zipWith]
    exact congrArg _ (congrFun (congrFun (congrArg List.zipWith (funext fun j => funext fun a => by by_cases h : j = k; rw [if_pos h, if_pos h]; rw [if_neg h, if_neg h])) ks) l)
  · rw [List.map_append]; rfl
theorem DP.put {α : Type} {R R' : α → Prop} {ks : List Int} {l : List α} {v : α} {k : Int} (h : DP R ks l) (f : ∀ a, R a → R' a) (hv : R' v) : DP R' (dPut k v ks l).1 (dPut k v ks l).2 := by
  unfold dPut
  split
  · refine ⟨by rw [List.length_zipWith, ← h.e, Nat.min_self], fun x hx => ?_⟩
    obtain ⟨i, hi, rfl⟩ := List.mem_iff_getElem.mp hx
    rw [List.getElem_zipWith]
    split
    · exact hv
    · exact f _ (h.p _ (List.getElem_mem _))
  · exact ⟨by rw [List.length_append, List.length_append, h.e]; rfl, fun x hx => (List.mem_append.mp hx).elim (fun q => f x (h.p x q)) fun q => List.mem_singleton.mp q ▸ hv⟩
inductive MpI {α β : Type} (w : α → U) (R : Nat → α → Prop) (n k : Nat) (σ0 : St) (f : U → β → Os) (i : Nat) : Os → St → Prop
  | mk (ks : List Int) (l : List α) (σ' : St) (x : β) (D : Dr (n + k * i) σ0 σ') (p : DP (R i) ks l) (hl : ks.length ≤ i) : MpI w R n k σ0 f i (f (.od ks (l.map w)) x) σ'
theorem MpI.next {α β : Type} {w : α → U} {R : Nat → α → Prop} {k i : Nat} {f : U → β → Os} {ks : List Int} {l : List α} {σ' : St} {u : U} {v : α} {g : Int} (x : β) (p : DP (R i) ks l) (hl : ks.length ≤ i) (hR : ∀ a, R i a → R (i + 1) a) (D : Dr (n + k * i + k) σ0 σ') (hv : R (i + 1) v) (e : u = w v) :
    MpI w R n k σ0 f (i + 1) (f (.od (dPut g u ks (l.map w)).1 (dPut g u ks (l.map w)).2) x) σ' := by
  subst e
  rw [dPut_map]
  exact .mk _ _ _ x (Nat.add_assoc n _ _ ▸ D) (p.put hR hv) (by rw [dPut_fst]; exact Nat.le_trans addK_len (Nat.succ_le_succ hl))
noncomputable abbrev plF (kind : Nat) (o : U) (x : U × U) : Os := [.lo .pot, .s kind, x.1, .un, o, x.2]
theorem plain_loop (F : Facts cx) {α : Type} {w : α → U} {kind : Nat} (R : Nat → α → Prop) (k : Nat) (D : Dr n σ0 σ) (hn : n ≤ 20000) (hk : k ≤ 10)
    (hb : ∀ i (x : U × U) ks l σ', i < 2 → DP (R i) ks l → ks.length ≤ i → Dr (n + 1 + k * i) σ0 σ' → wS (CallT cx (d + 4)) (CallI cx (d + 4)) b121_1 (plF kind (.od ks (l.map w)) x) σ' ⟨MpI w R (n + 1) k σ0 (plF kind) (i + 1), Q, MpI w R (n + 1) k σ0 (plF kind) (i + 1)⟩)
    (ht : ∀ (x : U × U) i ks l σ', i ≤ 2 → DP (R i) ks l → ks.length ≤ 2 → Dr (n + 30) σ0 σ' → wS (CallT cx (d + 4)) (CallI cx (d + 4)) b121_4 (plF kind (.od ks (l.map w)) x) σ' (rQ Q)) :
    wS (CallT cx (d + 4)) (CallI cx (d + 4)) b121_5 (plF kind .un (U.un, U.un)) σ (rQ Q) := by
  refine c_draw F D (Nat.le_trans hn (by decide)) (by decide) (by decide) fun r σ' D' r0 r1 => ?_
  have rf : RgF 0 (1 + r) (1 + r - 0).toNat := rgT (by lia) (Int.le_refl 0) (by lia)
  refine ⟨⟨rf.s, rf.l⟩, ?_⟩
  rw [rf.e]
  have hm : (1 + r - 0).toNat ≤ 2 := by lia
  generalize (1 + r - 0).toNat = m at hm
  refine ForT.m (MpI w R (n + 1) k σ0 (plF kind)) (.mk [] [] σ' (U.un, U.un) D' ⟨rfl, nofun⟩ (Nat.le_refl 0)) (fun i a os σ' ha J => ⟨trivial, ?_⟩) fun os σ' J => ⟨trivial, ?_⟩
  · refine MpI.casesOn J fun ks l σ' x D' p hl => ?_
    have := (List.getElem?_eq_some_iff.mp ha).1
    rw [List.length_range] at this
    exact hb i (rgI 0 a, x.2) ks l σ' (Nat.lt_of_lt_of_le this hm) p hl D'
  · refine MpI.casesOn J fun ks l σ' x D' p hl => ?_
    rw [List.length_range] at p hl D'
    exact ht x m ks l σ' hm p (Nat.le_trans hl hm) (D'.le (by have := Nat.mul_le_mul hk hm; lia))
end

end
section
section
variable {cx : Cx} {d : Nat} {σ : St} {Q : U → St → Prop} {R : List U → St → Prop}
variable {σ0 : St} {n : Nat}
theorem c_Single (F : Facts cx) {ks : List Int} {l : List U} (q : Q (.fo 100 [.fd ks l]) σ) : CallT cx (d + 2) 1000100 [.fd ks l] σ Q := callFo F.cf rfl rfl (icallE F [.fd ks l] rfl rfl rfl (by kernel_rfl) q)
theorem c_Multiple (F : Facts cx) {ks : List Int} {l : List U} (q : Q (.fo 101 [.fd ks l]) σ) : CallT cx (d + 2) 1000101 [.fd ks l] σ Q := callFo F.cf rfl rfl (icallE F [.fd ks l] rfl rfl rfl (by kernel_rfl) q)
theorem c_Alternate (F : Facts cx) {ks : List Int} {l : List U} (q : Q (.fo 102 [.fd ks l]) σ) : CallT cx (d + 2) 1000102 [.fd ks l] σ Q := callFo F.cf rfl rfl (icallE F [.fd ks l] rfl rfl rfl (by kernel_rfl) q)
theorem c_Ligature (F : Facts cx) {ks : List Int} {l : List U} (q : Q (.fo 75 [.fd ks l]) σ) : CallT cx (d + 2) 1000075 [.fd ks l] σ Q := callFo F.cf rfl rfl (icallE F [.fd ks l] rfl rfl rfl (by kernel_rfl) q)
theorem c_Reverse (F : Facts cx) {ks : List Int} {l a b : List U} (q : Q (.fo 97 [.fd ks l, .tu a, .tu b]) σ) : CallT cx (d + 2) 1000097 [.fd ks l, .tu a, .tu b] σ Q := callFo F.cf rfl rfl (icallE F [.fd ks l, .tu a, .tu b] rfl rfl rfl (by kernel_rfl) q)
theorem dok {α : Type} {R : α → Prop} {ks : List Int} {l : List α} (p : DP R ks l) (h : ks.length ≤ 2) : DOk ks l := ⟨p.e, Nat.le_trans h (by decide)⟩
theorem lt_mx2 {i : Nat} {ks : List Int} (hl : ks.length ≤ i) (hi : i < 2) : ks.length < mxL := Nat.lt_of_le_of_lt hl (Nat.lt_trans hi (by decide))
noncomputable abbrev PlQ (kind n : Nat) (σ0 : St) (Q : U → St → Prop) : Prop := ∀ (t : TblD) σ', (∀ num, t.ok num) → t.hasK kind → Dr (n + 30) σ0 σ' → Q t.u σ'
theorem c_plain_single (F : Facts cx) (D : Dr n σ0 σ) (hn : n ≤ 20000) (q : PlQ 10 n σ0 Q) : CallT cx (d + 5) 121 [.lo .pot, .s 10] σ Q := by
  refine fcall 4 F rfl ?_
  exact plain_loop F (w := U.i) (fun _ v => v ∈ U5) 2 D hn (by decide)
    (fun i x ks l σ' hi p hl D' => c_glyph F D' (by lia) fun g σ2 D2 _ => c_glyph F D2 (by lia) fun v σ3 D3 hv => ⟨lt_mx2 hl hi, MpI.next (f := plF 10) (x.1, .i g) p hl (fun _ h => h) D3 hv rfl⟩)
    fun x i ks l σ' _ p hl D' => c_Single F (q (.single (ks, l)) σ' (fun _ => ⟨dok p hl, p.p⟩) rfl D')
noncomputable abbrev tw (v : List Int) : U := .tu (v.map .i)
theorem c_plain_mult (F : Facts cx) (D : Dr n σ0 σ) (hn : n ≤ 20000) (q : PlQ 12 n σ0 Q) : CallT cx (d + 5) 121 [.lo .pot, .s 12] σ Q := by
  refine fcall 4 F rfl ?_
  exact plain_loop F (w := tw) (fun _ v => v.length ≤ 2 ∧ ∀ x ∈ v, x ∈ U5) 6 D hn (by decide)
    (fun i x ks l σ' hi p hl D' => c_glyph F D' (by lia) fun g σ2 D2 _ => c_some F D2 (by lia) (by decide) (by decide) fun v σ3 _ h2 hv D3 => ⟨lt_mx2 hl hi, MpI.next (f := plF 12) (x.1, .i g) p hl (fun _ h => h) D3 ⟨Int.ofNat_le.mp h2, hv⟩ rfl⟩)
    fun x i ks l σ' _ p hl D' => c_Multiple F (q (.mult (ks, l)) σ' (fun _ => ⟨dok p hl, p.p⟩) rfl D')
theorem c_plain_alt (F : Facts cx) (D : Dr n σ0 σ) (hn : n ≤ 20000) (q : PlQ 13 n σ0 Q) : CallT cx (d + 5) 121 [.lo .pot, .s 13] σ Q := by
  refine fcall 4 F rfl ?_
  exact plain_loop F (w := tw) (fun _ v => v.length ≤ 2 ∧ ∀ x ∈ v, x ∈ U5) 6 D hn (by decide)
    (fun i x ks l σ' hi p hl D' => c_glyph F D' (by lia) fun g σ2 D2 _ => c_some F D2 (by lia) (by decide) (by decide) fun v σ3 _ h2 hv D3 => ⟨lt_mx2 hl hi, MpI.next (f := plF 13) (x.1, .i g) p hl (fun _ h => h) D3 ⟨Int.ofNat_le.mp h2, hv⟩ rfl⟩)
    fun x i ks l σ' _ p hl D' => c_Alternate F (q (.alt (ks, l)) σ' (fun _ => ⟨dok p hl, p.p⟩) rfl D')
theorem getW {α : Type} {w : α → U} {d0 : α} {R : α → Prop} {ks : List Int} {l : List α} {g : Int} {Q : U → Prop} (p : DP R ks l) (h0 : R d0) (q : ∀ a, R a → Q (w a)) : Q ((dGet g ks (l.map w)).getD (w d0)) := by
  rw [dGet_map]
  cases e : dGet g ks l with
  | none => exact q d0 h0
  | some a => exact q a (p.p a (dGet_mem e))
noncomputable abbrev lw (rs : List LRow) : U := .fl (rs.map rowU)
noncomputable abbrev LgR (i : Nat) (rs : List LRow) : Prop := rs.length ≤ i ∧ ∀ p ∈ rs, p.1.length ≤ 2 ∧ p.2 ∈ U5
theorem c_plain_lig (F : Facts cx) (D : Dr n σ0 σ) (hn : n ≤ 20000) (q : PlQ 9 n σ0 Q) : CallT cx (d + 5) 121 [.lo .pot, .s 9] σ Q := by
  refine fcall 4 F rfl ?_
  refine plain_loop F (w := lw) LgR 7 D hn (by decide) (fun i x ks l σ' hi p hl D' => ?_) fun x i ks l σ' hi p hl D' => ?_
  · refine c_glyph F D' (by lia) fun g σ2 D2 _ => ?_
    let CT := CallT cx (d + 4)
    let os : Os := plF 9 (.od ks (l.map lw)) (x.1, .i g)
    let G := MpI lw LgR (n + 1) 7 σ0 (plF 9) (i + 1)
    let W : U → Prop := fun u => (ev CT (.lst (.cons (.tup (.cons (.bi .tuple (.cons (.call 120 (.cons (.v 0) (.cons (.k (.i 2)) .nil))) .nil)) (.cons (.call 119 (.cons (.v 0) .nil)) .nil))) .nil))).e os σ2 fun v σ3 => binU .add u v fun z => plQ (fun z => (ev CT (.v 5)).e os σ3 fun y σ4 => onI (fun y => ks.length < mxL ∧ wS CT (CallI cx (d + 4)) .skip (os.set 4 (.od (dPut y z ks (l.map lw)).1 (dPut y z ks (l.map lw)).2)) σ4 ⟨G, Q, G⟩) y) z
    have main : ∀ old, LgR i old → W (lw old) := fun old ho => by
      refine c_some F D2 (by lia) (by decide) (by decide) fun v σ3 _ h2 hv D3 => c_glyph F D3 (by lia) fun g2 σ4 D4 hg2 => ⟨?_, ?_⟩
      · rw [List.length_map]; exact Nat.le_trans (Nat.succ_le_succ (Nat.le_trans ho.1 (Nat.le_of_lt hi))) (by decide)
      · refine ⟨lt_mx2 hl hi, MpI.next (f := plF 9) (x.1, .i g) (v := old ++ [(v, g2)]) p hl (fun _ h => ⟨Nat.le_succ_of_le h.1, h.2⟩) D4 ⟨?_, fun r hr => ?_⟩ (congrArg U.fl (List.map_append (f := rowU) (l₁ := old) (l₂ := [(v, g2)])).symm)⟩
        · rw [List.length_append]; exact Nat.succ_le_succ ho.1
        · exact (List.mem_append.mp hr).elim (ho.2 r) fun q => List.mem_singleton.mp q ▸ ⟨Int.ofNat_le.mp h2, hg2⟩
    have := getW (w := lw) (d0 := []) (g := g) (Q := W) p ⟨Nat.zero_le i, nofun⟩ main
    exact this
  · exact c_Ligature F (q (.lig (ks, l)) σ' (fun _ => ⟨dok p hl, fun rs hrs => ⟨Nat.le_trans (p.p rs hrs).1 hi, (p.p rs hrs).2⟩⟩) rfl D')
end

end
section
section
variable {cx : Cx} {d : Nat} {σ : St} {Q : U → St → Prop} {R : List U → St → Prop}
variable {σ0 : St} {n : Nat}
theorem lt_range {m i a : Nat} (h : (List.range m)[i]? = some a) : i < m := by
  have := (List.getElem?_eq_some_iff.mp h).1
  rw [List.length_range] at this
  exact this
theorem c_plain_rev (F : Facts cx) (D : Dr n σ0 σ) (hn : n ≤ 20000) (q : PlQ 11 n σ0 Q) : CallT cx (d + 5) 121 [.lo .pot, .s 11] σ Q := by
  have rf : RgF 0 2 2 := rgF rfl (by decide) (by decide)
  refine fcall 4 F rfl ⟨⟨rf.s, rf.l⟩, ?_⟩
  rw [rf.e]
  refine CompT.dr (g := fun cs : List (List Int) => .tu (cs.map covU)) (fun _ cs => cs.length ≤ 1) 6 (fun _ => trivial) D (fun i a σ2 ha D2 Y N y => ?_) fun bs σ2 hl hp D2 => ?_
  · have hi := lt_range ha
    refine c_draw F D2 (by lia) (by decide) (by decide) fun r σ3 D3 r0 r1 => ?_
    have rf := rgT r0 (Int.le_refl 0) (by lia)
    refine ⟨⟨rf.s, rf.l⟩, ?_⟩
    rw [rf.e]
    refine CompT.dr (g := covU) (fun _ _ => True) 5 (fun _ => trivial) D3 (fun j b σ4 hb D4 Y N y => c_some F D4 (by have := lt_range hb; lia) (by decide) (by decide) fun gs σ5 l4 _ _ D5 => c_coverage_of F (Nat.le_trans l4 (by decide)) fun ks => y ks σ5 trivial D5) fun cs σ4 hl _ D4 => ?_
    rw [List.length_range] at hl D4
    exact y cs σ4 (by lia) (D4.le (by lia))
  · match bs, hl with
    | [b, a], _ =>
      have hn' : n + 6 * (List.range 2).length ≤ 20000 + 12 := Nat.add_le_add_right hn 12
      refine c_glyph F D2 (Nat.le_trans hn' (by decide)) fun g1 σ3 D3 _ => c_glyph F D3 (Nat.le_trans (Nat.succ_le_succ hn') (by decide)) fun g2 σ4 D4 h2 => nth0 (nth1 (c_Reverse F ?_))
      exact q (.rev ([g1], [g2]) b a) σ4 (fun _ => ⟨⟨rfl, (show 1 ≤ 5 by decide)⟩, fun v hv => List.mem_singleton.mp hv ▸ h2, hp 0 b rfl, hp 1 a rfl⟩) rfl (D4.le (Nat.add_le_add_left (show 14 ≤ 30 by decide) n))
theorem c_plain (F : Facts cx) {kind : Nat} (hk : kind ∈ [10, 12, 13, 9, 11]) (D : Dr n σ0 σ) (hn : n ≤ 20000) (q : PlQ kind n σ0 Q) : CallT cx (d + 5) 121 [.lo .pot, .s kind] σ Q := by
  rcases List.mem_cons.mp hk with rfl | hk
  · exact c_plain_single F D hn q
  rcases List.mem_cons.mp hk with rfl | hk
  · exact c_plain_mult F D hn q
  rcases List.mem_cons.mp hk with rfl | hk
  · exact c_plain_alt F D hn q
  rcases List.mem_cons.mp hk with rfl | hk
  · exact c_plain_lig F D hn q
  cases List.mem_singleton.mp hk
  exact c_plain_rev F D hn q
inductive LyI {α : Type} (c : α → U) (n k : Nat) (σ0 : St) (f : U → U → Os) (i : Nat) : Os → St → Prop
  | mk (zs : List α) (σ' : St) (x : U) (D : Dr (n + k * i) σ0 σ') (hl : zs.length = i) : LyI c n k σ0 f i (f (.ol (zs.map c)) x) σ'
theorem LyI.next {α : Type} {c : α → U} {k i : Nat} {f : U → U → Os} {zs : List α} {σ' : St} (x : U) (z : α) (D : Dr (n + k * i + k) σ0 σ') (hl : zs.length = i) : LyI c n k σ0 f (i + 1) (f (.ol (zs.map c ++ [c z])) x) σ' := by
  have := LyI.mk (c := c) (f := f) (k := k) (i := i + 1) (zs ++ [z]) σ' x (Nat.add_assoc n _ _ ▸ D) (by rw [List.length_append, hl]; rfl)
  rw [List.map_append] at this
  exact this
noncomputable abbrev rwF (form : Nat) (least : Int) (o x : U) : Os := [.lo .pot, .i form, .i least, .i 1, o, x]
noncomputable abbrev RwQ (form : Nat) (least : Int) (n : Nat) (σ0 : St) (Q : U → St → Prop) : Prop := ∀ (r : Row) σ', r.ok form → least ≤ r.l.length → (r.l.length : Int) ≤ least + 1 → Dr (n + 20) σ0 σ' → Q r.u σ'
theorem row_loop (F : Facts cx) {α : Type} {c : α → U} {form : Nat} {least : Int} (D : Dr n σ0 σ) (hn : n ≤ 20000) (h0 : 0 ≤ least) (h1 : least ≤ 1)
    (hb : ∀ i x (zs : List α) σ', Dr (n + 1 + 6 * i) σ0 σ' → n + 1 + 6 * i ≤ 30000 → (zs.map c).length < mxL → zs.length = i → wS (CallT cx (d + 4)) (CallI cx (d + 4)) b122_1 (rwF form least (.ol (zs.map c)) x) σ' ⟨LyI c (n + 1) 6 σ0 (rwF form least) (i + 1), Q, LyI c (n + 1) 6 σ0 (rwF form least) (i + 1)⟩)
    (q : ∀ (zs : List α) σ', least ≤ (zs.map c).length → ((zs.map c).length : Int) ≤ least + 1 → Dr (n + 20) σ0 σ' → Q (.tu (zs.map c)) σ') : CallT cx (d + 5) 122 [.lo .pot, .i form, .i least, .i 1] σ Q := by
  refine fcall 2 F rfl (c_draw F D (Nat.le_trans hn (by decide)) (by decide) (by decide) fun r σ' D' r0 r1 => ?_)
  have rf : RgF 0 (least + r) (least + r - 0).toNat := rgT (by lia) (Int.le_refl 0) (by lia)
  refine ⟨⟨rf.s, rf.l⟩, ?_⟩
  rw [rf.e]
  refine ForT.m (LyI c (n + 1) 6 σ0 (rwF form least)) (.mk [] σ' .un D' rfl) (fun i a os σ' ha J => ⟨trivial, ?_⟩) fun os σ' J => ⟨trivial, ?_⟩
  · refine LyI.casesOn J fun zs σ' x D' hl => ?_
    have := lt_range ha
    exact hb i (rgI 0 a) zs σ' D' (by lia) (Nat.lt_of_le_of_lt (show (zs.map c).length ≤ 3 by rw [List.length_map]; lia) (by decide)) hl
  · refine LyI.casesOn J fun zs σ' x D' hl => ?_
    rw [List.length_range] at hl D'
    exact q zs σ' (by rw [List.length_map]; lia) (by rw [List.length_map]; lia) (D'.le (by lia))
theorem c_row (F : Facts cx) {form : Nat} {least : Int} (hf : form = 1 ∨ form = 2 ∨ form = 3) (D : Dr n σ0 σ) (hn : n ≤ 20000) (h0 : 0 ≤ least) (h1 : least ≤ 1) (q : RwQ form least n σ0 Q) : CallT cx (d + 5) 122 [.lo .pot, .i form, .i least, .i 1] σ Q := by
  rcases hf with rfl | rfl | rfl
  · exact row_loop F (c := U.i) D hn h0 h1 (fun i x zs σ' D' hn' hz hl => c_glyph F D' (Nat.le_trans hn' (by decide)) fun g σ2 D2 _ => ⟨hz, .next (f := rwF 1 least) x g (D2.le (Nat.add_le_add_left (by decide) _)) hl⟩) fun zs σ' => q (.is zs) σ' (.inl rfl)
  · exact row_loop F (c := U.i) D hn h0 h1 (fun i x zs σ' D' hn' hz hl => c_draw F D' (Nat.le_trans hn' (by decide)) (by decide) (by decide) fun g σ2 D2 _ _ => ⟨hz, .next (f := rwF 2 least) x g (D2.le (Nat.add_le_add_left (by decide) _)) hl⟩) fun zs σ' => q (.is zs) σ' (.inr rfl)
  · exact row_loop F (c := covU) D hn h0 h1 (fun i x zs σ' D' hn' hz hl => c_glyph F D' (Nat.le_trans hn' (by decide)) fun g σ2 D2 _ => c_some F D2 (Nat.le_trans (Nat.succ_le_succ hn') (by decide)) (by decide) (by decide) fun gs σ3 l4 _ _ D3 =>
      ⟨by rw [List.length_map]; exact Nat.le_trans (Nat.add_le_add_left l4 1) (by decide), c_coverage_of F (gs := g :: gs) (Nat.le_trans (Nat.succ_le_succ l4) (by decide)) fun ks => ⟨hz, .next (f := rwF 3 least) x ks D3 hl⟩⟩) fun zs σ' => q (.cs zs) σ' rfl
end

end
section
section
variable {cx : Cx} {d : Nat} {σ : St} {Q : U → St → Prop} {R : List U → St → Prop}
variable {σ0 : St} {n : Nat}
theorem c_Rule (F : Facts cx) {a b c e : List U} (q : Q (.fo 7 [.tu a, .tu b, .tu c, .tu e]) σ) : CallT cx (d + 2) 1000007 [.tu a, .tu b, .tu c, .tu e] σ Q := callFo F.cf rfl rfl (icallE F [.tu a, .tu b, .tu c, .tu e] rfl rfl rfl (by kernel_rfl) q)
theorem c_ClassDef (F : Facts cx) {ks : List Int} {l : List U} (q : Q (.fo 63 [.fd ks l]) σ) : CallT cx (d + 2) 1000063 [.fd ks l] σ Q := callFo F.cf rfl rfl (icallE F [.fd ks l] rfl rfl rfl (by kernel_rfl) q)
theorem c_Contexts (F : Facts cx) {x : Int} {b : Bool} {ks : List Int} {l m : List U} {c : List Int} (q : Q (.fo 8 [.i x, .b b, .fd ks l, covU c, .tu m]) σ) : CallT cx (d + 2) 1000008 [.i x, .b b, .fd ks l, covU c, .tu m] σ Q := by
  refine callFo F.cf rfl rfl (i8 F ?_)
  have e : wS (CallT cx d) (CallI cx d) b8000 [.oi 8 [], .i x, .b b, .fd ks l, covU c, .tu m] σ (iQ 8 fun fs σ => Q (.fo 8 fs) σ) = (8 = 8 ∧ Q (.fo 8 [.i x, .b b, .fd ks l, covU c, .tu m]) σ) := by kernel_rfl
  exact e ▸ ⟨rfl, q⟩
theorem opt_row (F : Facts cx) {form : Nat} {ch : Bool} (hf : form = 1 ∨ form = 2 ∨ form = 3) (D : Dr n σ0 σ) (hn : n ≤ 20000) (q : RwQ form 0 n σ0 Q) : ifB ch (CallT cx (d + 5) 122 [.lo .pot, .i form, .i 0, .i 1] σ Q) (Q (.tu []) σ) := by
  refine ifB.mk (fun _ => c_row F hf D hn (by decide) (by decide) q) fun _ => ?_
  have D2 := D.le (Nat.le_add_right n 20)
  rcases hf with h | h | h
  · exact q (.is []) σ (.inl h) (by decide) (by decide) D2
  · exact q (.is []) σ (.inr h) (by decide) (by decide) D2
  · exact q (.cs []) σ h (by decide) (by decide) D2
theorem opt_key {form : Nat} {r : Row} {P : U → Prop} (ok : r.ok form) (hl : 0 < r.l.length) (q : ∀ key : Int, (form = 3 → key = 0) → P (.i key)) : ifB (decide ((form : Int) < 3)) (nthU r.l 0 P) (P (.i 0)) := by
  refine ifB.d (fun h => ?_) fun _ => q 0 fun _ => rfl
  have h3 : form ≠ 3 := fun e => by rw [e] at h; exact absurd h (by decide)
  cases r with
  | is l =>
    cases l with
    | nil => exact nomatch hl
    | cons a l => exact nth0 (q a fun e => absurd e h3)
  | cs l => exact absurd ok h3
theorem mrg_i : ∀ {rs : List (Int × U)} {ks l : List Int}, (∀ b ∈ rs, ∃ z : Int, b.2 = .i z) → ks.length = l.length → ∃ c : Cls, dMrg rs (ks, l.map .i) = (c.1, c.2.map .i) ∧ c.1.length = c.2.length ∧ c.1.length ≤ ks.length + rs.length
  | [], ks, l, _, h => ⟨(ks, l), rfl, h, Nat.le_refl _⟩
  | (k, u) :: rs, ks, l, hb, h => by
    obtain ⟨z, hz⟩ := hb _ (.head _)
    cases hz
    obtain ⟨c, e, h1, h2⟩ := mrg_i (rs := rs) (ks := (dPut k z ks l).1) (l := (dPut k z ks l).2) (fun b h => hb b (.tail _ h)) (DP.put (R := fun _ => True) (R' := fun _ => True) ⟨h, fun _ _ => trivial⟩ (fun _ h => h) trivial).e
    refine ⟨c, ?_, h1, Nat.le_trans h2 ?_⟩
    · show dMrg rs (dPut k (.i z) ks (l.map .i)) = _
      rw [dPut_map]; exact e
    · rw [dPut_fst, List.length_cons, Nat.add_comm rs.length, ← Nat.add_assoc]; exact Nat.add_le_add_right addK_len _
noncomputable abbrev fdU (c : Cls) : U := .fd c.1 (c.2.map .i)
end

end
section
section
variable {cx : Cx} {d : Nat} {σ : St} {Q : U → St → Prop} {R : List U → St → Prop}
variable {σ0 : St} {n : Nat}
theorem ctx_fin (F : Facts cx) {form num : Nat} {ch : Bool} {ks cv : List Int} {sets : List (List RuleD)} {a b c e f g : U} {c0 c1 c2 : Cls} (q : Q (CtxD.u ⟨form, ch, ks, sets, cv, c0, c1, c2⟩) σ) :
    wS (CallT cx (d + 5)) (CallI cx (d + 5)) (.frz 4 (.ret (.call 1000008 (.cons (.v 3) (.cons (.v 1) (.cons (.v 4) (.cons (.v 12) (.cons (.bi .tuple (.cons (.comp ([none, none, none]) (.n 1) (.v 11) (.k (.b true)) (.call 1000063 (.cons (.v 1) .nil))) .nil)) .nil)))))))) [.lo .pot, .b ch, .i num, .i form, .od ks (sets.map rulesU), a, b, c, e, f, g, .fl ([c0, c1, c2].map fdU), covU cv] σ (rQ Q) :=
  CompT.m (c' := clsU) (fun c : Cls => c) rfl (fun c _ Y N y => c_ClassDef F y) (c_Contexts F q)
theorem ctx_end (F : Facts cx) {form num : Nat} {ch : Bool} {ks : List Int} {sets : List (List RuleD)} {a b c e f g : U} (D : Dr n σ0 σ) (hn : n ≤ 10000)
    (q : ∀ cv (c0 c1 c2 : Cls) σ', DOk c0.1 c0.2 → DOk c1.1 c1.2 → DOk c2.1 c2.2 → Dr (n + 50) σ0 σ' → Q (CtxD.u ⟨form, ch, ks, sets, cv, c0, c1, c2⟩) σ') :
    wS (CallT cx (d + 5)) (CallI cx (d + 5)) b123_2 [.lo .pot, .b ch, .i num, .i form, .od ks (sets.map rulesU), a, b, c, e, f, g, .un, .un] σ (rQ Q) := by
  have rf : RgF 0 3 3 := rgF rfl (by decide) (by decide)
  refine ⟨⟨rf.s, rf.l⟩, ?_⟩
  rw [rf.e]
  refine CompT.dr (g := fdU) (fun _ c => DOk c.1 c.2) 9 (fun _ => trivial) D (fun i a σ2 ha D2 Y N y => ?_) fun bs σ2 hl hp D2 => ?_
  · have hi := lt_range ha
    refine ifB.d (fun _ => c_some F D2 (by lia) (by decide) (by decide) fun gs σ3 l4 _ _ D3 => ?_) fun _ => y ([], []) σ2 ⟨rfl, Nat.zero_le 5⟩ (D2.le (Nat.le_add_right _ _))
    refine CompT.dr (g := pairU) (fun _ b => ∃ z : Int, b.2 = .i z) 1 (fun _ => rfl) D3 (fun j g σ4 hg D4 Y N y => c_draw F D4 (by have := (List.getElem?_eq_some_iff.mp hg).1; lia) (by decide) (by decide) fun r σ5 D5 _ _ => y (g, .i (1 + r)) σ5 ⟨_, rfl⟩ D5) fun bs σ4 hl hp D4 => ⟨bs, rfl, ?_⟩
    obtain ⟨c, e, h1, h2⟩ := mrg_i (rs := bs) (ks := []) (l := []) (fun b hb => let ⟨i, hi⟩ := List.getElem?_of_mem hb; hp i b hi) rfl
    rw [show dMrg bs ([], []) = (c.1, c.2.map .i) from e]
    have h2 : c.1.length ≤ 0 + bs.length := h2
    exact y c σ4 ⟨h1, by lia⟩ (D4.le (by lia))
  · match bs, hl with
    | [c0, c1, c2], _ =>
      have hn2 : n + 9 * (List.range 3).length ≤ 50000 := Nat.le_trans (Nat.add_le_add_right hn 27) (by decide)
      have fin : ∀ cv σ', Dr (n + 9 * (List.range 3).length + 5) σ0 σ' → Q (CtxD.u ⟨form, ch, ks, sets, cv, c0, c1, c2⟩) σ' := fun cv σ' D' => q cv c0 c1 c2 σ' (hp 0 c0 rfl) (hp 1 c1 rfl) (hp 2 c2 rfl) (D'.le (Nat.add_le_add_left (show 32 ≤ 50 by decide) n))
      exact ifB.d (fun _ => c_some F D2 hn2 (by decide) (by decide) fun gs σ3 l4 _ _ D3 => c_coverage_of F (Nat.le_trans l4 (by decide)) fun cv => ctx_fin F (fin cv _ D3)) fun _ => c_coverage_of (gs := []) F (by decide) fun cv => ctx_fin F (fin cv _ (D2.le (Nat.le_add_right _ _)))
end

end
section
section
variable {cx : Cx} {d : Nat} {σ : St} {Q : U → St → Prop} {R : List U → St → Prop}
variable {σ0 : St} {n : Nat}
noncomputable abbrev CtR (form num i : Nat) (rs : List RuleD) : Prop := rs.length ≤ i ∧ ∀ r ∈ rs, r.ok form ∧ RuleOk num r
structure CxY (form num i : Nat) (ks : List Int) (sets : List (List RuleD)) : Prop where
  p : DP (fun rs => CtR form num i rs ∧ rs ≠ []) ks sets
  l : ks.length ≤ i
  z : form = 3 → ks = [] ∧ i = 0 ∨ ks = [0]
inductive CxI (ch : Bool) (form num n : Nat) (σ0 : St) (i : Nat) : Os → St → Prop
  | mk (ks : List Int) (sets : List (List RuleD)) (σ' : St) (D : Dr (n + 80 * i) σ0 σ') (y : CxY form num i ks sets) (a b c e f g : U) : CxI ch form num n σ0 i [.lo .pot, .b ch, .i num, .i form, .od ks (sets.map rulesU), a, b, c, e, f, g, .un, .un] σ'
theorem CxI.next {ch : Bool} {form num i : Nat} {ks : List Int} {sets : List (List RuleD)} {σ' : St} {key : Int} {u : U} {v : List RuleD} (D : Dr (n + 80 * i + 80) σ0 σ') (y : CxY form num i ks sets) (hk : form = 3 → key = 0) (hv : CtR form num (i + 1) v ∧ v ≠ []) (eu : u = rulesU v) (a b c e f g : U) :
    CxI ch form num n σ0 (i + 1) [.lo .pot, .b ch, .i num, .i form, .od (dPut key u ks (sets.map rulesU)).1 (dPut key u ks (sets.map rulesU)).2, a, b, c, e, f, g, .un, .un] σ' := by
  subst eu
  rw [dPut_map]
  refine .mk _ _ _ D ⟨y.p.put (fun rs h => ⟨⟨Nat.le_succ_of_le h.1.1, h.1.2⟩, h.2⟩) hv, ?_, fun h3 => .inr ?_⟩ a b c e f g
  · rw [dPut_fst]; exact Nat.le_trans addK_len (Nat.succ_le_succ y.l)
  · rw [dPut_fst, hk h3]
    rcases y.z h3 with ⟨h, _⟩ | h
    · rw [h]; rfl
    · rw [h]; rfl
theorem actE {a b : Int} (ha : 0 ≤ a) (hb : 0 ≤ b) : U.tu [.i a, .i b] = actU (a.toNat, b.toNat) := by
  show _ = U.tu [.i (a.toNat : Nat), .i (b.toNat : Nat)]
  rw [Int.toNat_of_nonneg ha, Int.toNat_of_nonneg hb]
theorem ctx_step (F : Facts cx) {ch : Bool} {form num i : Nat} {ks : List Int} {sets : List (List RuleD)} {t a b c e f : U} (hf : form = 1 ∨ form = 2 ∨ form = 3) (hn : n ≤ 10000) (hi : i < 2) (y : CxY form num i ks sets) (D : Dr (n + 80 * i) σ0 σ) :
    wS (CallT cx (d + 5)) (CallI cx (d + 5)) b123_1 [.lo .pot, .b ch, .i num, .i form, .od ks (sets.map rulesU), t, a, b, c, e, f, .un, .un] σ ⟨CxI ch form num n σ0 (i + 1), Q, CxI ch form num n σ0 (i + 1)⟩ := by
  have hm : n + 80 * i ≤ 10100 := by lia
  refine c_row F hf D (Nat.le_trans hm (by decide)) (by decide) (by decide) fun inside σ1 ok1 l1 l1' D1 => ?_
  refine opt_row F hf D1 (Nat.le_trans (Nat.add_le_add_right hm 20) (by decide)) fun back σ2 ok2 _ l2 D2 => ?_
  refine opt_row F hf D2 (Nat.le_trans (Nat.add_le_add_right hm 40) (by decide)) fun ahead σ3 ok3 _ l3 D3 => ?_
  refine c_draw F D3 (Nat.le_trans (Nat.add_le_add_right hm 60) (by decide)) (by decide) (by decide) fun r σ4 D4 r0 r1 => ?_
  have rf := rgT r0 (Int.le_refl 0) (by lia)
  refine ⟨⟨rf.s, rf.l⟩, ?_⟩
  rw [rf.e]
  have hr3 : (r - 0).toNat ≤ 3 := by lia
  generalize (r - 0).toNat = m at hr3
  have ip : (0 : Int) < inside.l.length := l1
  refine CompT.dr (g := actU) (fun _ a => a.1 < inside.l.length ∧ num < a.2) 2 (fun _ => trivial) D4 (fun j b σ5 hb D5 Y N y => ?_) fun acts σ5 hl hp D5 => ?_
  · have hj : n + 80 * i + 20 + 20 + 20 + 1 + 2 * j ≤ 10100 + 20 + 20 + 20 + 1 + 2 * 3 := Nat.add_le_add (Nat.add_le_add_right hm 61) (Nat.mul_le_mul_left 2 (Nat.le_trans (Nat.le_of_lt (lt_range hb)) hr3))
    refine c_draw F D5 (Nat.le_trans hj (by decide)) (by decide) (by decide) fun r8 σ6 D6 _ _ => ⟨Int.ne_of_gt ip, c_draw F D6 (Nat.le_trans (Nat.succ_le_succ hj) (by decide)) (by decide) (by decide) fun r9 σ7 D7 h0 _ => ?_⟩
    have a0 := Int.fmod_nonneg_of_pos r8 ip
    have a1 := Int.fmod_lt_of_pos r8 ip
    have h := y ((r8.fmod inside.l.length).toNat, ((num : Int) + 1 + r9).toNat) σ7 ⟨by lia, by lia⟩ D7
    rw [← actE a0 (by lia)] at h
    exact h
  · refine opt_key ok1 (Int.ofNat_lt.mp ip) fun key hk => ?_
    rw [List.length_range] at hl D5
    let CT := CallT cx (d + 5)
    let os : Os := [.lo .pot, .b ch, .i num, .i form, .od ks (sets.map rulesU), t, inside.u, back.u, ahead.u, .tu (acts.map actU), .i key, .un, .un]
    let G := CxI ch form num n σ0 (i + 1)
    let W : U → Prop := fun u => (ev CT (.lst (.cons (.call 1000007 (.cons (.v 7) (.cons (.v 6) (.cons (.v 8) (.cons (.v 9) .nil))))) .nil))).e os σ5 fun v σ6 => binU .add u v fun z => plQ (fun z => (ev CT (.v 10)).e os σ6 fun y σ7 => onI (fun y => ks.length < mxL ∧ wS CT (CallI cx (d + 5)) .skip (os.set 4 (.od (dPut y z ks (sets.map rulesU)).1 (dPut y z ks (sets.map rulesU)).2)) σ7 ⟨G, Q, G⟩) y) z
    have main : ∀ old, CtR form num i old → W (rulesU old) := fun old ho => by
      refine c_Rule F ⟨?_, lt_mx2 y.l hi, ?_⟩
      · rw [List.length_map]; exact Nat.le_trans (Nat.succ_le_succ (Nat.le_trans ho.1 (Nat.le_of_lt hi))) (by decide)
      · refine CxI.next (v := old ++ [⟨back, inside, ahead, acts⟩]) (D5.le (by lia)) y hk ⟨⟨?_, fun r hr => ?_⟩, ?_⟩ (congrArg U.fl (List.map_append (f := RuleD.u) (l₁ := old) (l₂ := [⟨back, inside, ahead, acts⟩])).symm) t inside.u back.u ahead.u (.tu (acts.map actU)) (.i key)
        · rw [List.length_append]; exact Nat.succ_le_succ ho.1
        · refine (List.mem_append.mp hr).elim (ho.2 r) fun q => ?_
          cases List.mem_singleton.mp q
          exact ⟨⟨ok2, ok1, ok3⟩, ⟨Int.ofNat_lt.mp ip, Int.ofNat_le.mp l1'⟩, Int.ofNat_le.mp l2, Int.ofNat_le.mp l3, hl ▸ hr3, fun a ha => let ⟨i, hi⟩ := List.getElem?_of_mem ha; hp i a hi⟩
        · exact fun e => nomatch (List.append_eq_nil_iff.mp e).2
    have := getW (w := rulesU) (d0 := []) (g := key) (Q := W) ⟨y.p.e, fun v hv => (y.p.p v hv).1⟩ ⟨Nat.zero_le i, nofun⟩ main
    exact this
end

end
section
section
variable {cx : Cx} {d : Nat} {σ : St} {Q : U → St → Prop} {R : List U → St → Prop}
variable {σ0 : St} {n : Nat}
theorem Row.cs3 {r : Row} {form : Nat} (ok : r.ok form) (h3 : form = 3) (h : 0 < r.l.length) : ∃ c l, r = .cs (c :: l) := by
  subst h3
  cases r with
  | is l => exact absurd (show 3 = 1 ∨ 3 = 2 from ok) (by decide)
  | cs l => cases l with
    | nil => exact nomatch h
    | cons c l => exact ⟨c, l, rfl⟩
theorem CxY.fin {form num i : Nat} {ch : Bool} {ks cv : List Int} {sets : List (List RuleD)} {c0 c1 c2 : Cls} (hf : form = 1 ∨ form = 2 ∨ form = 3) (y : CxY form num i ks sets) (hi : 1 ≤ i) (h2 : i ≤ 2) (d0 : DOk c0.1 c0.2) (d1 : DOk c1.1 c1.2) (d2 : DOk c2.1 c2.2) : (TblD.ctx ⟨form, ch, ks, sets, cv, c0, c1, c2⟩).ok num := by
  refine ⟨⟨hf, fun rs hrs => ?_, fun h3 => ?_⟩, ⟨dok y.p (Nat.le_trans y.l h2), d0, d1, d2, fun rs hrs => (y.p.p rs hrs).2⟩, fun rs hrs => ?_⟩
  · obtain ⟨⟨h, h'⟩, _⟩ := y.p.p rs hrs
    exact ⟨Nat.le_trans h (Nat.le_trans h2 (by decide)), fun r hr => ⟨(h' r hr).1, fun h3 => Row.cs3 (h' r hr).1.2.1 h3 (h' r hr).2.i.1⟩⟩
  · rcases y.z h3 with ⟨_, h⟩ | h
    · rw [h] at hi; exact nomatch hi
    · have e := y.p.e
      rw [h] at e
      exact ⟨h, List.length_eq_one_iff.mp e.symm⟩
  · obtain ⟨⟨h, h'⟩, _⟩ := y.p.p rs hrs
    exact ⟨Nat.le_trans h h2, fun r hr => (h' r hr).2⟩
theorem ctx_main (F : Facts cx) {form num : Nat} {ch : Bool} (hf : form = 1 ∨ form = 2 ∨ form = 3) (D : Dr n σ0 σ) (hn : n ≤ 9000) (q : ∀ (t : CtxD) σ', (TblD.ctx t).ok num → Dr (n + 300) σ0 σ' → Q t.u σ') :
    wS (CallT cx (d + 5)) (CallI cx (d + 5)) (.newD 4 (.for (.n 5) (.bi .range1 (.cons (.bin .add (.k (.i 1)) (.ite (.cmp .lt (.v 3) (.k (.i 3))) (.call 118 (.cons (.v 0) (.cons (.k (.i 2)) .nil))) (.k (.i 0)))) .nil)) b123_1 b123_2)) [.lo .pot, .b ch, .i num, .i form, .un, .un, .un, .un, .un, .un, .un, .un, .un] σ (rQ Q) := by
  have loop : ∀ (r : Int) σ', 0 ≤ r → r < 2 → (form = 3 → r = 0) → Dr (n + 1) σ0 σ' → srcU σ' (fun xs stay => ForT xs stay (fun x os σ go => asP os (fun os1 => wS (CallT cx (d + 5)) (CallI cx (d + 5)) b123_1 os1 σ ⟨go, Q, go⟩) (.n 5) x) (fun os σ => wS (CallT cx (d + 5)) (CallI cx (d + 5)) b123_2 os σ (rQ Q)) [.lo .pot, .b ch, .i num, .i form, .od [] [], .un, .un, .un, .un, .un, .un, .un, .un] σ') (.rg 0 (1 + r) 1) := fun r σ' r0 r1 h3 D' => by
    have rf : RgF 0 (1 + r) (1 + r - 0).toNat := rgT (by lia) (Int.le_refl 0) (by lia)
    refine ⟨⟨rf.s, rf.l⟩, ?_⟩
    rw [rf.e]
    have m1 : 1 ≤ (1 + r - 0).toNat := by lia
    have m2 : (1 + r - 0).toNat ≤ 2 := by lia
    have m3 : (1 + r - 0).toNat = 2 → form ≠ 3 := fun e h => by rw [h3 h] at e; exact absurd e (by decide)
    generalize (1 + r - 0).toNat = m at m1 m2 m3
    refine ForT.m (CxI ch form num (n + 1) σ0) (.mk [] [] σ' D' ⟨⟨rfl, nofun⟩, Nat.le_refl 0, fun _ => .inl ⟨rfl, rfl⟩⟩ .un .un .un .un .un .un) (fun i a os σ' ha J => ⟨trivial, ?_⟩) fun os σ' J => ⟨trivial, ?_⟩
    · refine CxI.casesOn J fun ks sets σ' D' y a b c e f g => ?_
      exact ctx_step F hf (Nat.le_trans (Nat.succ_le_succ hn) (by decide)) (Nat.lt_of_lt_of_le (lt_range ha) m2) y D'
    · refine CxI.casesOn J fun ks sets σ' D' y a b c e f g => ?_
      rw [List.length_range] at y D'
      have hm : n + 1 + 80 * m ≤ n + 1 + 160 := Nat.add_le_add_left (Nat.mul_le_mul_left 80 m2) _
      exact ctx_end F D' (Nat.le_trans hm (Nat.le_trans (Nat.add_le_add_right hn 161) (by decide))) fun cv c0 c1 c2 σ2 d0 d1 d2 D2 => q _ σ2 (y.fin hf m1 m2 d0 d1 d2) (D2.le (Nat.le_trans (Nat.add_le_add_right hm 50) (Nat.add_le_add_left (show 211 ≤ 300 by decide) n)))
  refine ifB.d (fun h => c_draw F D (Nat.le_trans hn (by decide)) (by decide) (by decide) fun r σ' D' r0 r1 => loop r σ' r0 r1 (fun e => ?_) D') fun _ => loop 0 σ (by decide) (by decide) (fun _ => rfl) (D.le (Nat.le_succ n))
  rw [e] at h; exact absurd h (by decide)
theorem c_context (F : Facts cx) {num : Nat} {ch : Bool} (D : Dr n σ0 σ) (hn : n ≤ 8000) (q : ∀ (t : TblD) σ', t.ok num → (t.hasK 7 ∧ t.hasK 8) → Dr (n + 400) σ0 σ' → Q t.u σ') : CallT cx (d + 6) 123 [.lo .pot, .b ch, .i num] σ Q := by
  refine fcall 10 F rfl (c_draw F D (Nat.le_trans hn (by decide)) (by decide) (by decide) fun r σ' D' r0 r1 => ?_)
  have q' : ∀ (t : CtxD) σ', (TblD.ctx t).ok num → Dr (n + 1 + 300) σ0 σ' → Q t.u σ' := fun t σ' ok D2 => q (.ctx t) σ' ok ⟨.inl rfl, .inr rfl⟩ (D2.le (Nat.add_le_add_left (show 301 ≤ 400 by decide) n))
  have hn' : n + 1 ≤ 9000 := Nat.le_trans (Nat.succ_le_succ hn) (by decide)
  have h3 : r = 0 ∨ r = 1 ∨ r = 2 := by lia
  rcases h3 with rfl | rfl | rfl
  · exact ctx_main F (form := 1) (.inl rfl) D' hn' q'
  · exact ctx_main F (form := 2) (.inr (.inl rfl)) D' hn' q'
  · exact ctx_main F (form := 3) (.inr (.inr rfl)) D' hn' q'
end

end
section
section
variable {cx : Cx} {d : Nat} {σ : St} {Q : U → St → Prop} {R : List U → St → Prop}
variable {σ0 : St} {n : Nat}
theorem TblD.u_pl {t : TblD} : t.u.pl = true := by cases t <;> rfl
theorem c_Lookup (F : Facts cx) {k : Nat} {l : List U} (q : Q (lkU k l) σ) : CallT cx (d + 2) 1000018 [.s k, .i 0, .i (-1), .fl l] σ Q := callFo F.cf rfl rfl (icallE F [.s k, .i 0, .i (-1), .fl l] rfl rfl rfl (by kernel_rfl) q)
noncomputable abbrev kinds : List Nat := [10, 12, 13, 9, 11, 7, 8]
noncomputable abbrev TbK (num kd : Nat) := { t : TblD // t.ok num ∧ t.hasK kd }
theorem tbl_any (F : Facts cx) {os : Os} {kd num : Nat} (hk : kd ∈ kinds) (D : Dr n σ0 σ) (hn : n ≤ 8000) (q : ∀ (t : TblD) σ', t.ok num → t.hasK kd → Dr (n + 400) σ0 σ' → Q t.u σ') :
    (ev (CallT cx (d + 6)) (.ite (.cmp .isin (.v 2) (.tup (.cons (.k (.s 7)) (.cons (.k (.s 8)) .nil)))) (.call 123 (.cons (.v 0) (.cons (.cmp .eq (.v 2) (.k (.s 8))) (.cons (.v 1) .nil)))) (.call 121 (.cons (.v 0) (.cons (.v 2) .nil))))).e (.lo .pot :: .i num :: .s kd :: os) σ Q := by
  have pl : kd ∈ [10, 12, 13, 9, 11] → CallT cx (d + 6) 121 [.lo .pot, .s kd] σ Q := fun h => c_plain (d := d + 1) F h D (Nat.le_trans hn (by decide)) fun t σ' ok hk D2 => q t σ' (ok num) hk (D2.le (Nat.add_le_add_left (by decide) n))
  have cx_ : ∀ ch, kd = 7 ∨ kd = 8 → CallT cx (d + 6) 123 [.lo .pot, .b ch, .i num] σ Q := fun ch h => c_context F D hn fun t σ' ok hk D2 => q t σ' ok (h.elim (fun e => e ▸ hk.1) fun e => e ▸ hk.2) D2
  rcases List.mem_cons.mp hk with rfl | hk
  · exact pl (by decide)
  rcases List.mem_cons.mp hk with rfl | hk
  · exact pl (by decide)
  rcases List.mem_cons.mp hk with rfl | hk
  · exact pl (by decide)
  rcases List.mem_cons.mp hk with rfl | hk
  · exact pl (by decide)
  rcases List.mem_cons.mp hk with rfl | hk
  · exact pl (by decide)
  rcases List.mem_cons.mp hk with rfl | hk
  · exact cx_ false (.inl rfl)
  cases List.mem_singleton.mp hk
  exact cx_ true (.inr rfl)
theorem c_lookup (F : Facts cx) {num : Nat} (D : Dr n σ0 σ) (hn : n ≤ 5000) (q : ∀ (l : LkD) σ', l.ok num → Dr (n + 1000) σ0 σ' → Q l.u σ') : CallT cx (d + 7) 124 [.lo .pot, .i num] σ Q := by
  refine fcall 3 F rfl (c_draw F D (Nat.le_trans hn (by decide)) (by decide) (by decide) fun r σ' D' r0 r1 => ?_)
  obtain ⟨k, rfl⟩ := Int.eq_ofNat_of_zero_le r0
  obtain ⟨kd, hk⟩ : ∃ kd, kinds[k]? = some kd := ⟨_, List.getElem?_eq_getElem (Int.ofNat_lt.mp r1)⟩
  refine mapI (l := kinds) (c := U.s) hk rfl (c_draw F D' (Nat.le_trans (Nat.succ_le_succ hn) (by decide)) (by decide) (by decide) fun r σ' D' r0 r1 => ⟨⟨by decide, PyProof.noPylong_small (by decide)⟩, ?_⟩)
  have hk := List.mem_of_getElem? hk
  have f0 : 0 ≤ r.fdiv 3 ∧ r.fdiv 3 ≤ 1 := by rw [Int.fdiv_eq_ediv_of_nonneg _ (by decide)]; lia
  generalize r.fdiv 3 = z at f0
  obtain ⟨z0, z1⟩ := f0
  have rf : RgF 0 (1 + z) (1 + z - 0).toNat := rgT (by lia) (Int.le_refl 0) (by lia)
  refine ⟨⟨rf.s, rf.l⟩, ?_⟩
  rw [rf.e]
  have hm : (1 + z - 0).toNat ≤ 2 := by lia
  generalize (1 + z - 0).toNat = m at hm
  let f : U → U → Os := fun o x => [.lo .pot, .i num, .s kd, o, x]
  refine ForT.m (LyI (fun t : TbK num kd => t.1.u) (n + 2) 400 σ0 f) (.mk [] σ' .un D' rfl) (fun i a os σ' ha J => ⟨trivial, ?_⟩) fun os σ' J => ⟨trivial, ?_⟩
  · refine LyI.casesOn J fun zs σ' x D' hl => ?_
    have hi := Nat.lt_of_lt_of_le (lt_range ha) hm
    refine tbl_any F hk D' (by lia) fun t σ2 ok hh D2 => guB_mk t.u_pl ⟨?_, .next (c := fun t : TbK num kd => t.1.u) (f := f) (rgI 0 a) ⟨t, ok, hh⟩ D2 hl⟩
    rw [List.length_map, hl]; exact Nat.lt_trans hi (by decide)
  · refine LyI.casesOn J fun zs σ' x D' hl => ?_
    rw [List.length_range] at hl D'
    have e : zs.map (fun t : TbK num kd => t.1.u) = (zs.map Subtype.val).map TblD.u := (List.map_map (g := TblD.u) (f := Subtype.val) (l := zs)).symm
    rw [e]
    refine c_Lookup F (q ⟨kd, zs.map Subtype.val⟩ σ' ⟨fun t ht => ?_, ?_, ?_⟩ (D'.le ?_))
    · obtain ⟨x, _, rfl⟩ := List.mem_map.mp ht; exact x.2
    · rw [List.length_map, hl]; exact hm
    · exact List.all_eq_true.mp (show kinds.all (Nat.blt · 17) = true from rfl) kd hk
    · have := Nat.mul_le_mul_left 400 hm; lia
end

end
section
section
variable {cx : Cx} {d : Nat} {σ : St} {Q : U → St → Prop} {R : List U → St → Prop}
variable {σ0 : St} {n : Nat}
theorem c_Buffer (F : Facts cx) (hp : σ.ph = 2) (q : Q (.lo .buf) { σ with ph := 3 }) : CallT cx (d + 2) 1000054 [.lo .row] σ Q := by
  refine callNm (c := 54) F.cf rfl rfl (i54 F ?_)
  have e : wS (CallT cx d) (CallI cx d) b54000 [.oi 54 [], .lo .row, .b false] σ (iQ 54 fun fs σ => NmQ 54 fs σ Q) = (54 = 54 ∧ NmQ 54 [.lo .row, .b false, .i 0, .i 0] σ Q) := by kernel_rfl
  exact e ▸ ⟨rfl, NmQ.buf hp q⟩
theorem Dr.self (D : Dr n σ0 σ) : Dr n σ σ := ⟨D.lo, D.hi, rfl, rfl, rfl⟩
structure BuY (σ : St) (zs : List Nat) (cl : Int) : Prop where
  nd : zs.Nodup
  lt : ∀ j ∈ zs, j < σ.nx
  mks : ∀ j ∈ zs, (σ.inf j).m = 1 ∨ (σ.inf j).m = 2 ∨ (σ.inf j).m = 3
  s : (clF zs σ.inf).Pairwise (· ≤ ·)
  le : ∀ x ∈ clF zs σ.inf, x ≤ cl
  z : ∀ x, (clF zs σ.inf ++ [cl])[0]? = some x → x = 0
  gl : ∀ j ∈ zs, (σ.inf j).g ∈ U5
theorem BuY.next {σ' : St} {zs : List Nat} {cl c2 g m : Int} (y : BuY σ zs cl) (hx : σ'.nx = σ.nx + 1) (hi : ∀ j, j < σ.nx → σ'.inf j = σ.inf j) (ha : σ'.inf σ.nx = ⟨g, cl, m⟩) (hg : g ∈ U5) (hm : m = 1 ∨ m = 2 ∨ m = 3) (hc : cl ≤ c2) : BuY σ' (zs ++ [σ.nx]) c2 := by
  have each : ∀ {P : Inf → Prop}, (∀ j ∈ zs, P (σ.inf j)) → P ⟨g, cl, m⟩ → ∀ j ∈ zs ++ [σ.nx], P (σ'.inf j) := fun {P} h1 h2 j hj => by
    rcases List.mem_append.mp hj with q | q
    · rw [hi j (y.lt j q)]; exact h1 j q
    · rw [List.mem_singleton.mp q, ha]; exact h2
  have e : clF (zs ++ [σ.nx]) σ'.inf = clF zs σ.inf ++ [cl] := by
    unfold clF
    rw [List.map_append, List.map_congr_left fun j hj => congrArg Inf.c (hi j (y.lt j hj)), List.map_cons, ha]; rfl
  refine ⟨List.nodup_append.mpr ⟨y.nd, List.nodup_cons.mpr ⟨nofun, List.nodup_nil⟩, fun a h1 b h2 e => ?_⟩, fun j hj => ?_, each (P := fun x => x.m = 1 ∨ x.m = 2 ∨ x.m = 3) y.mks hm, ?_, ?_, ?_, each (P := fun x => x.g ∈ U5) y.gl hg⟩
  · rw [List.mem_singleton.mp h2] at e; exact absurd (y.lt a h1) (Nat.not_lt.mpr (Nat.le_of_eq e.symm))
  · rw [hx]
    rcases List.mem_append.mp hj with q | q
    · exact Nat.lt_succ_of_lt (y.lt j q)
    · rw [List.mem_singleton.mp q]; exact Nat.lt_succ_self _
  · rw [e]; exact List.pairwise_append.mpr ⟨y.s, List.pairwise_singleton _ _, fun a h1 b h2 => List.mem_singleton.mp h2 ▸ y.le a h1⟩
  · rw [e]; exact fun x hx => (List.mem_append.mp hx).elim (fun q => Int.le_trans (y.le x q) hc) fun q => List.mem_singleton.mp q ▸ hc
  · rw [e]; exact fun x hx => y.z x (by rw [List.getElem?_append_left (by rw [List.length_append]; exact Nat.succ_pos _)] at hx; exact hx)
inductive BuI (n : Nat) (i : Nat) : Os → St → Prop
  | mk (zs : List Nat) (cl : Int) (σ : St) (D : Dr (n + 4 * i) σ σ) (y : BuY σ zs cl) (hp : σ.ph = 1) (hl : zs.length = i) (a b : U) : BuI n i [.lo .pot, .ol (infU zs), .i cl, a, b] σ
theorem c_buffer (F : Facts cx) (D : Dr n σ0 σ) (hn : n ≤ 5000) (hp : σ.ph = 1) (q : ∀ σ', σ'.ph = 3 → Ok U5 σ' → σ'.row.length ≤ 6 → Q (.lo .buf) σ') : CallT cx (d + 3) 125 [.lo .pot] σ Q := by
  refine fcall 4 F rfl (c_draw F D (Nat.le_trans hn (by decide)) (by decide) (by decide) fun r σ1 D1 r0 r1 => ?_)
  have rf : RgF 0 (1 + r) (1 + r - 0).toNat := rgT (by lia) (Int.le_refl 0) (by lia)
  refine ⟨⟨rf.s, rf.l⟩, ?_⟩
  rw [rf.e]
  have hm : (1 + r - 0).toNat ≤ 6 := by lia
  generalize (1 + r - 0).toNat = m at hm
  refine ForT.m (BuI (n + 1)) (.mk [] 0 σ1 D1.self ⟨List.nodup_nil, nofun, nofun, .nil, nofun, fun x h => (Option.some.inj h).symm, nofun⟩ (D1.ph.trans (D.ph.symm.trans hp)) rfl .un .un) (fun i a os σ' ha J => ⟨trivial, ?_⟩) fun os σ' J => ⟨trivial, ?_⟩
  · refine BuI.casesOn J fun zs cl σ' D y hp hl x x' => ?_
    have hi := Nat.lt_of_lt_of_le (lt_range ha) hm
    have hb : n + 1 + 4 * i ≤ 6000 := by lia
    refine c_glyph F D (Nat.le_trans hb (by decide)) fun g σ2 D2 hg => c_Info F (c_draw F (σ0 := σ2.addI ⟨g, cl, 0⟩) (n := n + 1 + 4 * i + 1) ⟨D2.lo, D2.hi, rfl, rfl, rfl⟩ (Nat.le_trans (Nat.succ_le_succ hb) (by decide)) (by decide) (by decide) fun r σ3 D3 r0 r1 => ⟨?_, ?_⟩)
    · unfold infU; rw [List.length_map, hl]; exact Nat.lt_trans hi (by decide)
    · refine c_draw F (σ0 := σ3.setI σ2.nx { σ3.inf σ2.nx with m := 1 + r }) (n := n + 1 + 4 * i + 2) ⟨D3.lo, D3.hi, rfl, rfl, rfl⟩ (Nat.le_trans (Nat.succ_le_succ (Nat.succ_le_succ hb)) (by decide)) (by decide) (by decide) fun r' σ4 D4 s0 s1 => ?_
      have e2 : σ3.inf σ2.nx = ⟨g, cl, 0⟩ := (congrFun D3.inf _).trans addI_at
      have := BuI.mk (n := n + 1) (i := i + 1) (zs ++ [σ'.nx]) (cl + r') σ4 (D4.le (Nat.le_of_lt (Nat.lt_succ_self _))).self (y.next (g := g) (m := 1 + r) ?_ (fun j hj => ?_) ?_ hg (by lia) (Int.le_add_of_nonneg_right s0)) ?_ ?_ (rgI 0 a) (.lo (.inf σ2.nx))
      · unfold infU at this
        rw [List.map_append, ← D2.nx] at this
        exact this
      · exact D4.nx.trans (D3.nx.trans (congrArg (· + 1) D2.nx))
      · rw [D4.inf]
        exact (if_neg (Nat.ne_of_lt (D2.nx ▸ hj))).trans ((congrFun D3.inf j).trans ((addI_get (D2.nx ▸ hj)).trans (congrFun D2.inf j)))
      · rw [D4.inf, ← D2.nx]
        exact (if_pos rfl).trans (by rw [e2])
      · exact D4.ph.trans (D3.ph.trans (D2.ph.trans hp))
      · rw [List.length_append, hl]; rfl
  · refine BuI.casesOn J fun zs cl σ' D y hp hl x x' => ?_
    rw [List.length_range] at hl
    refine ⟨zs, ⟨rfl, hp, ?_⟩, c_Buffer F rfl (q _ rfl ⟨y.nd, y.lt, y.mks, y.s, fun x hx => y.z x ?_, y.gl⟩ (hl ▸ hm))⟩
    · rw [hl]; exact Nat.le_trans hm (by decide)
    · exact (List.getElem?_append_left (List.getElem?_eq_some_iff.mp hx).1).trans hx
end

end
section
section
variable {cx : Cx} {d : Nat} {σ : St} {Q : U → St → Prop} {R : List U → St → Prop}
variable {σ0 : St} {n : Nat}
theorem c_Gdef (F : Facts cx) (q : Q gdefU σ) : CallT cx (d + 2) 1000068 [clsU ([], []), clsU ([], []), .fl []] σ Q := by
  refine callFo F.cf rfl rfl (i68 F ?_)
  have e : wS (CallT cx d) (CallI cx d) b68000 [.oi 68 [], clsU ([], []), clsU ([], []), .fl [], .no, .no] σ (iQ 68 fun fs σ => Q (.fo 68 fs) σ) = (68 = 68 ∧ Q gdefU σ) := by kernel_rfl
  exact e ▸ ⟨rfl, q⟩
theorem c_no_gdef (F : Facts cx) (q : Q gdefU σ) : CallT cx (d + 3) 69 [] σ Q := fcall 0 F rfl (c_ClassDef F (c_ClassDef F (c_Gdef F q)))
theorem c_Feature (F : Facts cx) {l : List U} (q : Q (.fo 114 [.s 16, .fl l]) σ) : CallT cx (d + 2) 1000114 [.s 16, .fl l] σ Q := callFo F.cf rfl rfl (icallE F [.s 16, .fl l] rfl rfl rfl (by kernel_rfl) q)
theorem c_Layout (F : Facts cx) {l m : List U} (q : Q (.fo 115 [.fd [] [], .fl l, .fl m]) σ) : CallT cx (d + 2) 1000115 [.fd [] [], .fl l, .fl m] σ Q := callFo F.cf rfl rfl (icallE F [.fd [] [], .fl l, .fl m] rfl rfl rfl (by kernel_rfl) q)
inductive LwI (K : List Int) (f : U → U → U → U → Os) : Os → St → Prop
  | mk (a b c e : U) (σ : St) (o : Ok K σ) (hl : σ.row.length ≤ 12) : LwI K f (f a b c e) σ
noncomputable abbrev lawF (xs : List Int) (K : List Int) (named : List Nat) (lks : List LkD) (v : List U) (a b c e : U) : Os := [.fl (xs.map .i), .lo .pot, a, .fl (lksU lks), .fl (named.map fun (n : Nat) => .i n), layU named lks, .lo .buf, .tu v, .fl ((isort K).map .i), b, c, e]
noncomputable abbrev IsT : U → St → Prop := fun u _ => u = .b true
section
variable {xs K : List Int} {named : List Nat} {lks : List LkD} {v : List U} {a b c e : U} {m : Nat}
theorem law_eq (F : Facts cx) (T : Tld cx d 115001 (layU named lks) 11 v) : wS (CallT cx d) (CallI cx d) b126_5 (lawF xs K named lks v a b c e) σ (rQ IsT) := T.run _ _ (.same 11 rfl T.dt (by decide) rfl)
theorem law_2 (F : Facts cx) (T : Tld cx (d + 1) 115001 (layU named lks) 11 v) (o : Ok K σ) : wS (CallT cx (d + 1)) (CallI cx (d + 1)) b126_2 (lawF xs K named lks v a b c e) σ ⟨LwI K (lawF xs K named lks v), IsT, LwI K (lawF xs K named lks v)⟩ := by
  refine c_clusters F (.inl ⟨σ.cl, rfl, .inr o.s, .two σ.cl (isort σ.cl) rfl rfl (fun _ => ?_) fun h => absurd (isort_eq (List.Perm.refl _) o.s) h⟩)
  have fin : wS (CallT cx (d + 1)) (CallI cx (d + 1)) b126_1 (lawF xs K named lks v a b c (.fl (σ.cl.map .i))) σ ⟨LwI K (lawF xs K named lks v), IsT, LwI K (lawF xs K named lks v)⟩ :=
    ifB.d (fun _ => law_eq F T) fun h => LwI.mk _ _ _ _ σ o (by
      have h : ¬ (12 : Int) < ((σ.cl.map U.i).length : Nat) := h
      rw [List.length_map] at h
      unfold St.cl clF at h
      rw [List.length_map] at h
      exact Int.ofNat_le.mp (Int.not_lt.mp h))
  refine ⟨fun h => ?_, fun _ => fin⟩
  obtain ⟨x, hx⟩ : ∃ x, σ.cl[0]? = some x := ⟨_, List.getElem?_eq_getElem (List.length_pos_iff.mpr fun e => h (congrArg (List.map U.i) e))⟩
  refine mapI hx rfl (ifB.d (fun _ => fin) fun h => absurd (o.z x hx) h)
theorem law_3 (F : Facts cx) (T : Tld cx (d + 1) 115001 (layU named lks) 11 v) (o : Ok K σ) : wS (CallT cx (d + 1)) (CallI cx (d + 1)) b126_3 (lawF xs K named lks v a b c e) σ ⟨LwI K (lawF xs K named lks v), IsT, LwI K (lawF xs K named lks v)⟩ := by
  refine c_glyphs F (CompT.fm (c' := U.i) (fun _ : Int => none) rfl (fun g hg Y N _ y => ⟨isort K, rfl, fun _ => y rfl, fun h => absurd (isort_mem.mpr ?_) h⟩) ?_)
  · obtain ⟨j, hj, rfl⟩ := List.mem_map.mp hg
    exact o.gl j hj
  · rw [List.filterMap_eq_nil_iff.mpr fun _ _ => rfl]
    exact ⟨fun h => absurd rfl h, fun _ => law_2 F T o⟩
end
end

end
section
section
variable {cx : Cx} {d : Nat} {σ : St} {Q : U → St → Prop} {R : List U → St → Prop}
variable {σ0 : St} {n : Nat}
theorem law_4 (F : Facts cx) {xs K : List Int} {named : List Nat} {lks : List LkD} {v : List U} {b c e : U} {P : Nat → Int → Prop} {j : Nat} {l : LkD} (T : Tld cx (d + 25) 115001 (layU named lks) 11 v) (o : Ok K σ) (hl : σ.row.length ≤ 12) (hj : lks[j]? = some l)
    (hok : ∀ (j : Nat) l, lks[j]? = some l → l.ok j) (hcl : ∀ (j : Nat) l g, lks[j]? = some l → P j g → ∀ t ∈ l.tabs, ClT K P g t) (hn : lks.length ≤ 3) (hP : ∀ g ∈ K, P j g) :
    wS (CallT cx (d + 25)) (CallI cx (d + 25)) b126_4 (lawF xs K named lks v (.i j) b c e) σ ⟨LwI K (lawF xs K named lks v), IsT, LwI K (lawF xs K named lks v)⟩ := by
  refine c_glyphs F (c_no_gdef F (c_run_substitution (d := d) F o hl hj hok hcl hn hP fun cnt σ' r hl' => ?_))
  refine ifB.d (fun h => c_glyphs F (.two σ'.gl σ.gl rfl rfl (fun _ => law_3 F T r.ok) fun ne => absurd ?_ ne)) fun _ => law_3 F T r.ok
  have h : cnt = 0 := Int.ofNat.inj h
  rw [r.z h]; rfl
theorem rg0 {m : Nat} : ((List.range m).map fun (k : Nat) => U.i (0 + k)) = (List.range m).map fun (k : Nat) => U.i k := List.map_congr_left fun k _ => congrArg U.i (Int.zero_add _)
theorem range_at {m i a : Nat} (h : (List.range m)[i]? = some a) : a = i := by
  rw [List.getElem?_range (lt_range h)] at h
  exact (Option.some.inj h).symm
structure NmJ (b n : Nat) (σ0 : St) (i : Nat) (ys : List U) (σ' : St) (zs : List Nat) : Prop where
  e : ys = zs.map fun (n : Nat) => .i n
  l : zs.length ≤ i
  p : ∀ z ∈ zs, z < b
  d : Dr (n + i) σ0 σ'
theorem law_5 (F : Facts cx) {xs : List Int} {named : List Nat} {lks : List LkD} (D : Dr n σ0 σ) (hn : n ≤ 5000) (hp : σ.ph = 1) (hnm : named.length ≤ 3) (hnb : ∀ z ∈ named, z < lks.length) (hl3 : lks.length ≤ 3) (hok : ∀ (j : Nat) l, lks[j]? = some l → l.ok j) :
    wS (CallT cx (d + 25)) (CallI cx (d + 25)) (.asg 6 (.call 125 (.cons (.v 1) .nil)) (.asg 7 (.mth (.v 5) 52 .nil) (.asg 8 (.call 51 (.cons (.v 5) (.cons (.mth (.v 6) 56 .nil) .nil))) (.for (.n 2) (.bin .add (.v 4) (.v 4)) b126_4 b126_5)))) [.fl (xs.map .i), .lo .pot, .un, .fl (lksU lks), .fl (named.map fun (n : Nat) => .i n), layU named lks, .un, .un, .un, .un, .un, .un] σ (rQ IsT) := by
  obtain ⟨v, T⟩ := t_lay (d := d + 19) F (named := named) (lks := lks) hok
  refine c_buffer F D hn hp fun σ1 hp1 o hl => T.run _ _ (c_glyphs F (c_closure_of F hp1 (fun g hg => ?_) hnm hl3 hok fun K ob hK ⟨P, h1, h2⟩ => ⟨?_, ?_⟩))
  · obtain ⟨j, hj, rfl⟩ := List.mem_map.mp hg; exact o.gl j hj
  · rw [List.length_map]; exact Nat.le_trans (Nat.add_le_add hnm hnm) (by decide)
  · have o' : Ok K (σ1.hol K ob) := ⟨o.nd, o.lt, o.mks, o.s, o.z, fun j hj => hK _ (List.mem_map.mpr ⟨j, hj, rfl⟩)⟩
    refine .mk (fun _ => LwI K (lawF xs K named lks v)) (.mk .un .un .un .un _ o' (Nat.le_trans hl (by decide))) (fun i x os σ' hx J => ⟨rfl, ?_⟩) fun os σ' J => ⟨rfl, ?_⟩
    · refine LwI.casesOn J fun a b c e _ o hl => ?_
      obtain ⟨j, hj, rfl⟩ := List.mem_map.mp ((List.mem_append.mp (List.mem_of_getElem? hx)).elim id id)
      exact law_4 F T o hl (List.getElem?_eq_getElem (hnb j hj)) hok h1 hl3 (h2 j hj)
    · refine LwI.casesOn J fun a b c e _ o hl => ?_
      exact law_eq F T
theorem c_law (F : Facts cx) {xs : List Int} (hp : σ.ph = 0) : CallT cx (d + 26) 126 [.fl (xs.map .i)] σ IsT := by
  refine fcall 11 F rfl (c_pot F hp fun σ1 D1 => c_draw F D1 (by decide) (by decide) (by decide) fun r σ2 D2 r0 r1 => ?_)
  have rf : RgF 0 (1 + r) (1 + r - 0).toNat := rgT (by lia) (Int.le_refl 0) (by lia)
  refine ⟨⟨rf.s, rf.l⟩, ?_⟩
  rw [rf.e, rg0]
  have hm : (1 + r - 0).toNat ≤ 3 := by lia
  generalize (1 + r - 0).toNat = m at hm
  refine CompT.dr (g := LkD.u) (fun i l => l.ok i) 1000 (fun _ => trivial) D2 (fun i a σ3 ha D3 Y N y => ?_) fun lks σ3 hl hok D3 => ?_
  · have hi := Nat.lt_of_lt_of_le (lt_range ha) hm
    exact c_lookup F D3 (by lia) fun l σ4 ok D4 => y l σ4 (range_at ha ▸ ok) D4
  rw [List.length_range] at hl D3
  have hl3 : lks.length ≤ 3 := hl ▸ hm
  have hn3 : 0 + 1 + 1000 * m ≤ 3001 := Nat.add_le_add_left (Nat.mul_le_mul_left 1000 hm) 1
  have rg : RgF 0 ((lks.map LkD.u).length : Nat) lks.length := rgF (by rw [List.length_map, Int.zero_add]) (Int.le_refl 0) (by rw [List.length_map]; lia)
  refine ⟨⟨rg.s, rg.l⟩, ?_⟩
  rw [rg.e, rg0]
  refine .mk (fun i ys σ' => ∃ zs, NmJ lks.length (0 + 1 + 1000 * m) { σ with ph := 1 } i ys σ' zs) ⟨[], rfl, Nat.le_refl 0, nofun, D3⟩ (fun i x ys σ' hx ⟨zs, J⟩ => ?_) fun ys σ' ⟨zs, J⟩ => ⟨trivial, ?_⟩
  · obtain ⟨a, ha, rfl⟩ := mapAt hx
    have hi := lt_range ha
    refine ⟨trivial, c_draw F J.d (by lia) (by decide) (by decide) fun r σ4 D4 _ _ => ifB.d (fun _ => ⟨zs ++ [a], ?_, ?_, fun z hz => ?_, D4⟩) fun _ => ⟨zs, J.e, Nat.le_succ_of_le J.l, J.p, D4⟩⟩
    · rw [J.e, List.map_append]; rfl
    · rw [List.length_append]; exact Nat.succ_le_succ J.l
    · exact (List.mem_append.mp hz).elim (J.p z) fun q => by rw [List.mem_singleton.mp q, range_at ha]; exact hi
  · have dd := J.d
    have ll := J.l
    rw [List.length_map, List.length_range] at dd ll
    rw [J.e]
    exact c_Feature F (c_Layout F (law_5 F dd (by lia) (dd.ph.trans rfl) (Nat.le_trans ll hl3) J.p hl3 hok))
end

end
section
section
variable {cx : Cx} {d : Nat} {σ : St} {Q : U → St → Prop} {R : List U → St → Prop}
noncomputable abbrev theRow : RowW := PySem.Challenge.rw_nu0239_01.row.toRowW
theorem ints_of : ∀ {ds : List WData}, (∀ d ∈ ds, ∃ i, d = .int i) → ∃ is : List Int, ds = is.map .int
  | [], _ => ⟨[], rfl⟩
  | d :: ds, h => by
    obtain ⟨i, rfl⟩ := h d (.head _)
    obtain ⟨is, rfl⟩ := ints_of fun x hx => h x (.tail _ hx)
    exact ⟨i :: is, rfl⟩
theorem post_ok (a : List WData) : (WShape.has [] (.bool true) .bool && WTm.holds [] (WTm.res.eq (.lit (.bool true))) { args := a, res := some (.bool true) }) = true := by kernel_rfl
theorem pre_lt (is : List Int) : WTm.value [] ((WTm.lit (.int 63)).lt (WTm.arg 0).len) { args := [.list (is.map .int)] } = some (.bool (decide ((63 : Int) < ((is.map WData.int).length : Nat)))) := by kernel_rfl
theorem not_and {R : WRecords} {t : WTm} {c : WCtx} {d : Bool} (h : WTm.value R t c = some (.bool d)) (q : WTm.holds R (t.not.and (.lit (.bool true))) c = true) : d = false := by
  cases d with
  | false => rfl
  | true =>
    have q : (match WTm.value R (t.not.and (.lit (.bool true))) c with | some (.bool true) => true | _ => false) = true := q
    have e : WTm.value R t.not c = some (.bool false) := by rw [WTm.value, h]; rfl
    rw [WTm.value, e] at q
    exact fot q
theorem row_pre {args : List WData} (h : theRow.claim.pre args = true) : ∃ is : List Int, args = [.list (is.map .int)] ∧ is.length ≤ 63 := by
  obtain ⟨h1, h2⟩ := pre_splitW h
  obtain ⟨d, r, rfl, h3, h4⟩ := hasAllW_cons h1
  obtain rfl := hasAllW_nil h4
  obtain ⟨ds, rfl, h5⟩ := hasW_list h3
  obtain ⟨is, rfl⟩ := ints_of (ds := ds) fun d hd => by
    have h6 := hasItemsW_at h5 d hd
    cases d with
    | int i => exact ⟨i, rfl⟩
    | _ => exact fot h6
  refine ⟨is, rfl, ?_⟩
  have h3 := of_decide_eq_false (not_and (pre_lt is) h2)
  rw [List.length_map] at h3
  exact Int.ofNat_le.mp (Int.not_lt.mp h3)
theorem are_PRs {G : GM} {μ : LM} {P : Params} {h : Heap} : ∀ {is : List Int} {vs : List Value}, WellAll P h vs (is.map .int) → PRs cx G μ (is.map U.i) vs
  | [], vs, w => by cases w; exact rfl
  | i :: is, vs, w => by
    cases w with
    | cons a b => cases a with
      | int _ t => exact .mk _ _ (IntR.mk t) (are_PRs b)
noncomputable def σI : St := ⟨0, [], 0, 0, [], default, [], fun _ => ⟨0, 0, 0⟩, 0, fun _ => ([], 0), 0, 0⟩
theorem law_good (cx : Cx) (F : Facts cx) (hG0 : ∀ b o, cx.G0 b = some o → cx.h0.get? b = some o) {s₁ : Shared} (ext : ∀ b o, cx.h0.get? b = some o → s₁.heap.get? b = some o) (gens : s₁.gens = #[]) {vals : List Value} {args : List WData} {P : Params} (hpre : theRow.claim.pre args = true)
    (W : WellAll P s₁.heap vals args) {cl : Str → Option Addr} {mean : ExcName → Option Value} {E : Value → Shared → Prop} :
    wpAny (model cx.prog cx.w) callerA (PySem.call (cx.fv 126) vals) (fun v s' => GoodWG theRow.claim cl mean args s₁ (.ok (.ret v)) s') E s₁ := by
  obtain ⟨is, rfl, hl⟩ := row_pre hpre
  cases W with
  | cons w1 w2 =>
    cases w2
    cases w1 with
    | @list a vs xs ho hw =>
      let G : GM := fun b => if b = a then some (listO vs.toArray 0) else cx.G0 b
      have gk : ∀ b o, G b = some o → s₁.heap.get? b = some o := fun b o e => by
        by_cases hb : b = a
        · rw [show G b = _ from if_pos hb] at e; cases e; rw [hb]; exact ho
        · rw [show G b = _ from if_neg hb] at e; exact ext _ _ (hG0 _ _ e)
      have no : ∀ b, ¬ Own (fun _ => none) b := fun b q => Own.casesOn q (fun e => nos e) fun e => nos e
      let W : Wd cx := ⟨s₁, G, fun _ => none, fun _ => none, σI, ⟨ext, fun b q => absurd q (no b), fun b o e => by
        by_cases hb : b = a
        · have := ext _ _ (hG0 _ _ e)
          rw [hb, ho] at this
          rw [show G b = _ from if_pos hb]; exact this
        · rw [show G b = _ from if_neg hb]; exact e, gk, fun b o _ => no b, fun a c e => nos e, fun x c d us e => nos e, fun x c d us x' c' us' e => nos e, fun l a e => nos e, fun l l' a e => nos e, fun l a e => nos e⟩⟩
      have key := ((c_law (d := 0) (σ := σI) (xs := is) F rfl).h callerA W [.ref a] (fun v s' => GoodWG theRow.claim cl mean [.list (is.map .int)] s₁ (.ok (.ret v)) s') ⟨rfl, by decide, by decide⟩ rfl (.mk _ _ (SqR.mk a vs.toArray 0 (if_pos rfl) (are_PRs hw) (by rw [List.length_map]; exact Nat.le_trans hl (by decide))) rfl) fun w u W' l p q => ?_).2
      · exact wpAny_mono key (fun _ _ h => h) fun _ _ z => z.elim
      · subst q
        cases (show w = .bool true from p)
        refine GoodW.toG ⟨.inl ⟨_, .bool true, [], rfl, fun cls => rfl, .bool true, ?_, fun _ => ⟨List.nodup_nil, fun _ h => absurd h List.not_mem_nil⟩⟩, fun b o e => ?_, l.os, l.gens.trans gens⟩
        · exact post_ok [.list (is.map .int)]
        · cases hg : W.G b with
          | some o' =>
            cases (W.R.gk _ _ hg).symm.trans e
            exact W'.R.gk _ _ (l.g _ _ hg)
          | none =>
            cases h0 : cx.h0.get? b with
            | some o' =>
              cases (W.R.base _ _ h0).symm.trans e
              exact W'.R.base _ _ h0
            | none => exact (l.pv b o ⟨e, no b, hg, h0⟩ id).at_
end

end
section
section
variable {cx : Cx} {d : Nat} {σ : St} {Q : U → St → Prop} {R : List U → St → Prop}
theorem obj_no : (cF.map fun p => (cN p.1).map (fastLookup "object")) = cF.map fun p => (cN p.1).map fun _ => some none := by kernel_rfl
theorem obj_yes : (meths.map fun p => fastLookup "object" p.2.1) = meths.map fun p => some ((fastLookup "object" p.2.1).getD none) := by kernel_rfl
theorem obj_n : ∀ p ∈ cF, ∀ x ∈ cN p.1, fastLookup "object" x = some none := fun p hp => List.map_inj_left.mp (List.map_inj_left.mp obj_no p hp)
theorem obj_y : ∀ p ∈ meths, ∃ y, fastLookup "object" p.2.1 = some y := fun p hp => ⟨_, List.map_inj_left.mp obj_yes p hp⟩
theorem meth_ne : (meths.all fun p => (cN p.1).all fun s => !(s == p.2.1)) = true := by kernel_rfl
noncomputable def conB : U → Bool
  | .i _ => true
  | .f _ => true
  | .tu l => Nat.ble l.length 100 && l.all fun u => match u with | .s _ => true | _ => false
  | _ => false
theorem con_ok : (glV.all conB) = true := by rfl
theorem zipS {G : GM} {μ : LM} {cx : Cx} : ∀ {l : List U} {ws : List Value}, (l.all fun u => match u with | .s _ => true | _ => false) = true → ws = strL l ws → PRs cx G μ l ws
  | [], _, _, e => e
  | _ :: _, [], _, e => nomatch e
  | u :: l, w :: ws, h, e => by
    obtain ⟨h1, h2⟩ := an h
    obtain ⟨e1, e2⟩ := List.cons.inj e
    cases u with
    | s k => exact .mk _ _ (by rw [e1]; exact StrR.mk _) (zipS h2 e2)
    | _ => exact fot h1
section
variable {get : Getter} {h : Heap} (X : get.In h)
include X
theorem ns_of {a : Addr} (e : NsA get a = NsB get a) : h.Ns a (nsFind (esA get a)) := by
  obtain ⟨h1, h2⟩ := Prod.mk.inj e
  obtain ⟨o, ho, hd⟩ := Option.map_eq_some_iff.mp h1
  exact ⟨o, _, _, X _ _ ho, hd, fun e he => ⟨_, _, List.map_inj_left.mp h2 e (Array.mem_toList_iff.mpr he)⟩, fun _ => rfl⟩
theorem fn_of {k : Nat} {dv : Value} (e : FnA get k = FnB get dv k) : fvA get k = .ref (faA get k) ∧ ∃ name qual kV doc pm an cdv ct o, h.get? (faA get k) = some o ∧ o.cls = .type "function" ∧ o.data = .func (fnOf name qual (stA (stm k)) (stB (stm k)) (stS (stm k)) dv kV doc pm an cdv ct) ∧ h.CodeRec cdv qual := by
  obtain ⟨h1, h2⟩ := Prod.mk.inj e
  obtain ⟨h2, h3⟩ := Prod.mk.inj h2
  obtain ⟨h3, h4⟩ := Prod.mk.inj h3
  obtain ⟨h4, h5⟩ := Prod.mk.inj h4
  obtain ⟨o, ho, hd⟩ := Option.map_eq_some_iff.mp h4
  exact ⟨h1, _, _, _, _, _, _, _, _, _, X _ _ h2, rfl, rfl, _, o, _, _, h3, X _ _ ho, hd, h5⟩
end
structure LkF (get : Getter) (h : Heap) (cx : Cx) : Prop where
  F : Facts cx
  e : cx.h0 = h
  m : cx.mg = gl get
  g : ∀ b o, cx.G0 b = some o → cx.h0.get? b = some o
  n : cx.mg (Str.ofString "law") = some (cx.fv 126)
theorem look_facts {get : Getter} {h : Heap} (X : get.In h) (e : LkA get = LkB get) (p : Program) (w : World) : ∃ cx : Cx, cx.prog = p ∧ cx.w = w ∧ LkF get h cx := by
  obtain ⟨e1, e2⟩ := Prod.mk.inj (lk0 e)
  have ns := fun a ha => ns_of X (lk1 e a ha)
  let cx : Cx := ⟨p, w, h, gl get, nsFind (esA get builtinsNs), get, fvA get, caA get, ns _ (.head _), ns _ (.tail _ (.head _)), ⟨_, ns _ (.tail _ (.tail _ (.head _))), e1⟩, _, X _ _ e2⟩
  have me : ∀ q ∈ inits ++ meths, ∃ fo, fvA get q.2.2 = .ref (faA get q.2.2) ∧ nsFind (esC get q.1) q.2.1 = some (.ref (faA get q.2.2)) ∧ h.get? (faA get q.2.2) = some fo ∧ fo.cls = .type "function" := fun q hq => by
    obtain ⟨a, b⟩ := Prod.mk.inj (lk4 e q hq)
    obtain ⟨b, c⟩ := Prod.mk.inj b
    obtain ⟨o, ho, hc⟩ := Option.map_eq_some_iff.mp c
    exact ⟨o, b, a, X _ _ ho, hc⟩
  have cf : ClsF cx := fun c ns' hc => by
    have hm := lkN.mem2 hc
    have hq := lk3 e _ hm
    obtain ⟨c1, c2⟩ := Prod.mk.inj (lk2 e _ hm)
    have hN : cN c = ns'.map aN := by unfold cN; rw [hc]
    refine ⟨(cdA get c).ns, nsFind (esC get c), ⟨⟨_, _, _, _, _, _, _, _, _, _, _, _, X _ _ c2⟩, ns _ (List.mem_append_right _ (List.mem_map.mpr ⟨_, hm, rfl⟩))⟩, hq _ (.head _), hq _ (.tail _ (.head _)), hq _ (.tail _ (.tail _ (.head _))), fun n hn => ?_, fun n k hk => ?_, ?_, c1⟩
    · have hn : aN n ∈ cN c := hN ▸ List.mem_map.mpr ⟨n, hn, rfl⟩
      refine ⟨hq _ (.tail _ (.tail _ (.tail _ hn))), ?_⟩
      rw [typeLookup_type, builtinLookup_eq_fast, obj_n _ hm _ hn]
    · obtain ⟨l, k1, k2⟩ := hk
      have hi : (c, aN n, k) ∈ meths := List.mem_flatMap.mpr ⟨_, lkN.mem2 k1, List.mem_map.mpr ⟨_, lkN.mem2 k2, rfl⟩⟩
      obtain ⟨fo, m1, m2, m3, m4⟩ := me _ (List.mem_append_right _ hi)
      obtain ⟨y, hy⟩ := obj_y _ hi
      refine ⟨_, fo, y, m1, m2, m3, m4, ?_, fun j hj e => ?_⟩
      · rw [typeLookup_type, builtinLookup_eq_fast, hy]
      · have := List.all_eq_true.mp (List.all_eq_true.mp meth_ne _ hi) (aN j) (hN ▸ List.mem_map.mpr ⟨j, hj, rfl⟩)
        rw [e, beq_self_eq_true] at this
        exact fot this
    · obtain ⟨fo, m1, m2, m3, m4⟩ := me (c, "__init__", 1000 * c) (List.mem_append_left _ (List.mem_map.mpr ⟨_, hm, rfl⟩))
      exact ⟨_, fo, m1, m2, m3, m4⟩
  have df : ∀ k ∈ dfs, DfI cx k (dfW get k).toArray := fun k hk => by
    obtain ⟨a, b⟩ := Prod.mk.inj (lk6 e k hk)
    obtain ⟨o, ho, hd⟩ := Option.map_eq_some_iff.mp b
    obtain ⟨q1, q2⟩ := fn_of X a
    exact .mk _ _ o _ q1 q2 (X _ _ ho) hd
  refine ⟨cx, rfl, rfl, ⟨cf, ⟨fun k n hk => ⟨fvA get k, .inl (lk7 e _ (lkN.mem2 hk)), fun _ => rfl⟩, fun j n u hn hu => ?_, fun b => ?_⟩, fun k q hk => ?_, df 8000 (.head _), ⟨_, df 19000 (.tail _ (.head _))⟩, df 54000 (.tail _ (.tail _ (.head _))), df 68000 (.tail _ (.tail _ (.tail _ (.head _))))⟩, rfl, rfl, X, lk7 e _ (lkN.mem2 (show lkN 126 fnT = some "law" from rfl))⟩
  · have hz : (n, u) ∈ glT.zip glV := List.mem_of_getElem? (List.getElem?_zip_eq_some.mpr ⟨hn, hu⟩)
    have hc := List.all_eq_true.mp con_ok u (List.mem_of_getElem? hu)
    have hz := lk8 e _ hz
    cases u with
    | i x => exact ⟨_, .inl (Prod.mk.inj hz).1, fun _ => IntR.mk _⟩
    | f k => exact ⟨_, .inl (Prod.mk.inj hz).1, fun _ => rfl⟩
    | tu l =>
      obtain ⟨a1, a2⟩ := Prod.mk.inj hz
      obtain ⟨a2, a3⟩ := Prod.mk.inj a2
      obtain ⟨b1, b2⟩ := an hc
      exact ⟨_, .inl a1, fun W => SqR.mk _ _ _ (W.R.g0 _ _ a3) (zipS b2 a2) (Nat.le_trans (Nat.le_of_ble_eq_true b1) (by decide))⟩
    | _ => exact fot hc
  · obtain ⟨b1, b2⟩ := Prod.mk.inj (lk9 e b (List.mem_of_getElem? (i := Bi.ctorIdx b) (by cases b <;> rfl)))
    exact ⟨_, .inr ⟨b1, b2⟩, fun _ => rfl⟩
  · obtain ⟨q1, q2⟩ := fn_of X (lk5 e _ (lkN.mem2 hk))
    exact .mk _ q1 q2
end

end
section
section
variable {cx : Cx} {d : Nat} {σ : St} {Q : U → St → Prop} {R : List U → St → Prop}
theorem treeGet_in (s : SharedT) : Getter.In (treeGet s) s.abs.heap := fun a o e => by
  have e : (match Nat.blt a s.n with | true => (match s.tree.get a with | some o => alive o | none => none) | false => none) = some o := e
  cases h : Nat.blt a s.n with
  | false => rw [h] at e; exact nos e
  | true =>
    rw [h] at e
    cases g : s.tree.get a with
    | none => rw [g] at e; exact nos e
    | some o' =>
      rw [g] at e
      exact (abs_get (Nat.le_of_ble_eq_true h) g).trans e
theorem thr {t : Thread} : through t = (endAt 0 t).isSome := by
  obtain ⟨cur, code, pos, stack⟩ := t
  cases stack with
  | cons => rfl
  | nil => cases cur with
    | pure x => cases x <;> rfl
    | _ => rfl
theorem seg_top {tb : String → Option Builtin} {p : Program} {w : World} {n₀ : Nat} {ann : Option Value} : ∀ (n : Nat) (s s' : Shared) (t : Thread) (f : Flow) (c : Code) (q : Pos), segRun tb p w n₀ ann 0 n s t = some (f, s', c, q) → topRun tb p w n₀ ann n s t = some s'
  | 0, _, _, _, _, _, _, h => by cases h
  | n + 1, s, s', t, f, c, q, h => by
    unfold segRun at h
    unfold topRun
    cases he : endAt 0 t with
    | some x =>
      rw [he] at h
      rw [thr, he]
      cases h; rfl
    | none =>
      rw [he] at h
      rw [thr, he]
      dsimp only at h ⊢
      cases hk : stepOk n₀ ann t with
      | false => rw [hk] at h; cases h
      | true =>
        rw [hk] at h
        dsimp only at h ⊢
        cases hs : step (denote tb) p w s t with
        | halt o s2 => rw [hs] at h; cases h
        | go s2 t2 =>
          rw [hs] at h
          exact seg_top n s2 s' t2 f c q h
theorem bootT_abs (P : Params) (os : OsState) : (bootT P os).abs = ⟨boot_heap P, #[], boot_drawn, boot_toks, os⟩ := by
  show (⟨absHeap (insAll 0 (boot_heap P).objs.toList .nil) 11 (boot_heap P).life, #[], boot_drawn, boot_toks, os⟩ : Shared) = _
  have : absHeap (insAll 0 (boot_heap P).objs.toList .nil) 11 (boot_heap P).life = boot_heap P := by kernel_rfl
  rw [this]
theorem hop : opening pLaw = plainProg pLaw.main.scope.names := by rfl
theorem fen (w : World) : ∃ os, fencedOpening treeTable pLaw w 20000 = some ⟨boot_heap w.params, #[], boot_drawn, boot_toks, os⟩ := by
  obtain ⟨s₀, h0, h1⟩ := Option.map_eq_some_iff.mp (boot_open (p := pLaw) (N := 20000) hop (by decide) (fun s => rfl) w)
  obtain ⟨hp, gs, dr, tk, os⟩ := s₀
  cases h1
  exact ⟨os, h0⟩
noncomputable def seenP (s : Shared) : Prop := ∃ get : Getter, get.In s.heap ∧ LkA get = LkB get
structure RunAt (w : World) (os : OsState) (ann : Option Value) (s : Shared) : Prop where
  run : topRun treeTable pLaw w 11 ann 20000 ⟨boot_heap w.params, #[], boot_drawn, boot_toks, os⟩ (topStub pLaw) = some s
  look : topLooks w.params s = true
  seen : openSeen qLaw looseL modsL (fun _ => true) true s = openGood qLaw looseL
  p : seenP s
theorem run_at (w : World) (os : OsState) (ann : Option Value) : ∃ s, RunAt w os ann s := by
  have h3 := t3 w os ann
  obtain ⟨r, e, h⟩ := Option.map_eq_some_iff.mp (t5 w os ann)
  rw [e] at h3
  obtain ⟨f, st, c, q⟩ := r
  have e : Fast.tw10110043849684766642 Fast.tw14364793385576792824 pLaw w 11 ann 0 20000 (bootT w.params os) (topStub pLaw) = some (f, st, c, q) := e
  rw [← Fast.te10110043849684766642, ← Fast.te14364793385576792824] at e
  obtain ⟨h1, h2⟩ := Prod.mk.inj h
  exact ⟨st.abs, bootT_abs w.params os ▸ seg_top _ _ _ _ _ _ _ (segRun_of e), h1, h2, _, treeGet_in st, Option.some.inj h3⟩
theorem left : LeftO pLaw qLaw looseL (fun _ => true) seenP (fun _ => True) 20000 := fun w => by
  obtain ⟨os, hf⟩ := fen w
  obtain ⟨s, R⟩ := run_at w os ((boot_heap w.params).nsMap mainGlobals "__annotations__")
  have h3 : topFrom treeTable pLaw w 20000 ⟨boot_heap w.params, #[], boot_drawn, boot_toks, os⟩ = some s := by
    unfold topFrom
    rw [show (boot_heap w.params).isNs mainGlobals = true from by kernel_rfl, show (boot_heap w.params).objs.size = 11 from by kernel_rfl]
    show (topRun treeTable pLaw w 11 _ 20000 _ _).bind _ = _
    rw [R.run]
    show (match topLooks w.params s with | true => some s | false => none) = some s
    rw [R.look]
  show Option.map _ (openEnds treeTable pLaw w 20000) = _
  unfold openEnds
  rw [hf, Option.bind_some, h3, Option.map_some, eq_true R.p]
  exact congrArg (fun x => some (x, True)) R.seen
end

end
section
section
variable {cx : Cx} {d : Nat} {σ : St} {Q : U → St → Prop} {R : List U → St → Prop}
noncomputable abbrev lawO : OpenLaw := PySem.Challenge.rw_nu0239_01
theorem a1 : (sreFenced pLaw.main && ((moduleNames pLaw.main.body).isEmpty || lookedIntoSs (moduleNames pLaw.main.body) pLaw.main.body)) = true := by decide +kernel
theorem a3 : namesResolve pLaw = true := by decide +kernel
theorem a4 : pLaw.boundNames.all (fun n => !worldNames.contains n) = true := by decide +kernel
theorem a5 : noRoadLSs { strict := !(importedModules pLaw.main.body).all cThrough.contains, foot := none, bare := (["vars", "dir", "locals"] : List Str).filter (readsOut pLaw pLaw.main.body) } pLaw.main.body = true := by decide +kernel
theorem a6 : namesMeet pLaw pLaw.main.body (fun _ n => attrL n) = true := by decide +kernel
theorem lLooks : looksOpen pLaw = true := look_both (look_both (look_both (look_both a1 a3) a4) a5) a6
theorem lRow : lawO.row.wellSaid = true := by
  unfold OpenRow.wellSaid OpenRow.partSaid
  rw [show looksOpen lawO.row.toRowW.prog = true from lLooks]
  decide +kernel
theorem lSaid : lawO.wellSaid = true := by
  unfold OpenLaw.wellSaid
  rw [lRow]
  decide +kernel
end

end
section
section
variable {cx : Cx} {d : Nat} {σ : St} {Q : U → St → Prop} {R : List U → St → Prop}
theorem ns_eq {h : Heap} {a : Addr} {m m' : Str → Option Value} (x : h.Ns a m) (y : h.Ns a m') : m = m' := by
  obtain ⟨o, es, ep, e1, e2, _, e3⟩ := x
  obtain ⟨o', es', ep', f1, f2, _, f3⟩ := y
  cases e1.symm.trans f1
  cases e2.symm.trans f2
  exact funext fun n => (e3 n).symm.trans (f3 n)
noncomputable def laidP (w : World) (h : Heap) : Prop := ∃ (hT : Heap) (get : Getter), get.In hT ∧ LkA get = LkB get ∧ ∀ b o, hT.get? b = some o → h.get? b = some o
noncomputable def dLaw : DefRec := match defOf qLaw (Str.ofString "law") with | some x => x.1 | none => ⟨⟨#[]⟩, stA (topS 126), [], stS (topS 126), pO⟩
theorem dLaw_eq : defOf qLaw (Str.ofString "law") = some (dLaw, []) := by rfl
theorem dLaw_name : dLaw.name = Str.ofString "law" := by rfl
theorem law_walk : WalkO qLaw looseL (fun _ _ => True) laidP theRow dLaw [] fun f vs => PySem.call f vs := by
  intro w s₀ s₁ mg mb G Y a o pm cd doc dV kV h1 h2 h3 h4 h5 gens args vals as hpre hlay hrd W hsys
  obtain ⟨hT, get, X, lk, ext⟩ := Y
  obtain ⟨cx, e1, e2, L⟩ := look_facts X lk theRow.prog w
  have ex : ∀ b o, cx.h0.get? b = some o → s₁.heap.get? b = some o := fun b o hb => ext b o (L.e ▸ hb)
  have hmg : cx.mg = mg := ns_eq (h := s₁.heap) (cx.g.keeps ex) G.T.g
  have hn := L.n
  rw [dLaw_name, ← hmg] at h5
  have hf : (.ref a : Value) = cx.fv 126 := Option.some.inj (h5.symm.trans hn)
  have := law_good cx L.F L.g (s₁ := s₁) ex gens hpre W (cl := classAt s₀.heap) (mean := ExcName.means s₀.heap) (E := fun e s' => GoodWG theRow.claim (classAt s₀.heap) (ExcName.means s₀.heap) args s₁ (.error e) s')
  rw [e1, e2, ← hf] at this
  exact this
theorem lTame : (opening pLaw).tameTopW = true := by rw [hop]; decide +kernel
theorem lWell : opensWell pLaw = true := by
  unfold opensWell
  rw [lTame]
  decide +kernel
theorem lOk : (chainsOk qLaw && opensWell theRow.prog && (frees theRow && theRow.within.isEmpty)) = true := by
  rw [show opensWell theRow.prog = true from lWell]
  decide +kernel
theorem lBare : theRow.prog.bare := ⟨rfl, rfl, rfl, rfl, rfl, by decide +kernel⟩
theorem lProm : theRow.promised := ⟨[.list []], by decide +kernel, by decide +kernel⟩
theorem lDef : theRow.prog.theDef (Str.ofString "law") = some (dLaw.params, dLaw.body, dLaw.scope) := by kernel_rfl
theorem lKw : kwWritten? dLaw.params.kwonlyargs dLaw.params.kw_defaults = some [] := by kernel_rfl
theorem holds : PySem.Challenge.rw_nu0239_01.Holds := ⟨lSaid,
  holds_open (r := PySem.Challenge.rw_nu0239_01.row) (q := qLaw) (loose := looseL) (Xt := fun _ => true) (XP := fun _ _ => True) (Yf := seenP) (Ya := fun _ => True) (YP := laidP) (d := dLaw) (kwd := []) (N := 20000) left
    (fun w s e => let ⟨get, X, l⟩ := of_eq_true e; ⟨s.heap, get, X, l, fun _ _ h => h⟩)
    (fun w h h' y k' => let ⟨hT, get, X, l, k⟩ := y; ⟨hT, get, X, l, fun b o e => k' _ _ (k b o e)⟩)
    (fun _ _ => trivial) (fun _ _ _ _ _ => trivial) dLaw_eq lDef lKw (fun s _ => recFacts_nil rfl) rfl lRow lOk lBare lProm law_walk⟩
end

end
end Mine
theorem PySem.Challenge.cw_nu0239_01_holds : PySem.Challenge.rw_nu0239_01.Holds :=
  Mine.holds
