import PyProof.Rows.All
import Wide.All
import OpenK.AllK
import Wide.FinOn
import HandS.ForMost
import HandS.ExcCtx
import HandS.Walk
import HandS.HeadHook4
import HandS.Nested
import KE.KDflt
import HandS.MakeKwOnly
import HandS.Property
import HandS.ClsMeth
import HandS.IsInst
import HandS.FStr
import HandS.Wide
import HandS.Style
import HandS.Deep
import HandS.Star
import HandS.Codes
import HandS.Strs
import HandS.WordsDict
import HandS.ExcInit
import HandS.ExcField
import KE.KExcSuper
import HandS.ExcInitHot
import HandS.Zip
import KE.KUnpackStar
import HandS.OwnEq
import PyProof.InstNe
import HandS.HeadWalk
import HandS.HeadNt
import HandS.HeadEnd
import HandS.Head2
import PySem.Challenge.RW_lightabove_k06_whole_texts_of_plants
set_option Elab.async false
set_option linter.all false
set_option maxRecDepth 100000
/-! The D-layer: values as trees (tuples, lists that no longer change, instances that no longer change), tracked objects by address. -/
namespace DL
open PySem PySem.Spec PyProof.Rows L2
theorem ofString_inj {x y : String} (h : Str.ofString x = Str.ofString y) : x = y := by
  rw [Str.ofString_eq_toList, Str.ofString_eq_toList] at h
  have h1 : x.toList.map Char.toNat = y.toList.map Char.toNat := by
    have := congrArg (fun s : Str => s.cps.toList) h
    simpa using this
  have h2 : x.toList = y.toList := by
    refine List.map_inj_right (fun a b e => ?_) |>.mp h1
    exact Char.ext (UInt32.toNat_inj.mp e)
  exact String.toList_inj.mp h2
abbrev St := L2.St
/-- a lambda's object: its words, the cells that it captured, its code object, its default 0 -/
structure LamF where
  qual : Str
  params : Arguments
  body : Expr
  scope : Scope
  cl : List (Str × Addr)
  c : Addr
  dfl : Option Addr
def dvO : Option Addr → Value
  | none => .none
  | some T => .ref T
abbrev LamF.dv (F : LamF) : Value := dvO F.dfl
abbrev LamF.fd (F : LamF) (doc pm ctv : Value) : FuncData := PySem.W.kdv_fn "<lambda>" F.qual F.params (.expr F.body) F.scope F.cl F.dv doc pm (.ref F.c) ctv
def LamO (f : Addr) (F : LamF) : HO := .ext fun h => ∃ (od : Option Addr) (sl : Array (Option Value)) (doc pm ctv : Value), h.get? f = some (⟨.type "function", od, .func (F.fd doc pm ctv), sl⟩ : Obj)
inductive D where
  | non | bl (b : Bool) | int (i : Int) | str (x : List Nat)
  | tup (xs : List D) | lst (xs : List D) | scr (xs : List D) | dic (kvs : List (D × D))
  | obj (C : String) (fs : List (String × D))
  | ref (a : Addr) | ty (n : String) | cls (C : String) | fn (F : LamF)
inductive DO where
  | lst (xs : List D) | dic (kvs : List (D × D)) | ins (C : String) (fs : List (String × D)) | tab (nm : Nat → Nat → Str)
abbrev DSt := List (Option D)
abbrev GH := Addr → Option DO
def updG (G : GH) (a : Addr) (o : DO) : GH := fun b => if b = a then some o else G b
theorem updG_same {G : GH} {a : Addr} {o : DO} : updG G a o a = some o := if_pos rfl
theorem updG_ne {G : GH} {a b : Addr} {o : DO} (h : b ≠ a) : updG G a o b = G b := if_neg h
theorem updG_updG {G : GH} {a : Addr} {o u : DO} : updG (updG G a o) a u = updG G a u := by
  funext b; unfold updG; split <;> rfl
def sv (x : List Nat) : V := .str ⟨x.toArray⟩
def keyD : Key → D
  | .inl i => .int i
  | .inr x => .str x.cps.toList
/-- what is tracked; what is hidden (it stands, and no value names it) -/
structure AS where
  g : GH
  p : Addr → Prop
def AS.un (G : AS) (a : Addr) : Prop := G.g a = none ∧ ¬ G.p a
def AS.put (G : AS) (a : Addr) (o : DO) : AS := ⟨updG G.g a o, G.p⟩
def SeqL (K : PySem.W.Frag) (G : AS) (H : Hp) (a : Addr) (xs : List V) : Prop :=
  G.un a ∧ H a = some (.lst xs)
def SeqT (K : PySem.W.Frag) (G : AS) (H : Hp) (a : Addr) (xs : List V) : Prop :=
  (G.un a ∧ H a = some (.tup xs)) ∨
    ∃ (o : Obj) (its : Array Value) (n : Nat), K.lookup a = some o ∧ o.cls = .type "tuple" ∧ o.data = .seq its n ∧ its.size ≤ sizeLine ∧ Vals xs its.toList
theorem SeqL.sq {K : PySem.W.Frag} {G : AS} {H : Hp} {a : Addr} {xs : List V} (h : SeqL K G H a xs) : SqL K H a xs := .of h.2
theorem SeqT.sq {K : PySem.W.Frag} {G : AS} {H : Hp} {a : Addr} {xs : List V} (h : SeqT K G H a xs) : SqT K H a xs := h.imp (fun q => .inl q.2) id
mutual
inductive R (K : PySem.W.Frag) (G : AS) (H : Hp) : D → V → Prop
  | non : R K G H .non .non
  | bl (b : Bool) : R K G H (.bl b) (.bl b)
  | int (i : Int) : R K G H (.int i) (.int i)
  | str (x : List Nat) : R K G H (.str x) (sv x)
  | ty (n : String) : R K G H (.ty n) (.ty n)
  | ref (a : Addr) : R K G H (.ref a) (.ref a)
  | cls (C : String) : R K G H (.cls C) (.ref (He.ga K (Str.ofString C)))
  | tup {a : Addr} {xs : List D} {vs : List V} (h : SeqT K G H a vs) (r : Rs K G H xs vs) : R K G H (.tup xs) (.ref a)
  | lst {a : Addr} {xs : List D} {vs : List V} (h : SeqL K G H a vs) (r : Rs K G H xs vs) : R K G H (.lst xs) (.ref a)
  | scr {a : Addr} {xs : List D} {vs : List V} (h : G.un a) (e : Rd H a (.lst vs)) (r : Rs K G H xs vs) : R K G H (.scr xs) (.ref a)
  | dic {a : Addr} {kvs : List (D × D)} {ws : List (Key × V)} (h : G.un a) (e : H a = some (.dK ws)) (r : Rk K G H kvs ws) : R K G H (.dic kvs) (.ref a)
  | fn {f : Addr} {F : LamF} (u1 : G.un f) (h1 : H f = some (LamO f F)) (u2 : G.un F.c) (h2 : H F.c = some (LamX.CodeO F.c F.qual)) (h3 : ∀ T ∈ F.dfl, G.un T ∧ H T = some (.tup [.int 0])) : R K G H (.fn F) (.ref f)
  | obj {a dx : Addr} {C : String} {fs : List (String × D)} {vs : List (Str × V)} (h : G.un a) (e : H a = some (.ins (He.ga K (Str.ofString C)) dx vs)) (r : Rf K G H fs vs) : R K G H (.obj C fs) (.ref a)
inductive Rs (K : PySem.W.Frag) (G : AS) (H : Hp) : List D → List V → Prop
  | nil : Rs K G H [] []
  | cons {d : D} {v : V} {ds : List D} {vs : List V} (h : R K G H d v) (t : Rs K G H ds vs) : Rs K G H (d :: ds) (v :: vs)
inductive Rf (K : PySem.W.Frag) (G : AS) (H : Hp) : List (String × D) → List (Str × V) → Prop
  | nil : Rf K G H [] []
  | cons (x : String) {d : D} {v : V} {ds : List (String × D)} {vs : List (Str × V)} (h : R K G H d v) (t : Rf K G H ds vs) : Rf K G H ((x, d) :: ds) ((Str.ofString x, v) :: vs)
inductive Rk (K : PySem.W.Frag) (G : AS) (H : Hp) : List (D × D) → List (Key × V) → Prop
  | nil : Rk K G H [] []
  | cons (k : Key) {d : D} {v : V} {ds : List (D × D)} {vs : List (Key × V)} (h : R K G H d v) (t : Rk K G H ds vs) : Rk K G H ((keyD k, d) :: ds) ((k, v) :: vs)
end
/-- what is not tracked by G stands -/
def Ext (G : AS) (H : Hp) (G' : AS) (H' : Hp) : Prop := ∀ a o, H a = some o → G.g a = none → H' a = some o ∧ G'.g a = none ∧ (G'.p a ↔ G.p a)
theorem Ext.un {G G' : AS} {H H' : Hp} (e : Ext G H G' H') {a : Addr} {o : HO} (h : H a = some o) (u : G.un a) : H' a = some o ∧ G'.un a := let ⟨h1, h2, h3⟩ := e a o h u.1; ⟨h1, h2, fun z => u.2 (h3.mp z)⟩
section
variable {K : PySem.W.Frag} {G G1 G2 : AS} {H H1 H2 : Hp}
theorem Ext.refl : Ext G H G H := fun _ _ h g => ⟨h, g, Iff.rfl⟩
theorem Ext.trans (a : Ext G H G1 H1) (b : Ext G1 H1 G2 H2) : Ext G H G2 H2 := fun x o h g => let ⟨h1, g1, p1⟩ := a x o h g; let ⟨h2, g2, p2⟩ := b x o h1 g1; ⟨h2, g2, p2.trans p1⟩
theorem Rd_ext (e : Ext G H G1 H1) {a : Addr} {u : HO} (hg : G.un a) (h : Rd H a u) : G1.un a ∧ Rd H1 a u := by
  rcases h with h | ⟨o, h⟩
  · exact ⟨(e.un h hg).2, .inl (e.un h hg).1⟩
  · exact ⟨(e.un h hg).2, .inr ⟨o, (e.un h hg).1⟩⟩
theorem SeqL.ext (e : Ext G H G1 H1) {a : Addr} {xs : List V} (h : SeqL K G H a xs) : SeqL K G1 H1 a xs := (e.un h.2 h.1).symm
theorem SeqT.ext (e : Ext G H G1 H1) {a : Addr} {xs : List V} (h : SeqT K G H a xs) : SeqT K G1 H1 a xs := h.imp (fun ⟨g, r⟩ => (e.un r g).symm) id
/-- .. of what is not hidden -/
def Exu (G : AS) (H : Hp) (G' : AS) (H' : Hp) : Prop := ∀ a o, H a = some o → G.un a → H' a = some o ∧ G'.un a
theorem Ext.u (e : Ext G H G1 H1) : Exu G H G1 H1 := fun _ _ h u => e.un h u
theorem Rd_extu (e : Exu G H G1 H1) {a : Addr} {u : HO} (hg : G.un a) (h : Rd H a u) : G1.un a ∧ Rd H1 a u := by
  rcases h with h | ⟨o, h⟩
  · exact ⟨(e _ _ h hg).2, .inl (e _ _ h hg).1⟩
  · exact ⟨(e _ _ h hg).2, .inr ⟨o, (e _ _ h hg).1⟩⟩
theorem SeqL.extu (e : Exu G H G1 H1) {a : Addr} {xs : List V} (h : SeqL K G H a xs) : SeqL K G1 H1 a xs := (e _ _ h.2 h.1).symm
theorem SeqT.extu (e : Exu G H G1 H1) {a : Addr} {xs : List V} (h : SeqT K G H a xs) : SeqT K G1 H1 a xs := h.imp (fun ⟨g, r⟩ => (e _ _ r g).symm) id
mutual
theorem R.extu (e : Exu G H G1 H1) : ∀ {d : D} {v : V}, R K G H d v → R K G1 H1 d v
  | _, _, .non => .non
  | _, _, .bl b => .bl b
  | _, _, .int i => .int i
  | _, _, .str x => .str x
  | _, _, .ty n => .ty n
  | _, _, .ref a => .ref a
  | _, _, .cls C => .cls C
  | _, _, .tup h r => .tup (h.extu e) (Rs.extu e r)
  | _, _, .lst h r => .lst (h.extu e) (Rs.extu e r)
  | _, _, .scr h q r => .scr (Rd_extu e h q).1 (Rd_extu e h q).2 (Rs.extu e r)
  | _, _, .dic h q r => .dic (e _ _ q h).2 (e _ _ q h).1 (Rk.extu e r)
  | _, _, .obj h q r => .obj (e _ _ q h).2 (e _ _ q h).1 (Rf.extu e r)
  | _, _, .fn u1 h1 u2 h2 h3 => .fn (e _ _ h1 u1).2 (e _ _ h1 u1).1 (e _ _ h2 u2).2 (e _ _ h2 u2).1 fun T hT => (e _ _ (h3 T hT).2 (h3 T hT).1).symm
theorem Rs.extu (e : Exu G H G1 H1) : ∀ {d : List D} {v : List V}, Rs K G H d v → Rs K G1 H1 d v
  | _, _, .nil => .nil
  | _, _, .cons h t => .cons (R.extu e h) (Rs.extu e t)
theorem Rf.extu (e : Exu G H G1 H1) : ∀ {d : List (String × D)} {v : List (Str × V)}, Rf K G H d v → Rf K G1 H1 d v
  | _, _, .nil => .nil
  | _, _, .cons x h t => .cons x (R.extu e h) (Rf.extu e t)
theorem Rk.extu (e : Exu G H G1 H1) : ∀ {d : List (D × D)} {v : List (Key × V)}, Rk K G H d v → Rk K G1 H1 d v
  | _, _, .nil => .nil
  | _, _, .cons k h t => .cons k (R.extu e h) (Rk.extu e t)
end
theorem R.ext (e : Ext G H G1 H1) {d : D} {v : V} (r : R K G H d v) : R K G1 H1 d v := r.extu e.u
theorem Rs.ext (e : Ext G H G1 H1) {d : List D} {v : List V} (r : Rs K G H d v) : Rs K G1 H1 d v := r.extu e.u
theorem Rf.ext (e : Ext G H G1 H1) {d : List (String × D)} {v : List (Str × V)} (r : Rf K G H d v) : Rf K G1 H1 d v := r.extu e.u
theorem Rk.ext (e : Ext G H G1 H1) {d : List (D × D)} {v : List (Key × V)} (r : Rk K G H d v) : Rk K G1 H1 d v := r.extu e.u
theorem Rs.length : ∀ {d : List D} {v : List V}, Rs K G H d v → d.length = v.length
  | _, _, .nil => rfl
  | _, _, .cons _ t => congrArg (· + 1) (Rs.length t)
theorem Rs.get : ∀ {ds : List D} {vs : List V} {i : Nat} {d : D}, Rs K G H ds vs → ds[i]? = some d → ∃ v, vs[i]? = some v ∧ R K G H d v
  | _, _, _, _, .nil, e => by simp at e
  | _, _, 0, _, .cons h _, e => by simp at e; subst e; exact ⟨_, rfl, h⟩
  | _, _, i + 1, _, .cons _ t, e => Rs.get (i := i) t (by simpa using e)
theorem Rs.getV : ∀ {ds : List D} {vs : List V} {i : Nat} {v : V}, Rs K G H ds vs → vs[i]? = some v → ∃ d, ds[i]? = some d ∧ R K G H d v
  | _, _, _, _, .nil, e => by simp at e
  | _, _, 0, _, .cons h _, e => by simp at e; subst e; exact ⟨_, rfl, h⟩
  | _, _, i + 1, _, .cons _ t, e => Rs.getV (i := i) t (by simpa using e)
theorem Rs.append : ∀ {as bs : List D} {us vs : List V}, Rs K G H as us → Rs K G H bs vs → Rs K G H (as ++ bs) (us ++ vs)
  | _, _, _, _, .nil, s => s
  | _, _, _, _, .cons h t, s => .cons h (Rs.append t s)
theorem Rs.snoc {as : List D} {us : List V} {d : D} {v : V} (r : Rs K G H as us) (h : R K G H d v) : Rs K G H (as ++ [d]) (us ++ [v]) := r.append (.cons h .nil)
theorem Rs.take : ∀ {ds : List D} {vs : List V} (n : Nat), Rs K G H ds vs → Rs K G H (ds.take n) (vs.take n)
  | _, _, 0, _ => .nil
  | _, _, _ + 1, .nil => .nil
  | _, _, n + 1, .cons h t => .cons h (Rs.take n t)
theorem Rs.drop : ∀ {ds : List D} {vs : List V} (n : Nat), Rs K G H ds vs → Rs K G H (ds.drop n) (vs.drop n)
  | _, _, 0, r => r
  | _, _, _ + 1, .nil => .nil
  | _, _, n + 1, .cons _ t => Rs.drop n t
theorem Rs.set {d : D} {v : V} (h : R K G H d v) : ∀ {ds : List D} {vs : List V} (n : Nat), Rs K G H ds vs → Rs K G H (ds.set n d) (vs.set n v)
  | _, _, _, .nil => .nil
  | _, _, 0, .cons _ t => .cons h t
  | _, _, n + 1, .cons q t => .cons q (Rs.set h n t)
theorem Rs.reverse {ds : List D} {vs : List V} (r : Rs K G H ds vs) : Rs K G H ds.reverse vs.reverse := by
  induction r using Rs.rec (motive_1 := fun _ _ _ => True) (motive_3 := fun _ _ _ => True) (motive_4 := fun _ _ _ => True) with
  | nil => exact .nil
  | cons h t ih1 ih2 => rw [List.reverse_cons, List.reverse_cons]; exact ih2.snoc h
  | _ => trivial
def lookD (f : String) : List (String × D) → Option D
  | [] => none
  | (x, d) :: r => if x = f then some d else lookD f r
def putD (f : String) (d : D) : List (String × D) → List (String × D)
  | [] => [(f, d)]
  | (x, y) :: r => if x = f then (x, d) :: r else (x, y) :: putD f d r
theorem Rf.look {f : String} : ∀ {fs : List (String × D)} {vs : List (Str × V)} {d : D}, Rf K G H fs vs → lookD f fs = some d → ∃ v, vs.lookup (Str.ofString f) = some v ∧ R K G H d v
  | _, _, _, .nil, e => by cases e
  | _, _, d, .cons (ds := ds) (d := d0) (v := v0) x h t, e => by
    unfold lookD at e
    by_cases q : x = f
    · subst q
      rw [if_pos rfl] at e; cases e
      exact ⟨_, by simp [List.lookup], h⟩
    · rw [if_neg q] at e
      have : (Str.ofString f == Str.ofString x) = false := beq_eq_false_iff_ne.mpr fun z => q (ofString_inj z).symm
      obtain ⟨v, h1, h2⟩ := Rf.look t e
      exact ⟨v, by simp only [List.lookup, this]; exact h1, h2⟩
theorem Rf.look_none {f : String} : ∀ {fs : List (String × D)} {vs : List (Str × V)}, Rf K G H fs vs → lookD f fs = none → vs.lookup (Str.ofString f) = none
  | _, _, .nil, e => rfl
  | _, _, .cons (ds := ds) (d := d0) (v := v0) x h t, e => by
    unfold lookD at e
    by_cases q : x = f
    · subst q; rw [if_pos rfl] at e; cases e
    · rw [if_neg q] at e
      have : (Str.ofString f == Str.ofString x) = false := beq_eq_false_iff_ne.mpr fun z => q (ofString_inj z).symm
      simp only [List.lookup, this]
      exact Rf.look_none t e
theorem Rf.put {f : String} {d : D} {v : V} (h : R K G H d v) : ∀ {fs : List (String × D)} {vs : List (Str × V)}, Rf K G H fs vs → Rf K G H (putD f d fs) (putF (Str.ofString f) v vs)
  | _, _, .nil => .cons f h .nil
  | _, _, .cons (ds := ds) (d := d0) (v := v0) x q t => by
    unfold putD putF
    by_cases e : x = f
    · subst e; rw [if_pos rfl, if_pos rfl]; exact .cons x h t
    · rw [if_neg e, if_neg fun z => e (ofString_inj z)]
      exact .cons x q (Rf.put h t)
theorem Rf.length : ∀ {d : List (String × D)} {v : List (Str × V)}, Rf K G H d v → d.length = v.length
  | _, _, .nil => rfl
  | _, _, .cons _ _ t => congrArg (· + 1) (Rf.length t)
end
/-- a tracked object -/
def RO (K : PySem.W.Frag) (G : AS) (H : Hp) : DO → HO → Prop
  | .lst xs, ho => ∃ vs, ho = .lst vs ∧ Rs K G H xs vs
  | .dic kvs, ho => ∃ ws, ho = .dK ws ∧ Rk K G H kvs ws
  | .ins C fs, ho => ∃ dx vs, ho = .ins (He.ga K (Str.ofString C)) dx vs ∧ Rf K G H fs vs
  | .tab nm, ho => ∃ ps : Array Value, ho = .tbl ps ∧ TriplesOk ps.toList ∧ ∀ (pos : Pos) (cv : Value), codeAmong pos ps.toList = some cv → ∃ c, cv = .ref c ∧ G.un c ∧ H c = some (LamX.CodeO c (nm pos.line pos.col))
structure EmbH (K : PySem.W.Frag) (G : AS) (H : Hp) : Prop where
  tr : ∀ a o, G.g a = some o → ∃ ho, H a = some ho ∧ RO K G H o ho
  hid : ∀ a, G.p a → G.g a = none ∧ H a ≠ none
structure Emb (K : PySem.W.Frag) (O : AS × Hp) (ρ : DSt) (G : AS) (σ : St) (H : Hp) : Prop where
  len : ρ.length = σ.length
  loc : ∀ (i : Nat) (d : D), ρ[i]? = some (some d) → ∃ v, σ[i]? = some (some v) ∧ R K G H d v
  hp : EmbH K G H
  org : Ext O.1 O.2 G H
variable {O : AS × Hp}
section
variable {K : PySem.W.Frag} {G G1 G2 : AS} {H H1 H2 : Hp} {ρ : DSt} {σ : St} {a : Addr}
theorem RO.ext (e : Ext G H G1 H1) : ∀ {o : DO} {ho : HO}, RO K G H o ho → RO K G1 H1 o ho
  | .tab _, _, ⟨ps, h, t, r⟩ => ⟨ps, h, t, fun pos cv hc => let ⟨c, e1, u, h1⟩ := r pos cv hc; ⟨c, e1, (e.un h1 u).symm⟩⟩
  | .lst _, _, ⟨vs, h, r⟩ => ⟨vs, h, r.ext e⟩
  | .dic _, _, ⟨vs, h, r⟩ => ⟨vs, h, r.ext e⟩
  | .ins _ _, _, ⟨dx, vs, h, r⟩ => ⟨dx, vs, h, r.ext e⟩
theorem Emb.ext (E : Emb K O ρ G σ H) (e : Ext G H G1 H1) (h : EmbH K G1 H1) : Emb K O ρ G1 σ H1 :=
  ⟨E.len, fun i d q => let ⟨v, h1, h2⟩ := E.loc i d q; ⟨v, h1, h2.ext e⟩, h, E.org.trans e⟩
theorem EmbH.free (E : EmbH K G H) (h : H a = none) : G.g a = none := by
  cases e : G.g a with
  | none => rfl
  | some o => obtain ⟨ho, q, _⟩ := E.tr a o e; rw [h] at q; cases q
theorem EmbH.un (E : EmbH K G H) (h : H a = none) : G.un a := ⟨E.free h, fun z => (E.hid a z).2 h⟩
/-- a new object that G doesn't track -/
theorem Ext.new {o : HO} (h : H a = none) : Ext G H G (upd H a o) := fun b u e g => ⟨by rw [upd_ne (ne_of_none e h)]; exact e, g, Iff.rfl⟩
theorem EmbH.new {o : HO} (E : EmbH K G H) (h : H a = none) : EmbH K G (upd H a o) := ⟨fun b u e => by
  obtain ⟨ho, q, r⟩ := E.tr b u e
  exact ⟨ho, by rw [upd_ne (ne_of_none q h)]; exact q, r.ext (Ext.new h)⟩, fun b p => ⟨(E.hid b p).1, by
    by_cases hb : b = a
    · rw [hb, upd_same]; simp
    · rw [upd_ne hb]; exact (E.hid b p).2⟩⟩
/-- a new object that G tracks -/
theorem Ext.newG {o : HO} {u : DO} (h : H a = none) : Ext G H (G.put a u) (upd H a o) := fun b w e g => by
  have n := ne_of_none e h
  exact ⟨by rw [upd_ne n]; exact e, by show updG G.g a u b = none; rw [updG_ne n]; exact g, Iff.rfl⟩
theorem EmbH.putAny {o : HO} {u : DO} (E : EmbH K G H) (hn : ¬ G.p a) (x : Ext G H (G.put a u) (upd H a o)) (r : RO K G H u o) : EmbH K (G.put a u) (upd H a o) := ⟨fun b w e => by
  have e : updG G.g a u b = some w := e
  by_cases hb : b = a
  · subst hb
    rw [updG_same] at e; cases e
    exact ⟨o, upd_same, r.ext x⟩
  · rw [updG_ne hb] at e
    obtain ⟨ho, q, r'⟩ := E.tr b w e
    exact ⟨ho, by rw [upd_ne hb]; exact q, r'.ext x⟩, fun b p => by
    have hb : b ≠ a := fun z => hn (z ▸ p)
    obtain ⟨h1, h2⟩ := E.hid b p
    exact ⟨by show updG G.g a u b = none; rw [updG_ne hb]; exact h1, by rw [upd_ne hb]; exact h2⟩⟩
theorem EmbH.newG {o : HO} {u : DO} (E : EmbH K G H) (h : H a = none) (r : RO K G H u o) : EmbH K (G.put a u) (upd H a o) := E.putAny (E.un h).2 (Ext.newG h) r
/-- a tracked object is changed -/
theorem Ext.put {o : HO} {u : DO} (h : G.g a ≠ none) : Ext G H (G.put a u) (upd H a o) := fun b w e g => by
  have n : b ≠ a := fun z => h (z ▸ g)
  exact ⟨by rw [upd_ne n]; exact e, by show updG G.g a u b = none; rw [updG_ne n]; exact g, Iff.rfl⟩
theorem EmbH.put {o : HO} {u : DO} (E : EmbH K G H) (h : G.g a ≠ none) (r : RO K G H u o) : EmbH K (G.put a u) (upd H a o) := E.putAny (fun z => h (E.hid a z).1) (Ext.put h) r
/-- hidden objects -/
def AS.hide (G : AS) (a : Addr) : AS := ⟨G.g, fun b => b = a ∨ G.p b⟩
def AS.show (G : AS) (a : Addr) : AS := ⟨G.g, fun b => b ≠ a ∧ G.p b⟩
theorem RO.extu (e : Exu G H G1 H1) : ∀ {o : DO} {ho : HO}, RO K G H o ho → RO K G1 H1 o ho
  | .tab _, _, ⟨ps, h, t, r⟩ => ⟨ps, h, t, fun pos cv hc => let ⟨c, e1, u, h1⟩ := r pos cv hc; ⟨c, e1, (e c _ h1 u).symm⟩⟩
  | .lst _, _, ⟨vs, h, r⟩ => ⟨vs, h, r.extu e⟩
  | .dic _, _, ⟨vs, h, r⟩ => ⟨vs, h, r.extu e⟩
  | .ins _ _, _, ⟨dx, vs, h, r⟩ => ⟨dx, vs, h, r.extu e⟩
theorem Ext.hide {o : HO} (h : H a = none) : Ext G H (G.hide a) (upd H a o) := fun b u e g => by
  have n := ne_of_none e h
  exact ⟨by rw [upd_ne n]; exact e, g, ⟨fun z => z.elim (fun z => absurd z n) id, .inr⟩⟩
theorem EmbH.hide {o : HO} (E : EmbH K G H) (h : H a = none) : EmbH K (G.hide a) (upd H a o) := ⟨fun b u e => by
  obtain ⟨ho, q, r⟩ := E.tr b u e
  exact ⟨ho, by rw [upd_ne (ne_of_none q h)]; exact q, r.ext (Ext.hide h)⟩, fun b p => by
  by_cases hb : b = a
  · subst hb
    exact ⟨E.free h, by rw [upd_same]; simp⟩
  · obtain ⟨h1, h2⟩ := E.hid b (p.elim (fun z => absurd z hb) id)
    exact ⟨h1, by rw [upd_ne hb]; exact h2⟩⟩
theorem Exu.hid {o : HO} (h : G.p a) : Exu G H G (upd H a o) := fun b u e n => by
  have hb : b ≠ a := fun z => n.2 (z ▸ h)
  exact ⟨by rw [upd_ne hb]; exact e, n⟩
theorem EmbH.hid_put {o : HO} (E : EmbH K G H) (h : G.p a) : EmbH K G (upd H a o) := ⟨fun b u e => by
  obtain ⟨ho, q, r⟩ := E.tr b u e
  have hb : b ≠ a := fun z => by rw [z, (E.hid a h).1] at e; cases e
  exact ⟨ho, by rw [upd_ne hb]; exact q, r.extu (Exu.hid h)⟩, fun b p => by
  obtain ⟨h1, h2⟩ := E.hid b p
  refine ⟨h1, ?_⟩
  by_cases hb : b = a
  · rw [hb, upd_same]; simp
  · rw [upd_ne hb]; exact h2⟩
theorem Exu.show : Exu G H (G.show a) H := fun b u e n => ⟨e, n.1, fun z => n.2 z.2⟩
theorem EmbH.show (E : EmbH K G H) : EmbH K (G.show a) H := ⟨fun b u e => by
  obtain ⟨ho, q, r⟩ := E.tr b u e
  exact ⟨ho, q, r.extu Exu.show⟩, fun b p => E.hid b p.2⟩
theorem Emb.put {i : Nat} {d : D} {v : V} (E : Emb K O ρ G σ H) (r : R K G H d v) : Emb K O (ρ.set i (some d)) G (σ.set i (some v)) H := by
  refine ⟨by simp [E.len], fun j y q => ?_, E.hp, E.org⟩
  by_cases hj : i = j
  · subst hj
    by_cases hi : i < ρ.length
    · rw [List.getElem?_set_self hi] at q; cases q
      exact ⟨v, by rw [List.getElem?_set_self (by rw [← E.len]; exact hi)], r⟩
    · rw [List.getElem?_eq_none (by simpa using hi)] at q; cases q
  · rw [List.getElem?_set_ne hj] at q
    obtain ⟨w, h1, h2⟩ := E.loc j y q
    exact ⟨w, by rw [List.getElem?_set_ne hj]; exact h1, h2⟩
end
/-! ### readings -/
abbrev DK := D → GH → Prop
abbrev DTE := DSt → GH → DK → Prop
abbrev DTT := DSt → GH → (Bool → GH → Prop) → Prop
abbrev DTA := DSt → GH → (List D → GH → Prop) → Prop
structure DEnds where
  nx : DSt → GH → Prop
  rt : DK
  bk : DSt → GH → Prop := fun _ _ => False
  ct : DSt → GH → Prop := fun _ _ => False
abbrev DTS := DEnds → DSt → GH → Prop
abbrev DTG := D → DSt → GH → (DSt → GH → Prop) → Prop
abbrev DTGs := List D → DSt → GH → (DSt → GH → Prop) → Prop
/-- what a value's continuation at V asks, by one at D -/
def KE (K : PySem.W.Frag) (G : AS) (H : Hp) (Qd : DK) (Q : VK) : Prop := ∀ v H' d (G' : AS), R K G' H' d v → EmbH K G' H' → Ext G H G' H' → Qd d G'.g → Q v H'
def upE (K : PySem.W.Frag) (O : AS × Hp) (t : DTE) : TE := fun σ H Q => ∃ ρ G Qd, Emb K O ρ G σ H ∧ t ρ (AS.g G) Qd ∧ KE K G H Qd Q
def upT (K : PySem.W.Frag) (O : AS × Hp) (t : DTT) : TT := fun σ H Q => ∃ ρ G Qd, Emb K O ρ G σ H ∧ t ρ (AS.g G) Qd ∧ ∀ b H' G', EmbH K G' H' → Ext G H G' H' → Qd b (AS.g G') → Q b H'
def upA (K : PySem.W.Frag) (O : AS × Hp) (t : DTA) : TA := fun σ H Q => ∃ ρ G Qd, Emb K O ρ G σ H ∧ t ρ (AS.g G) Qd ∧ ∀ vs H' ds G', Rs K G' H' ds vs → EmbH K G' H' → Ext G H G' H' → Qd ds (AS.g G') → Q vs H'
structure KS (K : PySem.W.Frag) (O : AS × Hp) (G : AS) (H : Hp) (DD : DEnds) (D' : Ends) : Prop where
  nx : ∀ σ' H' ρ' G', Emb K O ρ' G' σ' H' → Ext G H G' H' → DD.nx ρ' (AS.g G') → D'.nx σ' H'
  rt : KE K G H DD.rt D'.rt
  bk : ∀ σ' H' ρ' G', Emb K O ρ' G' σ' H' → Ext G H G' H' → DD.bk ρ' (AS.g G') → D'.bk σ' H'
  ct : ∀ σ' H' ρ' G', Emb K O ρ' G' σ' H' → Ext G H G' H' → DD.ct ρ' (AS.g G') → D'.ct σ' H'
def upS (K : PySem.W.Frag) (O : AS × Hp) (t : DTS) : TS := fun D' σ H => ∃ ρ G DD, Emb K O ρ G σ H ∧ t DD ρ (AS.g G) ∧ KS K O G H DD D'
def upG (K : PySem.W.Frag) (O : AS × Hp) (t : DTG) : TG := fun v σ H Q => ∃ d ρ G Qd, R K G H d v ∧ Emb K O ρ G σ H ∧ t d ρ (AS.g G) Qd ∧ ∀ σ' H' ρ' G', Emb K O ρ' G' σ' H' → Ext G H G' H' → Qd ρ' (AS.g G') → Q σ' H'
def upGs (K : PySem.W.Frag) (O : AS × Hp) (t : DTGs) : TGs := fun vs σ H Q => ∃ ds ρ G Qd, Rs K G H ds vs ∧ Emb K O ρ G σ H ∧ t ds ρ (AS.g G) Qd ∧ ∀ σ' H' ρ' G', Emb K O ρ' G' σ' H' → Ext G H G' H' → Qd ρ' (AS.g G') → Q σ' H'
abbrev DE (X : Cx) (O : AS × Hp) (e : Expr) (t : DTE) : Prop := PE X e (upE X.K O t)
abbrev DT (X : Cx) (O : AS × Hp) (e : Expr) (t : DTT) : Prop := PT X e (upT X.K O t)
abbrev DW (X : Cx) (O : AS × Hp) (e : Expr) (t : DTT) : Prop := PW X e (upT X.K O t)
abbrev DA (X : Cx) (O : AS × Hp) (es : List Expr) (t : DTA) : Prop := PA X es (upA X.K O t)
abbrev DS (X : Cx) (O : AS × Hp) (s : Stmt) (t : DTS) : Prop := PS X s (upS X.K O t)
abbrev DSs (X : Cx) (O : AS × Hp) (s : List Stmt) (t : DTS) : Prop := PSs X s (upS X.K O t)
abbrev DG (X : Cx) (O : AS × Hp) (e : Expr) (t : DTG) : Prop := PG X e (upG X.K O t)
abbrev DGs (X : Cx) (O : AS × Hp) (es : List Expr) (t : DTGs) : Prop := PGs X es (upGs X.K O t)
section
variable {X : Cx} {e : Expr} {es : List Expr} {s : Stmt} {ss : List Stmt}
theorem imE {t t' : TE} (h : PE X e t) (i : ∀ σ H Q, t' σ H Q → t σ H Q) : PE X e t' := ⟨fun pins s σ H Q I q => h.run pins s σ H Q I (i σ H Q q)⟩
theorem imT {t t' : TT} (h : PT X e t) (i : ∀ σ H Q, t' σ H Q → t σ H Q) : PT X e t' := ⟨fun pins s σ H Q I q => h.run pins s σ H Q I (i σ H Q q)⟩
theorem imW {t t' : TT} (h : PW X e t) (i : ∀ σ H Q, t' σ H Q → t σ H Q) : PW X e t' := ⟨fun wh pins s σ H Q I q => h.run wh pins s σ H Q I (i σ H Q q)⟩
theorem imA {t t' : TA} (h : PA X es t) (i : ∀ σ H Q, t' σ H Q → t σ H Q) : PA X es t' := ⟨fun pos pins s σ H Q I q => h.run pos pins s σ H Q I (i σ H Q q)⟩
theorem imS {t t' : TS} (h : PS X s t) (i : ∀ D σ H, t' D σ H → t D σ H) : PS X s t' := ⟨fun pins s σ H D I q => h.run pins s σ H D I (i D σ H q)⟩
theorem imSs {t t' : TS} (h : PSs X ss t) (i : ∀ D σ H, t' D σ H → t D σ H) : PSs X ss t' := ⟨fun pins s σ H D I q => h.run pins s σ H D I (i D σ H q)⟩
theorem imG {t t' : TG} (h : PG X e t) (i : ∀ v σ H Q, t' v σ H Q → t v σ H Q) : PG X e t' := ⟨fun pins s σ H v u Q I r q => h.run pins s σ H v u Q I r (i v σ H Q q)⟩
theorem imGs {t t' : TGs} (h : PGs X es t) (i : ∀ v σ H Q, t' v σ H Q → t v σ H Q) : PGs X es t' := ⟨fun pins s σ H v u Q I r q => h.run pins s σ H v u Q I r (i v σ H Q q)⟩
end
theorem KE.ext {K : PySem.W.Frag} {G G1 : AS} {H H1 : Hp} {Qd : DK} {Q : VK} (k : KE K G H Qd Q) (e : Ext G H G1 H1) : KE K G1 H1 Qd Q := fun v H' d G' r h x q => k v H' d G' r h (e.trans x) q
theorem KS.ext {K : PySem.W.Frag} {G G1 : AS} {H H1 : Hp} {DD : DEnds} {D' : Ends} (k : KS K O G H DD D') (e : Ext G H G1 H1) : KS K O G1 H1 DD D' :=
  ⟨fun σ' H' ρ' G' h x q => k.nx σ' H' ρ' G' h (e.trans x) q, k.rt.ext e, fun σ' H' ρ' G' h x q => k.bk σ' H' ρ' G' h (e.trans x) q, fun σ' H' ρ' G' h x q => k.ct σ' H' ρ' G' h (e.trans x) q⟩
/-- one part, then the rest -/
theorem up1 {K : PySem.W.Frag} {ta : DTE} {ρ : DSt} {G : AS} {σ : St} {H : Hp} {Qd : DK} {Q : VK} (E : Emb K O ρ G σ H) (h : ta ρ G.g Qd)
    (k : ∀ v H' d G', R K G' H' d v → Emb K O ρ G' σ H' → Ext G H G' H' → Qd d (AS.g G') → Q v H') : upE K O ta σ H Q := ⟨ρ, G, Qd, E, h, fun v H' d G' r hp x q => k v H' d G' r (E.ext x hp) x q⟩
theorem upT1 {K : PySem.W.Frag} {ta : DTT} {ρ : DSt} {G : AS} {σ : St} {H : Hp} {Qd : Bool → GH → Prop} {Q : Bool → Hp → Prop} (E : Emb K O ρ G σ H) (h : ta ρ G.g Qd)
    (k : ∀ b H' G', Emb K O ρ G' σ H' → Ext G H G' H' → Qd b (AS.g G') → Q b H') : upT K O ta σ H Q := ⟨ρ, G, Qd, E, h, fun b H' G' hp x q => k b H' G' (E.ext x hp) x q⟩
theorem upA1 {K : PySem.W.Frag} {ta : DTA} {ρ : DSt} {G : AS} {σ : St} {H : Hp} {Qd : List D → GH → Prop} {Q : List V → Hp → Prop} (E : Emb K O ρ G σ H) (h : ta ρ G.g Qd)
    (k : ∀ v H' d G', Rs K G' H' d v → Emb K O ρ G' σ H' → Ext G H G' H' → Qd d (AS.g G') → Q v H') : upA K O ta σ H Q := ⟨ρ, G, Qd, E, h, fun v H' d G' r hp x q => k v H' d G' r (E.ext x hp) x q⟩
end DL
set_option Elab.async false
set_option linter.all false
set_option maxRecDepth 100000
/-! The D-layer: names, constants, operators, tests, statements. -/
namespace DL
open PySem PySem.Spec PyProof.Rows L2
variable {O : AS × Hp}
section
variable {X : Cx} {e a b c : Expr} {es rest : List Expr} {pos : Pos} {ta tb tc : DTE}
/-! ### names, constants -/
def dVar (i : Nat) : DTE := fun ρ G Q => ∃ d, ρ[i]? = some (some d) ∧ Q d G
def dC (d : D) : DTE := fun _ G Q => Q d G
theorem de_var {i : Nat} (h : PE X e (tVar i)) : DE X O e (dVar i) := imE h fun σ H Q ⟨ρ, G, Qd, E, ⟨d, h1, h2⟩, k⟩ => by
  obtain ⟨v, e1, r⟩ := E.loc i d h1
  exact ⟨v, e1, k v H d G r E.hp .refl h2⟩
theorem de_c {d : D} {v : V} (h : PE X e (tC v)) (r : ∀ G H, R X.K G H d v) : DE X O e (dC d) := imE h fun σ H Q ⟨ρ, G, Qd, E, q, k⟩ => k v H d G (r G H) E.hp .refl q
theorem de_int {i j pos} : DE X O (.Constant (.int i) j pos) (dC (.int i)) := de_c pe_int fun _ _ => .int i
theorem de_bl {b j pos} : DE X O (.Constant (.bool b) j pos) (dC (.bl b)) := de_c pe_bl fun _ _ => .bl b
theorem de_non {j pos} : DE X O (.Constant .none j pos) (dC .non) := de_c pe_non fun _ _ => .non
theorem de_str {x : Str} {l : List Nat} {j pos} (h : x.cps.toList = l) : DE X O (.Constant (.str x) j pos) (dC (.str l)) := de_c (v := .str x) pe_str fun _ _ => by
  subst h
  exact .str _
/-- a value that stands in the written part -/
theorem de_glob {x : Str} {v : V} {u : Value} {d : D} {pos : Pos} (hg : Gl X x) (hm : X.mg x = some u) (r : RelV v u) (h : ∀ G H, R X.K G H d v) (hd : (x == ("__debug__" : Str)) = false := by decide) : DE X O (.Name x pos) (dC d) := de_c (pe_glob hg hm r hd) h
/-! ### operators, by values -/
abbrev DR2 := D → D → GH → DK → Prop
def upO (K : PySem.W.Frag) (r : DR2) : R2 := fun x y H Q => ∃ dx dy G Qd, R K G H dx x ∧ R K G H dy y ∧ EmbH K G H ∧ r dx dy (AS.g G) Qd ∧ KE K G H Qd Q
def upU (K : PySem.W.Frag) (r : D → GH → DK → Prop) : V → Hp → VK → Prop := fun x H Q => ∃ dx G Qd, R K G H dx x ∧ EmbH K G H ∧ r dx (AS.g G) Qd ∧ KE K G H Qd Q
def upC (K : PySem.W.Frag) (r : List D → GH → DK → Prop) : List V → Hp → VK → Prop := fun xs H Q => ∃ ds G Qd, Rs K G H ds xs ∧ EmbH K G H ∧ r ds (AS.g G) Qd ∧ KE K G H Qd Q
def upM (K : PySem.W.Frag) (r : D → List D → GH → DK → Prop) : V → List V → Hp → VK → Prop := fun x xs H Q => ∃ d ds G Qd, R K G H d x ∧ Rs K G H ds xs ∧ EmbH K G H ∧ r d ds (AS.g G) Qd ∧ KE K G H Qd Q
def dOp (r : DR2) (ta tb : DTE) : DTE := fun ρ G Q => ta ρ G fun x G1 => tb ρ G1 fun y G2 => r x y G2 Q
def dUn (r : D → GH → DK → Prop) (ta : DTE) : DTE := fun ρ G Q => ta ρ G fun x G1 => r x G1 Q
theorem up_op {r : DR2} {σ : St} {H : Hp} {Q : VK} (h : upE X.K O (dOp r ta tb) σ H Q) : tOp (upO X.K r) (upE X.K O ta) (upE X.K O tb) σ H Q := by
  obtain ⟨ρ, G, Qd, E, h, k⟩ := h
  exact up1 E h fun x H1 dx G1 rx E1 x1 h1 => up1 E1 h1 fun y H2 dy G2 ry E2 x2 h2 => ⟨dx, dy, G2, Qd, rx.ext x2, ry, E2.hp, h2, k.ext (x1.trans x2)⟩
theorem de_op {op : Operator} {r : DR2} (ho : OpR X (binaryOp op) (upO X.K r)) (ha : DE X O a ta) (hb : DE X O b tb) : DE X O (.BinOp a op b pos) (dOp r ta tb) := imE (pe_op ho ha hb) fun _ _ _ => up_op
theorem de_un {op : UnaryOp} {r : D → GH → DK → Prop} (ho : UnR X (unaryOp op) (upU X.K r)) (ha : DE X O a ta) : DE X O (.UnaryOp op a pos) (dUn r ta) := imE (pe_un ho ha) fun σ H Q ⟨ρ, G, Qd, E, h, k⟩ =>
  up1 E h fun x H1 dx G1 rx E1 x1 h1 => ⟨dx, G1, Qd, rx, E1.hp, h1, k.ext x1⟩
theorem de_cmp {op : CmpOp} {r : DR2} (ho : OpR X (compareOp op) (upO X.K r)) (ha : DE X O a ta) (hb : DE X O b tb) (hm : behindInMarks op b = false := by first | exact nomark _ | rfl) : DE X O (.Compare a [op] [b] pos) (dOp r ta tb) := imE (pe_cmpR ho ha hb hm) fun _ _ _ => up_op
def dTest (t : DTE) : DTT := fun ρ G Q => t ρ G fun x G1 => ∃ k, x = .bl k ∧ Q k G1
theorem dt_of {t : DTE} {tv : TE} (h : PT X e (tTest tv)) (i : ∀ σ H Q, upE X.K O t σ H Q → tv σ H Q) : DT X O e (dTest t) := imT h fun σ H Q ⟨ρ, G, Qd, E, h, k⟩ => i σ H _ ⟨ρ, G, _, E, h, fun v H' d G' r hp x ⟨b, e, q⟩ => by
  subst e
  cases r
  exact ⟨b, rfl, k b H' G' hp x q⟩⟩
theorem dt_cmp {op : CmpOp} {r : DR2} (ho : OpR X (compareOp op) (upO X.K r)) (ha : DE X O a ta) (hb : DE X O b tb) (hm : behindInMarks op b = false := by first | exact nomark _ | rfl) : DT X O (.Compare a [op] [b] pos) (dTest (dOp r ta tb)) := dt_of (pt_cmpR ho ha hb hm) fun _ _ _ => up_op
/-- an expression that gives a bool, as a test -/
theorem dt_val (h : DE X O e ta) (he : ∀ whole, isTrue e X.env whole = (do let v ← whole; standAt e.pos; holding [v] (truthy v)) := by intro _; rfl) : DT X O e (dTest ta) :=
  dt_of (tv := upE X.K O ta) (imT (pt_val h he) fun σ H Q h => h) fun _ _ _ h => h
def dChain (r r' : DR2) (ta tb tc : DTE) : DTE := fun ρ G Q => ta ρ G fun x G1 => tb ρ G1 fun y G2 => r x y G2 fun z G3 => ∃ k, z = .bl k ∧ (if k = true then tc ρ G3 fun w G4 => r' y w G4 Q else Q (.bl false) G3)
theorem up_chain {r r' : DR2} {σ : St} {H : Hp} {Q : VK} (h : upE X.K O (dChain r r' ta tb tc) σ H Q) : tChain (upO X.K r) (upO X.K r') (upE X.K O ta) (upE X.K O tb) (upE X.K O tc) σ H Q := by
  obtain ⟨ρ, G, Qd, E, h, k⟩ := h
  refine up1 E h fun x H1 dx G1 rx E1 x1 h1 => up1 E1 h1 fun y H2 dy G2 ry E2 x2 h2 => ⟨dx, dy, G2, _, rx.ext x2, ry, E2.hp, h2, fun z H3 dz G3 rz h3 x3 q => ?_⟩
  obtain ⟨kk, ez, q⟩ := q
  subst ez
  cases rz
  refine ⟨kk, rfl, ?_⟩
  have E3 := E2.ext x3 h3
  cases kk with
  | true =>
    rw [if_pos rfl] at q ⊢
    exact up1 E3 q fun w H4 dw G4 rw' E4 x4 h4 => ⟨dy, dw, G4, Qd, ry.ext (x3.trans x4), rw', E4.hp, h4, k.ext (((x1.trans x2).trans x3).trans x4)⟩
  | false =>
    rw [if_neg Bool.false_ne_true] at q ⊢
    exact k _ _ _ _ (.bl false) h3 ((x1.trans x2).trans x3) q
theorem de_chain {op op' : CmpOp} {r r' : DR2} (ho : OpR X (compareOp op) (upO X.K r)) (ho' : OpR X (compareOp op') (upO X.K r')) (ha : DE X O a ta) (hb : DE X O b tb) (hc : DE X O c tc)
    (hm : lastMarks [op, op'] [b, c] = false := by with_unfolding_all rfl) : DE X O (.Compare a [op, op'] [b, c] pos) (dChain r r' ta tb tc) := imE (pe_chain ho ho' ha hb hc hm) fun _ _ _ => up_chain
theorem dt_chain {op op' : CmpOp} {r r' : DR2} (ho : OpR X (compareOp op) (upO X.K r)) (ho' : OpR X (compareOp op') (upO X.K r')) (ha : DE X O a ta) (hb : DE X O b tb) (hc : DE X O c tc)
    (hm : lastMarks [op, op'] [b, c] = false := by with_unfolding_all rfl) : DT X O (.Compare a [op, op'] [b, c] pos) (dTest (dChain r r' ta tb tc)) := dt_of (pt_chain ho ho' ha hb hc hm) fun _ _ _ => up_chain
/-- is None -/
def isNo : D → Bool | .non => true | _ => false
def dIsN (ta : DTE) : DTE := fun ρ G Q => ta ρ G fun x G1 => Q (.bl (isNo x)) G1
def dNotN (ta : DTE) : DTE := fun ρ G Q => ta ρ G fun x G1 => Q (.bl (!isNo x)) G1
theorem R.isnon {K : PySem.W.Frag} {G : AS} {H : Hp} {d : D} {v : V} (r : R K G H d v) : decide (v = .non) = isNo d := by
  cases r <;> simp [sv, isNo]
theorem de_isN {j pos'} (ha : DE X O a ta) : DE X O (.Compare a [.Is] [.Constant .none j pos'] pos) (dIsN ta) := imE (pe_cmp (pc_isN ha)) fun σ H Q ⟨ρ, G, Qd, E, h, k⟩ =>
  up1 E h fun x H1 dx G1 rx E1 x1 h1 => k _ _ _ _ (by rw [rx.isnon]; exact .bl _) E1.hp x1 h1
theorem de_notN {j pos'} (ha : DE X O a ta) : DE X O (.Compare a [.IsNot] [.Constant .none j pos'] pos) (dNotN ta) := imE (pe_cmp (pc_notN ha)) fun σ H Q ⟨ρ, G, Qd, E, h, k⟩ =>
  up1 E h fun x H1 dx G1 rx E1 x1 h1 => k _ _ _ _ (by rw [rx.isnon]; exact .bl _) E1.hp x1 h1
theorem dt_isN {j pos'} (ha : DE X O a ta) : DT X O (.Compare a [.Is] [.Constant .none j pos'] pos) (dTest (dIsN ta)) := dt_of (tv := tIsN (upE X.K O ta)) (pt_cmp (pc_isN ha)) fun σ H Q ⟨ρ, G, Qd, E, h, k⟩ =>
  up1 E h fun x H1 dx G1 rx E1 x1 h1 => k _ _ _ _ (by rw [rx.isnon]; exact .bl _) E1.hp x1 h1
theorem dt_notN {j pos'} (ha : DE X O a ta) : DT X O (.Compare a [.IsNot] [.Constant .none j pos'] pos) (dTest (dNotN ta)) := dt_of (tv := tNotN (upE X.K O ta)) (pt_cmp (pc_notN ha)) fun σ H Q ⟨ρ, G, Qd, E, h, k⟩ =>
  up1 E h fun x H1 dx G1 rx E1 x1 h1 => k _ _ _ _ (by rw [rx.isnon]; exact .bl _) E1.hp x1 h1
/-! ### and, or, not, if .. else -/
def dAnd (t u : DTT) : DTT := fun ρ G Q => t ρ G fun k G1 => if k = true then u ρ G1 Q else Q false G1
def dOr (t u : DTT) : DTT := fun ρ G Q => t ρ G fun k G1 => if k = true then Q true G1 else u ρ G1 Q
def dNot (t : DTT) : DTT := fun ρ G Q => t ρ G fun k G1 => Q (!k) G1
section
variable {tA tB : DTT} {u : TT}
theorem dw_and1 (ha : DT X O a tA) : DW X O (.BoolOp .And [a] pos) tA := pw_and1 ha
theorem dw_or1 (ha : DT X O a tA) : DW X O (.BoolOp .Or [a] pos) tA := pw_or1 ha
theorem dw_and (ha : DT X O a tA) (hb : DW X O (.BoolOp .And (b :: rest) pos) tB) : DW X O (.BoolOp .And (a :: b :: rest) pos) (dAnd tA tB) := imW (pw_and ha hb) fun σ H Q ⟨ρ, G, Qd, E, h, k⟩ =>
  upT1 E h fun c H1 G1 E1 x1 h1 => by
    cases c with
    | true => exact upT1 E1 h1 fun c' H2 G2 E2 x2 h2 => k c' H2 G2 E2.hp (x1.trans x2) h2
    | false => exact k false H1 G1 E1.hp x1 h1
theorem dw_or (ha : DT X O a tA) (hb : DW X O (.BoolOp .Or (b :: rest) pos) tB) : DW X O (.BoolOp .Or (a :: b :: rest) pos) (dOr tA tB) := imW (pw_or ha hb) fun σ H Q ⟨ρ, G, Qd, E, h, k⟩ =>
  upT1 E h fun c H1 G1 E1 x1 h1 => by
    cases c with
    | true => exact k true H1 G1 E1.hp x1 h1
    | false => exact upT1 E1 h1 fun c' H2 G2 E2 x2 h2 => k c' H2 G2 E2.hp (x1.trans x2) h2
theorem dw_pt (h : DW X O e tA) : DT X O e tA := h.pt
theorem dt_not (ha : DT X O a tA) : DT X O (.UnaryOp .Not a pos) (dNot tA) := imT (pt_not ha) fun σ H Q ⟨ρ, G, Qd, E, h, k⟩ => upT1 E h fun c H1 G1 E1 x1 h1 => k _ H1 G1 E1.hp x1 h1
def dAndV (ta tb : DTE) : DTE := fun ρ G Q => ta ρ G fun x G1 => ∃ k, x = .bl k ∧ if k = true then tb ρ G1 Q else Q (.bl false) G1
def dOrV (ta tb : DTE) : DTE := fun ρ G Q => ta ρ G fun x G1 => ∃ k, x = .bl k ∧ if k = true then Q (.bl true) G1 else tb ρ G1 Q
def dNotV (ta : DTE) : DTE := fun ρ G Q => ta ρ G fun x G1 => ∃ k, x = .bl k ∧ Q (.bl (!k)) G1
theorem de_one {op} (h : DE X O a ta) : DE X O (.BoolOp op [a] pos) ta := pe_one h
theorem de_and (ha : DE X O a ta) (hb : DE X O (.BoolOp .And (b :: rest) pos) tb) : DE X O (.BoolOp .And (a :: b :: rest) pos) (dAndV ta tb) := imE (pe_and ha hb) fun σ H Q ⟨ρ, G, Qd, E, h, k⟩ =>
  up1 E h fun x H1 dx G1 rx E1 x1 ⟨c, ec, h1⟩ => by
    subst ec
    cases rx
    refine ⟨c, rfl, ?_⟩
    cases c with
    | true => exact up1 E1 h1 fun y H2 dy G2 ry E2 x2 h2 => k _ _ _ _ ry E2.hp (x1.trans x2) h2
    | false => exact k _ _ _ _ (.bl false) E1.hp x1 h1
theorem de_or (ha : DE X O a ta) (hb : DE X O (.BoolOp .Or (b :: rest) pos) tb) : DE X O (.BoolOp .Or (a :: b :: rest) pos) (dOrV ta tb) := imE (pe_or ha hb) fun σ H Q ⟨ρ, G, Qd, E, h, k⟩ =>
  up1 E h fun x H1 dx G1 rx E1 x1 ⟨c, ec, h1⟩ => by
    subst ec
    cases rx
    refine ⟨c, rfl, ?_⟩
    cases c with
    | false => exact up1 E1 h1 fun y H2 dy G2 ry E2 x2 h2 => k _ _ _ _ ry E2.hp (x1.trans x2) h2
    | true => exact k _ _ _ _ (.bl true) E1.hp x1 h1
theorem de_not (ha : DE X O a ta) : DE X O (.UnaryOp .Not a pos) (dNotV ta) := imE (pe_not ha) fun σ H Q ⟨ρ, G, Qd, E, h, k⟩ =>
  up1 E h fun x H1 dx G1 rx E1 x1 ⟨c, ec, h1⟩ => by
    subst ec
    cases rx
    exact ⟨c, rfl, k _ _ _ _ (.bl _) E1.hp x1 h1⟩
def dIf (t : DTT) (ta tb : DTE) : DTE := fun ρ G Q => t ρ G fun k G1 => if k = true then ta ρ G1 Q else tb ρ G1 Q
theorem de_if (hc : DT X O c tA) (ha : DE X O a ta) (hb : DE X O b tb) : DE X O (.IfExp c a b pos) (dIf tA ta tb) := imE (pe_ifExp hc ha hb) fun σ H Q ⟨ρ, G, Qd, E, h, k⟩ =>
  upT1 E h fun c H1 G1 E1 x1 h1 => by
    cases c with
    | true => exact up1 E1 h1 fun y H2 dy G2 ry E2 x2 h2 => k _ _ _ _ ry E2.hp (x1.trans x2) h2
    | false => exact up1 E1 h1 fun y H2 dy G2 ry E2 x2 h2 => k _ _ _ _ ry E2.hp (x1.trans x2) h2
end
/-! ### argument lists, displays -/
def dNil : DTA := fun _ G Q => Q [] G
def dCons (ta : DTE) (tr : DTA) : DTA := fun ρ G Q => ta ρ G fun x G1 => tr ρ G1 fun xs G2 => Q (x :: xs) G2
theorem da_nil : DA X O [] dNil := imA pa_nil fun σ H Q ⟨ρ, G, Qd, E, h, k⟩ => k _ _ _ _ .nil E.hp .refl h
theorem da_cons {t : DTA} (ha : DE X O e ta) (hr : DA X O es t) (hs : starEach (e :: es) X.env = (false, eval e X.env) :: starEach es X.env := by rfl) : DA X O (e :: es) (dCons ta t) := imA (pa_cons ha hr hs) fun σ H Q ⟨ρ, G, Qd, E, h, k⟩ =>
  up1 E h fun x H1 dx G1 rx E1 x1 h1 => upA1 E1 h1 fun ys H2 dys G2 rys E2 x2 h2 => k _ _ _ _ (.cons (rx.ext x2) rys) E2.hp (x1.trans x2) h2
/-- a new object that G leaves alone -/
theorem KE.new {K : PySem.W.Frag} {G : AS} {H : Hp} {Qd : DK} {Q : VK} {p : Addr} {o : HO} {d : D} (k : KE K G H Qd Q) (hp : EmbH K G H) (n : H p = none) (q : Qd d G.g) (r : R K G (upd H p o) d (.ref p)) : Q (.ref p) (upd H p o) :=
  k _ _ d G r (hp.new n) (Ext.new n) q
theorem R.newTup {K : PySem.W.Frag} {G : AS} {H : Hp} {p : Addr} {ds : List D} {vs : List V} (hp : EmbH K G H) (n : H p = none) (r : Rs K G H ds vs) : R K G (upd H p (.tup vs)) (.tup ds) (.ref p) :=
  .tup (.inl ⟨hp.un n, upd_same⟩) (r.ext (Ext.new n))
theorem R.newLst {K : PySem.W.Frag} {G : AS} {H : Hp} {p : Addr} {ds : List D} {vs : List V} (hp : EmbH K G H) (n : H p = none) (r : Rs K G H ds vs) : R K G (upd H p (.lst vs)) (.lst ds) (.ref p) :=
  .lst ⟨hp.un n, upd_same⟩ (r.ext (Ext.new n))
def dTup (t : DTA) : DTE := fun ρ G Q => t ρ G fun xs G1 => xs.length ≤ sizeLine ∧ Q (.tup xs) G1
/-- a list that is never changed -/
def dLst (t : DTA) : DTE := fun ρ G Q => t ρ G fun xs G1 => xs.length ≤ sizeLine ∧ Q (.lst xs) G1
/-- a list that will be changed -/
def dLstM (t : DTA) : DTE := fun ρ G Q => t ρ G fun xs G1 => xs.length ≤ sizeLine ∧ ∀ p, G1 p = none → Q (.ref p) (updG G1 p (.lst xs))
theorem de_tup {t : DTA} {x1} (h : DA X O es t) : DE X O (.Tuple es x1 pos) (dTup t) := imE (pe_tup h) fun σ H Q ⟨ρ, G, Qd, E, h, k⟩ =>
  upA1 E h fun vs H1 ds G1 rs E1 x1 ⟨hz, h1⟩ => ⟨by rw [← rs.length]; exact hz, fun p n => (k.ext x1).new E1.hp n h1 (R.newTup E1.hp n rs)⟩
theorem de_lst {t : DTA} (h : DA X O es t) : DE X O (.List es pos) (dLst t) := imE (pe_lst h) fun σ H Q ⟨ρ, G, Qd, E, h, k⟩ =>
  upA1 E h fun vs H1 ds G1 rs E1 x1 ⟨hz, h1⟩ => ⟨by rw [← rs.length]; exact hz, fun p n => (k.ext x1).new E1.hp n h1 (R.newLst E1.hp n rs)⟩
theorem de_lstM {t : DTA} (h : DA X O es t) : DE X O (.List es pos) (dLstM t) := imE (pe_lst h) fun σ H Q ⟨ρ, G, Qd, E, h, k⟩ =>
  upA1 E h fun vs H1 ds G1 rs E1 x1 ⟨hz, h1⟩ => ⟨by rw [← rs.length]; exact hz, fun p n => k _ _ _ _ (.ref p) (EmbH.newG (u := .lst ds) E1.hp n ⟨vs, rfl, rs⟩) (x1.trans (Ext.newG n)) (h1 p (E1.hp.free n))⟩
end
/-! ### statements -/
section
variable {X : Cx} {st : Stmt} {sts : List Stmt} {e : Expr} {pos : Pos} {te : DTE} {t u : DTS} {tc : DTT} {g : DTG}
def dNext : DTS := fun D ρ G => D.nx ρ G
def dSeq (t u : DTS) : DTS := fun D ρ G => t { D with nx := u D } ρ G
theorem dss_nil : DSs X O [] dNext := imSs pss_nil fun D' σ H ⟨ρ, G, DD, E, h, k⟩ => k.nx _ _ _ _ E .refl h
theorem dss_cons (h1 : DS X O st t) (h2 : DSs X O sts u) : DSs X O (st :: sts) (dSeq t u) := imSs (pss_cons h1 h2) fun D' σ H ⟨ρ, G, DD, E, h, k⟩ =>
  ⟨ρ, G, _, E, h, ⟨fun σ' H' ρ' G' E' x q => ⟨ρ', G', DD, E', q, k.ext x⟩, k.rt, k.bk, k.ct⟩⟩
theorem dss_one (h1 : DS X O st t) : DSs X O [st] t := pss_one h1
def dBreak : DTS := fun D ρ G => D.bk ρ G
def dCont : DTS := fun D ρ G => D.ct ρ G
theorem ds_pass : DS X O (.Pass pos) dNext := imS ps_pass fun D' σ H ⟨ρ, G, DD, E, h, k⟩ => k.nx _ _ _ _ E .refl h
theorem ds_break : DS X O (.Break pos) dBreak := imS ps_break fun D' σ H ⟨ρ, G, DD, E, h, k⟩ => k.bk _ _ _ _ E .refl h
theorem ds_continue : DS X O (.Continue pos) dCont := imS ps_continue fun D' σ H ⟨ρ, G, DD, E, h, k⟩ => k.ct _ _ _ _ E .refl h
def dDrop (te : DTE) : DTS := fun D ρ G => te ρ G fun _ G1 => D.nx ρ G1
theorem ds_expr (he : DE X O e te) (hs : swapsWith e none pos.line X.env = pure false := by rfl) : DS X O (.Expr e pos) (dDrop te) := imS (ps_expr he hs) fun D' σ H ⟨ρ, G, DD, E, h, k⟩ =>
  up1 E h fun v H1 d G1 r E1 x1 h1 => k.nx _ _ _ _ E1 x1 h1
def dRet (te : DTE) : DTS := fun D ρ G => te ρ G D.rt
theorem ds_ret (he : DE X O e te) : DS X O (.Return (some e) pos) (dRet te) := imS (ps_ret he) fun D' σ H ⟨ρ, G, DD, E, h, k⟩ =>
  up1 E h fun v H1 d G1 r E1 x1 h1 => k.rt _ _ _ _ r E1.hp x1 h1
def dRetN : DTS := fun D _ G => D.rt .non G
theorem ds_retN : DS X O (.Return none pos) dRetN := imS ps_retN fun D' σ H ⟨ρ, G, DD, E, h, k⟩ => k.rt _ _ _ _ .non E.hp .refl h
def dIfS (c : DTT) (t u : DTS) : DTS := fun D ρ G => c ρ G fun b G1 => if b = true then t D ρ G1 else u D ρ G1
theorem ds_if {c : Expr} {a b : List Stmt} (hc : DT X O c tc) (ha : DSs X O a t) (hb : DSs X O b u) : DS X O (.If c a b pos) (dIfS tc t u) := imS (ps_if hc ha hb) fun D' σ H ⟨ρ, G, DD, E, h, k⟩ =>
  upT1 E h fun c H1 G1 E1 x1 h1 => by
    cases c with
    | true => exact ⟨ρ, G1, DD, E1, h1, k.ext x1⟩
    | false => exact ⟨ρ, G1, DD, E1, h1, k.ext x1⟩
def dNever : DTS := fun _ _ _ => False
theorem ds_never : DS X O st dNever := imS ps_never fun D' σ H ⟨ρ, G, DD, E, h, k⟩ => h
theorem dss_never : DSs X O sts dNever := imSs pss_never fun D' σ H ⟨ρ, G, DD, E, h, k⟩ => h
/-! ### targets -/
def gN (i : Nat) : DTG := fun d ρ G Q => Q (ρ.set i (some d)) G
theorem dg_of {i : Nat} {tg : Expr} (h : PG X tg (gName i)) : DG X O tg (gN i) := imG h fun v σ H Q ⟨d, ρ, G, Qd, r, E, h, k⟩ => k _ _ _ _ (E.put r) .refl h
theorem dg_name {i : Nat} {x : Str} (hN : X.N.Nodup) (hi : X.N[i]? = some x) (hx : Loc X.env.scope x) (hf : X.fn x = true ∨ X.env.scope.names.lookup x = some .local := by first | exact .inl rfl | exact .inr rfl | assumption) : DG X O (.Name x pos) (gN i) := dg_of (pg_name hN hi hx hf)
def gsNil : DTGs := fun ds ρ G Q => ds = [] ∧ Q ρ G
def gsCons (t : DTG) (u : DTGs) : DTGs := fun ds ρ G Q => ∃ d r, ds = d :: r ∧ t d ρ G fun ρ' G' => u r ρ' G' Q
theorem dgs_nil : DGs X O [] gsNil := imGs pgs_nil fun v σ H Q ⟨d, ρ, G, Qd, r, E, ⟨e, h⟩, k⟩ => by
  subst e
  cases r
  exact ⟨rfl, k _ _ _ _ E .refl h⟩
theorem dgs_cons {es : List Expr} {t : DTG} {u : DTGs} (h1 : DG X O e t) (h2 : DGs X O es u) (hs : (assignEach (e :: es) X.env).map (·.2) = assign e X.env :: (assignEach es X.env).map (·.2) := by rfl) : DGs X O (e :: es) (gsCons t u) :=
  imGs (pgs_cons h1 h2 hs) fun v σ H Q ⟨ds, ρ, G, Qd, r, E, ⟨d, rr, e, h⟩, k⟩ => by
    subst e
    cases r with
    | cons ra rb => exact ⟨_, _, rfl, _, ρ, G, _, ra, E, h, fun σ' H' ρ' G' E' x q => ⟨_, ρ', G', Qd, rb.ext x, E', q, fun σ2 H2 ρ2 G2 E2 x2 q2 => k _ _ _ _ E2 (x.trans x2) q2⟩⟩
/-- (a, b, ..) = a tuple of that length -/
def gTu (n : Nat) (t : DTGs) : DTG := fun d ρ G Q => ∃ xs, d = .tup xs ∧ xs.length = n ∧ t xs ρ G Q
theorem dg_tup {es : List Expr} {k : Nat} {t : DTGs} {n : Nat} (hc : X.calm = true) (h : DGs X O es t) (hn : (assignEach es X.env).length = n := by rfl) (hst : (assignEach es X.env).findIdx? (·.1) = none := by rfl) : DG X O (.Tuple es k pos) (gTu n t) :=
  imG (pg_tup hc h hn hst) fun v σ H Q ⟨d, ρ, G, Qd, r, E, ⟨xs, e, hl, h⟩, k⟩ => by
    subst e
    cases r with
    | tup hs rs => exact ⟨_, _, rfl, hs.sq, by rw [← rs.length]; exact hl, xs, ρ, G, Qd, rs, E, h, k⟩
def dAsg (te : DTE) (g : DTG) : DTS := fun D ρ G => te ρ G fun d G1 => g d ρ G1 D.nx
theorem up_asg {D' : Ends} {σ : St} {H : Hp} (h : upS X.K O (dAsg te g) D' σ H) : tAsg (upE X.K O te) (upG X.K O g) D' σ H := by
  obtain ⟨ρ, G, DD, E, h, k⟩ := h
  exact up1 E h fun v H1 d G1 r E1 x1 h1 => ⟨d, ρ, G1, _, r, E1, h1, fun σ' H' ρ' G' E' x q => k.nx _ _ _ _ E' (x1.trans x) q⟩
theorem ds_asg {tg : Expr} (he : DE X O e te) (hg : DG X O tg g) (hs : swapsWithSole [tg] e pos.line X.env = pure false := by rfl) (hw : swappedStores [tg] e X.env = pure none := by rfl)
    (h1 : (assignEach [tg] X.env).map (·.2) = [assign tg X.env] := by rfl) : DS X O (.Assign [tg] e pos) (dAsg te g) := imS (ps_asg he hg hs hw h1) fun _ _ _ => up_asg
theorem ds_set {i : Nat} {x : Str} {pos' : Pos} (hN : X.N.Nodup) (hi : X.N[i]? = some x) (hx : Loc X.env.scope x) (he : DE X O e te) (hs : swapsWith e (some (.Name x pos')) pos.line X.env = pure false := by rfl) (hf : X.fn x = true ∨ X.env.scope.names.lookup x = some .local := by first | exact .inl rfl | exact .inr rfl | assumption) :
    DS X O (.Assign [.Name x pos'] e pos) (dAsg te (gN i)) := imS (ps_set hN hi hx he hs hf) fun D' σ H ⟨ρ, G, DD, E, h, k⟩ =>
  up1 E h fun v H1 d G1 r E1 x1 h1 => k.nx _ _ _ _ (E1.put r) x1 h1
/-- o[i] = v, by values -/
def upSet (K : PySem.W.Frag) (r : D → D → D → GH → (GH → Prop) → Prop) : TSet := fun o i v H Q => ∃ d1 d2 d3 G Qd, R K G H d1 o ∧ R K G H d2 i ∧ R K G H d3 v ∧ EmbH K G H ∧ r d1 d2 d3 (AS.g G) Qd ∧ ∀ H' G', EmbH K G' H' → Ext G H G' H' → Qd (AS.g G') → Q H'
def gSubD (to ti : DTE) (r : D → D → D → GH → (GH → Prop) → Prop) : DTG := fun d ρ G Q => to ρ G fun o G1 => ti ρ G1 fun i G2 => r o i d G2 fun G3 => Q ρ G3
theorem dg_sub {o i : Expr} {to ti : DTE} {r : D → D → D → GH → (GH → Prop) → Prop} (ho : DE X O o to) (hi : DE X O i ti) (hs : PSet X (upSet X.K r))
    (ha : ∀ v, assign (.Subscript o i pos) X.env v = (do
      let ov ← holding [v] (eval o X.env)
      let iv ← holding [v, ov] (eval i X.env)
      standAt pos
      holding [v, ov, iv] (setItem ov iv v)
      release [v, ov, iv] []) := by intro _; rfl) : DG X O (.Subscript o i pos) (gSubD to ti r) := imG (pg_sub ho hi hs ha) fun v σ H Q ⟨d, ρ, G, Qd, rv, E, h, k⟩ =>
  up1 E h fun vo H1 o G1 ro E1 x1 h1 => up1 E1 h1 fun vi H2 i G2 ri E2 x2 h2 => ⟨o, i, d, G2, _, ro.ext x2, ri, rv.ext (x1.trans x2), E2.hp, h2, fun H' G' hp x q => k _ _ _ _ (E2.ext x hp) ((x1.trans x2).trans x) q⟩
/-- a, b = e, f: plain local names -/
def dPar (i j : Nat) (ta : DTA) : DTS := fun D ρ G => ta ρ G fun ds G1 => ∃ v w, ds = [v, w] ∧ D.nx ((ρ.set i (some v)).set j (some w)) G1
theorem ds_par {i j : Nat} {x y : Str} {a b : Expr} {ta : DTA} {px py pt : Pos} {kt k2 pt2} (hc : X.calm = true) (hN : X.N.Nodup) (hi : X.N[i]? = some x) (hj : X.N[j]? = some y) (hij : i ≠ j)
    (hx : X.env.scope.names.lookup x = some .local) (hy : X.env.scope.names.lookup y = some .local) (ha : DA X O [a, b] ta)
    (hw : swappedStores [.Tuple [.Name x px, .Name y py] kt pt] (.Tuple [a, b] k2 pt2) X.env = pure (some [x, y]) := by rfl)
    (hs : swapsWithSole [.Tuple [.Name x px, .Name y py] kt pt] (.Tuple [a, b] k2 pt2) pos.line X.env = pure false := by rfl) :
    DS X O (.Assign [.Tuple [.Name x px, .Name y py] kt pt] (.Tuple [a, b] k2 pt2) pos) (dPar i j ta) := imS (ps_par hc hN hi hj hij hx hy ha hw hs) fun D' σ H ⟨ρ, G, DD, E, h, k⟩ =>
  upA1 E h fun vs H1 ds G1 rs E1 x1 ⟨v, w, e, h1⟩ => by
    subst e
    cases rs with
    | cons r1 r2 =>
      cases r2 with
      | cons r2 r3 =>
        cases r3
        exact ⟨_, _, rfl, k.nx _ _ _ _ ((E1.put r1).put r2) x1 h1⟩
/-- a name op= e -/
def dAug (i : Nat) (te : DTE) (r : DR2) : DTS := fun D ρ G => ∃ x, ρ[i]? = some (some x) ∧ te ρ G fun y G1 => r x y G1 fun z G2 => D.nx (ρ.set i (some z)) G2
theorem ds_aug {i : Nat} {x : Str} {op : Operator} {r : DR2} {pos' : Pos} (hN : X.N.Nodup) (hi : X.N[i]? = some x) (hx : Loc X.env.scope x) (he : DE X O e te) (ho : PIp X op (upO X.K r)) (hf : X.fn x = true ∨ X.env.scope.names.lookup x = some .local := by first | exact .inl rfl | exact .inr rfl | assumption) :
    DS X O (.AugAssign (.Name x pos') op e pos) (dAug i te r) := imS (ps_aug hN hi hx he ho hf) fun D' σ H ⟨ρ, G, DD, E, ⟨d, hd, h⟩, k⟩ => by
  obtain ⟨v, e1, rv⟩ := E.loc _ _ hd
  exact ⟨v, e1, up1 E h fun y H1 dy G1 ry E1 x1 h1 => ⟨d, dy, G1, _, rv.ext x1, ry, E1.hp, h1, fun z H2 dz G2 rz hp x q => k.nx _ _ _ _ ((E1.ext x hp).put rz) (x1.trans x) q⟩⟩
/-! ### while -/
/-- at most n turns more -/
def whileGo (c : DTT) (tb : DTS) (D : DEnds) : Nat → DSt → GH → Prop
  | 0, _, _ => False
  | n + 1, ρ, G => c ρ G fun b G1 => if b = true then tb { D with nx := whileGo c tb D n, ct := whileGo c tb D n, bk := D.nx } ρ G1 else D.nx ρ G1
def dWhile (c : DTT) (tb : DTS) : DTS := fun D ρ G => ∃ n, whileGo c tb D n ρ G
theorem ds_while {c : Expr} {body : List Stmt} (hp : PassesOwn (model X.prog X.w) X.A X.env X.xe) (hc : DT X O c tc) (hb : DSs X O body t) : DS X O (.While c body [] pos) (dWhile tc t) := imS (ps_while hp hc hb) fun D' σ H ⟨ρ, G, DD, E, ⟨n, h⟩, k⟩ => by
  refine ⟨fun m σ1 H1 => ∃ ρ1 G1, Emb X.K O ρ1 G1 σ1 H1 ∧ Ext G H G1 H1 ∧ whileGo tc t DD m ρ1 (AS.g G1), ⟨n, ρ, G, E, .refl, h⟩, fun m σ1 H1 ⟨ρ1, G1, E1, x1, h1⟩ => ?_⟩
  cases m with
  | zero => exact h1.elim
  | succ m =>
    refine upT1 E1 h1 fun b H2 G2 E2 x2 h2 => ?_
    cases b with
    | true =>
      refine ⟨fun σ' H' => ∃ ρ' G', Emb X.K O ρ' G' σ' H' ∧ Ext G H G' H' ∧ whileGo tc t DD m ρ' (AS.g G'), fun σ' H' h => ⟨m, Nat.lt_succ_self m, h⟩, ρ1, G2, _, E2, h2, ?_⟩
      have kx := k.ext (x1.trans x2)
      exact ⟨fun σ' H' ρ' G' E' x q => ⟨ρ', G', E', (x1.trans x2).trans x, q⟩, kx.rt, kx.nx, fun σ' H' ρ' G' E' x q => ⟨ρ', G', E', (x1.trans x2).trans x, q⟩⟩
    | false => exact k.nx _ _ _ _ E2 (x1.trans x2) h2
end
end DL
set_option Elab.async false
set_option linter.all false
set_option maxRecDepth 100000
/-! The D-layer: what loops and comprehensions walk; for; list comprehensions. -/
namespace DL
open PySem PySem.Spec PyProof.Rows L2
variable {O : AS × Hp}
def seqD : D → GH → Option (List D)
  | .lst xs, _ => some xs
  | .tup xs, _ => some xs
  | .scr xs, _ => some xs
  | .str s, _ => some (s.map fun c => .str [c])
  | .ref a, G => match G a with | some (.lst xs) => some xs | _ => none
  | _, _ => none
section
variable {K : PySem.W.Frag} {G G1 : AS} {H H1 : Hp} {d : D} {v : V} {xs : List D}
inductive SeqV (K : PySem.W.Frag) (G : AS) (H : Hp) : V → List D → Prop
  | lst {a : Addr} {vs : List V} {xs : List D} (h : SqL K H a vs) (r : Rs K G H xs vs) : SeqV K G H (.ref a) xs
  | tup {a : Addr} {vs : List V} {xs : List D} (h : SqT K H a vs) (r : Rs K G H xs vs) : SeqV K G H (.ref a) xs
  | str (s : List Nat) : SeqV K G H (sv s) (s.map fun c => .str [c])
theorem seq_of (r : R K G H d v) (E : EmbH K G H) (h : seqD d G.g = some xs) : SeqV K G H v xs := by
  cases r with
  | tup q rs => cases h; exact .tup q.sq rs
  | lst q rs => cases h; exact .lst q.sq rs
  | scr u q rs => cases h; exact .lst (.inl q) rs
  | str s => cases h; exact .str s
  | ref a =>
    unfold seqD at h
    dsimp only at h
    cases e : G.g a with
    | none => rw [e] at h; cases h
    | some o =>
      rw [e] at h
      cases o with
      | lst ys =>
        cases h
        obtain ⟨ho, e2, vs, e3, rs⟩ := E.tr a _ e
        subst e3
        exact .lst (.of e2) rs
      | _ => cases h
  | _ => cases h
end
/-- any list, tuple, text -/
def iAny (K : PySem.W.Frag) (tl : TE) : TI := fun σ H R => tl σ H fun x H1 => (∃ a, x = .ref a ∧ (∃ xs, SqL K H1 a xs) ∧ R (Itl K a) H1) ∨ (∃ a, x = .ref a ∧ (∃ xs, SqT K H1 a xs) ∧ R (Itt K a) H1) ∨ (∃ x', x = .str x' ∧ R (Its x') H1)
theorem pi_any {X : Cx} {tg l : Expr} {tl : TE} (hl : PE X l tl) : PI X tg l (iAny X.K tl) := by
  refine ⟨fun pins s σ H R I h => ?_⟩
  refine thn (hl.run pins s σ H _ I h) fun v s1 ⟨x, H1, I1, r1, q1⟩ => ?_
  rcases q1 with ⟨a, e, ⟨xs, hq⟩, q⟩ | ⟨a, e, ⟨xs, hq⟩, q⟩ | ⟨x', e, q⟩
  · subst e
    cases r1
    obtain ⟨its, rv, p, hz⟩ := I1.list hq
    refine wpAny_pyIter_list p.isList ?_
    refine ⟨s1.heap.objs.size, [s1.heap.objs.size], _, _, H1, rfl, I1.kept (t' := s1.toks) fun b o e => Heap.get?_push_of_some _ e, turn_list a _, ⟨_, Heap.get?_push_size _ rfl, rfl, rfl⟩, fun b hb => ?_, q⟩
    have e : b = s1.heap.objs.size := by simpa using hb
    subst e
    exact I1.fpOk (Nat.le_refl _) (I1.hok.fresh (Nat.le_refl _))
  · subst e
    cases r1
    obtain ⟨its, rv, p, hz⟩ := I1.tuple hq
    refine wpAny_pyIter_tuple (show s1.heap.IsTuple a its.toArray from p) ?_
    refine ⟨s1.heap.objs.size, [s1.heap.objs.size], _, _, H1, rfl, I1.kept (t' := s1.toks) fun b o e => Heap.get?_push_of_some _ e, turn_tuple a _, ⟨_, Heap.get?_push_size _ rfl, rfl, rfl⟩, fun b hb => ?_, q⟩
    have e : b = s1.heap.objs.size := by simpa using hb
    subst e
    exact I1.fpOk (Nat.le_refl _) (I1.hok.fresh (Nat.le_refl _))
  · subst e
    obtain ⟨t, rfl⟩ := r1
    cases ha : x'.cps.all (· < 128)
    · exact wpAny_pyIter_wide ha (pi_one (tk := s1.toks) I1 _ (turn_str _ x' t "str_iterator" (.inr rfl)) ⟨_, Heap.get?_push_size _ rfl, rfl, rfl⟩ q)
    · exact wpAny_pyIter_ascii ha (pi_one (tk := s1.toks) I1 _ (turn_str _ x' t "str_ascii_iterator" (.inl rfl)) ⟨_, Heap.get?_push_size _ rfl, rfl, rfl⟩ q)
/-! ### the D side -/
abbrev DTI := DSt → GH → (List D → (GH → Prop) → GH → Prop) → Prop
/-- J walks the items as long as ok holds of what is tracked -/
def WalkD (K : PySem.W.Frag) (J : It) (items : List D) (ok : GH → Prop) (G0 : AS) (H0 : Hp) : Prop :=
  ∃ (Gd : Hp → Prop) (Y : Nat → Hp → V → Hp → Prop), Walk J items.length Gd Y ∧ (∀ G H, EmbH K G H → Ext G0 H0 G H → ok (AS.g G) → Gd H) ∧
    ∀ i G H x H', EmbH K G H → Ext G0 H0 G H → ok (AS.g G) → Y i H x H' → ∃ d, items[i]? = some d ∧ R K G H' d x ∧ EmbH K G H' ∧ Ext G H G H'
def upI (K : PySem.W.Frag) (O : AS × Hp) (wi : DTI) : TI := fun σ H Rk => ∃ ρ G Q, Emb K O ρ G σ H ∧ wi ρ (AS.g G) Q ∧ ∀ J H' items ok G', EmbH K G' H' → Ext G H G' H' → WalkD K J items ok G' H' → Q items ok (AS.g G') → Rk J H'
abbrev DI (X : Cx) (O : AS × Hp) (tg e : Expr) (wi : DTI) : Prop := PI X tg e (upI X.K O wi)
theorem imI {X : Cx} {tg e : Expr} {t t' : TI} (h : PI X tg e t) (i : ∀ σ H Q, t' σ H Q → t σ H Q) : PI X tg e t' := ⟨fun pins s σ H Q I q => h.run pins s σ H Q I (i σ H Q q)⟩
def dIter (te : DTE) : DTI := fun ρ G Q => te ρ G fun d G1 => ∃ xs, seqD d G1 = some xs ∧ Q xs (fun G' => seqD d G' = some xs) G1
theorem walkD_seq {K : PySem.W.Frag} {G : AS} {H : Hp} {d : D} {v : V} {xs : List D} (r : R K G H d v) (E : EmbH K G H) (h : seqD d G.g = some xs) :
    (∃ a, v = .ref a ∧ (∃ vs, SqL K H a vs) ∧ WalkD K (Itl K a) xs (fun G' => seqD d G' = some xs) G H) ∨ (∃ a, v = .ref a ∧ (∃ vs, SqT K H a vs) ∧ WalkD K (Itt K a) xs (fun G' => seqD d G' = some xs) G H) ∨
      (∃ z, v = .str z ∧ WalkD K (Its z) xs (fun G' => seqD d G' = some xs) G H) := by
  cases r with
  | tup q rs =>
    cases h
    refine .inr (.inl ⟨_, rfl, ⟨_, q.sq⟩, _, _, by rw [rs.length]; exact walk_tup, fun G1 H1 _ x _ => (q.ext x).sq, fun i G1 H1 x H' E1 x1 _ y => ?_⟩)
    obtain ⟨e, y⟩ := y
    subst e
    obtain ⟨d, h1, h2⟩ := (rs.ext x1).getV y
    exact ⟨d, h1, h2, E1, .refl⟩
  | lst q rs =>
    cases h
    refine .inl ⟨_, rfl, ⟨_, q.sq⟩, _, _, by rw [rs.length]; exact walk_list, fun G1 H1 _ x _ => (q.ext x).sq, fun i G1 H1 x H' E1 x1 _ y => ?_⟩
    obtain ⟨e, y⟩ := y
    subst e
    obtain ⟨d, h1, h2⟩ := (rs.ext x1).getV y
    exact ⟨d, h1, h2, E1, .refl⟩
  | scr u q rs =>
    cases h
    refine .inl ⟨_, rfl, ⟨_, .inl q⟩, _, _, by rw [rs.length]; exact walk_list, fun G1 H1 _ x _ => Or.inl (Rd_ext x u q).2, fun i G1 H1 x H' E1 x1 _ y => ?_⟩
    obtain ⟨e, y⟩ := y
    subst e
    obtain ⟨d, h1, h2⟩ := (rs.ext x1).getV y
    exact ⟨d, h1, h2, E1, .refl⟩
  | str s =>
    cases h
    refine .inr (.inr ⟨_, rfl, _, _, by simpa using walk_str (z := ⟨s.toArray⟩), fun _ _ _ _ _ => trivial, fun i G1 H1 x H' E1 x1 _ y => ?_⟩)
    obtain ⟨e, c, hc, ex⟩ := y
    subst e ex
    refine ⟨.str [c], ?_, .str [c], E1, .refl⟩
    have : s[i]? = some c := by simpa using hc
    simp [this]
  | ref a =>
    have key : ∀ G1 H1, EmbH K G1 H1 → seqD (.ref a) (AS.g G1) = some xs → ∃ vs, SqL K H1 a vs ∧ Rs K G1 H1 xs vs := fun G1 H1 E1 h1 => by
      unfold seqD at h1
      dsimp only at h1
      cases e : (AS.g G1) a with
      | none => rw [e] at h1; cases h1
      | some o =>
        rw [e] at h1
        cases o with
        | lst ys =>
          cases h1
          obtain ⟨ho, e2, vs, e3, rs⟩ := E1.tr a _ e
          subst e3
          exact ⟨vs, .of e2, rs⟩
        | _ => cases h1
    obtain ⟨vs, q, rs⟩ := key G H E h
    refine .inl ⟨a, rfl, ⟨vs, q⟩, fun H1 => ∃ vs, SqL K H1 a vs ∧ vs.length = xs.length, fun i H1 x H' => H' = H1 ∧ ∀ vs, SqL K H1 a vs → vs[i]? = some x, ⟨fun i H1 hi ⟨vs, q, l⟩ => ⟨vs, vs[i]'(by omega), q, by simp [show i < vs.length by omega]⟩, fun H1 ⟨vs, q, l⟩ => ⟨vs, q, by omega⟩, fun i H1 x H' _ _ y => y⟩, fun G1 H1 E1 _ h1 => ?_, fun i G1 H1 x H' E1 x1 h1 y => ?_⟩
    · obtain ⟨vs, q, rs⟩ := key G1 H1 E1 h1
      exact ⟨vs, q, rs.length.symm⟩
    · obtain ⟨vs, q, rs⟩ := key G1 H1 E1 h1
      obtain ⟨e, y⟩ := y
      subst e
      obtain ⟨d, h1, h2⟩ := rs.getV (y vs q)
      exact ⟨d, h1, h2, E1, .refl⟩
  | _ => cases h
theorem di_any {X : Cx} {tg l : Expr} {te : DTE} (hl : DE X O l te) : DI X O tg l (dIter te) := imI (pi_any hl) fun σ H Q ⟨ρ, G, Qd, E, h, k⟩ =>
  up1 E h fun v H1 d G1 r E1 x1 ⟨xs, hx, q⟩ => by
    rcases walkD_seq r E1.hp hx with ⟨a, e, hq, w⟩ | ⟨a, e, hq, w⟩ | ⟨z, e, w⟩
    · exact .inl ⟨a, e, hq, k _ _ _ _ _ E1.hp x1 w q⟩
    · exact .inr (.inl ⟨a, e, hq, k _ _ _ _ _ E1.hp x1 w q⟩)
    · exact .inr (.inr ⟨z, e, k _ _ _ _ _ E1.hp x1 w q⟩)
/-- range(n), range(m, n) -/
def rngD (lo : Int) (n : Nat) : List D := (List.range n).map fun (i : Nat) => D.int (lo + (i : Nat))
theorem walkD_rng {K : PySem.W.Frag} {G : AS} {H : Hp} {lo : Int} {n : Nat} : WalkD K (Itr lo n) (rngD lo n) (fun _ => True) G H := by
  refine ⟨_, fun i H x H' => i < n ∧ H' = H ∧ x = .int (lo + i), ?_, fun _ _ _ _ _ => trivial, fun i G1 H1 x H' E1 x1 _ y => ?_⟩
  · have e : (rngD lo n).length = n := by simp [rngD]
    rw [e]
    exact ⟨fun _ _ hi _ => hi, fun _ _ => Nat.le_refl _, fun i H x H' hi _ y => ⟨hi, y.1, y.2⟩⟩
  · obtain ⟨hi, e, ex⟩ := y
    subst e ex
    exact ⟨.int (lo + i), by simp [rngD, hi], .int _, E1, .refl⟩
def dRng1 (ta : DTA) : DTI := fun ρ G Q => ta ρ G fun ds G1 => ∃ j : Int, ds = [.int j] ∧ -(2 ^ 62) ≤ j ∧ j < 2 ^ 62 ∧ Q (rngD 0 j.toNat) (fun _ => True) G1
def dRng2 (ta : DTA) : DTI := fun ρ G Q => ta ρ G fun ds G1 => ∃ i j : Int, ds = [.int i, .int j] ∧ (-(2 ^ 62) ≤ i ∧ i < 2 ^ 62 ∧ -(2 ^ 62) ≤ j ∧ j < 2 ^ 62) ∧ Q (rngD i (j - i).toNat) (fun _ => True) G1
theorem di_range1 {X : Cx} {tg a : Expr} {ta : DTA} {p pos : Pos} (hg : Gl X "range") (hm : X.mg "range" = none) (ha : DA X O [a] ta) (hs : starEach [a] X.env = [(false, eval a X.env)] := by rfl) : DI X O tg (.Call (.Name "range" p) [a] [] pos) (dRng1 ta) :=
  imI (pi_range1 hg hm ha hs) fun σ H Q ⟨ρ, G, Qd, E, h, k⟩ => upA1 E h fun vs H1 ds G1 rs E1 x1 ⟨j, e, h1, h2, q⟩ => by
    subst e
    cases rs with
    | cons r t =>
      cases t
      cases r
      exact ⟨j, rfl, h1, h2, k _ _ _ _ _ E1.hp x1 walkD_rng q⟩
theorem di_range2 {X : Cx} {tg a b : Expr} {ta : DTA} {p pos : Pos} (hg : Gl X "range") (hm : X.mg "range" = none) (ha : DA X O [a, b] ta) (hs : starEach [a, b] X.env = [(false, eval a X.env), (false, eval b X.env)] := by rfl) (hs2 : starEach [b] X.env = [(false, eval b X.env)] := by rfl) :
    DI X O tg (.Call (.Name "range" p) [a, b] [] pos) (dRng2 ta) :=
  imI (pi_range2 hg hm ha hs hs2) fun σ H Q ⟨ρ, G, Qd, E, h, k⟩ => upA1 E h fun vs H1 ds G1 rs E1 x1 ⟨i, j, e, h1, q⟩ => by
    subst e
    cases rs with
    | cons r t =>
      cases t with
      | cons r2 t =>
        cases t
        cases r
        cases r2
        exact ⟨i, j, rfl, h1, k _ _ _ _ _ E1.hp x1 walkD_rng q⟩
/-- pairs -/
theorem yPair_D {K : PySem.W.Frag} {G : AS} {H : Hp} {f g : Nat → Option V} {i : Nat} {x : V} {H' : Hp} (E : EmbH K G H) (y : YPair f g i H x H') {a b : D} (ha : ∀ v, f i = some v → R K G H a v) (hb : ∀ v, g i = some v → R K G H b v) :
    R K G H' (.tup [a, b]) x ∧ EmbH K G H' ∧ Ext G H G H' := by
  obtain ⟨T, u, w, e1, n, e2, h1, h2⟩ := y
  subst e1 e2
  exact ⟨R.newTup E n (.cons (ha u h1) (.cons (hb w h2) .nil)), E.new n, Ext.new n⟩
def lstD : D → GH → Option (List D)
  | .lst xs, _ => some xs
  | .ref a, G => match G a with | some (.lst xs) => some xs | _ => none
  | _, _ => none
theorem lst_of {K : PySem.W.Frag} {G : AS} {H : Hp} {d : D} {v : V} {xs : List D} (r : R K G H d v) (E : EmbH K G H) (h : lstD d G.g = some xs) : ∃ a vs, v = .ref a ∧ H a = some (.lst vs) ∧ Rs K G H xs vs := by
  cases r with
  | lst q rs => cases h; exact ⟨_, _, rfl, q.2, rs⟩
  | ref a =>
    unfold lstD at h
    dsimp only at h
    cases e : G.g a with
    | none => rw [e] at h; cases h
    | some o =>
      rw [e] at h
      cases o with
      | lst ys =>
        cases h
        obtain ⟨ho, e2, vs, e3, rs⟩ := E.tr a _ e
        subst e3
        exact ⟨a, vs, rfl, e2, rs⟩
      | _ => cases h
  | _ => cases h
theorem lst_at {K : PySem.W.Frag} {G G1 : AS} {H H1 : Hp} {d : D} {a : Addr} {xs : List D} (r : R K G H d (.ref a)) (x : Ext G H G1 H1) (E : EmbH K G1 H1) (h : lstD d G1.g = some xs) : ∃ vs, SqL K H1 a vs ∧ Rs K G1 H1 xs vs := by
  obtain ⟨a', vs, e, q, rs⟩ := lst_of (r.ext x) E h
  cases e
  exact ⟨vs, .of q, rs⟩
def enumD (xs : List D) : List D := xs.zipIdx.map fun p => .tup [.int (p.2 : Nat), p.1]
def zipD (xs ys : List D) : List D := (xs.zip ys).map fun p => .tup [p.1, p.2]
def dEnum (ta : DTA) : DTI := fun ρ G Q => ta ρ G fun ds G1 => ∃ d xs, ds = [d] ∧ lstD d G1 = some xs ∧ Q (enumD xs) (fun G' => lstD d G' = some xs) G1
theorem di_enum {X : Cx} {e : Expr} {ta : DTA} {p pos tpos : Pos} {elts : List Expr} {kk : Nat} (hg : Gl X "enumerate") (hm : X.mg "enumerate" = none) (ha : DA X O [e] ta) (hs : starEach [e] X.env = [(false, eval e X.env)] := by rfl) :
    DI X O (.Tuple elts kk tpos) (.Call (.Name "enumerate" p) [e] [] pos) (dEnum ta) := imI (pi_enum hg hm ha hs) fun σ H Q ⟨ρ, G, Qd, E, h, k⟩ => upA1 E h fun vs H1 ds G1 rs E1 x1 ⟨d, xs, e, hx, q⟩ => by
  subst e
  cases rs with
  | cons r t =>
    cases t
    obtain ⟨a, vs, e, hq, rr⟩ := lst_of r E1.hp hx
    subst e
    refine ⟨a, vs, rfl, .of hq, k _ _ _ _ _ E1.hp x1 ⟨fun H2 => ∃ vs, SqL X.K H2 a vs ∧ vs.length = xs.length, fun i H2 v H' => ∃ T x, v = .ref T ∧ H2 T = none ∧ H' = upd H2 T (.tup [.int (i : Nat), x]) ∧ ∀ vs, SqL X.K H2 a vs → vs[i]? = some x, ?_, ?_, ?_⟩ q⟩
    · have e : (enumD xs).length = xs.length := by simp [enumD]
      rw [e]
      exact ⟨fun i H2 hi ⟨vs, q, l⟩ => ⟨vs, vs[i]'(by omega), q, by simp [show i < vs.length by omega]⟩, fun H2 ⟨vs, q, l⟩ => ⟨vs, q, by omega⟩, fun i H2 x H' _ _ y => y⟩
    · intro G2 H2 E2 x2 ok
      obtain ⟨ws, q, rs⟩ := lst_at r x2 E2 ok
      exact ⟨ws, q, rs.length.symm⟩
    · intro i G2 H2 v H' E2 x2 ok y
      obtain ⟨ws, q, rs⟩ := lst_at r x2 E2 ok
      obtain ⟨T, x, ev, n, eH, hx⟩ := y
      obtain ⟨d', hd, rd⟩ := rs.getV (hx ws q)
      subst ev eH
      exact ⟨.tup [.int (i : Nat), d'], by simp [enumD, hd], R.newTup E2 n (.cons (.int _) (.cons rd .nil)), E2.new n, Ext.new n⟩
def dZip (ta : DTA) : DTI := fun ρ G Q => ta ρ G fun ds G1 => ∃ d e xs ys, ds = [d, e] ∧ lstD d G1 = some xs ∧ lstD e G1 = some ys ∧ Q (zipD xs ys) (fun G' => lstD d G' = some xs ∧ lstD e G' = some ys) G1
theorem di_zip {X : Cx} {e e2 : Expr} {ta : DTA} {p pos tpos : Pos} {elts : List Expr} {kk : Nat} (hg : Gl X "zip") (hm : X.mg "zip" = none) (ha : DA X O [e, e2] ta)
    (hs : starEach [e, e2] X.env = (false, eval e X.env) :: starEach [e2] X.env := by rfl) (hpl : (backTo pos (starEach [e2] X.env)).any (·.1) = false := by rfl) :
    DI X O (.Tuple elts kk tpos) (.Call (.Name "zip" p) [e, e2] [] pos) (dZip ta) := imI (pi_zip hg hm ha hs hpl) fun σ H Q ⟨ρ, G, Qd, E, h, k⟩ => upA1 E h fun vs H1 ds G1 rs E1 x1 ⟨d, e, xs, ys, e0, hx, hy, q⟩ => by
  subst e0
  cases rs with
  | cons r t =>
    cases t with
    | cons r2 t =>
      cases t
      obtain ⟨a, vs, ea, hq, rr⟩ := lst_of r E1.hp hx
      obtain ⟨b, us, eb, hq2, rr2⟩ := lst_of r2 E1.hp hy
      subst ea eb
      refine ⟨a, b, vs, us, rfl, .of hq, .of hq2, k _ _ _ _ _ E1.hp x1 ⟨fun H2 => ∃ vs us, SqL X.K H2 a vs ∧ SqL X.K H2 b us ∧ vs.length = xs.length ∧ us.length = ys.length,
        fun i H2 v H' => ∃ T x y, v = .ref T ∧ H2 T = none ∧ H' = upd H2 T (.tup [x, y]) ∧ (∀ vs, SqL X.K H2 a vs → vs[i]? = some x) ∧ ∀ us, SqL X.K H2 b us → us[i]? = some y, ?_, ?_, ?_⟩ q⟩
      · have e : (zipD xs ys).length = min xs.length ys.length := by simp [zipD]
        rw [e]
        exact ⟨fun i H2 hi ⟨vs, us, q, q2, l, l2⟩ => ⟨vs, us, vs[i]'(by omega), us[i]'(by omega), q, q2, by simp [show i < vs.length by omega], by simp [show i < us.length by omega]⟩, fun H2 ⟨vs, us, q, q2, l, l2⟩ => ⟨vs, us, q, q2, by omega⟩, fun i H2 x H' _ _ y => y⟩
      · intro G2 H2 E2 x2 ⟨o1, o2⟩
        obtain ⟨ws, q, rs⟩ := lst_at r x2 E2 o1
        obtain ⟨zs, q2, rs2⟩ := lst_at r2 x2 E2 o2
        exact ⟨ws, zs, q, q2, rs.length.symm, rs2.length.symm⟩
      · intro i G2 H2 v H' E2 x2 ⟨o1, o2⟩ y
        obtain ⟨ws, q, rs⟩ := lst_at r x2 E2 o1
        obtain ⟨zs, q2, rs2⟩ := lst_at r2 x2 E2 o2
        obtain ⟨T, x, y, ev, n, eH, hx, hy⟩ := y
        obtain ⟨d', hd, rd⟩ := rs.getV (hx ws q)
        obtain ⟨e', he, re⟩ := rs2.getV (hy zs q2)
        subst ev eH
        exact ⟨.tup [d', e'], by simp [zipD, (List.getElem?_zip_eq_some (z := (d', e'))).mpr ⟨hd, he⟩], R.newTup E2 n (.cons rd (.cons re .nil)), E2.new n, Ext.new n⟩
/-! ### for -/
def forGo (g : DTG) (tb : DTS) (DD : DEnds) (ok : GH → Prop) : List D → DSt → GH → Prop
  | [], ρ, G => ok G ∧ DD.nx ρ G
  | x :: xs, ρ, G => ok G ∧ g x ρ G fun ρ1 G1 => tb { DD with nx := forGo g tb DD ok xs, ct := forGo g tb DD ok xs, bk := DD.nx } ρ1 G1
def dFor (wi : DTI) (g : DTG) (tb : DTS) : DTS := fun DD ρ G => wi ρ G fun items ok G1 => forGo g tb DD ok items ρ G1
theorem forGo_ok {g : DTG} {tb : DTS} {DD : DEnds} {ok : GH → Prop} {xs : List D} {ρ : DSt} {G : GH} (h : forGo g tb DD ok xs ρ G) : ok G := by
  cases xs with
  | nil => exact h.1
  | cons x xs => exact h.1
theorem ds_for {X : Cx} {tg iter : Expr} {body : List Stmt} {wi : DTI} {g : DTG} {tb : DTS} {pos : Pos} (hp : PassesOwn (model X.prog X.w) X.A X.env X.xe) (hc : X.calm = true) (hi : DI X O tg iter wi) (hg : DG X O tg g) (hb : DSs X O body tb)
    (hs : ∀ x, foldedSetIterable iter X.env x = pure x := by intro _; rfl) : DS X O (.For tg iter body [] pos) (dFor wi g tb) := imS (ps_for hp hc hi hg hb hs) fun D' σ H ⟨ρ, G, DD, E, h, k⟩ => by
  refine ⟨ρ, G, _, E, h, fun J H1 items ok G1 hp1 x1 w q => ?_⟩
  obtain ⟨Gd, Y, wk, w1, w2⟩ := w
  refine for_it wk (fun i σ' H' => ∃ ρ' G', Emb X.K O ρ' G' σ' H' ∧ Ext G1 H1 G' H' ∧ forGo g tb DD ok (items.drop i) ρ' (AS.g G')) ⟨ρ, G1, E.ext x1 hp1, .refl, by simpa using q⟩ ?_ ?_ ?_
  · rintro i σ' H' _ ⟨ρ', G', E', x', q'⟩
    exact w1 G' H' E'.hp x' (forGo_ok q')
  · rintro i x σ' H2 H3 hi ⟨ρ', G', E', x', q'⟩ y
    obtain ⟨d, hd, rd, e3, x3⟩ := w2 i G' H2 x H3 E'.hp x' (forGo_ok q') y
    obtain ⟨hlt, ed⟩ := List.getElem?_eq_some_iff.mp hd
    rw [List.drop_eq_getElem_cons hlt, ed] at q'
    obtain ⟨_, q'⟩ := q'
    refine ⟨d, ρ', G', _, rd, E'.ext x3 e3, q', fun σ4 H4 ρ4 G4 E4 x4 q4 => ⟨ρ4, G4, _, E4, q4, ?_⟩⟩
    have xx : Ext G1 H1 G4 H4 := (x'.trans x3).trans x4
    have kk := k.ext (x1.trans xx)
    exact ⟨fun σ5 H5 ρ5 G5 E5 x5 q5 => ⟨ρ5, G5, E5, xx.trans x5, q5⟩, kk.rt, kk.nx, fun σ5 H5 ρ5 G5 E5 x5 q5 => ⟨ρ5, G5, E5, xx.trans x5, q5⟩⟩
  · rintro σ' H' ⟨ρ', G', E', x', q'⟩
    rw [List.drop_length] at q'
    exact k.nx _ _ _ _ E' (x1.trans x') q'.2
/-! ### list comprehensions -/
def wipeD (ρ : DSt) : List Nat → DSt
  | [] => ρ
  | v :: vs => (wipeD ρ vs).set v none
theorem Emb.wipe {K : PySem.W.Frag} {ρ : DSt} {G : AS} {σ : St} {H : Hp} (E : Emb K O ρ G σ H) : ∀ vs, Emb K O (wipeD ρ vs) G (L2.wipe σ vs) H
  | [] => E
  | v :: vs => by
    have E' := Emb.wipe E vs
    refine ⟨by simp [wipeD, L2.wipe, E'.len], fun i d q => ?_, E.hp, E'.org⟩
    unfold wipeD at q
    unfold L2.wipe
    by_cases hi : v = i
    · subst hi
      by_cases hv : v < (wipeD ρ vs).length
      · rw [List.getElem?_set_self hv] at q; cases q
      · rw [List.getElem?_eq_none (by simpa using hv)] at q; cases q
    · rw [List.getElem?_set_ne hi] at q ⊢
      exact E'.loc i d q
/-- D's tests of a clause -/
abbrev DTs (X : Cx) (O : AS × Hp) (ifs : List Expr) (t : DTT) : Prop := PTs X ifs (upT X.K O t)
theorem imTs {X : Cx} {es : List Expr} {t t' : TT} (h : PTs X es t) (i : ∀ σ H Q, t' σ H Q → t σ H Q) : PTs X es t' := ⟨fun pins s σ H Q I q => h.run pins s σ H Q I (i σ H Q q)⟩
def dYes : DTT := fun _ G Q => Q true G
theorem dts_nil {X : Cx} : DTs X O [] dYes := imTs pts_nil fun σ H Q ⟨ρ, G, Qd, E, h, k⟩ => k true H G E.hp .refl h
theorem dts_one {X : Cx} {c : Expr} {t : DTT} (h : DT X O c t) : DTs X O [c] t := pts_one h
/-- the items, one behind another; ρ: the slots with the block's own names forgotten -/
def lcGo (g : DTG) (tt : DTT) (te : DTE) (ρ : DSt) (ok : GH → Prop) (Q : DK) : List D → List D → GH → Prop
  | [], acc, G => ok G ∧ Q (.lst acc) G
  | x :: xs, acc, G => ok G ∧ g x ρ G fun ρ1 G1 => tt ρ1 G1 fun b G2 => if b = true then te ρ1 G2 fun d G3 => acc.length < sizeLine ∧ lcGo g tt te ρ ok Q xs (acc ++ [d]) G3 else lcGo g tt te ρ ok Q xs acc G2
def dLc (wi : DTI) (g : DTG) (tt : DTT) (te : DTE) (vs : List Nat) : DTE := fun ρ G Q => wi ρ G fun items ok G1 => lcGo g tt te (wipeD ρ vs) ok Q items [] G1
theorem lcGo_ok {g : DTG} {tt : DTT} {te : DTE} {ρ : DSt} {ok : GH → Prop} {Q : DK} {xs acc : List D} {G : GH} (h : lcGo g tt te ρ ok Q xs acc G) : ok G := by
  cases xs with
  | nil => exact h.1
  | cons x xs => exact h.1
theorem wipe_len0 (σ : St) (vs : List Nat) : (L2.wipe σ vs).length = σ.length := L2.wipe_length σ vs
theorem wipe_set {v : Option V} {i : Nat} : ∀ {vs : List Nat} {σ : St}, i ∈ vs → L2.wipe (σ.set i v) vs = L2.wipe σ vs
  | [], _, h => by cases h
  | w :: vs, σ, h => by
    unfold L2.wipe
    by_cases e : i ∈ vs
    · rw [wipe_set e]
    · have ei : i = w := (List.mem_cons.mp h).elim id fun z => absurd z e
      subst ei
      have key : ∀ (us : List Nat) (σ : St), i ∉ us → L2.wipe (σ.set i v) us = (L2.wipe σ us).set i v := by
        intro us
        induction us with
        | nil => intro _ _; rfl
        | cons u us ih =>
          intro σ hn
          unfold L2.wipe
          rw [ih σ fun z => hn (List.mem_cons_of_mem _ z), List.set_comm]
          exact fun z => hn (z ▸ List.mem_cons_self)
      rw [key vs σ e, List.set_set]
theorem wipe_wipe (σ : St) : ∀ vs : List Nat, L2.wipe (L2.wipe σ vs) vs = L2.wipe σ vs := by
  have key : ∀ (vs us : List Nat), (∀ v ∈ vs, v ∈ us) → L2.wipe (L2.wipe σ vs) us = L2.wipe σ us := by
    intro vs
    induction vs with
    | nil => intro _ _; rfl
    | cons v vs ih =>
      intro us h
      show L2.wipe ((L2.wipe σ vs).set v none) us = _
      rw [wipe_set (h v List.mem_cons_self)]
      exact ih us fun w hw => h w (List.mem_cons_of_mem _ hw)
  exact fun vs => key vs vs fun _ h => h
/-- a target of the block's own names: its reading at V and at D -/
def OwnG (K : PySem.W.Frag) (O : AS × Hp) (gv : TG) (gd : DTG) (vs : List Nat) : Prop :=
  ∀ (v : V) (σ : St) (H : Hp) (Q : St → Hp → Prop) (d : D) (ρ : DSt) (G : AS) (Qd : DSt → GH → Prop), R K G H d v → Emb K O ρ G σ H → gd d ρ G.g Qd →
    (∀ σ2 ρ2, Emb K O ρ2 G σ2 H → L2.wipe σ2 vs = L2.wipe σ vs → Qd ρ2 G.g → Q σ2 H) → gv v σ H Q
def OwnGs (K : PySem.W.Frag) (O : AS × Hp) (gv : TGs) (gd : DTGs) (vs : List Nat) : Prop :=
  ∀ (v : List V) (σ : St) (H : Hp) (Q : St → Hp → Prop) (d : List D) (ρ : DSt) (G : AS) (Qd : DSt → GH → Prop), Rs K G H d v → Emb K O ρ G σ H → gd d ρ G.g Qd →
    (∀ σ2 ρ2, Emb K O ρ2 G σ2 H → L2.wipe σ2 vs = L2.wipe σ vs → Qd ρ2 G.g → Q σ2 H) → gv v σ H Q
theorem ownN {K : PySem.W.Frag} {i : Nat} {vs : List Nat} (h : i ∈ vs) : OwnG K O (gName i) (gN i) vs := fun v σ H Q d ρ G Qd r E q k => k _ _ (E.put r) (wipe_set h) q
theorem ownsNil {K : PySem.W.Frag} {vs : List Nat} : OwnGs K O gNil gsNil vs := fun v σ H Q d ρ G Qd r E ⟨e, q⟩ k => by
  subst e
  cases r
  exact ⟨rfl, k _ _ E rfl q⟩
theorem ownsCons {K : PySem.W.Frag} {t : TG} {td : DTG} {u : TGs} {ud : DTGs} {vs : List Nat} (h1 : OwnG K O t td vs) (h2 : OwnGs K O u ud vs) : OwnGs K O (gCons t u) (gsCons td ud) vs := fun v σ H Q d ρ G Qd r E ⟨d1, dr, e, q⟩ k => by
  subst e
  cases r with
  | cons r1 r2 => exact ⟨_, _, rfl, h1 _ σ H _ _ ρ G _ r1 E q fun σ2 ρ2 E2 w2 q2 => h2 _ σ2 H _ _ ρ2 G _ r2 E2 q2 fun σ3 ρ3 E3 w3 q3 => k σ3 ρ3 E3 (w3.trans w2) q3⟩
theorem ownT {K : PySem.W.Frag} {u : TGs} {ud : DTGs} {n : Nat} {vs : List Nat} (h : OwnGs K O u ud vs) : OwnG K O (gTup K n u) (gTu n ud) vs := fun v σ H Q d ρ G Qd r E ⟨xs, e, hl, q⟩ k => by
  subst e
  cases r with
  | tup hs rs => exact ⟨_, _, rfl, hs.sq, by rw [← rs.length]; exact hl, h _ σ H _ _ ρ G _ rs E q k⟩
theorem lc_up {K : PySem.W.Frag} {wi : DTI} {gv : TG} {gd : DTG} {tt : DTT} {te : DTE} {vs : List Nat} (own : OwnG K O gv gd vs) {σ : St} {H : Hp} {Q : VK} (h : upE K O (dLc wi gd tt te vs) σ H Q) :
    tLc (upI K O wi) gv (upT K O tt) (upE K O te) vs σ H Q := by
  obtain ⟨ρ, G, Qd, E, h, k⟩ := h
  refine ⟨ρ, G, _, E, h, fun J H1 items ok G1 hp1 x1 w q D hD => ?_⟩
  obtain ⟨Gd, Y, wk, w1, w2⟩ := w
  refine lc_it wk (fun i H' => ∃ G' acc av, EmbH K G' H' ∧ Ext G1 H1 G' H' ∧ G'.p D ∧ H' D = some (.lst av) ∧ Rs K G' H' acc av ∧ lcGo gd tt te (wipeD ρ vs) ok Qd (items.drop i) acc G'.g) ⟨G1.hide D, [], [], hp1.hide hD, Ext.hide hD, .inl rfl, upd_same, .nil, by show lcGo gd tt te (wipeD ρ vs) ok Qd (items.drop 0) [] G1.g; simpa using q⟩ ?_ ?_ ?_
  · rintro i H' _ ⟨G', acc, av, hp', x', gD, eD, ra, q'⟩
    exact w1 G' H' hp' x' (lcGo_ok q')
  · rintro i x H2 H3 hi ⟨G', acc, av, hp', x', gD, eD, ra, q'⟩ y
    obtain ⟨d, hd, rd, e3, x3⟩ := w2 i G' H2 x H3 hp' x' (lcGo_ok q') y
    obtain ⟨hlt, ed⟩ := List.getElem?_eq_some_iff.mp hd
    rw [List.drop_eq_getElem_cons hlt, ed] at q'
    obtain ⟨_, q'⟩ := q'
    have E3 : Emb K O (wipeD ρ vs) G' (L2.wipe σ vs) H3 := ((E.ext x1 hp1).wipe vs).ext (x'.trans x3) e3
    refine own _ _ _ _ _ _ _ _ rd E3 q' fun σ2 ρ2 E2 ew q2 => ⟨ew.trans (wipe_wipe σ vs), ?_⟩
    refine upT1 E2 q2 fun b H4 G4 E4 x4 q4 => ?_
    have xx := (x'.trans x3).trans x4
    have D4 := (x3.trans x4) D _ eD (hp'.hid D gD).1
    have ra4 := ra.ext (x3.trans x4)
    cases b with
    | true =>
      rw [if_pos rfl] at q4 ⊢
      refine up1 E4 q4 fun v H5 d5 G5 r5 E5 x5 ⟨hz, q5⟩ => ?_
      have D5 := x5 D _ D4.1 D4.2.1
      have ra5 := ra4.ext x5
      have p5 : G5.p D := D5.2.2.mpr (D4.2.2.mpr gD)
      refine ⟨av, D5.1, by rw [← ra5.length]; exact hz, G5, acc ++ [d5], av ++ [v], E5.hp.hid_put p5, fun b o e g => ?_, p5, upd_same, (ra5.snoc r5).extu (Exu.hid p5), q5⟩
      obtain ⟨k1, k2, k3⟩ := (xx.trans x5) b o e g
      exact ⟨by rw [upd_ne (ne_of_none e hD)]; exact k1, k2, k3⟩
    | false =>
      rw [if_neg Bool.false_ne_true] at q4 ⊢
      exact ⟨G4, acc, av, E4.hp, xx, D4.2.2.mpr gD, D4.1, ra4, q4⟩
  · rintro H' ⟨G', acc, av, hp', x', gD, eD, ra, q'⟩
    rw [List.drop_length] at q'
    refine k _ _ _ (G'.show D) (.lst ⟨⟨(hp'.hid D gD).1, fun z => z.1 rfl⟩, eD⟩ (ra.extu Exu.show)) hp'.show (x1.trans fun b o e g => ?_) q'.2
    obtain ⟨k1, k2, k3⟩ := x' b o e g
    exact ⟨k1, k2, ⟨fun z => k3.mp z.2, fun z => ⟨ne_of_none e hD, k3.mpr z⟩⟩⟩
section
variable {X : Cx} {elt tg iter : Expr} {ifs : List Expr} {scope : Scope} {own : List (Str × Nat)} {pos : Pos} {wi : DTI} {gv : TG} {gd : DTG} {tt : DTT} {te : DTE}
theorem de_lc (hc : X.calm = true) (hN : X.N.Nodup) (hi : DI X O tg iter wi) (ok : BlkOk X.N X.env.scope scope own) (ho : OwnG X.K O gv gd (own.map (·.2)))
    (hg : ∀ (s : Shared) (H : Hp) (C : Addr) (cl : List (Str × Addr)) (fp : List Addr), PG (X.blk s H scope (compEnvC scope cl C X.env) fp) tg gv) (ht : ∀ (s : Shared) (H : Hp) (C : Addr) (cl : List (Str × Addr)) (fp : List Addr), DTs (X.blk s H scope (compEnvC scope cl C X.env) fp) O ifs tt)
    (he : ∀ (s : Shared) (H : Hp) (C : Addr) (cl : List (Str × Addr)) (fp : List Addr), DE (X.blk s H scope (compEnvC scope cl C X.env) fp) O elt te) (hs : ∀ x, foldedSetIterable iter X.env x = pure x := by intro _; rfl) :
    DE X O (.ListComp elt [⟨tg, iter, ifs, 0⟩] scope pos) (dLc wi gd tt te (own.map (·.2))) := imE (pe_lc hc hN hi ok hg ht he hs) fun σ H Q => lc_up ho
theorem ds_setLc {i : Nat} {y : Str} {py spos : Pos} (hc : X.calm = true) (hN : X.N.Nodup) (hy : X.N[i]? = some y) (hyl : X.env.scope.names.lookup y = some .local)
    (hsw : swapsWith (.ListComp elt [⟨tg, iter, ifs, 0⟩] scope pos) (some (.Name y py)) spos.line X.env = pure true) (hi : DI X O tg iter wi) (ok : BlkOk X.N X.env.scope scope own) (ho : OwnG X.K O gv gd (own.map (·.2)))
    (hg : ∀ (s : Shared) (H : Hp) (C : Addr) (cl : List (Str × Addr)) (fp : List Addr), PG (X.blk s H scope (compEnvC scope cl C X.env) fp) tg gv) (ht : ∀ (s : Shared) (H : Hp) (C : Addr) (cl : List (Str × Addr)) (fp : List Addr), DTs (X.blk s H scope (compEnvC scope cl C X.env) fp) O ifs tt)
    (he : ∀ (s : Shared) (H : Hp) (C : Addr) (cl : List (Str × Addr)) (fp : List Addr), DE (X.blk s H scope (compEnvC scope cl C X.env) fp) O elt te) (hs : ∀ x, foldedSetIterable iter X.env x = pure x := by intro _; rfl) :
    DS X O (.Assign [.Name y py] (.ListComp elt [⟨tg, iter, ifs, 0⟩] scope pos) spos) (dAsg (dLc wi gd tt te (own.map (·.2))) (gN i)) := imS (ps_setLc hc hN hy hyl hsw hi ok hg ht he hs) fun D' σ H ⟨ρ, G, DD, E, h, k⟩ =>
  lc_up (Q := fun x H1 => gName i x σ H1 D'.nx) ho ⟨ρ, G, _, E, h, fun v H1 d G1 r hp x q => k.nx _ _ _ _ ((E.ext x hp).put r) x q⟩
end
end DL
set_option Elab.async false
set_option linter.all false
set_option maxRecDepth 100000
/-! The D-layer: exceptions as values, promises of defs, calls, methods, fields, new instances. -/
namespace DL
open PySem PySem.Spec PyProof.Rows L2
variable {O : AS × Hp}
structure DX where
  cls : String
  fs : List (String × D)
def gaS (K : PySem.W.Frag) (C : String) : Addr := He.ga K (Str.ofString C)
def XR (K : PySem.W.Frag) (G : AS) (H : Hp) (x : DX) (cls : Value) (d : Option Addr) : Prop := cls = .ref (gaS K x.cls) ∧ ∃ dd vs, d = some dd ∧ G.un dd ∧ H dd = some (.xd vs) ∧ Rf K G H x.fs vs
abbrev DXK := DX → GH → Prop
abbrev DSp := List D → GH → DK → DXK → Prop
def KX (K : PySem.W.Frag) (G : AS) (H : Hp) (Ed : DXK) (E : XK) : Prop := ∀ x cls d H' (G' : AS), XR K G' H' x cls d → EmbH K G' H' → Ext G H G' H' → Ed x G'.g → E cls d H'
theorem KX.ext {K : PySem.W.Frag} {G G1 : AS} {H H1 : Hp} {Ed : DXK} {E : XK} (k : KX K G H Ed E) (e : Ext G H G1 H1) : KX K G1 H1 Ed E := fun x cls d H' G' r h y q => k x cls d H' G' r h (e.trans y) q
def spUp (K : PySem.W.Frag) (sp : DSp) : Sp := fun vs H Q E => ∃ ds G Qd Ed, Rs K G H ds vs ∧ EmbH K G H ∧ sp ds (AS.g G) Qd Ed ∧ KE K G H Qd Q ∧ KX K G H Ed E
/-- what is wanted of an exception that leaves the body -/
structure XO (X : Cx) (O : AS × Hp) (Ed : DXK) (E : XK) : Prop where
  tk : L2N.Takes X (fun cls d _ H => E cls d H)
  kx : KX X.K O.1 O.2 Ed E
abbrev Ed0 : DXK := fun _ _ => False
theorem takesN0 {X : Cx} : L2N.Takes X (fun _ _ _ _ => False) := fun _ _ x => by
  obtain ⟨_, _, _, _, _, _, _, _, _, _, _, _, _, _, _, _, z⟩ := x
  exact z.elim
theorem xo0 {X : Cx} : XO X O Ed0 E0 := ⟨takesN0, fun _ _ _ _ _ _ _ _ z => z.elim⟩
theorem XO.pass {X : Cx} {Ed : DXK} {E : XK} (x : XO X O Ed E) : Passes (L2N.CX X.prog X.w) X E := L2N.passes_call x.tk fun _ _ _ _ h => h
/-! ### forgetting what a body tracked -/
def SubG (G' G : GH) : Prop := ∀ a o, G' a = some o → G a = some o
mutual
inductive FzV (G G' : GH) : D → D → Prop
  | same (d : D) : FzV G G' d d
  | lst {a : Addr} {xs ys : List D} (h : G a = some (.lst xs)) (n : G' a = none) (r : FzVs G G' xs ys) : FzV G G' (.ref a) (.lst ys)
  | dic {a : Addr} {xs ys : List (D × D)} (h : G a = some (.dic xs)) (n : G' a = none) (r : FzVk G G' xs ys) : FzV G G' (.ref a) (.dic ys)
  | ins {a : Addr} {C : String} {fs gs : List (String × D)} (h : G a = some (.ins C fs)) (n : G' a = none) (r : FzVf G G' fs gs) : FzV G G' (.ref a) (.obj C gs)
  | tupc {xs ys : List D} (r : FzVs G G' xs ys) : FzV G G' (.tup xs) (.tup ys)
  | lstc {xs ys : List D} (r : FzVs G G' xs ys) : FzV G G' (.lst xs) (.lst ys)
  | objc {C : String} {xs ys : List (String × D)} (r : FzVf G G' xs ys) : FzV G G' (.obj C xs) (.obj C ys)
  | dicc {xs ys : List (D × D)} (r : FzVk G G' xs ys) : FzV G G' (.dic xs) (.dic ys)
inductive FzVs (G G' : GH) : List D → List D → Prop
  | nil : FzVs G G' [] []
  | cons {a b : D} {xs ys : List D} (h : FzV G G' a b) (t : FzVs G G' xs ys) : FzVs G G' (a :: xs) (b :: ys)
inductive FzVf (G G' : GH) : List (String × D) → List (String × D) → Prop
  | nil : FzVf G G' [] []
  | cons (x : String) {a b : D} {xs ys : List (String × D)} (h : FzV G G' a b) (t : FzVf G G' xs ys) : FzVf G G' ((x, a) :: xs) ((x, b) :: ys)
inductive FzVk (G G' : GH) : List (D × D) → List (D × D) → Prop
  | nil : FzVk G G' [] []
  | cons (x : D) {a b : D} {xs ys : List (D × D)} (h : FzV G G' a b) (t : FzVk G G' xs ys) : FzVk G G' ((x, a) :: xs) ((x, b) :: ys)
end
section
variable {K : PySem.W.Frag} {G : AS} {G' : GH} {H : Hp}
theorem SubG.nil {G G' : GH} (s : SubG G' G) {a : Addr} (h : G a = .none) : G' a = .none := by
  cases e : G' a with
  | none => rfl
  | some w => have z := s a w e; rw [h] at z; cases z
theorem Exu.sub (s : SubG G' G.g) : Exu G H ⟨G', G.p⟩ H := fun a o h u => ⟨h, s.nil u.1, u.2⟩
theorem EmbH.sub (E : EmbH K G H) (s : SubG G' G.g) : EmbH K ⟨G', G.p⟩ H := ⟨fun a o e => by
  obtain ⟨ho, h1, r⟩ := E.tr a o (s a o e)
  exact ⟨ho, h1, r.extu (Exu.sub s)⟩, fun a p => ⟨s.nil (E.hid a p).1, (E.hid a p).2⟩⟩
theorem Ext.sub {G0 : AS} {H0 : Hp} (x : Ext G0 H0 G H) (s : SubG G' G.g) : Ext G0 H0 ⟨G', G.p⟩ H := fun a o e g => by
  obtain ⟨h1, h2, h3⟩ := x a o e g
  exact ⟨h1, s.nil h2, h3⟩
theorem unOf (E : EmbH K G H) {a : Addr} {o : DO} (h : G.g a = some o) (n : G' a = none) : AS.un ⟨G', G.p⟩ a := ⟨n, fun z => by rw [(E.hid a z).1] at h; cases h⟩
mutual
theorem FzV.ok (E : EmbH K G H) (s : SubG G' G.g) : ∀ {d d' : D} {v : V}, FzV G.g G' d d' → R K G H d v → R K ⟨G', G.p⟩ H d' v
  | _, _, _, .same d, r => r.extu (Exu.sub s)
  | _, _, _, .lst (a := a) h n t, .ref _ => by
    obtain ⟨ho, h1, vs, e, rs⟩ := E.tr a _ h
    subst e
    exact .lst ⟨unOf E h n, h1⟩ (FzVs.ok E s t rs)
  | _, _, _, .dic (a := a) h n t, .ref _ => by
    obtain ⟨ho, h1, vs, e, rs⟩ := E.tr a _ h
    subst e
    exact .dic (unOf E h n) h1 (FzVk.ok E s t rs)
  | _, _, _, .ins (a := a) h n t, .ref _ => by
    obtain ⟨ho, h1, dx, vs, e, rs⟩ := E.tr a _ h
    subst e
    exact .obj (unOf E h n) h1 (FzVf.ok E s t rs)
  | _, _, _, .tupc t, .tup h rs => .tup (h.extu (Exu.sub s)) (FzVs.ok E s t rs)
  | _, _, _, .lstc t, .lst h rs => .lst (h.extu (Exu.sub s)) (FzVs.ok E s t rs)
  | _, _, _, .objc t, .obj u h rs => let ⟨h1, u1⟩ := Exu.sub s _ _ h u; .obj u1 h1 (FzVf.ok E s t rs)
  | _, _, _, .dicc t, .dic u h rs => let ⟨h1, u1⟩ := Exu.sub s _ _ h u; .dic u1 h1 (FzVk.ok E s t rs)
theorem FzVs.ok (E : EmbH K G H) (s : SubG G' G.g) : ∀ {d d' : List D} {v : List V}, FzVs G.g G' d d' → Rs K G H d v → Rs K ⟨G', G.p⟩ H d' v
  | _, _, _, .nil, .nil => .nil
  | _, _, _, .cons h t, .cons r rs => .cons (FzV.ok E s h r) (FzVs.ok E s t rs)
theorem FzVf.ok (E : EmbH K G H) (s : SubG G' G.g) : ∀ {d d' : List (String × D)} {v : List (Str × V)}, FzVf G.g G' d d' → Rf K G H d v → Rf K ⟨G', G.p⟩ H d' v
  | _, _, _, .nil, .nil => .nil
  | _, _, _, .cons x h t, .cons _ r rs => .cons x (FzV.ok E s h r) (FzVf.ok E s t rs)
theorem FzVk.ok (E : EmbH K G H) (s : SubG G' G.g) : ∀ {d d' : List (D × D)} {v : List (Key × V)}, FzVk G.g G' d d' → Rk K G H d v → Rk K ⟨G', G.p⟩ H d' v
  | _, _, _, .nil, .nil => .nil
  | _, _, _, .cons _ h t, .cons k r rs => .cons k (FzV.ok E s h r) (FzVk.ok E s t rs)
end
end
def rtF (Qd : DK) : DK := fun d G => ∃ d' G', SubG G' G ∧ FzV G G' d d' ∧ Qd d' G'
def rtX (Ed : DXK) : DXK := fun x G => ∃ fs' G', SubG G' G ∧ FzVf G G' x.fs fs' ∧ Ed ⟨x.cls, fs'⟩ G'
theorem SubG.refl {G : GH} : SubG G G := fun _ _ h => h
theorem rtF_id {Qd : DK} {d : D} {G : GH} (h : Qd d G) : rtF Qd d G := ⟨d, G, .refl, .same d, h⟩
theorem FzVf.refl {G G' : GH} : ∀ {fs : List (String × D)}, FzVf G G' fs fs
  | [] => .nil
  | (x, d) :: r => .cons x (.same d) FzVf.refl
theorem FzVs.refl {G G' : GH} : ∀ {fs : List D}, FzVs G G' fs fs
  | [] => .nil
  | d :: r => .cons (.same d) FzVs.refl
theorem rtX_id {Ed : DXK} {x : DX} {G : GH} (h : Ed x G) : rtX Ed x G := ⟨x.fs, G, .refl, .refl, h⟩
theorem rtX_sub {Ed : DXK} {x : DX} {G G' : GH} (s : SubG G' G) (h : Ed x G') : rtX Ed x G := ⟨x.fs, G', s, .refl, h⟩
theorem SubG.new {G : GH} {p : Addr} {o : DO} (h : G p = none) : SubG G (updG G p o) := fun a w e => by rw [updG_ne (fun z => by rw [z, h] at e; cases e)]; exact e
theorem SubG.trans {A B C : GH} (a : SubG A B) (b : SubG B C) : SubG A C := fun x o h => b x o (a x o h)
theorem KE.fz {K : PySem.W.Frag} {G : AS} {H : Hp} {Qd : DK} {Q : VK} (k : KE K G H Qd Q) : KE K G H (rtF Qd) Q := fun v H' d G' r h x ⟨d', G2, s, f, q⟩ => k v H' d' ⟨G2, G'.p⟩ (f.ok h s r) (h.sub s) (x.sub s) q
theorem KX.fz {K : PySem.W.Frag} {G : AS} {H : Hp} {Ed : DXK} {E : XK} (k : KX K G H Ed E) : KX K G H (rtX Ed) E := fun x cls d H' G' ⟨e1, dd, vs, e2, u, h1, r⟩ h y ⟨fs', G2, s, f, q⟩ =>
  k ⟨x.cls, fs'⟩ cls d H' ⟨G2, G'.p⟩ ⟨e1, dd, vs, e2, (Exu.sub s _ _ h1 u).2, h1, f.ok h s r⟩ (h.sub s) (y.sub s) q
/-! ### defs -/
def dstart (N : List Str) (ds : List D) : DSt := ds.map some ++ List.replicate (N.length - ds.length) none
theorem emb_start {K : PySem.W.Frag} {G : AS} {H : Hp} {N : List Str} {ds : List D} {vs : List V} (r : Rs K G H ds vs) (h : EmbH K G H) : Emb K (G, H) (dstart N ds) G (L2.start N vs) H := by
  have hl := r.length
  refine ⟨by simp [dstart, L2.start, hl], fun i d q => ?_, h, .refl⟩
  unfold dstart at q
  by_cases hi : i < ds.length
  · rw [List.getElem?_append_left (by simpa using hi), List.getElem?_map] at q
    cases e : ds[i]? with
    | none => rw [e] at q; cases q
    | some x =>
      rw [e] at q; cases q
      obtain ⟨v, h1, h2⟩ := r.get e
      refine ⟨v, ?_, h2⟩
      unfold L2.start
      rw [List.getElem?_append_left (by simp; omega), List.getElem?_map, h1]; rfl
  · rw [List.getElem?_append_right (by simpa using hi), List.getElem?_replicate] at q
    split at q <;> cases q
section
variable {P : Program} {w : World} {K : PySem.W.Frag} {mg : Str → Option Value} {base : Heap} {x qual : Str} {params : Arguments} {body : List Stmt} {scope : Scope} {dvs : List V} {kws : List (Str × V)} {f : Addr} {fd : FuncData}
/-- THE RULE: a def keeps its promise sp if its body's reading t follows from it -/
theorem d_ok {N ps : List Str} {k : Nat} {sp : DSp} {t : DXK → DTS} (F : FunD K x qual params body scope dvs kws f fd) (S : FnScope N ps scope) (len : ∀ ds G Q Ed, sp ds G Q Ed → ds.length = ps.length)
    (hd : ∀ (cdv : Value) (A : Around) (outer : List Env) (s : Shared) (H : Hp) (O : AS × Hp) (Ed : DXK) (E : XK), Room k (A.deeper (envOfC qual scope s.heap.objs.size f cdv)) →
      XO (cxOf (L2N.CX P w) P w K mg base N qual scope f cdv A outer s H E) O Ed E → DSs (cxOf (L2N.CX P w) P w K mg base N qual scope f cdv A outer s H E) O body (t Ed))
    (hr : ∀ ds G Qd Ed, sp ds G Qd Ed → t (rtX Ed) { nx := fun _ G' => rtF Qd .non G', rt := rtF Qd } (dstart N ds) G) : FnOk P w K mg base (L2N.CX P w) (k + 1) f fd ps (spUp K sp) := by
  refine F.ok S (fun vs H Q E h => ?_) (fun cdv A outer s H vs Q E hroom h => ?_)
  · obtain ⟨ds, G, Qd, Ed, r, _, h, _⟩ := h
    rw [← r.length]; exact len _ _ _ _ h
  · obtain ⟨ds, G, Qd, Ed, r, hp, h, k1, k2⟩ := h
    refine ⟨_, hd cdv A outer s H (G, H) (rtX Ed) E hroom ⟨L2N.takes_of rfl rfl rfl rfl, k2.fz⟩, dstart N ds, G, _, emb_start r hp, hr ds G.g Qd Ed h, ?_⟩
    exact ⟨fun σ' H' ρ' G' E' y q => k1.fz _ _ _ _ .non E'.hp y q, k1.fz, fun _ _ _ _ _ _ q => q.elim, fun _ _ _ _ _ _ q => q.elim⟩
end
/-! ### calls -/
def dCall (sp : DSp) (Ed : DXK) (ta : DTA) (dfl : List D) : DTE := fun ρ G Q => ta ρ G fun ds G1 => sp (ds ++ dfl) G1 Q Ed
theorem sp_up {K : PySem.W.Frag} {σ : St} {ρ : DSt} {sp : DSp} {Ed : DXK} {E : XK} {G : AS} {H : Hp} {Qd : DK} {Q : VK} {ds : List D} {vs : List V} (kx : KX K O.1 O.2 Ed E) (Em : Emb K O ρ G σ H) (r : Rs K G H ds vs) (h : sp ds G.g Qd Ed) (k : KE K G H Qd Q) : spUp K sp vs H Q E :=
  ⟨ds, G, Qd, Ed, r, Em.hp, h, k, kx.ext Em.org⟩
section
variable {X : Cx} {k : Nat} {f : Addr} {fd : FuncData} {ps : List Str} {sp : DSp} {dvs : List V} {dfl : List D} {ds : List Value} {Ed : DXK} {E : XK} {x m : Str} {p pos apos : Pos} {e o : Expr} {es : List Expr} {ta : DTE} {t : DTA} {C : String}
theorem de_call (F : FnOk X.prog X.w X.K X.mg X.base (L2N.CX X.prog X.w) k f fd ps (spUp X.K sp)) (hr : Room k X.A) (hg : Gl X x) (hm : X.mg x = some (.ref f)) (hk : PySem.W.keepIn X.K (.ref f) = true) (hb : Binds X.K fd ps ds) (hd : Vals dvs ds) (hf : ∀ G H, Rs X.K G H dfl dvs) (xo : XO X O Ed E)
    (ha : DA X O (e :: es) t) (hdb : (x == ("__debug__" : Str)) = false := by decide) (he : starEach (e :: es) X.env = (false, eval e X.env) :: starEach es X.env := by rfl) (hpl : (backTo pos (starEach es X.env)).any (·.1) = false := by rfl) :
    DE X O (.Call (.Name x p) (e :: es) [] pos) (dCall sp Ed t dfl) := imE (pe_call F hr hg hm hk hb hd xo.pass ha hdb he hpl) fun σ H Q ⟨ρ, G, Qd, Em, h, kk⟩ =>
  upA1 Em h fun vs H1 ds G1 r E1 x1 h1 => sp_up xo.kx E1 (r.append (hf _ _)) h1 (kk.ext x1)
theorem de_call0 (F : FnOk X.prog X.w X.K X.mg X.base (L2N.CX X.prog X.w) k f fd ps (spUp X.K sp)) (hr : Room k X.A) (hg : Gl X x) (hm : X.mg x = some (.ref f)) (hk : PySem.W.keepIn X.K (.ref f) = true) (hb : Binds X.K fd ps ds) (hd : Vals dvs ds) (hf : ∀ G H, Rs X.K G H dfl dvs) (xo : XO X O Ed E)
    (hdb : (x == ("__debug__" : Str)) = false := by decide) : DE X O (.Call (.Name x p) [] [] pos) (dCall sp Ed dNil dfl) := imE (pe_call0 F hr hg hm hk hb hd xo.pass hdb) fun σ H Q ⟨ρ, G, Qd, Em, h, kk⟩ =>
  sp_up xo.kx Em (hf _ _) h kk
/-! ### instances -/
def insD : D → GH → Option (String × List (String × D))
  | .obj C fs, _ => some (C, fs)
  | .ref a, G => match G a with | some (.ins C fs) => some (C, fs) | _ => none
  | _, _ => none
theorem ins_of {K : PySem.W.Frag} {G : AS} {H : Hp} {d : D} {v : V} {C : String} {fs : List (String × D)} (r : R K G H d v) (Eh : EmbH K G H) (h : insD d G.g = some (C, fs)) : ∃ a dx vs, v = .ref a ∧ H a = some (.ins (gaS K C) dx vs) ∧ Rf K G H fs vs := by
  cases r with
  | obj u q rs => cases h; exact ⟨_, _, _, rfl, q, rs⟩
  | ref a =>
    unfold insD at h
    dsimp only at h
    cases e : G.g a with
    | none => rw [e] at h; cases h
    | some o =>
      rw [e] at h
      cases o with
      | ins C' fs' =>
        cases h
        obtain ⟨ho, h1, dx, vs, e2, rs⟩ := Eh.tr a _ e
        subst e2
        exact ⟨a, dx, vs, rfl, h1, rs⟩
      | _ => cases h
  | _ => cases h
def dFld (C f : String) (ta : DTE) : DTE := fun ρ G Q => ta ρ G fun d G1 => ∃ fs y, insD d G1 = some (C, fs) ∧ lookD f fs = some y ∧ Q y G1
theorem de_fld {f : String} (c : Cls X.K (gaS X.K C)) (n : NoAttr X.K (gaS X.K C) (Str.ofString f)) (he : DE X O e ta) (hb : attributeBase e (Str.ofString f) X.env (eval e X.env) = eval e X.env := by rfl) : DE X O (.Attribute e (Str.ofString f) pos) (dFld C f ta) :=
  imE (pe_fld he hb) fun σ H Q ⟨ρ, G, Qd, Em, h, kk⟩ => up1 Em h fun v H1 d G1 r E1 x1 ⟨fs, y, hi, hl, q⟩ => by
    obtain ⟨a, dx, vs, ev, ha, rf⟩ := ins_of r E1.hp hi
    obtain ⟨u, hu, ru⟩ := rf.look hl
    exact ⟨a, _, dx, vs, u, ev, ha, c, n, hu, kk _ _ _ _ ru E1.hp x1 q⟩
def dMeth (C m : String) (sp : DSp) (Ed : DXK) (ta : DTE) (t : DTA) (dfl : List D) : DTE := fun ρ G Q => ta ρ G fun d G1 => ∃ fs, insD d G1 = some (C, fs) ∧ lookD m fs = none ∧ t ρ G1 fun ds G2 => sp (d :: (ds ++ dfl)) G2 Q Ed
theorem meth_up {m : String} {C : String} {σ : St} {H : Hp} {Q : VK} (hf : ∀ G H, Rs X.K G H dfl dvs) (xo : XO X O Ed E) (h : upE X.K O (dMeth C m sp Ed ta t dfl) σ H Q) : tMeth (gaS X.K C) (Str.ofString m) (spUp X.K sp) dvs E (upE X.K O ta) (upA X.K O t) σ H Q := by
  obtain ⟨ρ, G, Qd, Em, h, kk⟩ := h
  refine up1 Em h fun v H1 d G1 r E1 x1 ⟨fs, hi, hl, q⟩ => ?_
  obtain ⟨a, dx, vs, ev, ha, rf⟩ := ins_of r E1.hp hi
  exact ⟨a, dx, vs, ev, ha, rf.look_none hl, upA1 E1 q fun us H2 ds G2 rs E2 x2 h2 => sp_up xo.kx E2 (.cons (r.ext x2) (rs.append (hf _ _))) h2 (kk.ext (x1.trans x2))⟩
theorem de_meth {pl : Sem Bool} {m : String} (c : Cls X.K (gaS X.K C)) (hm : Meth X.K (gaS X.K C) (Str.ofString m) f) (F : FnOk X.prog X.w X.K X.mg X.base (L2N.CX X.prog X.w) k f fd ps (spUp X.K sp)) (hr : Room k X.A) (hb : Binds X.K fd ps ds) (hd : Vals dvs ds) (hf : ∀ G H, Rs X.K G H dfl dvs) (xo : XO X O Ed E)
    (he : DE X O o ta) (ha : DA X O (e :: es) t)
    (ht : eval (.Call (.Attribute o (Str.ofString m) apos) (e :: es) [] pos) X.env = (do
      let ov ← eval o X.env
      standAt apos.atName
      let (f, first) ← holding [ov] (getMethod ov (Str.ofString m) pl)
      callWith pos f first (backTo pos (starEach (e :: es) X.env)) (backToKw pos (keywordEach [] X.env))) := by rfl)
    (hs : starEach (e :: es) X.env = (false, eval e X.env) :: starEach es X.env := by rfl) (hpl : (backTo pos (starEach es X.env)).any (·.1) = false := by rfl) :
    DE X O (.Call (.Attribute o (Str.ofString m) apos) (e :: es) [] pos) (dMeth C m sp Ed ta t dfl) := imE (pe_meth he c hm F hr hb hd xo.pass ha hs hpl ht) fun σ H Q => meth_up hf xo
theorem de_meth0 {pl : Sem Bool} {m : String} (c : Cls X.K (gaS X.K C)) (hm : Meth X.K (gaS X.K C) (Str.ofString m) f) (F : FnOk X.prog X.w X.K X.mg X.base (L2N.CX X.prog X.w) k f fd ps (spUp X.K sp)) (hr : Room k X.A) (hb : Binds X.K fd ps ds) (hd : Vals dvs ds) (hf : ∀ G H, Rs X.K G H dfl dvs) (xo : XO X O Ed E)
    (he : DE X O o ta)
    (ht : eval (.Call (.Attribute o (Str.ofString m) apos) [] [] pos) X.env = (do
      let ov ← eval o X.env
      standAt apos.atName
      let (f, first) ← holding [ov] (getMethod ov (Str.ofString m) pl)
      callWith pos f first (backTo pos (starEach [] X.env)) (backToKw pos (keywordEach [] X.env))) := by rfl) :
    DE X O (.Call (.Attribute o (Str.ofString m) apos) [] [] pos) (dMeth C m sp Ed ta dNil dfl) := imE (pe_meth0 he c hm F hr hb hd xo.pass ht) fun σ H Q ⟨ρ, G, Qd, Em, h, kk⟩ => up1 Em h fun v H1 d G1 r E1 x1 ⟨fs, hi, hl, q⟩ => by
    obtain ⟨a, dx, vs, ev, ha, rf⟩ := ins_of r E1.hp hi
    exact ⟨a, dx, vs, ev, ha, rf.look_none hl, sp_up xo.kx E1 (.cons r (hf _ _)) q (kk.ext x1)⟩
end
end DL
set_option Elab.async false
set_option linter.all false
set_option maxRecDepth 100000
/-! The D-layer: operators and built-ins by values. -/
namespace DL
open PySem PySem.Spec PyProof.Rows L2
variable {O : AS × Hp}
section
variable {X : Cx}
theorem strInv {K : PySem.W.Frag} {G : AS} {H : Hp} {x : List Nat} {v : V} (r : R K G H (.str x) v) : v = .str ⟨x.toArray⟩ := by cases r; rfl
theorem intInv {K : PySem.W.Frag} {G : AS} {H : Hp} {x : Int} {v : V} (r : R K G H (.int x) v) : v = .int x := by cases r; rfl
theorem blInv {K : PySem.W.Frag} {G : AS} {H : Hp} {x : Bool} {v : V} (r : R K G H (.bl x) v) : v = .bl x := by cases r; rfl
theorem R.str' {K : PySem.W.Frag} {G : AS} {H : Hp} (z : Str) : R K G H (.str z.cps.toList) (.str z) := by
  have := R.str (K := K) (G := G) (H := H) z.cps.toList
  simpa [sv] using this
/-! ### ints -/
def rInt2 (g : Int → Int → D) (C : Int → Int → Prop) : DR2 := fun x y G Q => ∃ i j, x = .int i ∧ y = .int j ∧ C i j ∧ Q (g i j) G
theorem int2 {f : Value → Value → Sem Value} {C : Int → Int → Prop} {g : Int → Int → V} {gd : Int → Int → D} (h : OpR X f (rI C g)) (hg : ∀ i j G H, R X.K G H (gd i j) (g i j)) : OpR X f (upO X.K (rInt2 gd C)) := by
  intro pins s σ H x y v u Q I rx ry ⟨dx, dy, G, Qd, r1, r2, hp, ⟨i, j, e1, e2, c, q⟩, k⟩
  subst e1 e2
  cases r1
  cases r2
  exact h pins s σ H _ _ v u Q I rx ry ⟨i, j, rfl, rfl, c, k _ _ _ _ (hg i j G H) hp .refl q⟩
theorem int2' {f : Value → Value → Sem Value} {g : Int → Int → V} {gd : Int → Int → D} (h : OpR X f (rI0 g)) (hg : ∀ i j G H, R X.K G H (gd i j) (g i j)) : OpR X f (upO X.K (rInt2 gd fun _ _ => True)) :=
  int2 (C := fun _ _ => True) (fun pins s σ H x y v u Q I rx ry ⟨i, j, e1, e2, _, q⟩ => h pins s σ H x y v u Q I rx ry ⟨i, j, e1, e2, q⟩) hg
def rSubD : DR2 := rInt2 (fun i j => .int (i - j)) fun _ _ => True
def rMulD : DR2 := rInt2 (fun i j => .int (i * j)) fun i j => i.natAbs.log2 + j.natAbs.log2 < 1000000
def rFdivD : DR2 := rInt2 (fun i j => .int (i / j)) fun _ j => 0 < j ∧ j.natAbs.log2 < 9000
def rModD : DR2 := rInt2 (fun i j => .int (i % j)) fun _ j => 0 < j
def rPowD : DR2 := rInt2 (fun i j => .int (i ^ j.toNat)) CPow
def rLtD : DR2 := rInt2 (fun i j => .bl (decide (i < j))) fun _ _ => True
def rLeD : DR2 := rInt2 (fun i j => .bl (decide (i ≤ j))) fun _ _ => True
def rGtD : DR2 := rInt2 (fun i j => .bl (decide (j < i))) fun _ _ => True
def rGeD : DR2 := rInt2 (fun i j => .bl (decide (j ≤ i))) fun _ _ => True
theorem d_sub : OpR X (binaryOp .Sub) (upO X.K rSubD) := int2' op_sub fun _ _ _ _ => .int _
theorem d_fdiv : OpR X (binaryOp .FloorDiv) (upO X.K rFdivD) := int2 op_fdivW fun _ _ _ _ => .int _
theorem d_mod : OpR X (binaryOp .Mod) (upO X.K rModD) := int2 op_mod fun _ _ _ _ => .int _
theorem d_pow : OpR X (binaryOp .Pow) (upO X.K rPowD) := int2 op_pow fun _ _ _ _ => .int _
theorem d_lt : OpR X (compareOp .Lt) (upO X.K rLtD) := int2' op_lt fun _ _ _ _ => .bl _
theorem d_le : OpR X (compareOp .LtE) (upO X.K rLeD) := int2' op_le fun _ _ _ _ => .bl _
theorem d_gt : OpR X (compareOp .Gt) (upO X.K rGtD) := int2' op_gt fun _ _ _ _ => .bl _
theorem d_ge : OpR X (compareOp .GtE) (upO X.K rGeD) := int2' op_ge fun _ _ _ _ => .bl _
def rNegD : D → GH → DK → Prop := fun x G Q => ∃ i, x = .int i ∧ Q (.int (-i)) G
theorem d_neg : UnR X (unaryOp .USub) (upU X.K rNegD) := by
  intro pins s σ H x v Q I rx ⟨dx, G, Qd, r1, hp, ⟨i, e1, q⟩, k⟩
  subst e1
  cases r1
  exact un_neg pins s σ H _ v Q I rx ⟨i, rfl, k _ _ _ _ (.int _) hp .refl q⟩
/-! ### + -/
def rAddD : DR2
  | .int i, .int j, G, Q => Q (.int (i + j)) G
  | .str x, .str y, G, Q => x.length + y.length ≤ sizeLine ∧ Q (.str (x ++ y)) G
  | .tup _, _, _, _ => False
  | d, e, G, Q => ∃ xs ys, lstD d G = some xs ∧ lstD e G = some ys ∧ xs.length + ys.length ≤ sizeLine ∧ Q (.lst (xs ++ ys)) G
theorem str_app (x y : List Nat) : (⟨x.toArray⟩ ++ ⟨y.toArray⟩ : Str) = ⟨(x ++ y).toArray⟩ := by
  show (⟨x.toArray ++ y.toArray⟩ : Str) = _
  simp
theorem d_add : OpR X (binaryOp .Add) (upO X.K rAddD) := by
  intro pins s σ H x y v u Q I rx ry ⟨dx, dy, G, Qd, r1, r2, hp, h, k⟩
  have lists : (∃ xs ys, lstD dx G.g = some xs ∧ lstD dy G.g = some ys ∧ xs.length + ys.length ≤ sizeLine ∧ Qd (.lst (xs ++ ys)) G.g) → wpAny (model X.prog X.w) X.A (binaryOp .Add v u) (EP X pins σ Q) X.xe s := by
    rintro ⟨xs, ys, h1, h2, hz, q⟩
    obtain ⟨a, vs, e1, q1, rs1⟩ := lst_of r1 hp h1
    obtain ⟨b, us, e2, q2, rs2⟩ := lst_of r2 hp h2
    subst e1 e2
    exact op_cat pins s σ H _ _ v u Q I rx ry ⟨a, b, vs, us, rfl, rfl, q1, q2, by rw [← rs1.length, ← rs2.length]; exact hz, fun p n => k.new hp n q (R.newLst hp n (rs1.append rs2))⟩
  unfold rAddD at h
  split at h
  · cases r1; cases r2
    exact op_add pins s σ H _ _ v u Q I rx ry ⟨_, _, rfl, rfl, k _ _ _ _ (.int _) hp .refl h⟩
  · cases r1; cases r2
    obtain ⟨hz, q⟩ := h
    refine op_add_str pins s σ H _ _ v u Q I rx ry ⟨_, _, rfl, rfl, by simpa [Str.length] using hz, ?_⟩
    rw [str_app]
    exact k _ _ _ _ (.str _) hp .refl q
  · exact h.elim
  · exact lists h
/-! ### equality of data -/
mutual
def pyD : D → PyData
  | .non => .none
  | .bl b => .bool b
  | .int i => .int i
  | .str x => .str ⟨x.toArray⟩
  | .tup xs => .tuple (pyDs xs)
  | .lst xs => .list (pyDs xs)
  | _ => .none
def pyDs : List D → List PyData
  | [] => []
  | x :: xs => pyD x :: pyDs xs
end
theorem pyDs_map : ∀ xs : List D, pyDs xs = xs.map pyD
  | [] => rfl
  | x :: xs => by simp [pyDs, pyDs_map xs]
/-- data of at most so many nestings -/
def okN : Nat → D → Bool
  | _, .non => true
  | _, .bl _ => true
  | _, .int _ => true
  | _, .str x => x.all (· < 0x110000)
  | n + 1, .tup xs => xs.all (okN n)
  | n + 1, .lst xs => xs.all (okN n)
  | _, _ => false
abbrev okD (d : D) : Prop := okN 50 d = true
theorem okN_shape : ∀ (n : Nat) (d : D), okN n d = true → (pyD d).canLay0 = true ∧ (pyD d).depth ≤ n := by
  intro n
  induction n with
  | zero => intro d h; cases d <;> simp_all [okN, pyD, PyData.canLay0, PyData.depth, PyData.strOk]
  | succ n ih =>
    intro d h
    have all : ∀ xs : List D, xs.all (okN n) = true → PyData.canLayAll0 (pyDs xs) = true ∧ PyData.depthAll (pyDs xs) ≤ n := by
      intro xs
      induction xs with
      | nil => intro _; simp [pyDs, PyData.canLayAll0, PyData.depthAll]
      | cons x xs ihx =>
        intro h
        rw [List.all_cons, Bool.and_eq_true] at h
        obtain ⟨a1, a2⟩ := ih x h.1
        obtain ⟨b1, b2⟩ := ihx h.2
        simp only [pyDs, PyData.canLayAll0, PyData.depthAll, a1, b1]
        exact ⟨rfl, by omega⟩
    cases d with
    | tup xs =>
      obtain ⟨a, b⟩ := all xs h
      simp only [pyD, PyData.canLay0, PyData.depth]
      exact ⟨a, by omega⟩
    | lst xs =>
      obtain ⟨a, b⟩ := all xs h
      simp only [pyD, PyData.canLay0, PyData.depth]
      exact ⟨a, by omega⟩
    | _ => simp_all [okN, pyD, PyData.canLay0, PyData.depth, PyData.strOk]
theorem okD_shaped {d : D} (h : okD d) : SeqAt.shaped (pyD d) = true := by
  obtain ⟨a, b⟩ := okN_shape 50 d h
  unfold SeqAt.shaped
  rw [a, Bool.true_and]
  exact decide_eq_true (by omega)
theorem okN_up : ∀ {n : Nat} {d : D}, okN n d = true → okN (n + 1) d = true := by
  intro n
  induction n with
  | zero => intro d h; cases d <;> simp_all [okN]
  | succ n ih =>
    intro d h
    have all : ∀ xs : List D, xs.all (okN n) = true → xs.all (okN (n + 1)) = true := fun xs h => List.all_eq_true.mpr fun x hx => ih (List.all_eq_true.mp h x hx)
    cases d with
    | tup xs => exact all xs h
    | lst xs => exact all xs h
    | _ => simpa [okN] using h
section
variable {K : PySem.W.Frag} {G : AS} {H : Hp}
mutual
theorem R.dp : ∀ {d : D} {v : V}, R K G H d v → ∀ n, okN n d = true → Dp K H v (pyD d)
  | _, _, .non, _, _ => .non
  | _, _, .bl b, _, _ => .bl b
  | _, _, .int i, _, _ => .int i
  | _, _, .str x, _, _ => .str _
  | _, _, .ty _, n, h => by cases n <;> cases h
  | _, _, .ref _, n, h => by cases n <;> cases h
  | _, _, .cls _, n, h => by cases n <;> cases h
  | _, _, .tup q r, n, h => by
    cases n with
    | zero => cases h
    | succ n => exact .tup q.sq (Rs.dp r n h)
  | _, _, .lst q r, n, h => by
    cases n with
    | zero => cases h
    | succ n => exact .lst q.sq (Rs.dp r n h)
  | _, _, .scr _ _ _, n, h => by cases n <;> cases h
  | _, _, .dic _ _ _, n, h => by cases n <;> cases h
  | _, _, .obj _ _ _, n, h => by cases n <;> cases h
  | _, _, .fn _ _ _ _ _, n, h => by cases n <;> cases h
theorem Rs.dp : ∀ {d : List D} {v : List V}, Rs K G H d v → ∀ n, d.all (okN n) = true → DpAll K H v (pyDs d)
  | _, _, .nil, _, _ => .nil
  | _, _, .cons h t, n, e => by
    rw [List.all_cons, Bool.and_eq_true] at e
    exact .cons (R.dp h n e.1) (Rs.dp t n e.2)
end
/-- a tracked list as a value -/
def topD : D → GH → D
  | .ref a, G => match G a with | some (.lst xs) => .lst xs | _ => .ref a
  | d, _ => d
theorem R.dpT {d : D} {v : V} (r : R K G H d v) (E : EmbH K G H) (h : okD (topD d G.g)) : Dp K H v (pyD (topD d G.g)) := by
  cases r with
  | ref a =>
    unfold topD at h ⊢
    dsimp only at h ⊢
    cases e : G.g a with
    | none => rw [e] at h; cases h
    | some o =>
      rw [e] at h
      cases o with
      | lst xs =>
        dsimp only at h ⊢
        obtain ⟨ho, h1, vs, e2, rs⟩ := E.tr a _ e
        subst e2
        exact .lst (.of h1) (Rs.dp rs 49 h)
      | _ => cases h
  | tup q r => exact R.dp (.tup q r) 50 h
  | lst q r => exact R.dp (.lst q r) 50 h
  | str x => exact .str _
  | non => exact .non
  | bl b => exact .bl b
  | int i => exact .int i
  | ty n => cases h
  | cls n => cases h
  | scr a b c => cases h
  | dic a b c => cases h
  | obj a b c => cases h
  | fn a b c d e => cases h
end
def eqD (d e : D) : Bool := PyData.eqv (pyD d) (pyD e)
def rEqDD : DR2 := fun x y G Q => okD (topD x G) ∧ okD (topD y G) ∧ Q (.bl (eqD (topD x G) (topD y G))) G
def rNeDD : DR2 := fun x y G Q => okD (topD x G) ∧ okD (topD y G) ∧ Q (.bl (!eqD (topD x G) (topD y G))) G
theorem d_eq (hu : X.A.units + 64 < cLine) : OpR X (compareOp .Eq) (upO X.K rEqDD) := by
  intro pins s σ H x y v u Q I rx ry ⟨dx, dy, G, Qd, r1, r2, hp, ⟨o1, o2, q⟩, k⟩
  exact op_eqD hu pins s σ H x y v u Q I rx ry ⟨_, _, r1.dpT hp o1, r2.dpT hp o2, okD_shaped o1, okD_shaped o2, k _ _ _ _ (.bl _) hp .refl q⟩
theorem d_ne (hu : X.A.units + 64 < cLine) : OpR X (compareOp .NotEq) (upO X.K rNeDD) := by
  intro pins s σ H x y v u Q I rx ry ⟨dx, dy, G, Qd, r1, r2, hp, ⟨o1, o2, q⟩, k⟩
  exact op_neD hu pins s σ H x y v u Q I rx ry ⟨_, _, r1.dpT hp o1, r2.dpT hp o2, okD_shaped o1, okD_shaped o2, k _ _ _ _ (.bl _) hp .refl q⟩
/-! ### in -/
def boxD : D → GH → Option (List D)
  | .str _, _ => none
  | d, G => seqD d G
/-- one sign in a text; a datum in a list or tuple -/
def rInD (neg : Bool) : DR2
  | .str x, .str y, G, Q => ∃ c, x = [c] ∧ Q (.bl (if neg then !decide (c ∈ y) else decide (c ∈ y))) G
  | d, e, G, Q => ∃ xs, boxD e G = some xs ∧ okD (topD d G) ∧ okD (.lst xs) ∧ Q (.bl (if neg then !(xs.any fun z => eqD z (topD d G)) else xs.any fun z => eqD z (topD d G))) G
end
end DL
set_option Elab.async false
set_option linter.all false
set_option maxRecDepth 100000
/-! The D-layer: in, subscripts, slices, built-in functions and methods. -/
namespace DL
open PySem PySem.Spec PyProof.Rows L2
variable {O : AS × Hp}
section
variable {X : Cx}
/-! ### in -/
theorem inT (hu : X.A.units + 65 < cLine) (neg : Bool) {pins : List (Addr × Obj)} {s : Shared} {σ : St} {H : Hp} {x y : V} {v u : Value} {Q : VK} {G : AS} {Qd : DK} {d e : D} {xs : List D} (I : Inv X pins σ H s) (rx : RelV x v) (ry : RelV y u) (r1 : R X.K G H d x) (r2 : R X.K G H e y) (hp : EmbH X.K G H) (k : KE X.K G H Qd Q)
    (h1' : boxD e G.g = some xs) (o1 : okD (topD d G.g)) (o2 : okD (.lst xs)) (q : Qd (.bl (if neg then !(xs.any fun z => eqD z (topD d G.g)) else xs.any fun z => eqD z (topD d G.g))) G.g) :
    wpAny (model X.prog X.w) X.A (compareOp (if neg then .NotIn else .In) v u) (EP X pins σ Q) X.xe s := by
  have hs : ∀ z, e ≠ .str z := fun z q => by subst q; cases h1'
  have h1 : seqD e G.g = some xs := by cases e <;> first | exact h1' | cases h1'
  have sd := okD_shaped o1
  have sl := okD_shaped o2
  have hx := r1.dpT hp o1
  obtain ⟨bs, rr⟩ := Dp.reads I _ x v hx rx
  have o2' : xs.all (okN 49) = true := o2
  have any_eq : ((pyDs xs).any fun y => PyData.eqv y (pyD (topD d G.g))) = xs.any fun z => eqD z (topD d G.g) := by
    rw [pyDs_map, List.any_map]; rfl
  have room : X.A.units + 1 + min (PyData.depthAll (pyDs xs)) (pyD (topD d G.g)).depth < cLine := room_in_shaped sd hu
  have hl : PyData.canLayAll0 (pyDs xs) = true := by
    have := SeqAt.canLay_of_shaped sl
    simpa [pyD, PyData.canLay0] using this
  have fin : ∀ b, b = (if neg then !(xs.any fun z => eqD z (topD d G.g)) else xs.any fun z => eqD z (topD d G.g)) → EP X pins σ Q (.bool b) s := fun b e => by
    subst e
    exact ⟨.bl _, H, I, rfl, k _ _ _ _ (.bl _) hp .refl q⟩
  have asL : ∀ a vs, y = .ref a → SqL X.K H a vs → Rs X.K G H xs vs → wpAny (model X.prog X.w) X.A (compareOp (if neg then .NotIn else .In) v u) (EP X pins σ Q) X.xe s := by
    rintro a vs rfl hq rs
    obtain ⟨cs, rr2⟩ := Dp.reads I (.list (pyDs xs)) (.ref a) u (.lst hq (Rs.dp rs 49 o2')) ry
    cases neg with
    | false => exact SeqAt.in_list_reads rr2 rr hl (SeqAt.canLay_of_shaped sd) room (fin _ (by rw [any_eq]; rfl))
    | true => exact SeqAt.notIn_list_reads rr2 rr hl (SeqAt.canLay_of_shaped sd) room (fin _ (by rw [any_eq]; rfl))
  cases seq_of r2 hp h1 with
  | lst hq rs => exact asL _ _ rfl hq rs
  | tup hq rs =>
    obtain ⟨cs, rr2⟩ := Dp.reads I (.tuple (pyDs xs)) _ u (.tup hq (Rs.dp rs 49 o2')) ry
    cases neg with
    | false => exact SeqAt.in_tuple_reads rr2 rr hl (SeqAt.canLay_of_shaped sd) room (fin _ (by rw [any_eq]; rfl))
    | true => exact SeqAt.notIn_tuple_reads rr2 rr hl (SeqAt.canLay_of_shaped sd) room (fin _ (by rw [any_eq]; rfl))
  | str z =>
    cases e with
    | str z' => exact absurd rfl (hs z')
    | tup _ => cases r2
    | lst _ => cases r2
    | scr _ => cases r2
    | ref _ => cases r2
    | _ => cases h1
theorem d_in (hu : X.A.units + 65 < cLine) : OpR X (compareOp .In) (upO X.K (rInD false)) := by
  intro pins s σ H x y v u Q I rx ry ⟨dx, dy, G, Qd, r1, r2, hp, h, k⟩
  unfold rInD at h
  split at h
  · obtain ⟨c, e, q⟩ := h
    subst e
    cases r1; cases r2
    exact op_in_sign pins s σ H _ _ v u Q I rx ry ⟨_, _, rfl, rfl, k _ _ _ _ (.bl _) hp .refl q⟩
  · obtain ⟨xs, h1, o1, o2, q⟩ := h
    exact inT hu false I rx ry r1 r2 hp k h1 o1 o2 q
theorem d_notin (hu : X.A.units + 65 < cLine) : OpR X (compareOp .NotIn) (upO X.K (rInD true)) := by
  intro pins s σ H x y v u Q I rx ry ⟨dx, dy, G, Qd, r1, r2, hp, h, k⟩
  unfold rInD at h
  split at h
  · obtain ⟨c, e, q⟩ := h
    subst e
    cases r1; cases r2
    exact op_notIn_sign pins s σ H _ _ v u Q I rx ry ⟨_, _, rfl, rfl, k _ _ _ _ (.bl _) hp .refl q⟩
  · obtain ⟨xs, h1, o1, o2, q⟩ := h
    exact inT hu true I rx ry r1 r2 hp k h1 o1 o2 q
/-! ### subscripts -/
def atD {α : Type} (xs : List α) (i : Int) : Option α := if 0 ≤ i then xs[i.toNat]? else if -(xs.length : Int) ≤ i then xs[(i + xs.length).toNat]? else none
theorem atD_eq {α : Type} (xs : List α) (i : Int) : atI xs i = atD xs i := by
  unfold atI atD ixN
  by_cases h : 0 ≤ i
  · rw [if_pos h, if_pos h]
    by_cases h2 : i < xs.length
    · rw [if_pos h2]; rfl
    · rw [if_neg h2, List.getElem?_eq_none (by omega)]; rfl
  · rw [if_neg h, if_neg h]
    by_cases h2 : -(xs.length : Int) ≤ i
    · rw [if_pos h2, if_pos h2]; rfl
    · rw [if_neg h2, if_neg h2]; rfl
theorem Rs.at {K : PySem.W.Frag} {G : AS} {H : Hp} {ds : List D} {vs : List V} {i : Int} {d : D} (r : Rs K G H ds vs) (h : atD ds i = some d) : ∃ v, atI vs i = some v ∧ R K G H d v := by
  rw [atD_eq]
  have hl := r.length
  unfold atD at h ⊢
  by_cases h0 : 0 ≤ i
  · rw [if_pos h0] at h ⊢
    exact r.get h
  · rw [if_neg h0] at h ⊢
    rw [hl] at h
    by_cases h2 : -(vs.length : Int) ≤ i
    · rw [if_pos h2] at h ⊢
      exact r.get h
    · rw [if_neg h2] at h; cases h
def rIxD : DR2 := fun x y G Q => ∃ i, y = .int i ∧ match x with
  | .str s => s.length ≤ sizeLine ∧ ∃ c, atD s i = some c ∧ Q (.str [c]) G
  | x => ∃ xs d, boxD x G = some xs ∧ atD xs i = some d ∧ Q d G
theorem d_ix : IxR X (upO X.K rIxD) := by
  intro value slice pins s σ H x y v u Q I rx ry ⟨dx, dy, G, Qd, r1, r2, hp, ⟨i, e1, h⟩, k⟩ hs
  subst e1
  cases r2
  have gen : (∃ xs d, boxD dx G.g = some xs ∧ atD xs i = some d ∧ Qd d G.g) → wpAny (model X.prog X.w) X.A (subscriptTail value slice v u) (EP X pins σ Q) X.xe s := by
    rintro ⟨xs, d, h1', ha, q⟩
    have h1 : seqD dx G.g = some xs := by cases dx <;> first | exact h1' | cases h1'
    cases seq_of r1 hp h1 with
    | lst hq rs =>
      obtain ⟨w, hw, rw'⟩ := rs.at ha
      exact ix_seq value slice pins s σ H _ _ v u Q I rx ry (.inl ⟨_, _, i, w, rfl, rfl, hq, hw, k _ _ _ _ rw' hp .refl q⟩) hs
    | tup hq rs =>
      obtain ⟨w, hw, rw'⟩ := rs.at ha
      exact ix_seq value slice pins s σ H _ _ v u Q I rx ry (.inr (.inl ⟨_, _, i, w, rfl, rfl, hq, hw, k _ _ _ _ rw' hp .refl q⟩)) hs
    | str z =>
      cases dx with
      | str z' => cases h1'
      | tup _ => cases r1
      | lst _ => cases r1
      | scr _ => cases r1
      | ref _ => cases r1
      | _ => cases h1
  cases dx with
  | str z =>
    cases r1
    obtain ⟨hz, c, hc, q⟩ := h
    exact ix_seq value slice pins s σ H _ _ v u Q I rx ry (.inr (.inr ⟨_, i, c, rfl, rfl, by simpa [Str.length] using hz, by rw [atD_eq]; simpa using hc, k _ _ _ _ (.str [c]) hp .refl q⟩)) hs
  | _ => exact gen h
theorem de_ix {a b : Expr} {pos : Pos} {r : DR2} {ta tb : DTE} (hr : IxR X (upO X.K r)) (ha : DE X O a ta) (hb : DE X O b tb) (hs : PlainIx b := by intro _ _; rfl) : DE X O (.Subscript a b pos) (dOp r ta tb) := imE (pe_ix hr ha hb hs) fun _ _ _ => up_op
/-- xs[i] = v of a tracked list -/
def rSetD : D → D → D → GH → (GH → Prop) → Prop := fun o i d G Q => ∃ p xs k j, o = .ref p ∧ i = .int k ∧ G p = some (.lst xs) ∧ ixN xs.length k = some j ∧ Q (updG G p (.lst (xs.set j d)))
theorem d_set : PSet X (upSet X.K rSetD) := by
  intro pins s σ H o i v ov iv u Q I ro ri rv ⟨d1, d2, d3, G, Qd, r1, r2, r3, hp, ⟨p, xs, kk, j, e1, e2, hg, hj, q⟩, k⟩
  subst e1 e2
  cases r1
  cases r2
  obtain ⟨ho, h1, vs, e, rs⟩ := hp.tr p _ hg
  subst e
  have hn : G.g p ≠ none := by rw [hg]; simp
  refine set_list pins s σ H _ _ v ov iv u Q I ro ri rv ⟨p, vs, kk, j, rfl, rfl, h1, by rw [← rs.length]; exact hj, k _ (G.put p (.lst (xs.set j d3))) (EmbH.put (u := .lst (xs.set j d3)) hp hn ⟨vs.set j v, rfl, Rs.set r3 j rs⟩) (Ext.put hn) q⟩
/-! ### slices -/
abbrev DTO := DSt → GH → (Option Int → GH → Prop) → Prop
def upPO (K : PySem.W.Frag) (O : AS × Hp) (t : DTO) : TO := fun σ H Q => ∃ ρ G Qd, Emb K O ρ G σ H ∧ t ρ (AS.g G) Qd ∧ ∀ b H' G', EmbH K G' H' → Ext G H G' H' → Qd b (AS.g G') → Q b H'
abbrev DPO (X : Cx) (O : AS × Hp) (e : Option Expr) (t : DTO) : Prop := PO X e (upPO X.K O t)
def dPn : DTO := fun _ G Q => Q none G
def dPs (te : DTE) : DTO := fun ρ G Q => te ρ G fun d G1 => ∃ i, d = .int i ∧ Q (some i) G1
theorem imPO {e : Option Expr} {t t' : TO} (h : PO X e t) (i : ∀ σ H Q, t' σ H Q → t σ H Q) : PO X e t' := ⟨fun pins s σ H Q I q => h.run pins s σ H Q I (i σ H Q q)⟩
theorem dpo_none : DPO X O none dPn := imPO po_none fun σ H Q ⟨ρ, G, Qd, E, h, k⟩ => k _ _ _ E.hp .refl h
theorem dpo_some {e : Expr} {te : DTE} (h : DE X O e te) : DPO X O (some e) (dPs te) := imPO (po_some h) fun σ H Q ⟨ρ, G, Qd, E, h, k⟩ => up1 E h fun v H1 d G1 r E1 x1 ⟨i, e, q⟩ => by
  subst e
  cases r
  exact ⟨i, rfl, k _ _ _ E1.hp x1 q⟩
def cutD {α : Type} (xs : List α) (lo hi : Option Int) : List α := (xs.drop (HT.sIx xs.length 0 lo)).take (HT.sIx xs.length xs.length hi - HT.sIx xs.length 0 lo)
theorem Rs.cut {K : PySem.W.Frag} {G : AS} {H : Hp} {ds : List D} {vs : List V} (r : Rs K G H ds vs) (lo hi : Option Int) : Rs K G H (cutD ds lo hi) (cutV vs lo hi) := by
  unfold cutD cutV
  rw [r.length]
  exact (r.drop _).take _
def rSlD : D → Option Int → Option Int → GH → DK → Prop
  | .str s, lo, hi, G, Q => s.length ≤ sizeLine ∧ Q (.str (cutD s lo hi)) G
  | .tup xs, lo, hi, G, Q => ¬ (HT.sIx xs.length 0 lo = 0 ∧ HT.sIx xs.length xs.length hi = xs.length) ∧ Q (.tup (cutD xs lo hi)) G
  | .lst xs, lo, hi, G, Q => Q (.lst (cutD xs lo hi)) G
  | .scr xs, lo, hi, G, Q => Q (.lst (cutD xs lo hi)) G
  | .ref a, lo, hi, G, Q => ∃ xs, G a = some (.lst xs) ∧ Q (.lst (cutD xs lo hi)) G
  | _, _, _, _, _ => False
def upSl (K : PySem.W.Frag) (r : D → Option Int → Option Int → GH → DK → Prop) : V → Option Int → Option Int → Hp → VK → Prop := fun x lo hi H Q => ∃ d G Qd, R K G H d x ∧ EmbH K G H ∧ r d lo hi (AS.g G) Qd ∧ KE K G H Qd Q
theorem d_sl : SlR X (upSl X.K rSlD) := by
  intro pins s σ H x v vl vu lo hi sl Q I rx hs pl pu ⟨d, G, Qd, r, hp, h, k⟩
  cases d with
  | str z =>
    cases r
    refine sl_str pins s σ H _ v vl vu lo hi sl Q I rx hs pl pu ⟨_, rfl, by simpa [Str.length] using h.1, ?_⟩
    have e : cutS ⟨z.toArray⟩ lo hi = ⟨(cutD z lo hi).toArray⟩ := by simp [cutS, cutD, Str.length]
    rw [e]
    exact k _ _ _ _ (.str _) hp .refl h.2
  | tup xs =>
    cases r with
    | tup q rs =>
      have hl := rs.length
      refine sl_tup pins s σ H _ v vl vu lo hi sl Q I rx hs pl pu ⟨_, _, rfl, q.sq, by rw [← hl]; exact h.1, fun p n => k.new hp n h.2 (R.newTup hp n (rs.cut lo hi))⟩
  | lst xs =>
    cases r with
    | lst q rs => exact sl_list pins s σ H _ v vl vu lo hi sl Q I rx hs pl pu ⟨_, _, rfl, q.sq, fun p n => k.new hp n h (R.newLst hp n (rs.cut lo hi))⟩
  | scr xs =>
    cases r with
    | scr u q rs => exact sl_list pins s σ H _ v vl vu lo hi sl Q I rx hs pl pu ⟨_, _, rfl, .inl q, fun p n => k.new hp n h (R.newLst hp n (rs.cut lo hi))⟩
  | ref a =>
    cases r
    obtain ⟨xs, hg, q⟩ := h
    obtain ⟨ho, h1, vs, e, rs⟩ := hp.tr a _ hg
    subst e
    exact sl_list pins s σ H _ v vl vu lo hi sl Q I rx hs pl pu ⟨_, _, rfl, .of h1, fun p n => k.new hp n q (R.newLst hp n (rs.cut lo hi))⟩
  | _ => exact h.elim
def dSl (te : DTE) (tl th : DTO) : DTE := fun ρ G Q => te ρ G fun x G1 => tl ρ G1 fun l G2 => th ρ G2 fun u G3 => rSlD x l u G3 Q
theorem de_slice {e : Expr} {lo hi : Option Expr} {pos p2 : Pos} {te : DTE} {tl th : DTO} (he : DE X O e te) (hl : DPO X O lo tl) (hu : DPO X O hi th) : DE X O (.Subscript e (.Slice lo hi none p2) pos) (dSl te tl th) :=
  imE (pe_slice d_sl he hl hu) fun σ H Q ⟨ρ, G, Qd, E, h, k⟩ => up1 E h fun v H1 d G1 r E1 x1 h1 => ⟨ρ, G1, _, E1, h1, fun l H2 G2 hp2 x2 h2 => ⟨ρ, G2, _, E1.ext x2 hp2, h2, fun u H3 G3 hp3 x3 h3 => ⟨d, G3, Qd, r.ext (x2.trans x3), hp3, h3, k.ext ((x1.trans x2).trans x3)⟩⟩⟩
/-- xs[::-1] -/
def dRev (te : DTE) : DTE := fun ρ G Q => te ρ G fun d G1 => ∃ xs, lstD d G1 = some xs ∧ Q (.lst xs.reverse) G1
theorem de_rev {e : Expr} {te : DTE} {k : Nat} {p1 p2 p3 pos : Pos} (he : DE X O e te) : DE X O (.Subscript e (.Slice none none (some (.UnaryOp .USub (.Constant (.int 1) k p1) p2)) p3) pos) (dRev te) := imE (pe_revL he) fun σ H Q ⟨ρ, G, Qd, E, h, k⟩ =>
  up1 E h fun v H1 d G1 r E1 x1 ⟨xs, hx, q⟩ => by
    obtain ⟨a, vs, e, hq, rs⟩ := lst_of r E1.hp hx
    exact ⟨a, vs, e, .of hq, fun p n => (k.ext x1).new E1.hp n q (R.newLst E1.hp n rs.reverse)⟩
/-! ### built-in functions by values -/
abbrev DRC := List D → GH → DK → Prop
def dCB (r : DRC) (t : DTA) : DTE := fun ρ G Q => t ρ G fun ds G1 => r ds G1 Q
section
variable {x : Str} {p pos apos cpos : Pos} {e o : Expr} {es : List Expr} {t : DTA} {to : DTE} {id T : String} {r : DRC} {name : Str}
theorem de_callB (hc : CallR X (.builtin id) (upC X.K r)) (hg : Gl X x) (hm : X.mg x = none) (hv : bootBuiltins x = some (.builtin id)) (ha : DA X O (e :: es) t) (hn : x ≠ "__name__" := by decide) (hdb : (x == ("__debug__" : Str)) = false := by decide)
    (he : starEach (e :: es) X.env = (false, eval e X.env) :: starEach es X.env := by rfl) (hpl : (backTo pos (starEach es X.env)).any (·.1) = false := by rfl) : DE X O (.Call (.Name x p) (e :: es) [] pos) (dCB r t) :=
  imE (pe_callB hc hg hm hv ha hn hdb he hpl) fun σ H Q ⟨ρ, G, Qd, E, h, k⟩ => upA1 E h fun vs H1 ds G1 rs E1 x1 h1 => ⟨ds, G1, Qd, rs, E1.hp, h1, k.ext x1⟩
theorem de_callTy (hc : CallR X (.type T) (upC X.K r)) (hg : Gl X x) (hm : X.mg x = none) (hv : bootBuiltins x = some (.type T)) (ha : DA X O (e :: es) t) (hn : x ≠ "__name__" := by decide) (hdb : (x == ("__debug__" : Str)) = false := by decide)
    (he : starEach (e :: es) X.env = (false, eval e X.env) :: starEach es X.env := by rfl) (hpl : (backTo pos (starEach es X.env)).any (·.1) = false := by rfl) : DE X O (.Call (.Name x p) (e :: es) [] pos) (dCB r t) :=
  imE (pe_callTy hc hg hm hv ha hn hdb he hpl) fun σ H Q ⟨ρ, G, Qd, E, h, k⟩ => upA1 E h fun vs H1 ds G1 rs E1 x1 h1 => ⟨ds, G1, Qd, rs, E1.hp, h1, k.ext x1⟩
def rLenD : DRC := fun ds G Q => ∃ d, ds = [d] ∧ match d with
  | .str s => s.length ≤ sizeLine ∧ Q (.int s.length) G
  | d => ∃ xs, boxD d G = some xs ∧ Q (.int xs.length) G
theorem d_len : CallR X (.builtin "len") (upC X.K rLenD) := by
  intro pins s σ H xs us Q I rv ⟨ds, G, Qd, rs, hp, ⟨d, e, h⟩, k⟩
  subst e
  cases rs with
  | cons r t =>
    cases t
    have gen : (∃ xs, boxD d G.g = some xs ∧ Qd (.int xs.length) G.g) → wpAny (model X.prog X.w) X.A (call (.builtin "len") us) (EP X pins σ Q) X.xe s := by
      rintro ⟨xs, h1', q⟩
      have h1 : seqD d G.g = some xs := by cases d <;> first | exact h1' | cases h1'
      cases seq_of r hp h1 with
      | lst hq rs => exact call_len_seq pins s σ H _ us Q I rv ⟨_, _, rfl, .inl hq, by rw [← rs.length]; exact k _ _ _ _ (.int _) hp .refl q⟩
      | tup hq rs => exact call_len_seq pins s σ H _ us Q I rv ⟨_, _, rfl, .inr hq, by rw [← rs.length]; exact k _ _ _ _ (.int _) hp .refl q⟩
      | str z =>
        cases d with
        | str z' => cases h1'
        | tup _ => cases r
        | lst _ => cases r
        | scr _ => cases r
        | ref _ => cases r
        | _ => cases h1
    cases d with
    | str z =>
      cases r
      exact call_len_str pins s σ H _ us Q I rv ⟨_, rfl, by simpa [Str.length] using h.1, by simpa [Str.length] using k _ _ _ _ (.int _) hp .refl h.2⟩
    | _ => exact gen h
def rAllD : DRC := fun ds G Q => ∃ (d : D) (bs : List Bool), ds = [d] ∧ lstD d G = some (bs.map D.bl) ∧ Q (.bl (bs.all fun b => b)) G
def rAnyD : DRC := fun ds G Q => ∃ (d : D) (bs : List Bool), ds = [d] ∧ lstD d G = some (bs.map D.bl) ∧ Q (.bl (bs.any fun b => b)) G
theorem Rs.bls {K : PySem.W.Frag} {G : AS} {H : Hp} : ∀ {bs : List Bool} {vs : List V}, Rs K G H (bs.map D.bl) vs → vs = bs.map V.bl
  | [], _, .nil => rfl
  | b :: bs, _, .cons h t => by cases h; rw [Rs.bls t]; rfl
theorem d_all (hc : X.calm = true) : CallR X (.builtin "all") (upC X.K rAllD) := by
  intro pins s σ H xs us Q I rv ⟨ds, G, Qd, rs, hp, ⟨d, bs, e, h, q⟩, k⟩
  subst e
  cases rs with
  | cons r t =>
    cases t
    obtain ⟨a, vs, e, hq, rr⟩ := lst_of r hp h
    subst e
    exact cr_all hc pins s σ H _ us Q I rv ⟨a, bs, rfl, by rw [← rr.bls]; exact .of hq, k _ _ _ _ (.bl _) hp .refl q⟩
theorem d_any (hc : X.calm = true) : CallR X (.builtin "any") (upC X.K rAnyD) := by
  intro pins s σ H xs us Q I rv ⟨ds, G, Qd, rs, hp, ⟨d, bs, e, h, q⟩, k⟩
  subst e
  cases rs with
  | cons r t =>
    cases t
    obtain ⟨a, vs, e, hq, rr⟩ := lst_of r hp h
    subst e
    exact cr_any hc pins s σ H _ us Q I rv ⟨a, bs, rfl, by rw [← rr.bls]; exact .of hq, k _ _ _ _ (.bl _) hp .refl q⟩
/-- list(x), tuple(x) -/
def rListD : DRC := fun ds G Q => ∃ d xs, ds = [d] ∧ boxD d G = some xs ∧ Q (.lst xs) G
def rListM : DRC := fun ds G Q => ∃ d xs, ds = [d] ∧ boxD d G = some xs ∧ ∀ p, G p = none → Q (.ref p) (updG G p (.lst xs))
def rTupleD : DRC := fun ds G Q => ∃ d xs, ds = [d] ∧ boxD d G = some xs ∧ Q (.tup xs) G
theorem box_of {K : PySem.W.Frag} {G : AS} {H : Hp} {d : D} {v : V} {xs : List D} (r : R K G H d v) (hp : EmbH K G H) (h1' : boxD d G.g = some xs) : ∃ a vs, v = .ref a ∧ Rs K G H xs vs ∧ ((SqL K H a vs) ∨ (SqT K H a vs ∧ d = .tup xs)) := by
  have h1 : seqD d G.g = some xs := by cases d <;> first | exact h1' | cases h1'
  cases d with
  | tup ys => cases r with | tup q rs => cases h1; exact ⟨_, _, rfl, rs, .inr ⟨q.sq, rfl⟩⟩
  | str z => cases h1'
  | lst ys => cases r with | lst q rs => cases h1; exact ⟨_, _, rfl, rs, .inl q.sq⟩
  | scr ys => cases r with | scr u q rs => cases h1; exact ⟨_, _, rfl, rs, .inl (.inl q)⟩
  | ref a =>
    cases r
    have h2 : lstD (.ref a) G.g = some xs := h1
    obtain ⟨a', vs, e, q, rs⟩ := lst_of (.ref a) hp h2
    cases e
    exact ⟨_, _, rfl, rs, .inl (.of q)⟩
  | _ => cases h1
theorem d_list : CallR X (.type "list") (upC X.K rListD) := by
  intro pins s σ H xs us Q I rv ⟨ds, G, Qd, rs, hp, ⟨d, ys, e, h, q⟩, k⟩
  subst e
  cases rs with
  | cons r t =>
    cases t
    obtain ⟨a, vs, e, rr, hq⟩ := box_of r hp h
    subst e
    exact call_list_of pins s σ H _ us Q I rv ⟨a, vs, rfl, hq.imp id (·.1), fun p n => k.new hp n q (R.newLst hp n rr)⟩
theorem d_listM : CallR X (.type "list") (upC X.K rListM) := by
  intro pins s σ H xs us Q I rv ⟨ds, G, Qd, rs, hp, ⟨d, ys, e, h, q⟩, k⟩
  subst e
  cases rs with
  | cons r t =>
    cases t
    obtain ⟨a, vs, e, rr, hq⟩ := box_of r hp h
    subst e
    exact call_list_of pins s σ H _ us Q I rv ⟨a, vs, rfl, hq.imp id (·.1), fun p n => k _ _ _ (G.put p (.lst ys)) (.ref p) (EmbH.newG (u := .lst ys) hp n ⟨vs, rfl, rr⟩) (Ext.newG n) (q p (hp.free n))⟩
theorem d_tuple : CallR X (.type "tuple") (upC X.K rTupleD) := by
  intro pins s σ H xs us Q I rv ⟨ds, G, Qd, rs, hp, ⟨d, ys, e, h, q⟩, k⟩
  subst e
  cases rs with
  | cons r t =>
    cases t
    obtain ⟨a, vs, e, rr, hq⟩ := box_of r hp h
    subst e
    rcases hq with hq | ⟨hq, e⟩
    · exact call_tuple_of pins s σ H _ us Q I rv ⟨a, vs, rfl, .inl ⟨hq, fun p n => k.new hp n q (R.newTup hp n rr)⟩⟩
    · subst e
      exact call_tuple_of pins s σ H _ us Q I rv ⟨a, vs, rfl, .inr ⟨hq, k _ _ _ _ r hp .refl q⟩⟩
/-- int(x), str(x) of small ones -/
def rIntD : DRC := fun ds G Q => ∃ d, ds = [d] ∧ match d with
  | .int i => Q (.int i) G
  | .bl b => Q (.int (if b then 1 else 0)) G
  | .str x => x.length ≤ 640 ∧ ∃ n, PySem.intText? ⟨x.toArray⟩ = some n ∧ Q (.int n) G
  | _ => False
theorem d_int : CallR X (.type "int") (upC X.K rIntD) := by
  intro pins s σ H xs us Q I rv ⟨ds, G, Qd, rs, hp, ⟨d, e, h⟩, k⟩
  subst e
  cases rs with
  | cons r t =>
    cases t
    cases d with
    | int i => cases r; exact call_int1 pins s σ H _ us Q I rv (.inl ⟨i, rfl, k _ _ _ _ (.int _) hp .refl h⟩)
    | bl i => cases r; exact call_int1 pins s σ H _ us Q I rv (.inr ⟨i, rfl, k _ _ _ _ (.int _) hp .refl h⟩)
    | str z =>
      cases r
      obtain ⟨hz, n, hn, q⟩ := h
      exact call_int_str pins s σ H _ us Q I rv ⟨_, n, rfl, hn, by simpa [Str.length] using hz, k _ _ _ _ (.int _) hp .refl q⟩
    | _ => exact h.elim
def numD (i : Int) : List Nat := (Str.ofString (toString i)).cps.toList
def rStrD : DRC := fun ds G Q => ∃ i, ds = [.int i] ∧ i.natAbs.log2 < 1920 ∧ Q (.str (numD i)) G
theorem d_str : CallR X (.type "str") (upC X.K rStrD) := by
  intro pins s σ H xs us Q I rv ⟨ds, G, Qd, rs, hp, ⟨i, e, hz, q⟩, k⟩
  subst e
  cases rs with
  | cons r t =>
    cases t
    cases r
    exact call_str_int pins s σ H _ us Q I rv ⟨i, rfl, hz, k _ _ _ _ (R.str' _) hp .refl q⟩
end
end
end DL
set_option Elab.async false
set_option linter.all false
set_option maxRecDepth 100000
/-! The D-layer: isinstance, methods of texts and lists, f-strings, stars, dicts with text keys. -/
namespace DL
open PySem PySem.Spec PyProof.Rows L2
variable {O : AS × Hp}
section
variable {X : Cx}
theorem de_bltn {x : Str} {n : String} {pos : Pos} (hg : Gl X x) (hm : X.mg x = none) (hv : bootBuiltins x = some (.type n)) (hn : x ≠ "__name__" := by decide) (hd : (x == ("__debug__" : Str)) = false := by decide) : DE X O (.Name x pos) (dC (.ty n)) :=
  de_c (pe_bltn (v := .ty n) hg hm hv rfl hn hd) fun _ _ => .ty n
/-! ### isinstance -/
def tyN : D → GH → Option String
  | .non, _ => some "NoneType"
  | .bl _, _ => some "bool"
  | .int _, _ => some "int"
  | .str _, _ => some "str"
  | .tup _, _ => some "tuple"
  | .lst _, _ => some "list"
  | .dic _, _ => some "dict"
  | .ref a, G => match G a with | some (.lst _) => some "list" | some (.dic _) => some "dict" | _ => none
  | _, _ => none
def isT (n t : String) : Bool := n == t || (n == "bool" && t == "int")
abbrev tyNs : List String := ["NoneType", "bool", "int", "str", "tuple", "list", "dict"]
abbrev tyTs : List String := ["bool", "int", "str", "tuple", "list", "dict"]
theorem kitB_isT : ∀ n ∈ tyNs, ∀ t ∈ tyTs, kitB n t = some (isT n t) := by decide +kernel
theorem tyN_mem {d : D} {G : GH} {n : String} (h : tyN d G = some n) : n ∈ tyNs := by
  cases d with
  | ref a =>
    unfold tyN at h
    dsimp only at h
    cases e : G a with
    | none => rw [e] at h; cases h
    | some o =>
      rw [e] at h
      cases o with
      | lst _ => cases h; simp
      | dic _ => cases h; simp
      | _ => cases h
  | _ => first | (cases h; simp; done) | cases h
theorem tyN_of {K : PySem.W.Frag} {G : AS} {H : Hp} {d : D} {v : V} {n : String} (r : R K G H d v) (hp : EmbH K G H) (h : tyN d G.g = some n) : TyX K H v (.type n) := by
  cases r with
  | non => cases h; exact .base .non
  | bl b => cases h; exact .base (.bl b)
  | int i => cases h; exact .base (.int i)
  | str x => cases h; exact .base (.str _)
  | tup q _ =>
    cases h
    rcases q with ⟨_, q⟩ | ⟨o, its, m, q, c, _⟩
    · exact .base (.tup q)
    · exact .kTuple q c
  | lst q _ => cases h; exact .base (.lst q.2)
  | dic u q _ => cases h; exact .base (.dK q)
  | ref a =>
    unfold tyN at h
    dsimp only at h
    cases e : G.g a with
    | none => rw [e] at h; cases h
    | some o =>
      rw [e] at h
      cases o with
      | lst xs => cases h; obtain ⟨ho, h1, vs, e2, _⟩ := hp.tr a _ e; subst e2; exact .base (.lst h1)
      | dic xs => cases h; obtain ⟨ho, h1, vs, e2, _⟩ := hp.tr a _ e; subst e2; exact .base (.dK h1)
      | _ => cases h
  | _ => cases h
def rIsiD : DRC := fun ds G Q => ∃ d n, tyN d G = some n ∧
  ((∃ t, ds = [d, .ty t] ∧ t ∈ tyTs ∧ Q (.bl (isT n t)) G) ∨ ∃ ts : List String, ds = [d, .tup (ts.map D.ty)] ∧ (∀ t ∈ ts, t ∈ tyTs) ∧ Q (.bl (ts.any (isT n))) G)
theorem Rs.tys {K : PySem.W.Frag} {G : AS} {H : Hp} : ∀ {ts : List String} {vs : List V}, Rs K G H (ts.map D.ty) vs → vs = ts.map V.ty
  | [], _, .nil => rfl
  | b :: bs, _, .cons h t => by cases h; rw [Rs.tys t]; rfl
theorem clsV_tys : ∀ ts : List String, Paired ClsV (ts.map V.ty) (ts.map Value.type)
  | [] => .nil
  | t :: ts => .cons (.ty t) (clsV_tys ts)
theorem vals_tys : ∀ {ts : List String} {us : List Value}, Vals (ts.map V.ty) us → us = ts.map Value.type
  | [], _, .nil => rfl
  | t :: ts, _, .cons h r => by
    have e : _ = Value.type t := h
    rw [e, vals_tys r]; rfl
theorem kitAny_tys {K : PySem.W.Frag} {n : String} (hn : n ∈ tyNs) : ∀ {ts : List String}, (∀ t ∈ ts, t ∈ tyTs) → PySem.W.kitAny K (.type n) (ts.map Value.type) = some (ts.any (isT n))
  | [], _ => rfl
  | t :: ts, h => by
    have e := kit_ty (K := K) (kitB_isT n hn t (h t List.mem_cons_self))
    have ih := kitAny_tys (K := K) hn (ts := ts) fun x hx => h x (List.mem_cons_of_mem _ hx)
    show (match PySem.W.kitOne K (.type n) (.type t) with | some true => some true | some false => PySem.W.kitAny K (.type n) (ts.map Value.type) | none => none) = _
    rw [e]
    cases q : isT n t with
    | true => simp [q]
    | false => simp [q, ih]
theorem d_isi : CallR X (.builtin "isinstance") (upC X.K rIsiD) := by
  intro pins s σ H xs us Q I rv ⟨ds, G, Qd, rs, hp, ⟨d, n, hn, h⟩, k⟩
  have hm := tyN_mem hn
  rcases h with ⟨t, e, ht, q⟩ | ⟨ts, e, ht, q⟩
  · subst e
    cases rs with
    | cons r r2 =>
      cases r2 with
      | cons r2 r3 =>
        cases r3
        cases r2
        exact call_isi pins s σ H _ us Q I rv ⟨_, .ty t, _, .type t, isT n t, rfl, .ty t, tyN_of r hp hn, kit_ty (kitB_isT n hm t ht), k _ _ _ _ (.bl _) hp .refl q⟩
  · subst e
    cases rs with
    | cons r r2 =>
      cases r2 with
      | cons r2 r3 =>
        cases r3
        cases r2 with
        | tup hq rts =>
          have ev := rts.tys
          subst ev
          rcases hq with ⟨_, hq⟩ | ⟨o, its, m, hk, c, dt, hz, vv⟩
          · exact call_isiT pins s σ H _ us Q I rv ⟨_, _, _, _, _, _, rfl, hq, clsV_tys ts, tyN_of r hp hn, kitAny_tys hm ht, k _ _ _ _ (.bl _) hp .refl q⟩
          · obtain ⟨oc, od, odt, sl⟩ := o
            simp only at c dt
            subst c dt
            have ei : its = (ts.map Value.type).toArray := by
              have := vals_tys vv
              rw [← this]
            subst ei
            exact call_isiK pins s σ H _ us Q I rv ⟨_, _, _, _, _, _, _, _, rfl, hk, tyN_of r hp hn, kitAny_tys hm ht, k _ _ _ _ (.bl _) hp .refl q⟩
/-! ### methods of built-in values -/
def tyM (T : String) (d : D) (G : GH) : Prop := match d with
  | .str _ => T = "str"
  | d => T = "list" ∧ ∃ xs, lstD d G = some xs
abbrev DRM := D → List D → GH → DK → Prop
def dBM (T : String) (r : DRM) (to : DTE) (t : DTA) : DTE := fun ρ G Q => to ρ G fun d G1 => tyM T d G1 ∧ t ρ G1 fun ds G2 => r d ds G2 Q
theorem tyM_of {K : PySem.W.Frag} {G : AS} {H : Hp} {T : String} {d : D} {v : V} (r : R K G H d v) (hp : EmbH K G H) (h : tyM T d G.g) : tyV K T v H := by
  have gen : (T = "list" ∧ ∃ xs, lstD d G.g = some xs) → tyV K T v H := fun ⟨e, xs, h⟩ => by
    obtain ⟨a, vs, ev, hq, _⟩ := lst_of r hp h
    subst ev e
    exact .inl ⟨rfl, vs, .of hq⟩
  cases d with
  | str x => cases r; exact h
  | _ => exact gen h
section
variable {o e : Expr} {es : List Expr} {to : DTE} {t : DTA} {name : Str} {apos cpos : Pos} {T id : String} {r : DRM}
theorem de_bm0 (pa : PlainAttrs T) (slot : Slot T name id) (hty : typeOf (.builtin id) = pure (.type "method_descriptor")) (hm : MtR X id (upM X.K r)) (ho : DE X O o to)
    (hbase : attributeBase o name X.env (eval o X.env) = eval o X.env := by rfl) (hline : (apos.endLine == cpos.line) = true := by rfl) : DE X O (.Call (.Attribute o name apos) [] [] cpos) (dBM T r to dNil) :=
  imE (pe_bm0 pa slot hty hm ho hbase hline) fun σ H Q ⟨ρ, G, Qd, E, h, k⟩ => up1 E h fun v H1 d G1 rd E1 x1 ⟨ty, h1⟩ => ⟨tyM_of rd E1.hp ty, d, [], G1, Qd, rd, .nil, E1.hp, h1, k.ext x1⟩
theorem de_bm (pa : PlainAttrs T) (slot : Slot T name id) (hty : typeOf (.builtin id) = pure (.type "method_descriptor")) (hm : MtR X id (upM X.K r)) (ho : DE X O o to) (ha : DA X O (e :: es) t)
    (hbase : attributeBase o name X.env (eval o X.env) = eval o X.env := by rfl)
    (hfew : ((backTo cpos (starEach (e :: es) X.env)).all (fun x => !x.1) && (backToKw cpos (keywordEach [] X.env)).all (fun x => x.1.isSome)
      && decide ((e :: es).length + ([] : List Keyword).length + (if ([] : List Keyword).isEmpty then 0 else 1) < 30)) = true := by rfl)
    (hline : (apos.endLine == cpos.line) = true := by rfl) (hs : starEach (e :: es) X.env = (false, eval e X.env) :: starEach es X.env := by rfl) (hplain : (backTo cpos (starEach es X.env)).any (·.1) = false := by rfl) :
    DE X O (.Call (.Attribute o name apos) (e :: es) [] cpos) (dBM T r to t) :=
  imE (pe_bm pa slot hty hm ho ha hbase hfew hline hs hplain) fun σ H Q ⟨ρ, G, Qd, E, h, k⟩ => up1 E h fun v H1 d G1 rd E1 x1 ⟨ty, h1⟩ => ⟨tyM_of rd E1.hp ty, upA1 E1 h1 fun vs H2 ds G2 rs E2 x2 h2 => ⟨d, ds, G2, Qd, rd.ext x2, rs, E2.hp, h2, k.ext (x1.trans x2)⟩⟩
end
/-- s.split(c), sep.join(xs) -/
def splitD (b a : List Nat) : List (List Nat) := TL.spl b 0 [] a
def rSplitD : DRM := fun d ds G Q => ∃ a b, d = .str a ∧ ds = [.str b] ∧ b ≠ [] ∧ b.all (· < 256) = true ∧ a.length + 2 ≤ sizeLine ∧ Q (.lst ((splitD b a).map D.str)) G
theorem Rs.strs {K : PySem.W.Frag} {G : AS} {H : Hp} : ∀ (ys : List (List Nat)), Rs K G H (ys.map D.str) ((ys.map SX.S).map V.str)
  | [] => .nil
  | y :: ys => .cons (.str y) (Rs.strs ys)
theorem Rs.strs' {K : PySem.W.Frag} {G : AS} {H : Hp} : ∀ {ys : List (List Nat)} {vs : List V}, Rs K G H (ys.map D.str) vs → vs = (ys.map SX.S).map V.str
  | [], _, .nil => rfl
  | y :: ys, _, .cons h t => by cases h; rw [Rs.strs' t]; rfl
theorem d_split : MtR X "str.split" (upM X.K rSplitD) := by
  intro pins s σ H x xs v us Q I rx rxs ⟨d, ds, G, Qd, r1, r2, hp, ⟨a, b, e1, e2, hb, hk, hz, q⟩, k⟩
  subst e1 e2
  cases r1
  cases r2 with
  | cons r3 r4 =>
    cases r3
    cases r4
    refine mt_split pins s σ H _ _ v us Q I rx rxs ⟨_, _, rfl, rfl, ?_, by simpa [Str.length] using hz, ?_⟩
    · have : b.length ≠ 0 := fun z => hb (List.length_eq_zero_iff.mp z)
      simp [Str.length, this]
    · rw [show Txt.split ⟨a.toArray⟩ ⟨b.toArray⟩ = (splitD b a).map SX.S from SX.split_S hb hk]
      intro p n
      exact k.new hp n q (R.newLst hp n (Rs.strs _))
def joinD (a : List Nat) (ys : List (List Nat)) : List Nat := TL.joinL a ys
def rJoinD : DRM := fun d ds G Q => ∃ a e ys, d = .str a ∧ ds = [e] ∧ boxD e G = some (ys.map D.str) ∧ (ys.map (·.length)).sum + ys.length * a.length ≤ 16777216 ∧ Q (.str (joinD a ys)) G
theorem d_join : MtR X "str.join" (upM X.K rJoinD) := by
  intro pins s σ H x xs v us Q I rx rxs ⟨d, ds, G, Qd, r1, r2, hp, ⟨a, e, ys, e1, e2, hb, hz, q⟩, k⟩
  subst e1 e2
  cases r1
  cases r2 with
  | cons r3 r4 =>
    cases r4
    obtain ⟨p, vs, ev, rr, hq⟩ := box_of r3 hp hb
    subst ev
    have e3 := rr.strs'
    subst e3
    refine mt_join pins s σ H _ _ v us Q I rx rxs ⟨_, p, ys.map SX.S, rfl, rfl, hq.imp id (·.1), ?_, ?_⟩
    · rw [SX.lens]; simpa [Str.length] using hz
    · rw [show Txt.join ⟨a.toArray⟩ (ys.map SX.S) = ⟨(joinD a ys).toArray⟩ from SX.join_S a ys]
      exact k _ _ _ _ (.str _) hp .refl q
/-- xs.append(x) of a tracked list -/
def rAppD : DRM := fun d ds G Q => ∃ p xs y, d = .ref p ∧ ds = [y] ∧ G p = some (.lst xs) ∧ xs.length < sizeLine ∧ Q .non (updG G p (.lst (xs ++ [y])))
theorem d_append : MtR X "list.append" (upM X.K rAppD) := by
  intro pins s σ H x xs v us Q I rx rxs ⟨d, ds, G, Qd, r1, r2, hp, ⟨p, ys, y, e1, e2, hg, hz, q⟩, k⟩
  subst e1 e2
  cases r1
  cases r2 with
  | cons r3 r4 =>
    cases r4
    obtain ⟨ho, h1, vs, e, rs⟩ := hp.tr p _ hg
    subst e
    have hn : G.g p ≠ none := by rw [hg]; simp
    exact mt_append pins s σ H _ _ v us Q I rx rxs ⟨p, vs, _, rfl, rfl, h1, by rw [← rs.length]; exact hz, k _ _ _ (G.put p (.lst (ys ++ [y]))) .non (EmbH.put (u := .lst (ys ++ [y])) hp hn ⟨_, rfl, rs.snoc r3⟩) (Ext.put hn) q⟩
def rExtD : DRM := fun d ds G Q => ∃ p xs e ys, d = .ref p ∧ ds = [e] ∧ G p = some (.lst xs) ∧ lstD e G = some ys ∧ xs.length + ys.length ≤ sizeLine ∧ Q .non (updG G p (.lst (xs ++ ys)))
theorem d_extend : MtR X "list.extend" (upM X.K rExtD) := by
  intro pins s σ H x xs v us Q I rx rxs ⟨d, ds, G, Qd, r1, r2, hp, ⟨p, ys, y, zs, e1, e2, hg, hl, hz, q⟩, k⟩
  subst e1 e2
  cases r1
  cases r2 with
  | cons r3 r4 =>
    cases r4
    obtain ⟨ho, h1, vs, e, rs⟩ := hp.tr p _ hg
    subst e
    obtain ⟨b, ws, ev, hb, rw'⟩ := lst_of r3 hp hl
    subst ev
    have hn : G.g p ≠ none := by rw [hg]; simp
    exact mt_extend pins s σ H _ _ v us Q I rx rxs ⟨p, b, vs, ws, rfl, rfl, h1, hb, by rw [← rs.length, ← rw'.length]; exact hz, k _ _ _ (G.put p (.lst (ys ++ zs))) .non (EmbH.put (u := .lst (ys ++ zs)) hp hn ⟨_, rfl, rs.append rw'⟩) (Ext.put hn) q⟩
/-- xs.index(x), the first equal one -/
def rIdxD : DRM := fun d ds G Q => ∃ xs y j, lstD d G = some xs ∧ ds = [y] ∧ okD (.lst xs) ∧ okD y ∧ xs.findIdx? (fun z => eqD z y) = some j ∧ Q (.int (j : Nat)) G
theorem d_index (hu : X.A.units + 65 < cLine) : MtR X "list.index" (upM X.K rIdxD) := by
  intro pins s σ H x xs v us Q I rx rxs ⟨d, ds, G, Qd, r1, r2, hp, ⟨ys, y, j, hl, e2, o1, o2, hj, q⟩, k⟩
  subst e2
  cases r2 with
  | cons r3 r4 =>
    cases r4
    obtain ⟨a, vs, ev, hq, rs⟩ := lst_of r1 hp hl
    subst ev
    obtain ⟨hlt, hj1, hj2⟩ := List.findIdx?_eq_some_iff_getElem.mp hj
    have o1' : ys.all (okN 49) = true := o1
    have sl := okD_shaped o1
    refine mt_indexD hu pins s σ H _ _ v us Q I rx rxs ⟨a, _, pyD y, pyDs ys, j, pyD ys[j], rfl, rfl, .lst (.of hq) (Rs.dp rs 49 o1'), R.dp r3 50 o2, by simpa [pyD] using sl, okD_shaped o2, by rw [pyDs_map]; simp [hlt], hj1, fun m z hm hz => ?_, k _ _ _ _ (.int _) hp .refl q⟩
    rw [pyDs_map, List.getElem?_map] at hz
    have hm' : m < ys.length := by omega
    rw [List.getElem?_eq_getElem hm'] at hz
    cases hz
    have := hj2 m hm
    simpa [eqD] using this
/-! ### stars -/
def dStar (te : DTE) (t : DTA) : DTA := fun ρ G Q => te ρ G fun d G1 => ∃ xs, boxD d G1 = some xs ∧ t ρ G1 fun ys G2 => Q (xs ++ ys) G2
theorem da_star {e : Expr} {p : Pos} {es : List Expr} {te : DTE} {t : DTA} (he : DE X O e te) (hr : DA X O es t) (hs : starEach (.Starred e p :: es) X.env = (true, eval e X.env) :: starEach es X.env := by rfl) : DA X O (.Starred e p :: es) (dStar te t) :=
  imA (StX.pa_star he hr hs) fun σ H Q ⟨ρ, G, Qd, E, h, k⟩ => up1 E h fun v H1 d G1 r E1 x1 ⟨xs, hx, h1⟩ => by
    obtain ⟨a, vs, ev, rs, hq⟩ := box_of r E1.hp hx
    exact ⟨a, vs, ev, hq.symm.imp (·.1) id, upA1 E1 h1 fun ws H2 ys G2 rw' E2 x2 h2 => k _ _ _ _ ((rs.ext x2).append rw') E2.hp (x1.trans x2) h2⟩
/-! ### f-strings -/
def dFmt (te : DTE) : DTE := fun ρ G Q => te ρ G fun d G1 => match d with
  | .str y => y.length ≤ sizeLine ∧ Q (.str y) G1
  | .int i => i.natAbs.log2 < 1920 ∧ Q (.str (numD i)) G1
  | _ => False
theorem de_fmt {e : Expr} {te : DTE} {pos : Pos} (he : DE X O e te) : DE X O (.FormattedValue e (-1) none pos) (dFmt te) := imE (pe_fmt he) fun σ H Q ⟨ρ, G, Qd, E, h, k⟩ => up1 E h fun v H1 d G1 r E1 x1 h1 => by
  cases d with
  | str y => cases r; exact .inl ⟨_, rfl, by simpa [Str.length] using h1.1, k _ _ _ _ (.str y) E1.hp x1 h1.2⟩
  | int i => cases r; exact .inr ⟨i, rfl, h1.1, k _ _ _ _ (R.str' _) E1.hp x1 h1.2⟩
  | _ => exact h1.elim
inductive DJ (X : Cx) (O : AS × Hp) : List Expr → List DTE → Prop where
  | nil : DJ X O [] []
  | cons {e : Expr} {t : DTE} {es : List Expr} {ts : List DTE} (h : DE X O e t) (r : DJ X O es ts) : DJ X O (e :: es) (t :: ts)
theorem dj_nil : DJ X O [] [] := .nil
theorem dj_cons {e : Expr} {t : DTE} {es : List Expr} {ts : List DTE} (h : DE X O e t) (r : DJ X O es ts) : DJ X O (e :: es) (t :: ts) := .cons h r
theorem DJ.pj {es : List Expr} {ts : List DTE} (h : DJ X O es ts) : PJ X es (ts.map (upE X.K O)) := by
  induction h with
  | nil => exact .nil
  | cons h r ih => exact .cons h ih
def dJs : List DTE → List Nat → DSt → GH → (List Nat → GH → Prop) → Prop
  | [], acc, _, G, Q => Q acc G
  | t :: ts, acc, ρ, G, Q => t ρ G fun d G1 => ∃ y, d = .str y ∧ acc.length + y.length ≤ sizeLine ∧ dJs ts (acc ++ y) ρ G1 Q
theorem js_up {K : PySem.W.Frag} {ρ : DSt} {σ : St} {Q : Str → Hp → Prop} {Qd : List Nat → GH → Prop} : ∀ {ts : List DTE} {acc : List Nat} {G : AS} {H : Hp}, Emb K O ρ G σ H → dJs ts acc ρ G.g Qd →
    (∀ acc H' G', Emb K O ρ G' σ H' → Ext G H G' H' → Qd acc G'.g → Q ⟨acc.toArray⟩ H') → tJs (ts.map (upE K O)) ⟨acc.toArray⟩ σ H Q
  | [], acc, G, H, E, h, k => k acc H G E .refl h
  | t :: ts, acc, G, H, E, h, k => by
    refine up1 E h fun v H1 d G1 r E1 x1 ⟨y, e, hz, h1⟩ => ?_
    subst e
    cases r
    refine ⟨_, rfl, ?_, ?_⟩
    · rw [str_app]; simpa [Str.length] using hz
    · rw [str_app]
      exact js_up E1 h1 fun a H' G' E' x q => k a H' G' E' (x1.trans x) q
def dJoined (ts : List DTE) : DTE := fun ρ G Q => dJs ts [] ρ G fun y G1 => Q (.str y) G1
theorem de_joined {v1 v2 : Expr} {rest : List Expr} {ts : List DTE} {pos : Pos} (h : DJ X O (v1 :: v2 :: rest) ts) : DE X O (.JoinedStr (v1 :: v2 :: rest) pos) (dJoined ts) := imE (pe_joined h.pj) fun σ H Q ⟨ρ, G, Qd, E, h, k⟩ =>
  js_up (acc := []) E h fun acc H' G' E' x q => k _ _ _ _ (.str acc) E'.hp x q
theorem de_joined1 {e : Expr} {te : DTE} {pos : Pos} (he : DE X O e te) : DE X O (.JoinedStr [e] pos) te := pe_joined1 he
/-! ### dicts with int and text keys -/
def keyOf : D → Option Key
  | .int i => some (.inl i)
  | .str x => some (.inr ⟨x.toArray⟩)
  | _ => none
def dicD : D → GH → Option (List (D × D))
  | .dic kvs, _ => some kvs
  | .ref a, G => match G a with | some (.dic kvs) => some kvs | _ => none
  | _, _ => none
def keyE : D → D → Bool
  | .int i, .int j => decide (i = j)
  | .str x, .str y => decide (x = y)
  | _, _ => false
def getK (k : D) : List (D × D) → Option D
  | [] => none
  | (x, d) :: r => if keyE x k = true then some d else getK k r
theorem keyD_of {k : D} {q : Key} (h : keyOf k = some q) : keyD q = k := by
  cases k with
  | int i => cases h; rfl
  | str x => cases h; simp [keyD]
  | _ => cases h
theorem keyE_iff {k : D} {q : Key} (h : keyOf k = some q) (p : Key) : keyE (keyD p) k = decide (p = q) := by
  cases k with
  | int i =>
    cases h
    cases p with
    | inl j => simp [keyD, keyE]
    | inr x => simp [keyD, keyE]
  | str x =>
    cases h
    cases p with
    | inl j => simp [keyD, keyE]
    | inr y =>
      simp only [keyD, keyE]
      congr 1
      refine propext ⟨fun e => ?_, fun e => ?_⟩
      · rw [← e]
      · cases e; simp
  | _ => cases h
theorem Rk.get {K : PySem.W.Frag} {G : AS} {H : Hp} {k : D} {q : Key} (hk : keyOf k = some q) : ∀ {kvs : List (D × D)} {ws : List (Key × V)}, Rk K G H kvs ws → match getK k kvs with | some d => ∃ v, valV ws q = some v ∧ R K G H d v | none => valV ws q = none
  | _, _, .nil => rfl
  | _, _, .cons (ds := ds) (vs := vs) p (d := d) (v := v) h t => by
    unfold getK
    rw [keyE_iff hk]
    by_cases e : p = q
    · simp only [e, decide_true, if_true]
      exact ⟨v, valV_pos rfl, h⟩
    · simp only [e, decide_false, Bool.false_eq_true, if_false]
      have ih := Rk.get hk t
      rw [valV_neg e]
      exact ih
theorem dic_of {K : PySem.W.Frag} {G : AS} {H : Hp} {d : D} {v : V} {kvs : List (D × D)} (r : R K G H d v) (hp : EmbH K G H) (h : dicD d G.g = some kvs) : ∃ a ws, v = .ref a ∧ H a = some (.dK ws) ∧ Rk K G H kvs ws := by
  cases r with
  | dic u q rk => cases h; exact ⟨_, _, rfl, q, rk⟩
  | ref a =>
    unfold dicD at h
    dsimp only at h
    cases e : G.g a with
    | none => rw [e] at h; cases h
    | some o =>
      rw [e] at h
      cases o with
      | dic ys =>
        cases h
        obtain ⟨ho, e2, vs, e3, rs⟩ := hp.tr a _ e
        subst e3
        exact ⟨a, vs, rfl, e2, rs⟩
      | _ => cases h
  | _ => cases h
end
end DL
set_option Elab.async false
set_option linter.all false
set_option maxRecDepth 100000
/-! The D-layer: defs by names. -/
namespace DL
open PySem PySem.Spec PyProof.Rows L2
variable {O : AS × Hp}
/-- a def of the module, as its callers use it (no defaults) -/
structure FnK (P : Program) (w : World) (K : PySem.W.Frag) (mg : Str → Option Value) (base : Heap) (x : String) (k : Nat) (ps : List Str) (sp : DSp) : Prop where
  ex : ∃ fd, FnOk P w K mg base (L2N.CX P w) k (gaS K x) fd ps (spUp K sp) ∧ Binds K fd ps []
  gl : mg (Str.ofString x) = some (.ref (gaS K x))
  kp : PySem.W.keepIn K (.ref (gaS K x)) = true
section
variable {X : Cx} {k : Nat} {ps : List Str} {sp : DSp} {Ed : DXK} {E : XK} {x : String} {p pos : Pos} {e : Expr} {es : List Expr} {t : DTA}
theorem de_callF (F : FnK X.prog X.w X.K X.mg X.base x k ps sp) (hr : Room k X.A) (xo : XO X O Ed E) (ha : DA X O (e :: es) t) (hg : Gl X (Str.ofString x) := by rfl) (hdb : (Str.ofString x == ("__debug__" : Str)) = false := by decide) (he : starEach (e :: es) X.env = (false, eval e X.env) :: starEach es X.env := by rfl) (hpl : (backTo pos (starEach es X.env)).any (·.1) = false := by rfl) :
    DE X O (.Call (.Name (Str.ofString x) p) (e :: es) [] pos) (dCall sp Ed t []) := by
  obtain ⟨fd, F1, b⟩ := F.ex
  exact de_call F1 hr hg F.gl F.kp b .nil (fun _ _ => .nil) xo ha hdb he hpl
theorem de_callF0 (F : FnK X.prog X.w X.K X.mg X.base x k ps sp) (hr : Room k X.A) (xo : XO X O Ed E) (hg : Gl X (Str.ofString x) := by rfl) (hdb : (Str.ofString x == ("__debug__" : Str)) = false := by decide) :
    DE X O (.Call (.Name (Str.ofString x) p) [] [] pos) (dCall sp Ed dNil []) := by
  obtain ⟨fd, F1, b⟩ := F.ex
  exact de_call0 F1 hr hg F.gl F.kp b .nil (fun _ _ => .nil) xo hdb
end
end DL
set_option Elab.async false
set_option linter.all false
set_option maxRecDepth 100000
set_option maxHeartbeats 2000000
/-! Own exceptions whose __init__ says super().__init__('..'); self.f = f; self.code = '..' -/
namespace PySem
namespace EXI
open PySem.W PySem.Calls PyProof.Rows Builtin Builtin.ObjectAttr
structure BaseX (B newId initId : String) (bmB : List Value) : Prop where
  fb : ExcBaseFacts B newId initId bmB
  sf : StoreFacts B bmB "object.__setattr__" "object"
  kf : KxsFacts B initId
theorem bxV : BaseX "ValueError" "ValueError.__new__" "ValueError.__init__" [.type "ValueError", .type "Exception", .type "BaseException", .type "object"] := ⟨F.excBase_ValueError, F.store_ValueError, kxs_ValueError⟩
theorem bxL : BaseX "LookupError" "LookupError.__new__" "LookupError.__init__" [.type "LookupError", .type "Exception", .type "BaseException", .type "object"] := ⟨F.excBase_LookupError, F.store_LookupError, kxs_LookupError⟩
theorem bxI : BaseX "IndexError" "IndexError.__new__" "IndexError.__init__" [.type "IndexError", .type "LookupError", .type "Exception", .type "BaseException", .type "object"] := ⟨F.excBase_IndexError, F.store_IndexError, kxs_IndexError⟩
/-- what a field gets: a parameter, a text -/
inductive Src where
  | par (x : Str) | con (c : Str)
  deriving DecidableEq
inductive AsS : List Stmt → List (Str × Src) → Prop
  | nil : AsS [] []
  | par {f x : Str} {p1 p2 p3 p4 : Pos} {ss : List Stmt} {l : List (Str × Src)} (t : AsS ss l) : AsS (.Assign [.Attribute (.Name "self" p1) f p2] (.Name x p3) p4 :: ss) ((f, .par x) :: l)
  | con {f c : Str} {j : Nat} {p1 p2 p3 p4 : Pos} {ss : List Stmt} {l : List (Str × Src)} (t : AsS ss l) : AsS (.Assign [.Attribute (.Name "self" p1) f p2] (.Constant (.str c) j p3) p4 :: ss) ((f, .con c) :: l)
def asS : List Stmt → Option (List (Str × Src))
  | [] => some []
  | .Assign [.Attribute (.Name s _) f _] (.Name x _) _ :: ss => if s = "self" then (asS ss).map fun l => (f, .par x) :: l else none
  | .Assign [.Attribute (.Name s _) f _] (.Constant (.str c) _ _) _ :: ss => if s = "self" then (asS ss).map fun l => (f, .con c) :: l else none
  | _ => none
theorem asS_ok : ∀ {ss : List Stmt} {l : List (Str × Src)}, asS ss = some l → AsS ss l := by
  intro ss
  induction ss with
  | nil =>
    intro l h
    have h : some [] = some l := h
    cases h
    exact .nil
  | cons s ss ih =>
    intro l h
    unfold asS at h
    split at h
    · rename_i q; cases q
    · rename_i q
      cases q
      split at h
      · rename_i e
        obtain ⟨l', h1, h2⟩ := Option.map_eq_some_iff.mp h
        subst e h2
        exact .par (ih h1)
      · cases h
    · rename_i q
      cases q
      split at h
      · rename_i e
        obtain ⟨l', h1, h2⟩ := Option.map_eq_some_iff.mp h
        subst e h2
        exact .con (ih h1)
      · cases h
    · cases h
/-- the whole body -/
inductive BodS : List Stmt → List (Str × Src) → Prop
  | mk {m : Str} {j : Nat} {p0 p1 p2 p3 p4 p5 : Pos} {ss : List Stmt} {l : List (Str × Src)} (hp : (p2.endLine == p4.line) = true) (t : AsS ss l) : BodS (.Expr (.Call (.Attribute (.Call (.Name "super" p0) [] [] p1) "__init__" p2) [.Constant (.str m) j p3] [] p4) p5 :: ss) l
def bodS : List Stmt → Option (List (Str × Src))
  | .Expr (.Call (.Attribute (.Call (.Name s _) [] [] _) i p2) [.Constant (.str m) _ _] [] p4) _ :: ss => if s = "super" ∧ i = "__init__" ∧ (p2.endLine == p4.line) = true then asS ss else none
  | _ => none
theorem bodS_ok {ss : List Stmt} {l : List (Str × Src)} (h : bodS ss = some l) : BodS ss l := by
  unfold bodS at h
  split at h
  · split at h
    · rename_i e
      obtain ⟨e1, e2, e3⟩ := e
      subst e1 e2
      exact .mk e3 (asS_ok h)
    · cases h
  · cases h
/-- the parameters: plain names -/
def parS (a : Arguments) : Option (List Str) := match a.posonlyargs, a.vararg, a.kwonlyargs, a.kw_defaults, a.kwarg, a.defaults with
  | [], none, [], [], none, [] => some (a.args.map (·.arg))
  | _, _, _, _, _, _ => none
/-- the scope -/
def scpS (sc : Scope) (ps : List Str) : Bool := decide (sc.kind = .function) && !sc.isCoroutine && !sc.isGenerator && decide (sc.names.lookup ("super" : Str) = some .globalImplicit) && decide (sc.names.lookup ("__class__" : Str) = some .free) && sc.names.all (fun y => !decide (y.2 = .cell)) && ps.all (fun x => decide (sc.names.lookup x = some .local)) && sc.more.isEmpty
end EXI
end PySem
namespace PySem
namespace EXI
open PySem.W PySem.Calls PyProof.Rows Builtin Builtin.ObjectAttr
/-- what the written part says of the class at C, its __init__ at fI, the cell of __class__ at cc -/
structure XcT (P : Program) (K : Frag) (C fI : Addr) (ps : List Str) (l : List (Str × Src)) : Prop where
  bx : ∃ B newId initId bmB, BaseX B newId initId bmB ∧ excInitIn K C bmB newId = true ∧ excOver K C bmB = true ∧ subIn K (.ref C) (.type B) = some true ∧ ks_superIn K C C "__init__" = some (some (.builtin initId))
  hd : hasDictIn K C = true
  iC : findIn K (.ref C) "__init__" = some (some (.ref fI))
  tC : typeIn K (.ref fI) = some (.type "function")
  kC : keepIn K (.ref C) = true
  exC : subIn K (.ref C) (.type "BaseException") = some true
  tyC : typeIn K (.ref C) = some (.type "type")
  no : ∀ p ∈ l, takerIn K C p.1 = some none
  sa : findIn K (.ref C) "__setattr__" = some (some (.builtin "object.__setattr__"))
  opq : nsIn K cStatics "thirdparty.any" = some none
  nosup : nsIn K mainGlobals "super" = some none
  self : mroIn K C (.ref C) = some true
  top : (P.main.scope.names.lookup ("super" : Str)).isSome = false
  fn : ∃ (oc : Value) (od : Option Addr) (doc pm : Value) (an : Option Addr) (cda cc : Addr) (ct : Value) (osl : Array (Option Value)) (qual : Str) (params : Arguments) (body : List Stmt) (scope : Scope),
    K.lookup fI = some ⟨oc, od, .func (ksFn "__init__" qual params body scope .none .none doc pm an (.ref cda) ct cc), osl⟩ ∧ codeIn K (.ref cda) qual = true ∧
    (∃ (ccl : Value) (cdd : Option Addr) (vs : Array Value) (ccs : Array (Option Value)) (file : Str) (tf : Tok), K.lookup cda = some ⟨ccl, cdd, .fields vs, ccs⟩ ∧ vs[2]? = some (.str file tf) ∧ ((P.main.file : Str) == file) = true) ∧
    (∃ (cl : Value) (cld : Option Addr) (csl : Array (Option Value)), K.lookup cc = some ⟨cl, cld, .cell (some (.ref C)), csl⟩) ∧ parS params = some ps ∧ BodS body l ∧ scpS scope ps = true
theorem scp_of {sc : Scope} {ps : List Str} (h : scpS sc ps = true) : sc.kind = .function ∧ sc.isCoroutine = false ∧ sc.isGenerator = false ∧ sc.names.lookup ("super" : Str) = some .globalImplicit ∧ sc.names.lookup ("__class__" : Str) = some .free ∧ (∀ x ∈ sc.names, x.2 ≠ .cell) ∧ (∀ x ∈ ps, sc.names.lookup x = some .local) := by
  unfold scpS at h
  simp only [Bool.and_eq_true, Bool.not_eq_true', decide_eq_true_eq, List.all_eq_true, decide_eq_false_iff_not] at h
  obtain ⟨⟨⟨⟨⟨⟨⟨h1, h2⟩, h3⟩, h4⟩, h5⟩, h6⟩, h7⟩, h8⟩ := h
  exact ⟨h1, h2, h3, h4, h5, fun x hx => h6 x hx, h7⟩
section
variable {prog : Program} {w : World} {A : Around} {E : Value → Shared → Prop} {R : Result → Shared → Prop} {hp : Heap} {g : Array GenState} {d : Drawn} {t : Nat} {os : OsState} {K : Frag} {C : Addr} {B : String} {bmB : List Value}
/-- self.f = v, the first -/
theorem osx_new {name : Str} {v : Value} {x : Addr} {fv : Array Value} {Q : Unit → Shared → Prop}
    (X : K.In hp) (SF : StoreFacts B bmB "object.__setattr__" "object") (ov : excOver K C bmB = true) (hd : hasDictIn K C = true) (sa : findIn K (.ref C) "__setattr__" = some (some (.builtin "object.__setattr__"))) (no : takerIn K C name = some none)
    (hx : hp.get? x = some { cls := .ref C, data := .fields fv })
    (hq : ∀ h' tk' dx, (∀ b o, b ≠ x → hp.get? b = some o → h'.get? b = some o) → hp.objs.size ≤ dx → dx ≠ x → h'.get? x = some { cls := .ref C, dict := some dx, data := .fields fv } →
      h'.Ns1 dx (fun y => if y = name then some v else none) → Q () ⟨h', g, d, tk', os⟩) :
    wpAny (model prog w) A (setAttr (.ref x) name v) Q E ⟨hp, g, d, t, os⟩ := by
  have I : InstAt hp x { cls := .ref C, data := .fields fv } C none := ⟨hx, rfl, rfl, trivial⟩
  have hxs : x ≠ hp.objs.size := Nat.ne_of_lt (Heap.lt_size hx)
  obtain ⟨cd, hcd, hdc⟩ := any_some hd
  have hcls : Looks (model prog w) hp (classData C) cd := looks_clsIn X hcd
  refine set_plain X I sa (osa_openX (s := ⟨hp, g, d, t + 1, os⟩) SF X I ov no fun b => ?_)
  obtain ⟨nm, bs, mro, ns, qn, hdd, sn, sb, ab, col, del⟩ := cd
  dsimp only at hdc
  subst hdc
  show wpAny _ _ (storeInOwnDict _ _ _ _ _ _) _ _ _
  unfold storeInOwnDict ownDictForStores
  repeat (first | with_reducible refine HandSPX.store_in_new ?_ ?_ | with_reducible refine wpAny_loadPart_at hx ?_ | with_reducible refine hcls.at ?_ | wp_step)
  · exact ⟨_, #[], _, (Heap.get?_update_ne _ _ _ _ hxs.symm).trans (Heap.get?_push_at rfl rfl), rfl, fun e he => absurd he (by simp), fun _ => rfl⟩
  · intro h' tk' hn' hs
    have hx₁ : (hp.push { cls := .type "dict", data := .dict #[] }).get? x = some { cls := .ref C, data := .fields fv } := Heap.get?_push_of_some _ hx
    refine hq h' tk' hp.objs.size (fun b o hb ho => ?_) (Nat.le_refl _) hxs.symm ?_ hn'
    · exact (hs.2 b (Nat.ne_of_lt (Heap.lt_size ho))).trans ((Heap.get?_update_ne _ _ _ _ hb).trans (Heap.get?_push_of_some _ ho))
    · exact (hs.2 x hxs).trans (Heap.get?_update_self _ hx₁ rfl)
/-- .. a further one -/
theorem osx_old {name : Str} {v : Value} {x dx : Addr} {fv : Array Value} {m0 : Str → Option Value} {nl : List Str} {Q : Unit → Shared → Prop}
    (X : K.In hp) (SF : StoreFacts B bmB "object.__setattr__" "object") (ov : excOver K C bmB = true) (hd : hasDictIn K C = true) (sa : findIn K (.ref C) "__setattr__" = some (some (.builtin "object.__setattr__"))) (no : takerIn K C name = some none)
    (hx : hp.get? x = some { cls := .ref C, dict := some dx, data := .fields fv }) (hns : hp.Ns1 dx m0) (hw : Within m0 nl) (hz : nl.length ≤ 1000)
    (hq : ∀ h' tk', (∀ b o, b ≠ dx → hp.get? b = some o → h'.get? b = some o) → h'.Ns1 dx (fun y => if y = name then some v else m0 y) → Q () ⟨h', g, d, tk', os⟩) :
    wpAny (model prog w) A (setAttr (.ref x) name v) Q E ⟨hp, g, d, t, os⟩ := by
  obtain ⟨oD, esD, epD, hoD, hdD, _⟩ := hns.count hw
  have I : InstAt hp x { cls := .ref C, dict := some dx, data := .fields fv } C (some oD) := ⟨hx, rfl, rfl, hoD⟩
  obtain ⟨cd, hcd, hdc⟩ := any_some hd
  have hcls : Looks (model prog w) hp (classData C) cd := looks_clsIn X hcd
  refine set_plain X I sa (osa_openX (s := ⟨hp, g, d, t + 1, os⟩) SF X I ov no fun b => ?_)
  obtain ⟨nm, bs, mro, ns, qn, hdd, sn, sb, ab, col, del⟩ := cd
  dsimp only at hdc
  subst hdc
  show wpAny _ _ (storeInOwnDict _ _ _ _ _ _) _ _ _
  unfold storeInOwnDict ownDictForStores
  repeat (first | with_reducible refine OEX.store_in_old hns hw hz ?_ | with_reducible refine wpAny_loadPart_at hx ?_ | with_reducible refine hcls.at ?_ | wp_step)
  intro h' tk' hn' hs
  exact hq h' tk' (fun b o hb ho => (hs.2 b hb).trans ho) hn'
end
end EXI
end PySem
namespace PySem
namespace EXI
open PySem.W PySem.Calls PyProof.Rows Builtin Builtin.ObjectAttr
open L2 (V RelV RelO)
/-- a being-made exception at x: its dict, the fields so far -/
structure StX (h0 h : Heap) (x C : Addr) (d : Option Addr) (fs : List (Str × V)) : Prop where
  keep : ∀ b o, b ≠ x → h0.get? b = some o → h.get? b = some o
  obj : ∃ t1 : Addr, h.get? x = some { cls := .ref C, dict := d, data := .fields #[.ref t1, .none, .none, .none, .bool false, .none] }
  dct : match d with
    | none => fs = []
    | some dx => h0.objs.size ≤ dx ∧ dx ≠ x ∧ ∃ mA, h.Ns1 dx mA ∧ ∀ f, RelO (fs.lookup f) (mA f)
theorem in_but {K : Frag} {h h' : Heap} {x : Addr} (X : K.In h) (hx : K.lookup x = none) (k : ∀ b o, b ≠ x → h.get? b = some o → h'.get? b = some o) : K.In h' := fun a o e =>
  k a o (fun z => by rw [z, hx] at e; cases e) (X a o e)
section
variable {prog : Program} {w : World} {A : Around} {E : Value → Shared → Prop} {K : Frag} {C x : Addr} {B : String} {bmB : List Value} {h0 : Heap}
theorem step_x {name : Str} {v : V} {u : Value} {d : Option Addr} {fs : List (Str × V)} {s : Shared} {Q : Unit → Shared → Prop}
    (X0 : K.In h0) (hnx : K.lookup x = none) (SF : StoreFacts B bmB "object.__setattr__" "object") (ov : excOver K C bmB = true) (hd : hasDictIn K C = true) (sa : findIn K (.ref C) "__setattr__" = some (some (.builtin "object.__setattr__"))) (no : takerIn K C name = some none)
    (S : StX h0 s.heap x C d fs) (hx0 : x < h0.objs.size) (hz : h0.objs.size ≤ s.heap.objs.size) (hl : fs.length ≤ 900) (r : RelV v u)
    (hq : ∀ h' tk dx, StX h0 h' x C (some dx) ((name, v) :: fs) → h0.objs.size ≤ h'.objs.size → Q () { s with heap := h', toks := tk }) :
    wpAny (model prog w) A (setAttr (.ref x) name u) Q E s := by
  obtain ⟨t1, ho⟩ := S.obj
  have X := in_but X0 hnx S.keep
  obtain ⟨hp, g, dr, t, os⟩ := s
  cases d with
  | none =>
    have e : fs = [] := S.dct
    subst e
    refine osx_new X SF ov hd sa no ho fun h' tk' dx k dn dne hx hn => hq h' tk' dx ⟨fun b o hb e => k b o hb (S.keep b o hb e), ⟨t1, hx⟩, Nat.le_trans hz dn, dne, _, hn, L2.relO_put (fs := []) r fun g => True.intro⟩ ?_
    obtain ⟨o, _, _, ho', _⟩ := hn
    exact Nat.le_of_lt (Nat.lt_of_le_of_lt (Nat.le_trans hz dn) (Heap.lt_size ho'))
  | some dx =>
    obtain ⟨h1, h2, mA, hn, rel⟩ := S.dct
    have hw := L2.within_of rel
    refine osx_old X SF ov hd sa no ho hn hw (by rw [List.length_map]; omega) fun h' tk' k hn' => hq h' tk' dx ⟨fun b o hb e => ?_, ⟨t1, k x _ (Ne.symm h2) ho⟩, h1, h2, _, hn', L2.relO_put r rel⟩ ?_
    · exact k b o (Nat.ne_of_lt (Nat.lt_of_lt_of_le (Heap.lt_size e) h1)) (S.keep b o hb e)
    · obtain ⟨o, _, _, ho', _⟩ := hn'
      exact Nat.le_of_lt (Nat.lt_of_le_of_lt h1 (Heap.lt_size ho'))
def Src.val (m : Str → Option Value) (vm : Str → Option V) : Src → Option V
  | .par x => vm x
  | .con c => some (.str c)
/-- the fields behind the assignments -/
def fldsS (vm : Str → Option V) : List (Str × Src) → List (Str × V) → Option (List (Str × V))
  | [], fs => some fs
  | (f, .par x) :: l, fs => (vm x).bind fun v => fldsS vm l ((f, v) :: fs)
  | (f, .con c) :: l, fs => fldsS vm l ((f, .str c) :: fs)
theorem run_asgs {qual : Str} {scope : Scope} {L fI cc : Addr} {cdv : Value} {m : Str → Option Value} {vm : Str → Option V} (X0 : K.In h0) (hnx : K.lookup x = none) (SF : StoreFacts B bmB "object.__setattr__" "object") (ov : excOver K C bmB = true) (hd : hasDictIn K C = true) (sa : findIn K (.ref C) "__setattr__" = some (some (.builtin "object.__setattr__")))
    (hk : scope.kind = .function) (hn : h0.Ns L m) (hself : m "self" = some (.ref x)) (hsl : scope.names.lookup ("self" : Str) = some .local) (hvm : ∀ y v, vm y = some v → scope.names.lookup y = some .local ∧ (y == ("__debug__" : Str)) = false ∧ ∃ u, m y = some u ∧ RelV v u) (hx0 : x < h0.objs.size) (hxL : x ≠ L) :
    ∀ {l : List (Str × Src)} {ss : List Stmt}, AsS ss l → ∀ {d : Option Addr} {fs fs' : List (Str × V)} {s : Shared} {Q : Flow → Shared → Prop}, (∀ p ∈ l, takerIn K C p.1 = some none) → StX h0 s.heap x C d fs → h0.objs.size ≤ s.heap.objs.size → fs.length + l.length ≤ 900 → fldsS vm l fs = some fs' →
      (∀ h' tk d', StX h0 h' x C d' fs' → h0.objs.size ≤ h'.objs.size → (l ≠ [] ∨ d.isSome → d'.isSome) → Q .next { s with heap := h', toks := tk }) → wpAny (model prog w) A (execs ss (ksEnv qual scope L fI cdv cc)) Q E s := by
  intro l ss h
  have ldN : ∀ {y : Str} {v : Value} {p : Pos} {s : Shared} {d : Option Addr} {fs : List (Str × V)} {Q : Value → Shared → Prop}, StX h0 s.heap x C d fs → scope.names.lookup y = some .local → (y == ("__debug__" : Str)) = false → m y = some v → Q v s → wpAny (model prog w) A (eval (.Name y p) (ksEnv qual scope L fI cdv cc)) Q E s := fun {y v p s d fs Q} S h1 h2 h3 q => by
    obtain ⟨oL, es, ep, hL, rr⟩ := hn
    exact wpAny_Name (wpAny_loadName_local hk h1 ⟨oL, es, ep, S.keep _ _ (Ne.symm hxL) hL, rr⟩ h3 q) h2
  induction h with
  | nil =>
    intro d fs fs' s Q _ S hz _ e q
    have e : some fs = some fs' := e
    cases e
    refine wpAny_execs_nil ?_
    have := q s.heap s.toks d S hz (fun z => z.elim (fun z => absurd rfl z) id)
    exact this
  | @par f y p1 p2 p3 p4 ss l t ih =>
    intro d fs fs' s Q no S hz hl e q
    have e : (vm y).bind (fun v => fldsS vm l ((f, v) :: fs)) = some fs' := e
    cases hy : vm y with
    | none => rw [hy] at e; cases e
    | some v =>
      rw [hy, Option.bind_some] at e
      obtain ⟨h1, h2, u, h3, h4⟩ := hvm y v hy
      refine wpAny_execs_cons (plainObj_wpAny_Assign_Attribute (ldN S h1 h2 h3 (ldN S hsl (by decide) hself ?_)))
      have hlen : fs.length ≤ 900 := by simp at hl; omega
      refine step_x X0 hnx SF ov hd sa (no (f, .par y) List.mem_cons_self) S hx0 hz hlen h4 fun h' tk dx S' hz' => ?_
      exact ih (fun p hp => no p (List.mem_cons_of_mem _ hp)) S' hz' (by simp at hl ⊢; omega) e fun h'' tk' d' S'' hz'' z => q h'' tk' d' S'' hz'' fun _ => z (.inr rfl)
  | @con f c j p1 p2 p3 p4 ss l t ih =>
    intro d fs fs' s Q no S hz hl e q
    have e : fldsS vm l ((f, .str c) :: fs) = some fs' := e
    refine wpAny_execs_cons (plainObj_wpAny_Assign_Attribute ?_)
    refine wpAny_Constant_str (ldN (s := { s with toks := s.toks + 1 }) S hsl (by decide) hself ?_)
    have hlen : fs.length ≤ 900 := by simp at hl; omega
    refine step_x (s := { s with toks := s.toks + 1 }) X0 hnx SF ov hd sa (no (f, .con c) List.mem_cons_self) S hx0 hz hlen (v := V.str c) (show RelV (V.str c) (Value.str c s.toks) from ⟨s.toks, rfl⟩) fun h' tk dx S' hz' => ?_
    exact ih (fun p hp => no p (List.mem_cons_of_mem _ hp)) S' hz' (by simp at hl ⊢; omega) e fun h'' tk' d' S'' hz'' z => q h'' tk' d' S'' hz'' fun _ => z (.inr rfl)
end
end EXI
end PySem
namespace PySem
namespace EXI
open PySem.W PySem.Calls PyProof.Rows Builtin Builtin.ObjectAttr
open L2 (V RelV RelO)
section
variable {prog : Program} {w : World} {A : Around} {E : Value → Shared → Prop} {h : Heap} {g : Array GenState} {d : Drawn} {t : Nat} {os : OsState}
theorem call_mw {B newId i : String} {bmB : List Value} (FB : ExcBaseFacts B newId i bmB) {u e t0 C N : Addr} {rest : List Value} {nm q : Str} {bs bm : List Value} {hdct : Bool} {sn : List Str} {sub : List Value} {ab : Bool} {col : Option Bool} {dd : Option Addr} {k0 k1 k2 k3 k5 : Option Value} {Q : Value → Shared → Prop}
    (hC : h.get? C = some (excClassObj nm q C N bs bm hdct sn sub ab col dd k0 k1 k2 k3 k5 newId)) (he : h.get? e = some (excObj C t0 none .none)) (hu : h.get? u = some (kxs_mw i e)) (hz : rest.length ≤ sizeLine)
    (hq : ∀ h' t1, (∀ b o, b ≠ e → h.get? b = some o → h'.get? b = some o) → h'.get? e = some (excObj C t1 none .none) → Q .none ⟨h', g, d, t, os⟩) :
    wpAny (model prog w) A (call (.ref u) rest) Q E ⟨h, g, d, t, os⟩ := by
  refine wpAny_call (codeAny_of_tree ?_)
  show wpAny _ A.in1 (callAny (.ref u) ⟨rest, []⟩) _ _ _
  simp only [callAny]
  refine wpAny_bind (wpAny_load hu ?_)
  have e1 : (Value.type "method-wrapper" == Value.type "method" || Value.type "method-wrapper" == Value.type "builtin_function_or_method" || Value.type "method-wrapper" == Value.type "method-wrapper") = true := by decide
  simp only [kxs_mw, e1, if_true]
  refine KFB.if_so (by decide) ?_
  refine wpAny_bind (check_bound_init FB.toExcCallFacts hC he rfl ?_)
  refine wpAny_bind (wpAny_pure (wpAny_pure ⟨plainId_quiet FB.init.plain _, codeAny_builtin FB.initEntry ?_⟩))
  exact exc_init_tree (cls := .ref C) (t0 := t0) (dv := none) (c2 := .none) (c3 := .none) (b4 := .bool false) he hz fun h' k e' _ => hq h' _ k e'
end
section
variable {prog : Program} {w : World} {A : Around} {E : Value → Shared → Prop} {K : Frag} {C x : Addr} {h0 : Heap}
/-- super().__init__('m') -/
theorem super_x {qual m : Str} {scope : Scope} {L fI cc cda : Addr} {ml mg mb : Str → Option Value} {body : List Stmt} {p0 p1 p2 p3 p4 p5 : Pos} {j : Nat} {s : Shared} {Q : Flow → Shared → Prop} {B newId initId : String} {bmB : List Value}
    {fd : FuncData} {ar : Arg} {vs : Array Value} {file : Str} {tf : Tok} {oc ccl cl : Value} {od cdd cld : Option Addr} {osl ccs csl : Array (Option Value)}
    (bx : BaseX B newId initId bmB) (hin : excInitIn K C bmB newId = true) (isB : subIn K (.ref C) (.type B) = some true) (hsup : ks_superIn K C C "__init__" = some (some (.builtin initId))) (opq : nsIn K cStatics "thirdparty.any" = some none)
    (X0 : K.In h0) (hnx : K.lookup x = none) (S : StX h0 s.heap x C none []) (hx0 : x < h0.objs.size) (hz : h0.objs.size ≤ s.heap.objs.size) (hn : h0.Ns L ml) (hxL : x ≠ L) (hself : ml ar.arg = some (.ref x)) (G : h0.Ns mainGlobals mg) (Bl : h0.Ns builtinsNs mb) (hxg : x ≠ mainGlobals) (hxb : x ≠ builtinsNs) (hmg : mg "super" = none) (hmb : mb "super" = some (.type "super"))
    (hf : K.lookup fI = some ⟨oc, od, .func fd, osl⟩) (hp : (fd.params.posonlyargs ++ fd.params.args).head? = some ar)
    (hcode : K.lookup cda = some ⟨ccl, cdd, .fields vs, ccs⟩) (hvs : vs[2]? = some (.str file tf)) (hfile : ((prog.main.file : Str) == file) = true)
    (hcell : K.lookup cc = some ⟨cl, cld, .cell (some (.ref C)), csl⟩) (hself2 : mroIn K C (.ref C) = some true)
    (hks : scope.names.lookup ("super" : Str) = some .globalImplicit) (hkc : scope.names.lookup ("__class__" : Str) = some .free) (hka : scope.names.lookup ar.arg = some .local) (hk : scope.kind = .function)
    (htop : (prog.main.scope.names.lookup ("super" : Str)).isSome = false) (hpp : (p2.endLine == p4.line) = true)
    (hq : ∀ h' tk, StX h0 h' x C none [] → h0.objs.size ≤ h'.objs.size → Q .next { s with heap := h', toks := tk }) :
    _root_.PySem.wpAt (model prog w) A (.func body (ksEnv qual scope L fI (.ref cda) cc)) (exec (.Expr (.Call (.Attribute (.Call (.Name "super" p0) [] [] p1) "__init__" p2) [.Constant (.str m) j p3] [] p4) p5) (ksEnv qual scope L fI (.ref cda) cc)) Q E s := by
  have X := in_but X0 hnx S.keep
  obtain ⟨t1, ho⟩ := S.obj
  obtain ⟨nm, N', qn, bs, bm, hdct, sn, sub, ab, col, dd, k0, k1, k2, k3, k5, hC, hT⟩ := excInit_of X hin
  have nsk : ∀ {a : Addr} {mm : Str → Option Value}, x ≠ a → h0.Ns a mm → s.heap.Ns a mm := fun {a mm} hne ⟨o, es, ep, h1, r⟩ => ⟨o, es, ep, S.keep _ _ (Ne.symm hne) h1, r⟩
  obtain ⟨cd, hcd, _⟩ : ∃ cd, clsIn K C = some cd ∧ True := by
    cases e : clsIn K C with
    | none => unfold mroIn at hself2; rw [e] at hself2; cases hself2
    | some cd => exact ⟨cd, rfl, trivial⟩
  obtain ⟨oD, hD1, hD2⟩ : ∃ oD, s.heap.get? C = some oD ∧ oD.data = .cls cd := by
    unfold clsIn at hcd
    split at hcd
    · rename_i c d cd' sl e
      cases hcd
      exact ⟨_, X _ _ e, rfl⟩
    · cases hcd
  obtain ⟨hh, g, dr, t, os⟩ := s
  have I : InstAt hh x (excObj C t1 none .none) C none := ⟨ho, rfl, rfl, trivial⟩
  have hmp : methodCallPos true (.Call (.Name "super" p0) [] [] p1) (ksEnv qual scope L fI (.ref cda) cc) p2 p4 = pure p4 := by
    unfold methodCallPos
    simp only [hpp, Bool.not_true, Bool.false_or, if_true]
  have hi : interactive (ksEnv qual scope L fI (.ref cda) cc) = false := by
    unfold interactive
    rw [show (ksEnv qual scope L fI (.ref cda) cc).scope.kind = .function from hk]
    rfl
  refine ks_wpAt_Expr_any ?_ hi
  have he : eval (.Call (.Attribute (.Call (.Name "super" p0) [] [] p1) "__init__" p2) [.Constant (.str m) j p3] [] p4) (ksEnv qual scope L fI (.ref cda) cc) = (do
      let ov ← attributeBase (.Call (.Name "super" p0) [] [] p1) "__init__" (ksEnv qual scope L fI (.ref cda) cc) (eval (.Call (.Name "super" p0) [] [] p1) (ksEnv qual scope L fI (.ref cda) cc))
      standAt p2.atName
      let (f, first) ← holding [ov] (getMethod ov "__init__" (do return (← importBound (.Call (.Name "super" p0) [] [] p1) (ksEnv qual scope L fI (.ref cda) cc)).getD true))
      callWith p4 f first (backTo p4 (starEach [.Constant (.str m) j p3] (ksEnv qual scope L fI (.ref cda) cc))) []) := by
    have e0 : eval (.Call (.Attribute (.Call (.Name "super" p0) [] [] p1) "__init__" p2) [.Constant (.str m) j p3] [] p4) (ksEnv qual scope L fI (.ref cda) cc) = (do
      let ov ← attributeBase (.Call (.Name "super" p0) [] [] p1) "__init__" (ksEnv qual scope L fI (.ref cda) cc) (eval (.Call (.Name "super" p0) [] [] p1) (ksEnv qual scope L fI (.ref cda) cc))
      standAt p2.atName
      let (f, first) ← holding [ov] (getMethod ov "__init__" (do return (← importBound (.Call (.Name "super" p0) [] [] p1) (ksEnv qual scope L fI (.ref cda) cc)).getD true))
      let cp ← methodCallPos true (.Call (.Name "super" p0) [] [] p1) (ksEnv qual scope L fI (.ref cda) cc) p2 p4
      callWith cp f first (backTo p4 (starEach [.Constant (.str m) j p3] (ksEnv qual scope L fI (.ref cda) cc))) []) := by rfl
    rw [e0, hmp]
    rfl
  refine ks_wpAt_MethodCall (he := he) (pl := (do return (← importBound (.Call (.Name "super" p0) [] [] p1) (ksEnv qual scope L fI (.ref cda) cc)).getD true)) ?_
  refine ks_wpAt_super_base (env := ksEnv qual scope L fI (.ref cda) cc) hks hkc (by decide) rfl (X _ _ hf) rfl hp rfl (X _ _ hcode) rfl hvs hfile htop ?_
  refine ks_loadName_global hk hks (loadGlobal_builtin (env := ksEnv qual scope L fI (.ref cda) cc) (nsk hxg G) hmg (nsk hxb Bl) hmb ⟨rfl, ?_⟩)
  refine wpAny_loadName_free hk hkc rfl ⟨_, X _ _ hcell, rfl⟩ ?_
  refine wpAny_loadName_local hk hka (nsk hxL hn) hself ?_
  refine ks_wpAny_isType_cls hD1 hD2 ⟨rfl, ?_⟩
  refine ks_wpAny_call_super hD1 hD2 ho rfl (fun c e => by cases e) (looks_mroIn X hself2) (fun h1 e1 kp1 => ?_)
  have X1 : K.In h1 := X.keeps kp1
  unfold ks_superIn at hsup
  rw [hcd] at hsup
  have hI1 : Looks (model prog w) h1 (isInstance (.ref x) (.type B)) true := (InstAt.type (show InstAt h1 x (excObj C t1 none .none) C none from ⟨kp1 _ _ ho, rfl, rfl, trivial⟩)).andThen (looks_subIn X1 isB)
  refine kxs_getMethod bx.kf (x := x) (D := C) (C := C) e1 (looks_opaque X1 opq) (l₀ := cd.mro) (fun A Q E s k q => wpAny_bind ((looks_clsIn X1 hcd) A _ E s k (wpAny_pure q))) rfl X1 hsup hI1 (ks_ne X I hcd) (by decide) ?_
  have ku : (h1.push (kxs_mw initId x)).get? h1.objs.size = some (kxs_mw initId x) := Heap.get?_push_size _ rfl
  have kp2 : ∀ b o, hh.get? b = some o → (h1.push (kxs_mw initId x)).get? b = some o := fun b o e => Heap.get?_push_of_some _ (kp1 b o e)
  show wpAny _ _ (callWith p4 (.ref h1.objs.size) [] (backTo p4 (starEach [.Constant (.str m) j p3] (ksEnv qual scope L fI (.ref cda) cc))) []) _ _ _
  rw [show starEach [.Constant (.str m) j p3] (ksEnv qual scope L fI (.ref cda) cc) = (false, eval (.Constant (.str m) j p3) (ksEnv qual scope L fI (.ref cda) cc)) :: starEach [] (ksEnv qual scope L fI (.ref cda) cc) from rfl]
  refine kxs_callWith (i := initId) (x := x) (by rfl) (evalArgs_plain ?_)
  refine Calls.spliced_cons (wpAny_Constant_str (k := j) (pos := p3) (Calls.spliced_nil ⟨ku, ?_⟩))
  show wpAny _ _ (call (.ref h1.objs.size) [.str m _]) _ _ _
  refine call_mw bx.fb (C := C) (t0 := t1) (kp2 _ _ hC) (kp2 _ _ ho) ku (by show 1 ≤ sizeLine; rw [sizeLine_eq]; omega) fun h' t2 k' e' => ?_
  have hz' : h0.objs.size ≤ h'.objs.size := by
    have y := k' h1.objs.size _ (fun z => by
      have := Heap.lt_size (kp1 _ _ ho)
      rw [z] at this
      exact Nat.lt_irrefl _ this) ku
    have y1 : hh.objs.size < h1.objs.size := Heap.lt_size e1
    have y2 : h1.objs.size < h'.objs.size := Heap.lt_size y
    have hzz : h0.objs.size ≤ hh.objs.size := hz
    omega
  exact hq h' _ ⟨fun b o hb e => k' b o hb (kp2 b o (S.keep b o hb e)), ⟨t2, e'⟩, rfl⟩ hz'
end
end EXI
end PySem
namespace PySem
namespace EXI
open PySem.W PySem.Calls PyProof.Rows Builtin Builtin.ObjectAttr
open L2 (V RelV RelO Vals)
/-- a made exception: its dict's fields -/
structure MadeX (h h' : Heap) (e C d : Addr) (fs : List (Str × V)) : Prop where
  keep : ∀ b o, h.get? b = some o → h'.get? b = some o
  new : h.objs.size ≤ e
  obj : ∃ t1 : Addr, h'.get? e = some { cls := .ref C, dict := some d, data := .fields #[.ref t1, .none, .none, .none, .bool false, .none] }
  dbig : h.objs.size ≤ d
  dne : d ≠ e
  ns : ∃ mA, h'.Ns1 d mA ∧ ∀ f, RelO (fs.lookup f) (mA f)
def vmS (ps : List Str) (vs : List V) : Str → Option V := fun y => (ps.zip vs).lookup y
theorem zip_rel {us : List Value} {vs : List V} (r : Vals vs us) : ∀ {ps : List Str} {y : Str} {v : V}, (ps.zip vs).lookup y = some v → ∃ u, (ps.zip us).lookup y = some u ∧ RelV v u := by
  induction r with
  | nil => intro ps y v h; simp at h
  | cons h t ih =>
    intro ps y v q
    cases ps with
    | nil => simp at q
    | cons p ps =>
      simp only [List.zip_cons_cons, List.lookup] at q ⊢
      split at q
      · cases q; exact ⟨_, rfl, h⟩
      · exact ih q
theorem lookup_rev {α : Type} : ∀ {l : List (Str × α)} {y : Str}, (l.map (·.1)).Nodup → l.reverse.lookup y = l.lookup y := by
  intro l
  induction l with
  | nil => intro y _; rfl
  | cons p l ih =>
    intro y hn
    obtain ⟨k, v⟩ := p
    obtain ⟨h1, h2⟩ := List.nodup_cons.mp hn
    rw [List.reverse_cons, List.lookup_append, ih h2]
    simp only [List.lookup]
    by_cases e : y = k
    · subst e
      have : l.lookup y = none := by
        cases q : l.lookup y with
        | none => rfl
        | some v' => exact absurd (List.mem_map_of_mem (f := (·.1)) (PySem.mem_of_lookup q)) h1
      simp [this]
    · have : (y == k) = false := by simpa using e
      simp [this]
section
variable {prog : Program} {w : World} {A : Around} {E : Value → Shared → Prop} {R : Result → Shared → Prop} {s : Shared} {K : Frag} {mg mb : Str → Option Value} {C fI : Addr} {ps : List Str} {l : List (Str × Src)}
theorem init_x (T : XcT prog K C fI ps l) {x t0 : Addr} {us : List Value} {vs : List V} {fs : List (Str × V)} (X : K.In s.heap) (hlim : s.heap.NoLimit) (G : s.heap.Ns mainGlobals mg) (Bl : s.heap.Ns builtinsNs mb) (hmb : mb "super" = some (.type "super")) (hx : s.heap.get? x = some (HandSPX.excO C t0)) (hnx : K.lookup x = none) (hroom : A.depth < recursionLimit)
    (hb : ∀ fd : FuncData, fd.defaults = .none → fd.kwdefaults = .none → parS fd.params = some ps → BindsTo s fd ⟨.ref x :: us, []⟩ (ps.zip (.ref x :: us))) (hps : ∃ qs : List Str, ps = ("self" : Str) :: qs) (hnd : ps.Nodup) (hdb : ∀ y ∈ ps, (y == ("__debug__" : Str)) = false) (r : Vals vs us) (hlen : ps.length = us.length + 1) (hne : l ≠ []) (hll : l.length ≤ 900)
    (hfs : fldsS (vmS ps (.ref x :: vs)) l [] = some fs)
    (hq : ∀ h' tk dx, StX s.heap h' x C (some dx) fs → R (.ok (.ret .none)) { s with heap := h', toks := tk }) :
    codeAny (model prog w) A (.call (.ref fI) ⟨.ref x :: us, []⟩) R s := by
  obtain ⟨B, newId, initId, bmB, bx, hin, ov, isB, hsup⟩ := T.bx
  obtain ⟨oc, od, doc, pm, an, cda, cc, ct, osl, qual, params, body, scope, ho, hcd, ⟨ccl, cdd, cvs, ccs, file, tf, hco, hcv, hfile⟩, ⟨cl, cld, csl, hcc⟩, hpar, hbody, hscp⟩ := T.fn
  obtain ⟨s1, s2, s3, s4, s5, s6, s7⟩ := scp_of hscp
  obtain ⟨qs, hqs⟩ := hps
  have hnot : ∀ {a : Addr} {mm : Str → Option Value}, s.heap.Ns a mm → x ≠ a := fun {a mm} hn z => by
    obtain ⟨o, es, ep, h1, h2, _⟩ := hn
    rw [← z, hx] at h1
    cases h1
    cases h2
  have hkeys : ∀ (zs : List Value), zs.length = ps.length → (ps.zip zs).map (·.1) = ps := fun zs hz => by
    rw [List.map_fst_zip (by omega)]
  have lk : ∀ (zs : List Value), zs.length = ps.length → ∀ y, (ps.zip zs).reverse.lookup y = (ps.zip zs).lookup y := fun zs hz y => lookup_rev (by rw [hkeys zs hz]; exact hnd)
  have hul : (Value.ref x :: us).length = ps.length := by simp [hlen]
  refine ks_codeAny_call_defAt (fd := ksFn "__init__" qual params body scope .none .none doc pm an (.ref cda) ct cc) (body := body) (binds := ps.zip (.ref x :: us)) hroom (X _ _ ho) rfl hlim (codeRec_of X hcd) rfl (hb _ rfl rfl hpar) s6 (fun y hy => s7 y.1 (List.of_mem_zip (a := y.1) (b := y.2) hy).1) (fun h₁ hns kp => ?_) s2 s3 s1
  have hxL : x ≠ s.heap.objs.size := Nat.ne_of_lt (Heap.lt_size hx)
  have X1 : K.In h₁ := X.keeps kp
  have hself : (ps.zip (Value.ref x :: us)).reverse.lookup ("self" : Str) = some (.ref x) := by
    rw [lk _ hul, hqs]
    simp [List.lookup]
  obtain ⟨ar, har, hara⟩ : ∃ ar, (params.posonlyargs ++ params.args).head? = some ar ∧ ar.arg = "self" := by
    unfold parS at hpar
    split at hpar
    · rename_i h1 _ _ _ _ _
      rw [hqs] at hpar
      have e := Option.some.inj hpar
      rw [h1, List.nil_append]
      cases q : params.args with
      | nil => rw [q] at e; cases e
      | cons a r => rw [q] at e; exact ⟨a, rfl, (List.cons.inj e).1⟩
    · cases hpar
  have S0 : StX h₁ h₁ x C none [] := ⟨fun _ _ _ e => e, ⟨t0, kp _ _ hx⟩, rfl⟩
  cases hbody with
  | @mk m j p0 p1 p2 p3 p4 p5 ss l hpp t =>
  refine ks_wpAt_execs_cons ?_
  refine super_x (s := { s with heap := h₁, toks := s.toks + (ps.zip (.ref x :: us)).length }) bx hin isB hsup T.opq X1 hnx S0 (Nat.lt_of_lt_of_le (Heap.lt_size (kp _ _ hx)) (Nat.le_refl _)) (Nat.le_refl _) hns hxL (by rw [hara]; exact hself) (G.keeps kp) (Bl.keeps kp) (hnot G) (hnot Bl) (mg_none_of X G T.nosup) hmb
    ho har hco hcv hfile hcc T.self s4 s5 (by rw [hara]; exact s7 _ (by rw [hqs]; exact List.mem_cons_self)) s1 T.top hpp fun h2 tk2 S2 hz2 => ?_
  refine wpAt_of_wpAny ?_
  have hvm : ∀ y v, vmS ps (.ref x :: vs) y = some v → scope.names.lookup y = some .local ∧ (y == ("__debug__" : Str)) = false ∧ ∃ u, (ps.zip (Value.ref x :: us)).reverse.lookup y = some u ∧ RelV v u := fun y v e => by
    obtain ⟨u, h1, h2⟩ := zip_rel (us := Value.ref x :: us) (vs := V.ref x :: vs) (.cons rfl r) e
    have hm := (List.of_mem_zip (PySem.mem_of_lookup h1)).1
    exact ⟨s7 y hm, hdb y hm, u, by rw [lk _ hul]; exact h1, h2⟩
  refine run_asgs (h0 := h₁) (x := x) (C := C) (L := s.heap.objs.size) (vm := vmS ps (.ref x :: vs)) X1 hnx bx.sf ov T.hd T.sa s1 hns hself (s7 _ (by rw [hqs]; exact List.mem_cons_self)) hvm (Heap.lt_size (kp _ _ hx)) hxL t T.no S2 hz2 (by simpa using hll) hfs fun h3 tk3 d3 S3 hz3 z3 => ?_
  have hd3 := z3 (.inl hne)
  cases d3 with
  | none => cases hd3
  | some dx =>
    have z : s.heap.objs.size ≤ h₁.objs.size := Nat.le_of_lt hns.lt
    obtain ⟨a1, a2, a3⟩ := S3.dct
    exact hq h3 tk3 dx ⟨fun b o hb e => S3.keep b o hb (kp b o e), S3.obj, Nat.le_trans z a1, a2, a3⟩
theorem made_x (T : XcT prog K C fI ps l) {us : List Value} {vs : List V} {fs : Addr → List (Str × V)} (X : K.In s.heap) (hlim : s.heap.NoLimit) (G : s.heap.Ns mainGlobals mg) (Bl : s.heap.Ns builtinsNs mb) (hmb : mb "super" = some (.type "super")) (hroom : A.depth + 1 < recursionLimit)
    (hb : ∀ (fd : FuncData) (s : Shared) (zs : List Value), fd.defaults = .none → fd.kwdefaults = .none → parS fd.params = some ps → zs.length = ps.length → BindsTo s fd ⟨zs, []⟩ (ps.zip zs)) (hps : ∃ qs : List Str, ps = ("self" : Str) :: qs) (hnd : ps.Nodup) (hdb : ∀ y ∈ ps, (y == ("__debug__" : Str)) = false) (r : Vals vs us) (hlen : ps.length = us.length + 1) (hsz : us.length ≤ sizeLine) (hne : l ≠ []) (hll : l.length ≤ 900)
    (hfs : ∀ x, fldsS (vmS ps (.ref x :: vs)) l [] = some (fs x))
    (hq : ∀ h' tk e d, MadeX s.heap h' e C d (fs e) → R (.ok (.ret (.ref e))) { s with heap := h', toks := tk }) :
    codeAny (model prog w) A (.call (.ref C) ⟨us, []⟩) R s := by
  obtain ⟨B, newId, initId, bmB, bx, hin, ov, isB, hsup⟩ := T.bx
  obtain ⟨nm, N', qn, bs, bm, hdct, sn, sub, ab, col, dd, k0, k1, k2, k3, k5, hC, hT⟩ := excInit_of X hin
  obtain ⟨hp, g, dr, tk, os⟩ := s
  have k : ∀ b o, hp.get? b = some o → ((hp.push (kdv_tup us)).push (HandSPX.excO C hp.objs.size)).get? b = some o := fun b o e => Heap.get?_push_of_some _ (Heap.get?_push_of_some _ e)
  have hget : ((hp.push (kdv_tup us)).push (HandSPX.excO C hp.objs.size)).get? (hp.objs.size + 1) = some (HandSPX.excO C hp.objs.size) := by heap_get
  have hnx : K.lookup (hp.objs.size + 1) = none := by
    cases e : K.lookup (hp.objs.size + 1) with
    | none => rfl
    | some o => exact absurd (Nat.lt_of_succ_lt (Heap.lt_size (show hp.get? (hp.objs.size + 1) = some o from X _ _ e))) (Nat.lt_irrefl _)
  refine HandSPX.call_own bx.fb hT hC (looks_findIn X T.iC) (fun self => bind_fn X self T.tC) hsz ?_
  refine init_x (s := ⟨(hp.push (kdv_tup us)).push (HandSPX.excO C hp.objs.size), g, dr, tk, os⟩) (mg := mg) (mb := mb) (fs := fs (hp.objs.size + 1)) T (X.keeps k) (hlim.keeps k) (G.keeps k) (Bl.keeps k) hmb hget hnx ?_ (fun fd d1 d2 hp' => hb fd _ _ d1 d2 hp' (by simp [hlen])) hps hnd hdb r hlen hne hll (hfs _) fun h' tk' dx S => ?_
  · show A.depth + 1 < recursionLimit
    exact hroom
  · obtain ⟨a1, a2, a3⟩ := S.dct
    have old : ∀ b o, hp.get? b = some o → h'.get? b = some o := fun b o e => S.keep b o (Nat.ne_of_lt (Nat.lt_succ_of_lt (Heap.lt_size e))) (k b o e)
    have z : hp.objs.size + 1 + 1 ≤ dx := by
      have q : ((hp.push (kdv_tup us)).push (HandSPX.excO C hp.objs.size)).objs.size ≤ dx := a1
      rw [Heap.size_push, Heap.size_push] at q
      exact q
    exact ⟨rfl, hq h' tk' (hp.objs.size + 1) dx ⟨old, Nat.le_succ _, S.obj, Nat.le_trans (Nat.le_trans (Nat.le_succ _) (Nat.le_succ _)) z, a2, a3⟩⟩
end
end EXI
end PySem
set_option Elab.async false
set_option linter.all false
set_option maxRecDepth 100000
/-! The D-layer: raise of an own exception. -/
namespace DL
open PySem PySem.Spec PyProof.Rows L2
open PySem.EXI
variable {O : AS × Hp}
abbrev psX (fo : Option String) : List Str := Str.ofString "self" :: (fo.map Str.ofString).toList
abbrev lX (fo : Option String) (c : String) : List (Str × Src) := (match fo with | some f => [(Str.ofString f, Src.par (Str.ofString f))] | none => []) ++ [(Str.ofString "code", .con (Str.ofString c))]
/-- an own exception class by name; its field besides code -/
structure XcK (P : Program) (K : PySem.W.Frag) (mg : Str → Option Value) (C : String) (fo : Option String) (c : String) : Prop where
  t : ∃ fI, XcT P K (gaS K C) fI (psX fo) (lX fo c)
  gl : mg (Str.ofString C) = some (.ref (gaS K C))
  bd : ∀ (fd : FuncData) (s : Shared) (zs : List Value), fd.defaults = .none → fd.kwdefaults = .none → parS fd.params = some (psX fo) → zs.length = (psX fo).length → BindsTo s fd ⟨zs, []⟩ ((psX fo).zip zs)
  ne : ∀ f ∈ fo, f ≠ "self" ∧ f ≠ "__debug__"
theorem bind_none {fd : FuncData} {s : Shared} {zs : List Value} (d1 : fd.defaults = .none) (d2 : fd.kwdefaults = .none) (h : parS fd.params = some (psX none)) (hl : zs.length = (psX none).length) : BindsTo s fd ⟨zs, []⟩ ((psX none).zip zs) := by
  obtain ⟨n1, n2, n3, n4, n5, n6, n7, n8, n9, n10, n11, n12, n13, n14, n15⟩ := fd
  obtain ⟨a1, a2, a3, a4, a5, a6, a7⟩ := n3
  unfold parS at h
  dsimp only at h d1 d2
  subst d1 d2
  split at h
  · have e := Option.some.inj h
    match a2, zs, hl, e with
    | [⟨p1, an1, q1⟩], [z], _, e =>
      have h1 : p1 = Str.ofString "self" := (List.cons.inj e).1
      subst h1
      exact BindsTo.of_eq (by first | rfl | with_unfolding_all rfl)
  · cases h
theorem bind_at {fd : FuncData} {s : Shared} {zs : List Value} (d1 : fd.defaults = .none) (d2 : fd.kwdefaults = .none) (h : parS fd.params = some (psX (some "at"))) (hl : zs.length = (psX (some "at")).length) : BindsTo s fd ⟨zs, []⟩ ((psX (some "at")).zip zs) := by
  obtain ⟨n1, n2, n3, n4, n5, n6, n7, n8, n9, n10, n11, n12, n13, n14, n15⟩ := fd
  obtain ⟨a1, a2, a3, a4, a5, a6, a7⟩ := n3
  unfold parS at h
  dsimp only at h d1 d2
  subst d1 d2
  split at h
  · have e := Option.some.inj h
    match a2, zs, hl, e with
    | [⟨p1, an1, q1⟩, ⟨p2, an2, q2⟩], [z, y], _, e =>
      have h1 : p1 = Str.ofString "self" := (List.cons.inj e).1
      have h2 : p2 = Str.ofString "at" := (List.cons.inj (List.cons.inj e).2).1
      subst h1 h2
      exact BindsTo.of_eq (by first | rfl | with_unfolding_all rfl)
  · cases h
theorem bind_line {fd : FuncData} {s : Shared} {zs : List Value} (d1 : fd.defaults = .none) (d2 : fd.kwdefaults = .none) (h : parS fd.params = some (psX (some "line"))) (hl : zs.length = (psX (some "line")).length) : BindsTo s fd ⟨zs, []⟩ ((psX (some "line")).zip zs) := by
  obtain ⟨n1, n2, n3, n4, n5, n6, n7, n8, n9, n10, n11, n12, n13, n14, n15⟩ := fd
  obtain ⟨a1, a2, a3, a4, a5, a6, a7⟩ := n3
  unfold parS at h
  dsimp only at h d1 d2
  subst d1 d2
  split at h
  · have e := Option.some.inj h
    match a2, zs, hl, e with
    | [⟨p1, an1, q1⟩, ⟨p2, an2, q2⟩], [z, y], _, e =>
      have h1 : p1 = Str.ofString "self" := (List.cons.inj e).1
      have h2 : p2 = Str.ofString "line" := (List.cons.inj (List.cons.inj e).2).1
      subst h1 h2
      exact BindsTo.of_eq (by first | rfl | with_unfolding_all rfl)
  · cases h
theorem bind_given {fd : FuncData} {s : Shared} {zs : List Value} (d1 : fd.defaults = .none) (d2 : fd.kwdefaults = .none) (h : parS fd.params = some (psX (some "given"))) (hl : zs.length = (psX (some "given")).length) : BindsTo s fd ⟨zs, []⟩ ((psX (some "given")).zip zs) := by
  obtain ⟨n1, n2, n3, n4, n5, n6, n7, n8, n9, n10, n11, n12, n13, n14, n15⟩ := fd
  obtain ⟨a1, a2, a3, a4, a5, a6, a7⟩ := n3
  unfold parS at h
  dsimp only at h d1 d2
  subst d1 d2
  split at h
  · have e := Option.some.inj h
    match a2, zs, hl, e with
    | [⟨p1, an1, q1⟩, ⟨p2, an2, q2⟩], [z, y], _, e =>
      have h1 : p1 = Str.ofString "self" := (List.cons.inj e).1
      have h2 : p2 = Str.ofString "given" := (List.cons.inj (List.cons.inj e).2).1
      subst h1 h2
      exact BindsTo.of_eq (by first | rfl | with_unfolding_all rfl)
  · cases h
theorem bind_name {fd : FuncData} {s : Shared} {zs : List Value} (d1 : fd.defaults = .none) (d2 : fd.kwdefaults = .none) (h : parS fd.params = some (psX (some "name"))) (hl : zs.length = (psX (some "name")).length) : BindsTo s fd ⟨zs, []⟩ ((psX (some "name")).zip zs) := by
  obtain ⟨n1, n2, n3, n4, n5, n6, n7, n8, n9, n10, n11, n12, n13, n14, n15⟩ := fd
  obtain ⟨a1, a2, a3, a4, a5, a6, a7⟩ := n3
  unfold parS at h
  dsimp only at h d1 d2
  subst d1 d2
  split at h
  · have e := Option.some.inj h
    match a2, zs, hl, e with
    | [⟨p1, an1, q1⟩, ⟨p2, an2, q2⟩], [z, y], _, e =>
      have h1 : p1 = Str.ofString "self" := (List.cons.inj e).1
      have h2 : p2 = Str.ofString "name" := (List.cons.inj (List.cons.inj e).2).1
      subst h1 h2
      exact BindsTo.of_eq (by first | rfl | with_unfolding_all rfl)
  · cases h
theorem bind_most {fd : FuncData} {s : Shared} {zs : List Value} (d1 : fd.defaults = .none) (d2 : fd.kwdefaults = .none) (h : parS fd.params = some (psX (some "most"))) (hl : zs.length = (psX (some "most")).length) : BindsTo s fd ⟨zs, []⟩ ((psX (some "most")).zip zs) := by
  obtain ⟨n1, n2, n3, n4, n5, n6, n7, n8, n9, n10, n11, n12, n13, n14, n15⟩ := fd
  obtain ⟨a1, a2, a3, a4, a5, a6, a7⟩ := n3
  unfold parS at h
  dsimp only at h d1 d2
  subst d1 d2
  split at h
  · have e := Option.some.inj h
    match a2, zs, hl, e with
    | [⟨p1, an1, q1⟩, ⟨p2, an2, q2⟩], [z, y], _, e =>
      have h1 : p1 = Str.ofString "self" := (List.cons.inj e).1
      have h2 : p2 = Str.ofString "most" := (List.cons.inj (List.cons.inj e).2).1
      subst h1 h2
      exact BindsTo.of_eq (by first | rfl | with_unfolding_all rfl)
  · cases h
theorem bind_limit {fd : FuncData} {s : Shared} {zs : List Value} (d1 : fd.defaults = .none) (d2 : fd.kwdefaults = .none) (h : parS fd.params = some (psX (some "limit"))) (hl : zs.length = (psX (some "limit")).length) : BindsTo s fd ⟨zs, []⟩ ((psX (some "limit")).zip zs) := by
  obtain ⟨n1, n2, n3, n4, n5, n6, n7, n8, n9, n10, n11, n12, n13, n14, n15⟩ := fd
  obtain ⟨a1, a2, a3, a4, a5, a6, a7⟩ := n3
  unfold parS at h
  dsimp only at h d1 d2
  subst d1 d2
  split at h
  · have e := Option.some.inj h
    match a2, zs, hl, e with
    | [⟨p1, an1, q1⟩, ⟨p2, an2, q2⟩], [z, y], _, e =>
      have h1 : p1 = Str.ofString "self" := (List.cons.inj e).1
      have h2 : p2 = Str.ofString "limit" := (List.cons.inj (List.cons.inj e).2).1
      subst h1 h2
      exact BindsTo.of_eq (by first | rfl | with_unfolding_all rfl)
  · cases h
theorem bind_liquid {fd : FuncData} {s : Shared} {zs : List Value} (d1 : fd.defaults = .none) (d2 : fd.kwdefaults = .none) (h : parS fd.params = some (psX (some "liquid"))) (hl : zs.length = (psX (some "liquid")).length) : BindsTo s fd ⟨zs, []⟩ ((psX (some "liquid")).zip zs) := by
  obtain ⟨n1, n2, n3, n4, n5, n6, n7, n8, n9, n10, n11, n12, n13, n14, n15⟩ := fd
  obtain ⟨a1, a2, a3, a4, a5, a6, a7⟩ := n3
  unfold parS at h
  dsimp only at h d1 d2
  subst d1 d2
  split at h
  · have e := Option.some.inj h
    match a2, zs, hl, e with
    | [⟨p1, an1, q1⟩, ⟨p2, an2, q2⟩], [z, y], _, e =>
      have h1 : p1 = Str.ofString "self" := (List.cons.inj e).1
      have h2 : p2 = Str.ofString "liquid" := (List.cons.inj (List.cons.inj e).2).1
      subst h1 h2
      exact BindsTo.of_eq (by first | rfl | with_unfolding_all rfl)
  · cases h
def BindX (fo : Option String) : Prop := ∀ (fd : FuncData) (s : Shared) (zs : List Value), fd.defaults = .none → fd.kwdefaults = .none → parS fd.params = some (psX fo) → zs.length = (psX fo).length → BindsTo s fd ⟨zs, []⟩ ((psX fo).zip zs)
section
variable {X : Cx} {x C c : String} {fo : Option String} {e : Expr} {es : List Expr} {ta : TA} {p pos : Pos} {k : Nat} {td : DTE} {Ed : DXK} {E : XK} {pos2 : Pos}
def fX (fo : Option String) (c : String) (vs : List V) : List (Str × V) := (Str.ofString "code", .str (Str.ofString c)) :: (match fo, vs with | some f, [v] => [(Str.ofString f, v)] | _, _ => [])
def tMkX (K : PySem.W.Frag) (C : String) (fo : Option String) (c : String) (ta : TA) : St → Hp → XK → Prop := fun σ H Q => ta σ H fun vs H1 => vs.length = fo.toList.length ∧ ∀ d, H1 d = none → Q (.ref (gaS K C)) (some d) (upd H1 d (.xd (fX fo c vs)))
theorem flds_x {fo : Option String} {c : String} {vs : List V} (hn : ∀ f ∈ fo, f ≠ "self" ∧ f ≠ "__debug__") (hl : vs.length = fo.toList.length) (a : Addr) : fldsS (vmS (psX fo) (.ref a :: vs)) (lX fo c) [] = some (fX fo c vs) := by
  cases fo with
  | none =>
    match vs, hl with
    | [], _ => rfl
  | some f =>
    match vs, hl with
    | [v], _ =>
      have h1 := (hn f rfl).1
      have e1 : (Str.ofString f == Str.ofString "self") = false := beq_eq_false_iff_ne.mpr fun z => h1 (ofString_inj z)
      have e2 : vmS (psX (some f)) [.ref a, v] (Str.ofString f) = some v := by
        show List.lookup (Str.ofString f) [(Str.ofString "self", V.ref a), (Str.ofString f, v)] = some v
        simp [List.lookup, e1]
      show ((vmS (psX (some f)) [.ref a, v] (Str.ofString f)).bind fun v' => fldsS (vmS (psX (some f)) [.ref a, v]) [(Str.ofString "code", Src.con (Str.ofString c))] [(Str.ofString f, v')]) = _
      rw [e2]
      rfl
theorem made_at {pins : List (Addr × Obj)} {σ : St} {H1 : Hp} {s1 : Shared} {Q : XK} {us : List Value} {vs : List V} (T : XcK X.prog X.K X.mg C fo c) (hr : Room k X.A) (I1 : Inv X pins σ H1 s1) (r1 : Vals vs us) (hl : vs.length = fo.toList.length)
    (q1 : ∀ d, H1 d = none → Q (.ref (gaS X.K C)) (some d) (upd H1 d (.xd (fX fo c vs)))) : wpAny (model X.prog X.w) X.A (call (.ref (gaS X.K C)) us) (L2N.MkP X pins σ Q) X.xe s1 := by
  obtain ⟨fI, T1⟩ := T.t
  have hlim := I1.nolimit
  obtain ⟨mb, hb1, hb2⟩ := I1.mod.blt
  have hus : us.length = fo.toList.length := by rw [← r1.length]; exact hl
  have hG : s1.heap.Ns mainGlobals X.mg := I1.mod.glob.keeps I1.bk
  have hB : s1.heap.Ns builtinsNs mb := hb1.keeps I1.bk
  have hKI := I1.kIn
  have hlu : us.length ≤ 1 := by rw [hus]; cases fo <;> simp
  obtain ⟨hp, g, dr, tk, os⟩ := s1
  refine wpAny_call (made_x (fs := fun _ => fX fo c vs) T1 hKI hlim hG hB ((hb2 _ (by decide)).trans (by decide +kernel)) (by have := hr.dp; omega) T.bd ⟨_, rfl⟩ ?_ ?_ r1 ?_ (by have := sizeLine_eq; omega) (by cases fo <;> simp [lX]) (by cases fo <;> simp [lX]) (flds_x T.ne hl) fun h' tk' e d M => ?_)
  · cases fo with
    | none => simp [psX]
    | some f => simpa [psX] using fun z => (T.ne f rfl).1 (ofString_inj z).symm
  · intro y hy
    cases fo with
    | none => simp [psX] at hy; subst hy; decide
    | some f =>
      simp [psX] at hy
      rcases hy with rfl | rfl
      · decide
      · exact beq_eq_false_iff_ne.mpr fun z => (T.ne f rfl).2 (ofString_inj z)
  · cases fo <;> simp [psX] at hus ⊢ <;> omega
  · obtain ⟨t1, hoe⟩ := M.obj
    obtain ⟨mA, hns, rel⟩ := M.ns
    obtain ⟨G', g1, g2⟩ := restrict h' fun b => decide (b ≠ e)
    have gk : ∀ b, b ≠ e → G'.get? b = h'.get? b := fun b hb => g1 b (decide_eq_true hb)
    have ge : G'.get? e = none := g2 e (by simp)
    have old : ∀ b o, hp.get? b = some o → G'.get? b = some o := fun b o q => (gk b (Nat.ne_of_lt (Nat.lt_of_lt_of_le (Heap.lt_size q) M.new))).trans (M.keep b o q)
    have ob : ObjOk X.prog X.w (upd H1 d (.xd (fX fo c vs))) G' d (.xd (fX fo c vs)) := ⟨mA, hns.at (fun o q => (gk d M.dne).trans q), rel⟩
    have J : Inv X pins σ (upd H1 d (.xd (fX fo c vs))) ⟨G', g, dr, tk', os⟩ := I1.laid (t' := tk') old M.dbig ob
    refine ⟨e, _, _, ⟨G', g, dr, tk', os⟩, _, .ref (gaS X.K C), some d, rfl, J, fun b o q => ?_, ge, hoe, ⟨rfl, rfl, fun vs h => by cases h; rfl⟩, rfl, rfl, ?_, rfl, I1.bare, raises_own T1.exC T1.tyC, q1 d (I1.hok.fresh M.dbig)⟩
    · by_cases hb : b = e
      · have q' : G'.get? b = some o := q
        rw [hb, ge] at q'; cases q'
      · exact (gk b hb).symm.trans q
    · rw [upd_ne (Ne.symm M.dne)]
      exact I1.hok.fresh M.new
theorem pmk_x (T : XcK X.prog X.K X.mg C fo c) (hr : Room k X.A) (ha : PA X (e :: es) ta) (hg : Gl X (Str.ofString C) := by rfl) (hdb : (Str.ofString C == ("__debug__" : Str)) = false := by decide)
    (he : starEach (e :: es) X.env = (false, eval e X.env) :: starEach es X.env := by rfl) (hpl : (backTo pos (starEach es X.env)).any (·.1) = false := by rfl) : L2N.PMk X (.Call (.Name (Str.ofString C) p) (e :: es) [] pos) (tMkX X.K C fo c ta) := by
  intro pins s σ H Q I h
  obtain ⟨fI, T1⟩ := T.t
  refine wpAny_Call_Name_kw (ld_glob I hg T.gl ?_ hdb)
  refine PySem.W.callWith_K (h₀ := X.base) I.ok.mod.kin T1.kC (thn (ha.run pos pins s σ H _ I h) fun us s1 ⟨vs, H1, I1, r1, hl, q1⟩ => ⟨I1.kIn, ?_⟩) he hpl
  exact made_at T hr I1 r1 hl q1
theorem pmk_x0 (T : XcK X.prog X.K X.mg C none c) (hr : Room k X.A) (hg : Gl X (Str.ofString C) := by rfl) (hdb : (Str.ofString C == ("__debug__" : Str)) = false := by decide) : L2N.PMk X (.Call (.Name (Str.ofString C) p) [] [] pos) (tMkX X.K C none c tNil) := by
  intro pins s σ H Q I h
  obtain ⟨fI, T1⟩ := T.t
  refine wpAny_Call_Name_kw (ld_glob I hg T.gl ?_ hdb)
  refine PySem.W.callWith_K0 I.kIn T1.kC ?_
  obtain ⟨hl, q1⟩ := h
  exact made_at T hr I .nil hl q1
def strN (c : String) : List Nat := (Str.ofString c).cps.toList
theorem sv_strN (c : String) : sv (strN c) = .str (Str.ofString c) := by unfold sv strN; simp
/-- raise C(e), C(e).f the field -/
def dRaise (C f c : String) (ta : DTE) (Ed : DXK) : DTS := fun _ ρ G => ta ρ G fun d G1 => Ed ⟨C, [("code", .str (strN c)), (f, d)]⟩ G1
def dRaise0 (C c : String) (Ed : DXK) : DTS := fun _ _ G => Ed ⟨C, [("code", .str (strN c))]⟩ G
theorem r_code {K : PySem.W.Frag} {G : AS} {H : Hp} {c : String} : R K G H (.str (strN c)) (.str (Str.ofString c)) := by
  rw [← sv_strN]; exact .str _
theorem ds_raise {f : String} (hc : X.calm = true) (xo : XO X O Ed E) (T : XcK X.prog X.K X.mg C (some f) c) (hr : Room k X.A) (ha : DE X O e td) (hg : Gl X (Str.ofString C) := by rfl) (hdb : (Str.ofString C == ("__debug__" : Str)) = false := by decide)
    (he : starEach (e :: []) X.env = (false, eval e X.env) :: starEach [] X.env := by rfl) (hpl : (backTo pos (starEach [] X.env)).any (·.1) = false := by rfl) : DS X O (.Raise (some (.Call (.Name (Str.ofString C) p) [e] [] pos)) none pos2) (dRaise C f c td Ed) :=
  imS (L2N.ps_raise hc xo.tk (pmk_x T hr (pa_cons ha pa_nil he) hg hdb he hpl)) fun D' σ H ⟨ρ, G, DD, Em, h, kk⟩ => up1 Em h fun v H1 d G1 r E1 x1 h1 => by
    refine ⟨rfl, fun dd hn => xo.kx _ _ _ _ G1 ⟨rfl, dd, _, rfl, E1.hp.un hn, upd_same, ?_⟩ (E1.hp.new hn) (E1.org.trans (Ext.new hn)) h1⟩
    exact .cons _ r_code (.cons _ (r.ext (Ext.new hn)) .nil)
theorem ds_raise0 (hc : X.calm = true) (xo : XO X O Ed E) (T : XcK X.prog X.K X.mg C none c) (hr : Room k X.A) (hg : Gl X (Str.ofString C) := by rfl) (hdb : (Str.ofString C == ("__debug__" : Str)) = false := by decide) :
    DS X O (.Raise (some (.Call (.Name (Str.ofString C) p) [] [] pos)) none pos2) (dRaise0 C c Ed) :=
  imS (L2N.ps_raise hc xo.tk (pmk_x0 T hr hg hdb)) fun D' σ H ⟨ρ, G, DD, Em, h, kk⟩ => by
    refine ⟨rfl, fun dd hn => xo.kx _ _ _ _ G ⟨rfl, dd, _, rfl, Em.hp.un hn, upd_same, ?_⟩ (Em.hp.new hn) (Em.org.trans (Ext.new hn)) h⟩
    exact .cons _ r_code .nil
end
end DL
set_option Elab.async false
set_option linter.all false
set_option maxRecDepth 100000
set_option maxHeartbeats 1000000
/-! Cells tracked across a call: what a lambda captured. -/
namespace DL
open PySem PySem.Spec PyProof.Rows L2
def CellO (c : Addr) (o : Obj) : HO := .ext fun h => h.get? c = some o
theorem cellO_own {c a : Addr} {o : Obj} : CellO c o ≠ .own a := fun z => by
  have z' : HO.ext _ = HO.own a := z
  cases z'
theorem cellO_tup {c : Addr} {o : Obj} {xs : List V} : CellO c o ≠ .tup xs := fun z => by
  have z' : HO.ext _ = HO.tup xs := z
  cases z'
theorem cellO_frz {c : Addr} {o ob : Obj} {u : HO} : CellO c o ≠ .frz ob u := fun z => by
  have z' : HO.ext _ = HO.frz ob u := z
  cases z'
theorem cellO_tbl {c : Addr} {o : Obj} {ps : Array Value} : CellO c o ≠ .tbl ps := fun z => by
  have z' : HO.ext _ = HO.tbl ps := z
  cases z'
theorem cellO_ok {P : Program} {w : World} {H : Hp} {h : Heap} {c : Addr} {o : Obj} (e : h.get? c = some o) : ObjOk P w H h c (CellO c o) := ⟨e, ⟨o, e⟩, fun h1 h2 z k => k _ z⟩
theorem cellO_at {P : Program} {w : World} {H : Hp} {h : Heap} {c : Addr} {o : Obj} (hok : HOk P w H h) (e : H c = some (CellO c o)) : h.get? c = some o := (hok c _ e).1
noncomputable section
open Classical
def trk (H : Hp) (h : Heap) (A : List Addr) : Hp := fun b => if b ∈ A then (h.get? b).map (CellO b) else H b
def unt (H : Hp) (A : List Addr) : Hp := fun b => if b ∈ A then none else H b
def reT (H : Hp) (A : List Addr) (H0 : Hp) : Hp := fun b => if b ∈ A then H0 b else H b
end
section
variable {H H0 : Hp} {h : Heap} {A : List Addr} {b : Addr}
theorem trk_in (hb : b ∈ A) : trk H h A b = (h.get? b).map (CellO b) := if_pos hb
theorem trk_out (hb : b ∉ A) : trk H h A b = H b := if_neg hb
theorem unt_in (hb : b ∈ A) : unt H A b = none := if_pos hb
theorem unt_out (hb : b ∉ A) : unt H A b = H b := if_neg hb
theorem reT_in (hb : b ∈ A) : reT H A H0 b = H0 b := if_pos hb
theorem reT_out (hb : b ∉ A) : reT H A H0 b = H b := if_neg hb
end
/-- the cells: nobody tracks them -/
structure CellsIn (base : Heap) (outer : List Env) (H : Hp) (h : Heap) (A : List Addr) : Prop where
  at_ : ∀ b ∈ A, H b = none ∧ b ∉ frs outer ∧ base.get? b = none ∧ ∃ o, h.get? b = some o
section
variable {P : Program} {w : World} {K : PySem.W.Frag} {mg : Str → Option Value} {base : Heap} {A : Around} {outer : List Env} {s : Shared} {H HZ : Hp} {B : List Addr} {Q Q2 : VK} {E E2 : XK} {u : Value} {s' : Shared}
theorem trk_env0 (e : Env0 P w K mg base A outer s H) (c : CellsIn base outer H s.heap B) : Env0 P w K mg base A outer s (trk H s.heap B) := by
  have no : ∀ {b : Addr} {o : HO}, H b = some o → b ∉ B := fun {b o} e1 hb => by rw [(c.at_ b hb).1] at e1; cases e1
  refine ⟨e.frames, e.mod, fun b o hb => ?_, e.bsz, e.funs, fun b hb => ?_, fun a o ha => ?_, e.bare⟩
  · have nb : b ∉ B := fun z => by rw [(c.at_ b z).2.2.1] at hb; cases hb
    rw [trk_out nb]
    exact e.bs b o hb
  · have nb : b ∉ B := fun z => (c.at_ b z).2.1 hb
    rw [trk_out nb]
    exact e.frf b hb
  · by_cases hb : a ∈ B
    · obtain ⟨_, _, _, ob, ho⟩ := c.at_ a hb
      rw [trk_in hb, ho] at ha
      cases ha
      exact cellO_ok ho
    · rw [trk_out hb] at ha
      exact (e.hok a o ha).stay (fun _ _ _ q => q) (fun b q => by rw [trk_out (no q)]; exact q) fun b xs q => by rw [trk_out (no q)]; exact q
theorem ce_untrk (c : CellsIn base outer H s.heap B) (h : CE outer P w (trk H s.heap B) s Q u s') (k : ∀ v H', Q v H' → (∀ b ∈ B, H' b = trk H s.heap B b) ∧ Q2 v (unt H' B)) : CE outer P w H s Q2 u s' := by
  obtain ⟨v, H', os, bare, un, hok, r, q⟩ := h
  obtain ⟨k1, k2⟩ := k v H' q
  have cell : ∀ {b : Addr}, b ∈ B → ∃ o, s.heap.get? b = some o ∧ H' b = some (CellO b o) ∧ s'.heap.get? b = some o := fun {b} hb => by
    obtain ⟨_, _, _, o, ho⟩ := c.at_ b hb
    have e : H' b = some (CellO b o) := by rw [k1 b hb, trk_in hb, ho]; rfl
    exact ⟨o, ho, e, cellO_at hok e⟩
  have no : ∀ {b : Addr} {o : HO}, H b = some o → b ∉ B := fun {b o} e1 hb => by rw [(c.at_ b hb).1] at e1; cases e1
  refine ⟨v, unt H' B, os, bare, ⟨fun b o e n hf hx => ?_, fun b o e n hf hx => ?_, fun b o e n hx => ?_, un.there, fun b xs e => ?_, fun b o x e => ?_, fun b ps e => ?_⟩, fun a o ha => ?_, r, k2⟩
  · by_cases hb : b ∈ B
    · obtain ⟨o', e1, _, e3⟩ := cell hb
      rw [e] at e1; cases e1
      exact e3
    · exact un.keep b o e (by rw [trk_out hb]; exact n) hf hx
  · have hb : b ∉ B := fun z => (c.at_ b z).2.1 hf
    exact un.slot b o e (by rw [trk_out hb]; exact n) hf hx
  · by_cases hb : b ∈ B
    · exact unt_in hb
    · rw [unt_out hb]
      exact un.free b o e (by rw [trk_out hb]; exact n) hx
  · rw [unt_out (no e)]
    exact un.tups b xs (by rw [trk_out (no e)]; exact e)
  · rw [unt_out (no e)]
    exact un.frzs b o x (by rw [trk_out (no e)]; exact e)
  · rw [unt_out (no e)]
    exact un.tbls b ps (by rw [trk_out (no e)]; exact e)
  · by_cases hb : a ∈ B
    · rw [unt_in hb] at ha; cases ha
    · rw [unt_out hb] at ha
      refine (hok a o ha).stay (fun _ _ _ q => q) (fun b q => ?_) fun b xs q => ?_
      · have nb : b ∉ B := fun z => by
          obtain ⟨o', _, e2, _⟩ := cell z
          rw [e2] at q; exact cellO_own (Option.some.inj q)
        rw [unt_out nb]; exact q
      · have nb : b ∉ B := fun z => by
          obtain ⟨o', _, e2, _⟩ := cell z
          rw [e2] at q; exact cellO_tup (Option.some.inj q)
        rw [unt_out nb]; exact q
/-- the cells are tracked -/
def Tracked (HZ : Hp) (B : List Addr) : Prop := ∀ b ∈ B, ∃ o, HZ b = some (CellO b o)
theorem unt_hok (hok : HOk P w HZ s.heap) (t : Tracked HZ B) : HOk P w (unt HZ B) s.heap := fun a o ha => by
  by_cases hb : a ∈ B
  · rw [unt_in hb] at ha; cases ha
  · rw [unt_out hb] at ha
    refine (hok a o ha).stay (fun _ _ _ q => q) (fun b q => ?_) fun b xs q => ?_
    · have nb : b ∉ B := fun z => by
        obtain ⟨o', e2⟩ := t b z
        rw [e2] at q; exact cellO_own (Option.some.inj q)
      rw [unt_out nb]; exact q
    · have nb : b ∉ B := fun z => by
        obtain ⟨o', e2⟩ := t b z
        rw [e2] at q; exact cellO_tup (Option.some.inj q)
      rw [unt_out nb]; exact q
theorem unt_env0 (e : Env0 P w K mg base A outer s HZ) (t : Tracked HZ B) : Env0 P w K mg base A outer s (unt HZ B) := by
  have le : ∀ {b : Addr}, HZ b = none → unt HZ B b = none := fun {b} n => by
    by_cases hb : b ∈ B
    · exact unt_in hb
    · rw [unt_out hb]; exact n
  exact ⟨e.frames, e.mod, fun b o hb => ⟨(e.bs b o hb).1, le (e.bs b o hb).2⟩, e.bsz, e.funs, fun b hb => le (e.frf b hb), unt_hok e.hok t, e.bare⟩
theorem ce_retrk (e0 : Env0 P w K mg base A outer s HZ) (t : Tracked HZ B) (h : CE outer P w (unt HZ B) s Q u s') (k : ∀ v H', (∀ b ∈ B, H' b = none) → Q v H' → Q2 v (reT H' B HZ)) : CE outer P w HZ s Q2 u s' := by
  obtain ⟨v, H', os, bare, un, hok, r, q⟩ := h
  have nfr : ∀ {b : Addr}, b ∈ B → b ∉ frs outer := fun {b} hb z => by
    obtain ⟨o, e⟩ := t b hb
    rw [e0.frf b z] at e; cases e
  have cell : ∀ {b : Addr}, b ∈ B → ∃ o, HZ b = some (CellO b o) ∧ s'.heap.get? b = some o ∧ H' b = none := fun {b} hb => by
    obtain ⟨o, e⟩ := t b hb
    have ho := cellO_at e0.hok e
    exact ⟨o, e, un.keep b o ho (unt_in hb) (nfr hb) (by simp), un.free b o ho (unt_in hb) (by simp)⟩
  have no : ∀ {b : Addr}, HZ b = none → b ∉ B := fun {b} n hb => by
    obtain ⟨o, e⟩ := t b hb
    rw [e] at n; cases n
  refine ⟨v, reT H' B HZ, os, bare, ⟨fun b o e n hf hx => un.keep b o e (by rw [unt_out (no n)]; exact n) hf hx, fun b o e n hf hx => un.slot b o e (by rw [unt_out (no n)]; exact n) hf hx, fun b o e n hx => ?_, un.there, fun b xs e => ?_, fun b o x e => ?_, fun b ps e => ?_⟩, fun a o ha => ?_, r, k v H' (fun b hb => let ⟨_, _, _, e⟩ := cell hb; e) q⟩
  · rw [reT_out (no n)]
    exact un.free b o e (by rw [unt_out (no n)]; exact n) hx
  · have nb : b ∉ B := fun z => by
      obtain ⟨o', e2, _⟩ := cell z
      rw [e2] at e; exact cellO_tup (Option.some.inj e)
    rw [reT_out nb]; exact un.tups b xs (by rw [unt_out nb]; exact e)
  · have nb : b ∉ B := fun z => by
      obtain ⟨o', e2, _⟩ := cell z
      rw [e2] at e; exact cellO_frz (Option.some.inj e)
    rw [reT_out nb]; exact un.frzs b o x (by rw [unt_out nb]; exact e)
  · have nb : b ∉ B := fun z => by
      obtain ⟨o', e2, _⟩ := cell z
      rw [e2] at e; exact cellO_tbl (Option.some.inj e)
    rw [reT_out nb]; exact un.tbls b ps (by rw [unt_out nb]; exact e)
  · by_cases hb : a ∈ B
    · obtain ⟨o', e1, e2, _⟩ := cell hb
      rw [reT_in hb, e1] at ha
      cases ha
      exact cellO_ok e2
    · rw [reT_out hb] at ha
      refine (hok a o ha).stay (fun _ _ _ q => q) (fun b q => ?_) fun b xs q => ?_
      · have nb : b ∉ B := fun z => by
          obtain ⟨o', _, _, e3⟩ := cell z
          rw [e3] at q; cases q
        rw [reT_out nb]; exact q
      · have nb : b ∉ B := fun z => by
          obtain ⟨o', _, _, e3⟩ := cell z
          rw [e3] at q; cases q
        rw [reT_out nb]; exact q
theorem cx_retrk (e0 : Env0 P w K mg base A outer s HZ) (t : Tracked HZ B) (h : L2N.CX P w outer (unt HZ B) s E u s') (k : ∀ cls d H', (∀ b ∈ B, H' b = none) → E cls d H' → E2 cls d (reT H' B HZ)) : L2N.CX P w outer HZ s E2 u s' := by
  obtain ⟨a, Bh, H', cls, d, eu, fl, hok, ub, na, os, bare, q⟩ := h
  have nfr : ∀ {b : Addr}, b ∈ B → b ∉ frs outer := fun {b} hb z => by
    obtain ⟨o, e⟩ := t b hb
    rw [e0.frf b z] at e; cases e
  have cell : ∀ {b : Addr}, b ∈ B → ∃ o, HZ b = some (CellO b o) ∧ Bh.get? b = some o ∧ H' b = none := fun {b} hb => by
    obtain ⟨o, e⟩ := t b hb
    have ho := cellO_at e0.hok e
    exact ⟨o, e, ub.keep b o ho (unt_in hb) (nfr hb), ub.free b o ho (unt_in hb)⟩
  have no : ∀ {b : Addr}, HZ b = none → b ∉ B := fun {b} n hb => by
    obtain ⟨o, e⟩ := t b hb
    rw [e] at n; cases n
  have nA : a ∉ B := fun z => by
    obtain ⟨o, _, e2, _⟩ := cell z
    rw [fl.2.1] at e2; cases e2
  refine ⟨a, Bh, reT H' B HZ, cls, d, eu, fl, fun x o ha => ?_, ⟨fun b o e n hf => ub.keep b o e (by rw [unt_out (no n)]; exact n) hf, ub.slot, fun b o e n => ?_, ub.there, fun b xs e => ?_, fun b o x e => ?_, fun b ps e => ?_⟩, by rw [reT_out nA]; exact na, os, bare, k _ _ _ (fun b hb => let ⟨_, _, _, e⟩ := cell hb; e) q⟩
  · by_cases hb : x ∈ B
    · obtain ⟨o', e1, e2, _⟩ := cell hb
      rw [reT_in hb, e1] at ha
      cases ha
      exact cellO_ok e2
    · rw [reT_out hb] at ha
      refine (hok x o ha).stay (fun _ _ _ q => q) (fun b q => ?_) fun b xs q => ?_
      · have nb : b ∉ B := fun z => by
          obtain ⟨o', _, _, e3⟩ := cell z
          rw [e3] at q; cases q
        rw [reT_out nb]; exact q
      · have nb : b ∉ B := fun z => by
          obtain ⟨o', _, _, e3⟩ := cell z
          rw [e3] at q; cases q
        rw [reT_out nb]; exact q
  · rw [reT_out (no n)]
    exact ub.free b o e (by rw [unt_out (no n)]; exact n)
  · have nb : b ∉ B := fun z => by
      obtain ⟨o', e2, _⟩ := cell z
      rw [e2] at e; exact cellO_tup (Option.some.inj e)
    rw [reT_out nb]; exact ub.tups b xs (by rw [unt_out nb]; exact e)
  · have nb : b ∉ B := fun z => by
      obtain ⟨o', e2, _⟩ := cell z
      rw [e2] at e; exact cellO_frz (Option.some.inj e)
    rw [reT_out nb]; exact ub.frzs b o x (by rw [unt_out nb]; exact e)
  · have nb : b ∉ B := fun z => by
      obtain ⟨o', e2, _⟩ := cell z
      rw [e2] at e; exact cellO_tbl (Option.some.inj e)
    rw [reT_out nb]; exact ub.tbls b ps (by rw [unt_out nb]; exact e)
end
end DL
set_option Elab.async false
set_option linter.all false
set_option maxRecDepth 100000
set_option maxHeartbeats 1000000
/-! Lambdas made. -/
namespace DL
open PySem PySem.Spec PyProof.Rows L2
variable {O : AS × Hp}
theorem lamO_at {P : Program} {w : World} {H : Hp} {h : Heap} {f : Addr} {F : LamF} (hok : HOk P w H h) (e : H f = some (LamO f F)) : ∃ (od : Option Addr) (sl : Array (Option Value)) (doc pm ctv : Value), h.get? f = some (⟨.type "function", od, .func (F.fd doc pm ctv), sl⟩ : Obj) := by
  obtain ⟨z, _, _⟩ := hok f _ e
  exact z
section
variable {X : Cx} {pins : List (Addr × Obj)} {σ : St} {H : Hp} {s : Shared} {G : AS} {ρ : DSt}
/-- a lambda's object just made is known from now on -/
theorem inv_lam {F : LamF} {t' : Nat} {doc pm ctv : Value} (I : Inv X pins σ H s) :
    Inv X pins σ (upd H s.heap.objs.size (LamO s.heap.objs.size F)) { s with heap := s.heap.push { cls := .type "function", data := .func (F.fd doc pm ctv) }, toks := t' } := by
  refine I.laid (a := s.heap.objs.size) (fun b u e => Heap.get?_push_of_some _ e) (Nat.le_refl _) ?_
  have e : (s.heap.push ({ cls := .type "function", data := .func (F.fd doc pm ctv) } : Obj)).get? s.heap.objs.size = some ({ cls := .type "function", data := .func (F.fd doc pm ctv) } : Obj) := Heap.get?_push_size _ rfl
  exact ⟨⟨_, _, doc, pm, ctv, e⟩, ⟨_, e⟩, fun h1 h2 ⟨od, sl, d, p, t, z⟩ st => ⟨od, sl, d, p, t, st _ z⟩⟩
theorem lam_new {P c : Addr} {nm : Nat → Nat → Str} {q : Str} {params : Arguments} {body : Expr} {scope : Scope} {pos : Pos} {E : Value → Shared → Prop} {Q : Value → Shared → Prop} {dfl : Option Addr} {dV : Value} (hdv : dV = dvO dfl)
    (I : Inv X pins σ H s) (Em : EmbH X.K G H) (TB : LamX.TabB X.base X.mg c P) (hcode : X.env.code = .ref c) (hG : G.g P = some (.tab nm)) (hn : nm pos.line pos.col = q) (hfree : ∀ y ∈ scope.names, y.2 = .free → ∃ c, X.env.cells.lookup y.1 = some c)
    (hT : ∀ T ∈ dfl, G.un T ∧ H T = some (.tup [.int 0]))
    (h : ∀ (f c' : Addr) (H1 : Hp) (s' : Shared), Inv X pins σ H1 s' → EmbH X.K G H1 → Ext G H G H1 → R X.K G H1 (.fn ⟨q, params, body, scope, cloFrom X.env.cells scope.names [], c', dfl⟩) (.ref f) → Q (.ref f) s') :
    wpAny (model X.prog X.w) X.A (makeTail "<lambda>" q params (.expr body) scope X.env dV .none none pos pos.line) Q E s := by
  subst hdv
  obtain ⟨ho, hP, ps, e1, ht, ha⟩ := Em.tr P _ hG
  subst e1
  have bP : s.heap.BuiltinsAt X.mg P := TB.bm.keeps I.bk
  have hP' : s.heap.get? P = some { cls := .none, data := .fields ps } := I.hok P _ hP
  have fin : ∀ {H1 : Hp} {s1 : Shared} {c' : Addr} {doc ctv pm : Value} {tk : Nat}, Inv X pins σ H1 s1 → EmbH X.K G H1 → Ext G H G H1 → G.un c' → H1 c' = some (LamX.CodeO c' q) →
      Q (.ref s1.heap.objs.size) { s1 with heap := s1.heap.push { cls := .type "function", data := .func (PySem.W.kdv_fn "<lambda>" q params (.expr body) scope (cloFrom X.env.cells scope.names []) (dvO dfl) doc pm (.ref c') ctv) }, toks := tk } := fun {H1 s1 c' doc ctv pm tk} I1 E1 x1 uc hc => by
    have nF := I1.hok.fresh (Nat.le_refl s1.heap.objs.size)
    have I2 := inv_lam (F := ⟨q, params, body, scope, cloFrom X.env.cells scope.names [], c', dfl⟩) (t' := tk) (doc := doc) (pm := pm) (ctv := ctv) I1
    have x2 : Ext G H1 G (upd H1 s1.heap.objs.size (LamO s1.heap.objs.size ⟨q, params, body, scope, cloFrom X.env.cells scope.names [], c', dfl⟩)) := Ext.new nF
    refine h _ c' _ _ I2 (E1.new nF) (x1.trans x2) (.fn (E1.un nF) upd_same uc ?_ fun T hT' => ?_)
    · exact (x2.un hc uc).1
    · obtain ⟨u, e⟩ := hT T hT'
      exact ⟨u, ((x1.trans x2).un e u).1⟩
  cases hc : codeAmong pos ps.toList with
  | none =>
    refine PySem.W.kdv_makeTail (mg := X.mg) (c := c) (P := P) (ps := ps) (closure_ok hfree) I.ok.glob (I.mod.glob.keeps I.bk) hcode (TB.code.keeps I.bk) hP' ht hc TB.gP bP fun c' ctv doc h' tk hx hge hlt hrec htb => ?_
    obtain ⟨c2, oc, vs, t, e2, hoc, hd, hv⟩ := hrec
    cases e2
    have nC : H c' = none := I.hok.fresh hge
    have I1 := LamX.inv_table (t' := tk) (more := #[rawInt pos.line, rawInt pos.col, .ref c']) (h' := h') (q := q) I hP (fun b o hb e => hx b o hb e) htb hge ⟨oc, vs, t, hoc, hd, hv⟩
    have x1 : Ext G H G (upd (upd H P (.tbl (ps ++ #[rawInt pos.line, rawInt pos.col, .ref c']))) c' (LamX.CodeO c' q)) := fun a o e g => by
      have n1 : a ≠ P := fun z => by rw [z, hG] at g; cases g
      exact ⟨by rw [upd_ne (ne_of_none e nC), upd_ne n1]; exact e, g, Iff.rfl⟩
    have eL : (ps ++ #[rawInt pos.line, rawInt pos.col, .ref c']).toList = ps.toList ++ [rawInt pos.line, rawInt pos.col, .ref c'] := by simp
    have E1 : EmbH X.K G (upd (upd H P (.tbl (ps ++ #[rawInt pos.line, rawInt pos.col, .ref c']))) c' (LamX.CodeO c' q)) := by
      refine ⟨fun a o e => ?_, fun a p => ?_⟩
      · by_cases hb : a = P
        · subst hb
          rw [hG] at e; cases e
          refine ⟨_, by rw [upd_ne (ne_of_none hP nC), upd_same], _, rfl, by rw [eL]; exact PySem.TriplesOk_snoc _ _ _ _ ht, fun p' cv hcv => ?_⟩
          rw [eL] at hcv
          rcases NdefX.among_app2 _ ht hcv with z | ⟨z, z1, z2⟩
          · obtain ⟨c0, e1, u, e2⟩ := ha p' cv z
            exact ⟨c0, e1, u, (x1.un e2 u).1⟩
          · refine ⟨c', z, Em.un nC, ?_⟩
            rw [← z1, ← z2, hn]
            exact upd_same
        · obtain ⟨ho, e1, r⟩ := Em.tr a o e
          exact ⟨ho, by rw [upd_ne (ne_of_none e1 nC), upd_ne hb]; exact e1, r.ext x1⟩
      · obtain ⟨h1, h2⟩ := Em.hid a p
        refine ⟨h1, fun z => h2 ?_⟩
        exact NdefX.upd_none (NdefX.upd_none z)
    exact fin (tk := tk) I1 E1 x1 (Em.un nC) upd_same
  | some cv =>
    obtain ⟨c', e, uc, hco⟩ := ha pos cv hc
    subst e
    rw [hn] at hco
    refine PySem.W.kdv_makeTailHit (mg := X.mg) (c := c) (P := P) (ps := ps) (closure_ok hfree) I.ok.glob (I.mod.glob.keeps I.bk) hcode (TB.code.keeps I.bk) hP' ht hc bP fun ctv doc h' tk hx hsz => ?_
    have I1 : Inv X pins σ H { s with heap := h', toks := tk } := I.kept hx
    exact fin (tk := tk) I1 Em .refl uc hco
end
/-- lambda: .., lambda a=0: .. -/
def dLam (P : Addr) (nm : Nat → Nat → Str) (q : Str) (cl : List (Str × Addr)) (params : Arguments) (body : Expr) (scope : Scope) (b : Bool) : DTE := fun _ G Q => G P = some (.tab nm) ∧ ∀ c' T, T.isSome = b → Q (.fn ⟨q, params, body, scope, cloFrom cl scope.names [], c', T⟩) G
section
variable {X : Cx} {P c : Addr} {nm : Nat → Nat → Str} {params : Arguments} {body : Expr} {scope : Scope} {pos : Pos}
theorem lam_free {sc : Scope} (ok : X.Ok) (hfree : ∀ y ∈ sc.names, y.2 = .free → X.env.scope.names.lookup y.1 = some .cell ∨ X.env.scope.names.lookup y.1 = some .free) : ∀ y ∈ sc.names, y.2 = .free → ∃ c, X.env.cells.lookup y.1 = some c :=
  fun y hy e => (hfree y hy e).elim (fun z => ok.has _ (.inl z)) fun z => ok.has _ (.inr z)
theorem de_lam0 (TB : LamX.TabB X.base X.mg c P) (hcode : X.env.code = .ref c) (hn : nm pos.line pos.col = X.env.qual ++ "<lambda>") (hd : params.defaults = []) (hk : params.kw_defaults = [])
    (hfree : ∀ y ∈ scope.names, y.2 = .free → X.env.scope.names.lookup y.1 = some .cell ∨ X.env.scope.names.lookup y.1 = some .free) : DE X O (.Lambda params body scope pos) (dLam P nm (X.env.qual ++ "<lambda>") X.env.cells params body scope false) := by
  refine ⟨fun pins s σ H Q I ⟨ρ, G, Qd, Em, ⟨hG, hq⟩, kk⟩ => ?_⟩
  have hdef : defaultsOf params X.env = ([], []) := by
    obtain ⟨a1, a2, a3, a4, a5, a6, a7⟩ := params
    dsimp only at hd hk
    subst hd hk
    rfl
  refine PySem.W.kla_eval hdef ?_
  rw [makeFunction_eq]
  simp only [List.zip_nil_right, List.filterMap_nil, List.isEmpty_nil, if_true, pure_bind]
  refine lam_new (dfl := none) rfl I Em.hp TB hcode hG hn (lam_free I.ok hfree) (fun T z => by cases z) fun f c' H1 s' I1 E1 x1 r => ⟨.ref f, H1, I1, rfl, kk _ _ _ _ r E1 x1 (hq c' none rfl)⟩
theorem de_lam1 {j : Nat} {p0 : Pos} (TB : LamX.TabB X.base X.mg c P) (hcode : X.env.code = .ref c) (hn : nm pos.line pos.col = X.env.qual ++ "<lambda>") (hd : params.defaults = [.Constant (.int 0) j p0]) (hk : params.kw_defaults = [])
    (hfree : ∀ y ∈ scope.names, y.2 = .free → X.env.scope.names.lookup y.1 = some .cell ∨ X.env.scope.names.lookup y.1 = some .free) : DE X O (.Lambda params body scope pos) (dLam P nm (X.env.qual ++ "<lambda>") X.env.cells params body scope true) := by
  refine ⟨fun pins s σ H Q I ⟨ρ, G, Qd, Em, ⟨hG, hq⟩, kk⟩ => ?_⟩
  refine PySem.W.kdv_lam (by rw [hd]; rfl) hk ?_
  rw [hd]
  refine PySem.W.kdv_all1 (wpAny_Constant_int (PySem.W.kdv_all0 ?_))
  rw [makeFunction_eq]
  simp only [List.zip_nil_right, List.filterMap_nil, List.isEmpty_nil, List.isEmpty_cons, Bool.false_eq_true, if_true, if_false, pure_bind]
  have It : Inv X pins σ H { s with toks := s.toks + 1 } := I.tok _
  refine wpAny_bind (wpAny_newTextTuple ?_)
  have n : H s.heap.objs.size = none := I.hok.fresh (Nat.le_refl _)
  have I1 : Inv X pins σ (upd H s.heap.objs.size (.tup [.int 0])) { s with heap := s.heap.push { cls := .type "tuple", data := .seq [Value.int 0 s.toks].toArray }, toks := s.toks + 1 } := by
    refine I.laid (t' := s.toks + 1) (a := s.heap.objs.size) (fun b u e => Heap.get?_push_of_some _ e) (Nat.le_refl _) ?_
    exact ⟨by show 1 ≤ sizeLine; rw [sizeLine_eq]; omega, [Value.int 0 s.toks], .cons ⟨_, rfl⟩ .nil, ⟨_, Heap.get?_push_size _ rfl, rfl, _, rfl⟩⟩
  exact lam_new (dfl := some s.heap.objs.size) rfl I1 (Em.hp.new n) TB hcode hG hn (lam_free I1.ok hfree) (fun T z => by cases z; exact ⟨Em.hp.un n, upd_same⟩) fun f c' H1 s' I2 E1 x1 r => ⟨.ref f, H1, I2, rfl, kk _ _ _ _ r E1 ((Ext.new n).trans x1) (hq c' _ rfl)⟩
end
end DL
set_option Elab.async false
set_option linter.all false
set_option maxRecDepth 100000
set_option maxHeartbeats 1000000
/-! What a lambda promises; closures. -/
namespace DL
open PySem PySem.Spec PyProof.Rows L2
variable {O : AS × Hp}
abbrev LamF.nf (F : LamF) : NdefX.NF := ⟨"<lambda>", F.qual, F.params, [], F.scope, F.cl, F.c⟩
abbrev LSp := List D → GH → DK → DXK → Prop
structure LOk (P : Program) (w : World) (K : PySem.W.Frag) (mg : Str → Option Value) (base : Heap) (k : Nat) (F : LamF) (fr : List Str) (sp : LSp) : Prop where
  run : ∀ (A : Around) (outer : List Env) (s : Shared) (H : Hp) (f : Addr) (ws : List D) (wsV : List V) (G : AS) (Qd : DK) (Ed : DXK) (Q : VK) (E : XK), Room k A → Env0 P w K mg base A outer s H → H f = some (LamO f F) → H F.c = some (LamX.CodeO F.c F.qual) → (∀ T ∈ F.dfl, H T = some (.tup [.int 0])) →
    NdefX.CellsAt F.cl fr (wsV.map some) s.heap H → Rs K G H ws wsV → EmbH K G H → sp ws G.g Qd Ed → KE K G H Qd Q → KX K G H Ed E → codeAny (model P w) A (.call (.ref f) ⟨[], []⟩) (CR (L2N.CX P w) outer P w H s Q E) s
def dvD : Option Addr → List D
  | none => []
  | some _ => [.int 0]
def dvV : Option Addr → List V
  | none => []
  | some _ => [.int 0]
theorem dv_rel {K : PySem.W.Frag} {G : AS} {H : Hp} : ∀ (T : Option Addr), Rs K G H (dvD T) (dvV T)
  | none => .nil
  | some _ => .cons (.int 0) .nil
section
variable {P : Program} {w : World} {K : PySem.W.Frag} {mg : Str → Option Value} {base : Heap} {k : Nat} {F : LamF} {N ps fr : List Str} {sp : LSp} {t : DXK → DTE}
theorem startF_eq {N : List Str} {vs wsV : List V} : NdefX.startF N vs (wsV.map some) = L2.start N (vs ++ wsV) := by
  unfold NdefX.startF L2.start
  rw [List.map_append, List.append_assoc, List.length_append, List.length_map]
  congr 3
  omega
/-- a lambda by its body -/
theorem lok_of (S : NdefX.NScope N ps fr F.scope) (hl : ps.length = (dvD F.dfl).length)
    (hb : ∀ (doc pm ctv : Value) (s : Shared), (∀ T ∈ F.dfl, ∃ (o : Obj) (n : Nat) (t : Tok), s.heap.get? T = some o ∧ o.data = .seq #[.int 0 t] n) → ∃ us, Vals (dvV F.dfl) us ∧ BindsTo s (F.fd doc pm ctv) ⟨[], []⟩ (ps.zip us))
    (hd : ∀ (f : Addr) (A : Around) (outer : List Env) (s : Shared) (H : Hp) (O : AS × Hp) (Ed : DXK) (E : XK), Room k (A.deeper (NdefX.envF F.nf f s.heap.objs.size)) →
      XO (NdefX.ncx (L2N.CX P w) P w K mg base N F.nf f A outer s H E) O Ed E → DE (NdefX.ncx (L2N.CX P w) P w K mg base N F.nf f A outer s H E) O F.body (t Ed))
    (hr : ∀ ws G Qd Ed, sp ws G Qd Ed → ws.length = fr.length → t (rtX Ed) (dstart N (dvD F.dfl ++ ws)) G (rtF Qd)) : LOk P w K mg base (k + 1) F fr sp := by
  refine ⟨fun A outer s H f ws wsV G Qd Ed Q E hr' e0 hf hc hT C rw' Em hsp k1 k2 => ?_⟩
  have lim : s.heap.NoLimit := e0.mod.nolimit.keeps fun b o e => (e0.bs b o e).1
  obtain ⟨od, sl, doc, pm, ctv, ho⟩ := lamO_at e0.hok hf
  obtain ⟨us, ru, hbind⟩ := hb doc pm ctv s fun T z => by
    obtain ⟨_, its, r, ob, h1, h2, n, h3⟩ := e0.hok T _ (hT T z)
    cases r with
    | cons r1 r2 =>
      cases r2
      obtain ⟨t, rfl⟩ := r1
      exact ⟨ob, n, t, h1, h3⟩
  have hlu : (dvV F.dfl).length = ps.length := by rw [hl]; cases F.dfl <;> rfl
  refine PySem.W.kla_callFunE hr'.depth ho rfl S.co S.gen rfl (NdefX.codeO_at e0.hok hc) (hbind _ _ _ _ ?_)
  refine wpAny_newFunctionEnv S.nocell (fun y hy => S.par y.1 (List.of_mem_zip (a := y.1) (b := y.2) hy).1) (fun h₁ hns hsb => ⟨lim.fresh _ hsb, ?_⟩) S.kind
  show codeAny _ _ (.expr F.body (NdefX.envF F.nf f s.heap.objs.size)) _ _
  have kp : ∀ b o, s.heap.get? b = some o → h₁.get? b = some o := fun b o e => hsb.extBut b o (Nat.ne_of_lt (Heap.lt_size e)) (Heap.get?_push_of_some _ e)
  have I : Inv (NdefX.ncx (L2N.CX P w) P w K mg base N F.nf f A outer s H E) [] (NdefX.startF N (dvV F.dfl) (wsV.map some)) H { s with heap := h₁, toks := s.toks + (ps.zip us).length } := NdefX.inv_startN S hr'.hd e0 hlu ru C hns kp
  rw [startF_eq] at I
  have hwl : ws.length = fr.length := by rw [rw'.length, ← C.len, List.length_map]
  have D1 := hd f A outer s H (G, H) (rtX Ed) E (hr'.deeper _) ⟨L2N.takes_of rfl rfl rfl rfl, k2.fz⟩
  refine PySem.W.kla_codeExpr (wpAny_mono (D1.run [] _ _ H Q I ⟨dstart N (dvD F.dfl ++ ws), G, _, emb_start ((dv_rel F.dfl).append rw') Em, hr ws G.g Qd Ed hsp hwl, k1.fz⟩) (fun v s' hq => ?_) fun e s' hq => hq)
  obtain ⟨w', H', J', rv, q⟩ := hq
  exact ⟨w', H', J'.os, J'.bare, J'.base, J'.hok, rv, q⟩
end
/-! ### closures: a lambda and what its cells hold -/
structure Clo where
  F : LamF
  fr : List Str
  ws : List D
structure CloAt (K : PySem.W.Frag) (G : AS) (H : Hp) (c : Clo) : Prop where
  all : ∀ y a, c.F.cl.lookup y = some a → G.g a = none ∧ G.p a ∧ ∃ o u, H a = some (CellO a o) ∧ o.data = .cell u
  inj : ∀ x y a, c.F.cl.lookup x = some a → c.F.cl.lookup y = some a → x = y
  len : c.ws.length = c.fr.length
  has : ∀ (i : Nat) (y : Str), c.fr[i]? = some y → ∃ a o u w d, c.F.cl.lookup y = some a ∧ H a = some (CellO a o) ∧ o.data = .cell (some u) ∧ RelV w u ∧ c.ws[i]? = some d ∧ R K G H d w
section
variable {K : PySem.W.Frag} {G G1 : AS} {H H1 : Hp} {c : Clo}
theorem CloAt.ext (h : CloAt K G H c) (e : Ext G H G1 H1) : CloAt K G1 H1 c := by
  refine ⟨fun y a q => ?_, h.inj, h.len, fun i y q => ?_⟩
  · obtain ⟨h1, h2, o, u, h3, h4⟩ := h.all y a q
    obtain ⟨e1, e2, e3⟩ := e a _ h3 h1
    exact ⟨e2, e3.mpr h2, o, u, e1, h4⟩
  · obtain ⟨a, o, u, w, d, h1, h2, h3, h4, h5, h6⟩ := h.has i y q
    exact ⟨a, o, u, w, d, h1, (e a _ h2 (h.all y a h1).1).1, h3, h4, h5, h6.ext e⟩
/-- the cells' addresses -/
def Clo.as (c : Clo) : List Addr := c.F.cl.map (·.2)
theorem mem_as {a : Addr} (hn : (c.F.cl.map (·.1)).Nodup) : a ∈ c.as → ∃ y, c.F.cl.lookup y = some a := by
  intro h
  obtain ⟨⟨y, a'⟩, hm, e⟩ := List.mem_map.mp h
  dsimp only at e
  subst e
  refine ⟨y, ?_⟩
  have key : ∀ l : List (Str × Addr), (l.map (·.1)).Nodup → (y, a') ∈ l → l.lookup y = some a' := by
    intro l
    induction l with
    | nil => intro _ h; cases h
    | cons p l ih =>
      intro hn hm
      obtain ⟨k, v⟩ := p
      obtain ⟨n1, n2⟩ := List.nodup_cons.mp hn
      rcases List.mem_cons.mp hm with e | hm
      · cases e; simp [List.lookup]
      · have : (y == k) = false := beq_eq_false_iff_ne.mpr fun z => n1 (z ▸ List.mem_map_of_mem (f := (·.1)) hm)
        simp only [List.lookup, this]
        exact ih n2 hm
  exact key _ hn hm
end
noncomputable section
open Classical
/-- the cells hidden no longer | hidden again -/
def AS.off (G : AS) (A : List Addr) : AS := ⟨G.g, fun b => b ∉ A ∧ G.p b⟩
def AS.on (G : AS) (A : List Addr) : AS := ⟨G.g, fun b => b ∈ A ∨ G.p b⟩
end
section
variable {K : PySem.W.Frag} {G G1 : AS} {H H1 : Hp} {A : List Addr}
/-- untracked: cells that are hidden -/
theorem exu_off (hp : ∀ a ∈ A, G.p a) : Exu G H (G.off A) (unt H A) := fun b o e u => by
  have nb : b ∉ A := fun z => u.2 (hp b z)
  exact ⟨by rw [unt_out nb]; exact e, u.1, fun z => u.2 z.2⟩
theorem emb_off (E : EmbH K G H) (hp : ∀ a ∈ A, G.p a) : EmbH K (G.off A) (unt H A) := ⟨fun a o e => by
  obtain ⟨ho, h1, r⟩ := E.tr a o e
  have e : G.g a = some o := e
  have nb : a ∉ A := fun z => by rw [(E.hid a (hp a z)).1] at e; cases e
  exact ⟨ho, by rw [unt_out nb]; exact h1, r.extu (exu_off hp)⟩, fun a p => by
  obtain ⟨h1, h2⟩ := E.hid a p.2
  exact ⟨h1, by rw [unt_out p.1]; exact h2⟩⟩
theorem ext_on (n : ∀ a ∈ A, H a = none) (f : Hp) (hf : ∀ a, a ∉ A → f a = H a) : Ext G H (G.on A) f := fun b o e g => by
  have nb : b ∉ A := fun z => by rw [n b z] at e; cases e
  exact ⟨by rw [hf b nb]; exact e, g, ⟨fun z => z.elim (fun z => absurd z nb) id, .inr⟩⟩
theorem emb_on (E : EmbH K G H) (n : ∀ a ∈ A, H a = none) (f : Hp) (hf : ∀ a, a ∉ A → f a = H a) (hs : ∀ a ∈ A, f a ≠ none) : EmbH K (G.on A) f := ⟨fun a o e => by
  obtain ⟨ho, h1, r⟩ := E.tr a o e
  have nb : a ∉ A := fun z => by rw [n a z] at h1; cases h1
  exact ⟨ho, by rw [hf a nb]; exact h1, r.ext (ext_on n f hf)⟩, fun a p => by
  by_cases hb : a ∈ A
  · exact ⟨E.free (n a hb), hs a hb⟩
  · obtain ⟨h1, h2⟩ := E.hid a (p.elim (fun z => absurd z hb) id)
    exact ⟨h1, by rw [hf a hb]; exact h2⟩⟩
end
section
variable {K : PySem.W.Frag} {G G' : AS} {H H' : Hp} {A : List Addr}
theorem ext_re (hp : ∀ a ∈ A, G.p a) (n : ∀ a ∈ A, H' a = none) (E' : EmbH K G' H') (x : Ext (G.off A) (unt H A) G' H') : Ext G H (G'.on A) (reT H' A H) := fun b o e g => by
  by_cases hb : b ∈ A
  · exact ⟨by rw [reT_in hb]; exact e, E'.free (n b hb), ⟨fun _ => hp b hb, fun _ => .inl hb⟩⟩
  · obtain ⟨h1, h2, h3⟩ := x b o (by rw [unt_out hb]; exact e) g
    exact ⟨by rw [reT_out hb]; exact h1, h2, ⟨fun z => z.elim (fun z => absurd z hb) fun z => (h3.mp z).2, fun z => .inr (h3.mpr ⟨hb, z⟩)⟩⟩
theorem ke_off {Qd : DK} {Q : VK} (hp : ∀ a ∈ A, G.p a) (hs : ∀ a ∈ A, H a ≠ none) (k : KE K G H Qd Q) : KE K (G.off A) (unt H A) Qd (fun v H' => (∀ b ∈ A, H' b = none) → Q v (reT H' A H)) := fun v H' d G' r E' x q n =>
  k v _ d (G'.on A) (r.ext (ext_on n _ fun a ha => reT_out ha)) (emb_on E' n _ (fun a ha => reT_out ha) fun a ha => by rw [reT_in ha]; exact hs a ha) (ext_re hp n E' x) q
theorem xr_ext {x : DX} {cls : Value} {d : Option Addr} {G1 : AS} {H1 : Hp} (e : Ext G H G1 H1) (h : XR K G H x cls d) : XR K G1 H1 x cls d := by
  obtain ⟨e1, dd, vs, e2, u, h1, r⟩ := h
  exact ⟨e1, dd, vs, e2, (e.un h1 u).2, (e.un h1 u).1, r.ext e⟩
theorem kx_off {Ed : DXK} {E : XK} (hp : ∀ a ∈ A, G.p a) (hs : ∀ a ∈ A, H a ≠ none) (k : KX K G H Ed E) : KX K (G.off A) (unt H A) Ed (fun cls d H' => (∀ b ∈ A, H' b = none) → E cls d (reT H' A H)) := fun x cls d H' G' r E' y q n =>
  k x cls d _ (G'.on A) (xr_ext (ext_on n _ fun a ha => reT_out ha) r) (emb_on E' n _ (fun a ha => reT_out ha) fun a ha => by rw [reT_in ha]; exact hs a ha) (ext_re hp n E' y) q
end
/-- a closure is called -/
structure CloK (P : Program) (w : World) (K : PySem.W.Frag) (mg : Str → Option Value) (base : Heap) (k : Nat) (G : AS) (H : Hp) (f : Addr) (c : Clo) (sp : LSp) : Prop where
  ok : LOk P w K mg base k c.F c.fr sp
  nd : (c.F.cl.map (·.1)).Nodup
  at_ : CloAt K G H c
  fn : R K G H (.fn c.F) (.ref f)
theorem CloK.ext {P : Program} {w : World} {K : PySem.W.Frag} {mg : Str → Option Value} {base : Heap} {k : Nat} {G G1 : AS} {H H1 : Hp} {f : Addr} {c : Clo} {sp : LSp} (h : CloK P w K mg base k G H f c sp) (e : Ext G H G1 H1) : CloK P w K mg base k G1 H1 f c sp := ⟨h.ok, h.nd, h.at_.ext e, h.fn.ext e⟩
theorem clo_tracked {K : PySem.W.Frag} {G : AS} {H : Hp} {c : Clo} (h : CloAt K G H c) (hn : (c.F.cl.map (·.1)).Nodup) : Tracked H c.as := fun b hb => by
  obtain ⟨y, hy⟩ := mem_as hn hb
  obtain ⟨_, _, o, u, e, _⟩ := h.all y b hy
  exact ⟨o, e⟩
theorem clo_hid {K : PySem.W.Frag} {G : AS} {H : Hp} {c : Clo} (h : CloAt K G H c) (hn : (c.F.cl.map (·.1)).Nodup) : ∀ a ∈ c.as, G.p a := fun b hb => by
  obtain ⟨y, hy⟩ := mem_as hn hb
  exact (h.all y b hy).2.1
theorem as_of {c : Clo} {y : Str} {a : Addr} (h : c.F.cl.lookup y = some a) : a ∈ c.as := List.mem_map_of_mem (f := (·.2)) (PySem.mem_of_lookup h)
theorem clo_vals {K : PySem.W.Frag} {G : AS} {H : Hp} {P : Program} {w : World} {h : Heap} {c : Clo} (hok : HOk P w H h) (C : CloAt K G H c) (hn : (c.F.cl.map (·.1)).Nodup) : ∃ wsV : List V, Rs K (G.off c.as) (unt H c.as) c.ws wsV ∧ NdefX.CellsAt c.F.cl c.fr (wsV.map some) h (unt H c.as) := by
  have hp := clo_hid C hn
  have key : ∀ (n : Nat) (fr : List Str) (ws : List D), ws.length = fr.length → (∀ (i : Nat) (y : Str), fr[i]? = some y → ∃ a o u w d, c.F.cl.lookup y = some a ∧ H a = some (CellO a o) ∧ o.data = .cell (some u) ∧ RelV w u ∧ ws[i]? = some d ∧ R K G H d w) →
      ∃ wsV : List V, Rs K (G.off c.as) (unt H c.as) ws wsV ∧ wsV.length = fr.length ∧ ∀ (i : Nat) (y : Str), fr[i]? = some y → ∃ a, c.F.cl.lookup y = some a ∧ ∃ v u, wsV[i]? = some v ∧ RelV v u ∧ h.IsCell a (some u) := by
    intro n fr
    induction fr with
    | nil =>
      intro ws hl _
      cases ws with
      | nil => exact ⟨[], .nil, rfl, fun i y e => by simp at e⟩
      | cons => cases hl
    | cons y fr ih =>
      intro ws hl hh
      cases ws with
      | nil => cases hl
      | cons d ws =>
        obtain ⟨wsV, h1, h2, h3⟩ := ih ws (by simpa using hl) fun i z e => by
          obtain ⟨a, o, u, w, d', q1, q2, q3, q4, q5, q6⟩ := hh (i + 1) z (by simpa using e)
          exact ⟨a, o, u, w, d', q1, q2, q3, q4, by simpa using q5, q6⟩
        obtain ⟨a, o, u, w, d', q1, q2, q3, q4, q5, q6⟩ := hh 0 y rfl
        have e : d = d' := by simpa using q5
        subst e
        refine ⟨w :: wsV, .cons (q6.extu (exu_off hp)) h1, by simp [h2], fun i z e => ?_⟩
        cases i with
        | zero =>
          have e : y = z := by simpa using e
          subst e
          exact ⟨a, q1, w, u, rfl, q4, o, cellO_at hok q2, q3⟩
        | succ i =>
          obtain ⟨a', b1, v', u', b2, b3, b4⟩ := h3 i z (by simpa using e)
          exact ⟨a', b1, v', u', by simpa using b2, b3, b4⟩
  obtain ⟨wsV, h1, h2, h3⟩ := key 0 c.fr c.ws C.len C.has
  refine ⟨wsV, h1, by simp [h2], fun y a e => ⟨unt_in (as_of e), ?_⟩, C.inj, fun i y e => ?_⟩
  · obtain ⟨_, _, o, u, q1, q2⟩ := C.all y a e
    exact ⟨u, o, cellO_at hok q1, q2⟩
  · obtain ⟨a, b1, v, u, b2, b3, b4⟩ := h3 i y e
    refine ⟨a, b1, fun v' ev => ?_⟩
    rw [List.getElem?_map, b2] at ev
    cases ev
    exact ⟨u, b3, b4⟩
section
variable {X : Cx}
def tClo (P : Program) (w : World) (K : PySem.W.Frag) (mg : Str → Option Value) (base : Heap) (k i : Nat) (W : WX) : TE := fun σ H Q => ∃ (f : Addr) (c : Clo) (sp : LSp) (G : AS) (Qd : DK) (Ed : DXK), σ[i]? = some (some (.ref f)) ∧ CloK P w K mg base k G H f c sp ∧ EmbH K G H ∧
  sp c.ws G.g Qd Ed ∧ KE K G H Qd Q ∧ KX K G H Ed (fun cls d H' => W cls d σ H')
theorem pe_clo {W : WX} {k i : Nat} {x : Str} {p pos : Pos} (hr : Room k X.A) (tk : L2N.Takes X W) (hN : X.N[i]? = some x) (hv : Vis X.env.scope x) (hd : (x == ("__debug__" : Str)) = false := by decide) (hcd : (x == ("__classdict__" : Str)) = false := by decide) :
    PE X (.Call (.Name x p) [] [] pos) (tClo X.prog X.w X.K X.mg X.base k i W) := by
  refine ⟨fun pins s σ H Q I ⟨f, c, sp, G, Qd, Ed, hs, C, Em, hsp, k1, k2⟩ => ?_⟩
  refine wpAny_Call_Name_kw (thn ((pe_var (pos := p) hN hv hd hcd).run pins s σ H (fun v H1 => v = .ref f ∧ H1 = H) I ⟨.ref f, hs, rfl, rfl⟩) fun u s1 ⟨v, H1, I1, r1, ev, eH⟩ => ?_)
  subst ev
  rw [eH] at I1
  obtain rfl : u = Value.ref f := r1
  have hfn := C.fn
  cases hfn with
  | fn u1 h1 u2 h2 h3 =>
  obtain ⟨od, sl, doc, pm, ctv, ho⟩ := lamO_at I1.hok h1
  refine PySem.W.callWith_F0 (first := []) ⟨_, _, _, _, ho⟩ ?_
  show wpAny _ _ (call (.ref f) []) _ _ _
  have hp := clo_hid C.at_ C.nd
  have ht := clo_tracked C.at_ C.nd
  have hs' : ∀ a ∈ c.as, H a ≠ none := fun a ha z => by
    obtain ⟨o, e⟩ := ht a ha
    rw [z] at e; cases e
  have out : ∀ {a : Addr} {o : HO}, H a = some o → G.un a → unt H c.as a = some o := fun {a o} e u => (exu_off hp a o e u).1
  obtain ⟨wsV, rw1, CA⟩ := clo_vals I1.hok C.at_ C.nd
  refine wpAny_call (codeAny_mono (C.ok.run X.A X.stack s1 (unt H c.as) f c.ws wsV (G.off c.as) Qd Ed _ _ hr (unt_env0 I1.env0 ht) (out h1 u1) (out h2 u2) (fun T z => out (h3 T z).2 (h3 T z).1) CA rw1 (emb_off Em hp) hsp (ke_off hp hs' k1) (kx_off hp hs' k2)) fun r s' hq => ?_)
  cases r with
  | error e => exact L2N.passAt tk σ pins H s1 e s' I1 (cx_retrk I1.env0 ht hq fun cls d H' n q => q n)
  | ok fl =>
    cases fl with
    | ret u => exact I1.after (ce_retrk I1.env0 ht hq fun v H' n q => q n)
    | next => exact False.elim hq
    | brk => exact False.elim hq
    | cont => exact False.elim hq
end
end DL
set_option Elab.async false
set_option linter.all false
set_option maxRecDepth 100000
set_option maxHeartbeats 2000000
/-! try: .. except (A, B, C) as e: .. -/
namespace DL
open PySem PySem.Spec PyProof.Rows L2
variable {O : AS × Hp}
inductive NamesL (X : Cx) : List Expr → List Value → Prop
  | nil : NamesL X [] []
  | cons {x : Str} {c : Value} {p : Pos} {es : List Expr} {cs : List Value} (h : Names X x c) (t : NamesL X es cs) : NamesL X (.Name x p :: es) (c :: cs)
/-- what the tuple of classes tells of an exception -/
def TupM (X : Cx) (cs : List Value) : Prop := ∀ (h : Heap) (tp e : Addr) (cls : Value) (b : Bool), X.K.In h → PySem.W.Looks (model X.prog X.w) h (typeOf (.ref e)) cls → h.get? tp = some { cls := .type "tuple", data := .seq cs.toArray } → PySem.W.exmAny X.K cls cs = some b →
  PySem.W.Looks (model X.prog X.w) h (excMatches (.ref e) (.ref tp)) b
theorem tupM3 {X : Cx} {a b c : Value} : TupM X [a, b, c] := fun _ _ _ _ _ k l t e => PySem.W.exm_tup3 k l t e
theorem tupM2 {X : Cx} {a b : Value} : TupM X [a, b] := fun _ _ _ _ _ k l t e => PySem.W.exm_tup2 k l t e
theorem tupM4 {X : Cx} {a b c d : Value} : TupM X [a, b, c, d] := fun _ _ _ _ _ k l t e => PySem.W.exm_tup4 k l t e
def wTup (K : PySem.W.Frag) (cs : List Value) (i : Nat) (ts : Addr → Value → Option Addr → TS) (Wout : WX) (D : Ends) : WX := fun cls d σ H =>
  ∃ b, PySem.W.exmAny K cls cs = some b ∧ (b = true → ∀ a, H a = none → ts a cls d { nx := fun σ' H' => D.nx (σ'.set i none) H', rt := D.rt, bk := fun σ' H' => D.bk (σ'.set i none) H', ct := fun σ' H' => D.ct (σ'.set i none) H' } (σ.set i (some (.ref a))) H) ∧
    (b = false → Wout cls d σ H)
theorem flying_push {B : Heap} {l : List Env} {a : Addr} {Z : Obj → Prop} {h : Heap} {o : Obj} (f : HandSPX.FlyingZ B l a Z h) : HandSPX.FlyingZ B l a Z (h.push o) := by
  obtain ⟨f1, f2, f3, oe, vs, T, oT, ts, q1, q2, q3, q4, q5, q6, q7, q8, q9⟩ := f
  exact ⟨fun b u e => Heap.get?_push_of_some _ (f1 b u e), f2, f3.of_keeps fun b u e _ => ⟨u, Heap.get?_push_of_some _ e, rfl⟩, oe, vs, T, oT, ts, Heap.get?_push_of_some _ q1, q2, q3, q4, q5, q6, Heap.get?_push_of_some _ q7, q8, q9⟩
section
variable {X : Cx} {n : Str} {cs : List Value} {i : Nat} {kk : Nat} {body suite : List Stmt} {b₀ : Stmt} {es : List Expr} {np pos pos' : Pos} {tb : WX → TS} {ts : Addr → Value → Option Addr → TS} {Wout : WX}
theorem ps_try_t (hs : X.stack = X.env :: X.outer) (hf : X.env.frame = some X.env.locals) (hN : X.N.Nodup) (hi : X.N[i]? = some n) (hln : X.env.kindOf n = some .local) (hc : NamesL X es cs) (hm : TupM X cs) (hsz : cs.length ≤ 100)
    (hst : ∀ (p : Pos) (env : Env), backTo p (starEach es env) = es.map fun e => (false, eval e env)) (tk : L2N.Takes X Wout)
    (hb : ∀ (W : WX) (pn : List (Addr × Obj)) (xe : Value → Shared → Prop), L2N.Takes (X.tr pn xe) W → PassesOwn (model X.prog X.w) X.A X.env xe → PSs (X.tr pn xe) body (tb W))
    (hsu : ∀ (a : Addr) (oe : Obj) (cls : Value) (d : Option Addr) (pn : List (Addr × Obj)), L2N.Zn cls d oe → (∃ vs, oe.data = .fields vs) → PSs (X.suite a ((a, oe) :: pn)) (b₀ :: suite) (ts a cls d)) :
    PS X (.Try body [.ExceptHandler (some (.Tuple es kk np)) (some n) (b₀ :: suite) pos'] [] [] pos) (fun D σ H => tb (wTup X.K cs i ts Wout D) D σ H) := by
  refine ⟨fun pins s σ H D I h => ?_⟩
  have ok := I.ok
  have hfr : X.A.frames = some (X.env :: X.outer) := by rw [ok.frames, hs]
  refine wpAny_Try_except (wpAny_mono ((hb (wTup X.K cs i ts Wout D) (X.pn ++ pins) (fun e s₁ => wpAny (model X.prog X.w) X.A (noteFrame e X.env) (fun _ s₂ => wpAny (model X.prog X.w) X.A (setFlight e none) (fun _ s₃ =>
    wpAny (model X.prog X.w) X.A (handleBy e X.env [.ExceptHandler (some (.Tuple es kk np)) (some n) (b₀ :: suite) pos']) (SP X pins D) X.xe s₃) X.xe s₂) X.xe s₁) (fun u s' xx => ?_) PassesOwn.looking).run [] s σ H D (I.toTry _) h) (fun f s1 hsp => ?_) (fun e s1 he => he))
  · obtain ⟨a, B, sI, pins', σ', H', cls, d, rfl, J', nb, up, sky, na, os, ag, b, hb1, hyes, hno⟩ := xx
    have J : Inv X pins σ' H' sI := J'.ofTry ok
    rw [show (X.tr (X.pn ++ pins) _).stack = X.env :: X.outer from hs] at sky
    show wpAny (model X.prog X.w) X.A (noteFrame (.ref a) X.env) _ _ _
    refine L2N.Sky.land L2N.Zn.steady hfr hf sky fun h3 fl3 up3 => ?_
    have J3 : Inv X pins σ' H' { s' with heap := h3 } := J.landed nb fl3.1 (up.trans up3) os ag
    obtain ⟨oe3, vs3, he3, hz3, hd3⟩ := fl3.there
    have nfr : a ∉ frs (X.env :: X.outer) := fun hm => by
      obtain ⟨_, o', e', hnf⟩ := fl3.2.2.1.mem hm
      rw [he3] at e'; cases e'
      exact hnf _ hd3
    have nL : a ≠ X.env.locals := fun z => nfr (List.mem_filterMap.mpr ⟨X.env, List.mem_cons_self, by rw [hf, z]⟩)
    have nF : a ∉ X.fs := fun hm => by
      obtain ⟨e, he, q⟩ := List.mem_filterMap.mp hm
      exact nfr (List.mem_filterMap.mpr ⟨e, List.mem_cons_of_mem _ he, q⟩)
    have S3 := J3.suite he3 hd3 na nL nF
    refine wpAny_handleBy_cons (codeAny_handlers_test ?_) (by intro q; cases q)
    have names : ∀ {es : List Expr} {cs : List Value}, NamesL X es cs → ∀ {Q : List Value → Shared → Prop} {E : Value → Shared → Prop}, Q cs { s' with heap := h3 } → wpAny (model X.prog X.w) (X.A.mark (some (.ref a))) (spliced (es.map fun e => (false, eval e X.env))) Q E { s' with heap := h3 } := by
      intro es cs h
      induction h with
      | nil => intro Q E q; exact Calls.spliced_nil q
      | @cons x c p es cs h t ih =>
        intro Q E q
        refine Calls.spliced_cons ?_
        obtain ⟨hg, hdbg, hm | ⟨hm, hv, hnn⟩⟩ := h
        · exact ld_glob (X := X.suite a ((a, oe3) :: (X.pn ++ pins))) S3 hg hm (ih q) hdbg
        · exact ld_blt (X := X.suite a ((a, oe3) :: (X.pn ++ pins))) S3 hg hm hv (ih q) hnn hdbg
    refine wpAny_Tuple_spliced ?_
    rw [hst]
    refine names hc ⟨by rw [sizeLine_eq]; omega, ?_⟩
    have fl4 := flying_push (o := { cls := .type "tuple", data := .seq cs.toArray }) fl3
    have up4 : h3.UpToSlots (h3.push { cls := .type "tuple", data := .seq cs.toArray }) := Heap.UpToSlots.of_keeps fun b o e => Heap.get?_push_of_some _ e
    have he4 : (h3.push { cls := .type "tuple", data := .seq cs.toArray }).get? a = some oe3 := Heap.get?_push_of_some _ he3
    have LT : PySem.W.Looks (model X.prog X.w) (h3.push { cls := .type "tuple", data := .seq cs.toArray }) (typeOf (.ref a)) cls := fun A Q E s k q => wpAny_typeOf_ref (k _ _ he4) (by rw [hz3.1]; exact q)
    have LM := hm _ h3.objs.size a cls b (J3.kIn.keeps fun b o e => Heap.get?_push_of_some _ e) LT (Heap.get?_push_size _ rfl) hb1
    refine LM.here ?_
    cases b with
    | true =>
      refine codeAny_handlers_suite_as (HandSPX.lands_againZ fl4 fun h5 fl5 up5 => ?_)
      have J5 : Inv X pins σ' H' { s' with heap := h5 } := J.landed nb fl5.1 (((up.trans up3).trans up4).trans up5) os ag
      obtain ⟨oe5, vs5, he5, hz5, hd5⟩ := fl5.there
      have S5 := J5.suite he5 hd5 na nL nF
      refine store_ok (X := X.suite a ((a, oe5) :: (X.pn ++ pins))) (v := .ref a) S5 hN hi (.inl hln) rfl (fun s6 S6 => wpAny_mono ((hsu a oe5 cls d (X.pn ++ pins) hz5 ⟨_, hd5⟩).run [] s6 _ H' _ S6 (hyes rfl a na)) (fun f s7 hsp => ?_) (fun _ _ z => False.elim z)) (.inr hln)
      have end_ : ∀ {σ6 : St} {H6 : Hp} {Q : Shared → Prop}, Inv (X.suite a ((a, oe5) :: (X.pn ++ pins))) [] σ6 H6 s7 → (∀ s8, Inv X pins (σ6.set i none) H6 s8 → Q s8) →
          wpAny (model X.prog X.w) X.A (do bindName X.env n .none; unbindBehindTheSuite X.env n pos') (fun _ s8 => Q s8) X.xe s7 := fun {σ6 H6 Q} S6 hq => gone_ok (S6.unsuite ok) hN hi hln hq
      cases f with
      | next => obtain ⟨σ6, H6, S6, q6⟩ := hsp; exact end_ S6 fun s8 J8 => ⟨_, _, J8, q6⟩
      | brk => obtain ⟨σ6, H6, S6, q6⟩ := hsp; exact end_ S6 fun s8 J8 => ⟨_, _, J8, q6⟩
      | cont => obtain ⟨σ6, H6, S6, q6⟩ := hsp; exact end_ S6 fun s8 J8 => ⟨_, _, J8, q6⟩
      | ret u => obtain ⟨v6, σ6, H6, S6, r6, q6⟩ := hsp; exact end_ S6 fun s8 J8 => ⟨_, _, _, J8, r6, q6⟩
    | false =>
      show wpAny _ X.A (handleBy (.ref a) X.env []) _ _ _
      refine wpAny_handleBy_nil ?_
      obtain ⟨k1, k2, k3, oe, vs, T, oT, ts', he, hz, hd, h1, hr⟩ := id fl4
      unfold PySem.passOn
      refine wpAny_bind (wpAny_field he hd h1 ?_)
      rw [if_neg (show ¬ ((Value.ref T == Value.none) = true) from by simp)]
      have fin : wpAny (model X.prog X.w) X.A (setFlight (.ref a) X.env.frame) (fun _ s4 => wpAny (model X.prog X.w) X.A (throw (.ref a) : Sem Flow) (SP X pins D) X.xe s4) X.xe { s' with heap := h3.push { cls := .type "tuple", data := .seq cs.toArray } } := by
        rw [hf]
        refine HandSPX.setFlight_upZ fl4 fun h5 hh5 up5 => wpAny_throw (tk _ _ ?_)
        exact ⟨a, B, sI, pins, σ', H', cls, d, rfl, J, nb, (((up.trans up3).trans up4).trans up5), .inr (.inr (by rw [hs]; exact hh5)), na, os, ag, hno rfl⟩
      first
        | exact wpAny_bind (wpAny_pure (wpAny_bind fin))
        | exact wpAny_bind fin
  · cases f with
    | next => obtain ⟨σ', H', J', q⟩ := hsp; exact wpAny_execs_nil ⟨σ', H', J'.ofTry ok, q⟩
    | brk => obtain ⟨σ', H', J', q⟩ := hsp; exact ⟨σ', H', J'.ofTry ok, q⟩
    | cont => obtain ⟨σ', H', J', q⟩ := hsp; exact ⟨σ', H', J'.ofTry ok, q⟩
    | ret u => obtain ⟨v, σ', H', J', r, q⟩ := hsp; exact ⟨v, σ', H', J'.ofTry ok, r, q⟩
end
end DL
set_option Elab.async false
set_option linter.all false
set_option maxRecDepth 100000
set_option maxHeartbeats 1000000
/-! The law's try: def try(ask): try: return ('', ask()) except (..) as e: return (e.code, field(e)). -/
namespace DL
open PySem PySem.Spec PyProof.Rows L2
variable {O : AS × Hp}
/-- the fields of an exception of the class at C can be read -/
structure XfK (K : PySem.W.Frag) (C : Addr) (fs : List Str) : Prop where
  xf : XfC K C
  no : ∀ f ∈ fs, PySem.W.findIn K (.ref C) f = some none
section
variable {X : Cx} {a : Addr} {oe : Obj} {cls : Value} {d : Option Addr} {e : Expr} {te : TE} {td : DTE} {pos : Pos}
/-- e.f, e the handled exception -/
def tXf2 (K : PySem.W.Frag) (a : Addr) (cls : Value) (d : Option Addr) (f : Str) (te : TE) : TE := fun σ H Q => te σ H fun x H1 => x = .ref a ∧ ∃ C, cls = .ref C ∧ XfK K C [f] ∧ ∃ (dd : Addr) (fs : List (Str × V)) (v : V), d = some dd ∧ H1 dd = some (.xd fs) ∧ fs.lookup f = some v ∧ Q v H1
theorem pe_xf2 {n : Str} (hm : (a, oe) ∈ X.pn) (hz : Zc cls d oe) (hf : ∃ vs, oe.data = .fields vs) (he : PE X e te) (hb : attributeBase e n X.env (eval e X.env) = eval e X.env := by rfl) : PE X (.Attribute e n pos) (tXf2 X.K a cls d n te) := by
  refine ⟨fun pins s σ H Q I h => attr_of hb (thn (he.run pins s σ H _ I h) fun u s1 ⟨x, H1, I1, rx, ex, C, ec, T, dd, fs, v, ed, ea, l, q⟩ => ?_)⟩
  subst ex
  obtain rfl : u = Value.ref a := rx
  subst ec ed
  obtain ⟨ha, _⟩ := I1.pin (a, oe) (List.mem_append_left _ hm)
  obtain ⟨vs, hd⟩ := hf
  have hx : ObjOk X.prog X.w H1 s1.heap dd (.xd fs) := I1.hok dd _ ea
  obtain ⟨mA, hns, hr⟩ := hx
  obtain ⟨od, ho, hl⟩ := lookIn_ns hns
  obtain ⟨u, hu, ru⟩ := RelO.some_of (v := v) (o := mA n) (by rw [← l]; exact hr n)
  have J : PySem.W.InstAt s1.heap a oe C (some od) := ⟨ha, hz.1, by unfold PySem.W.notCls; rw [hd] <;> rfl, by rw [hz.2]; exact ho⟩
  exact HandSPX.exc_get I1.kIn J T.xf.ga T.xf.gg T.xf.exC (PySem.W.findObj_own T.xf.hdC (T.no n (List.mem_singleton.mpr rfl)) rfl (by rw [hl, hu])) (handed_of ru) ⟨v, H1, I1.tok _, ru, q⟩
/-- .. at D: x the exception -/
def dXf (a : Addr) (x : DX) (f : String) (te : DTE) : DTE := fun ρ G Q => te ρ G fun d G1 => d = .ref a ∧ ∃ y, lookD f x.fs = some y ∧ Q y G1
theorem de_xf {x : DX} {f : String} (hm : (a, oe) ∈ X.pn) (hz : Zc cls d oe) (hf : ∃ vs, oe.data = .fields vs) (hx : XR X.K O.1 O.2 x cls d) (T : XfK X.K (gaS X.K x.cls) [Str.ofString f]) (he : DE X O e td) (hb : attributeBase e (Str.ofString f) X.env (eval e X.env) = eval e X.env := by rfl) :
    DE X O (.Attribute e (Str.ofString f) pos) (dXf a x f td) := imE (pe_xf2 hm hz hf he hb) fun σ H Q ⟨ρ, G, Qd, Em, h, k⟩ => up1 Em h fun v H1 dv G1 r E1 x1 ⟨e1, y, hl, q⟩ => by
  subst e1
  cases r
  obtain ⟨ec, dd, vs, ed, u, h1, rf⟩ := xr_ext E1.org hx
  obtain ⟨w, hw, rw'⟩ := rf.look hl
  exact ⟨rfl, _, ec, T, dd, vs, w, ed, h1, hw, k _ _ _ _ rw' E1.hp x1 q⟩
end
/-! ### a def that is called with the handled exception -/
structure FldOk (P : Program) (w : World) (K : PySem.W.Frag) (mg : Str → Option Value) (base : Heap) (k : Nat) (f : Addr) (ps : List Str) (fd : FuncData) (sp : DX → D → Prop) : Prop where
  run : ∀ (A : Around) (outer : List Env) (s : Shared) (H : Hp) (a : Addr) (oe : Obj) (x : DX) (y : D) (cls : Value) (d : Option Addr) (G : AS) (Qd : DK) (Q : VK), L2H.RoomH k A → L2H.Hot1 A (a, oe) → L2H.PinOk outer H s (a, oe) → Env0 P w K mg base A outer s H → Zc cls d oe → XR K G H x cls d → EmbH K G H →
    sp x y → Qd y G.g → KE K G H Qd Q → BindsTo s fd ⟨[.ref a], []⟩ (ps.zip [.ref a]) → codeAny (model P w) A (.call (.ref f) ⟨[.ref a], []⟩) (CR (L2N.CX P w) outer P w H s Q E0) s
section
variable {P : Program} {w : World} {K : PySem.W.Frag} {mg : Str → Option Value} {base : Heap} {k : Nat} {f : Addr} {fd : FuncData} {nm qual : Str} {params : Arguments} {body : List Stmt} {scope : Scope} {dvs : List V} {kws : List (Str × V)} {N ps : List Str} {sp : DX → D → Prop}
theorem fld_ok {t : Addr → DX → DTS} (F : FunD K nm qual params body scope dvs kws f fd) (S : FnScope N ps scope) (hps : ps.length = 1)
    (hd : ∀ (cdv : Value) (A : Around) (outer : List Env) (s : Shared) (H : Hp) (O : AS × Hp) (a : Addr) (oe : Obj) (x : DX) (y : D) (cls : Value) (d : Option Addr), L2H.RoomH k (A.deeper (envOfC qual scope s.heap.objs.size f cdv)) → Zc cls d oe → (∃ vs, oe.data = .fields vs) → XR K O.1 O.2 x cls d → sp x y →
      DSs (L2H.cxH (L2N.CX P w) P w K mg base N qual scope f cdv A outer s H E0 (a, oe)) O body (t a x))
    (hr : ∀ a x y G Qd, sp x y → Qd y G → t a x { nx := fun _ _ => False, rt := Qd } (dstart N [.ref a]) G) : FldOk P w K mg base (k + 1) f ps fd sp := by
  refine ⟨fun A outer s H a oe x y cls d G Qd Q hr' hot hpin e0 hz hx Em hsp hq kk hb => ?_⟩
  obtain ⟨oc, od, dV, kV, doc, pm, an, cdv, ct, osl, rfl, lk, hcd, _, _⟩ := F.ex
  have KX : K.In s.heap := e0.mod.kin.keeps fun b o e => (e0.bs b o e).1
  have lim : s.heap.NoLimit := e0.mod.nolimit.keeps fun b o e => (e0.bs b o e).1
  have hkind : ∀ z ∈ ps.zip [Value.ref a], scope.names.lookup z.1 = some .local ∨ (scope.names.lookup z.1 = some .cell ∧ ((cellsFrom (s.heap.objs.size + 1) scope.names []).lookup z.1).isSome = true) := fun ⟨n, v⟩ hy => by
    rcases S.par n (List.of_mem_zip hy).1 with q | q
    · exact .inl q
    · exact .inr ⟨q, PySem.W.cellsFrom_some _ _ _ (.inl q)⟩
  refine codeAny_call_function hr'.depth (KX _ _ lk) rfl S.co S.gen rfl (PySem.W.codeRec_of KX hcd) (hb _ _ _ _ ?_)
  refine wpAny_newFunctionEnv_cells S.kind hkind fun env he s1 x1 => ?_
  subst he
  refine ⟨lim.keeps x1.toInCall.keep, codeAny_func ?_⟩
  obtain ⟨v1, e1, _⟩ := hot.2
  have D1 := hd cdv A outer s H (G, H) a oe x y cls d (hr'.deeper _) hz ⟨v1, e1⟩ hx hsp
  have I : Inv (L2H.cxH (L2N.CX P w) P w K mg base N qual scope f cdv A outer s H E0 (a, oe)) [] (L2.start N [.ref a]) H s1 := L2H.inv_startH S hpin e0 (by simp [hps]) (.cons rfl .nil) x1
  refine wpAny_mono (D1.run [] s1 (L2.start N [.ref a]) H { nx := fun _ _ => False, rt := Q } I ⟨dstart N [.ref a], G, { nx := fun _ _ => False, rt := Qd }, emb_start (.cons (.ref a) .nil) Em, hr a x y G.g Qd hsp hq, ⟨fun _ _ _ _ _ _ z => z, kk, fun _ _ _ _ _ _ z => z, fun _ _ _ _ _ _ z => z⟩⟩) (fun fl s' hs => ?_) fun e s' hs => hs
  cases fl with
  | ret u =>
    obtain ⟨v, σ', H', J, rv, q⟩ := hs
    exact ⟨v, H', J.os, J.bare, J.base, J.hok, rv, q⟩
  | next =>
    obtain ⟨_, _, _, q⟩ := hs
    exact False.elim q
  | brk =>
    obtain ⟨_, _, _, q⟩ := hs
    exact False.elim q
  | cont =>
    obtain ⟨_, _, _, q⟩ := hs
    exact False.elim q
end
section
variable {X : Cx} {a : Addr} {oe : Obj} {cls : Value} {d : Option Addr} {k : Nat} {g : Str} {fg : Addr} {fdg : FuncData} {ps : List Str} {sp : DX → D → Prop} {i : Nat} {x : Str} {p p1 pos : Pos}
def tFld (K : PySem.W.Frag) (a : Addr) (cls : Value) (d : Option Addr) (i : Nat) (sp : DX → D → Prop) : TE := fun σ H Q => σ[i]? = some (some (.ref a)) ∧ ∃ (x : DX) (y : D) (G : AS) (Qd : DK), XR K G H x cls d ∧ EmbH K G H ∧ sp x y ∧ Qd y G.g ∧ KE K G H Qd Q
theorem passes0 : Passes (L2N.CX X.prog X.w) X E0 := fun pins σ H s e s' I c => by
  obtain ⟨_, _, _, _, _, _, _, _, _, _, _, _, z⟩ := c
  exact z.elim
theorem pe_fld_call (F : FldOk X.prog X.w X.K X.mg X.base k fg ps fdg sp) (hps : ps.length = 1) (hr : L2H.RoomH k X.A) (hot : L2H.Hot1 X.A (a, oe)) (hm : (a, oe) ∈ X.pn) (hz : Zc cls d oe) (hg : Gl X g) (hmg : X.mg g = some (.ref fg)) (hk : PySem.W.keepIn X.K (.ref fg) = true) (hb : Binds X.K fdg ps [])
    (hN : X.N[i]? = some x) (hv : Vis X.env.scope x) (hdg : (g == ("__debug__" : Str)) = false := by decide) (hd : (x == ("__debug__" : Str)) = false := by decide) (hcd : (x == ("__classdict__" : Str)) = false := by decide) :
    PE X (.Call (.Name g p) [.Name x p1] [] pos) (tFld X.K a cls d i sp) := by
  refine ⟨fun pins s σ H Q I ⟨hs, xx, y, G, Qd, hx, Em, hsp, hq, kk⟩ => ?_⟩
  refine wpAny_Call_Name_kw (ld_glob I hg hmg ?_ hdg)
  refine PySem.W.callWith_K (h₀ := X.base) I.ok.mod.kin hk (thn ((pa_cons (pe_var (i := i) hN hv hd hcd) pa_nil).run pos pins s σ H (fun vs H1 => vs = [.ref a] ∧ H1 = H) I ⟨.ref a, hs, rfl, rfl⟩) fun us s1 ⟨vs, H1, I1, r1, ev, eH⟩ => ⟨I1.kIn, ?_⟩) rfl rfl
  subst ev
  rw [eH] at I1
  cases r1 with
  | cons ra rn =>
    cases rn
    obtain rfl : _ = Value.ref a := ra
    have P1 := I1.pin (a, oe) (List.mem_append_left _ hm)
    have hpin : L2H.PinOk X.stack H s1 (a, oe) := ⟨P1.1, P1.2.1, fun hm => (List.mem_cons.mp (I1.stkSub a hm)).elim P1.2.2.1 P1.2.2.2.1, P1.2.2.2.2⟩
    have b := hb s1 [.ref a] I1.kIn (by simp [hps])
    rw [List.append_nil] at b
    refine wpAny_call (codeAny_mono (F.run X.A X.stack s1 H a oe xx y cls d G Qd Q hr hot hpin I1.env0 hz hx Em hsp hq kk b) fun r s' hq' => ?_)
    cases r with
    | error e => exact passes0 pins σ H s1 e s' I1 hq'
    | ok fl =>
      cases fl with
      | ret u => exact I1.after hq'
      | next => exact False.elim hq'
      | brk => exact False.elim hq'
      | cont => exact False.elim hq'
end
/-! ### the def itself -/
/-- its promise -/
def spTry (P : Program) (w : World) (K : PySem.W.Frag) (mg : Str → Option Value) (base : Heap) (k : Nat) (cs : List Value) (sp : DX → D → Prop) : Sp := fun vs H Q _ => ∃ (f : Addr) (c : Clo) (spL : LSp) (G : AS) (Qd : DK), vs = [.ref f] ∧ CloK P w K mg base k G H f c spL ∧ EmbH K G H ∧ KE K G H Qd Q ∧
  spL c.ws G.g (fun d G' => Qd (.tup [.str [], d]) G') (fun x G' => PySem.W.exmAny K (.ref (gaS K x.cls)) cs = some true ∧ XfK K (gaS K x.cls) ["code"] ∧ ∃ y z, sp x y ∧ lookD "code" x.fs = some z ∧ Qd (.tup [z, y]) G')
section
variable {P : Program} {w : World} {K : PySem.W.Frag} {mg : Str → Option Value} {base : Heap} {k : Nat} {fT : Addr} {fdT : FuncData} {nm qual a e g : Str} {params : Arguments} {scope : Scope} {dvs : List V} {kws : List (Str × V)} {sp : DX → D → Prop} {cs : List Value} {fg : Addr} {fdg : FuncData} {psg : List Str} {es : List Expr} {kk kt kt2 j : Nat}
  {p1 p2 p3 p4 p5 p6 p7 p8 p9 p10 p11 p12 p13 p14 : Pos}
theorem ok_try (F : FunD K nm qual params [.Try [.Return (some (.Tuple [.Constant (.str "") j p1, .Call (.Name a p2) [] [] p3] kt p4)) p5] [.ExceptHandler (some (.Tuple es kk p6)) (some e) [.Return (some (.Tuple [.Attribute (.Name e p7) "code" p8, .Call (.Name g p9) [.Name e p10] [] p11] kt2 p12)) p13] p14] [] [] pos] scope dvs kws fT fdT)
    (S : FnScope [a, e] [a] scope) (hes : ∀ (cdv : Value) (A : Around) (outer : List Env) (s : Shared) (H : Hp) (E : XK), NamesL (cxOf (L2N.CX P w) P w K mg base [a, e] qual scope fT cdv A outer s H E) es cs) (hm : ∀ X : Cx, TupM X cs) (hsz : cs.length ≤ 100)
    (hst : ∀ (p : Pos) (env : Env), backTo p (starEach es env) = es.map fun e => (false, eval e env))
    (G : FldOk P w K mg base k fg psg fdg sp) (hps : psg.length = 1) (hgg : scope.names.lookup g = some .globalImplicit) (hmg : mg g = some (.ref fg)) (hk : PySem.W.keepIn K (.ref fg) = true) (hb : Binds K fdg psg [])
    (ha : scope.names.lookup a = some .local) (he : scope.names.lookup e = some .local) (d1 : (a == ("__debug__" : Str)) = false) (d2 : (e == ("__debug__" : Str)) = false) (d3 : (g == ("__debug__" : Str)) = false) (d4 : (a == ("__classdict__" : Str)) = false) (d5 : (e == ("__classdict__" : Str)) = false) :
    FnOk P w K mg base (L2N.CX P w) (k + 1) fT fdT [a] (spTry P w K mg base k cs sp) := by
  refine F.ok S (fun vs H Q E h => ?_) (fun cdv A outer s H vs Q E hr h => ?_)
  · obtain ⟨f, c, spL, G, Qd, e, _⟩ := h
    rw [e]; rfl
  · refine ⟨_, pss_one (ps_try_t (X := cxOf (L2N.CX P w) P w K mg base [a, e] qual scope fT cdv A outer s H E) (n := e) (i := 1) (cs := cs) (Wout := fun _ _ _ _ => False) (tb := fun W => tRet (tTup (tCons (tC (.str "")) (tCons (tClo P w K mg base k 0 W) tNil))))
      (ts := fun x cls d => tRet (tTup (tCons (tXf2 K x cls d "code" (tVar 1)) (tCons (tFld K x cls d 1 sp) tNil)))) rfl rfl S.nd rfl he (hes cdv A outer s H E) (hm _) hsz hst takesN0 (fun W pn xe tk _ => ?_) (fun x oe cls d pn hz hf => ?_)), ?_⟩
    · exact pss_one (ps_ret (pe_tup (pa_cons pe_str (pa_cons (pe_clo (X := (cxOf (L2N.CX P w) P w K mg base [a, e] qual scope fT cdv A outer s H E).tr pn xe) (i := 0) hr tk rfl (.inl ha) d1 d4) pa_nil))))
    · obtain ⟨vs0, hv0⟩ := hf
      have hot : L2H.Hot1 ((cxOf (L2N.CX P w) P w K mg base [a, e] qual scope fT cdv A outer s H E).suite x ((x, oe) :: pn)).A (x, oe) := ⟨rfl, vs0, hv0, hz.2.2 _ hv0⟩
      have hvar : ∀ p, PE ((cxOf (L2N.CX P w) P w K mg base [a, e] qual scope fT cdv A outer s H E).suite x ((x, oe) :: pn)) (.Name e p) (tVar 1) := fun p => pe_var (i := 1) rfl (.inl he) d2 d5
      exact pss_one (ps_ret (pe_tup (pa_cons (pe_xf2 (X := (cxOf (L2N.CX P w) P w K mg base [a, e] qual scope fT cdv A outer s H E).suite x ((x, oe) :: pn)) (a := x) (oe := oe) (cls := cls) (d := d) List.mem_cons_self hz.zc ⟨vs0, hv0⟩ (hvar _))
        (pa_cons (pe_fld_call (X := (cxOf (L2N.CX P w) P w K mg base [a, e] qual scope fT cdv A outer s H E).suite x ((x, oe) :: pn)) (a := x) (oe := oe) (cls := cls) (d := d) (i := 1) G hps (L2H.roomH_mark hr _) hot List.mem_cons_self hz.zc hgg hmg hk hb rfl (.inl he) d3 d2 d5) pa_nil))))
    · obtain ⟨f, c, spL, G0, Qd, e1, C, Em, k1, hsp⟩ := h
      subst e1
      refine ⟨f, c, spL, G0, _, _, rfl, C, Em, hsp, fun v H' d G' r E' x q => ?_, fun x cls d H' G' hx E' y q => ?_⟩
      · refine ⟨by show 2 ≤ sizeLine; rw [sizeLine_eq]; omega, fun p n => ?_⟩
        exact k1 _ _ _ G' (R.newTup E' n (.cons (.str []) (.cons r .nil))) (E'.new n) (x.trans (Ext.new n)) q
      · obtain ⟨hx1, hx2, yy, z, hy, hz, q⟩ := q
        obtain ⟨ec, dd, vs, ed, u, h1, rf⟩ := id hx
        refine ⟨true, by rw [ec]; exact hx1, fun _ b nb => ?_, fun z => by cases z⟩
        obtain ⟨w', hw, rw'⟩ := rf.look hz
        refine ⟨.ref b, rfl, rfl, _, ec, hx2, dd, vs, w', ed, h1, hw, rfl, x, yy, G', fun d G'' => d = yy ∧ Qd (.tup [z, yy]) G'', hx, E', hy, ⟨rfl, q⟩, fun v2 H2 d2 G2 r2 E2 x2 q2 => ?_⟩
        obtain ⟨e2, q2⟩ := q2
        subst e2
        refine ⟨by show 2 ≤ sizeLine; rw [sizeLine_eq]; omega, fun p n => ?_⟩
        exact k1 _ _ _ G2 (R.newTup E2 n (.cons (rw'.ext x2) (.cons r2 .nil))) (E2.new n) ((y.trans x2).trans (Ext.new n)) q2
end
end DL
set_option Elab.async false
set_option linter.all false
set_option maxRecDepth 100000
set_option maxHeartbeats 1000000
/-! Closures handed to the law's try and tries. -/
namespace DL
open PySem PySem.Spec PyProof.Rows L2
variable {O : AS × Hp}
abbrev CloS := List (Clo × LSp)
def fnD (p : Clo × LSp) : D := .fn p.1.F
/-- what the try makes of a closure's promise -/
def tryD (K : PySem.W.Frag) (cs : List Value) (sp : DX → D → Prop) (p : Clo × LSp) (G : GH) (Qd : DK) : Prop :=
  p.2 p.1.ws G (fun d G' => Qd (.tup [.str [], d]) G') (fun x G' => PySem.W.exmAny K (.ref (gaS K x.cls)) cs = some true ∧ XfK K (gaS K x.cls) ["code"] ∧ ∃ y z, sp x y ∧ lookD "code" x.fs = some z ∧ Qd (.tup [z, y]) G')
structure CloG (P : Program) (w : World) (K : PySem.W.Frag) (mg : Str → Option Value) (base : Heap) (k : Nat) (p : Clo × LSp) : Prop where
  ok : LOk P w K mg base k p.1.F p.1.fr p.2
  nd : (p.1.F.cl.map (·.1)).Nodup
  mono : ∀ (ws : List D) (G : GH) (Q Q' : DK) (Ed Ed' : DXK), (∀ d G', Q d G' → Q' d G') → (∀ x G', Ed x G' → Ed' x G') → p.2 ws G Q Ed → p.2 ws G Q' Ed'
theorem tryD_mono {P : Program} {w : World} {K : PySem.W.Frag} {mg : Str → Option Value} {base : Heap} {k : Nat} {cs : List Value} {sp : DX → D → Prop} {p : Clo × LSp} {G : GH} {Q Q' : DK} (c : CloG P w K mg base k p) (i : ∀ d G', Q d G' → Q' d G') (h : tryD K cs sp p G Q) : tryD K cs sp p G Q' :=
  c.mono _ _ _ _ _ _ (fun d G' q => i _ _ q) (fun x G' ⟨h1, h2, y, z, h3, h4, q⟩ => ⟨h1, h2, y, z, h3, h4, i _ _ q⟩) h
/-- a callee that gets closures -/
def CalleeC (P : Program) (w : World) (K : PySem.W.Frag) (mg : Str → Option Value) (base : Heap) (k : Nat) (sp : Sp) (bd : CloS → List D → GH → DK → Prop) : Prop :=
  ∀ (vs : List V) (H : Hp) (Q : VK) (E : XK) (G : AS) (ds : List D) (cl : CloS) (Qd : DK), Rs K G H ds vs → (∀ p ∈ cl, CloG P w K mg base k p ∧ CloAt K G H p.1) → EmbH K G H → KE K G H Qd Q → bd cl ds G.g Qd → sp vs H Q E
def bdTry (K : PySem.W.Frag) (cs : List Value) (sp : DX → D → Prop) : CloS → List D → GH → DK → Prop := fun cl ds G Qd => ∃ p ∈ cl, ds = [.fn p.1.F] ∧ tryD K cs sp p G Qd
theorem callee_try {P : Program} {w : World} {K : PySem.W.Frag} {mg : Str → Option Value} {base : Heap} {k : Nat} {cs : List Value} {sp : DX → D → Prop} : CalleeC P w K mg base k (spTry P w K mg base k cs sp) (bdTry K cs sp) :=
  fun vs H Q E G ds cl Qd r hcl Em kk ⟨p, hp, e, hb⟩ => by
    subst e
    obtain ⟨hG, hA⟩ := hcl p hp
    cases r with
    | cons r1 r2 =>
      cases r2
      cases r1 with
      | fn u1 h1 u2 h2 h3 => exact ⟨_, p.1, p.2, G, Qd, rfl, ⟨hG.ok, hG.nd, hA, .fn u1 h1 u2 h2 h3⟩, Em, kk, hb⟩
/-! ### [try(a) for a in asks] -/
def triesD (K : PySem.W.Frag) (cs : List Value) (sp : DX → D → Prop) : CloS → List D → GH → DK → Prop
  | [], acc, G, Qd => Qd (.lst acc) G
  | p :: r, acc, G, Qd => tryD K cs sp p G fun d G' => triesD K cs sp r (acc ++ [d]) G' Qd
def bdTries (K : PySem.W.Frag) (cs : List Value) (sp : DX → D → Prop) : CloS → List D → GH → DK → Prop := fun cl ds G Qd => cl.length ≤ 1000 ∧ ds = [.lst (cl.map fnD)] ∧ triesD K cs sp cl [] G Qd
def spTries (P : Program) (w : World) (K : PySem.W.Frag) (mg : Str → Option Value) (base : Heap) (k : Nat) (cs : List Value) (sp : DX → D → Prop) : Sp := fun vs H Q _ => ∃ (cl : CloS) (G : AS) (Qd : DK) (ds : List D), Rs K G H ds vs ∧ (∀ p ∈ cl, CloG P w K mg base k p ∧ CloAt K G H p.1) ∧ EmbH K G H ∧ KE K G H Qd Q ∧ bdTries K cs sp cl ds G.g Qd
theorem callee_tries {P : Program} {w : World} {K : PySem.W.Frag} {mg : Str → Option Value} {base : Heap} {k : Nat} {cs : List Value} {sp : DX → D → Prop} : CalleeC P w K mg base k (spTries P w K mg base k cs sp) (bdTries K cs sp) :=
  fun vs H Q E G ds cl Qd r hcl Em kk hb => ⟨cl, G, Qd, ds, r, hcl, Em, kk, hb⟩
/-- try(e), e a closure of cl -/
def dTry (K : PySem.W.Frag) (cs : List Value) (sp : DX → D → Prop) (cl : CloS) (te : DTE) : DTE := fun ρ G Q => te ρ G fun d G1 => ∃ p ∈ cl, d = .fn p.1.F ∧ tryD K cs sp p G1 Q
section
variable {X : Cx} {k j : Nat} {f : Addr} {fd : FuncData} {a x : Str} {cs : List Value} {sp : DX → D → Prop} {cl : CloS} {e : Expr} {te : DTE} {p pos : Pos}
theorem de_try (F : FnOk X.prog X.w X.K X.mg X.base (L2N.CX X.prog X.w) j f fd [a] (spTry X.prog X.w X.K X.mg X.base k cs sp)) (hr : Room j X.A) (hg : Gl X x) (hm : X.mg x = some (.ref f)) (hk : PySem.W.keepIn X.K (.ref f) = true) (hb : Binds X.K fd [a] [])
    (hcl : ∀ p ∈ cl, CloG X.prog X.w X.K X.mg X.base k p ∧ CloAt X.K O.1 O.2 p.1) (he : DE X O e te) (hdb : (x == ("__debug__" : Str)) = false := by decide) (hs : starEach (e :: []) X.env = (false, eval e X.env) :: starEach [] X.env := by rfl) (hpl : (backTo pos (starEach [] X.env)).any (·.1) = false := by rfl) :
    DE X O (.Call (.Name x p) [e] [] pos) (dTry X.K cs sp cl te) := imE (pe_call F hr hg hm hk hb .nil passes0 (pa_cons he pa_nil hs) hdb hs hpl) fun σ H Q ⟨ρ, G, Qd, Em, h, kk⟩ => up1 Em h fun v H1 d G1 r E1 x1 ⟨q, hq, ed, hb⟩ => by
  subst ed
  cases r with
  | fn u1 h1 u2 h2 h3 =>
    exact ⟨_, q.1, q.2, G1, Qd, rfl, ⟨(hcl q hq).1.ok, (hcl q hq).1.nd, ((hcl q hq).2).ext E1.org, .fn u1 h1 u2 h2 h3⟩, E1.hp, kk.ext x1, hb⟩
end
section
variable {P : Program} {w : World} {K : PySem.W.Frag} {mg : Str → Option Value} {base : Heap} {k j : Nat} {fL fT : Addr} {fdL fdT : FuncData} {nm qual a as_ x tn : Str} {params : Arguments} {scope bs : Scope} {dvs : List V} {kws : List (Str × V)} {sp : DX → D → Prop} {cs : List Value} {p1 p2 p3 p4 p5 p6 p7 pos : Pos}
theorem tries_go {cl : CloS} {ρ : DSt} {ok : GH → Prop} {Q : DK} (hok : ∀ G, ok G) (h1 : 1 < ρ.length) (hcl : ∀ p ∈ cl, CloG P w K mg base k p) : ∀ (r : CloS) (acc : List D) (G : GH), (∀ p ∈ r, p ∈ cl) → acc.length + r.length ≤ 1000 → triesD K cs sp r acc G Q →
    lcGo (gN 1) dYes (dTry K cs sp cl (dVar 1)) ρ ok Q (r.map fnD) acc G := by
  intro r
  induction r with
  | nil => intro acc G _ _ h; exact ⟨hok G, h⟩
  | cons p r ih =>
    intro acc G hm hl h
    refine ⟨hok G, ?_⟩
    suffices key : dTry K cs sp cl (dVar 1) (ρ.set 1 (some (fnD p))) G (fun d G3 => acc.length < sizeLine ∧ lcGo (gN 1) dYes (dTry K cs sp cl (dVar 1)) ρ ok Q (r.map fnD) (acc ++ [d]) G3) from key
    refine ⟨.fn p.1.F, by rw [List.getElem?_set_self h1]; rfl, p, hm p List.mem_cons_self, rfl, ?_⟩
    have hl' : acc.length < sizeLine := by have := sizeLine_eq; simp at hl; omega
    have h' : tryD K cs sp p G fun d G' => triesD K cs sp r (acc ++ [d]) G' Q := h
    exact tryD_mono (hcl p (hm p List.mem_cons_self)) (fun d G' q => ⟨hl', ih (acc ++ [d]) G' (fun p hp => hm p (List.mem_cons_of_mem _ hp)) (by simp at hl ⊢; omega) q⟩) h'
theorem relab {env : Env} {k : NameKind} (hk : k ≠ .free) : ∀ {names : List (Str × NameKind)} {x : Str}, names.lookup x = some k →
    (names.map fun (n, k) => if (k == NameKind.free && env.scope.kind == .function && env.kindOf n == some .cell) then (n, NameKind.cell) else (n, k)).lookup x = some k
  | [], _, h => by simp at h
  | (n, k') :: r, x, h => by
    have ih := @relab env k hk r x
    rw [List.map_cons]
    by_cases hx : x = n
    · subst hx
      have e : k' = k := by simpa [List.lookup] using h
      subst e
      have e2 : (k' == NameKind.free) = false := by simpa using hk
      simp [List.lookup, e2]
    · have e : (x == n) = false := by simpa using hx
      simp only [List.lookup, e] at h
      by_cases hc : (k' == NameKind.free && env.scope.kind == .function && env.kindOf n == some .cell) = true
      · simp only [hc, if_true, List.lookup, e]; exact ih h
      · dsimp only; rw [if_neg hc]; simp only [List.lookup, e]; exact ih h
theorem ok_tries (F : FunD K nm qual params [.Return (some (.ListComp (.Call (.Name tn p1) [.Name x p2] [] p3) [⟨.Name x p4, .Name as_ p5, [], 0⟩] bs p6)) p7] scope dvs kws fL fdL)
    (S : FnScope [as_, x] [as_] scope) (B : BlkOk [as_, x] scope bs [(x, 1)]) (T : FnOk P w K mg base (L2N.CX P w) j fT fdT [a] (spTry P w K mg base k cs sp)) (hgt : bs.names.lookup tn = some .globalImplicit) (hmt : mg tn = some (.ref fT)) (hk : PySem.W.keepIn K (.ref fT) = true) (hb : Binds K fdT [a] [])
    (hva : scope.names.lookup as_ = some .local) (hvx : bs.names.lookup x = some .local) (d1 : (as_ == ("__debug__" : Str)) = false) (d2 : (x == ("__debug__" : Str)) = false) (d3 : (tn == ("__debug__" : Str)) = false) (d4 : (as_ == ("__classdict__" : Str)) = false) (d5 : (x == ("__classdict__" : Str)) = false) :
    FnOk P w K mg base (L2N.CX P w) (j + 1) fL fdL [as_] (spTries P w K mg base k cs sp) := by
  refine F.ok S (fun vs H Q E h => ?_) (fun cdv A outer s H vs Q E hr h => ?_)
  · obtain ⟨cl, G, Qd, ds, r, _, _, _, _, e, _⟩ := h
    subst e
    rw [← r.length]; rfl
  · obtain ⟨cl, G, Qd, ds, r, hcl, Em, kk, hl, e, hb2⟩ := h
    subst e
    have hvx' : ∀ env : Env, (relabel bs env).names.lookup x = some .local := fun env => relab (by decide) hvx
    have hgt' : ∀ env : Env, (relabel bs env).names.lookup tn = some .globalImplicit := fun env => relab (by decide) hgt
    have D1 : DSs (cxOf (L2N.CX P w) P w K mg base [as_, x] qual scope fL cdv A outer s H E) (G, H) [.Return (some (.ListComp (.Call (.Name tn p1) [.Name x p2] [] p3) [⟨.Name x p4, .Name as_ p5, [], 0⟩] bs p6)) p7]
        (dRet (dLc (dIter (dVar 0)) (gN 1) dYes (dTry K cs sp cl (dVar 1)) [1])) := by
      refine dss_one (ds_ret (de_lc (own := [(x, 1)]) rfl S.nd (di_any (de_var (pe_var (i := 0) rfl (.inl hva) d1 d4))) B (ownN (by simp)) (fun s' H' C cl' fp => ?_) (fun _ _ _ _ _ => dts_nil) (fun s' H' C cl' fp => ?_) (fun _ => rfl)))
      · exact pg_name (X := (cxOf (L2N.CX P w) P w K mg base [as_, x] qual scope fL cdv A outer s H E).blk s' H' bs (compEnvC bs cl' C (cxOf (L2N.CX P w) P w K mg base [as_, x] qual scope fL cdv A outer s H E).env) fp) (i := 1) S.nd rfl (.inl (hvx' _)) (.inr (hvx' _))
      · exact de_try (X := (cxOf (L2N.CX P w) P w K mg base [as_, x] qual scope fL cdv A outer s H E).blk s' H' bs (compEnvC bs cl' C (cxOf (L2N.CX P w) P w K mg base [as_, x] qual scope fL cdv A outer s H E).env) fp) T hr (hgt' _) hmt hk hb hcl (de_var (pe_var (i := 1) rfl (.inl (hvx' _)) d2 d5)) d3
    refine ⟨_, D1, dstart [as_, x] [.lst (cl.map fnD)], G, { nx := fun _ G' => Qd .non G', rt := Qd }, emb_start r Em, ?_, ⟨fun σ' H' ρ' G' E' y q => kk _ _ _ _ .non E'.hp y q, kk, fun _ _ _ _ _ _ z => z, fun _ _ _ _ _ _ z => z⟩⟩
    refine ⟨_, rfl, _, rfl, ?_⟩
    exact tries_go (P := P) (w := w) (mg := mg) (base := base) (k := k) (fun _ => rfl) (by simp [wipeD, dstart]) (fun p hp => (hcl p hp).1) cl [] G.g (fun p hp => hp) (by simpa using hl) hb2
end
end DL
set_option Elab.async false
set_option linter.all false
set_option maxRecDepth 100000
set_option maxHeartbeats 1000000
/-! Lambdas of the running def handed to a callee. -/
namespace DL
open PySem PySem.Spec PyProof.Rows L2
variable {O : AS × Hp}
/-- a lambda made here: its cells are ours, what they hold -/
def Site (N : List Str) (sc : Scope) (cells : List (Str × Addr)) (ρ : DSt) (c : Clo) : Prop :=
  c.F.cl = cloFrom cells c.F.scope.names [] ∧ NdefX.ndefB sc c.F.scope c.fr = true ∧ ∃ js : List Nat, js.map (fun j => N[j]?) = c.fr.map some ∧ js.map (fun j => ρ[j]?) = c.ws.map fun d => some (some d)
def cellsA (cells : List (Str × Addr)) : List Addr := (cells.map (·.1)).filterMap fun y => cells.lookup y
theorem mem_cellsA {cells : List (Str × Addr)} {a : Addr} : a ∈ cellsA cells ↔ ∃ y, cells.lookup y = some a := by
  unfold cellsA
  rw [List.mem_filterMap]
  exact ⟨fun ⟨y, _, e⟩ => ⟨y, e⟩, fun ⟨y, e⟩ => ⟨y, List.mem_map_of_mem (f := (·.1)) (PySem.mem_of_lookup e), e⟩⟩
section
variable {X : Cx} {pins : List (Addr × Obj)} {σ : St} {H : Hp} {s : Shared} {G : AS} {ρ : DSt}
theorem cells_in (I : Inv X pins σ H s) (hfn : ∀ x, X.fn x = true) : CellsIn X.base X.stack H s.heap (cellsA X.env.cells) := ⟨fun b hb => by
  obtain ⟨y, hy⟩ := mem_cellsA.mp hb
  have hc := I.ok.cab y b (hfn y) hy
  obtain ⟨v, o, ho, hd⟩ := I.cell y b hy
  refine ⟨I.freeC y b hy, fun hm => ?_, ?_, o, ho⟩
  · rcases List.mem_cons.mp (I.stkSub b hm) with e | e
    · obtain ⟨m, ⟨ob, es, ep, e1, e2, _⟩, _⟩ := I.loc
      rw [← e, ho] at e1
      cases e1
      rw [hd] at e2; cases e2
    · obtain ⟨_, o', e', _⟩ := I.ok.funs.mem e
      exact absurd (Heap.lt_size e') (Nat.not_lt.mpr hc)
  · cases e : X.base.get? b with
    | none => rfl
    | some o' => exact absurd (Nat.lt_of_lt_of_le (Heap.lt_size e) I.ok.bsz) (Nat.not_lt.mpr hc)⟩
theorem clo_made (I : Inv X pins σ H s) (Em : Emb X.K O ρ G σ H) {c : Clo} (S : Site X.N X.env.scope X.env.cells ρ c) : CloAt X.K (G.on (cellsA X.env.cells)) (trk H s.heap (cellsA X.env.cells)) c := by
  obtain ⟨e1, e2, js, e3, e4⟩ := S
  have hfree := NdefX.ndef_free e2
  have hfr := NdefX.ndef_fr e2
  have hf : ∀ y ∈ c.F.scope.names, y.2 = .free → ∃ a, X.env.cells.lookup y.1 = some a := fun y hy e => (hfree y hy e).elim (fun z => I.ok.has _ (.inl z)) fun z => I.ok.has _ (.inr z)
  have n : ∀ a ∈ cellsA X.env.cells, H a = none := fun a ha => let ⟨y, hy⟩ := mem_cellsA.mp ha; I.freeC y a hy
  have sub : ∀ {y a}, c.F.cl.lookup y = some a → X.env.cells.lookup y = some a := fun {y a} e => by rw [e1] at e; exact NdefX.clo_cm hf e
  have at_ : ∀ {y a}, X.env.cells.lookup y = some a → ∃ o u, trk H s.heap (cellsA X.env.cells) a = some (CellO a o) ∧ o.data = .cell u ∧ s.heap.get? a = some o := fun {y a} e => by
    obtain ⟨v, o, ho, hd⟩ := I.cell y a e
    exact ⟨o, v, by rw [trk_in (mem_cellsA.mpr ⟨y, e⟩), ho]; rfl, hd, ho⟩
  have l1 : js.length = c.fr.length := by simpa using congrArg List.length e3
  have l2 : js.length = c.ws.length := by simpa using congrArg List.length e4
  refine ⟨fun y a e => ?_, fun x y a h1 h2 => I.ok.inj x y a (sub h1) (sub h2), by omega, fun i y hi => ?_⟩
  · have ha := mem_cellsA.mpr ⟨y, sub e⟩
    obtain ⟨o, u, h1, h2, _⟩ := at_ (sub e)
    exact ⟨Em.hp.free (n a ha), .inl ha, o, u, h1, h2⟩
  · have hil : i < c.fr.length := (List.getElem?_eq_some_iff.mp hi).1
    obtain ⟨j, hj⟩ : ∃ j, js[i]? = some j := ⟨js[i]'(by omega), by simp [show i < js.length by omega]⟩
    obtain ⟨d, hd⟩ : ∃ d, c.ws[i]? = some d := ⟨c.ws[i]'(by omega), by simp [show i < c.ws.length by omega]⟩
    have q1 := congrArg (·[i]?) e3
    have q2 := congrArg (·[i]?) e4
    simp only [List.getElem?_map, hj, hi, hd, Option.map_some] at q1 q2
    have q1 : X.N[j]? = some y := Option.some.inj q1
    have q2 : ρ[j]? = some (some d) := Option.some.inj q2
    obtain ⟨w, hw, rw'⟩ := Em.loc j d q2
    have k := hfree (y, .free) (hfr y (List.mem_of_getElem? hi)) rfl
    obtain ⟨a, ha⟩ := hf (y, .free) (hfr y (List.mem_of_getElem? hi)) rfl
    obtain ⟨m, hn, hl⟩ := I.loc
    obtain ⟨u, ru, l⟩ := hl j y w q1 hw (k.elim (fun z => .inr (.inl z)) fun z => .inr (.inr z))
    obtain ⟨o, v, h1, h2, h3⟩ := at_ ha
    have hu : o.data = .cell (some u) := by
      rcases l with ⟨z, _⟩ | ⟨_, a', ha', o', ho', hd'⟩
      · have z' : X.env.scope.names.lookup y = some .local := z
        rcases k with k | k <;> rw [show X.env.scope.names.lookup y = _ from k] at z' <;> cases z'
      · rw [show X.env.cells.lookup y = _ from ha] at ha'
        cases ha'
        rw [h3] at ho'; cases ho'
        exact hd'
    refine ⟨a, o, u, w, d, by rw [e1]; exact NdefX.clo_has hf (hfr y (List.mem_of_getElem? hi)) ha, h1, hu, ru, hd, rw'.ext (ext_on n _ fun a ha => trk_out ha)⟩
end
/-- g(e), e a lambda or a list of lambdas made here -/
def dBound (P : Program) (w : World) (K : PySem.W.Frag) (mg : Str → Option Value) (base : Heap) (k : Nat) (N : List Str) (sc : Scope) (cells : List (Str × Addr)) (bd : CloS → List D → GH → DK → Prop) (te : DTE) : DTE :=
  fun ρ G Q => te ρ G fun d G1 => ∃ cl : CloS, (∀ p ∈ cl, CloG P w K mg base k p ∧ Site N sc cells ρ p.1) ∧ bd cl [d] G1 Q
section
variable {X : Cx} {k j : Nat} {f : Addr} {fd : FuncData} {ps : List Str} {x : Str} {spB : Sp} {bd : CloS → List D → GH → DK → Prop} {e : Expr} {te : DTE} {p pos : Pos}
theorem de_bound (C : CalleeC X.prog X.w X.K X.mg X.base k spB bd) (F : FnOk X.prog X.w X.K X.mg X.base (L2N.CX X.prog X.w) j f fd ps spB) (hfn : ∀ x, X.fn x = true) (hr : Room j X.A) (hg : Gl X x) (hm : X.mg x = some (.ref f)) (hk : PySem.W.keepIn X.K (.ref f) = true) (hb : Binds X.K fd ps []) (ha : DE X O e te)
    (hdb : (x == ("__debug__" : Str)) = false := by decide) (hs : starEach (e :: []) X.env = (false, eval e X.env) :: starEach [] X.env := by rfl) (hpl : (backTo pos (starEach [] X.env)).any (·.1) = false := by rfl) :
    DE X O (.Call (.Name x p) [e] [] pos) (dBound X.prog X.w X.K X.mg X.base k X.N X.env.scope X.env.cells bd te) := by
  refine ⟨fun pins s σ H Q I ⟨ρ, G, Qd, Em, h, kk⟩ => ?_⟩
  refine wpAny_Call_Name_kw (ld_glob I hg hm ?_ hdb)
  refine PySem.W.callWith_K (h₀ := X.base) I.ok.mod.kin hk (thn ((pa_cons ha pa_nil hs).run pos pins s σ H (fun vs H1 => ∃ (G1 : AS) (d : D), Emb X.K O ρ G1 σ H1 ∧ Ext G H G1 H1 ∧ Rs X.K G1 H1 [d] vs ∧ ∃ cl : CloS, (∀ p ∈ cl, CloG X.prog X.w X.K X.mg X.base k p ∧ Site X.N X.env.scope X.env.cells ρ p.1) ∧ bd cl [d] G1.g Qd) I
    (up1 Em h fun v H1 d G1 r E1 x1 q => ⟨G1, d, E1, x1, .cons r .nil, q⟩)) fun us s1 ⟨vs, H1, I1, r1, G1, d, E1, x1, r, cl, hcl, hbd⟩ => ⟨I1.kIn, ?_⟩) hs hpl
  have ci := cells_in I1 hfn
  have n : ∀ a ∈ cellsA X.env.cells, H1 a = none := fun a ha => (ci.at_ a ha).1
  have hf : ∀ a, a ∉ cellsA X.env.cells → trk H1 s1.heap (cellsA X.env.cells) a = H1 a := fun a ha => trk_out ha
  have hs' : ∀ a ∈ cellsA X.env.cells, ∃ o, trk H1 s1.heap (cellsA X.env.cells) a = some (CellO a o) := fun a ha => by
    obtain ⟨_, _, _, o, ho⟩ := ci.at_ a ha
    exact ⟨o, by rw [trk_in ha, ho]; rfl⟩
  have xo := ext_on (G := G1) n _ hf
  have kx := kk.ext x1
  have hsp : spB vs (trk H1 s1.heap (cellsA X.env.cells)) (fun v H' => (∀ b ∈ cellsA X.env.cells, H' b = trk H1 s1.heap (cellsA X.env.cells) b) ∧ Q v (unt H' (cellsA X.env.cells))) E0 := by
    refine C vs _ _ _ (G1.on (cellsA X.env.cells)) [d] cl Qd (r.ext xo) (fun p hp => ⟨(hcl p hp).1, clo_made I1 E1 (hcl p hp).2⟩) (emb_on E1.hp n _ hf fun a ha z => by obtain ⟨o, e⟩ := hs' a ha; rw [z] at e; cases e) (fun v H' d' G' r' E' y q => ?_) hbd
    have cell : ∀ b ∈ cellsA X.env.cells, H' b = trk H1 s1.heap (cellsA X.env.cells) b ∧ G'.p b := fun b hb => by
      obtain ⟨o, e⟩ := hs' b hb
      obtain ⟨y1, y2, y3⟩ := y b _ e (E1.hp.free (n b hb))
      exact ⟨y1.trans e.symm, y3.mpr (.inl hb)⟩
    refine ⟨fun b hb => (cell b hb).1, kx v _ d' (G'.off (cellsA X.env.cells)) (r'.extu (exu_off fun a ha => (cell a ha).2)) (emb_off E' fun a ha => (cell a ha).2) (fun b o e g => ?_) q⟩
    have nb : b ∉ cellsA X.env.cells := fun z => by rw [n b z] at e; cases e
    obtain ⟨y1, y2, y3⟩ := y b o (by rw [hf b nb]; exact e) g
    exact ⟨by rw [unt_out nb]; exact y1, y2, ⟨fun z => (y3.mp z.2).elim (fun z => absurd z nb) id, fun z => ⟨nb, y3.mpr (.inr z)⟩⟩⟩
  have hl : us.length = ps.length := by rw [← r1.length]; exact F.len _ _ _ _ hsp
  have b := hb s1 us I1.kIn (by rw [List.append_nil]; exact hl)
  rw [List.append_nil] at b
  refine wpAny_call (codeAny_mono (F.run X.A X.stack s1 _ ⟨us, []⟩ us vs _ _ hr (trk_env0 I1.env0 ci) b r1 hsp) fun r s' hq => ?_)
  cases r with
  | error e =>
    obtain ⟨_, _, _, _, _, _, _, _, _, _, _, _, z⟩ := hq
    exact z.elim
  | ok fl =>
    cases fl with
    | ret u => exact I1.after (ce_untrk ci hq fun v H' q => q)
    | next => exact False.elim hq
    | brk => exact False.elim hq
    | cont => exact False.elim hq
end
end DL
set_option Elab.async false
set_option linter.all false
set_option maxRecDepth 100000
set_option maxHeartbeats 1000000
/-! The D-layer: three names at once, stars on the left, zip, tuple.index, dicts. -/
namespace DL
open PySem PySem.Spec PyProof.Rows L2
variable {O : AS × Hp}
section
variable {X : Cx} {pos : Pos}
def dPar3 (i j l : Nat) (ta : DTA) : DTS := fun D ρ G => ta ρ G fun ds G1 => ∃ u v w, ds = [u, v, w] ∧ D.nx (((ρ.set i (some u)).set j (some v)).set l (some w)) G1
theorem ds_par3 {i j l : Nat} {x y z : Str} {a b c : Expr} {ta : DTA} {px py pz pt : Pos} {kt k2 pt2} (hc : X.calm = true) (hN : X.N.Nodup) (hi : X.N[i]? = some x) (hj : X.N[j]? = some y) (hl : X.N[l]? = some z) (hij : i ≠ j) (hil : i ≠ l) (hjl : j ≠ l)
    (hx : X.env.scope.names.lookup x = some .local) (hy : X.env.scope.names.lookup y = some .local) (hz : X.env.scope.names.lookup z = some .local) (ha : DA X O [a, b, c] ta)
    (hw : swappedStores [.Tuple [.Name x px, .Name y py, .Name z pz] kt pt] (.Tuple [a, b, c] k2 pt2) X.env = pure (some [x, y, z]) := by rfl)
    (hs : swapsWithSole [.Tuple [.Name x px, .Name y py, .Name z pz] kt pt] (.Tuple [a, b, c] k2 pt2) pos.line X.env = pure false := by rfl) :
    DS X O (.Assign [.Tuple [.Name x px, .Name y py, .Name z pz] kt pt] (.Tuple [a, b, c] k2 pt2) pos) (dPar3 i j l ta) := imS (ps_par3 hc hN hi hj hl hij hil hjl hx hy hz ha hw hs) fun D' σ H ⟨ρ, G, DD, E, h, k⟩ =>
  upA1 E h fun vs H1 ds G1 rs E1 x1 ⟨u, v, w, e, h1⟩ => by
    subst e
    cases rs with
    | cons r1 r2 =>
      cases r2 with
      | cons r2 r3 =>
        cases r3 with
        | cons r3 r4 =>
          cases r4
          exact ⟨_, _, _, rfl, k.nx _ _ _ _ (((E1.put r1).put r2).put r3) x1 h1⟩
end
/-! ### stars on the left -/
theorem unpack_star {prog : Program} {w : World} {A : Around} {E : Value → Shared → Prop} {s : Shared} {l : Addr} {items : Array Value} {n i : Nat} {Q : List Value → Shared → Prop} (hl : s.heap.IsList l items) (hh : A.handled = none) (hi : i < n) (hn : n ≤ items.size + 1) (hz : items.size ≤ 16384)
    (h : ∀ (h' : Heap) (tk : Nat), (∀ b o, s.heap.get? b = some o → h'.get? b = some o) → Q (items.toList.take i ++ [.ref h'.objs.size] ++ (items.toList.drop i).drop (items.size + 1 - n)) { s with heap := h'.push { cls := .type "list", data := .seq ((items.toList.drop i).take (items.size + 1 - n)).toArray }, toks := tk }) :
    wpAny (model prog w) A (unpackItems (.ref l) n (some i)) Q E s := by
  have hlt : l ≠ s.heap.objs.size := by obtain ⟨o, ho, _⟩ := hl; exact Nat.ne_of_lt (Heap.lt_size ho)
  unfold unpackItems
  refine wpAny_bind ?_
  unfold notIterableAtAll
  refine wpAny_bind (wpAny_specialOf hl.typeIs slot_list_iter.lookup (wpAny_pure ?_))
  simp only [Bool.false_eq_true, if_false]
  refine wpAny_bind (wpAny_holding (wpAny_pyIter_list hl ?_))
  refine wpAny_bind (wpAny_holding (PySem.W.kun_draw hlt i 0 _ _ ⟨_, Heap.get?_push_size _ rfl, rfl, rfl⟩ (hl.push _) (by omega) fun h₁ hit₁ hs₁ => ?_))
  have hl₁ : h₁.IsList l items := (hl.push _).extBut hs₁.extBut hlt
  rw [Nat.zero_add] at hit₁
  obtain ⟨oi, hoi, _⟩ := id hit₁
  obtain ⟨ol, hol, _⟩ := id hl₁
  rw [List.drop_zero]
  have hfl : (items.toList.take i).length = i := by rw [List.length_take, Array.length_toList]; omega
  have hrl : (items.toList.drop i).length = items.size - i := by rw [List.length_drop, Array.length_toList]
  rw [if_neg (show ¬ ((items.toList.take i).length < i) by rw [hfl]; omega)]
  refine wpAny_bind (wpAny_holding (PySem.W.kun_collect (s := { s with heap := h₁ }) (T := "list_iterator") (.inr (.inr (.inl rfl))) (Walks.list (A := A.in1) hh s.heap.objs.size l hlt items) (fun j u st => st.1.typeIs) (k := i) (by omega) ⟨hit₁, hl₁⟩ (Heap.lt_size hoi) (Heap.lt_size hol) (fun h₂ tk hk => ?_) (by rw [sizeLine_eq]; omega)))
  have hmid : (items.toList.drop i).length - (n - 1 - i) = items.size + 1 - n := by rw [hrl]; omega
  show wpAny _ _ (if (items.toList.drop i).length < n - 1 - i then _ else _) _ _ _
  rw [if_neg (by rw [hrl]; omega)]
  show wpAny _ _ (newList ((items.toList.drop i).take ((items.toList.drop i).length - (n - 1 - i))) >>= fun d => pure (items.toList.take i ++ [d] ++ (items.toList.drop i).drop ((items.toList.drop i).length - (n - 1 - i)))) _ _ _
  rw [hmid]
  refine wpAny_bind (wpAny_newObj_type (wpAny_pure (h h₂ tk fun b o e => hk b o (Nat.ne_of_lt (Heap.lt_size e)) (hs₁.extBut b o (Nat.ne_of_lt (Heap.lt_size e)) (Heap.get?_push_of_some _ e)))) ?_)
  show ((items.toList.drop i).take (items.size + 1 - n)).toArray.size ≤ sizeLine
  rw [List.size_toArray, List.length_take, hrl, sizeLine_eq]
  omega
/-- a, *b = .. : n targets, the i-th starred -/
def gStar (n i : Nat) (t : DTGs) : DTG := fun d ρ G Q => ∃ xs, lstD d G = some xs ∧ n ≤ xs.length + 1 ∧ xs.length ≤ 16384 ∧ t (xs.take i ++ [.lst ((xs.drop i).take (xs.length + 1 - n))] ++ (xs.drop i).drop (xs.length + 1 - n)) ρ G Q
theorem paired_take {us : List Value} {vs : List V} (r : Vals vs us) : ∀ n, Vals (vs.take n) (us.take n) := by
  induction r with
  | nil => intro n; simp; exact .nil
  | cons h t ih => intro n; cases n with
    | zero => exact .nil
    | succ n => exact .cons h (ih n)
theorem paired_drop {us : List Value} {vs : List V} (r : Vals vs us) : ∀ n, Vals (vs.drop n) (us.drop n) := by
  induction r with
  | nil => intro n; simp; exact .nil
  | cons h t ih => intro n; cases n with
    | zero => exact .cons h t
    | succ n => exact ih n
section
variable {X : Cx} {pos : Pos}
theorem dg_star {es es0 : List Expr} {kk n i : Nat} {t : DTGs} (hc : X.calm = true) (h : DGs X O es0 t) (hlen : (assignEach es X.env).length = n := by rfl) (hst : (assignEach es X.env).findIdx? (·.1) = some i := by rfl) (hi : i < n := by decide)
    (heq : (assignEach es X.env).map (·.2) = (assignEach es0 X.env).map (·.2) := by rfl) : DG X O (.Tuple es kk pos) (gStar n i t) := by
  refine ⟨fun pins s σ H v u Q I r ⟨d, ρ, G, Qd, rd, Em, ⟨xs, hx, h1, h2, hq⟩, k⟩ => ?_⟩
  obtain ⟨a, vs, ev, ha, rs⟩ := lst_of rd Em.hp hx
  subst ev
  obtain rfl : u = Value.ref a := r
  obtain ⟨its, rv, hl, hz⟩ := I.list (.of ha)
  have e1 : its.toArray.size = xs.length := by rw [List.size_toArray, ← rv.length, rs.length]
  rw [assign_Tuple]
  refine wpAny_bind (wpAny_standAt ?_)
  unfold unpack
  rw [hlen, hst, heq]
  refine wpAny_bind (wpAny_holding (unpack_star hl.isList (I.ok.hd hc) hi (by omega) (by omega) fun h' tk kp => ?_))
  have I1 : Inv X pins σ H { s with heap := h', toks := tk } := I.kept kp
  have nD : H h'.objs.size = none := I1.hok.fresh (Nat.le_refl _)
  have hm : Vals ((vs.drop i).take (xs.length + 1 - n)) ((its.drop i).take (xs.length + 1 - n)) := paired_take (paired_drop rv i) _
  have hml : ((vs.drop i).take (xs.length + 1 - n)).length ≤ sizeLine := by
    have := rs.length
    rw [List.length_take, List.length_drop, sizeLine_eq]; omega
  have I2 : Inv X pins σ (upd H h'.objs.size (.lst ((vs.drop i).take (xs.length + 1 - n)))) { s with heap := h'.push { cls := .type "list", data := .seq (((its.drop i).take (xs.length + 1 - n))).toArray }, toks := tk } :=
    I1.laid (t' := tk) (a := h'.objs.size) (fun b u e => Heap.get?_push_of_some _ e) (Nat.le_refl _) ⟨hml, _, 0, hm, Heap.get?_push_size _ rfl⟩
  have x1 : Ext G H G (upd H h'.objs.size (.lst ((vs.drop i).take (xs.length + 1 - n)))) := Ext.new nD
  have E2 := Em.ext x1 (Em.hp.new nD)
  have rs2 := rs.ext x1
  have rr : Rs X.K G (upd H h'.objs.size (.lst ((vs.drop i).take (xs.length + 1 - n)))) (xs.take i ++ [.lst ((xs.drop i).take (xs.length + 1 - n))] ++ (xs.drop i).drop (xs.length + 1 - n)) (vs.take i ++ [.ref h'.objs.size] ++ (vs.drop i).drop (xs.length + 1 - n)) :=
    ((rs2.take i).append (.cons (.lst ⟨Em.hp.un nD, upd_same⟩ ((rs2.drop i).take _)) .nil)).append ((rs2.drop i).drop _)
  have vv : Vals (vs.take i ++ [.ref h'.objs.size] ++ (vs.drop i).drop (xs.length + 1 - n)) (its.take i ++ [.ref h'.objs.size] ++ (its.drop i).drop (xs.length + 1 - n)) :=
    ((paired_take rv i).append (.cons (show RelV (V.ref h'.objs.size) (Value.ref h'.objs.size) from rfl) .nil)).append (paired_drop (paired_drop rv i) _)
  have := h.run pins _ σ _ _ _ Q I2 vv ⟨_, ρ, G, Qd, rr, E2, hq, fun σ' H' ρ' G' E' x q => k σ' H' ρ' G' E' (x1.trans x) q⟩
  rw [e1]
  exact this
end
/-! ### zip of lists, of tuples -/
def dZipT (ta : DTA) : DTI := fun ρ G Q => ta ρ G fun ds G1 => ∃ xs ys, ds = [.tup xs, .tup ys] ∧ Q (zipD xs ys) (fun _ => True) G1
section
variable {X : Cx} {e e2 : Expr} {ta : DTA} {p pos tpos : Pos} {elts : List Expr} {kk : Nat}
theorem di_zipT (hg : Gl X "zip") (hm : X.mg "zip" = none) (ha : DA X O [e, e2] ta)
    (hs : starEach [e, e2] X.env = (false, eval e X.env) :: starEach [e2] X.env := by rfl) (hpl : (backTo pos (starEach [e2] X.env)).any (·.1) = false := by rfl) :
    DI X O (.Tuple elts kk tpos) (.Call (.Name "zip" p) [e, e2] [] pos) (dZipT ta) := imI (RZ.pi_zipA hg hm ha hs hpl) fun σ H Q ⟨ρ, G, Qd, E, h, k⟩ => upA1 E h fun vs H1 ds G1 rs E1 x1 ⟨xs, ys, e0, q⟩ => by
  subst e0
  cases rs with
  | cons r t =>
    cases t with
    | cons r2 t =>
      cases t
      cases r with
      | tup h1 rs1 =>
        cases r2 with
        | tup h2 rs2 =>
          rename_i a vs b us
          refine ⟨a, b, vs, us, rfl, .inr ⟨h1.sq, h2.sq, k _ _ _ _ _ E1.hp x1 ⟨fun H2 => SqT X.K H2 a vs ∧ SqT X.K H2 b us, YPair (fun i => vs[i]?) (fun i => us[i]?), ?_, fun G2 H2 E2 x2 _ => ⟨(h1.ext x2).sq, (h2.ext x2).sq⟩, fun i G2 H2 v H' E2 x2 _ y => ?_⟩ q⟩⟩
          · have e : (zipD xs ys).length = min vs.length us.length := by simp [zipD, rs1.length, rs2.length]
            rw [e]
            refine ⟨fun i H2 hi ⟨q1, q2⟩ => ⟨vs, us, vs[i]'(by omega), us[i]'(by omega), q1, q2, by simp [show i < vs.length by omega], by simp [show i < us.length by omega]⟩, fun H2 ⟨q1, q2⟩ => ⟨vs, us, q1, q2, by omega⟩, fun i H2 v H' hi ⟨q1, q2⟩ y => ?_⟩
            obtain ⟨T, x, y, ev, n, eH, hx, hy⟩ := y
            exact ⟨T, x, y, ev, n, eH, hx vs q1, hy us q2⟩
          · obtain ⟨T, x, y, ev, n, eH, hx, hy⟩ := y
            obtain ⟨d', hd, rd⟩ := (rs1.ext x2).getV hx
            obtain ⟨e', he, re⟩ := (rs2.ext x2).getV hy
            subst ev eH
            exact ⟨.tup [d', e'], by simp [zipD, (List.getElem?_zip_eq_some (z := (d', e'))).mpr ⟨hd, he⟩], R.newTup E2 n (.cons rd (.cons re .nil)), E2.new n, Ext.new n⟩
end
end DL
set_option Elab.async false
set_option linter.all false
set_option maxRecDepth 100000
set_option maxHeartbeats 1000000
/-! The D-layer: instances made, class constants and classmethods, attribute stores, dicts. -/
namespace DL
open PySem PySem.Spec PyProof.Rows L2
variable {O : AS × Hp}
section
variable {X : Cx} {k n : Nat} {f : Addr} {fd : FuncData} {ps ks : List Str} {sp : DSp} {Ed : DXK} {E : XK} {C m : String} {p pos apos : Pos} {c e o : Expr} {es : List Expr} {kws : List Keyword} {tc to : DTE} {t tk : DTA} {g : List Value → List Value → List Value} {gV : List V → List V → List V} {gD : List D → List D → List D} {mc : Value}
/-! ### keyword values -/
abbrev DKw (X : Cx) (O : AS × Hp) (kws : List Keyword) (t : DTA) : Prop := PK X kws (upA X.K O t)
theorem imK {t t' : TA} (h : PK X kws t) (i : ∀ σ H Q, t' σ H Q → t σ H Q) : PK X kws t' := ⟨fun pos pins s σ H Q I q => h.run pos pins s σ H Q I (i σ H Q q)⟩
theorem dk_nil : DKw X O [] dNil := imK pk_nil fun σ H Q ⟨ρ, G, Qd, E, h, k⟩ => k _ _ _ _ .nil E.hp .refl h
theorem dk_cons {nm : Option Str} {kpos : Pos} (ha : DE X O e to) (hr : DKw X O kws t) : DKw X O (⟨nm, e, kpos⟩ :: kws) (dCons to t) := imK (pk_cons ha hr) fun σ H Q ⟨ρ, G, Qd, E, h, k⟩ =>
  up1 E h fun x H1 dx G1 rx E1 x1 h1 => upA1 E1 h1 fun ys H2 dys G2 rys E2 x2 h2 => k _ _ _ _ (.cons (rx.ext x2) rys) E2.hp (x1.trans x2) h2
/-! ### a new instance -/
/-- c(e, .., k = v, ..), c a class (a name of the module, a local one) -/
def dMake (C : String) (sp : DSp) (Ed : DXK) (tc : DTE) (t tk : DTA) (n m : Nat) (gD : List D → List D → List D) : DTE := fun ρ G Q => tc ρ G fun dc G0 => dc = .cls C ∧ t ρ G0 fun ds G1 => tk ρ G1 fun zs G2 => ds.length = n ∧ zs.length = m ∧
  ∀ x, G2 x = none → sp (gD (.ref x :: ds) zs) (updG G2 x (.ins C [])) (fun d G3 => d = .non ∧ Q (.ref x) G3) Ed
theorem make_up {ρ : DSt} {σ : St} {G : AS} {H : Hp} {Qd : DK} {Q : VK} {ds zs : List D} {vs ws : List V} (xo : KX X.K O.1 O.2 Ed E) (Em : Emb X.K O ρ G σ H) (r : Rs X.K G H ds vs) (rz : Rs X.K G H zs ws) (kk : KE X.K G H Qd Q)
    (hg : ∀ (G : AS) (H : Hp) {ds zs : List D} {vs ws : List V}, Rs X.K G H ds vs → Rs X.K G H zs ws → Rs X.K G H (gD ds zs) (gV vs ws)) (h : ∀ x, G.g x = none → sp (gD (.ref x :: ds) zs) (updG G.g x (.ins C [])) (fun d G3 => d = .non ∧ Qd (.ref x) G3) Ed)
    (x dx : Addr) (n1 : H x = none) (n2 : H dx = none) (ne : dx ≠ x) : spUp X.K sp (gV (.ref x :: vs) ws) (upd (upd H dx (.own x)) x (.ins (gaS X.K C) dx [])) (fun v H2 => v = .non ∧ Q (.ref x) H2) E := by
  have nx : upd H dx (.own x) x = none := by rw [upd_ne (Ne.symm ne)]; exact n1
  have x1 : Ext G H G (upd H dx (.own x)) := Ext.new n2
  have e1 := Em.hp.new (o := .own x) n2
  have x2 : Ext G H (G.put x (.ins C [])) (upd (upd H dx (.own x)) x (.ins (gaS X.K C) dx [])) := x1.trans (Ext.newG nx)
  refine ⟨_, G.put x (.ins C []), _, Ed, hg _ _ (.cons (.ref x) (r.ext x2)) (rz.ext x2), e1.newG nx ⟨dx, [], rfl, .nil⟩, h x (Em.hp.free n1), fun v H' d G' r' E' y q => ?_, xo.ext (Em.org.trans x2)⟩
  obtain ⟨ed, q⟩ := q
  subst ed
  cases r'
  exact ⟨rfl, kk _ _ _ _ (.ref x) E' (x2.trans y) q⟩
theorem de_make (M : Mk X.K (gaS X.K C) f) (F : FnOk X.prog X.w X.K X.mg X.base (L2N.CX X.prog X.w) k f fd ps (spUp X.K sp)) (hr : Room (k + 1) X.A) (hb : KBn X.K fd ps (n + 1) ks g gV) (hg : ∀ (G : AS) (H : Hp) {ds zs : List D} {vs ws : List V}, Rs X.K G H ds vs → Rs X.K G H zs ws → Rs X.K G H (gD ds zs) (gV vs ws))
    (xo : XO X O Ed E) {x : Str} (hc : DE X O (.Name x p) tc) (ha : DA X O (e :: es) t) (hkw : DKw X O kws tk)
    (hall : (backToKw pos (keywordEach kws X.env)).all (·.1.isSome) = true := by rfl) (hks : (backToKw pos (keywordEach kws X.env)).filterMap (·.1) = ks := by rfl)
    (he : starEach (e :: es) X.env = (false, eval e X.env) :: starEach es X.env := by rfl) (hpl : ((backTo pos (starEach (e :: es) X.env)).any (·.1) || (backToKw pos (keywordEach kws X.env)).any (·.1.isNone)) = false := by rfl) :
    DE X O (.Call (.Name x p) (e :: es) kws pos) (dMake C sp Ed tc t tk n ks.length gD) := by
  refine ⟨fun pins s σ H Q I ⟨ρ, G, Qd, Em, h, kk⟩ => ?_⟩
  refine wpAny_Call_Name_kw (thn (hc.run pins s σ H (fun v H0 => v = .ref (gaS X.K C) ∧ ∃ G0, Emb X.K O ρ G0 σ H0 ∧ Ext G H G0 H0 ∧ t ρ G0.g fun ds G1 => tk ρ G1 fun zs G2 => ds.length = n ∧ zs.length = ks.length ∧
    ∀ x, G2 x = none → sp (gD (.ref x :: ds) zs) (updG G2 x (.ins C [])) (fun d G3 => d = .non ∧ Qd (.ref x) G3) Ed) I
    (up1 Em h fun v H0 d G0 r E0 x0 ⟨ed, q⟩ => by subst ed; cases r; exact ⟨rfl, G0, E0, x0, q⟩)) fun u s0 ⟨v, H0, I0, ru, ev, G0, E0, x0, q⟩ => ?_)
  subst ev
  obtain rfl : u = Value.ref (gaS X.K C) := ru
  refine PySem.W.callWith_KW (h₀ := X.base) I0.ok.mod.kin M.kp hall (thn (ha.run pos pins s0 σ H0 (fun vs H1 => ∃ G1 ds, Rs X.K G1 H1 ds vs ∧ Emb X.K O ρ G1 σ H1 ∧ Ext G H G1 H1 ∧ tk ρ G1.g fun zs G2 => ds.length = n ∧ zs.length = ks.length ∧
    ∀ x, G2 x = none → sp (gD (.ref x :: ds) zs) (updG G2 x (.ins C [])) (fun d G3 => d = .non ∧ Qd (.ref x) G3) Ed) I0 (upA1 E0 q fun vs H1 ds G1 r E1 x1 q => ⟨G1, ds, r, E1, x0.trans x1, q⟩)) fun us s1 ⟨vs, H1, I1, r, G1, ds, rd, E1, x1, q⟩ => ?_) hpl he
  refine thn (hkw.run pos pins s1 σ H1 (fun ws H2 => ∃ G2 zs, Rs X.K G2 H2 ds vs ∧ Rs X.K G2 H2 zs ws ∧ Emb X.K O ρ G2 σ H2 ∧ Ext G H G2 H2 ∧ ds.length = n ∧ zs.length = ks.length ∧
    ∀ x, G2.g x = none → sp (gD (.ref x :: ds) zs) (updG G2.g x (.ins C [])) (fun d G3 => d = .non ∧ Qd (.ref x) G3) Ed) I1 (upA1 E1 q fun ws H2 zs G2 rz E2 x2 q => ⟨G2, zs, rd.ext x2, rz, E2, x1.trans x2, q⟩)) fun wv s2 ⟨ws, H2, I2, rw', G2, zs, rd2, rz, E2, x2, l1, l2, q⟩ => ⟨I2.kIn, ?_⟩
  rw [hks]
  exact run_makeK (n := n) (gV := gV) M F hr hb xo.pass I2 r rw' (by rw [← rd2.length]; exact l1) (by rw [← rz.length]; exact l2) fun x dx n1 n2 ne => make_up xo.kx E2 rd2 rz (kk.ext x2) hg q x dx n1 n2 ne
/-- c(k = v, ..) -/
theorem de_make0 (M : Mk X.K (gaS X.K C) f) (F : FnOk X.prog X.w X.K X.mg X.base (L2N.CX X.prog X.w) k f fd ps (spUp X.K sp)) (hr : Room (k + 1) X.A) (hb : KBn X.K fd ps 1 ks g gV) (hg : ∀ (G : AS) (H : Hp) {ds zs : List D} {vs ws : List V}, Rs X.K G H ds vs → Rs X.K G H zs ws → Rs X.K G H (gD ds zs) (gV vs ws))
    (xo : XO X O Ed E) {x : Str} (hc : DE X O (.Name x p) tc) (hkw : DKw X O kws tk)
    (hall : (backToKw pos (keywordEach kws X.env)).all (·.1.isSome) = true := by rfl) (hks : (backToKw pos (keywordEach kws X.env)).filterMap (·.1) = ks := by rfl)
    (hpl : ((backTo pos (starEach [] X.env)).any (·.1) || (backToKw pos (keywordEach kws X.env)).any (·.1.isNone)) = false := by rfl) :
    DE X O (.Call (.Name x p) [] kws pos) (dMake C sp Ed tc dNil tk 0 ks.length gD) := by
  refine ⟨fun pins s σ H Q I ⟨ρ, G, Qd, Em, h, kk⟩ => ?_⟩
  refine wpAny_Call_Name_kw (thn (hc.run pins s σ H (fun v H0 => v = .ref (gaS X.K C) ∧ ∃ G0, Emb X.K O ρ G0 σ H0 ∧ Ext G H G0 H0 ∧ tk ρ G0.g fun zs G2 => zs.length = ks.length ∧
    ∀ x, G2 x = none → sp (gD [.ref x] zs) (updG G2 x (.ins C [])) (fun d G3 => d = .non ∧ Qd (.ref x) G3) Ed) I
    (up1 Em h fun v H0 d G0 r E0 x0 ⟨ed, q⟩ => by
      subst ed
      cases r
      have q : tk ρ G0.g fun zs G2 => ([] : List D).length = 0 ∧ zs.length = ks.length ∧ ∀ x, G2 x = none → sp (gD [.ref x] zs) (updG G2 x (.ins C [])) (fun d G3 => d = .non ∧ Qd (.ref x) G3) Ed := q
      refine ⟨rfl, G0, E0, x0, ?_⟩
      simpa using q)) fun u s0 ⟨v, H0, I0, ru, ev, G0, E0, x0, q⟩ => ?_)
  subst ev
  obtain rfl : u = Value.ref (gaS X.K C) := ru
  refine PySem.W.callWith_KW0 (h₀ := X.base) I0.ok.mod.kin M.kp hall (thn (hkw.run pos pins s0 σ H0 (fun ws H2 => ∃ G2 zs, Rs X.K G2 H2 zs ws ∧ Emb X.K O ρ G2 σ H2 ∧ Ext G H G2 H2 ∧ zs.length = ks.length ∧
    ∀ x, G2.g x = none → sp (gD [.ref x] zs) (updG G2.g x (.ins C [])) (fun d G3 => d = .non ∧ Qd (.ref x) G3) Ed) I0 (upA1 E0 q fun ws H2 zs G2 rz E2 x2 q => ⟨G2, zs, rz, E2, x0.trans x2, q⟩)) fun wv s2 ⟨ws, H2, I2, rw', G2, zs, rz, E2, x2, l2, q⟩ => ⟨I2.kIn, ?_⟩) hpl
  rw [hks]
  exact run_makeK (n := 0) (gV := gV) M F hr hb xo.pass I2 .nil rw' rfl (by rw [← rz.length]; exact l2) fun x dx n1 n2 ne => make_up xo.kx E2 .nil rz (kk.ext x2) hg q x dx n1 n2 ne
/-! ### self.f = e -/
def dStore (C f : String) (to te : DTE) : DTS := fun D ρ G => te ρ G fun y G1 => to ρ G1 fun o G2 => ∃ x fs, o = .ref x ∧ G2 x = some (.ins C fs) ∧ fs.length < 1000 ∧ D.nx ρ (updG G2 x (.ins C (putD f y fs)))
theorem ds_store {f : String} {te : DTE} {pos' : Pos} (cl : Cls X.K (gaS X.K C)) (no : NoAttr X.K (gaS X.K C) (Str.ofString f)) (ho : DE X O o to) (he : DE X O e te) (hs : swapsWith e (some (.Attribute o (Str.ofString f) pos')) pos.line X.env = pure false := by rfl) :
    DS X O (.Assign [.Attribute o (Str.ofString f) pos'] e pos) (dStore C f to te) := imS (ps_fld ho he hs) fun D' σ H ⟨ρ, G, DD, Em, h, k⟩ =>
  up1 Em h fun y H1 dy G1 ry E1 x1 h1 => up1 E1 h1 fun ov H2 dov G2 ro E2 x2 ⟨x, fs, eo, hx, hl, q⟩ => by
    subst eo
    cases ro
    obtain ⟨ho, ha, dx, vs, eh, rf⟩ := E2.hp.tr x _ hx
    subst eh
    have hne : G2.g x ≠ none := by rw [hx]; simp
    have x3 : Ext G2 H2 (G2.put x (.ins C (putD f dy fs))) (upd H2 x (.ins (gaS X.K C) dx (putF (Str.ofString f) y vs))) := Ext.put hne
    exact ⟨x, _, dx, vs, rfl, ha, cl, no, by rw [← rf.length]; exact hl, k.nx _ _ ρ _ (E2.ext x3 (E2.hp.put hne ⟨dx, _, rfl, Rf.put (ry.ext x2) rf⟩)) ((x1.trans x2).trans x3) q⟩
/-! ### class constants, classmethods -/
theorem de_cval {f : Str} {v : V} {u : Value} {d : D} (he : DE X O e (dC (.cls C))) (r : ClX.CRead X.K (gaS X.K C) mc) (kv : ClX.CVal X.K (gaS X.K C) mc f v u) (hd : ∀ G H, R X.K G H d v) (hb : attributeBase e f X.env (eval e X.env) = eval e X.env := by rfl) :
    DE X O (.Attribute e f pos) (dC d) := imE (ClX.pe_cval he hb) fun σ H Q ⟨ρ, G, Qd, Em, h, kk⟩ => up1 (ta := dC (.cls C)) (Qd := fun dd G1 => dd = .cls C ∧ Qd d G1) Em ⟨rfl, h⟩ fun w H1 d1 G1 rd E1 x1 ⟨e1, q⟩ => by
  subst e1
  cases rd
  exact ⟨_, mc, v, u, rfl, r, kv, kk _ _ _ _ (hd _ _) E1.hp x1 q⟩
def dCMeth (C : String) (sp : DSp) (Ed : DXK) (to : DTE) (t : DTA) : DTE := fun ρ G Q => to ρ G fun d G1 => d = .cls C ∧ t ρ G1 fun ds G2 => sp (.cls C :: ds) G2 Q Ed
theorem de_cmeth {pa ga : Addr} {pl : Sem Bool} {m : Str} (r : ClX.CRead X.K (gaS X.K C) mc) (cm : ClX.CMet X.K (gaS X.K C) mc m pa ga) (F : FnOk X.prog X.w X.K X.mg X.base (L2N.CX X.prog X.w) k ga fd ps (spUp X.K sp)) (hb : Binds X.K fd ps []) (hr : Room k X.A) (xo : XO X O Ed E) (ho : DE X O o to) (ha : DA X O (e :: es) t)
    (hst : starEach (e :: es) X.env = (false, eval e X.env) :: starEach es X.env := by rfl) (hpl : (backTo pos (starEach es X.env)).any (·.1) = false := by rfl)
    (ht : eval (.Call (.Attribute o m apos) (e :: es) [] pos) X.env = (do
      let ov ← eval o X.env
      standAt apos.atName
      let (f, first) ← holding [ov] (getMethod ov m pl)
      callWith pos f first (backTo pos (starEach (e :: es) X.env)) (backToKw pos (keywordEach [] X.env))) := by rfl) :
    DE X O (.Call (.Attribute o m apos) (e :: es) [] pos) (dCMeth C sp Ed to t) := by
  have F2 : FnR X.prog X.w X.K X.mg X.base (L2N.CX X.prog X.w) k ga (spUp X.K sp) := (F.raw hb .nil).imp fun vs H Q E h => by rw [List.append_nil]; exact h
  exact imE (ClX.pe_cmeth ho r cm F2 hr xo.pass ha hst hpl ht) fun σ H Q ⟨ρ, G, Qd, Em, h, kk⟩ => up1 Em h fun v H1 d G1 rd E1 x1 ⟨ed, q⟩ => by
    subst ed
    cases rd
    exact ⟨rfl, upA1 E1 q fun vs H2 ds G2 rs E2 x2 h2 => sp_up xo.kx E2 (.cons (.cls C) rs) h2 (kk.ext (x1.trans x2))⟩
/-- C.m(k = v, ..) -/
theorem de_cmethK {pa ga : Addr} {pl : Sem Bool} {m : Str} (r : ClX.CRead X.K (gaS X.K C) mc) (cm : ClX.CMet X.K (gaS X.K C) mc m pa ga) (F : FnOk X.prog X.w X.K X.mg X.base (L2N.CX X.prog X.w) k ga fd ps (spUp X.K sp)) (hb : KBn X.K fd ps 1 ks (fun us ws => us ++ ws) (fun vs ws => vs ++ ws)) (hr : Room k X.A) (xo : XO X O Ed E) (ho : DE X O o to) (hkw : DKw X O kws t)
    (hlen : ps.length = 1 + ks.length) (hall : (backToKw pos (keywordEach kws X.env)).all (·.1.isSome) = true := by rfl) (hks : (backToKw pos (keywordEach kws X.env)).filterMap (·.1) = ks := by rfl)
    (hpl : ((backTo pos (starEach [] X.env)).any (·.1) || (backToKw pos (keywordEach kws X.env)).any (·.1.isNone)) = false := by rfl)
    (ht : eval (.Call (.Attribute o m apos) [] kws pos) X.env = (do
      let ov ← eval o X.env
      standAt apos.atName
      let (f, first) ← holding [ov] (getMethod ov m pl)
      callWith pos f first (backTo pos (starEach [] X.env)) (backToKw pos (keywordEach kws X.env))) := by rfl) :
    DE X O (.Call (.Attribute o m apos) [] kws pos) (dCMeth C sp Ed to t) := by
  refine ⟨fun pins s σ H Q I ⟨ρ, G, Qd, Em, h, kk⟩ => ?_⟩
  refine PySem.W.methodCall_KW (pl := pl) (thn (ho.run pins s σ H (fun v H0 => v = .ref (gaS X.K C) ∧ ∃ G0, Emb X.K O ρ G0 σ H0 ∧ Ext G H G0 H0 ∧ t ρ G0.g fun ds G2 => sp (.cls C :: ds) G2 Qd Ed) I
    (up1 Em h fun v H0 d G0 r E0 x0 ⟨ed, q⟩ => by subst ed; cases r; exact ⟨rfl, G0, E0, x0, q⟩)) fun u s1 ⟨v, H1, I1, ru, ev, G1, E1, x1, q⟩ => ?_) ht
  subst ev
  obtain rfl : u = Value.ref (gaS X.K C) := ru
  refine ClX.getmethcm_ok I1 r cm fun s2 I2 => ?_
  refine PySem.W.callWith_of hpl (PySem.W.keeps_M (K := X.K) cm.fi) (PyProof.Rows.evalArgs_kw2_nil hall (thn (hkw.run pos _ s2 σ H1 (fun ws H2 => spUp X.K sp (.ref (gaS X.K C) :: ws) H2 Q E ∧ ws.length = ks.length) I2 ?_) fun wv s3 ⟨ws, H3, I3, rw', hsp, hl⟩ => ⟨⟨ClX.pin_at I3, I3.kIn⟩, ?_⟩))
  · exact upA1 E1 q fun ws H2 zs G2 rz E2 x2 q => by
      have hsp : spUp X.K sp (.ref (gaS X.K C) :: ws) H2 Q E := sp_up xo.kx E2 (.cons (.cls C) rz) q (kk.ext (x1.trans x2))
      have l := F.len _ _ _ _ hsp
      rw [List.length_cons] at l
      exact ⟨hsp, by omega⟩
  · rw [hks]
    refine wpAny_mono (Q := EP X ((s1.heap.objs.size, PySem.W.methodObj (.ref ga) (.ref (gaS X.K C))) :: pins) σ Q) (wpAny_call (PySem.W.method_call (ClX.pin_at I3) (codeAny_mono (F.run X.A X.stack s3 H3 ⟨.ref (gaS X.K C) :: [], ks.zip wv⟩ (.ref (gaS X.K C) :: wv) (.ref (gaS X.K C) :: ws) Q E hr I3.env0 (hb.to s3 [.ref (gaS X.K C)] wv I3.kIn rfl (by rw [← rw'.length]; exact hl)) (.cons rfl rw') hsp) fun r s' hq => ?_))) (fun _ _ y => ClX.unpinE y) fun _ _ y => y
    cases r with
    | error e => exact xo.pass _ σ H3 s3 e s' I3 hq
    | ok fl =>
      cases fl with
      | ret u => exact I3.after hq
      | next => exact False.elim hq
      | brk => exact False.elim hq
      | cont => exact False.elim hq
end
end DL
set_option Elab.async false
set_option linter.all false
set_option maxRecDepth 100000
set_option maxHeartbeats 1000000
/-! The D-layer: tuple.index, dicts read and displayed, isinstance of own classes. -/
namespace DL
open PySem PySem.Spec PyProof.Rows L2
variable {O : AS × Hp}
section
variable {X : Cx}
/-! ### t.index(x), t a tuple of texts of the written part -/
theorem Rs.strsT {K : PySem.W.Frag} {G : AS} {H : Hp} : ∀ {ys : List (List Nat)} {vs : List V}, Rs K G H (ys.map D.str) vs → vs = (ys.map fun y => (⟨y.toArray⟩ : Str)).map V.str
  | [], _, .nil => rfl
  | y :: ys, _, .cons h t => by cases h; rw [Rs.strsT t]; rfl
/-- the value is a tuple of the written part -/
def dTIdx (to : DTE) (te : DTE) : DTE := fun ρ G Q => to ρ G fun d G1 => te ρ G1 fun z G2 => ∃ (ys : List (List Nat)) (x : List Nat) (j : Nat), d = .tup (ys.map .str) ∧ z = .str x ∧ ys[j]? = some x ∧ (∀ m, m < j → ys[m]? ≠ some x) ∧ Q (.int (j : Nat)) G2
theorem de_tidx {e : Expr} {te : DTE} {apos cpos : Pos} {xs : List D} {x : Str} {p : Pos} {a : Addr} (hg : Gl X x) (hm : X.mg x = some (.ref a)) (hr : ∀ G H, R X.K G H (.tup xs) (.ref a)) (hK : ∃ o, X.K.lookup a = some o ∧ o.cls = .type "tuple" ∧ o.dict = none) (he : DE X O e te)
    (hd : (x == ("__debug__" : Str)) = false := by decide)
    (hbase : attributeBase (.Name x p) "index" X.env (eval (.Name x p) X.env) = eval (.Name x p) X.env := by rfl)
    (hfew : ((backTo cpos (starEach (e :: []) X.env)).all (fun x => !x.1) && (backToKw cpos (keywordEach [] X.env)).all (fun x => x.1.isSome)
      && decide ((e :: []).length + ([] : List Keyword).length + (if ([] : List Keyword).isEmpty then 0 else 1) < 30)) = true := by rfl)
    (hline : (apos.endLine == cpos.line) = true := by rfl) (hs : starEach (e :: []) X.env = (false, eval e X.env) :: starEach [] X.env := by rfl) (hplain : (backTo cpos (starEach [] X.env)).any (·.1) = false := by rfl) :
    DE X O (.Call (.Attribute (.Name x p) "index" apos) [e] [] cpos) (dTIdx (dC (.tup xs)) te) :=
  imE (pe_bm PySem.F.plainAttrs_tuple PySem.F.slot_tuple_index PySem.F.type_tuple_index mt_tup_index (pe_glob (v := .ref a) hg hm rfl hd) (pa_cons he pa_nil hs) hbase hfew hline hs hplain) fun σ H Q ⟨ρ, G, Qd, Em, h, k⟩ => by
    refine ⟨.inr (.inl ⟨rfl, hK⟩), up1 Em h fun v H1 z G1 rz E1 x1 ⟨ys, y, j, ed, ez, h1, h2, q⟩ => ?_⟩
    subst ez
    cases rz
    have r := hr G1 H1
    injection ed with ed
    subst ed
    cases r with
    | tup hq rs =>
      have ev := rs.strsT
      subst ev
      refine ⟨a, ys.map fun y => (⟨y.toArray⟩ : Str), ⟨y.toArray⟩, j, rfl, rfl, hq.sq, by rw [List.getElem?_map, h1]; rfl, fun m hm e => ?_, k _ _ _ _ (.int _) E1.hp x1 q⟩
      rw [List.getElem?_map] at e
      cases em : ys[m]? with
      | none => rw [em] at e; cases e
      | some y' =>
        rw [em] at e
        have e2 : (⟨y'.toArray⟩ : Str) = ⟨y.toArray⟩ := Option.some.inj e
        have e3 : y' = y := by
          have := congrArg (fun s : Str => s.cps.toList) e2
          simpa using this
        subst e3
        exact h2 m hm em
/-! ### d[k] -/
def dDGet (td tk : DTE) : DTE := fun ρ G Q => td ρ G fun d G1 => tk ρ G1 fun y G2 => ∃ kvs v, dicD d G2 = some kvs ∧ (keyOf y).isSome ∧ getK y kvs = some v ∧ Q v G2
theorem de_dget {o i : Expr} {td tk : DTE} {pos : Pos} (hu : X.A.units + 1 < cLine) (ho : DE X O o td) (hi : DE X O i tk) (hs : NoSl i) : DE X O (.Subscript o i pos) (dDGet td tk) :=
  imE (pe_dget hu ho hi hs) fun σ H Q ⟨ρ, G, Qd, Em, h, k⟩ => up1 Em h fun v H1 d G1 rd E1 x1 h1 => up1 E1 h1 fun w H2 y G2 ry E2 x2 ⟨kvs, u, hd, hk, hg, q⟩ => by
    obtain ⟨a, ws, ev, ha, rk⟩ := dic_of (rd.ext x2) E2.hp hd
    subst ev
    cases ek : keyOf y with
    | none => rw [ek] at hk; cases hk
    | some key =>
      have g := rk.get ek
      rw [hg] at g
      obtain ⟨vv, gv, rv⟩ := g
      have ey := keyD_of ek
      have ew : w = kV key := by
        subst ey
        cases key with
        | inl j => cases ry; rfl
        | inr z => cases ry; rfl
      subst ew
      exact ⟨a, vv, rfl, by rw [← gv]; exact .k ha, k _ _ _ _ rv E2.hp (x1.trans x2) q⟩
/-! ### {k: v, ..}, never changed -/
def dPairs : List (DTE × DTE) → DSt → GH → (List (D × D) → GH → Prop) → Prop
  | [], _, G, Q => Q [] G
  | (tk, tv) :: r, ρ, G, Q => tk ρ G fun x G1 => tv ρ G1 fun y G2 => dPairs r ρ G2 fun ps G3 => Q ((x, y) :: ps) G3
def dDisp (ts : List (DTE × DTE)) : DTE := fun ρ G Q => dPairs ts ρ G fun ps G1 => (ps.all fun p => (keyOf p.1).isSome) = true ∧ (ps.map (·.1)).Nodup ∧ ps.length ≤ 15 ∧ Q (.dic ps) G1
inductive RP (K : PySem.W.Frag) (G : AS) (H : Hp) : List (D × D) → List (V × V) → Prop
  | nil : RP K G H [] []
  | cons {x y : D} {u v : V} {ds : List (D × D)} {vs : List (V × V)} (h1 : R K G H x u) (h2 : R K G H y v) (t : RP K G H ds vs) : RP K G H ((x, y) :: ds) ((u, v) :: vs)
theorem RP.ext {K : PySem.W.Frag} {G G1 : AS} {H H1 : Hp} (e : Ext G H G1 H1) {ds : List (D × D)} {vs : List (V × V)} (r : RP K G H ds vs) : RP K G1 H1 ds vs := by
  induction r with
  | nil => exact .nil
  | cons h1 h2 t ih => exact .cons (h1.ext e) (h2.ext e) ih
def upP (K : PySem.W.Frag) (O : AS × Hp) (ts : List (DTE × DTE)) : List (TE × TE) := ts.map fun p => (upE K O p.1, upE K O p.2)
theorem pairs_up {K : PySem.W.Frag} : ∀ {ts : List (DTE × DTE)} {ρ : DSt} {σ : St} {G : AS} {H : Hp} {Qd : List (D × D) → GH → Prop} {Q : List (V × V) → Hp → Prop}, Emb K O ρ G σ H → dPairs ts ρ G.g Qd →
    (∀ vs H' ds G', RP K G' H' ds vs → Emb K O ρ G' σ H' → Ext G H G' H' → Qd ds (AS.g G') → Q vs H') → tPairs (upP K O ts) σ H Q
  | [], _, _, _, _, _, _, E, h, k => k _ _ _ _ .nil E .refl h
  | (tk, tv) :: r, _, _, _, _, _, _, E, h, k => up1 E h fun x H1 dx G1 rx E1 x1 h1 => up1 E1 h1 fun y H2 dy G2 ry E2 x2 h2 => pairs_up E2 h2 fun vs H3 ds G3 rs E3 x3 h3 => k _ _ _ _ (.cons (rx.ext (x2.trans x3)) (ry.ext x3) rs) E3 ((x1.trans x2).trans x3) h3
theorem merge_id : ∀ {kvs acc : List (Key × V)}, ((acc ++ kvs).map (·.1)).Nodup → mergeK acc kvs = acc ++ kvs
  | [], acc, _ => by simp [mergeK]
  | (k, v) :: r, acc, h => by
    have hn : (acc.any fun kv => decide (kv.1 = k)) = false := by
      rw [List.any_eq_false]
      intro p hp
      rw [List.map_append, List.map_cons] at h
      have h2 := (List.nodup_append.mp h).2.2
      have : p.1 ≠ k := h2 p.1 (List.mem_map_of_mem hp) k List.mem_cons_self
      simpa using this
    have e : putK acc k v = acc ++ [(k, v)] := by unfold putK; rw [if_neg (by rw [hn]; simp)]
    show mergeK (putK acc k v) r = _
    rw [e, merge_id (by simpa using h)]
    simp
theorem rp_keys {K : PySem.W.Frag} {G : AS} {H : Hp} {ds : List (D × D)} {vs : List (V × V)} (r : RP K G H ds vs) (h : (ds.all fun p => (keyOf p.1).isSome) = true) : ∃ kvs : List (Key × V), vs = kvs.map (fun kv => (kV kv.1, kv.2)) ∧ Rk K G H ds kvs ∧ kvs.map (fun p => keyD p.1) = ds.map (·.1) := by
  induction r with
  | nil => exact ⟨[], rfl, .nil, rfl⟩
  | @cons x y u v ds vs h1 h2 t ih =>
    rw [List.all_cons, Bool.and_eq_true] at h
    obtain ⟨kvs, e1, e2, e3⟩ := ih h.2
    cases ek : keyOf x with
    | none => rw [ek] at h; exact absurd h.1 (by simp)
    | some key =>
      have ex := keyD_of ek
      subst ex
      refine ⟨(key, v) :: kvs, ?_, .cons key h2 e2, by simp [e3]⟩
      subst e1
      cases key with
      | inl j => cases h1; rfl
      | inr z => cases h1; rfl
theorem Rk.extu' {K : PySem.W.Frag} {G G1 : AS} {H H1 : Hp} (e : Exu G H G1 H1) {d : List (D × D)} {v : List (Key × V)} (r : Rk K G H d v) : Rk K G1 H1 d v := Rk.extu e r
theorem de_disp {keys : List (Option Expr)} {values : List Expr} {ts : List (DTE × DTE)} {pos : Pos} (h : PPs X pos keys values (upP X.K O ts)) (hall : keys.all (·.isSome) = true) (hl : keys.length = values.length) (h0 : keys ≠ []) (h15 : keys.length ≤ 15) : DE X O (.Dict keys values pos) (dDisp ts) :=
  imE (pe_disp h hall hl h0 h15) fun σ H Q ⟨ρ, G, Qd, Em, h, k⟩ => fun p hn => by
    refine pairs_up (Em.ext (Ext.hide hn) (Em.hp.hide hn)) h fun vs H2 ds G2 rp E2 x2 ⟨hk, hnd, h15, q⟩ => ?_
    obtain ⟨kvs, e1, rk, e3⟩ := rp_keys rp hk
    have hp2 := x2 p _ upd_same (Em.hp.free hn)
    have gp : G2.p p := hp2.2.2.mpr (.inl rfl)
    have hkn : (kvs.map (·.1)).Nodup := by
      rw [← e3] at hnd
      have : (kvs.map (·.1)).map keyD = kvs.map (fun p => keyD p.1) := by simp
      rw [← this] at hnd
      exact List.Pairwise.of_map keyD (fun a b h e => h (congrArg keyD e)) hnd
    have hlen : kvs.length ≤ 15 := by
      have := congrArg List.length e3
      simp at this
      omega
    refine ⟨hp2.1, kvs, e1, hlen, ?_⟩
    rw [merge_id (acc := []) (by simpa using hkn), List.nil_append]
    have Eh := E2.hp.hid_put (o := .dK kvs) gp
    refine k _ _ _ (G2.show p) (.dic ⟨(Eh.hid p gp).1, fun z => z.1 rfl⟩ upd_same ((rk.extu (Exu.hid gp)).extu Exu.show)) Eh.show (fun b o e g => ?_) q
    have nb := ne_of_none e hn
    obtain ⟨k1, k2, k3⟩ := x2 b o (by rw [upd_ne nb]; exact e) g
    exact ⟨by rw [upd_ne nb]; exact k1, k2, ⟨fun z => (k3.mp z.2).elim (fun z => absurd z nb) id, fun z => ⟨nb, k3.mpr (.inr z)⟩⟩⟩
/-! ### isinstance(x, C), C an own class -/
def rIsiC (C : String) (tabT tabC : List (String × Bool)) : DRC := fun ds G Q => ∃ d, ds = [d, .cls C] ∧ ((∃ n b, tyN d G = some n ∧ (n, b) ∈ tabT ∧ Q (.bl b) G) ∨ ∃ C' fs b, insD d G = some (C', fs) ∧ (C', b) ∈ tabC ∧ Q (.bl b) G)
theorem d_isiC {C : String} {tabT tabC : List (String × Bool)} (hT : ∀ p ∈ tabT, PySem.W.kitOne X.K (.type p.1) (.ref (gaS X.K C)) = some p.2) (hC : ∀ p ∈ tabC, PySem.W.kitOne X.K (.ref (gaS X.K p.1)) (.ref (gaS X.K C)) = some p.2) (hcls : ClsV (.ref (gaS X.K C)) (.ref (gaS X.K C)))
    (hins : ∀ {H : Hp} {a dx : Addr} {C' : String} {b : Bool} {fs : List (Str × V)}, (C', b) ∈ tabC → H a = some (.ins (gaS X.K C') dx fs) → TyX X.K H (.ref a) (.ref (gaS X.K C'))) : CallR X (.builtin "isinstance") (upC X.K (rIsiC C tabT tabC)) := by
  intro pins s σ H xs us Q I rv ⟨ds, G, Qd, rs, hp, ⟨d, ed, h⟩, k⟩
  subst ed
  cases rs with
  | cons r r2 =>
    cases r2 with
    | cons r2 r3 =>
      cases r3
      cases r2
      rcases h with ⟨n, b, h1, h2, q⟩ | ⟨C', fs, b, h1, h2, q⟩
      · exact call_isi pins s σ H _ us Q I rv ⟨_, _, _, _, b, rfl, hcls, tyN_of r hp h1, hT _ h2, k _ _ _ _ (.bl _) hp .refl q⟩
      · obtain ⟨a, dx, vs, ev, ha, _⟩ := ins_of r hp h1
        subst ev
        exact call_isi pins s σ H _ us Q I rv ⟨_, _, _, _, b, rfl, hcls, hins h2 ha, hC _ h2, k _ _ _ _ (.bl _) hp .refl q⟩
/-- what K must hold for isinstance(x, C) -/
structure IsiK (K : PySem.W.Frag) (C : String) (tabT tabC : List (String × Bool)) : Prop where
  hT : ∀ p ∈ tabT, PySem.W.kitOne K (.type p.1) (.ref (gaS K C)) = some p.2
  hC : ∀ p ∈ tabC, PySem.W.kitOne K (.ref (gaS K p.1)) (.ref (gaS K C)) = some p.2
  ins : ∀ p ∈ tabC, Cls K (gaS K p.1) ∧ PySem.W.findIn K (.ref (gaS K p.1)) "__class__" = some (some (.builtin "object.__class__")) ∧ PySem.W.mroIn K (gaS K p.1) (.type "object") = some true
  hn : PySem.W.specialIn K (.builtin "object.__class__") "__get__" = some (some (.builtin "getset_descriptor.__get__"))
  htk : PySem.W.takesIn K (.builtin "object.__class__") = some true
theorem d_isiK {C : String} {tabT tabC : List (String × Bool)} (I : IsiK X.K C tabT tabC) : CallR X (.builtin "isinstance") (upC X.K (rIsiC C tabT tabC)) :=
  d_isiC I.hT I.hC (.own _) fun h e => let ⟨a, b, c⟩ := I.ins _ h
    .base (.ins e a b I.hn I.htk c)
end
end DL
set_option Elab.async false
set_option linter.all false
set_option maxRecDepth 100000
set_option maxHeartbeats 1000000
/-! The D-layer: == and != by an own __eq__. -/
namespace DL
open PySem PySem.Spec PyProof.Rows L2
variable {O : AS × Hp}
structure OwnNe (K : PySem.W.Frag) (C f : Addr) : Prop where
  cls : ∃ (nm q : Str) (N : Addr) (bs : List Value) (hdct : Bool) (sn : List Str) (sub : List Value) (ab : Bool) (col : Option Bool) (dd : Option Addr) (k0 k1 k2 k3 k5 : Option Value) (newId : String) (es : Array DictEntry) (n : Nat) (oc : Value) (od : Option Addr) (sl : Array (Option Value)),
    K.lookup C = some (excClassObj nm q C N bs [.type "object"] hdct sn sub ab col dd k0 k1 k2 k3 k5 newId) ∧ K.lookup N = some ⟨oc, od, .dict es n, sl⟩ ∧ StrKeys es ∧ nsFind es "__eq__" = some (.ref f) ∧ nsFind es "__ne__" = none
  fn : PySem.W.typeIn K (.ref f) = some (.type "function")
  eq : PySem.W.findIn K (.ref C) "__eq__" = some (some (.ref f))
def rOwnD (C : String) (sp : DSp) (neg : Bool) : DR2 := fun x y G Q => (∃ fs, insD x G = some (C, fs)) ∧ (∃ fs, insD y G = some (C, fs)) ∧ sp [x, y] G (fun d G' => ∃ b, d = .bl b ∧ Q (.bl (b != neg)) G') Ed0
section
variable {X : Cx} {k : Nat} {f : Addr} {fd : FuncData} {ps : List Str} {sp : DSp} {C : String}
theorem own_run {pins : List (Addr × Obj)} {σ : St} {H : Hp} {s : Shared} {a b : Addr} {Q : VK} {G : AS} {Qd : DK} {x y : D} {A : Around} (F : FnOk X.prog X.w X.K X.mg X.base (L2N.CX X.prog X.w) k f fd ps (spUp X.K sp)) (hb : Binds X.K fd ps []) (hr : Room k A) (hA : A.frames = X.A.frames) (I : Inv X pins σ H s)
    (r1 : R X.K G H x (.ref a)) (r2 : R X.K G H y (.ref b)) (Em : EmbH X.K G H) {P : Bool → D} {PV : Bool → V} (hP : ∀ t G H, R X.K G H (P t) (PV t)) (h : sp [x, y] G.g (fun d G' => ∃ t, d = .bl t ∧ Qd (P t) G') Ed0) (kk : KE X.K G H Qd Q) :
    wpAny (model X.prog X.w) A (call (.ref f) [.ref a, .ref b]) (fun v s' => ∃ t, v = .bool t ∧ ∃ H', Inv X pins σ H' s' ∧ Q (PV t) H') X.xe s := by
  have hsp : spUp X.K sp [.ref a, .ref b] H (fun v H' => ∃ t, v = .bl t ∧ Q (PV t) H') E0 := by
    refine ⟨[x, y], G, _, Ed0, .cons r1 (.cons r2 .nil), Em, h, fun v H' d G' r E' e ⟨t, ed, q⟩ => ?_, fun _ _ _ _ _ _ _ _ z => z.elim⟩
    subst ed
    cases r
    exact ⟨t, rfl, kk _ _ _ _ (hP t G' H') E' e q⟩
  have e0 : Env0 X.prog X.w X.K X.mg X.base A X.stack s H := by
    have e := I.env0
    exact ⟨by rw [hA]; exact e.frames, e.mod, e.bs, e.bsz, e.funs, e.frf, e.hok, e.bare⟩
  have hl := F.len _ _ _ _ hsp
  have r3 : Vals [V.ref a, V.ref b] [Value.ref a, Value.ref b] := .cons rfl (.cons rfl .nil)
  refine wpAny_call (codeAny_mono (F.run A X.stack s H ⟨[.ref a, .ref b], []⟩ [.ref a, .ref b] [.ref a, .ref b] _ E0 hr e0 (by
    have := hb s [.ref a, .ref b] I.kIn (by simpa using hl)
    simpa using this) r3 hsp) fun r s' hq => ?_)
  cases r with
  | error e => exact passes0 pins σ H s e s' I hq
  | ok fl =>
    cases fl with
    | ret w =>
      obtain ⟨z, H', I', rz, t, ez, q⟩ := I.after hq
      subst ez
      obtain rfl : w = Value.bool t := rz
      exact ⟨t, rfl, H', I', q⟩
    | next => exact False.elim hq
    | brk => exact False.elim hq
    | cont => exact False.elim hq
theorem d_ownne (N : OwnNe X.K (gaS X.K C) f) (F : FnOk X.prog X.w X.K X.mg X.base (L2N.CX X.prog X.w) k f fd ps (spUp X.K sp)) (hb : Binds X.K fd ps []) (hr : Room (k + 1) X.A) : OpR X (compareOp .NotEq) (upO X.K (rOwnD C sp true)) := by
  intro pins s σ H x y v u Q I rx ry ⟨dx, dy, G, Qd, r1, r2, hp, ⟨⟨f1, h1⟩, ⟨f2, h2⟩, h⟩, kk⟩
  obtain ⟨a, da, va, ex, ha, _⟩ := ins_of r1 hp h1
  obtain ⟨b, db, vb, ey, hb', _⟩ := ins_of r2 hp h2
  subst ex ey
  obtain rfl : v = Value.ref a := rx
  obtain rfl : u = Value.ref b := ry
  have KI := I.kIn
  obtain ⟨mA, J, _⟩ := ins_get I.hok ha
  obtain ⟨mB, J', _⟩ := ins_get I.hok hb'
  obtain ⟨od1, J, _⟩ := J.look
  obtain ⟨od2, J', _⟩ := J'.look
  obtain ⟨nm, q, N', bs, hdct, sn, sub, ab, col, dd, k0, k1, k2, k3, k5, newId, es, n, oc, od, sl, c1, c2, c3, c4, c5⟩ := N.cls
  obtain ⟨of, hof, hofc⟩ : ∃ of, s.heap.get? f = some of ∧ of.cls = .type "function" := by
    obtain ⟨o, ho, hc⟩ := Option.map_eq_some_iff.mp (show (X.K.lookup f).map (·.cls) = some (.type "function") from N.fn)
    exact ⟨o, KI _ _ ho, hc⟩
  have run := own_run (A := X.A.in1) (P := fun t => .bl (t != true)) (PV := fun t => .bl (t != true)) F hb hr.in1 rfl I r1 r2 hp (fun t _ _ => .bl _) h kk
  obtain ⟨hh, g, d, t, os⟩ := s
  refine compareOp_ne_ownEq (C := gaS X.K C) (f := f) PySem.F.cmp_object ⟨_, of, nm, q, N', bs, hdct, sn, sub, ab, col, dd, k0, k1, k2, k3, k5, newId, fun z => nsFind es z, _, J.at_, J.cls, KI _ _ c1, ⟨_, es, n, KI _ _ c2, rfl, c3, fun _ => rfl⟩, c4, hof, hofc, PySem.F.cmp_object.mro, PySem.F.cmp_object.eq.lookup, c5⟩ J'.at_ J'.cls (by have := hr.un; omega) ?_
  refine wpAny_mono run (fun w s' ⟨t, ew, H', I', q⟩ => ⟨t, ew, .bl (t != true), H', I', ?_, q⟩) fun _ _ z => z
  cases t <;> rfl
theorem d_owneq (N : OwnNe X.K (gaS X.K C) f) (F : FnOk X.prog X.w X.K X.mg X.base (L2N.CX X.prog X.w) k f fd ps (spUp X.K sp)) (hb : Binds X.K fd ps []) (hr : Room k X.A) (hu : X.A.units < cLine) : OpR X (compareOp .Eq) (upO X.K (rOwnD C sp false)) := by
  intro pins s σ H x y v u Q I rx ry ⟨dx, dy, G, Qd, r1, r2, hp, ⟨⟨f1, h1⟩, ⟨f2, h2⟩, h⟩, kk⟩
  obtain ⟨a, da, va, ex, ha, _⟩ := ins_of r1 hp h1
  obtain ⟨b, db, vb, ey, hb', _⟩ := ins_of r2 hp h2
  subst ex ey
  obtain rfl : v = Value.ref a := rx
  obtain rfl : u = Value.ref b := ry
  obtain ⟨mA, J, _⟩ := ins_get I.hok ha
  obtain ⟨mB, J', _⟩ := ins_get I.hok hb'
  obtain ⟨od1, J, _⟩ := J.look
  obtain ⟨od2, J', _⟩ := J'.look
  obtain ⟨m, hF⟩ := I.fr
  have run := own_run (A := X.A) (P := fun t => .bl (t != false)) (PV := fun t => .bl (t != false)) F hb hr rfl I r1 r2 hp (fun t _ _ => .bl _) h kk
  show wpAny _ _ (richCompare .Eq _ _) _ _ _
  refine PySem.W.cmp_K (op := .Eq) (tb := .ref (gaS X.K C)) hu hF I.ok.mod.kin J J'.type (by simp [PySem.W.notFirst]) N.eq (by unfold PySem.W.isFn; rw [N.fn]; rfl) ?_
  refine wpAny_mono run (fun w s' ⟨t, ew, H', I', q⟩ => ?_) fun _ _ z => z
  subst ew
  exact ⟨.bl (t != false), H', I', by cases t <;> rfl, q⟩
end
end DL
set_option Elab.async false
set_option linter.all false
set_option maxRecDepth 100000
/-! The D-layer: a list comprehension whose list is changed later. -/
namespace DL
open PySem PySem.Spec PyProof.Rows L2
variable {O : AS × Hp}
def mkL (Q : DK) : DK := fun d G1 => ∃ xs, d = .lst xs ∧ ∀ p, G1 p = none → Q (.ref p) (updG G1 p (.lst xs))
def dLcM (wi : DTI) (g : DTG) (tt : DTT) (te : DTE) (vs : List Nat) : DTE := fun ρ G Q => dLc wi g tt te vs ρ G (mkL Q)
theorem lc_upM {K : PySem.W.Frag} {wi : DTI} {gv : TG} {gd : DTG} {tt : DTT} {te : DTE} {vs : List Nat} (own : OwnG K O gv gd vs) {σ : St} {H : Hp} {Q : VK} (h : upE K O (dLcM wi gd tt te vs) σ H Q) :
    tLc (upI K O wi) gv (upT K O tt) (upE K O te) vs σ H Q := by
  obtain ⟨ρ, G, Qd, E, h, k⟩ := h
  refine ⟨ρ, G, _, E, h, fun J H1 items ok G1 hp1 x1 w q D hD => ?_⟩
  obtain ⟨Gd, Y, wk, w1, w2⟩ := w
  refine lc_it wk (fun i H' => ∃ G' acc av, EmbH K G' H' ∧ Ext G1 H1 G' H' ∧ G'.p D ∧ H' D = some (.lst av) ∧ Rs K G' H' acc av ∧ lcGo gd tt te (wipeD ρ vs) ok (mkL Qd) (items.drop i) acc G'.g) ⟨G1.hide D, [], [], hp1.hide hD, Ext.hide hD, .inl rfl, upd_same, .nil, by show lcGo gd tt te (wipeD ρ vs) ok (mkL Qd) (items.drop 0) [] G1.g; simpa using q⟩ ?_ ?_ ?_
  · rintro i H' _ ⟨G', acc, av, hp', x', gD, eD, ra, q'⟩
    exact w1 G' H' hp' x' (lcGo_ok q')
  · rintro i x H2 H3 hi ⟨G', acc, av, hp', x', gD, eD, ra, q'⟩ y
    obtain ⟨d, hd, rd, e3, x3⟩ := w2 i G' H2 x H3 hp' x' (lcGo_ok q') y
    obtain ⟨hlt, ed⟩ := List.getElem?_eq_some_iff.mp hd
    rw [List.drop_eq_getElem_cons hlt, ed] at q'
    obtain ⟨_, q'⟩ := q'
    have E3 : Emb K O (wipeD ρ vs) G' (L2.wipe σ vs) H3 := ((E.ext x1 hp1).wipe vs).ext (x'.trans x3) e3
    refine own _ _ _ _ _ _ _ _ rd E3 q' fun σ2 ρ2 E2 ew q2 => ⟨ew.trans (wipe_wipe σ vs), ?_⟩
    refine upT1 E2 q2 fun b H4 G4 E4 x4 q4 => ?_
    have xx := (x'.trans x3).trans x4
    have D4 := (x3.trans x4) D _ eD (hp'.hid D gD).1
    have ra4 := ra.ext (x3.trans x4)
    cases b with
    | true =>
      rw [if_pos rfl] at q4 ⊢
      refine up1 E4 q4 fun v H5 d5 G5 r5 E5 x5 ⟨hz, q5⟩ => ?_
      have D5 := x5 D _ D4.1 D4.2.1
      have ra5 := ra4.ext x5
      have p5 : G5.p D := D5.2.2.mpr (D4.2.2.mpr gD)
      refine ⟨av, D5.1, by rw [← ra5.length]; exact hz, G5, acc ++ [d5], av ++ [v], E5.hp.hid_put p5, fun b o e g => ?_, p5, upd_same, (ra5.snoc r5).extu (Exu.hid p5), q5⟩
      obtain ⟨k1, k2, k3⟩ := (xx.trans x5) b o e g
      exact ⟨by rw [upd_ne (ne_of_none e hD)]; exact k1, k2, k3⟩
    | false =>
      rw [if_neg Bool.false_ne_true] at q4 ⊢
      exact ⟨G4, acc, av, E4.hp, xx, D4.2.2.mpr gD, D4.1, ra4, q4⟩
  · rintro H' ⟨G', acc, av, hp', x', gD, eD, ra, q'⟩
    rw [List.drop_length] at q'
    obtain ⟨xs, e0, q2⟩ := q'.2
    cases e0
    have hn := (hp'.hid D gD).1
    have xu : Exu G' H' ((G'.show D).put D (.lst acc)) H' := fun b u e n => ⟨e, by
      have nb : b ≠ D := fun z => n.2 (z ▸ gD)
      exact ⟨(updG_ne nb).trans n.1, fun z => n.2 z.2⟩⟩
    have hE : EmbH K ((G'.show D).put D (.lst acc)) H' := ⟨fun b u e => by
      by_cases z : b = D
      · subst z
        have e' : updG G'.g b (.lst acc) b = some u := e
        rw [updG_same] at e'
        cases e'
        exact ⟨_, eD, av, rfl, ra.extu xu⟩
      · obtain ⟨ho, e1, r⟩ := hp'.tr b u ((updG_ne z).symm.trans e)
        exact ⟨ho, e1, r.extu xu⟩, fun b p => by
      obtain ⟨h1, h2⟩ := hp'.hid b p.2
      exact ⟨(updG_ne p.1).trans h1, h2⟩⟩
    refine k _ _ _ ((G'.show D).put D (.lst acc)) (.ref D) hE (x1.trans fun b o e g => ?_) (q2 D hn)
    obtain ⟨k1, k2, k3⟩ := x' b o e g
    have nb : b ≠ D := ne_of_none e hD
    exact ⟨k1, (updG_ne nb).trans k2, ⟨fun z => k3.mp z.2, fun z => ⟨nb, k3.mpr z⟩⟩⟩
section
variable {X : Cx} {elt tg iter : Expr} {ifs : List Expr} {scope : Scope} {own : List (Str × Nat)} {pos : Pos} {wi : DTI} {gv : TG} {gd : DTG} {tt : DTT} {te : DTE}
theorem de_lcM (hc : X.calm = true) (hN : X.N.Nodup) (hi : DI X O tg iter wi) (ok : BlkOk X.N X.env.scope scope own) (ho : OwnG X.K O gv gd (own.map (·.2)))
    (hg : ∀ (s : Shared) (H : Hp) (C : Addr) (cl : List (Str × Addr)) (fp : List Addr), PG (X.blk s H scope (compEnvC scope cl C X.env) fp) tg gv) (ht : ∀ (s : Shared) (H : Hp) (C : Addr) (cl : List (Str × Addr)) (fp : List Addr), DTs (X.blk s H scope (compEnvC scope cl C X.env) fp) O ifs tt)
    (he : ∀ (s : Shared) (H : Hp) (C : Addr) (cl : List (Str × Addr)) (fp : List Addr), DE (X.blk s H scope (compEnvC scope cl C X.env) fp) O elt te) (hs : ∀ x, foldedSetIterable iter X.env x = pure x := by intro _; rfl) :
    DE X O (.ListComp elt [⟨tg, iter, ifs, 0⟩] scope pos) (dLcM wi gd tt te (own.map (·.2))) := imE (pe_lc hc hN hi ok hg ht he hs) fun σ H Q => lc_upM ho
theorem ds_setLcM {i : Nat} {y : Str} {py spos : Pos} (hc : X.calm = true) (hN : X.N.Nodup) (hy : X.N[i]? = some y) (hyl : X.env.scope.names.lookup y = some .local)
    (hsw : swapsWith (.ListComp elt [⟨tg, iter, ifs, 0⟩] scope pos) (some (.Name y py)) spos.line X.env = pure true) (hi : DI X O tg iter wi) (ok : BlkOk X.N X.env.scope scope own) (ho : OwnG X.K O gv gd (own.map (·.2)))
    (hg : ∀ (s : Shared) (H : Hp) (C : Addr) (cl : List (Str × Addr)) (fp : List Addr), PG (X.blk s H scope (compEnvC scope cl C X.env) fp) tg gv) (ht : ∀ (s : Shared) (H : Hp) (C : Addr) (cl : List (Str × Addr)) (fp : List Addr), DTs (X.blk s H scope (compEnvC scope cl C X.env) fp) O ifs tt)
    (he : ∀ (s : Shared) (H : Hp) (C : Addr) (cl : List (Str × Addr)) (fp : List Addr), DE (X.blk s H scope (compEnvC scope cl C X.env) fp) O elt te) (hs : ∀ x, foldedSetIterable iter X.env x = pure x := by intro _; rfl) :
    DS X O (.Assign [.Name y py] (.ListComp elt [⟨tg, iter, ifs, 0⟩] scope pos) spos) (dAsg (dLcM wi gd tt te (own.map (·.2))) (gN i)) := imS (ps_setLc hc hN hy hyl hsw hi ok hg ht he hs) fun D' σ H ⟨ρ, G, DD, E, h, k⟩ =>
  lc_upM (Q := fun x H1 => gName i x σ H1 D'.nx) ho ⟨ρ, G, _, E, h, fun v H1 d G1 r hp x q => k.nx _ _ _ _ ((E.ext x hp).put r) x q⟩
end
end DL
namespace DL
open PySem PySem.Spec PyProof.Rows L2
variable {O : AS × Hp}
def clsBody (s : Stmt) : List Stmt := match s with
  | .ClassDef _ _ _ b _ _ _ _ _ _ _ => b
  | _ => []
theorem kbn_of {K : PySem.W.Frag} {x qual : Str} {params : Arguments} {body : List Stmt} {scope : Scope} {kws : List (Str × V)} {f : Addr} {fd : FuncData} {ps ks : List Str} {n : Nat} (F : FunD K x qual params body scope [] kws f fd)
    (h : ∀ (kV doc pm : Value) (an : Option Addr) (cdv ct : Value) (us ws : List Value), us.length = n → ws.length = ks.length → bindArgs (PySem.W.fnOf x qual params body scope .none kV doc pm an cdv ct) ⟨us, ks.zip ws⟩ = pure (ps.zip (us ++ ws))) : KBn K fd ps n ks (fun us ws => us ++ ws) (fun us ws => us ++ ws) := by
  obtain ⟨oc, od, dV, kV, doc, pm, an, cdv, ct, osl, rfl, lk, hcd, hD, hK⟩ := F.ex
  rcases hD with ⟨_, rfl⟩ | ⟨e, _⟩
  case inr => exact absurd rfl e
  exact ⟨fun s us ws X h1 h2 => BindsTo.of_looks fun M => PySem.W.Looks.of_pure (h kV doc pm an cdv ct us ws h1 h2), fun a b => a.append b⟩
end DL
namespace DL
open PySem PySem.Spec PyProof.Rows L2
theorem d_ok0 {P : Program} {w : World} {K : PySem.W.Frag} {mg : Str → Option Value} {base : Heap} {x qual : Str} {params : Arguments} {body : List Stmt} {scope : Scope} {dvs : List V} {kws : List (Str × V)} {f : Addr} {fd : FuncData} {N ps : List Str} {k : Nat} {sp : DSp} (F : FunD K x qual params body scope dvs kws f fd) (S : FnScope N ps scope) (h : ∀ ds G Q Ed, sp ds G Q Ed → False) :
    FnOk P w K mg base (L2N.CX P w) (k + 1) f fd ps (spUp K sp) :=
  F.ok S (fun _ _ _ _ ⟨_, _, _, _, _, _, q, _⟩ => (h _ _ _ _ q).elim) fun _ _ _ _ _ _ _ _ _ ⟨_, _, _, _, _, _, q, _⟩ => (h _ _ _ _ q).elim
end DL
set_option Elab.async false
set_option linter.all false
set_option maxRecDepth 100000
set_option maxHeartbeats 1000000
/-! The D-layer: the words that the generator prints. -/
namespace DL
open PySem PySem.Spec PyProof.Rows L2
variable {O : AS × Hp}
theorem hU {k : Nat} {A : Around} (r : Room k A) : A.units + 64 < cLine := by have := r.un; omega
theorem hU1 {k : Nat} {A : Around} (r : Room k A) : A.units + 65 < cLine := by have := r.un; omega
theorem hU0 {k : Nat} {A : Around} (r : Room k A) : A.units + 1 < cLine := by have := r.un; omega
section
variable {X : Cx}
theorem d_mul : OpR X (binaryOp .Mult) (upO X.K rMulD) := int2 op_mulW fun _ _ _ _ => .int _
theorem de_clsN {C : String} {pos : Pos} (hm : X.mg (Str.ofString C) = some (.ref (gaS X.K C))) (hg : Gl X (Str.ofString C) := by rfl) (hd : (Str.ofString C == ("__debug__" : Str)) = false := by decide) : DE X O (.Name (Str.ofString C) pos) (dC (.cls C)) := de_glob hg hm (v := .ref (gaS X.K C)) rfl (fun _ _ => .cls C) hd
theorem de_gI {x : Str} {i : Int} {pos : Pos} (h : ∃ u, X.mg x = some u ∧ RelV (.int i) u) (hg : Gl X x := by rfl) (hd : (x == ("__debug__" : Str)) = false := by decide) : DE X O (.Name x pos) (dC (.int i)) := by
  obtain ⟨u, h1, h2⟩ := h
  exact de_glob hg h1 h2 (fun _ _ => .int i) hd
theorem de_gS {x : Str} {s : List Nat} {pos : Pos} (h : ∃ u, X.mg x = some u ∧ RelV (sv s) u) (hg : Gl X x := by rfl) (hd : (x == ("__debug__" : Str)) = false := by decide) : DE X O (.Name x pos) (dC (.str s)) := by
  obtain ⟨u, h1, h2⟩ := h
  exact de_glob hg h1 h2 (fun _ _ => .str s) hd
theorem de_gT {x : Str} {d : D} {a : Addr} {pos : Pos} (h : X.mg x = some (.ref a)) (r : ∀ G H, R X.K G H d (.ref a)) (hg : Gl X x := by rfl) (hd : (x == ("__debug__" : Str)) = false := by decide) : DE X O (.Name x pos) (dC d) := de_glob hg h (v := .ref a) rfl r hd
/-- a class constant -/
def CvK (K : PySem.W.Frag) (C f : String) (i : Int) : Prop := ∃ mc u, ClX.CRead K (gaS K C) mc ∧ ClX.CVal K (gaS K C) mc (Str.ofString f) (.int i) u
theorem de_cv {C f : String} {i : Int} {e : Expr} {pos : Pos} (h : CvK X.K C f i) (he : DE X O e (dC (.cls C))) (hb : attributeBase e (Str.ofString f) X.env (eval e X.env) = eval e X.env := by rfl) : DE X O (.Attribute e (Str.ofString f) pos) (dC (.int i)) := by
  obtain ⟨mc, u, h1, h2⟩ := h
  exact de_cval he h1 h2 (fun _ _ => .int i) hb
/-! ### methods by names -/
structure MthK (P : Program) (w : World) (K : PySem.W.Frag) (mg : Str → Option Value) (base : Heap) (C m : String) (k : Nat) (ps : List Str) (sp : DSp) : Prop where
  ex : ∃ f fd, Meth K (gaS K C) (Str.ofString m) f ∧ FnOk P w K mg base (L2N.CX P w) k f fd ps (spUp K sp) ∧ Binds K fd ps []
theorem de_methF {C m : String} {k : Nat} {ps : List Str} {sp : DSp} {Ed : DXK} {E : XK} {o e : Expr} {es : List Expr} {ta : DTE} {t : DTA} {apos pos : Pos} {pl : Sem Bool} (c : Cls X.K (gaS X.K C)) (M : MthK X.prog X.w X.K X.mg X.base C m k ps sp) (hr : Room k X.A) (xo : XO X O Ed E) (he : DE X O o ta) (ha : DA X O (e :: es) t)
    (ht : eval (.Call (.Attribute o (Str.ofString m) apos) (e :: es) [] pos) X.env = (do
      let ov ← eval o X.env
      standAt apos.atName
      let (f, first) ← holding [ov] (getMethod ov (Str.ofString m) pl)
      callWith pos f first (backTo pos (starEach (e :: es) X.env)) (backToKw pos (keywordEach [] X.env))) := by rfl)
    (hs : starEach (e :: es) X.env = (false, eval e X.env) :: starEach es X.env := by rfl) (hpl : (backTo pos (starEach es X.env)).any (·.1) = false := by rfl) :
    DE X O (.Call (.Attribute o (Str.ofString m) apos) (e :: es) [] pos) (dMeth C m sp Ed ta t []) := by
  obtain ⟨f, fd, h1, h2, h3⟩ := M.ex
  exact de_meth (pl := pl) c h1 h2 hr h3 .nil (fun _ _ => .nil) xo he ha ht hs hpl
theorem de_methF0 {C m : String} {k : Nat} {ps : List Str} {sp : DSp} {Ed : DXK} {E : XK} {o : Expr} {ta : DTE} {apos pos : Pos} {pl : Sem Bool} (c : Cls X.K (gaS X.K C)) (M : MthK X.prog X.w X.K X.mg X.base C m k ps sp) (hr : Room k X.A) (xo : XO X O Ed E) (he : DE X O o ta)
    (ht : eval (.Call (.Attribute o (Str.ofString m) apos) [] [] pos) X.env = (do
      let ov ← eval o X.env
      standAt apos.atName
      let (f, first) ← holding [ov] (getMethod ov (Str.ofString m) pl)
      callWith pos f first (backTo pos (starEach [] X.env)) (backToKw pos (keywordEach [] X.env))) := by rfl) :
    DE X O (.Call (.Attribute o (Str.ofString m) apos) [] [] pos) (dMeth C m sp Ed ta dNil []) := by
  obtain ⟨f, fd, h1, h2, h3⟩ := M.ex
  exact de_meth0 (pl := pl) c h1 h2 hr h3 .nil (fun _ _ => .nil) xo he ht
/-- an __init__ with keyword-only parameters ks -/
structure InitK (P : Program) (w : World) (K : PySem.W.Frag) (mg : Str → Option Value) (base : Heap) (C : String) (k n : Nat) (ps ks : List Str) (sp : DSp) : Prop where
  ex : ∃ f fd, Mk K (gaS K C) f ∧ FnOk P w K mg base (L2N.CX P w) k f fd ps (spUp K sp) ∧ KBn K fd ps (n + 1) ks (fun us ws => us ++ ws) (fun us ws => us ++ ws)
def mkD (ds zs : List D) : List D := ds ++ zs
theorem de_makeF {C : String} {k n : Nat} {ps ks : List Str} {sp : DSp} {Ed : DXK} {E : XK} {x : Str} {e : Expr} {es : List Expr} {kws : List Keyword} {tc : DTE} {t tk : DTA} {p pos : Pos} (M : InitK X.prog X.w X.K X.mg X.base C k n ps ks sp) (hr : Room (k + 1) X.A) (xo : XO X O Ed E) (hc : DE X O (.Name x p) tc) (ha : DA X O (e :: es) t) (hkw : DKw X O kws tk)
    (hall : (backToKw pos (keywordEach kws X.env)).all (·.1.isSome) = true := by rfl) (hks : (backToKw pos (keywordEach kws X.env)).filterMap (·.1) = ks := by rfl)
    (he : starEach (e :: es) X.env = (false, eval e X.env) :: starEach es X.env := by rfl) (hpl : ((backTo pos (starEach (e :: es) X.env)).any (·.1) || (backToKw pos (keywordEach kws X.env)).any (·.1.isNone)) = false := by rfl) :
    DE X O (.Call (.Name x p) (e :: es) kws pos) (dMake C sp Ed tc t tk n ks.length mkD) := by
  obtain ⟨f, fd, h1, h2, h3⟩ := M.ex
  exact de_make h1 h2 hr h3 (fun _ _ _ _ _ _ a b => a.append b) xo hc ha hkw hall hks he hpl
/-- a classmethod -/
structure CMthK (P : Program) (w : World) (K : PySem.W.Frag) (mg : Str → Option Value) (base : Heap) (C m : String) (k : Nat) (ps : List Str) (sp : DSp) : Prop where
  ex : ∃ pa ga fd mc, ClX.CRead K (gaS K C) mc ∧ ClX.CMet K (gaS K C) mc (Str.ofString m) pa ga ∧ FnOk P w K mg base (L2N.CX P w) k ga fd ps (spUp K sp) ∧ Binds K fd ps [] ∧ ∀ ks, ks = ps.tail → KBn K fd ps 1 ks (fun us ws => us ++ ws) (fun vs ws => vs ++ ws)
  ne : ps ≠ []
theorem de_cmF {C m : String} {k : Nat} {ps : List Str} {sp : DSp} {Ed : DXK} {E : XK} {o e : Expr} {es : List Expr} {to : DTE} {t : DTA} {apos pos : Pos} {pl : Sem Bool} (M : CMthK X.prog X.w X.K X.mg X.base C m k ps sp) (hr : Room k X.A) (xo : XO X O Ed E) (ho : DE X O o to) (ha : DA X O (e :: es) t)
    (hst : starEach (e :: es) X.env = (false, eval e X.env) :: starEach es X.env := by rfl) (hpl : (backTo pos (starEach es X.env)).any (·.1) = false := by rfl)
    (ht : eval (.Call (.Attribute o (Str.ofString m) apos) (e :: es) [] pos) X.env = (do
      let ov ← eval o X.env
      standAt apos.atName
      let (f, first) ← holding [ov] (getMethod ov (Str.ofString m) pl)
      callWith pos f first (backTo pos (starEach (e :: es) X.env)) (backToKw pos (keywordEach [] X.env))) := by rfl) :
    DE X O (.Call (.Attribute o (Str.ofString m) apos) (e :: es) [] pos) (dCMeth C sp Ed to t) := by
  obtain ⟨pa, ga, fd, mc, h1, h2, h3, h4, _⟩ := M.ex
  exact de_cmeth (pl := pl) h1 h2 h3 h4 hr xo ho ha hst hpl ht
theorem de_cmKF {C m : String} {k : Nat} {ps : List Str} {sp : DSp} {Ed : DXK} {E : XK} {o : Expr} {kws : List Keyword} {to : DTE} {t : DTA} {apos pos : Pos} {pl : Sem Bool} (M : CMthK X.prog X.w X.K X.mg X.base C m k ps sp) (hr : Room k X.A) (xo : XO X O Ed E) (ho : DE X O o to) (hkw : DKw X O kws t)
    (hall : (backToKw pos (keywordEach kws X.env)).all (·.1.isSome) = true := by rfl) (hks : (backToKw pos (keywordEach kws X.env)).filterMap (·.1) = ps.tail := by rfl)
    (hpl : ((backTo pos (starEach [] X.env)).any (·.1) || (backToKw pos (keywordEach kws X.env)).any (·.1.isNone)) = false := by rfl)
    (ht : eval (.Call (.Attribute o (Str.ofString m) apos) [] kws pos) X.env = (do
      let ov ← eval o X.env
      standAt apos.atName
      let (f, first) ← holding [ov] (getMethod ov (Str.ofString m) pl)
      callWith pos f first (backTo pos (starEach [] X.env)) (backToKw pos (keywordEach kws X.env))) := by rfl) :
    DE X O (.Call (.Attribute o (Str.ofString m) apos) [] kws pos) (dCMeth C sp Ed to t) := by
  obtain ⟨pa, ga, fd, mc, h1, h2, h3, _, h5⟩ := M.ex
  have hn := M.ne
  exact de_cmethK (pl := pl) h1 h2 h3 (h5 _ rfl) hr xo ho hkw (by cases ps with | nil => exact absurd rfl hn | cons a r => simp; omega) hall hks hpl ht
/-- own == -/
structure OwnK (P : Program) (w : World) (K : PySem.W.Frag) (mg : Str → Option Value) (base : Heap) (C : String) (k : Nat) (ps : List Str) (sp : DSp) : Prop where
  ex : ∃ f fd, OwnNe K (gaS K C) f ∧ FnOk P w K mg base (L2N.CX P w) k f fd ps (spUp K sp) ∧ Binds K fd ps []
theorem own_ne {C : String} {k : Nat} {ps : List Str} {sp : DSp} (M : OwnK X.prog X.w X.K X.mg X.base C k ps sp) (hr : Room (k + 1) X.A) : OpR X (compareOp .NotEq) (upO X.K (rOwnD C sp true)) := by
  obtain ⟨f, fd, h1, h2, h3⟩ := M.ex
  exact d_ownne h1 h2 h3 hr
theorem own_eq {C : String} {k : Nat} {ps : List Str} {sp : DSp} (M : OwnK X.prog X.w X.K X.mg X.base C k ps sp) (hr : Room k X.A) : OpR X (compareOp .Eq) (upO X.K (rOwnD C sp false)) := by
  obtain ⟨f, fd, h1, h2, h3⟩ := M.ex
  exact d_owneq h1 h2 h3 hr (by have := hr.un; omega)
/-! ### zip of lists or of tuples -/
def dZipB (ta : DTA) : DTI := fun ρ G Q => ta ρ G fun ds G1 => ∃ d e xs ys, ds = [d, e] ∧ ((d = .tup xs ∧ e = .tup ys ∧ Q (zipD xs ys) (fun _ => True) G1) ∨ (lstD d G1 = some xs ∧ lstD e G1 = some ys ∧ Q (zipD xs ys) (fun G' => lstD d G' = some xs ∧ lstD e G' = some ys) G1))
theorem di_zipB {e e2 : Expr} {ta : DTA} {p pos tpos : Pos} {elts : List Expr} {kk : Nat} (hg : Gl X "zip") (hm : X.mg "zip" = none) (ha : DA X O [e, e2] ta)
    (hs : starEach [e, e2] X.env = (false, eval e X.env) :: starEach [e2] X.env := by rfl) (hpl : (backTo pos (starEach [e2] X.env)).any (·.1) = false := by rfl) :
    DI X O (.Tuple elts kk tpos) (.Call (.Name "zip" p) [e, e2] [] pos) (dZipB ta) := imI (RZ.pi_zipA hg hm ha hs hpl) fun σ H Q ⟨ρ, G, Qd, E, h, k⟩ => upA1 E h fun vs H1 ds G1 rs E1 x1 ⟨d, e, xs, ys, e0, q⟩ => by
  subst e0
  cases rs with
  | cons r t =>
    cases t with
    | cons r2 t =>
      cases t
      rcases q with ⟨ed, ee, q⟩ | ⟨hx, hy, q⟩
      · subst ed ee
        cases r with
        | tup h1 rs1 =>
          cases r2 with
          | tup h2 rs2 =>
            rename_i a vs b us
            refine ⟨a, b, vs, us, rfl, .inr ⟨h1.sq, h2.sq, k _ _ _ _ _ E1.hp x1 ⟨fun H2 => SqT X.K H2 a vs ∧ SqT X.K H2 b us, YPair (fun i => vs[i]?) (fun i => us[i]?), ?_, fun G2 H2 E2 x2 _ => ⟨(h1.ext x2).sq, (h2.ext x2).sq⟩, fun i G2 H2 v H' E2 x2 _ y => ?_⟩ q⟩⟩
            · have e : (zipD xs ys).length = min vs.length us.length := by simp [zipD, rs1.length, rs2.length]
              rw [e]
              refine ⟨fun i H2 hi ⟨q1, q2⟩ => ⟨vs, us, vs[i]'(by omega), us[i]'(by omega), q1, q2, by simp [show i < vs.length by omega], by simp [show i < us.length by omega]⟩, fun H2 ⟨q1, q2⟩ => ⟨vs, us, q1, q2, by omega⟩, fun i H2 v H' hi ⟨q1, q2⟩ y => ?_⟩
              obtain ⟨T, x, y, ev, n, eH, hx, hy⟩ := y
              exact ⟨T, x, y, ev, n, eH, hx vs q1, hy us q2⟩
            · obtain ⟨T, x, y, ev, n, eH, hx, hy⟩ := y
              obtain ⟨d', hd, rd⟩ := (rs1.ext x2).getV hx
              obtain ⟨e', he, re⟩ := (rs2.ext x2).getV hy
              subst ev eH
              exact ⟨.tup [d', e'], by simp [zipD, (List.getElem?_zip_eq_some (z := (d', e'))).mpr ⟨hd, he⟩], R.newTup E2 n (.cons rd (.cons re .nil)), E2.new n, Ext.new n⟩
      · obtain ⟨a, vs, ea, hq, rr⟩ := lst_of r E1.hp hx
        obtain ⟨b, us, eb, hq2, rr2⟩ := lst_of r2 E1.hp hy
        subst ea eb
        refine ⟨a, b, vs, us, rfl, .inl ⟨.of hq, .of hq2, k _ _ _ _ _ E1.hp x1 ⟨fun H2 => ∃ vs us, SqL X.K H2 a vs ∧ SqL X.K H2 b us ∧ vs.length = xs.length ∧ us.length = ys.length,
          fun i H2 v H' => ∃ T x y, v = .ref T ∧ H2 T = none ∧ H' = upd H2 T (.tup [x, y]) ∧ (∀ vs, SqL X.K H2 a vs → vs[i]? = some x) ∧ ∀ us, SqL X.K H2 b us → us[i]? = some y, ?_, ?_, ?_⟩ q⟩⟩
        · have e : (zipD xs ys).length = min xs.length ys.length := by simp [zipD]
          rw [e]
          exact ⟨fun i H2 hi ⟨vs, us, q, q2, l, l2⟩ => ⟨vs, us, vs[i]'(by omega), us[i]'(by omega), q, q2, by simp [show i < vs.length by omega], by simp [show i < us.length by omega]⟩, fun H2 ⟨vs, us, q, q2, l, l2⟩ => ⟨vs, us, q, q2, by omega⟩, fun i H2 x H' _ _ y => y⟩
        · intro G2 H2 E2 x2 ⟨o1, o2⟩
          obtain ⟨ws, q, rs⟩ := lst_at r x2 E2 o1
          obtain ⟨zs, q2, rs2⟩ := lst_at r2 x2 E2 o2
          exact ⟨ws, zs, q, q2, rs.length.symm, rs2.length.symm⟩
        · intro i G2 H2 v H' E2 x2 ⟨o1, o2⟩ y
          obtain ⟨ws, q, rs⟩ := lst_at r x2 E2 o1
          obtain ⟨zs, q2, rs2⟩ := lst_at r2 x2 E2 o2
          obtain ⟨T, x, y, ev, n, eH, hx, hy⟩ := y
          obtain ⟨d', hd, rd⟩ := rs.getV (hx ws q)
          obtain ⟨e', he, re⟩ := rs2.getV (hy zs q2)
          subst ev eH
          exact ⟨.tup [d', e'], by simp [zipD, (List.getElem?_zip_eq_some (z := (d', e'))).mpr ⟨hd, he⟩], R.newTup E2 n (.cons rd (.cons re .nil)), E2.new n, Ext.new n⟩
theorem de_tidxK {e : Expr} {te : DTE} {apos cpos : Pos} {xs : List D} {x : Str} {p : Pos} {a : Addr} (hm : X.mg x = some (.ref a)) (hr : ∀ G H, R X.K G H (.tup xs) (.ref a)) (hK : ∃ o, X.K.lookup a = some o ∧ o.cls = .type "tuple" ∧ o.dict = none) (he : DE X O e te) (hg : Gl X x := by rfl)
    (hd : (x == ("__debug__" : Str)) = false := by decide)
    (hbase : attributeBase (.Name x p) "index" X.env (eval (.Name x p) X.env) = eval (.Name x p) X.env := by rfl)
    (hfew : ((backTo cpos (starEach (e :: []) X.env)).all (fun x => !x.1) && (backToKw cpos (keywordEach [] X.env)).all (fun x => x.1.isSome)
      && decide ((e :: []).length + ([] : List Keyword).length + (if ([] : List Keyword).isEmpty then 0 else 1) < 30)) = true := by rfl)
    (hline : (apos.endLine == cpos.line) = true := by rfl) (hs : starEach (e :: []) X.env = (false, eval e X.env) :: starEach [] X.env := by rfl) (hplain : (backTo cpos (starEach [] X.env)).any (·.1) = false := by rfl) :
    DE X O (.Call (.Attribute (.Name x p) "index" apos) [e] [] cpos) (dTIdx (dC (.tup xs)) te) := de_tidx hg hm hr hK he hd hbase hfew hline hs hplain
end
end DL
namespace DL
open PySem PySem.Spec PyProof.Rows L2
variable {O : AS × Hp} {X : Cx}
def TupK (K : PySem.W.Frag) (mg : Str → Option Value) (x : Str) (d : D) : Prop := ∃ T, mg x = some (.ref T) ∧ (∀ G H, R K G H d (.ref T)) ∧ ∃ o, K.lookup T = some o ∧ o.cls = .type "tuple" ∧ o.dict = none
theorem de_gTK {x : Str} {d : D} {pos : Pos} (h : TupK X.K X.mg x d) (hg : Gl X x := by rfl) (hd : (x == ("__debug__" : Str)) = false := by decide) : DE X O (.Name x pos) (dC d) := by
  obtain ⟨T, h1, h2, _⟩ := h
  exact de_gT h1 h2 hg hd
theorem de_tidxG {e : Expr} {te : DTE} {apos cpos : Pos} {xs : List D} {x : Str} {p : Pos} (h : TupK X.K X.mg x (.tup xs)) (he : DE X O e te) (hg : Gl X x := by rfl)
    (hd : (x == ("__debug__" : Str)) = false := by decide)
    (hbase : attributeBase (.Name x p) "index" X.env (eval (.Name x p) X.env) = eval (.Name x p) X.env := by rfl)
    (hfew : ((backTo cpos (starEach (e :: []) X.env)).all (fun x => !x.1) && (backToKw cpos (keywordEach [] X.env)).all (fun x => x.1.isSome)
      && decide ((e :: []).length + ([] : List Keyword).length + (if ([] : List Keyword).isEmpty then 0 else 1) < 30)) = true := by rfl)
    (hline : (apos.endLine == cpos.line) = true := by rfl) (hs : starEach (e :: []) X.env = (false, eval e X.env) :: starEach [] X.env := by rfl) (hplain : (backTo cpos (starEach [] X.env)).any (·.1) = false := by rfl) :
    DE X O (.Call (.Attribute (.Name x p) "index" apos) [e] [] cpos) (dTIdx (dC (.tup xs)) te) := by
  obtain ⟨T, h1, h2, h3⟩ := h
  exact de_tidxK h1 h2 h3 he hg hd hbase hfew hline hs hplain
end DL
set_option Elab.async false
set_option linter.all false
set_option maxRecDepth 100000
set_option maxHeartbeats 4000000
/-! The D-layer: words for the plain proofs. -/
namespace DL
open PySem PySem.Spec PyProof.Rows L2
theorem lc_map {α : Type} {k f : α → D} {g : DTG} {te : DTE} {ρ : DSt} {ok : GH → Prop} {Q : DK} {G : GH} (hok : ok G) : ∀ {xs : List α} {acc : List D}, (∀ x ∈ xs, ∀ Q' : DK, Q' (f x) G → g (k x) ρ G fun ρ1 G1 => te ρ1 G1 Q') → acc.length + xs.length ≤ sizeLine → Q (.lst (acc ++ xs.map f)) G →
    lcGo g dYes te ρ ok Q (xs.map k) acc G
  | [], acc, _, _, q => ⟨hok, by simpa using q⟩
  | x :: xs, acc, h, hz, q => ⟨hok, h x (by simp) _ ⟨by simp at hz; omega, lc_map hok (fun y hy => h y (by simp [hy])) (by simp at hz ⊢; omega) (by simpa using q)⟩⟩
theorem lc_map0 {α : Type} {k f : α → D} {g : DTG} {te : DTE} {ρ : DSt} {ok : GH → Prop} {Q : DK} {G : GH} {xs : List α} (hok : ok G) (h : ∀ x ∈ xs, ∀ Q' : DK, Q' (f x) G → g (k x) ρ G fun ρ1 G1 => te ρ1 G1 Q') (hz : xs.length ≤ sizeLine) (q : Q (.lst (xs.map f)) G) : lcGo g dYes te ρ ok Q (xs.map k) [] G :=
  lc_map hok h (by simpa using hz) (by simpa using q)
theorem size_ge : (10000000 : Nat) ≤ sizeLine := by decide
end DL
namespace DL
open PySem PySem.Spec PyProof.Rows L2
section
variable {G : GH} {Q : DK}
/-! tyN, topD, boxD, lstD -/
theorem isi_of {d : D} {n t : String} (h : tyN d G = some n) (ht : t ∈ tyTs) : rIsiD [d, .ty t] G Q ↔ Q (.bl (isT n t)) G := by
  constructor
  · rintro ⟨d', n', h', ⟨t', e, _, q⟩ | ⟨ts, e, _, _⟩⟩
    · cases e
      rw [h] at h'
      cases h'
      exact q
    · cases e
  · exact fun q => ⟨d, n, h, .inl ⟨t, rfl, ht, q⟩⟩
theorem isi_non {t : String} (ht : t ∈ tyTs) : rIsiD [.non, .ty t] G Q ↔ Q (.bl (isT "NoneType" t)) G := isi_of rfl ht
theorem isi_bl {t : String} {b : Bool} (ht : t ∈ tyTs) : rIsiD [.bl b, .ty t] G Q ↔ Q (.bl (isT "bool" t)) G := isi_of rfl ht
theorem isi_int {t : String} {b : Int} (ht : t ∈ tyTs) : rIsiD [.int b, .ty t] G Q ↔ Q (.bl (isT "int" t)) G := isi_of rfl ht
theorem isi_str {t : String} {b : List Nat} (ht : t ∈ tyTs) : rIsiD [.str b, .ty t] G Q ↔ Q (.bl (isT "str" t)) G := isi_of rfl ht
theorem isi_tup {t : String} {b : List D} (ht : t ∈ tyTs) : rIsiD [.tup b, .ty t] G Q ↔ Q (.bl (isT "tuple" t)) G := isi_of rfl ht
theorem isi_lst {t : String} {b : List D} (ht : t ∈ tyTs) : rIsiD [.lst b, .ty t] G Q ↔ Q (.bl (isT "list" t)) G := isi_of rfl ht
theorem mt_bool : "bool" ∈ tyTs := by decide
theorem mt_int : "int" ∈ tyTs := by decide
theorem mt_str : "str" ∈ tyTs := by decide
theorem mt_list : "list" ∈ tyTs := by decide
theorem mt_tuple : "tuple" ∈ tyTs := by decide
theorem mt_dict : "dict" ∈ tyTs := by decide
theorem isT_r {n t : String} {b : Bool} (h : isT n t = b) : isT n t = b := h
theorem len_str {s : List Nat} : rLenD [.str s] G Q ↔ s.length ≤ sizeLine ∧ Q (.int s.length) G := ⟨fun ⟨_, e, q⟩ => by cases e; exact q, fun q => ⟨_, rfl, q⟩⟩
theorem len_lst {xs : List D} : rLenD [.lst xs] G Q ↔ Q (.int xs.length) G := ⟨fun ⟨_, e, q⟩ => by
  cases e
  obtain ⟨_, h, q⟩ := q
  cases h
  exact q, fun q => ⟨_, rfl, _, rfl, q⟩⟩
theorem len_tup {xs : List D} : rLenD [.tup xs] G Q ↔ Q (.int xs.length) G := ⟨fun ⟨_, e, q⟩ => by
  cases e
  obtain ⟨_, h, q⟩ := q
  cases h
  exact q, fun q => ⟨_, rfl, _, rfl, q⟩⟩
theorem len_ref {a : Addr} {xs : List D} (h : G a = some (.lst xs)) (q : Q (.int xs.length) G) : rLenD [.ref a] G Q := ⟨_, rfl, xs, by simp [boxD, seqD, h], q⟩
theorem int_int {i : Int} : rIntD [.int i] G Q ↔ Q (.int i) G := ⟨fun ⟨_, e, q⟩ => by cases e; exact q, fun q => ⟨_, rfl, q⟩⟩
theorem int_bl {b : Bool} : rIntD [.bl b] G Q ↔ Q (.int (if b then 1 else 0)) G := ⟨fun ⟨_, e, q⟩ => by cases e; exact q, fun q => ⟨_, rfl, q⟩⟩
theorem int_str {x : List Nat} : rIntD [.str x] G Q ↔ x.length ≤ 640 ∧ ∃ n, PySem.intText? ⟨x.toArray⟩ = some n ∧ Q (.int n) G := ⟨fun ⟨_, e, q⟩ => by cases e; exact q, fun q => ⟨_, rfl, q⟩⟩
theorem str_int {i : Int} : rStrD [.int i] G Q ↔ i.natAbs.log2 < 1920 ∧ Q (.str (numD i)) G := ⟨fun ⟨_, e, q⟩ => by cases e; exact q, fun q => ⟨_, rfl, q⟩⟩
theorem all_map {α : Type} {xs : List α} {f : α → Bool} (q : Q (.bl (xs.all f)) G) : rAllD [.lst (xs.map fun x => .bl (f x))] G Q := ⟨_, xs.map f, rfl, by simp [lstD], by rw [List.all_map]; exact q⟩
theorem fmt_str {te : DTE} {ρ : DSt} (h : te ρ G fun d G1 => ∃ y, d = .str y ∧ y.length ≤ sizeLine ∧ Q (.str y) G1) (mono : ∀ Q Q' : DK, (∀ d G', Q d G' → Q' d G') → te ρ G Q → te ρ G Q') : dFmt te ρ G Q :=
  mono _ _ (fun d G1 ⟨y, e, h⟩ => by subst e; exact h) h
theorem top_int {i : Int} : topD (.int i) G = .int i := rfl
theorem top_str {i : List Nat} : topD (.str i) G = .str i := rfl
theorem top_bl {i : Bool} : topD (.bl i) G = .bl i := rfl
theorem top_non : topD .non G = .non := rfl
theorem top_lst {i : List D} : topD (.lst i) G = .lst i := rfl
theorem top_tup {i : List D} : topD (.tup i) G = .tup i := rfl
theorem top_ref {a : Addr} {xs : List D} (h : G a = some (.lst xs)) : topD (.ref a) G = .lst xs := by simp [topD, h]
theorem box_ref {a : Addr} {xs : List D} (h : G a = some (.lst xs)) : boxD (.ref a) G = some xs := by simp [boxD, seqD, h]
theorem box_lst {xs : List D} : boxD (.lst xs) G = some xs := rfl
theorem box_tup {xs : List D} : boxD (.tup xs) G = some xs := rfl
theorem lst_lst {xs : List D} : lstD (.lst xs) G = some xs := rfl
theorem lst_ref {a : Addr} {xs : List D} (h : G a = some (.lst xs)) : lstD (.ref a) G = some xs := by simp [lstD, h]
theorem seq_lst {xs : List D} : seqD (.lst xs) G = some xs := rfl
theorem seq_tup {xs : List D} : seqD (.tup xs) G = some xs := rfl
theorem seq_str {xs : List Nat} : seqD (.str xs) G = some (xs.map fun c => .str [c]) := rfl
end
/-! == and okD -/
theorem eq_int {i j : Int} : eqD (.int i) (.int j) = decide (i = j) := by simp [eqD, pyD, PyData.eqv]; rfl
theorem eq_str {x y : List Nat} : eqD (.str x) (.str y) = decide (x = y) := by
  simp only [eqD, pyD, PyData.eqv]
  by_cases h : x = y
  · subst h; simp
  · simp [h]
theorem ok_int {i : Int} : okD (.int i) := rfl
theorem ok_bl {i : Bool} : okD (.bl i) := rfl
theorem ok_non : okD .non := rfl
theorem ok_str {x : List Nat} (h : ∀ c ∈ x, c < 256) : okD (.str x) := by
  simp [okD, okN]
  intro c hc
  have := h c hc
  omega
theorem ok_strs {xs : List (List Nat)} (h : ∀ x ∈ xs, ∀ c ∈ x, c < 256) : okD (.lst (xs.map .str)) := by
  show ((xs.map D.str).all (okN 49)) = true
  simp [okN]
  intro x hx c hc
  have := h x hx c hc
  omega
theorem any_eq {x : List Nat} : ∀ {xs : List (List Nat)}, ((xs.map D.str).any fun z => eqD z (.str x)) = decide (x ∈ xs)
  | [] => rfl
  | y :: ys => by
    rw [List.map_cons, List.any_cons, any_eq, eq_str]
    by_cases h : y = x
    · subst h; simp
    · have h' : ¬ x = y := fun z => h z.symm
      simp [h, h']
end DL
namespace DL
open PySem PySem.Spec PyProof.Rows L2
section
variable {G : GH} {Q : DK} {i : Int} {xs : List D}
theorem ix_tup : rIxD (.tup xs) (.int i) G Q ↔ ∃ d, atD xs i = some d ∧ Q d G := ⟨fun ⟨_, e, h⟩ => by
  cases e
  obtain ⟨xs, d, h1, h2, q⟩ := h
  cases h1
  exact ⟨d, h2, q⟩, fun ⟨d, h, q⟩ => ⟨_, rfl, _, _, rfl, h, q⟩⟩
theorem ix_lst : rIxD (.lst xs) (.int i) G Q ↔ ∃ d, atD xs i = some d ∧ Q d G := ⟨fun ⟨_, e, h⟩ => by
  cases e
  obtain ⟨xs, d, h1, h2, q⟩ := h
  cases h1
  exact ⟨d, h2, q⟩, fun ⟨d, h, q⟩ => ⟨_, rfl, _, _, rfl, h, q⟩⟩
theorem ix_str {s : List Nat} : rIxD (.str s) (.int i) G Q ↔ s.length ≤ sizeLine ∧ ∃ c, atD s i = some c ∧ Q (.str [c]) G := ⟨fun ⟨_, e, h⟩ => by
  cases e
  exact h, fun h => ⟨_, rfl, h⟩⟩
theorem ix_ref {a : Addr} {d : D} (h : G a = some (.lst xs)) (hd : atD xs i = some d) (q : Q d G) : rIxD (.ref a) (.int i) G Q := ⟨_, rfl, xs, d, box_ref h, hd, q⟩
theorem atD_0 {α : Type} {x : α} {xs : List α} : atD (x :: xs) 0 = some x := rfl
theorem atD_1 {α : Type} {x y : α} {xs : List α} : atD (x :: y :: xs) 1 = some y := rfl
theorem atD_2 {α : Type} {x y z : α} {xs : List α} : atD (x :: y :: z :: xs) 2 = some z := rfl
theorem atD_nat {α : Type} {xs : List α} {n : Nat} : atD xs (n : Int) = xs[n]? := by simp [atD]
theorem list_r {d : D} (h : boxD d G = some xs) (q : Q (.lst xs) G) : rListD [d] G Q := ⟨d, xs, rfl, h, q⟩
theorem tuple_r {d : D} (h : boxD d G = some xs) (q : Q (.tup xs) G) : rTupleD [d] G Q := ⟨d, xs, rfl, h, q⟩
theorem in_sign {c : Nat} {y : List Nat} : rInD false (.str [c]) (.str y) G Q ↔ Q (.bl (decide (c ∈ y))) G := by
  simp [rInD]
theorem in_strs {x : List Nat} {d : D} {ys : List (List Nat)} {b : Bool} (hd : boxD d G = some (ys.map .str)) (hns : ∀ s, d ≠ .str s) (h1 : ∀ c ∈ x, c < 256) (h2 : ∀ y ∈ ys, ∀ c ∈ y, c < 256) (q : Q (.bl (if b then !decide (x ∈ ys) else decide (x ∈ ys))) G) : rInD b (.str x) d G Q := by
  have e : rInD b (.str x) d G Q = ∃ xs, boxD d G = some xs ∧ okD (topD (.str x) G) ∧ okD (.lst xs) ∧ Q (.bl (if b then !(xs.any fun z => eqD z (topD (.str x) G)) else xs.any fun z => eqD z (topD (.str x) G))) G := by
    cases d <;> first | rfl | exact absurd rfl (hns _)
  rw [e]
  refine ⟨_, hd, ok_str h1, ok_strs h2, ?_⟩
  rw [show topD (.str x) G = .str x from rfl, any_eq]
  exact q
end
end DL
namespace DL
open PySem PySem.Spec PyProof.Rows L2
section
variable {G : GH} {Qd : DK} {p : Addr}
theorem rt_ins {C : String} {fs : List (String × D)} {G' : GH} (hn : G p = none) (e : G' = updG G p (.ins C fs)) (q : Qd (.obj C fs) G) : rtF Qd (.ref p) G' := by
  subst e
  exact ⟨_, G, .new hn, .ins updG_same hn .refl, q⟩
theorem rt_lst {xs : List D} {G' : GH} (hn : G p = none) (e : G' = updG G p (.lst xs)) (q : Qd (.lst xs) G) : rtF Qd (.ref p) G' := by
  subst e
  exact ⟨_, G, .new hn, .lst updG_same hn .refl, q⟩
/-- one tracked object dropped -/
theorem rt_drop {d : D} {o : DO} {G' : GH} (hn : G p = none) (e : G' = updG G p o) (q : Qd d G) : rtF Qd d G' := by
  subst e
  exact ⟨d, G, .new hn, .same d, q⟩
theorem cut_map {α β : Type} {f : α → β} {xs : List α} {lo hi : Option Int} : cutD (xs.map f) lo hi = (cutD xs lo hi).map f := by simp [cutD, List.map_drop, List.map_take]
theorem updG2 {o o' : DO} : updG (updG G p o) p o' = updG G p o' := updG_updG
theorem log2_of {i : Int} {k : Nat} (h1 : 0 ≤ i) (h2 : i < 2 ^ k) (hk : 0 < k) : i.natAbs.log2 < k := by
  by_cases z : i.natAbs = 0
  · rw [z]; simpa using hk
  · refine (Nat.log2_lt z).mpr ?_
    have : ((i.natAbs : Nat) : Int) < ((2 ^ k : Nat) : Int) := by
      rw [Int.natAbs_of_nonneg h1]
      simpa using h2
    exact_mod_cast this
end
end DL
namespace DL
open PySem PySem.Spec PyProof.Rows L2
section
variable {G : GH} {Q : DK} {i j : Int} {xs ys : List D} {a : Addr}
theorem box_refI : boxD (.ref a) G = some xs ↔ G a = some (.lst xs) := by
  show (match G a with | some (.lst xs) => some xs | _ => none) = some xs ↔ _
  cases h : G a with
  | none => simp
  | some o => cases o <;> simp
theorem lst_refI : lstD (.ref a) G = some xs ↔ G a = some (.lst xs) := by
  show (match G a with | some (.lst xs) => some xs | _ => none) = some xs ↔ _
  cases h : G a with
  | none => simp
  | some o => cases o <;> simp
theorem ix_refI : rIxD (.ref a) (.int i) G Q ↔ ∃ xs, G a = some (.lst xs) ∧ ∃ d, atD xs i = some d ∧ Q d G := ⟨fun ⟨_, e, h⟩ => by
  cases e
  obtain ⟨xs, d, h1, h2, q⟩ := h
  exact ⟨xs, box_refI.mp h1, d, h2, q⟩, fun ⟨xs, h, d, h2, q⟩ => ⟨_, rfl, xs, d, box_ref h, h2, q⟩⟩
theorem add_int : rAddD (.int i) (.int j) G Q ↔ Q (.int (i + j)) G := Iff.rfl
theorem add_str {x y : List Nat} : rAddD (.str x) (.str y) G Q ↔ x.length + y.length ≤ sizeLine ∧ Q (.str (x ++ y)) G := Iff.rfl
theorem add_lst : rAddD (.lst xs) (.lst ys) G Q ↔ xs.length + ys.length ≤ sizeLine ∧ Q (.lst (xs ++ ys)) G := by
  simp [rAddD, lstD]
theorem sl_str {x : List Nat} {lo hi : Option Int} : rSlD (.str x) lo hi G Q ↔ x.length ≤ sizeLine ∧ Q (.str (cutD x lo hi)) G := Iff.rfl
theorem sl_lst {lo hi : Option Int} : rSlD (.lst xs) lo hi G Q ↔ Q (.lst (cutD xs lo hi)) G := Iff.rfl
theorem atD_3 {α : Type} {x y z w : α} {xs : List α} : atD (x :: y :: z :: w :: xs) 3 = some w := rfl
theorem atD_4 {α : Type} {x y z w v : α} {xs : List α} : atD (x :: y :: z :: w :: v :: xs) 4 = some v := rfl
theorem pow_int : rPowD (.int i) (.int j) G Q ↔ CPow i j ∧ Q (.int (i ^ j.toNat)) G := ⟨fun ⟨_, _, e1, e2, h⟩ => by
  cases e1
  cases e2
  exact h, fun h => ⟨_, _, rfl, rfl, h⟩⟩
theorem some_lst {xs ys : List D} : (some (DO.lst xs) = some (DO.lst ys)) ↔ ys = xs := by
  constructor
  · intro h; cases h; rfl
  · intro h; rw [h]
theorem ref_inj {a b : Addr} : (D.ref a = D.ref b) ↔ b = a := by
  constructor
  · intro h; cases h; rfl
  · intro h; rw [h]
end
end DL
namespace DL
open PySem PySem.Spec PyProof.Rows L2
section
variable {G : GH} {Q : DK} {i j : Int} {xs ys : List D} {a : Addr} {d e y : D}
theorem set_refI {Q : GH → Prop} : rSetD (.ref a) (.int i) d G Q ↔ ∃ xs, G a = some (.lst xs) ∧ ∃ j, ixN xs.length i = some j ∧ Q (updG G a (.lst (xs.set j d))) := ⟨fun ⟨_, xs, _, j, e1, e2, h1, h2, q⟩ => by
  cases e1
  cases e2
  exact ⟨xs, h1, j, h2, q⟩, fun ⟨xs, h1, j, h2, q⟩ => ⟨_, xs, _, j, rfl, rfl, h1, h2, q⟩⟩
theorem int2I {g : Int → Int → D} {C : Int → Int → Prop} : rInt2 g C (.int i) (.int j) G Q ↔ C i j ∧ Q (g i j) G := ⟨fun ⟨_, _, e1, e2, h⟩ => by
  cases e1
  cases e2
  exact h, fun h => ⟨_, _, rfl, rfl, h⟩⟩
theorem app_refI : rAppD (.ref a) [y] G Q ↔ ∃ xs, G a = some (.lst xs) ∧ xs.length < sizeLine ∧ Q .non (updG G a (.lst (xs ++ [y]))) := ⟨fun ⟨_, xs, _, e1, e2, h⟩ => by
  cases e1
  cases e2
  exact ⟨xs, h⟩, fun ⟨xs, h⟩ => ⟨_, xs, _, rfl, rfl, h⟩⟩
theorem ext_refI : rExtD (.ref a) [e] G Q ↔ ∃ xs, G a = some (.lst xs) ∧ ∃ ys, lstD e G = some ys ∧ xs.length + ys.length ≤ sizeLine ∧ Q .non (updG G a (.lst (xs ++ ys))) := ⟨fun ⟨_, xs, _, ys, e1, e2, h1, h2, h⟩ => by
  cases e1
  cases e2
  exact ⟨xs, h1, ys, h2, h⟩, fun ⟨xs, h1, ys, h2, h⟩ => ⟨_, xs, _, ys, rfl, rfl, h1, h2, h⟩⟩
theorem splitI {x b : List Nat} : rSplitD (.str x) [.str b] G Q ↔ b ≠ [] ∧ b.all (· < 256) = true ∧ x.length + 2 ≤ sizeLine ∧ Q (.lst ((splitD b x).map D.str)) G := ⟨fun ⟨_, _, e1, e2, h⟩ => by
  cases e1
  cases e2
  exact h, fun h => ⟨_, _, rfl, rfl, h⟩⟩
theorem joinI {x : List Nat} : rJoinD (.str x) [e] G Q ↔ ∃ ys, boxD e G = some (ys.map D.str) ∧ (ys.map (·.length)).sum + ys.length * x.length ≤ 16777216 ∧ Q (.str (joinD x ys)) G := ⟨fun ⟨_, _, ys, e1, e2, h⟩ => by
  cases e1
  cases e2
  exact ⟨ys, h⟩, fun ⟨ys, h⟩ => ⟨_, _, ys, rfl, rfl, h⟩⟩
theorem idxI : rIdxD d [y] G Q ↔ ∃ xs, lstD d G = some xs ∧ okD (.lst xs) ∧ okD y ∧ ∃ j, xs.findIdx? (fun z => eqD z y) = some j ∧ Q (.int (j : Nat)) G := ⟨fun ⟨xs, _, j, h1, e, h2, h3, h4, h5⟩ => by
  cases e
  exact ⟨xs, h1, h2, h3, j, h4, h5⟩, fun ⟨xs, h1, h2, h3, j, h4, h5⟩ => ⟨xs, _, j, h1, rfl, h2, h3, h4, h5⟩⟩
theorem ixN_51 : ixN 5 1 = some 1 := rfl
theorem ixN_52 : ixN 5 2 = some 2 := rfl
theorem ixN_53 : ixN 5 3 = some 3 := rfl
theorem ixN_54 : ixN 5 4 = some 4 := rfl
theorem ixN_30 : ixN 3 0 = some 0 := rfl
theorem ixN_31 : ixN 3 1 = some 1 := rfl
theorem ixN_32 : ixN 3 2 = some 2 := rfl
theorem okD_intI : okD (.int i) ↔ True := ⟨fun _ => trivial, fun _ => rfl⟩
theorem okD_blI {b : Bool} : okD (.bl b) ↔ True := ⟨fun _ => trivial, fun _ => rfl⟩
theorem okD_nonI : okD .non ↔ True := ⟨fun _ => trivial, fun _ => rfl⟩
end
end DL
namespace DL
open PySem PySem.Spec PyProof.Rows L2
theorem atD_mem {α : Type} {xs : List α} {i : Nat} (h : (i : Int) < xs.length) : ∃ x, atD xs (i : Int) = some x ∧ x ∈ xs := by
  rw [atD_nat]
  have h' : i < xs.length := by omega
  exact ⟨xs[i], by simp [h'], by simp⟩
end DL
namespace DL
open PySem PySem.Spec PyProof.Rows
theorem cpow17 : L2.CPow 10 17 := by unfold L2.CPow; decide +kernel
theorem cpow18 : L2.CPow 10 18 := by unfold L2.CPow; decide +kernel
end DL
namespace DL
open PySem PySem.Spec PyProof.Rows L2
theorem eqvAll_map {α : Type} [DecidableEq α] {k : α → D} (h : ∀ x y, eqD (k x) (k y) = decide (x = y)) : ∀ xs ys : List α, PyData.eqvAll (pyDs (xs.map k)) (pyDs (ys.map k)) = decide (xs = ys)
  | [], [] => by simp [pyDs, PyData.eqvAll]
  | [], y :: ys => by simp [pyDs, PyData.eqvAll]
  | x :: xs, [] => by simp [pyDs, PyData.eqvAll]
  | x :: xs, y :: ys => by
    have h1 := h x y
    have h2 := eqvAll_map h xs ys
    simp only [eqD] at h1
    simp only [List.map_cons, pyDs, PyData.eqvAll, h1, h2]
    by_cases e : x = y <;> simp [e]
theorem eq_tupmap {α : Type} [DecidableEq α] {k : α → D} (h : ∀ x y, eqD (k x) (k y) = decide (x = y)) (xs ys : List α) : eqD (.tup (xs.map k)) (.tup (ys.map k)) = decide (xs = ys) := by
  simp only [eqD, pyD, PyData.eqv]
  exact eqvAll_map h xs ys
theorem eq_lstmap {α : Type} [DecidableEq α] {k : α → D} (h : ∀ x y, eqD (k x) (k y) = decide (x = y)) (xs ys : List α) : eqD (.lst (xs.map k)) (.lst (ys.map k)) = decide (xs = ys) := by
  simp only [eqD, pyD, PyData.eqv]
  exact eqvAll_map h xs ys
theorem eq_pair {a b : List Nat} {i j : Int} : eqD (.tup [.str a, .int i]) (.tup [.str b, .int j]) = decide ((a, i) = (b, j)) := by
  have h1 := eq_str (x := a) (y := b)
  have h2 := eq_int (i := i) (j := j)
  simp only [eqD, pyD, pyDs, PyData.eqv, PyData.eqvAll] at h1 h2 ⊢
  rw [h1, h2]
  by_cases e : a = b <;> by_cases e2 : i = j <;> simp [e, e2]
theorem ok_tupmap {α : Type} {k : α → D} {xs : List α} (h : ∀ x ∈ xs, okN 49 (k x) = true) : okD (.tup (xs.map k)) := by
  show ((xs.map k).all (okN 49)) = true
  simpa [List.all_eq_true] using h
theorem ok_lstmap {α : Type} {k : α → D} {xs : List α} (h : ∀ x ∈ xs, okN 49 (k x) = true) : okD (.lst (xs.map k)) := by
  show ((xs.map k).all (okN 49)) = true
  simpa [List.all_eq_true] using h
theorem okn_str {n : Nat} {x : List Nat} (h : ∀ c ∈ x, c < 256) : okN n (.str x) = true := by
  have e : okN n (.str x) = x.all (· < 0x110000) := by cases n <;> rfl
  rw [e]
  simp
  intro c hc
  have := h c hc
  omega
end DL
namespace DL
open PySem PySem.Spec PyProof.Rows L2
theorem forGo_inv {α : Type} {k : α → D} {g : DTG} {tb : DTS} {DD : DEnds} {ok : GH → Prop} (I : List α → DSt → GH → Prop)
    (step : ∀ x ys ρ G, I (x :: ys) ρ G → ok G ∧ ∀ K : DSt → GH → Prop, (∀ ρ' G', I ys ρ' G' → K ρ' G') → g (k x) ρ G fun ρ1 G1 => tb { DD with nx := K, ct := K, bk := DD.nx } ρ1 G1) (fin : ∀ ρ G, I [] ρ G → ok G ∧ DD.nx ρ G) :
    ∀ (xs : List α) (ρ : DSt) (G : GH), I xs ρ G → forGo g tb DD ok (xs.map k) ρ G
  | [], ρ, G, h => fin ρ G h
  | x :: xs, ρ, G, h => ⟨(step x xs ρ G h).1, (step x xs ρ G h).2 _ fun ρ' G' h' => forGo_inv I step fin xs ρ' G' h'⟩
theorem forGo_rng {g : DTG} {tb : DTS} {DD : DEnds} {ok : GH → Prop} {n : Nat} {ρ : DSt} {G : GH} (I : Nat → DSt → GH → Prop)
    (step : ∀ i ρ G, i < n → I i ρ G → ok G ∧ ∀ K : DSt → GH → Prop, (∀ ρ' G', I (i + 1) ρ' G' → K ρ' G') → g (.int i) ρ G fun ρ1 G1 => tb { DD with nx := K, ct := K, bk := DD.nx } ρ1 G1) (fin : ∀ ρ G, I n ρ G → ok G ∧ DD.nx ρ G) (h0 : I 0 ρ G) :
    forGo g tb DD ok (rngD 0 n) ρ G := by
  have e : rngD 0 n = (List.range n).map fun (i : Nat) => D.int (i : Nat) := by simp [rngD]
  rw [e]
  refine forGo_inv (fun ys ρ G => ∃ i, ys = (List.range n).drop i ∧ i ≤ n ∧ I i ρ G) (fun x ys ρ G ⟨i, e, hi, h⟩ => ?_) (fun ρ G ⟨i, e, hi, h⟩ => ?_) _ ρ G ⟨0, by simp, by omega, h0⟩
  · have hlt : i < n := by
      by_cases z : i < n
      · exact z
      · rw [List.drop_eq_nil_of_le (by simp; omega)] at e
        cases e
    rw [List.drop_eq_getElem_cons (by simpa using hlt)] at e
    injection e with e1 e2
    have e3 : x = i := by simpa using e1
    subst e3
    obtain ⟨a, b⟩ := step x ρ G hlt h
    exact ⟨a, fun K hK => b K fun ρ' G' h' => hK _ _ ⟨x + 1, e2, hlt, h'⟩⟩
  · have : i = n := by
      by_cases z : i < n
      · rw [List.drop_eq_getElem_cons (by simpa using z)] at e
        cases e
      · omega
    subst this
    exact fin ρ G h
theorem lcGo_inv {α : Type} {k : α → D} {g : DTG} {tt : DTT} {te : DTE} {ρ : DSt} {ok : GH → Prop} {Q : DK} (I : List α → List D → GH → Prop)
    (step : ∀ x ys acc G, I (x :: ys) acc G → ok G ∧ ∀ K : List D → GH → Prop, (∀ acc' G', I ys acc' G' → K acc' G') → g (k x) ρ G fun ρ1 G1 => tt ρ1 G1 fun b G2 => if b = true then te ρ1 G2 fun d G3 => acc.length < sizeLine ∧ K (acc ++ [d]) G3 else K acc G2) (fin : ∀ acc G, I [] acc G → ok G ∧ Q (.lst acc) G) :
    ∀ (xs : List α) (acc : List D) (G : GH), I xs acc G → lcGo g tt te ρ ok Q (xs.map k) acc G
  | [], acc, G, h => fin acc G h
  | x :: xs, acc, G, h => ⟨(step x xs acc G h).1, (step x xs acc G h).2 (fun acc' G' => lcGo g tt te ρ ok Q (xs.map k) acc' G') fun acc' G' h' => lcGo_inv I step fin xs acc' G' h'⟩
end DL
namespace DL
open PySem PySem.Spec PyProof.Rows L2
theorem cut_to {α : Type} {xs : List α} {k : Nat} : cutD xs none (some (k : Int)) = xs.take k := by
  simp only [cutD, HT.sIx_none, HT.sIx_nat, List.drop_zero, Nat.sub_zero]
  rw [List.take_eq_take_iff]
  omega
theorem cut_from {α : Type} {xs : List α} {k : Nat} : cutD xs (some (k : Int)) none = xs.drop k := by
  simp only [cutD, HT.sIx_none, HT.sIx_nat]
  by_cases h : k ≤ xs.length
  · rw [Nat.min_eq_left h]
    exact List.take_of_length_le (by simp)
  · rw [List.drop_eq_nil_of_le (by omega), List.drop_eq_nil_of_le (by omega)]
    simp
end DL
namespace DL
theorem nodup_map_on {α β : Type} {f : α → β} : ∀ {l : List α}, (∀ x ∈ l, ∀ y ∈ l, f x = f y → x = y) → l.Nodup → (l.map f).Nodup
  | [], _, _ => List.nodup_nil
  | x :: l, h, n => by
    rw [List.nodup_cons] at n
    rw [List.map_cons, List.nodup_cons]
    refine ⟨fun hm => ?_, nodup_map_on (fun a ha b hb => h a (by simp [ha]) b (by simp [hb])) n.2⟩
    obtain ⟨y, hy, e⟩ := List.mem_map.mp hm
    have := h y (by simp [hy]) x (by simp) e
    subst this
    exact n.1 hy
end DL
namespace DL
open PySem PySem.Spec PyProof.Rows L2
theorem cut_mid {α : Type} {xs : List α} {a b : Nat} : cutD xs (some (a : Int)) (some (b : Int)) = (xs.take b).drop a := by
  simp only [cutD, HT.sIx_nat]
  apply List.ext_getElem?
  intro i
  by_cases h : a ≤ xs.length
  · rw [Nat.min_eq_left h, List.getElem?_take, List.getElem?_drop, List.getElem?_drop, List.getElem?_take]
    by_cases h1 : i < min b xs.length - a
    · rw [if_pos h1, if_pos (by omega)]
    · rw [if_neg h1]
      by_cases h2 : a + i < b
      · rw [if_pos h2, List.getElem?_eq_none (by omega)]
      · rw [if_neg h2]
  · rw [show min a xs.length = xs.length by omega, List.drop_length, List.drop_eq_nil_of_le (by simp; omega)]
    simp
end DL
namespace DL
open PySem PySem.Spec PyProof.Rows L2
theorem forGo_enum {α : Type} {k : α → D} {g : DTG} {tb : DTS} {DD : DEnds} {ok : GH → Prop} {xs : List α} {ρ : DSt} {G : GH} (I : Nat → DSt → GH → Prop)
    (step : ∀ i x ρ G, xs[i]? = some x → I i ρ G → ok G ∧ ∀ K : DSt → GH → Prop, (∀ ρ' G', I (i + 1) ρ' G' → K ρ' G') → g (.tup [.int i, k x]) ρ G fun ρ1 G1 => tb { DD with nx := K, ct := K, bk := DD.nx } ρ1 G1) (fin : ∀ ρ G, I xs.length ρ G → ok G ∧ DD.nx ρ G) (h0 : I 0 ρ G) :
    forGo g tb DD ok (enumD (xs.map k)) ρ G := by
  have e : enumD (xs.map k) = xs.zipIdx.map fun p => D.tup [.int (p.2 : Nat), k p.1] := by simp [enumD, List.zipIdx_map]
  rw [e]
  have key : ∀ (ys : List α) (i : Nat), xs = xs.take i ++ ys → i + ys.length = xs.length → ∀ ρ G, I i ρ G → forGo g tb DD ok ((ys.zipIdx i).map fun p => D.tup [.int (p.2 : Nat), k p.1]) ρ G := by
    intro ys
    induction ys with
    | nil =>
      intro i _ hl ρ G h
      have : i = xs.length := by simpa using hl
      subst this
      exact fin ρ G h
    | cons y ys ih =>
      intro i hx hl ρ G h
      have hi : xs[i]? = some y := by
        rw [hx, List.getElem?_append_right (by simp; omega)]
        have : (xs.take i).length = i := by simp at hl ⊢; omega
        rw [this]
        simp
      obtain ⟨a, b⟩ := step i y ρ G hi h
      refine ⟨a, b _ fun ρ' G' h' => ih (i + 1) ?_ (by simp at hl; omega) ρ' G' h'⟩
      obtain ⟨hlt, e2⟩ := List.getElem?_eq_some_iff.mp hi
      rw [List.take_succ_eq_append_getElem hlt, e2, List.append_assoc]
      simpa using hx
  exact key xs 0 (by simp) (by simp) ρ G h0
theorem updG_comm {G : GH} {a p : Addr} {o u : DO} (h : a ≠ p) : updG (updG G p u) a o = updG (updG G a o) p u := by
  funext b
  by_cases h1 : b = a
  · subst h1
    rw [updG_same, updG_ne h, updG_same]
  · by_cases h2 : b = p
    · subst h2
      rw [updG_ne h1, updG_same, updG_same]
    · rw [updG_ne h1, updG_ne h2, updG_ne h2, updG_ne h1]
end DL
namespace DL
open PySem PySem.Spec PyProof.Rows L2
theorem spl1 {s : Nat} : ∀ (l acc : List Nat), TL.spl [s] 0 acc l ≠ [] ∧ (TL.spl [s] 0 acc l).length ≤ l.length + 1 ∧ ∀ p ∈ TL.spl [s] 0 acc l, p.length ≤ acc.length + l.length ∧ ∀ c ∈ p, c ∈ acc ∨ c ∈ l
  | [], acc => by
    rw [TL.spl_nil]
    refine ⟨by simp, by simp, fun p hp => ?_⟩
    rw [List.mem_singleton.mp hp]
    exact ⟨by simp, fun c hc => .inl hc⟩
  | x :: l, acc => by
    cases h : TL.pre [s] (x :: l) with
    | true =>
      rw [TL.spl_hit h]
      obtain ⟨h1, h2, h3⟩ := spl1 (s := s) l []
      refine ⟨by simp, by simp at h2 ⊢; omega, fun p hp => ?_⟩
      rcases List.mem_cons.mp hp with e | hp
      · rw [e]
        exact ⟨by omega, fun c hc => .inl hc⟩
      · obtain ⟨h4, h5⟩ := h3 p (by simpa using hp)
        exact ⟨by simp at h4 ⊢; omega, fun c hc => .inr (by have := h5 c hc; simp at this ⊢; exact .inr this)⟩
    | false =>
      rw [TL.spl_miss h]
      obtain ⟨h1, h2, h3⟩ := spl1 (s := s) l (acc ++ [x])
      refine ⟨h1, by simp at h2 ⊢; omega, fun p hp => ?_⟩
      obtain ⟨h4, h5⟩ := h3 p hp
      refine ⟨by simp at h4 ⊢; omega, fun c hc => ?_⟩
      have := h5 c hc
      simp at this ⊢
      rcases this with (a | a) | a
      · exact .inl a
      · exact .inr (.inl a)
      · exact .inr (.inr a)
theorem split_ne {s : Nat} (t : List Nat) : splitD [s] t ≠ [] := (spl1 t []).1
theorem split_len {s : Nat} (t : List Nat) : (splitD [s] t).length ≤ t.length + 1 := (spl1 t []).2.1
theorem split_mem {s : Nat} {t p : List Nat} (h : p ∈ splitD [s] t) : p.length ≤ t.length ∧ ∀ c ∈ p, c ∈ t := by
  obtain ⟨a, b⟩ := (spl1 t []).2.2 p h
  exact ⟨by simpa using a, fun c hc => by simpa using b c hc⟩
/-- the pieces but the last, and the last -/
theorem split_two {s : Nat} (t : List Nat) : ∃ z, splitD [s] t = (splitD [s] t).dropLast ++ [z] ∧ (splitD [s] t).getLast? = some z := by
  have h := split_ne (s := s) t
  exact ⟨(splitD [s] t).getLast h, (List.dropLast_concat_getLast h).symm, List.getLast?_eq_some_getLast h⟩
end DL
namespace DL
open PySem PySem.Spec PyProof.Rows L2
theorem cut_last {α : Type} {xs : List α} : cutD xs none (some (-1)) = xs.dropLast := by
  have e : HT.sIx xs.length xs.length (some (-1)) = xs.length - 1 := by
    show (if (-1 : Int) < 0 then ((-1 : Int) + (xs.length : Int)).toNat else min (-1 : Int).toNat xs.length) = _
    rw [if_pos (by decide)]
    omega
  simp only [cutD, HT.sIx_none, e, List.drop_zero, Nat.sub_zero]
  rw [List.dropLast_eq_take]
end DL
set_option Elab.async false
set_option linter.all false
set_option maxRecDepth 100000
set_option maxHeartbeats 1000000
/-! A law's own rule; what its try tells of an exception. -/
namespace DL
open PySem PySem.Spec PyProof.Rows L2
variable {O : AS × Hp}
/-- an exception by its class's name and its field's -/
def xD (p : String × Option String) (d : D) : DX := ⟨p.1, ("code", .str (strN p.1)) :: (match p.2 with | some f => [(f, d)] | none => [])⟩
def spF (tab : List (String × Option String)) : DX → D → Prop := fun x y => ∃ p ∈ tab, x = xD p y ∧ (p.2 = none → y = .non)
def fldNms : List String := ["code", "at", "line", "name", "liquid", "most", "limit", "given"]
structure XfAll (K : PySem.W.Frag) (tab : List (String × Option String)) : Prop where
  all : ∀ p ∈ tab, ∀ f ∈ fldNms, XfK K (gaS K p.1) [Str.ofString f]
theorem XfAll.of {K : PySem.W.Frag} {tab : List (String × Option String)} (X : XfAll K tab) {x : DX} {y : D} {f : String} (h : spF tab x y) (hf : f ∈ fldNms) : XfK K (gaS K x.cls) [Str.ofString f] := by
  obtain ⟨p, hp, rfl, _⟩ := h
  exact X.all p hp f hf
theorem hH {k : Nat} {A : Around} (r : L2H.RoomH k A) : A.units + 64 < cLine := by have := r.un; omega
theorem hH1 {k : Nat} {A : Around} (r : L2H.RoomH k A) : A.units + 65 < cLine := by have := r.un; omega
/-- a function's code object -/
def cdAt (K : PySem.W.Frag) (f : Addr) : Addr := match K.lookup f with
  | some ⟨_, _, .func fd, _⟩ => (match fd.code with
    | .ref c => c
    | _ => 0)
  | _ => 0
theorem cdAt_eq {K : PySem.W.Frag} {f c : Addr} {oc : Value} {od : Option Addr} {osl : Array (Option Value)} {fd : FuncData} (lk : K.lookup f = some ⟨oc, od, .func fd, osl⟩) (e : fd.code = .ref c) : cdAt K f = c := by
  unfold cdAt
  rw [lk]
  dsimp only
  rw [e]
/-- the law's promise: T the table of its code objects -/
def spLaw (K : PySem.W.Frag) (T : Addr) (n : Nat) : Sp := fun vs H Q _ => ∃ (a : Addr) (ns : List Int), vs = [.ref a] ∧ ns.length ≤ n ∧ (∀ z ∈ ns, Builtin.Int.intBits z ≤ 1048576) ∧ a ≠ T ∧ H T = some (.tbl #[]) ∧ Rd H a (.lst (ns.map V.int)) ∧ ∀ H', Q (.bl true) H'
def asT (T : Addr) (nm : Nat → Nat → Str) : AS := ⟨fun b => if b = T then some (.tab nm) else none, fun _ => False⟩
theorem emb_tab {K : PySem.W.Frag} {H : Hp} {T : Addr} {nm : Nat → Nat → Str} (h : H T = some (.tbl #[])) : EmbH K (asT T nm) H := by
  refine ⟨fun b o e => ?_, fun b p => False.elim p⟩
  have e2 : (if b = T then some (DO.tab nm) else none) = some o := e
  by_cases hb : b = T
  · subst hb
    rw [if_pos rfl] at e2
    cases e2
    refine ⟨_, h, #[], rfl, trivial, fun pos cv hc => ?_⟩
    cases hc
  · rw [if_neg hb] at e2
    cases e2
theorem scr_ints {K : PySem.W.Frag} {G : AS} {H : Hp} : ∀ ns : List Int, Rs K G H (ns.map D.int) (ns.map V.int)
  | [] => .nil
  | n :: ns => .cons (.int n) (scr_ints ns)
section
variable {P : Program} {w : World} {K : PySem.W.Frag} {mg : Str → Option Value} {base : Heap} {x qual p : Str} {params : Arguments} {body : List Stmt} {scope : Scope} {dvs : List V} {kws : List (Str × V)} {f : Addr} {fd : FuncData}
theorem d_okL {N : List Str} {k n : Nat} {T : Addr} {nm : Nat → Nat → Str} {t : List (Str × Addr) → DTS} (F : FunD K x qual params body scope dvs kws f fd) (S : FnScope N [p] scope)
    (hd : ∀ (A : Around) (outer : List Env) (s : Shared) (H : Hp) (O : AS × Hp), Room k (A.deeper (envOfC qual scope s.heap.objs.size f (.ref (cdAt K f)))) → XO (cxOf (L2N.CX P w) P w K mg base N qual scope f (.ref (cdAt K f)) A outer s H E0) O Ed0 E0 →
      DSs (cxOf (L2N.CX P w) P w K mg base N qual scope f (.ref (cdAt K f)) A outer s H E0) O body (t (cellsFrom (s.heap.objs.size + 1) scope.names [])))
    (hr : ∀ (m : Nat) (ns : List Int) (G : GH), ns.length ≤ n → (∀ z ∈ ns, Builtin.Int.intBits z ≤ 1048576) → G T = some (.tab nm) → (∀ b, b ≠ T → G b = none) → t (cellsFrom (m + 1) scope.names []) { nx := fun _ _ => False, rt := fun d _ => d = .bl true } (dstart N [.scr (ns.map .int)]) G) :
    FnOk P w K mg base (L2N.CX P w) (k + 1) f fd [p] (fun vs H Q E => spLaw K T n vs H Q E ∧ E = E0) := by
  obtain ⟨oc, od, dV, kV, doc, pm, an, cdv, ct, osl, rfl, lk, hcd, _, _⟩ := F.ex
  obtain ⟨c, rfl⟩ : ∃ c, cdv = .ref c := by
    cases cdv with
    | ref c => exact ⟨c, rfl⟩
    | _ => cases hcd
  have ec := cdAt_eq lk (c := c) rfl
  subst ec
  refine fn_of lk hcd S (fun vs H Q E h => ?_) fun A outer s H vs Q E hroom h => ?_
  · obtain ⟨⟨a, ns, rfl, _⟩, _⟩ := h
    rfl
  · obtain ⟨⟨a, ns, rfl, hl, hb, ha, hT, hR, q⟩, rfl⟩ := h
    have hun : (asT T nm).un a := ⟨if_neg ha, fun z => z⟩
    have R1 : Rs K (asT T nm) H [.scr (ns.map .int)] [.ref a] := .cons (.scr hun hR (scr_ints ns)) .nil
    refine ⟨_, hd A outer s H (asT T nm, H) hroom ⟨L2N.takes_of rfl rfl rfl rfl, fun _ _ _ _ _ _ _ _ z => z.elim⟩, dstart N [.scr (ns.map .int)], asT T nm, _, emb_start R1 (emb_tab hT), hr _ ns _ hl hb (if_pos rfl) (fun b hb => if_neg hb), ?_⟩
    refine ⟨fun _ _ _ _ _ _ z => z.elim, fun v H' d G' r _ _ e => ?_, fun _ _ _ _ _ _ z => z.elim, fun _ _ _ _ _ _ z => z.elim⟩
    subst e
    cases r
    exact q H'
end
end DL
namespace DL
open PySem PySem.Spec PyProof.Rows L2
variable {O : AS × Hp}
/-- a def that is handed closures, by its name -/
structure ClK (P : Program) (w : World) (K : PySem.W.Frag) (mg : Str → Option Value) (base : Heap) (x : String) (j : Nat) (ps : List Str) (spB : Sp) : Prop where
  ex : ∃ fd, FnOk P w K mg base (L2N.CX P w) j (gaS K x) fd ps spB ∧ Binds K fd ps []
  gl : mg (Str.ofString x) = some (.ref (gaS K x))
  kp : PySem.W.keepIn K (.ref (gaS K x)) = true
theorem de_boundF {X : Cx} {k j : Nat} {ps : List Str} {x : String} {spB : Sp} {bd : CloS → List D → GH → DK → Prop} {e : Expr} {te : DTE} {p pos : Pos} (C : CalleeC X.prog X.w X.K X.mg X.base k spB bd) (F : ClK X.prog X.w X.K X.mg X.base x j ps spB) (hfn : ∀ x, X.fn x = true) (hr : Room j X.A) (ha : DE X O e te) (hg : Gl X (Str.ofString x) := by rfl)
    (hdb : (Str.ofString x == ("__debug__" : Str)) = false := by decide) (hs : starEach (e :: []) X.env = (false, eval e X.env) :: starEach [] X.env := by rfl) (hpl : (backTo pos (starEach [] X.env)).any (·.1) = false := by rfl) :
    DE X O (.Call (.Name (Str.ofString x) p) [e] [] pos) (dBound X.prog X.w X.K X.mg X.base k X.N X.env.scope X.env.cells bd te) := by
  obtain ⟨fd, F1, b⟩ := F.ex
  exact de_bound C F1 hfn hr hg F.gl F.kp b ha hdb hs hpl
/-- the def that reads an exception's field, by its name -/
structure FldK (P : Program) (w : World) (K : PySem.W.Frag) (mg : Str → Option Value) (base : Heap) (x : String) (k : Nat) (ps : List Str) (sp : DX → D → Prop) : Prop where
  ex : ∃ fd, FldOk P w K mg base k (gaS K x) ps fd sp ∧ Binds K fd ps []
  gl : mg (Str.ofString x) = some (.ref (gaS K x))
  kp : PySem.W.keepIn K (.ref (gaS K x)) = true
theorem bind_dfl {s : Shared} {fd : FuncData} {T : Addr} {o : Obj} {n : Nat} {t : Tok} {x : Str} (ho : s.heap.get? T = some o) (hd : o.data = .seq #[.int 0 t] n) (h : ∃ k, bindArgs fd ⟨[], []⟩ = seqItems? (.ref T) >>= k ∧ k (some #[.int 0 t]) = pure [(x, .int 0 t)]) : BindsTo s fd ⟨[], []⟩ [(x, .int 0 t)] := by
  obtain ⟨k, e1, e2⟩ := h
  refine BindsTo.of_looks fun M => ?_
  rw [e1]
  exact fun A Q E s' kp q => wpAny_bind (wpAny_seqItems (kp _ _ ho) hd (by rw [e2]; exact wpAny_pure q))
end DL
namespace DL
open PySem
/-! ### parts of a text by their places -/
def noE : Expr := .Constant .none 0 ⟨0, 0, 0, 0⟩
def noS : Stmt := .Pass ⟨0, 0, 0, 0⟩
def sBody (i : Nat) : Stmt → Stmt
  | .For _ _ b _ _ => b.getD i noS
  | .While _ b _ _ => b.getD i noS
  | .If _ b _ _ => b.getD i noS
  | _ => noS
def sElse (i : Nat) : Stmt → Stmt
  | .If _ _ b _ => b.getD i noS
  | _ => noS
def sVal : Stmt → Expr
  | .Assign _ v _ => v
  | .Expr v _ => v
  | .Return (some v) _ => v
  | .If t _ _ _ => t
  | .For _ it _ _ _ => it
  | _ => noE
def eSub (i : Nat) : Expr → Expr
  | .Call _ a _ _ => a.getD i noE
  | .List es _ => es.getD i noE
  | .Tuple es _ _ => es.getD i noE
  | .UnaryOp _ e _ => e
  | .BoolOp _ es _ => es.getD i noE
  | .BinOp l _ r _ => match i with
    | 0 => l
    | _ => r
  | .Compare l _ cs _ => match i with
    | 0 => l
    | i + 1 => cs.getD i noE
  | .IfExp t b e _ => match i with
    | 0 => t
    | 1 => b
    | _ => e
  | .Subscript v _ _ => v
  | .Attribute v _ _ => v
  | .ListComp e _ _ _ => e
  | _ => noE
def eFun : Expr → Expr
  | .Call f _ _ _ => f
  | _ => noE
def lamT : Expr → Arguments × Expr × Scope
  | .Lambda a b s _ => (a, b, s)
  | _ => (⟨[], [], none, [], [], none, []⟩, noE, ⟨.function, [], false, false, []⟩)
end DL
set_option Elab.async false
set_option linter.all false
set_option maxRecDepth 100000
set_option maxHeartbeats 1000000
/-! What the head tells: facts by names, looked up in the kernel. -/
namespace DL
open PySem PySem.Spec PyProof.Rows L2
open He (ba eqO eqO_ok relB relB_ok relAll relAll_ok ga ma)
open PySem.EXI
abbrev Frg := PySem.W.Frag
/-- .type "list" -/
def isLst (o : Obj) : Bool := decide (o.cls = .type "list")
/-- what is looked at: no empty table, no list -/
def frZ (g : Addr → Option Obj) (n : Nat) : Frg := (He.frG g (He5.asA g n)).filter fun q => !(He.emptyTab q.2 || isLst q.2)
theorem frZ_mem {g : Addr → Option Obj} {n : Nat} {a : Addr} {o : Obj} (h : (frZ g n).lookup a = some o) : g a = some o ∧ He.emptyTab o = false ∧ isLst o = false := by
  obtain ⟨h1, h2⟩ := List.mem_filter.mp (He.lookup_mem h)
  have h3 : (!(He.emptyTab o || isLst o)) = true := h2
  simp only [Bool.not_eq_true', Bool.or_eq_false_iff] at h3
  exact ⟨He.frG_mem h1, h3.1, h3.2⟩
/-! ### the facts -/
inductive Fz where
  | fa (f : He.Fa)
  | cv (C f : String) (i : Int)
  | isi (C : String) (tT tC : List (String × Bool))
  | tup (x : String) (ys : List (List Nat))
  | exc (C : String) (fo : Option String) (k : Nat)
  | exm (C : String) (cs : List String)
  | xf (C : String)
  | own (C : String)
  | cm (C m : String)
def cvB (K : Frg) (C f : String) (i : Int) : Bool := PySem.W.readsIn K (gaS K C) (.type "type") && (eqO (PySem.W.specialIn K (.ref (gaS K C)) "__getattribute__") (some (some (.builtin "type.__getattribute__"))) && (match PySem.W.findCls K (.ref (gaS K C)) (.type "type") (Str.ofString f) with
  | some (.val u) => relB (.int i) u
  | _ => false))
theorem cvB_ok {K : Frg} {C f : String} {i : Int} (h : cvB K C f i = true) : CvK K C f i := by
  obtain ⟨h1, h⟩ := ba h
  obtain ⟨h2, h3⟩ := ba h
  cases e : PySem.W.findCls K (.ref (gaS K C)) (.type "type") (Str.ofString f) with
  | none => rw [e] at h3; cases h3
  | some r =>
    rw [e] at h3
    cases r with
    | val u => exact ⟨.type "type", u, ⟨h1, eqO_ok h2⟩, ⟨e, relB_ok h3⟩⟩
    | get a b c d => cases h3
def isiB (K : Frg) (C : String) (tT tC : List (String × Bool)) : Bool := (tT.all fun p => decide (PySem.W.kitOne K (.type p.1) (.ref (gaS K C)) = some p.2)) && ((tC.all fun p => decide (PySem.W.kitOne K (.ref (gaS K p.1)) (.ref (gaS K C)) = some p.2)) &&
  ((tC.all fun p => (He.Fa.cls (Str.ofString p.1)).ok K && (eqO (PySem.W.findIn K (.ref (gaS K p.1)) "__class__") (some (some (.builtin "object.__class__"))) && decide (PySem.W.mroIn K (gaS K p.1) (.type "object") = some true))) &&
  (eqO (PySem.W.specialIn K (.builtin "object.__class__") "__get__") (some (some (.builtin "getset_descriptor.__get__"))) && decide (PySem.W.takesIn K (.builtin "object.__class__") = some true))))
theorem isiB_ok {K : Frg} {C : String} {tT tC : List (String × Bool)} (h : isiB K C tT tC = true) : IsiK K C tT tC := by
  obtain ⟨h1, h⟩ := ba h
  obtain ⟨h2, h⟩ := ba h
  obtain ⟨h3, h⟩ := ba h
  obtain ⟨h4, h5⟩ := ba h
  refine ⟨fun p hp => of_decide_eq_true (List.all_eq_true.mp h1 p hp), fun p hp => of_decide_eq_true (List.all_eq_true.mp h2 p hp), fun p hp => ?_, eqO_ok h4, of_decide_eq_true h5⟩
  obtain ⟨a, b⟩ := ba (List.all_eq_true.mp h3 p hp)
  obtain ⟨b, c⟩ := ba b
  exact ⟨He.cls_ok a, eqO_ok b, of_decide_eq_true c⟩
def tupZ (K : Frg) (x : String) (ys : List (List Nat)) : Bool := (He.Fa.glo (Str.ofString x)).ok K && (match K.lookup (gaS K x) with
  | some ⟨.type c, none, .seq its _, _⟩ => decide (c = "tuple") && (decide (its.size ≤ sizeLine) && relAll (ys.map sv) its.toList)
  | _ => false)
theorem rs_strs {K : Frg} {G : AS} {H : Hp} : ∀ ys : List (List Nat), Rs K G H (ys.map D.str) (ys.map sv)
  | [] => .nil
  | y :: ys => .cons (.str y) (rs_strs ys)
theorem tupZ_ok {K : Frg} {h : Heap} {mg : Str → Option Value} (X : K.In h) (G : h.Ns mainGlobals mg) {x : String} {ys : List (List Nat)} (c : tupZ K x ys = true) : TupK K mg (Str.ofString x) (.tup (ys.map .str)) := by
  obtain ⟨h1, h2⟩ := ba c
  have hm : mg (Str.ofString x) = some (.ref (gaS K x)) := He.glo_ok X G h1
  cases q : K.lookup (gaS K x) with
  | none => rw [q] at h2; cases h2
  | some o =>
    obtain ⟨oc, od, dt, osl⟩ := o
    rw [q] at h2
    cases oc with
    | type c =>
      cases od with
      | some d => cases dt <;> cases h2
      | none =>
        cases dt with
        | seq its n =>
          obtain ⟨h3, h4⟩ := ba h2
          obtain ⟨h4, h5⟩ := ba h4
          have e := of_decide_eq_true h3
          subst e
          refine ⟨gaS K x, hm, fun G H => .tup (.inr ⟨_, its, n, q, rfl, rfl, of_decide_eq_true h4, relAll_ok h5⟩) (rs_strs ys), _, q, rfl, rfl⟩
        | _ => cases h2
    | _ => cases od <;> cases dt <;> cases h2
/-! #### own exceptions -/
def bxOf : Nat → String × String × String × List Value
  | 0 => ("ValueError", "ValueError.__new__", "ValueError.__init__", [.type "ValueError", .type "Exception", .type "BaseException", .type "object"])
  | 1 => ("LookupError", "LookupError.__new__", "LookupError.__init__", [.type "LookupError", .type "Exception", .type "BaseException", .type "object"])
  | _ => ("IndexError", "IndexError.__new__", "IndexError.__init__", [.type "IndexError", .type "LookupError", .type "Exception", .type "BaseException", .type "object"])
theorem bxOf_ok : ∀ k, BaseX (bxOf k).1 (bxOf k).2.1 (bxOf k).2.2.1 (bxOf k).2.2.2
  | 0 => bxV
  | 1 => bxL
  | _ + 2 => bxI
def fileB (P : Program) (K : Frg) (c : Addr) : Bool := match K.lookup c with
  | some ⟨_, _, .fields vs, _⟩ => (match (vs[2]? : Option Value) with
    | some (.str file _) => (P.main.file : Str) == file
    | _ => false)
  | _ => false
theorem fileB_ok {P : Program} {K : Frg} {cda : Addr} (h : fileB P K cda = true) : ∃ (ccl : Value) (cdd : Option Addr) (vs : Array Value) (ccs : Array (Option Value)) (file : Str) (tf : Tok), K.lookup cda = some ⟨ccl, cdd, .fields vs, ccs⟩ ∧ vs[2]? = some (.str file tf) ∧ ((P.main.file : Str) == file) = true := by
  unfold fileB at h
  split at h
  · rename_i e
    split at h
    · rename_i e2
      exact ⟨_, _, _, _, _, _, e, e2, h⟩
    · cases h
  · cases h
def cellB (K : Frg) (cc C : Addr) : Bool := match K.lookup cc with
  | some ⟨_, _, .cell (some (.ref D)), _⟩ => decide (D = C)
  | _ => false
theorem cellB_ok {K : Frg} {cc C : Addr} (h : cellB K cc C = true) : ∃ (cl : Value) (cld : Option Addr) (csl : Array (Option Value)), K.lookup cc = some ⟨cl, cld, .cell (some (.ref C)), csl⟩ := by
  unfold cellB at h
  split at h
  · rename_i e
    have := of_decide_eq_true h
    subst this
    exact ⟨_, _, _, e⟩
  · cases h
def xcFn (P : Program) (K : Frg) (C fI : Addr) (ps : List Str) (l : List (Str × Src)) : Bool := match K.lookup fI with
  | some ⟨_, _, .func ⟨nm, qn, params, .stmts body, scope, gl, [(y, cc)], .none, .none, _, _, _, .ref cda, _, bi⟩, _⟩ => decide (nm = "__init__") && (decide (gl = mainGlobals) && (decide (y = "__class__") && (decide (bi = builtinsNs) &&
    (PySem.W.codeIn K (.ref cda) qn && (fileB P K cda && (cellB K cc C && (decide (parS params = some ps) && (decide (bodS body = some l) && scpS scope ps))))))))
  | _ => false
theorem xcFn_ok {P : Program} {K : Frg} {C fI : Addr} {ps : List Str} {l : List (Str × Src)} (h : xcFn P K C fI ps l = true) : ∃ (oc : Value) (od : Option Addr) (doc pm : Value) (an : Option Addr) (cda cc : Addr) (ct : Value) (osl : Array (Option Value)) (qual : Str) (params : Arguments) (body : List Stmt) (scope : Scope),
    K.lookup fI = some ⟨oc, od, .func (PySem.W.ksFn "__init__" qual params body scope .none .none doc pm an (.ref cda) ct cc), osl⟩ ∧ PySem.W.codeIn K (.ref cda) qual = true ∧
    (∃ (ccl : Value) (cdd : Option Addr) (vs : Array Value) (ccs : Array (Option Value)) (file : Str) (tf : Tok), K.lookup cda = some ⟨ccl, cdd, .fields vs, ccs⟩ ∧ vs[2]? = some (.str file tf) ∧ ((P.main.file : Str) == file) = true) ∧
    (∃ (cl : Value) (cld : Option Addr) (csl : Array (Option Value)), K.lookup cc = some ⟨cl, cld, .cell (some (.ref C)), csl⟩) ∧ parS params = some ps ∧ BodS body l ∧ scpS scope ps = true := by
  unfold xcFn at h
  split at h
  · rename_i e
    obtain ⟨h1, h⟩ := ba h
    obtain ⟨h2, h⟩ := ba h
    obtain ⟨h3, h⟩ := ba h
    obtain ⟨h4, h⟩ := ba h
    obtain ⟨h5, h⟩ := ba h
    obtain ⟨h6, h⟩ := ba h
    obtain ⟨h7, h⟩ := ba h
    obtain ⟨h8, h⟩ := ba h
    obtain ⟨h9, h10⟩ := ba h
    have e1 := of_decide_eq_true h1
    have e2 := of_decide_eq_true h2
    have e3 := of_decide_eq_true h3
    have e4 := of_decide_eq_true h4
    subst e1 e2 e3 e4
    exact ⟨_, _, _, _, _, _, _, _, _, _, _, _, _, e, h5, fileB_ok h6, cellB_ok h7, of_decide_eq_true h8, bodS_ok (of_decide_eq_true h9), h10⟩
  · cases h
def excB (P : Program) (K : Frg) (C : Addr) (k : Nat) (ps : List Str) (l : List (Str × Src)) : Bool :=
  PySem.W.excInitIn K C (bxOf k).2.2.2 (bxOf k).2.1 && (PySem.W.excOver K C (bxOf k).2.2.2 && (decide (PySem.W.subIn K (.ref C) (.type (bxOf k).1) = some true) && (eqO (PySem.W.ks_superIn K C C "__init__") (some (some (.builtin (bxOf k).2.2.1))) && (PySem.W.hasDictIn K C &&
  (eqO (PySem.W.findIn K (.ref C) "__init__") (some (some (.ref (ma K C "__init__")))) && (decide (PySem.W.typeIn K (.ref (ma K C "__init__")) = some (.type "function")) && (PySem.W.keepIn K (.ref C) && (decide (PySem.W.subIn K (.ref C) (.type "BaseException") = some true) &&
  (decide (PySem.W.typeIn K (.ref C) = some (.type "type")) && ((l.all fun p => eqO ((PySem.W.takerIn K C p.1)) (some none)) && (eqO (PySem.W.findIn K (.ref C) "__setattr__") (some (some (.builtin "object.__setattr__"))) && (eqO (PySem.W.nsIn K cStatics "thirdparty.any") (some none) &&
  (eqO (PySem.W.nsIn K mainGlobals "super") (some none) && (decide (PySem.W.mroIn K C (.ref C) = some true) && (!(P.main.scope.names.lookup ("super" : Str)).isSome && xcFn P K C (ma K C "__init__") ps l)))))))))))))))
theorem excB_ok {P : Program} {K : Frg} {C : Addr} {k : Nat} {ps : List Str} {l : List (Str × Src)} (h : excB P K C k ps l = true) : XcT P K C (ma K C "__init__") ps l := by
  obtain ⟨a1, h⟩ := ba h
  obtain ⟨a2, h⟩ := ba h
  obtain ⟨a3, h⟩ := ba h
  obtain ⟨a4, h⟩ := ba h
  obtain ⟨a5, h⟩ := ba h
  obtain ⟨a6, h⟩ := ba h
  obtain ⟨a7, h⟩ := ba h
  obtain ⟨a8, h⟩ := ba h
  obtain ⟨a9, h⟩ := ba h
  obtain ⟨b1, h⟩ := ba h
  obtain ⟨b2, h⟩ := ba h
  obtain ⟨b3, h⟩ := ba h
  obtain ⟨b4, h⟩ := ba h
  obtain ⟨b5, h⟩ := ba h
  obtain ⟨b6, h⟩ := ba h
  obtain ⟨b7, b8⟩ := ba h
  exact ⟨⟨_, _, _, _, bxOf_ok k, a1, a2, of_decide_eq_true a3, eqO_ok a4⟩, a5, eqO_ok a6, of_decide_eq_true a7, a8, of_decide_eq_true a9, of_decide_eq_true b1, fun p hp => eqO_ok (List.all_eq_true.mp b2 p hp), eqO_ok b3, eqO_ok b4, eqO_ok b5, of_decide_eq_true b6, by simpa using b7, xcFn_ok b8⟩
/-! #### own == -/
def keysB (es : Array DictEntry) : Bool := es.toList.all fun e => match e.key with
  | .str _ _ => true
  | _ => false
theorem keysB_ok {es : Array DictEntry} (h : keysB es = true) : StrKeys es := fun e he => by
  have h1 := List.all_eq_true.mp h e (by simpa using he)
  split at h1
  · rename_i n t e2
    exact ⟨n, t, e2⟩
  · cases h1
def ownB (K : Frg) (C : Addr) : Bool := (match K.lookup C with
  | some ⟨.type t, _, .cls cd, sl⟩ => decide (t = "type") && (!cd.hasDel && ((match cd.mro, sl.toList with
      | [.ref D, .type o], [_, _, _, _, some (.builtin _), _] => decide (D = C) && decide (o = "object")
      | _, _ => false) && (match K.lookup cd.ns with
      | some ⟨_, _, .dict es _, _⟩ => keysB es && (decide (nsFind es "__eq__" = some (.ref (ma K C "__eq__"))) && decide (nsFind es "__ne__" = none))
      | _ => false)))
  | _ => false) && (decide (PySem.W.typeIn K (.ref (ma K C "__eq__")) = some (.type "function")) && eqO (PySem.W.findIn K (.ref C) "__eq__") (some (some (.ref (ma K C "__eq__")))))
theorem ownB_ok {K : Frg} {C : Addr} (h : ownB K C = true) : OwnNe K C (ma K C "__eq__") := by
  obtain ⟨h, h2⟩ := ba h
  obtain ⟨h2, h3⟩ := ba h2
  refine ⟨?_, of_decide_eq_true h2, eqO_ok h3⟩
  split at h
  · rename_i t dd cd sl e
    obtain ⟨c1, h⟩ := ba h
    obtain ⟨c2, h⟩ := ba h
    obtain ⟨c3, c4⟩ := ba h
    have e1 := of_decide_eq_true c1
    subst e1
    split at c3
    · rename_i D o k0 k1 k2 k3 nid k5 m1 m2
      obtain ⟨d1, d2⟩ := ba c3
      have e2 := of_decide_eq_true d1
      have e3 := of_decide_eq_true d2
      subst e2 e3
      split at c4
      · rename_i oc od es n osl e4
        obtain ⟨f1, f2⟩ := ba c4
        obtain ⟨f2, f3⟩ := ba f2
        obtain ⟨n1, n2, n3, n4, n5, n6, n7, n8, n9, n10, n11⟩ := cd
        have m2' : sl = #[k0, k1, k2, k3, some (.builtin nid), k5] := by
          apply Array.toList_inj.mp
          rw [m2]
        have m1' : n3 = [.ref D, .type "object"] := m1
        have c2' : n11 = false := by simpa using c2
        subst m1' m2' c2'
        exact ⟨_, _, _, _, _, _, _, _, _, _, _, _, _, _, _, _, es, n, oc, od, osl, e, e4, keysB_ok f1, of_decide_eq_true f2, of_decide_eq_true f3⟩
      · cases c4
    · cases c3
  · cases h
/-! #### all -/
def Fz.ok (P : Program) (K : Frg) : Fz → Bool
  | .fa f => f.ok K
  | .cv C f i => cvB K C f i
  | .isi C tT tC => isiB K C tT tC
  | .tup x ys => tupZ K x ys
  | .exc C fo k => (He.Fa.glo (Str.ofString C)).ok K && excB P K (gaS K C) k (psX fo) (lX fo C)
  | .exm C cs => decide (PySem.W.exmAny K (.ref (gaS K C)) (cs.map fun c => .ref (gaS K c)) = some true)
  | .xf C => xfB K (gaS K C) && fldNms.all fun f => eqO (PySem.W.findIn K (.ref (gaS K C)) (Str.ofString f)) (some none)
  | .own C => ownB K (gaS K C)
  | .cm C m => PySem.W.readsIn K (gaS K C) (.type "type") && (eqO (PySem.W.specialIn K (.ref (gaS K C)) "__getattribute__") (some (some (.builtin "type.__getattribute__"))) && (He5.wrapB K (gaS K C) "classmethod" "classmethod.__get__" (Str.ofString m) && PySem.W.fnIn K (He5.wf K (gaS K C) "classmethod" (Str.ofString m))))
section
variable {P : Program} {K : Frg} {h : Heap} {mg : Str → Option Value}
theorem exc_okZ (X : K.In h) (G : h.Ns mainGlobals mg) {C : String} {fo : Option String} {k : Nat} (bd : BindX fo) (ne : ∀ f ∈ fo, f ≠ "self" ∧ f ≠ "__debug__") (c : (Fz.exc C fo k).ok P K = true) : XcK P K mg C fo C := by
  obtain ⟨h1, h2⟩ := ba c
  exact ⟨⟨_, excB_ok h2⟩, He.glo_ok X G h1, bd, ne⟩
theorem xf_okZ {C : String} (c : (Fz.xf C).ok P K = true) {f : String} (hf : f ∈ fldNms) : XfK K (gaS K C) [Str.ofString f] := by
  obtain ⟨h1, h2⟩ := ba c
  exact ⟨xfB_ok h1, fun g hg => by rw [List.mem_singleton.mp hg]; exact eqO_ok (List.all_eq_true.mp h2 f hf)⟩
theorem cm_okZ {C m : String} (c : (Fz.cm C m).ok P K = true) : ClX.CRead K (gaS K C) (.type "type") ∧ ClX.CMet K (gaS K C) (.type "type") (Str.ofString m) (ma K (gaS K C) (Str.ofString m)) (He5.wf K (gaS K C) "classmethod" (Str.ofString m)) := by
  obtain ⟨h1, c⟩ := ba c
  obtain ⟨h2, c⟩ := ba c
  obtain ⟨h3, h4⟩ := ba c
  exact ⟨⟨h1, eqO_ok h2⟩, He5.cmet_of h3 h4⟩
theorem int_okZ (X : K.In h) (G : h.Ns mainGlobals mg) {x : Str} {i : Int} (c : (Fz.fa (.int x i)).ok P K = true) : ∃ u, mg x = some u ∧ RelV (.int i) u := by
  obtain ⟨t, e⟩ := He.int_ok X G c
  exact ⟨_, e, t, rfl⟩
theorem str_okZ (X : K.In h) (G : h.Ns mainGlobals mg) {x : Str} {s : List Nat} (c : (Fz.fa (.str x ⟨s.toArray⟩)).ok P K = true) : ∃ u, mg x = some u ∧ RelV (sv s) u := by
  obtain ⟨t, e⟩ := He.str_ok X G c
  exact ⟨_, e, t, rfl⟩
end
/-! ### the hook -/
structure SaysZ (P : Program) (fz : List Fz) (fn : List He5.DefA) (h : Heap) (K : Frg) : Prop where
  fns : fn.map (fun d => He5.fnA K (d.at_ K)) = fn.map He5.DefA.val
  dok : (fn.all fun d => d.ok K) = true
  fok : (fz.all fun f => f.ok P K) = true
  hd : PySem.W.codeHdIn K (cdAt K (gaS K "law")) (He.tabOf K (cdAt K (gaS K "law"))) = true
  out : K.lookup (He.tabOf K (cdAt K (gaS K "law"))) = none
  empty : h.get? (He.tabOf K (cdAt K (gaS K "law"))) = some { cls := .none, data := .fields #[] }
  nolst : ∀ a o, K.lookup a = some o → o.cls ≠ .type "list"
def tabZ (g : Addr → Option Obj) (K : Frg) : Bool := PySem.W.codeHdIn K (cdAt K (gaS K "law")) (He.tabOf K (cdAt K (gaS K "law"))) && (match g (He.tabOf K (cdAt K (gaS K "law"))) with
  | some o => He.emptyTab o
  | none => false)
abbrev AlZ : Type := Bool × List He5.FnW
def obsZ (P : Program) (n : Nat) (fz : List Fz) (fn : List He5.DefA) (g : Addr → Option Obj) : AlZ := ((fn.all fun d => d.ok (frZ g n)) && ((fz.all fun f => f.ok P (frZ g n)) && tabZ g (frZ g n)), fn.map fun d => He5.fnA (frZ g n) (d.at_ (frZ g n)))
def valZ (fn : List He5.DefA) : AlZ := (true, fn.map He5.DefA.val)
theorem saysZ_of {P : Program} {n : Nat} {fz : List Fz} {fn : List He5.DefA} {h : Heap} (e : obsZ P n fz fn h.get? = valZ fn) : SaysZ P fz fn h (frZ h.get? n) := by
  have e1 : ((fn.all fun d => d.ok (frZ h.get? n)) && ((fz.all fun f => f.ok P (frZ h.get? n)) && tabZ h.get? (frZ h.get? n))) = true := congrArg (fun z : AlZ => z.1) e
  obtain ⟨h1, h2⟩ := ba e1
  obtain ⟨h2, h3⟩ := ba h2
  obtain ⟨h4, h5⟩ := ba h3
  have key : ∃ o, h.get? (He.tabOf (frZ h.get? n) (cdAt (frZ h.get? n) (gaS (frZ h.get? n) "law"))) = some o ∧ He.emptyTab o = true := by
    cases q : h.get? (He.tabOf (frZ h.get? n) (cdAt (frZ h.get? n) (gaS (frZ h.get? n) "law"))) with
    | none => rw [q] at h5; cases h5
    | some o => rw [q] at h5; exact ⟨o, rfl, h5⟩
  obtain ⟨o, q, ho⟩ := key
  refine ⟨congrArg (fun z : AlZ => z.2) e, h1, h2, h4, ?_, by rw [q, He.emptyTab_eq ho], fun a o ha z => ?_⟩
  · cases q2 : (frZ h.get? n).lookup (He.tabOf (frZ h.get? n) (cdAt (frZ h.get? n) (gaS (frZ h.get? n) "law"))) with
    | none => rfl
    | some u =>
      obtain ⟨z1, z2, _⟩ := frZ_mem q2
      rw [q] at z1
      cases z1
      rw [ho] at z2
      cases z2
  · obtain ⟨_, _, z3⟩ := frZ_mem ha
    exact absurd (decide_eq_true z) (by unfold isLst at z3; rw [z3]; simp)
def hookZ (P : Program) (n : Nat) (fz : List Fz) (fn : List He5.DefA) : PySem.W.Hook where
  α := AlZ
  obs := fun s => obsZ P n fz fn s.heap.get?
  val := fun _ => valZ fn
  says := fun _ h => ∃ K : Frg, K.In h ∧ SaysZ P fz fn h K
  of := fun _ _ e => ⟨_, fun _ _ e => (frZ_mem e).1, saysZ_of e⟩
  keeps := fun _ _ _ ⟨K, hK, c⟩ k => ⟨K, PySem.W.Frag.In.keeps hK k, ⟨c.fns, c.dok, c.fok, c.hd, c.out, k _ _ c.empty, c.nolst⟩⟩
theorem obsZ_eq {P : Program} {n : Nat} {fz : List Fz} {fn : List He5.DefA} {g : Addr → Option Obj} {s : Shared} (h : ∀ a, g a = s.heap.get? a) : obsZ P n fz fn g = (hookZ P n fz fn).obs s := by
  have e : g = s.heap.get? := funext h
  rw [e]
  rfl
theorem SaysZ.fact {P : Program} {fz : List Fz} {fn : List He5.DefA} {h : Heap} {K : Frg} (c : SaysZ P fz fn h K) (i : Nat) {f : Fz} (e : fz[i]? = some f := by rfl) : f.ok P K = true := List.all_eq_true.mp c.fok f (List.mem_of_getElem? e)
theorem SaysZ.def_ {P : Program} {fz : List Fz} {fn : List He5.DefA} {h : Heap} {K : Frg} (c : SaysZ P fz fn h K) (i : Nat) {d : He5.DefA} (e : fn[i]? = some d := by rfl) : ∃ fd, FunD K d.name d.qual d.params d.body d.scope (d.dvs K) (d.kws K) (d.at_ K) fd := by
  have e2 : (fn.map fun d => He5.fnA K (d.at_ K))[i]? = (fn.map He5.DefA.val)[i]? := by rw [c.fns]
  rw [List.getElem?_map, List.getElem?_map, e] at e2
  exact He5.DefA.funD (Option.some.inj e2) (List.all_eq_true.mp c.dok d (List.mem_of_getElem? e))
end DL
set_option Elab.async false
set_option linter.all false
set_option maxRecDepth 100000
set_option maxHeartbeats 4000000
/-! k06: readings, promises, and the plain proofs. -/
namespace LK06
open PySem DL
abbrev lower (c : Nat) : Prop := 97 ≤ c ∧ c ≤ 122
abbrev txt (s : List Nat) : Prop := s.length ≤ 10000 ∧ ∀ c ∈ s, c < 256
def nameB (s : List Nat) : Bool := decide (1 ≤ s.length) && decide (s.length ≤ 6) && s.all fun c => decide (97 ≤ c) && decide (c ≤ 122)
abbrev N_is_number : List Str := ["value", "least", "most"]
def t_is_number (Ed : DXK) : DTS := dRet (dAndV (dCB rIsiD (dCons (dVar 0) (dCons (dC (.ty "int")) (dNil)))) (dAndV (dNotV (dCB rIsiD (dCons (dVar 0) (dCons (dC (.ty "bool")) (dNil))))) (dChain rLeD rLeD (dVar 1) (dVar 0) (dVar 2))))
def sp_is_number : DSp := fun ds G Q _ => ∃ i l m : Int, ds = [.int i, .int l, .int m] ∧ Q (.bl (decide (l ≤ i) && decide (i ≤ m))) G
theorem l_is_number {ds G Q Ed} (h : sp_is_number ds G Q Ed) : ds.length = 3 := by
  obtain ⟨_, _, _, rfl, _⟩ := h; rfl
theorem r_is_number (ds : List D) (G : GH) (Qd : DK) (Ed : DXK) (h : sp_is_number ds G Qd Ed) : t_is_number (rtX Ed) { nx := fun _ G' => rtF Qd .non G', rt := rtF Qd } (dstart N_is_number ds) G := by
  obtain ⟨i, l, m, rfl, q⟩ := h
  have q := rtF_id q
  simp only [t_is_number, N_is_number, dVar, dC, dOp, dUn, dTest, dChain, dIsN, dNotN, isNo, dAnd, dOr, dNot, dAndV, dOrV, dNotV, dIf, dNil, dCons, dTup, dLst, dLstM, dNext, dSeq, dBreak, dCont, dDrop, dRet, dRetN, dIfS, gN, gsNil, gsCons, gTu, dAsg, gSubD, dPar, dPar3, dFor, dIter, dRng1, dRng2, dEnum, dZipB, dLc, dLcM, mkL, dCall, dFld, dMeth, dCB, dBM, rSubD, rMulD, rFdivD, rModD, rLtD, rLeD, rGtD, rGeD, rNegD, rEqDD, rNeDD, dSl, dPn, dPs, dRev, rIsiC, dStar, dJoined, dJs, gStar, dMake, mkD, dCMeth, dStore, dDGet, dDisp, dRaise, tyM, dstart, wipeD, List.map, List.replicate, List.cons_append, List.nil_append, List.length_cons, List.length_nil, List.set_cons_zero, List.set_cons_succ, List.getElem?_cons_zero, List.getElem?_cons_succ, Option.some.injEq, exists_eq_left, exists_eq_left', D.bl.injEq, D.int.injEq, D.str.injEq, D.tup.injEq, D.lst.injEq, List.cons.injEq, and_true, true_and, if_true, if_false, Bool.false_eq_true, Bool.not_true, Bool.not_false, Nat.reduceSub, Nat.reduceAdd, Nat.zero_add, isi_non, isi_bl, isi_int, isi_str, isi_tup, isi_lst, mt_bool, mt_int, mt_str, mt_list, mt_tuple, len_str, len_lst, len_tup, int_int, int_bl, int_str, str_int, top_int, top_str, top_bl, top_non, top_lst, top_tup, box_lst, box_tup, lst_lst, seq_lst, seq_tup, seq_str, eq_int, eq_str, ix_tup, ix_lst, ix_str, atD_0, atD_1, atD_2, in_sign, tyM, isT, String.reduceBEq, String.reduceEq, Bool.or_true, Bool.or_false, Bool.true_or, Bool.false_or, Bool.and_true, Bool.and_false, Bool.true_and, Bool.false_and, ix_refI, add_int, add_str, add_lst, sl_str, sl_lst, atD_3, atD_4, pow_int, DO.lst.injEq, D.ref.injEq, updG_same, lst_refI, box_refI, set_refI, int2I, app_refI, ext_refI, splitI, joinI, idxI, ixN_51, ixN_52, ixN_53, ixN_54, ixN_30, ixN_31, ixN_32, okD_intI, okD_blI, okD_nonI, DL.updG2, List.length_set, Option.some.injEq, decide_eq_true_eq, decide_true, decide_false]
  by_cases h1 : l ≤ i <;> simp [h1] at q ⊢ <;> exact q
abbrev N_is_name : List Str := ["value", "sign"]
def t_is_name (Ed : DXK) : DTS := dRet (dAndV (dCB rIsiD (dCons (dVar 0) (dCons (dC (.ty "str")) (dNil)))) (dAndV (dChain rLeD rLeD (dC (.int 1)) (dCB rLenD (dCons (dVar 0) (dNil))) (dC (.int 6))) (dCB rAllD (dCons (dLc (dIter (dVar 0)) (gN 1) (dYes) (dOp (rInD false) (dVar 1) (dC (.str [97, 98, 99, 100, 101, 102, 103, 104, 105, 106, 107, 108, 109, 110, 111, 112, 113, 114, 115, 116, 117, 118, 119, 120, 121, 122]))) [1]) (dNil)))))
def sp_is_name : DSp := fun ds G Q _ => ∃ s, ds = [.str s] ∧ txt s ∧ Q (.bl (nameB s)) G
theorem l_is_name {ds G Q Ed} (h : sp_is_name ds G Q Ed) : ds.length = 1 := by
  obtain ⟨_, rfl, _⟩ := h; rfl
theorem alpha_mem {c : Nat} : c ∈ ([97, 98, 99, 100, 101, 102, 103, 104, 105, 106, 107, 108, 109, 110, 111, 112, 113, 114, 115, 116, 117, 118, 119, 120, 121, 122] : List Nat) ↔ 97 ≤ c ∧ c ≤ 122 := by
  simp only [List.mem_cons, List.not_mem_nil, or_false]
  omega
theorem r_is_name (ds : List D) (G : GH) (Qd : DK) (Ed : DXK) (h : sp_is_name ds G Qd Ed) : t_is_name (rtX Ed) { nx := fun _ G' => rtF Qd .non G', rt := rtF Qd } (dstart N_is_name ds) G := by
  obtain ⟨s, rfl, ht, q⟩ := h
  have q := rtF_id q
  have hz : s.length ≤ sizeLine := by have := size_ge; have := ht.1; omega
  simp only [t_is_name, N_is_name, dVar, dC, dOp, dUn, dTest, dChain, dIsN, dNotN, isNo, dAnd, dOr, dNot, dAndV, dOrV, dNotV, dIf, dNil, dCons, dTup, dLst, dLstM, dNext, dSeq, dBreak, dCont, dDrop, dRet, dRetN, dIfS, gN, gsNil, gsCons, gTu, dAsg, gSubD, dPar, dPar3, dFor, dIter, dRng1, dRng2, dEnum, dZipB, dLc, dLcM, mkL, dCall, dFld, dMeth, dCB, dBM, rSubD, rMulD, rFdivD, rModD, rLtD, rLeD, rGtD, rGeD, rNegD, rEqDD, rNeDD, dSl, dPn, dPs, dRev, rIsiC, dStar, dJoined, dJs, gStar, dMake, mkD, dCMeth, dStore, dDGet, dDisp, dRaise, tyM, dstart, wipeD, List.map, List.replicate, List.cons_append, List.nil_append, List.length_cons, List.length_nil, List.set_cons_zero, List.set_cons_succ, List.getElem?_cons_zero, List.getElem?_cons_succ, Option.some.injEq, exists_eq_left, exists_eq_left', D.bl.injEq, D.int.injEq, D.str.injEq, D.tup.injEq, D.lst.injEq, List.cons.injEq, and_true, true_and, if_true, if_false, Bool.false_eq_true, Bool.not_true, Bool.not_false, Nat.reduceSub, Nat.reduceAdd, Nat.zero_add, isi_non, isi_bl, isi_int, isi_str, isi_tup, isi_lst, mt_bool, mt_int, mt_str, mt_list, mt_tuple, len_str, len_lst, len_tup, int_int, int_bl, int_str, str_int, top_int, top_str, top_bl, top_non, top_lst, top_tup, box_lst, box_tup, lst_lst, seq_lst, seq_tup, seq_str, eq_int, eq_str, ix_tup, ix_lst, ix_str, atD_0, atD_1, atD_2, in_sign, tyM, isT, String.reduceBEq, String.reduceEq, Bool.or_true, Bool.or_false, Bool.true_or, Bool.false_or, Bool.and_true, Bool.and_false, Bool.true_and, Bool.false_and, ix_refI, add_int, add_str, add_lst, sl_str, sl_lst, atD_3, atD_4, pow_int, DO.lst.injEq, D.ref.injEq, updG_same, lst_refI, box_refI, set_refI, int2I, app_refI, ext_refI, splitI, joinI, idxI, ixN_51, ixN_52, ixN_53, ixN_54, ixN_30, ixN_31, ixN_32, okD_intI, okD_blI, okD_nonI, DL.updG2, List.length_set, Option.some.injEq, decide_eq_true_eq, decide_true, decide_false]
  refine ⟨hz, ?_⟩
  by_cases h1 : (1 : Int) ≤ s.length
  · simp only [h1, decide_true, if_true]
    by_cases h2 : (s.length : Int) ≤ 6
    · simp only [h2, decide_true, if_true]
      refine lc_map0 (f := fun c => .bl (decide (97 ≤ c) && decide (c ≤ 122))) trivial (fun c hc Q' q' => ?_) hz (all_map ?_)
      · simp only [dVar, dC, dOp, dUn, dTest, dChain, dIsN, dNotN, isNo, dAnd, dOr, dNot, dAndV, dOrV, dNotV, dIf, dNil, dCons, dTup, dLst, dLstM, dNext, dSeq, dBreak, dCont, dDrop, dRet, dRetN, dIfS, gN, gsNil, gsCons, gTu, dAsg, gSubD, dPar, dPar3, dFor, dIter, dRng1, dRng2, dEnum, dZipB, dLc, dLcM, mkL, dCall, dFld, dMeth, dCB, dBM, rSubD, rMulD, rFdivD, rModD, rLtD, rLeD, rGtD, rGeD, rNegD, rEqDD, rNeDD, dSl, dPn, dPs, dRev, rIsiC, dStar, dJoined, dJs, gStar, dMake, mkD, dCMeth, dStore, dDGet, dDisp, dRaise, tyM, dstart, wipeD, List.map, List.replicate, List.cons_append, List.nil_append, List.length_cons, List.length_nil, List.set_cons_zero, List.set_cons_succ, List.getElem?_cons_zero, List.getElem?_cons_succ, Option.some.injEq, exists_eq_left, exists_eq_left', D.bl.injEq, D.int.injEq, D.str.injEq, D.tup.injEq, D.lst.injEq, List.cons.injEq, and_true, true_and, if_true, if_false, Bool.false_eq_true, Bool.not_true, Bool.not_false, Nat.reduceSub, Nat.reduceAdd, Nat.zero_add, isi_non, isi_bl, isi_int, isi_str, isi_tup, isi_lst, mt_bool, mt_int, mt_str, mt_list, mt_tuple, len_str, len_lst, len_tup, int_int, int_bl, int_str, str_int, top_int, top_str, top_bl, top_non, top_lst, top_tup, box_lst, box_tup, lst_lst, seq_lst, seq_tup, seq_str, eq_int, eq_str, ix_tup, ix_lst, ix_str, atD_0, atD_1, atD_2, in_sign, tyM, isT, String.reduceBEq, String.reduceEq, Bool.or_true, Bool.or_false, Bool.true_or, Bool.false_or, Bool.and_true, Bool.and_false, Bool.true_and, Bool.false_and, ix_refI, add_int, add_str, add_lst, sl_str, sl_lst, atD_3, atD_4, pow_int, DO.lst.injEq, D.ref.injEq, updG_same, lst_refI, box_refI, set_refI, int2I, app_refI, ext_refI, splitI, joinI, idxI, ixN_51, ixN_52, ixN_53, ixN_54, ixN_30, ixN_31, ixN_32, okD_intI, okD_blI, okD_nonI, DL.updG2, List.length_set, Option.some.injEq, decide_eq_true_eq, decide_true, decide_false]
        rw [decide_eq_decide.mpr alpha_mem, Bool.decide_and]
        exact q'
      · have e : nameB s = s.all fun c => decide (97 ≤ c) && decide (c ≤ 122) := by
          simp [nameB, show 1 ≤ s.length by omega, show s.length ≤ 6 by omega]
        rw [← e]; exact q
    · simp only [h2, decide_false, if_false, Bool.false_eq_true]
      have e : nameB s = false := by simp [nameB, show ¬ s.length ≤ 6 by omega]
      rw [← e]; exact q
  · simp only [h1, decide_false, if_false, Bool.false_eq_true]
    have e : nameB s = false := by simp [nameB, show ¬ 1 ≤ s.length by omega]
    rw [← e]; exact q
def digV : List Nat → Int
  | [c] => if 48 ≤ c ∧ c ≤ 57 then ((c - 48 : Nat) : Int) else -1
  | _ => -1
abbrev N_digits_in : List Str := ["word", "most", "sign"]
def t_digits_in (Ed : DXK) : DTS := dSeq (dIfS (dOr (dNot (dTest (dChain rLeD rLeD (dC (.int 1)) (dCB rLenD (dCons (dVar 0) (dNil))) (dVar 1)))) (dNot (dTest (dCB rAllD (dCons (dLc (dIter (dVar 0)) (gN 2) (dYes) (dOp (rInD false) (dVar 2) (dC (.str [48, 49, 50, 51, 52, 53, 54, 55, 56, 57]))) [2]) (dNil)))))) (dRet (dUn rNegD (dC (.int 1)))) (dNext)) (dRet (dIf (dTest (dOp rNeDD (dVar 0) (dCB rStrD (dCons (dCB rIntD (dCons (dVar 0) (dNil))) (dNil))))) (dUn rNegD (dC (.int 1))) (dCB rIntD (dCons (dVar 0) (dNil)))))
def sp_digits_in : DSp := fun ds G Q _ => ∃ s, ds = [.str s, .int 1] ∧ txt s ∧ Q (.int (digV s)) G
theorem l_digits_in {ds G Q Ed} (h : sp_digits_in ds G Q Ed) : ds.length = 2 := by
  obtain ⟨_, rfl, _⟩ := h; rfl
theorem dig_mem {c : Nat} : c ∈ ([48, 49, 50, 51, 52, 53, 54, 55, 56, 57] : List Nat) ↔ 48 ≤ c ∧ c ≤ 57 := by
  simp only [List.mem_cons, List.not_mem_nil, or_false]
  omega
theorem dig_all {P : Nat → Prop} (h : ∀ c ∈ ([48, 49, 50, 51, 52, 53, 54, 55, 56, 57] : List Nat), P c) {c : Nat} (h1 : 48 ≤ c) (h2 : c ≤ 57) : P c := h c (dig_mem.mpr ⟨h1, h2⟩)
theorem dig_int {c : Nat} (h1 : 48 ≤ c) (h2 : c ≤ 57) : PySem.intText? ⟨#[c]⟩ = some ((c - 48 : Nat) : Int) := dig_all (P := fun c => PySem.intText? ⟨#[c]⟩ = some ((c - 48 : Nat) : Int)) (by decide +kernel) h1 h2
theorem dig_num {c : Nat} (h1 : 48 ≤ c) (h2 : c ≤ 57) : numD ((c - 48 : Nat) : Int) = [c] := dig_all (P := fun c => numD ((c - 48 : Nat) : Int) = [c]) (by decide +kernel) h1 h2
theorem r_digits_in (ds : List D) (G : GH) (Qd : DK) (Ed : DXK) (h : sp_digits_in ds G Qd Ed) : t_digits_in (rtX Ed) { nx := fun _ G' => rtF Qd .non G', rt := rtF Qd } (dstart N_digits_in ds) G := by
  obtain ⟨s, rfl, ht, q⟩ := h
  have q := rtF_id q
  have hz : s.length ≤ sizeLine := by have := size_ge; have := ht.1; omega
  simp only [t_digits_in, N_digits_in, dVar, dC, dOp, dUn, dTest, dChain, dIsN, dNotN, isNo, dAnd, dOr, dNot, dAndV, dOrV, dNotV, dIf, dNil, dCons, dTup, dLst, dLstM, dNext, dSeq, dBreak, dCont, dDrop, dRet, dRetN, dIfS, gN, gsNil, gsCons, gTu, dAsg, gSubD, dPar, dPar3, dFor, dIter, dRng1, dRng2, dEnum, dZipB, dLc, dLcM, mkL, dCall, dFld, dMeth, dCB, dBM, rSubD, rMulD, rFdivD, rModD, rLtD, rLeD, rGtD, rGeD, rNegD, rEqDD, rNeDD, dSl, dPn, dPs, dRev, rIsiC, dStar, dJoined, dJs, gStar, dMake, mkD, dCMeth, dStore, dDGet, dDisp, dRaise, tyM, dstart, wipeD, List.map, List.replicate, List.cons_append, List.nil_append, List.length_cons, List.length_nil, List.set_cons_zero, List.set_cons_succ, List.getElem?_cons_zero, List.getElem?_cons_succ, Option.some.injEq, exists_eq_left, exists_eq_left', D.bl.injEq, D.int.injEq, D.str.injEq, D.tup.injEq, D.lst.injEq, List.cons.injEq, and_true, true_and, if_true, if_false, Bool.false_eq_true, Bool.not_true, Bool.not_false, Nat.reduceSub, Nat.reduceAdd, Nat.zero_add, isi_non, isi_bl, isi_int, isi_str, isi_tup, isi_lst, mt_bool, mt_int, mt_str, mt_list, mt_tuple, len_str, len_lst, len_tup, int_int, int_bl, int_str, str_int, top_int, top_str, top_bl, top_non, top_lst, top_tup, box_lst, box_tup, lst_lst, seq_lst, seq_tup, seq_str, eq_int, eq_str, ix_tup, ix_lst, ix_str, atD_0, atD_1, atD_2, in_sign, tyM, isT, String.reduceBEq, String.reduceEq, Bool.or_true, Bool.or_false, Bool.true_or, Bool.false_or, Bool.and_true, Bool.and_false, Bool.true_and, Bool.false_and, ix_refI, add_int, add_str, add_lst, sl_str, sl_lst, atD_3, atD_4, pow_int, DO.lst.injEq, D.ref.injEq, updG_same, lst_refI, box_refI, set_refI, int2I, app_refI, ext_refI, splitI, joinI, idxI, ixN_51, ixN_52, ixN_53, ixN_54, ixN_30, ixN_31, ixN_32, okD_intI, okD_blI, okD_nonI, DL.updG2, List.length_set, Option.some.injEq, decide_eq_true_eq, decide_true, decide_false]
  refine ⟨hz, ?_⟩
  by_cases h1 : s.length = 1
  · obtain ⟨c, rfl⟩ := List.length_eq_one_iff.mp h1
    simp
    refine lc_map0 (xs := [c]) (k := fun c => D.str [c]) (f := fun c => .bl (decide (c ∈ ([48, 49, 50, 51, 52, 53, 54, 55, 56, 57] : List Nat)))) trivial (fun x hx Q' q' => ?_) hz (all_map (xs := [c]) ?_)
    · simp only [dVar, dC, dOp, dUn, dTest, dChain, dIsN, dNotN, isNo, dAnd, dOr, dNot, dAndV, dOrV, dNotV, dIf, dNil, dCons, dTup, dLst, dLstM, dNext, dSeq, dBreak, dCont, dDrop, dRet, dRetN, dIfS, gN, gsNil, gsCons, gTu, dAsg, gSubD, dPar, dPar3, dFor, dIter, dRng1, dRng2, dEnum, dZipB, dLc, dLcM, mkL, dCall, dFld, dMeth, dCB, dBM, rSubD, rMulD, rFdivD, rModD, rLtD, rLeD, rGtD, rGeD, rNegD, rEqDD, rNeDD, dSl, dPn, dPs, dRev, rIsiC, dStar, dJoined, dJs, gStar, dMake, mkD, dCMeth, dStore, dDGet, dDisp, dRaise, tyM, dstart, wipeD, List.map, List.replicate, List.cons_append, List.nil_append, List.length_cons, List.length_nil, List.set_cons_zero, List.set_cons_succ, List.getElem?_cons_zero, List.getElem?_cons_succ, Option.some.injEq, exists_eq_left, exists_eq_left', D.bl.injEq, D.int.injEq, D.str.injEq, D.tup.injEq, D.lst.injEq, List.cons.injEq, and_true, true_and, if_true, if_false, Bool.false_eq_true, Bool.not_true, Bool.not_false, Nat.reduceSub, Nat.reduceAdd, Nat.zero_add, isi_non, isi_bl, isi_int, isi_str, isi_tup, isi_lst, mt_bool, mt_int, mt_str, mt_list, mt_tuple, len_str, len_lst, len_tup, int_int, int_bl, int_str, str_int, top_int, top_str, top_bl, top_non, top_lst, top_tup, box_lst, box_tup, lst_lst, seq_lst, seq_tup, seq_str, eq_int, eq_str, ix_tup, ix_lst, ix_str, atD_0, atD_1, atD_2, in_sign, tyM, isT, String.reduceBEq, String.reduceEq, Bool.or_true, Bool.or_false, Bool.true_or, Bool.false_or, Bool.and_true, Bool.and_false, Bool.true_and, Bool.false_and, ix_refI, add_int, add_str, add_lst, sl_str, sl_lst, atD_3, atD_4, pow_int, DO.lst.injEq, D.ref.injEq, updG_same, lst_refI, box_refI, set_refI, int2I, app_refI, ext_refI, splitI, joinI, idxI, ixN_51, ixN_52, ixN_53, ixN_54, ixN_30, ixN_31, ixN_32, okD_intI, okD_blI, okD_nonI, DL.updG2, List.length_set, Option.some.injEq, decide_eq_true_eq, decide_true, decide_false]
      exact q'
    · by_cases hd : c ∈ ([48, 49, 50, 51, 52, 53, 54, 55, 56, 57] : List Nat)
      · obtain ⟨h3, h4⟩ := dig_mem.mp hd
        have e := dig_int h3 h4
        have e2 := dig_num h3 h4
        have e3 : digV [c] = ((c - 48 : Nat) : Int) := by simp [digV, h3, h4]
        rw [e3] at q
        simp [hd, dVar, dC, dOp, dUn, dTest, dChain, dIsN, dNotN, isNo, dAnd, dOr, dNot, dAndV, dOrV, dNotV, dIf, dNil, dCons, dTup, dLst, dLstM, dNext, dSeq, dBreak, dCont, dDrop, dRet, dRetN, dIfS, gN, gsNil, gsCons, gTu, dAsg, gSubD, dPar, dPar3, dFor, dIter, dRng1, dRng2, dEnum, dZipB, dLc, dLcM, mkL, dCall, dFld, dMeth, dCB, dBM, rSubD, rMulD, rFdivD, rModD, rLtD, rLeD, rGtD, rGeD, rNegD, rEqDD, rNeDD, dSl, dPn, dPs, dRev, rIsiC, dStar, dJoined, dJs, gStar, dMake, mkD, dCMeth, dStore, dDGet, dDisp, dRaise, tyM, dstart, wipeD, List.map, List.replicate, List.cons_append, List.nil_append, List.length_cons, List.length_nil, List.set_cons_zero, List.set_cons_succ, List.getElem?_cons_zero, List.getElem?_cons_succ, Option.some.injEq, exists_eq_left, exists_eq_left', D.bl.injEq, D.int.injEq, D.str.injEq, D.tup.injEq, D.lst.injEq, List.cons.injEq, and_true, true_and, if_true, if_false, Bool.false_eq_true, Bool.not_true, Bool.not_false, Nat.reduceSub, Nat.reduceAdd, Nat.zero_add, isi_non, isi_bl, isi_int, isi_str, isi_tup, isi_lst, mt_bool, mt_int, mt_str, mt_list, mt_tuple, len_str, len_lst, len_tup, int_int, int_bl, int_str, str_int, top_int, top_str, top_bl, top_non, top_lst, top_tup, box_lst, box_tup, lst_lst, seq_lst, seq_tup, seq_str, eq_int, eq_str, ix_tup, ix_lst, ix_str, atD_0, atD_1, atD_2, in_sign, tyM, isT, String.reduceBEq, String.reduceEq, Bool.or_true, Bool.or_false, Bool.true_or, Bool.false_or, Bool.and_true, Bool.and_false, Bool.true_and, Bool.false_and, ix_refI, add_int, add_str, add_lst, sl_str, sl_lst, atD_3, atD_4, pow_int, DO.lst.injEq, D.ref.injEq, updG_same, lst_refI, box_refI, set_refI, int2I, app_refI, ext_refI, splitI, joinI, idxI, ixN_51, ixN_52, ixN_53, ixN_54, ixN_30, ixN_31, ixN_32, okD_intI, okD_blI, okD_nonI, DL.updG2, List.length_set, Option.some.injEq, decide_eq_true_eq, decide_true, decide_false, e, e2]
        exact .inr ⟨by simpa using hd, by have := Nat.log2_le_self (c - 48); omega, ok_str ht.2, q⟩
      · simp [hd]
        have e3 : digV [c] = -1 := by
          have : ¬ (48 ≤ c ∧ c ≤ 57) := fun z => hd (dig_mem.mpr z)
          simp [digV, this]
        rw [e3] at q
        exact .inl ⟨by simpa using hd, q⟩
  · have e3 : digV s = -1 := by
      match s, h1 with
      | [], _ => rfl
      | [c], h => exact absurd rfl h
      | _ :: _ :: _, _ => rfl
    rw [e3] at q
    by_cases h2 : (1 : Int) ≤ s.length
    · have h3 : ¬ (s.length : Int) ≤ 1 := by omega
      simp [h2, h3]
      exact q
    · simp [h2]
      exact q
abbrev N_is_vat : List Str := ["value"]
def t_is_vat (Ed : DXK) : DTS := dSeq (dIfS (dOr (dNot (dTest (dCB rIsiD (dCons (dVar 0) (dCons (dC (.ty "tuple")) (dNil)))))) (dTest (dOp rNeDD (dCB rLenD (dCons (dVar 0) (dNil))) (dC (.int 2))))) (dRet (dC (.bl false))) (dNext)) (dRet (dAndV (dCall sp_is_name Ed (dCons (dOp rIxD (dVar 0) (dC (.int 0))) (dNil)) []) (dCall sp_is_number Ed (dCons (dOp rIxD (dVar 0) (dC (.int 1))) (dCons (dC (.int 1)) (dCons (dC (.int 6)) (dNil)))) [])))
def sp_is_vat : DSp := fun ds G Q _ => ∃ s i, ds = [.tup [.str s, .int i]] ∧ txt s ∧ Q (.bl (nameB s && (decide (1 ≤ i) && decide (i ≤ 6)))) G
theorem l_is_vat {ds G Q Ed} (h : sp_is_vat ds G Q Ed) : ds.length = 1 := by
  obtain ⟨_, _, rfl, _⟩ := h; rfl
theorem r_is_vat (ds : List D) (G : GH) (Qd : DK) (Ed : DXK) (h : sp_is_vat ds G Qd Ed) : t_is_vat (rtX Ed) { nx := fun _ G' => rtF Qd .non G', rt := rtF Qd } (dstart N_is_vat ds) G := by
  obtain ⟨s, i, rfl, ht, q⟩ := h
  have q := rtF_id q
  simp only [t_is_vat, N_is_vat, dVar, dC, dOp, dUn, dTest, dChain, dIsN, dNotN, isNo, dAnd, dOr, dNot, dAndV, dOrV, dNotV, dIf, dNil, dCons, dTup, dLst, dLstM, dNext, dSeq, dBreak, dCont, dDrop, dRet, dRetN, dIfS, gN, gsNil, gsCons, gTu, dAsg, gSubD, dPar, dPar3, dFor, dIter, dRng1, dRng2, dEnum, dZipB, dLc, dLcM, mkL, dCall, dFld, dMeth, dCB, dBM, rSubD, rMulD, rFdivD, rModD, rLtD, rLeD, rGtD, rGeD, rNegD, rEqDD, rNeDD, dSl, dPn, dPs, dRev, rIsiC, dStar, dJoined, dJs, gStar, dMake, mkD, dCMeth, dStore, dDGet, dDisp, dRaise, tyM, dstart, wipeD, List.map, List.replicate, List.cons_append, List.nil_append, List.length_cons, List.length_nil, List.set_cons_zero, List.set_cons_succ, List.getElem?_cons_zero, List.getElem?_cons_succ, Option.some.injEq, exists_eq_left, exists_eq_left', D.bl.injEq, D.int.injEq, D.str.injEq, D.tup.injEq, D.lst.injEq, List.cons.injEq, and_true, true_and, if_true, if_false, Bool.false_eq_true, Bool.not_true, Bool.not_false, Nat.reduceSub, Nat.reduceAdd, Nat.zero_add, isi_non, isi_bl, isi_int, isi_str, isi_tup, isi_lst, mt_bool, mt_int, mt_str, mt_list, mt_tuple, len_str, len_lst, len_tup, int_int, int_bl, int_str, str_int, top_int, top_str, top_bl, top_non, top_lst, top_tup, box_lst, box_tup, lst_lst, seq_lst, seq_tup, seq_str, eq_int, eq_str, ix_tup, ix_lst, ix_str, atD_0, atD_1, atD_2, in_sign, tyM, isT, String.reduceBEq, String.reduceEq, Bool.or_true, Bool.or_false, Bool.true_or, Bool.false_or, Bool.and_true, Bool.and_false, Bool.true_and, Bool.false_and, ix_refI, add_int, add_str, add_lst, sl_str, sl_lst, atD_3, atD_4, pow_int, DO.lst.injEq, D.ref.injEq, updG_same, lst_refI, box_refI, set_refI, int2I, app_refI, ext_refI, splitI, joinI, idxI, ixN_51, ixN_52, ixN_53, ixN_54, ixN_30, ixN_31, ixN_32, okD_intI, okD_blI, okD_nonI, DL.updG2, List.length_set, Option.some.injEq, decide_eq_true_eq, decide_true, decide_false]
  simp
  refine ⟨s, rfl, ht, ?_⟩
  cases h1 : nameB s <;> simp [h1] at q ⊢
  · exact q
  · exact ⟨i, 1, 6, rfl, q⟩
abbrev sVat : List Nat := [118, 97, 116]
abbrev sFloat : List Nat := [102, 108, 111, 97, 116]
abbrev sOutlet : List Nat := [111, 117, 116, 108, 101, 116]
abbrev v_WORDS : D := .tup [.str sVat, .str sFloat, .str sOutlet]
structure Rows where
  v : List (List Nat × Int)
  f : List (List Nat)
  o : List (List Nat)
abbrev vatD (p : List Nat × Int) : D := .tup [.str p.1, .int p.2]
def Rows.d (r : Rows) : D := .dic [(.str sVat, .lst (r.v.map vatD)), (.str sFloat, .lst (r.f.map .str)), (.str sOutlet, .lst (r.o.map .str))]
def Rows.names (r : Rows) : List (List Nat) := r.v.map (·.1) ++ (r.f ++ r.o)
structure Rows.part (r : Rows) : Prop where
  v4 : r.v.length ≤ 4
  f2 : r.f.length ≤ 2
  o2 : r.o.length ≤ 2
  sz : ∀ p ∈ r.v, 1 ≤ p.2 ∧ p.2 ≤ 6
  ok : ∀ x ∈ r.names, nameB x = true
  nd : r.names.Nodup
structure Rows.good (r : Rows) : Prop where
  p : r.part
  v1 : r.v ≠ []
def Rows.spec (r : Rows) : D := .tup [.lst (r.v.map vatD), .lst (r.f.map .str), .lst (r.o.map .str)]
def Rows.fs (r : Rows) : List (String × D) := [("own_vats", .tup (r.v.map vatD)), ("own_floats", .tup (r.f.map .str)), ("own_outlets", .tup (r.o.map .str))]
def vatL (p : List Nat × Int) : List Nat := sVat ++ 32 :: (p.1 ++ 32 :: numD p.2)
def Rows.lines (r : Rows) : List (List Nat) := r.v.map vatL ++ (r.f.map (fun x => sFloat ++ 32 :: x) ++ r.o.map fun x => sOutlet ++ 32 :: x)
def Rows.text (r : Rows) : List Nat := r.lines.flatMap (· ++ [10])
/-! what read_lines makes of its lines -/
def kindW (w : List Nat) : Option Nat := if w = sVat then some 0 else if w = sFloat then some 1 else if w = sOutlet then some 2 else none
def stepW (r : Rows) (last k : Nat) (rest : List (List Nat)) : Option Rows :=
  if k < last then none
  else match k, rest with
  | 0, [n, z] => if nameB n && !decide (n ∈ r.names) && decide (r.v.length < 4) && decide (1 ≤ digV z) && decide (digV z ≤ 6) then some { r with v := r.v ++ [(n, digV z)] } else none
  | 1, [n] => if nameB n && !decide (n ∈ r.names) && decide (r.f.length < 2) then some { r with f := r.f ++ [n] } else none
  | 2, [n] => if nameB n && !decide (n ∈ r.names) && decide (r.o.length < 2) then some { r with o := r.o ++ [n] } else none
  | _, _ => none
def step1 (st : Rows × Nat) (line : List Nat) : Option (Rows × Nat) :=
  match splitD [32] line with
  | w :: rest => match kindW w with
    | some k => (stepW st.1 st.2 k rest).map fun r => (r, k)
    | none => none
  | [] => none
def rdGo : List (List Nat) → Rows × Nat → Nat → Except Nat Rows
  | [], st, _ => .ok st.1
  | l :: ls, st, at_ => match step1 st l with
    | some st' => rdGo ls st' (at_ + 1)
    | none => .error at_
def rd (ls : List (List Nat)) : Except Nat Rows := rdGo ls (⟨[], [], []⟩, 0) 0
def fault (ls : List (List Nat)) : Option Nat := match rd ls with
  | .error n => some n
  | .ok r => if r.v = [] then some ls.length else none
abbrev badX (C f : String) (d : D) : DX := ⟨C, [("code", .str (strN C)), (f, d)]⟩
abbrev badText (n : Nat) : DX := badX "InvalidText" "line" (.int n)
def short (ls : List (List Nat)) : Prop := ls.length ≤ 10000 ∧ ∀ l ∈ ls, txt l
theorem insD_new {d : D} {G : GH} {p : Addr} {o : DO} {x : String × List (String × D)} (h : insD d G = some x) (hn : G p = none) : insD d (updG G p o) = some x := by
  cases d with
  | ref a =>
    have ha : a ≠ p := fun z => by
      subst z
      simp [insD, hn] at h
    simpa [insD, updG_ne ha] using h
  | _ => exact h
theorem name_len {s : List Nat} (h : nameB s = true) : 1 ≤ s.length ∧ s.length ≤ 6 ∧ ∀ c ∈ s, 97 ≤ c ∧ c ≤ 122 := by
  simp only [nameB, Bool.and_eq_true, decide_eq_true_eq, List.all_eq_true] at h
  exact ⟨h.1.1, h.1.2, h.2⟩
theorem num_small {i : Int} (h1 : 1 ≤ i) (h2 : i ≤ 6) : numD i = [48 + i.toNat] := by
  have : i = 1 ∨ i = 2 ∨ i = 3 ∨ i = 4 ∨ i = 5 ∨ i = 6 := by omega
  rcases this with rfl | rfl | rfl | rfl | rfl | rfl <;> decide +kernel
structure Line (l : List Nat) : Prop where
  len : l.length ≤ 20
  chr : ∀ c ∈ l, 32 ≤ c ∧ c ≤ 122
theorem vat_line {r : Rows} (h : r.part) {p : List Nat × Int} (hp : p ∈ r.v) : Line (vatL p) ∧ p.1.length ≤ 6 ∧ numD p.2 = [48 + p.2.toNat] ∧ 1 ≤ p.2 ∧ p.2 ≤ 6 := by
  obtain ⟨a, b⟩ := h.sz p hp
  obtain ⟨c, d, e⟩ := name_len (h.ok p.1 (by simp only [Rows.names, List.mem_append, List.mem_map]; exact .inl ⟨p, hp, rfl⟩))
  have z := num_small a b
  refine ⟨⟨by simp [vatL, z]; omega, fun x hx => ?_⟩, d, z, a, b⟩
  simp [vatL, z] at hx
  rcases hx with rfl | rfl | rfl | rfl | hx | rfl | rfl
  all_goals first | omega | exact ⟨by have := (e _ hx).1; omega, (e _ hx).2⟩
theorem str_line {r : Rows} (h : r.part) {s : List Nat} (hs : s ∈ r.f ∨ s ∈ r.o) (w : List Nat) (hw : w.length ≤ 6 ∧ ∀ c ∈ w, 32 ≤ c ∧ c ≤ 122) : Line (w ++ 32 :: s) ∧ s.length ≤ 6 := by
  obtain ⟨c, d, e⟩ := name_len (h.ok s (by simp only [Rows.names, List.mem_append]; exact .inr hs))
  refine ⟨⟨by simp; omega, fun x hx => ?_⟩, d⟩
  simp at hx
  rcases hx with hx | rfl | hx
  · exact hw.2 x hx
  · omega
  · exact ⟨by have := (e _ hx).1; omega, (e _ hx).2⟩
theorem wf6 : sFloat.length ≤ 6 ∧ ∀ c ∈ sFloat, 32 ≤ c ∧ c ≤ 122 := by decide
theorem wo6 : sOutlet.length ≤ 6 ∧ ∀ c ∈ sOutlet, 32 ≤ c ∧ c ≤ 122 := by decide
theorem lines_ok {r : Rows} (h : r.part) : r.lines.length ≤ 8 ∧ ∀ l ∈ r.lines, Line l := by
  have := h.v4
  have := h.f2
  have := h.o2
  refine ⟨by simp [Rows.lines]; omega, fun l hl => ?_⟩
  simp only [Rows.lines, List.mem_append, List.mem_map] at hl
  rcases hl with ⟨p, hp, rfl⟩ | ⟨s, hs, rfl⟩ | ⟨s, hs, rfl⟩
  · exact (vat_line h hp).1
  · exact (str_line h (.inl hs) _ wf6).1
  · exact (str_line h (.inr hs) _ wo6).1
theorem join_nil : ∀ ys : List (List Nat), joinD [] ys = ys.flatten
  | [] => rfl
  | [y] => by simp [joinD, TL.joinL]
  | y :: z :: ys => by
    have := join_nil (z :: ys)
    simp only [joinD] at this ⊢
    simp [TL.joinL, this]
theorem sum_le {k : Nat} : ∀ {ys : List (List Nat)}, (∀ y ∈ ys, y.length ≤ k) → (ys.map (·.length)).sum ≤ k * ys.length
  | [], _ => by simp
  | y :: ys, h => by
    have h1 := h y (by simp)
    have h2 := sum_le (k := k) (ys := ys) fun z hz => h z (by simp [hz])
    simp only [List.map_cons, List.sum_cons, List.length_cons, Nat.mul_add, Nat.mul_one]
    omega
theorem chr_lt {s : List Nat} (h : nameB s = true) : ∀ c ∈ s, c < 256 := fun c hc => by have := (name_len h).2.2 c hc; omega
abbrev strsO (l : List (List Nat)) : DO := .lst (l.map .str)
theorem take_snoc {α : Type} {xs : List α} {i : Nat} {x : α} (h : xs[i]? = some x) : xs.take (i + 1) = xs.take i ++ [x] := by
  obtain ⟨hlt, e⟩ := List.getElem?_eq_some_iff.mp h
  rw [List.take_succ_eq_append_getElem hlt, e]
theorem not_before {xs : List (List Nat)} {i : Nat} {x : List Nat} (nd : xs.Nodup) (h : xs[i]? = some x) : x ∉ xs.take i := fun hm => by
  obtain ⟨j, hj, e⟩ := List.mem_take_iff_getElem.mp hm
  obtain ⟨hlt, e2⟩ := List.getElem?_eq_some_iff.mp h
  exact List.pairwise_iff_getElem.mp nd j i (by omega) hlt (by omega) (e.trans e2.symm)
theorem part_perm {r r' : Rows} {n : List Nat} (h : r.part) (hn : nameB n = true) (hm : n ∉ r.names) (hp : r'.names.Perm (n :: r.names)) : (∀ x ∈ r'.names, nameB x = true) ∧ r'.names.Nodup := by
  refine ⟨fun x hx => ?_, ?_⟩
  · rcases List.mem_cons.mp (hp.mem_iff.mp hx) with rfl | hx
    · exact hn
    · exact h.ok x hx
  · rw [hp.nodup_iff, List.nodup_cons]
    exact ⟨hm, h.nd⟩
theorem step_part {r r' : Rows} {last k : Nat} {rest : List (List Nat)} (h : r.part) (e : stepW r last k rest = some r') : r'.part := by
  unfold stepW at e
  split at e
  · cases e
  · split at e
    · split at e
      · rename_i n z _ hc
        cases e
        simp only [Bool.and_eq_true, decide_eq_true_eq, Bool.not_eq_true', decide_eq_false_iff_not] at hc
        obtain ⟨⟨⟨⟨h1, h2⟩, h3⟩, h4⟩, h5⟩ := hc
        have hp := part_perm (r' := { r with v := r.v ++ [(n, digV z)] }) h h1 h2 (by
          simp only [Rows.names, List.map_append, List.map_cons, List.map_nil, List.append_assoc, List.cons_append, List.nil_append]
          exact List.perm_middle)
        exact ⟨by simp; omega, h.f2, h.o2, fun p hp => by
          rcases List.mem_append.mp hp with hp | hp
          · exact h.sz p hp
          · rw [List.mem_singleton.mp hp]; exact ⟨h4, h5⟩, hp.1, hp.2⟩
      · cases e
    · split at e
      · rename_i hc
        cases e
        simp only [Bool.and_eq_true, decide_eq_true_eq, Bool.not_eq_true', decide_eq_false_iff_not] at hc
        obtain ⟨⟨h1, h2⟩, h3⟩ := hc
        have hp := part_perm (r' := { r with f := r.f ++ [_] }) h h1 h2 (by
          simp only [Rows.names, List.append_assoc, List.cons_append, List.nil_append]
          rw [← List.append_assoc, ← List.append_assoc]
          exact List.perm_middle)
        exact ⟨h.v4, by simp; omega, h.o2, h.sz, hp.1, hp.2⟩
      · cases e
    · split at e
      · rename_i hc
        cases e
        simp only [Bool.and_eq_true, decide_eq_true_eq, Bool.not_eq_true', decide_eq_false_iff_not] at hc
        obtain ⟨⟨h1, h2⟩, h3⟩ := hc
        have hp := part_perm (r' := { r with o := r.o ++ [_] }) h h1 h2 (by
          simp only [Rows.names]
          rw [← List.append_assoc, ← List.append_assoc, ← List.append_assoc]
          exact List.perm_append_singleton _ _)
        exact ⟨h.v4, h.f2, by simp; omega, h.sz, hp.1, hp.2⟩
      · cases e
    · cases e
theorem rdGo_part : ∀ {ls : List (List Nat)} {st : Rows × Nat} {n : Nat} {r : Rows}, st.1.part → rdGo ls st n = .ok r → r.part
  | [], st, n, r, h, e => by
    cases e
    exact h
  | l :: ls, st, n, r, h, e => by
    unfold rdGo at e
    split at e
    · rename_i st' h1
      refine rdGo_part ?_ e
      unfold step1 at h1
      split at h1
      · split at h1
        · obtain ⟨r', h2, h3⟩ := Option.map_eq_some_iff.mp h1
          rw [← h3]
          exact step_part h h2
        · cases h1
      · cases h1
    · cases e
theorem rd_part {ls : List (List Nat)} {r : Rows} (e : rd ls = .ok r) : r.part :=
  rdGo_part (st := (⟨[], [], []⟩, 0)) ⟨by decide, by decide, by decide, by simp, by simp [Rows.names], by simp [Rows.names]⟩ e
def sp_read_lines : DSp := fun ds G Q E => ∃ ls : List (List Nat), ds = [.lst (ls.map .str)] ∧ short ls ∧ match rd ls with
  | .ok r => Q r.d G
  | .error n => E (badText n) G
theorem l_read_lines {ds G Q Ed} (h : sp_read_lines ds G Q Ed) : ds.length = 1 := by
  obtain ⟨_, rfl, _⟩ := h; rfl
abbrev N_read_lines : List Str := ["lines", "rows", "names", "last", "at", "line", "word", "rest", "most"]
def t_read_lines (Ed : DXK) : DTS := dSeq (dPar3 1 2 3 (dCons (dDisp [(dC (.str [118, 97, 116]), dLstM (dNil)), (dC (.str [102, 108, 111, 97, 116]), dLstM (dNil)), (dC (.str [111, 117, 116, 108, 101, 116]), dLstM (dNil))]) (dCons (dLstM (dNil)) (dCons (dC (.int 0)) (dNil))))) (dSeq (dFor (dEnum (dCons (dVar 0) (dNil))) (gTu 2 (gsCons (gN 4) (gsCons (gN 5) (gsNil)))) (dSeq (dAsg (dBM "str" rSplitD (dVar 5) (dCons (dC (.str [32])) (dNil))) (gStar 2 1 (gsCons (gN 6) (gsCons (gN 7) (gsNil))))) (dSeq (dIfS (dOr (dTest (dOp (rInD true) (dVar 6) (dC v_WORDS))) (dOr (dTest (dOp rLtD (dTIdx (dC v_WORDS) (dVar 6)) (dVar 3))) (dTest (dOp rNeDD (dCB rLenD (dCons (dVar 7) (dNil))) (dOp rAddD (dC (.int 1)) (dCB rIntD (dCons (dOp rEqDD (dVar 6) (dC (.str [118, 97, 116]))) (dNil)))))))) (dRaise "InvalidText" "line" "InvalidText" (dVar 4) Ed) (dNext)) (dSeq (dAsg (dTIdx (dC v_WORDS) (dVar 6)) (gN 3)) (dSeq (dAsg (dIf (dTest (dOp rEqDD (dVar 6) (dC (.str [118, 97, 116])))) (dC (.int 4)) (dC (.int 2))) (gN 8)) (dSeq (dIfS (dOr (dNot (dTest (dCall sp_is_name Ed (dCons (dOp rIxD (dVar 7) (dC (.int 0))) (dNil)) []))) (dOr (dTest (dOp (rInD false) (dOp rIxD (dVar 7) (dC (.int 0))) (dVar 2))) (dTest (dOp rGeD (dCB rLenD (dCons (dDGet (dVar 1) (dVar 6)) (dNil))) (dVar 8))))) (dRaise "InvalidText" "line" "InvalidText" (dVar 4) Ed) (dNext)) (dSeq (dIfS (dAnd (dTest (dOp rEqDD (dVar 6) (dC (.str [118, 97, 116])))) (dNot (dTest (dChain rLeD rLeD (dC (.int 1)) (dCall sp_digits_in Ed (dCons (dOp rIxD (dVar 7) (dC (.int 1))) (dCons (dC (.int 1)) (dNil))) []) (dC (.int 6)))))) (dRaise "InvalidText" "line" "InvalidText" (dVar 4) Ed) (dNext)) (dSeq (dDrop (dBM "list" rAppD (dVar 2) (dCons (dOp rIxD (dVar 7) (dC (.int 0))) (dNil)))) (dDrop (dBM "list" rAppD (dDGet (dVar 1) (dVar 6)) (dCons (dIf (dTest (dOp rEqDD (dVar 6) (dC (.str [118, 97, 116])))) (dTup (dCons (dOp rIxD (dVar 7) (dC (.int 0))) (dCons (dCB rIntD (dCons (dOp rIxD (dVar 7) (dC (.int 1))) (dNil))) (dNil)))) (dOp rIxD (dVar 7) (dC (.int 0)))) (dNil)))))))))))) (dRet (dVar 1)))
structure RdH (G : GH) (a b c p : Addr) (r : Rows) (ns : List (List Nat)) (G1 : GH) : Prop where
  hA : G1 a = some (.lst (r.v.map vatD))
  hB : G1 b = some (strsO r.f)
  hC : G1 c = some (strsO r.o)
  hP : G1 p = some (strsO ns)
  hO : ∀ x, x ≠ a → x ≠ b → x ≠ c → x ≠ p → G1 x = G x
  hM : ∀ x, x ∈ ns ↔ x ∈ r.names
  hL : ns.length = r.names.length
theorem digV_in {z : List Nat} (h : 1 ≤ digV z) : ∃ c, z = [c] ∧ 48 ≤ c ∧ c ≤ 57 ∧ digV z = ((c - 48 : Nat) : Int) := by
  match z with
  | [] => exact absurd h (by decide)
  | [c] =>
    by_cases hc : 48 ≤ c ∧ c ≤ 57
    · exact ⟨c, rfl, hc.1, hc.2, by simp [digV, hc]⟩
    · exact absurd h (by simp [digV, hc])
  | _ :: _ :: _ => exact absurd h (by simp [digV])
theorem RdH.addV {G G1 : GH} {a b c p : Addr} {r : Rows} {ns : List (List Nat)} {q : List Nat × Int} (h : RdH G a b c p r ns G1) (npa : p ≠ a) (nba : b ≠ a) (nca : c ≠ a) (npb : p ≠ b) (npc : p ≠ c) :
    RdH G a b c p { r with v := r.v ++ [q] } (ns ++ [q.1]) (updG (updG G1 p (.lst (ns.map D.str ++ [D.str q.1]))) a (.lst (r.v.map vatD ++ [vatD q]))) := by
  refine ⟨by rw [updG_same]; simp, by rw [updG_ne nba, updG_ne (Ne.symm npb)]; exact h.hB, by rw [updG_ne nca, updG_ne (Ne.symm npc)]; exact h.hC, by rw [updG_ne npa, updG_same]; simp [strsO], fun x h1 h2 h3 h4 => by rw [updG_ne h1, updG_ne h4]; exact h.hO x h1 h2 h3 h4, fun x => ?_, by have := h.hL; simp [Rows.names] at this ⊢; omega⟩
  have := h.hM x
  simp only [Rows.names, List.map_append, List.mem_append, List.map_cons, List.map_nil, List.mem_singleton] at this ⊢
  rw [this]
  constructor
  · rintro ((z | z) | z)
    · exact .inl (.inl z)
    · exact .inr z
    · exact .inl (.inr z)
  · rintro ((z | z) | z)
    · exact .inl (.inl z)
    · exact .inr z
    · exact .inl (.inr z)
theorem RdH.addF {G G1 : GH} {a b c p : Addr} {r : Rows} {ns : List (List Nat)} {q : List Nat} (h : RdH G a b c p r ns G1) (npa : p ≠ a) (nba : b ≠ a) (ncb : c ≠ b) (npb : p ≠ b) (npc : p ≠ c) :
    RdH G a b c p { r with f := r.f ++ [q] } (ns ++ [q]) (updG (updG G1 p (.lst (ns.map D.str ++ [D.str q]))) b (.lst (r.f.map D.str ++ [D.str q]))) := by
  refine ⟨by rw [updG_ne (Ne.symm nba), updG_ne (Ne.symm npa)]; exact h.hA, by rw [updG_same]; simp [strsO], by rw [updG_ne ncb, updG_ne (Ne.symm npc)]; exact h.hC, by rw [updG_ne npb, updG_same]; simp [strsO], fun x h1 h2 h3 h4 => by rw [updG_ne h2, updG_ne h4]; exact h.hO x h1 h2 h3 h4, fun x => ?_, by have := h.hL; simp [Rows.names] at this ⊢; omega⟩
  have := h.hM x
  simp only [Rows.names, List.mem_append, List.mem_singleton] at this ⊢
  rw [this]
  constructor
  · rintro ((z | z | z) | z)
    · exact .inl z
    · exact .inr (.inl (.inl z))
    · exact .inr (.inr z)
    · exact .inr (.inl (.inr z))
  · rintro (z | (z | z) | z)
    · exact .inl (.inl z)
    · exact .inl (.inr (.inl z))
    · exact .inr z
    · exact .inl (.inr (.inr z))
theorem RdH.addO {G G1 : GH} {a b c p : Addr} {r : Rows} {ns : List (List Nat)} {q : List Nat} (h : RdH G a b c p r ns G1) (npa : p ≠ a) (nca : c ≠ a) (ncb : c ≠ b) (npb : p ≠ b) (npc : p ≠ c) :
    RdH G a b c p { r with o := r.o ++ [q] } (ns ++ [q]) (updG (updG G1 p (.lst (ns.map D.str ++ [D.str q]))) c (.lst (r.o.map D.str ++ [D.str q]))) := by
  refine ⟨by rw [updG_ne (Ne.symm nca), updG_ne (Ne.symm npa)]; exact h.hA, by rw [updG_ne (Ne.symm ncb), updG_ne (Ne.symm npb)]; exact h.hB, by rw [updG_same]; simp [strsO], by rw [updG_ne npc, updG_same]; simp [strsO], fun x h1 h2 h3 h4 => by rw [updG_ne h3, updG_ne h4]; exact h.hO x h1 h2 h3 h4, fun x => ?_, by have := h.hL; simp [Rows.names] at this ⊢; omega⟩
  have := h.hM x
  simp only [Rows.names, List.mem_append, List.mem_singleton] at this ⊢
  rw [this]
  constructor
  · rintro ((z | z | z) | z)
    · exact .inl z
    · exact .inr (.inl z)
    · exact .inr (.inr (.inl z))
    · exact .inr (.inr (.inr z))
  · rintro (z | z | z | z)
    · exact .inl (.inl z)
    · exact .inl (.inr (.inl z))
    · exact .inl (.inr (.inr z))
    · exact .inr z
theorem names_len {r : Rows} (h : r.part) {ns : List (List Nat)} (hl : ns.length = r.names.length) : ns.length ≤ 8 := by
  have := h.v4
  have := h.f2
  have := h.o2
  simp [Rows.names] at hl
  omega
theorem fz_same {G G' : GH} : ∀ xs : List D, FzVs G G' xs xs
  | [] => .nil
  | x :: xs => .cons (.same x) (fz_same xs)
theorem pm1 : ∀ m, m < 1 → [sVat, sFloat, sOutlet][m]? ≠ some sFloat
  | 0, _ => by decide
theorem pm2 : ∀ m, m < 2 → [sVat, sFloat, sOutlet][m]? ≠ some sOutlet
  | 0, _ => by decide
  | 1, _ => by decide
theorem r_read_lines (ds : List D) (G : GH) (Qd : DK) (Ed : DXK) (h : sp_read_lines ds G Qd Ed) : t_read_lines (rtX Ed) { nx := fun _ G' => rtF Qd .non G', rt := rtF Qd } (dstart N_read_lines ds) G := by
  obtain ⟨ls, rfl, hs, q⟩ := h
  have hz := size_ge
  simp only [t_read_lines, N_read_lines, dVar, dC, dOp, dUn, dTest, dChain, dIsN, dNotN, isNo, dAnd, dOr, dNot, dAndV, dOrV, dNotV, dIf, dNil, dCons, dTup, dLst, dLstM, dNext, dSeq, dBreak, dCont, dDrop, dRet, dRetN, dIfS, gN, gsNil, gsCons, gTu, dAsg, gSubD, dPar, dPar3, dFor, dIter, dRng1, dRng2, dEnum, dZipB, dLc, dLcM, mkL, dCall, dFld, dMeth, dCB, dBM, rSubD, rMulD, rFdivD, rModD, rLtD, rLeD, rGtD, rGeD, rNegD, rEqDD, rNeDD, dSl, dPn, dPs, dRev, rIsiC, dStar, dJoined, dJs, gStar, dMake, mkD, dCMeth, dStore, dDGet, dDisp, dRaise, tyM, dstart, wipeD, List.map, List.replicate, List.cons_append, List.nil_append, List.length_cons, List.length_nil, List.set_cons_zero, List.set_cons_succ, List.getElem?_cons_zero, List.getElem?_cons_succ, Option.some.injEq, exists_eq_left, exists_eq_left', D.bl.injEq, D.int.injEq, D.str.injEq, D.tup.injEq, D.lst.injEq, List.cons.injEq, and_true, true_and, if_true, if_false, Bool.false_eq_true, Bool.not_true, Bool.not_false, Nat.reduceSub, Nat.reduceAdd, Nat.zero_add, isi_non, isi_bl, isi_int, isi_str, isi_tup, isi_lst, mt_bool, mt_int, mt_str, mt_list, mt_tuple, len_str, len_lst, len_tup, int_int, int_bl, int_str, str_int, top_int, top_str, top_bl, top_non, top_lst, top_tup, box_lst, box_tup, lst_lst, seq_lst, seq_tup, seq_str, eq_int, eq_str, ix_tup, ix_lst, ix_str, atD_0, atD_1, atD_2, in_sign, tyM, isT, String.reduceBEq, String.reduceEq, Bool.or_true, Bool.or_false, Bool.true_or, Bool.false_or, Bool.and_true, Bool.and_false, Bool.true_and, Bool.false_and, ix_refI, add_int, add_str, add_lst, sl_str, sl_lst, atD_3, atD_4, pow_int, DO.lst.injEq, D.ref.injEq, updG_same, lst_refI, box_refI, set_refI, int2I, app_refI, ext_refI, splitI, joinI, idxI, ixN_51, ixN_52, ixN_53, ixN_54, ixN_30, ixN_31, ixN_32, okD_intI, okD_blI, okD_nonI, DL.updG2, List.length_set, Option.some.injEq, decide_eq_true_eq, decide_true, decide_false, dPairs]
  refine ⟨by decide, fun a ha => ⟨by decide, fun b hb => ⟨by decide, fun c hc => ⟨by rfl, by simp, by simp, by decide, fun p hp => ⟨_, _, _, ⟨rfl, rfl, rfl⟩, _, _, rfl, rfl, ?_⟩⟩⟩⟩⟩
  have nba : b ≠ a := fun z => by subst z; rw [updG_same] at hb; cases hb
  have ncb : c ≠ b := fun z => by subst z; rw [updG_same] at hc; cases hc
  have nca : c ≠ a := fun z => by subst z; rw [updG_ne ncb, updG_same] at hc; cases hc
  have npc : p ≠ c := fun z => by subst z; rw [updG_same] at hp; cases hp
  have npb : p ≠ b := fun z => by subst z; rw [updG_ne npc, updG_same] at hp; cases hp
  have npa : p ≠ a := fun z => by subst z; rw [updG_ne npc, updG_ne npb, updG_same] at hp; cases hp
  have hb0 : G b = none := by rwa [updG_ne nba] at hb
  have hc0 : G c = none := by rwa [updG_ne ncb, updG_ne nca] at hc
  have hp0 : G p = none := by rwa [updG_ne npc, updG_ne npb, updG_ne npa] at hp
  refine forGo_enum (fun i ρ G1 => ∃ (r : Rows) (last : Nat) (ns : List (List Nat)), rdGo (ls.drop i) (r, last) i = rd ls ∧ r.part ∧ last ≤ 2 ∧ RdH G a b c p r ns G1 ∧ ∃ x4 x5 x6 x7 x8, ρ = [some (.lst (ls.map .str)), some (.dic [(.str sVat, .ref a), (.str sFloat, .ref b), (.str sOutlet, .ref c)]), some (.ref p), some (.int last), x4, x5, x6, x7, x8])
    (fun i x ρ G1 hx ⟨r, last, ns, h1, h2, h3, h4, x4, x5, x6, x7, x8, e⟩ => ⟨rfl, fun K hK => ?_⟩) (fun ρ G1 ⟨r, last, ns, h1, h2, h3, h4, x4, x5, x6, x7, x8, e⟩ => ⟨rfl, ?_⟩) ?_
  · subst e
    simp only [dVar, dC, dOp, dUn, dTest, dChain, dIsN, dNotN, isNo, dAnd, dOr, dNot, dAndV, dOrV, dNotV, dIf, dNil, dCons, dTup, dLst, dLstM, dNext, dSeq, dBreak, dCont, dDrop, dRet, dRetN, dIfS, gN, gsNil, gsCons, gTu, dAsg, gSubD, dPar, dPar3, dFor, dIter, dRng1, dRng2, dEnum, dZipB, dLc, dLcM, mkL, dCall, dFld, dMeth, dCB, dBM, rSubD, rMulD, rFdivD, rModD, rLtD, rLeD, rGtD, rGeD, rNegD, rEqDD, rNeDD, dSl, dPn, dPs, dRev, rIsiC, dStar, dJoined, dJs, gStar, dMake, mkD, dCMeth, dStore, dDGet, dDisp, dRaise, tyM, dstart, wipeD, List.map, List.replicate, List.cons_append, List.nil_append, List.length_cons, List.length_nil, List.set_cons_zero, List.set_cons_succ, List.getElem?_cons_zero, List.getElem?_cons_succ, Option.some.injEq, exists_eq_left, exists_eq_left', D.bl.injEq, D.int.injEq, D.str.injEq, D.tup.injEq, D.lst.injEq, List.cons.injEq, and_true, true_and, if_true, if_false, Bool.false_eq_true, Bool.not_true, Bool.not_false, Nat.reduceSub, Nat.reduceAdd, Nat.zero_add, isi_non, isi_bl, isi_int, isi_str, isi_tup, isi_lst, mt_bool, mt_int, mt_str, mt_list, mt_tuple, len_str, len_lst, len_tup, int_int, int_bl, int_str, str_int, top_int, top_str, top_bl, top_non, top_lst, top_tup, box_lst, box_tup, lst_lst, seq_lst, seq_tup, seq_str, eq_int, eq_str, ix_tup, ix_lst, ix_str, atD_0, atD_1, atD_2, in_sign, tyM, isT, String.reduceBEq, String.reduceEq, Bool.or_true, Bool.or_false, Bool.true_or, Bool.false_or, Bool.and_true, Bool.and_false, Bool.true_and, Bool.false_and, ix_refI, add_int, add_str, add_lst, sl_str, sl_lst, atD_3, atD_4, pow_int, DO.lst.injEq, D.ref.injEq, updG_same, lst_refI, box_refI, set_refI, int2I, app_refI, ext_refI, splitI, joinI, idxI, ixN_51, ixN_52, ixN_53, ixN_54, ixN_30, ixN_31, ixN_32, okD_intI, okD_blI, okD_nonI, DL.updG2, List.length_set, Option.some.injEq, decide_eq_true_eq, decide_true, decide_false, dNext]
    have hm : x ∈ ls := List.mem_of_getElem? hx
    have htx := hs.2 x hm
    have htl := htx.1
    have sl := split_len (s := 32) x
    have sm : ∀ l ∈ splitD [32] x, txt l := fun l hl => by
      obtain ⟨a, b⟩ := split_mem hl
      exact ⟨by omega, fun c hc => htx.2 c (b c hc)⟩
    have hne := split_ne (s := 32) x
    have hpos := List.length_pos_iff.mpr hne
    refine ⟨_, _, ⟨rfl, rfl⟩, _, _, rfl, rfl, trivial, ?_⟩
    rw [splitI]
    refine ⟨by decide, by decide, by omega, _, rfl, by simp; omega, by simp; omega, ?_⟩
    have hgo : rdGo (ls.drop i) (r, last) i = (match step1 (r, last) x with
      | some st' => rdGo (ls.drop (i + 1)) st' (i + 1)
      | none => .error i) := by
      obtain ⟨hlt, e⟩ := List.getElem?_eq_some_iff.mp hx
      rw [List.drop_eq_getElem_cons hlt, e]
      rfl
    cases hsp : splitD [32] x with
    | nil => exact absurd hsp hne
    | cons w rest =>
      rw [hsp] at sm sl
      have hbad : step1 (r, last) x = none → rtX Ed (badText i) G1 := fun hb => by
        rw [hgo, hb] at h1
        rw [← h1] at q
        exact ⟨_, G, fun y o hy => by
          rw [h4.hO y (fun z => by rw [z, ha] at hy; cases hy) (fun z => by rw [z, hb0] at hy; cases hy) (fun z => by rw [z, hc0] at hy; cases hy) (fun z => by rw [z, hp0] at hy; cases hy)]
          exact hy, .refl, q⟩
      have e1 : List.take 1 (List.map D.str (w :: rest)) ++ [D.lst (List.take ((List.map D.str (w :: rest)).length + 1 - 2) (List.drop 1 (List.map D.str (w :: rest))))] ++ List.drop ((List.map D.str (w :: rest)).length + 1 - 2) (List.drop 1 (List.map D.str (w :: rest))) = [.str w, .lst (rest.map .str)] := by
        have e3 : List.take rest.length (List.map D.str rest) = rest.map D.str := List.take_of_length_le (by simp)
        simp [e3]
      rw [e1]
      refine ⟨_, _, rfl, _, _, rfl, rfl, ?_⟩
      have hs1 : ∀ k, kindW w = some k → step1 (r, last) x = (stepW r last k rest).map fun r => (r, k) := fun k e => by simp [step1, hsp, e]
      have hs0 : kindW w = none → step1 (r, last) x = none := fun e => by simp [step1, hsp, e]
      have hbk : ∀ k, kindW w = some k → stepW r last k rest = none → rtX Ed (badText i) G1 := fun k e e2 => hbad (by rw [hs1 k e, e2]; rfl)
      have hgk : ∀ k r', kindW w = some k → stepW r last k rest = some r' → rdGo (ls.drop (i + 1)) (r', k) (i + 1) = rd ls := fun k r' e e2 => by
        rw [← h1, hgo, hs1 k e, e2]
        rfl
      have hw : txt w := sm w (by simp)
      have hrs : ∀ l ∈ rest, txt l := fun l hl => sm l (by simp [hl])
      have hws : ∀ y ∈ [sVat, sFloat, sOutlet], ∀ c ∈ y, c < 256 := by decide
      refine in_strs (ys := [sVat, sFloat, sOutlet]) rfl (fun s z => by cases z) hw.2 hws ⟨_, rfl, ?_⟩
      have okw : okD (.str w) := ok_str hw.2
      have idx : ∀ (j : Nat) (Q : DK), [sVat, sFloat, sOutlet][j]? = some w → (∀ m, m < j → [sVat, sFloat, sOutlet][m]? ≠ some w) → Q (.int (j : Nat)) G1 → dTIdx (dC v_WORDS) (dC (.str w)) [] G1 Q := fun j Q e1 e2 q => ⟨[sVat, sFloat, sOutlet], w, j, rfl, rfl, e1, e2, q⟩
      by_cases hk : w ∈ [sVat, sFloat, sOutlet]
      · rw [if_neg (by rw [decide_eq_true hk]; simp)]
        simp only [List.mem_cons, List.not_mem_nil, or_false] at hk
        rcases hk with rfl | rfl | rfl
        · have ek : kindW sVat = some 0 := rfl
          simp only [dTIdx, dVar, dC, dOp, dUn, dTest, dChain, dIsN, dNotN, isNo, dAnd, dOr, dNot, dAndV, dOrV, dNotV, dIf, dNil, dCons, dTup, dLst, dLstM, dNext, dSeq, dBreak, dCont, dDrop, dRet, dRetN, dIfS, gN, gsNil, gsCons, gTu, dAsg, gSubD, dPar, dPar3, dFor, dIter, dRng1, dRng2, dEnum, dZipB, dLc, dLcM, mkL, dCall, dFld, dMeth, dCB, dBM, rSubD, rMulD, rFdivD, rModD, rLtD, rLeD, rGtD, rGeD, rNegD, rEqDD, rNeDD, dSl, dPn, dPs, dRev, rIsiC, dStar, dJoined, dJs, gStar, dMake, mkD, dCMeth, dStore, dDGet, dDisp, dRaise, tyM, dstart, wipeD, List.map, List.replicate, List.cons_append, List.nil_append, List.length_cons, List.length_nil, List.set_cons_zero, List.set_cons_succ, List.getElem?_cons_zero, List.getElem?_cons_succ, Option.some.injEq, exists_eq_left, exists_eq_left', D.bl.injEq, D.int.injEq, D.str.injEq, D.tup.injEq, D.lst.injEq, List.cons.injEq, and_true, true_and, if_true, if_false, Bool.false_eq_true, Bool.not_true, Bool.not_false, Nat.reduceSub, Nat.reduceAdd, Nat.zero_add, isi_non, isi_bl, isi_int, isi_str, isi_tup, isi_lst, mt_bool, mt_int, mt_str, mt_list, mt_tuple, len_str, len_lst, len_tup, int_int, int_bl, int_str, str_int, top_int, top_str, top_bl, top_non, top_lst, top_tup, box_lst, box_tup, lst_lst, seq_lst, seq_tup, seq_str, eq_int, eq_str, ix_tup, ix_lst, ix_str, atD_0, atD_1, atD_2, in_sign, tyM, isT, String.reduceBEq, String.reduceEq, Bool.or_true, Bool.or_false, Bool.true_or, Bool.false_or, Bool.and_true, Bool.and_false, Bool.true_and, Bool.false_and, ix_refI, add_int, add_str, add_lst, sl_str, sl_lst, atD_3, atD_4, pow_int, DO.lst.injEq, D.ref.injEq, updG_same, lst_refI, box_refI, set_refI, int2I, app_refI, ext_refI, splitI, joinI, idxI, ixN_51, ixN_52, ixN_53, ixN_54, ixN_30, ixN_31, ixN_32, okD_intI, okD_blI, okD_nonI, DL.updG2, List.length_set, Option.some.injEq, decide_eq_true_eq, decide_true, decide_false]
          refine ⟨[sVat, sFloat, sOutlet], sVat, 0, rfl, rfl, rfl, (by intro m hm; omega), ?_⟩
          by_cases hj : ((0 : Nat) : Int) < last
          · rw [if_pos hj]
            exact hbk 0 ek (by simp [stepW, show 0 < last by omega])
          · have e0 : last = 0 := by omega
            subst e0
            rw [if_neg hj]
            refine ⟨okw, okw, ?_⟩
            by_cases hl : rest.length = 2
            · obtain ⟨n, z, rfl⟩ : ∃ n z, rest = [n, z] := by
                match rest, hl with
                | [n, z], _ => exact ⟨n, z, rfl⟩
              rw [if_neg (by simp)]
              refine ⟨[sVat, sFloat, sOutlet], sVat, 0, rfl, rfl, rfl, (by intro m hm; omega), okw, okw, _, rfl, n, rfl, hrs n (by simp), ?_⟩
              have hst : stepW r 0 0 [n, z] = if nameB n && !decide (n ∈ r.names) && decide (r.v.length < 4) && decide (1 ≤ digV z) && decide (digV z ≤ 6) then some { r with v := r.v ++ [(n, digV z)] } else none := rfl
              have hnm : ∀ y ∈ ns, ∀ c ∈ y, c < 256 := fun y hy => chr_lt (h2.ok y ((h4.hM y).mp hy))
              have hd0 : dicD (D.dic [(D.str sVat, D.ref a), (D.str sFloat, D.ref b), (D.str sOutlet, D.ref c)]) G1 = some [(D.str sVat, D.ref a), (D.str sFloat, D.ref b), (D.str sOutlet, D.ref c)] := rfl
              refine ⟨_, rfl, ?_⟩
              by_cases c1 : nameB n = true
              · rw [if_neg (by simp [c1])]
                refine ⟨_, rfl, in_strs (box_ref h4.hP) (fun s z => by cases z) (hrs n (by simp)).2 hnm ⟨_, rfl, ?_⟩⟩
                by_cases c2 : n ∈ ns
                · rw [if_pos (by simpa using c2)]
                  exact hbk 0 ek (by rw [hst, if_neg (by simp [(h4.hM n).mp c2])])
                · rw [if_neg (by simpa using c2)]
                  have c2' : n ∉ r.names := fun z => c2 ((h4.hM n).mpr z)
                  refine ⟨_, .ref a, hd0, rfl, rfl, len_ref h4.hA ?_⟩
                  rw [int2I]
                  refine ⟨trivial, _, rfl, ?_⟩
                  by_cases c3 : r.v.length < 4
                  · rw [if_neg (by simp; omega)]
                    simp only [dVar, dC, dOp, dUn, dTest, dChain, dIsN, dNotN, isNo, dAnd, dOr, dNot, dAndV, dOrV, dNotV, dIf, dNil, dCons, dTup, dLst, dLstM, dNext, dSeq, dBreak, dCont, dDrop, dRet, dRetN, dIfS, gN, gsNil, gsCons, gTu, dAsg, gSubD, dPar, dPar3, dFor, dIter, dRng1, dRng2, dEnum, dZipB, dLc, dLcM, mkL, dCall, dFld, dMeth, dCB, dBM, rSubD, rMulD, rFdivD, rModD, rLtD, rLeD, rGtD, rGeD, rNegD, rEqDD, rNeDD, dSl, dPn, dPs, dRev, rIsiC, dStar, dJoined, dJs, gStar, dMake, mkD, dCMeth, dStore, dDGet, dDisp, dRaise, tyM, dstart, wipeD, List.map, List.replicate, List.cons_append, List.nil_append, List.length_cons, List.length_nil, List.set_cons_zero, List.set_cons_succ, List.getElem?_cons_zero, List.getElem?_cons_succ, Option.some.injEq, exists_eq_left, exists_eq_left', D.bl.injEq, D.int.injEq, D.str.injEq, D.tup.injEq, D.lst.injEq, List.cons.injEq, and_true, true_and, if_true, if_false, Bool.false_eq_true, Bool.not_true, Bool.not_false, Nat.reduceSub, Nat.reduceAdd, Nat.zero_add, isi_non, isi_bl, isi_int, isi_str, isi_tup, isi_lst, mt_bool, mt_int, mt_str, mt_list, mt_tuple, len_str, len_lst, len_tup, int_int, int_bl, int_str, str_int, top_int, top_str, top_bl, top_non, top_lst, top_tup, box_lst, box_tup, lst_lst, seq_lst, seq_tup, seq_str, eq_int, eq_str, ix_tup, ix_lst, ix_str, atD_0, atD_1, atD_2, in_sign, tyM, isT, String.reduceBEq, String.reduceEq, Bool.or_true, Bool.or_false, Bool.true_or, Bool.false_or, Bool.and_true, Bool.and_false, Bool.true_and, Bool.false_and, ix_refI, add_int, add_str, add_lst, sl_str, sl_lst, atD_3, atD_4, pow_int, DO.lst.injEq, D.ref.injEq, updG_same, lst_refI, box_refI, set_refI, int2I, app_refI, ext_refI, splitI, joinI, idxI, ixN_51, ixN_52, ixN_53, ixN_54, ixN_30, ixN_31, ixN_32, okD_intI, okD_blI, okD_nonI, DL.updG2, List.length_set, Option.some.injEq, decide_eq_true_eq, decide_true, decide_false]
                    refine ⟨okw, okw, z, rfl, hrs z (by simp), int2I.mpr ⟨trivial, _, rfl, ?_⟩⟩
                    by_cases c4 : 1 ≤ digV z
                    · rw [if_pos (by simpa using c4)]
                      refine int2I.mpr ⟨trivial, _, rfl, ?_⟩
                      by_cases c5 : digV z ≤ 6
                      · rw [if_neg (by simpa using c5)]
                        obtain ⟨dc, rfl, dc1, dc2, dc3⟩ := digV_in c4
                        refine ⟨⟨_, h4.hP⟩, _, h4.hP, by have := names_len h2 h4.hL; simp; omega, _, .ref a, rfl, rfl, rfl, ⟨_, lst_ref (by rw [updG_ne (Ne.symm npa)]; exact h4.hA)⟩, okw, okw, by simp, _, dig_int dc1 dc2, by omega, ?_⟩
                        rw [app_refI]
                        refine ⟨_, by rw [updG_ne (Ne.symm npa)]; exact h4.hA, by simp; omega, ?_⟩
                        rw [← dc3]
                        have hr' : stepW r 0 0 [n, [dc]] = some { r with v := r.v ++ [(n, digV [dc])] } := by rw [hst, if_pos (by simp [c1, c2', c3, c4, c5])]
                        exact hK _ _ ⟨_, 0, _, hgk 0 _ ek hr', step_part h2 hr', by omega, h4.addV (q := (n, digV [dc])) npa nba nca npb npc, _, _, _, _, _, rfl⟩
                      · rw [if_pos (by simpa using c5)]
                        exact hbk 0 ek (by rw [hst, if_neg (by simp [c5])])
                    · rw [if_neg (by simpa using c4)]
                      exact hbk 0 ek (by rw [hst, if_neg (by simp [c4])])
                  · rw [if_pos (by simp; omega)]
                    exact hbk 0 ek (by rw [hst, if_neg (by simp [c3])])
              · rw [if_pos (by simpa using c1)]
                exact hbk 0 ek (by rw [hst, if_neg (by simp [c1])])
            · rw [if_pos (by simp; omega)]
              refine hbk 0 ek ?_
              match rest, hl with
              | [], _ => rfl
              | [_], _ => rfl
              | [_, _], h => exact absurd rfl h
              | _ :: _ :: _ :: _, _ => rfl
        · have ek : kindW sFloat = some 1 := rfl
          simp only [dTIdx, dVar, dC, dOp, dUn, dTest, dChain, dIsN, dNotN, isNo, dAnd, dOr, dNot, dAndV, dOrV, dNotV, dIf, dNil, dCons, dTup, dLst, dLstM, dNext, dSeq, dBreak, dCont, dDrop, dRet, dRetN, dIfS, gN, gsNil, gsCons, gTu, dAsg, gSubD, dPar, dPar3, dFor, dIter, dRng1, dRng2, dEnum, dZipB, dLc, dLcM, mkL, dCall, dFld, dMeth, dCB, dBM, rSubD, rMulD, rFdivD, rModD, rLtD, rLeD, rGtD, rGeD, rNegD, rEqDD, rNeDD, dSl, dPn, dPs, dRev, rIsiC, dStar, dJoined, dJs, gStar, dMake, mkD, dCMeth, dStore, dDGet, dDisp, dRaise, tyM, dstart, wipeD, List.map, List.replicate, List.cons_append, List.nil_append, List.length_cons, List.length_nil, List.set_cons_zero, List.set_cons_succ, List.getElem?_cons_zero, List.getElem?_cons_succ, Option.some.injEq, exists_eq_left, exists_eq_left', D.bl.injEq, D.int.injEq, D.str.injEq, D.tup.injEq, D.lst.injEq, List.cons.injEq, and_true, true_and, if_true, if_false, Bool.false_eq_true, Bool.not_true, Bool.not_false, Nat.reduceSub, Nat.reduceAdd, Nat.zero_add, isi_non, isi_bl, isi_int, isi_str, isi_tup, isi_lst, mt_bool, mt_int, mt_str, mt_list, mt_tuple, len_str, len_lst, len_tup, int_int, int_bl, int_str, str_int, top_int, top_str, top_bl, top_non, top_lst, top_tup, box_lst, box_tup, lst_lst, seq_lst, seq_tup, seq_str, eq_int, eq_str, ix_tup, ix_lst, ix_str, atD_0, atD_1, atD_2, in_sign, tyM, isT, String.reduceBEq, String.reduceEq, Bool.or_true, Bool.or_false, Bool.true_or, Bool.false_or, Bool.and_true, Bool.and_false, Bool.true_and, Bool.false_and, ix_refI, add_int, add_str, add_lst, sl_str, sl_lst, atD_3, atD_4, pow_int, DO.lst.injEq, D.ref.injEq, updG_same, lst_refI, box_refI, set_refI, int2I, app_refI, ext_refI, splitI, joinI, idxI, ixN_51, ixN_52, ixN_53, ixN_54, ixN_30, ixN_31, ixN_32, okD_intI, okD_blI, okD_nonI, DL.updG2, List.length_set, Option.some.injEq, decide_eq_true_eq, decide_true, decide_false]
          refine ⟨[sVat, sFloat, sOutlet], sFloat, 1, rfl, rfl, rfl, pm1, ?_⟩
          by_cases hj : ((1 : Nat) : Int) < last
          · rw [if_pos hj]
            exact hbk 1 ek (by simp [stepW, show 1 < last by omega])
          · have e0 : ¬ 1 < last := by omega
            rw [if_neg hj]
            refine ⟨okw, by decide, ?_⟩
            by_cases hl : rest.length = 1
            · obtain ⟨n, rfl⟩ : ∃ n, rest = [n] := by
                match rest, hl with
                | [n], _ => exact ⟨n, rfl⟩
              rw [if_neg (by simp [eqD, pyD, PyData.eqv])]
              refine ⟨[sVat, sFloat, sOutlet], sFloat, 1, rfl, rfl, rfl, pm1, okw, by decide, ?_⟩
              rw [if_neg (by decide)]
              have hst : stepW r last 1 [n] = if nameB n && !decide (n ∈ r.names) && decide (r.f.length < 2) then some { r with f := r.f ++ [n] } else none := by unfold stepW; rw [if_neg e0]; rfl
              have hnm : ∀ y ∈ ns, ∀ c ∈ y, c < 256 := fun y hy => chr_lt (h2.ok y ((h4.hM y).mp hy))
              have hd0 : dicD (D.dic [(D.str sVat, D.ref a), (D.str sFloat, D.ref b), (D.str sOutlet, D.ref c)]) G1 = some [(D.str sVat, D.ref a), (D.str sFloat, D.ref b), (D.str sOutlet, D.ref c)] := rfl
              refine ⟨_, rfl, n, rfl, hrs n (by simp), _, rfl, ?_⟩
              by_cases c1 : nameB n = true
              · rw [if_neg (by simp [c1])]
                refine ⟨_, rfl, in_strs (box_ref h4.hP) (fun s z => by cases z) (hrs n (by simp)).2 hnm ⟨_, rfl, ?_⟩⟩
                by_cases c2 : n ∈ ns
                · rw [if_pos (by simpa using c2)]
                  exact hbk 1 ek (by rw [hst, if_neg (by simp [(h4.hM n).mp c2])])
                · rw [if_neg (by simpa using c2)]
                  have c2' : n ∉ r.names := fun z => c2 ((h4.hM n).mpr z)
                  refine ⟨_, .ref b, hd0, rfl, rfl, len_ref h4.hB ?_⟩
                  refine int2I.mpr ⟨trivial, _, rfl, ?_⟩
                  by_cases c3 : r.f.length < 2
                  · rw [if_neg (by simp; omega)]
                    simp only [dVar, dC, dOp, dUn, dTest, dChain, dIsN, dNotN, isNo, dAnd, dOr, dNot, dAndV, dOrV, dNotV, dIf, dNil, dCons, dTup, dLst, dLstM, dNext, dSeq, dBreak, dCont, dDrop, dRet, dRetN, dIfS, gN, gsNil, gsCons, gTu, dAsg, gSubD, dPar, dPar3, dFor, dIter, dRng1, dRng2, dEnum, dZipB, dLc, dLcM, mkL, dCall, dFld, dMeth, dCB, dBM, rSubD, rMulD, rFdivD, rModD, rLtD, rLeD, rGtD, rGeD, rNegD, rEqDD, rNeDD, dSl, dPn, dPs, dRev, rIsiC, dStar, dJoined, dJs, gStar, dMake, mkD, dCMeth, dStore, dDGet, dDisp, dRaise, tyM, dstart, wipeD, List.map, List.replicate, List.cons_append, List.nil_append, List.length_cons, List.length_nil, List.set_cons_zero, List.set_cons_succ, List.getElem?_cons_zero, List.getElem?_cons_succ, Option.some.injEq, exists_eq_left, exists_eq_left', D.bl.injEq, D.int.injEq, D.str.injEq, D.tup.injEq, D.lst.injEq, List.cons.injEq, and_true, true_and, if_true, if_false, Bool.false_eq_true, Bool.not_true, Bool.not_false, Nat.reduceSub, Nat.reduceAdd, Nat.zero_add, isi_non, isi_bl, isi_int, isi_str, isi_tup, isi_lst, mt_bool, mt_int, mt_str, mt_list, mt_tuple, len_str, len_lst, len_tup, int_int, int_bl, int_str, str_int, top_int, top_str, top_bl, top_non, top_lst, top_tup, box_lst, box_tup, lst_lst, seq_lst, seq_tup, seq_str, eq_int, eq_str, ix_tup, ix_lst, ix_str, atD_0, atD_1, atD_2, in_sign, tyM, isT, String.reduceBEq, String.reduceEq, Bool.or_true, Bool.or_false, Bool.true_or, Bool.false_or, Bool.and_true, Bool.and_false, Bool.true_and, Bool.false_and, ix_refI, add_int, add_str, add_lst, sl_str, sl_lst, atD_3, atD_4, pow_int, DO.lst.injEq, D.ref.injEq, updG_same, lst_refI, box_refI, set_refI, int2I, app_refI, ext_refI, splitI, joinI, idxI, ixN_51, ixN_52, ixN_53, ixN_54, ixN_30, ixN_31, ixN_32, okD_intI, okD_blI, okD_nonI, DL.updG2, List.length_set, Option.some.injEq, decide_eq_true_eq, decide_true, decide_false]
                    refine ⟨okw, by decide, ?_⟩
                    rw [if_neg (by decide)]
                    refine ⟨⟨_, h4.hP⟩, _, h4.hP, by have := names_len h2 h4.hL; simp; omega, _, .ref b, rfl, rfl, rfl, ⟨_, lst_ref (by rw [updG_ne (Ne.symm npb)]; exact h4.hB)⟩, okw, by decide, ?_⟩
                    rw [if_neg (by decide)]
                    refine app_refI.mpr ⟨_, by rw [updG_ne (Ne.symm npb)]; exact h4.hB, by simp; omega, ?_⟩
                    have hr' : stepW r last 1 [n] = some { r with f := r.f ++ [n] } := by rw [hst, if_pos (by simp [c1, c2', c3])]
                    exact hK _ _ ⟨_, 1, _, hgk 1 _ ek hr', step_part h2 hr', by omega, h4.addF npa nba ncb npb npc, _, _, _, _, _, rfl⟩
                  · rw [if_pos (by simp; omega)]
                    exact hbk 1 ek (by rw [hst, if_neg (by simp [c3])])
              · rw [if_pos (by simpa using c1)]
                exact hbk 1 ek (by rw [hst, if_neg (by simp [c1])])
            · rw [if_pos (by simp [eqD, pyD, PyData.eqv]; omega)]
              refine hbk 1 ek ?_
              unfold stepW
              rw [if_neg e0]
              match rest, hl with
              | [], _ => rfl
              | [_], h => exact absurd rfl h
              | _ :: _ :: _, _ => rfl
        · have ek : kindW sOutlet = some 2 := rfl
          simp only [dTIdx, dVar, dC, dOp, dUn, dTest, dChain, dIsN, dNotN, isNo, dAnd, dOr, dNot, dAndV, dOrV, dNotV, dIf, dNil, dCons, dTup, dLst, dLstM, dNext, dSeq, dBreak, dCont, dDrop, dRet, dRetN, dIfS, gN, gsNil, gsCons, gTu, dAsg, gSubD, dPar, dPar3, dFor, dIter, dRng1, dRng2, dEnum, dZipB, dLc, dLcM, mkL, dCall, dFld, dMeth, dCB, dBM, rSubD, rMulD, rFdivD, rModD, rLtD, rLeD, rGtD, rGeD, rNegD, rEqDD, rNeDD, dSl, dPn, dPs, dRev, rIsiC, dStar, dJoined, dJs, gStar, dMake, mkD, dCMeth, dStore, dDGet, dDisp, dRaise, tyM, dstart, wipeD, List.map, List.replicate, List.cons_append, List.nil_append, List.length_cons, List.length_nil, List.set_cons_zero, List.set_cons_succ, List.getElem?_cons_zero, List.getElem?_cons_succ, Option.some.injEq, exists_eq_left, exists_eq_left', D.bl.injEq, D.int.injEq, D.str.injEq, D.tup.injEq, D.lst.injEq, List.cons.injEq, and_true, true_and, if_true, if_false, Bool.false_eq_true, Bool.not_true, Bool.not_false, Nat.reduceSub, Nat.reduceAdd, Nat.zero_add, isi_non, isi_bl, isi_int, isi_str, isi_tup, isi_lst, mt_bool, mt_int, mt_str, mt_list, mt_tuple, len_str, len_lst, len_tup, int_int, int_bl, int_str, str_int, top_int, top_str, top_bl, top_non, top_lst, top_tup, box_lst, box_tup, lst_lst, seq_lst, seq_tup, seq_str, eq_int, eq_str, ix_tup, ix_lst, ix_str, atD_0, atD_1, atD_2, in_sign, tyM, isT, String.reduceBEq, String.reduceEq, Bool.or_true, Bool.or_false, Bool.true_or, Bool.false_or, Bool.and_true, Bool.and_false, Bool.true_and, Bool.false_and, ix_refI, add_int, add_str, add_lst, sl_str, sl_lst, atD_3, atD_4, pow_int, DO.lst.injEq, D.ref.injEq, updG_same, lst_refI, box_refI, set_refI, int2I, app_refI, ext_refI, splitI, joinI, idxI, ixN_51, ixN_52, ixN_53, ixN_54, ixN_30, ixN_31, ixN_32, okD_intI, okD_blI, okD_nonI, DL.updG2, List.length_set, Option.some.injEq, decide_eq_true_eq, decide_true, decide_false]
          refine ⟨[sVat, sFloat, sOutlet], sOutlet, 2, rfl, rfl, rfl, pm2, ?_⟩
          by_cases hj : ((2 : Nat) : Int) < last
          · rw [if_pos hj]
            exact hbk 2 ek (by simp [stepW, show 2 < last by omega])
          · have e0 : ¬ 2 < last := by omega
            rw [if_neg hj]
            refine ⟨okw, by decide, ?_⟩
            by_cases hl : rest.length = 1
            · obtain ⟨n, rfl⟩ : ∃ n, rest = [n] := by
                match rest, hl with
                | [n], _ => exact ⟨n, rfl⟩
              rw [if_neg (by simp [eqD, pyD, PyData.eqv])]
              refine ⟨[sVat, sFloat, sOutlet], sOutlet, 2, rfl, rfl, rfl, pm2, okw, by decide, ?_⟩
              rw [if_neg (by decide)]
              have hst : stepW r last 2 [n] = if nameB n && !decide (n ∈ r.names) && decide (r.o.length < 2) then some { r with o := r.o ++ [n] } else none := by unfold stepW; rw [if_neg e0]; rfl
              have hnm : ∀ y ∈ ns, ∀ c ∈ y, c < 256 := fun y hy => chr_lt (h2.ok y ((h4.hM y).mp hy))
              have hd0 : dicD (D.dic [(D.str sVat, D.ref a), (D.str sFloat, D.ref b), (D.str sOutlet, D.ref c)]) G1 = some [(D.str sVat, D.ref a), (D.str sFloat, D.ref b), (D.str sOutlet, D.ref c)] := rfl
              refine ⟨_, rfl, n, rfl, hrs n (by simp), _, rfl, ?_⟩
              by_cases c1 : nameB n = true
              · rw [if_neg (by simp [c1])]
                refine ⟨_, rfl, in_strs (box_ref h4.hP) (fun s z => by cases z) (hrs n (by simp)).2 hnm ⟨_, rfl, ?_⟩⟩
                by_cases c2 : n ∈ ns
                · rw [if_pos (by simpa using c2)]
                  exact hbk 2 ek (by rw [hst, if_neg (by simp [(h4.hM n).mp c2])])
                · rw [if_neg (by simpa using c2)]
                  have c2' : n ∉ r.names := fun z => c2 ((h4.hM n).mpr z)
                  refine ⟨_, .ref c, hd0, rfl, rfl, len_ref h4.hC ?_⟩
                  refine int2I.mpr ⟨trivial, _, rfl, ?_⟩
                  by_cases c3 : r.o.length < 2
                  · rw [if_neg (by simp; omega)]
                    simp only [dVar, dC, dOp, dUn, dTest, dChain, dIsN, dNotN, isNo, dAnd, dOr, dNot, dAndV, dOrV, dNotV, dIf, dNil, dCons, dTup, dLst, dLstM, dNext, dSeq, dBreak, dCont, dDrop, dRet, dRetN, dIfS, gN, gsNil, gsCons, gTu, dAsg, gSubD, dPar, dPar3, dFor, dIter, dRng1, dRng2, dEnum, dZipB, dLc, dLcM, mkL, dCall, dFld, dMeth, dCB, dBM, rSubD, rMulD, rFdivD, rModD, rLtD, rLeD, rGtD, rGeD, rNegD, rEqDD, rNeDD, dSl, dPn, dPs, dRev, rIsiC, dStar, dJoined, dJs, gStar, dMake, mkD, dCMeth, dStore, dDGet, dDisp, dRaise, tyM, dstart, wipeD, List.map, List.replicate, List.cons_append, List.nil_append, List.length_cons, List.length_nil, List.set_cons_zero, List.set_cons_succ, List.getElem?_cons_zero, List.getElem?_cons_succ, Option.some.injEq, exists_eq_left, exists_eq_left', D.bl.injEq, D.int.injEq, D.str.injEq, D.tup.injEq, D.lst.injEq, List.cons.injEq, and_true, true_and, if_true, if_false, Bool.false_eq_true, Bool.not_true, Bool.not_false, Nat.reduceSub, Nat.reduceAdd, Nat.zero_add, isi_non, isi_bl, isi_int, isi_str, isi_tup, isi_lst, mt_bool, mt_int, mt_str, mt_list, mt_tuple, len_str, len_lst, len_tup, int_int, int_bl, int_str, str_int, top_int, top_str, top_bl, top_non, top_lst, top_tup, box_lst, box_tup, lst_lst, seq_lst, seq_tup, seq_str, eq_int, eq_str, ix_tup, ix_lst, ix_str, atD_0, atD_1, atD_2, in_sign, tyM, isT, String.reduceBEq, String.reduceEq, Bool.or_true, Bool.or_false, Bool.true_or, Bool.false_or, Bool.and_true, Bool.and_false, Bool.true_and, Bool.false_and, ix_refI, add_int, add_str, add_lst, sl_str, sl_lst, atD_3, atD_4, pow_int, DO.lst.injEq, D.ref.injEq, updG_same, lst_refI, box_refI, set_refI, int2I, app_refI, ext_refI, splitI, joinI, idxI, ixN_51, ixN_52, ixN_53, ixN_54, ixN_30, ixN_31, ixN_32, okD_intI, okD_blI, okD_nonI, DL.updG2, List.length_set, Option.some.injEq, decide_eq_true_eq, decide_true, decide_false]
                    refine ⟨okw, by decide, ?_⟩
                    rw [if_neg (by decide)]
                    refine ⟨⟨_, h4.hP⟩, _, h4.hP, by have := names_len h2 h4.hL; simp; omega, _, .ref c, rfl, rfl, rfl, ⟨_, lst_ref (by rw [updG_ne (Ne.symm npc)]; exact h4.hC)⟩, okw, by decide, ?_⟩
                    rw [if_neg (by decide)]
                    refine app_refI.mpr ⟨_, by rw [updG_ne (Ne.symm npc)]; exact h4.hC, by simp; omega, ?_⟩
                    have hr' : stepW r last 2 [n] = some { r with o := r.o ++ [n] } := by rw [hst, if_pos (by simp [c1, c2', c3])]
                    exact hK _ _ ⟨_, 2, _, hgk 2 _ ek hr', step_part h2 hr', by omega, h4.addO npa nca ncb npb npc, _, _, _, _, _, rfl⟩
                  · rw [if_pos (by simp; omega)]
                    exact hbk 2 ek (by rw [hst, if_neg (by simp [c3])])
              · rw [if_pos (by simpa using c1)]
                exact hbk 2 ek (by rw [hst, if_neg (by simp [c1])])
            · rw [if_pos (by simp [eqD, pyD, PyData.eqv]; omega)]
              refine hbk 2 ek ?_
              unfold stepW
              rw [if_neg e0]
              match rest, hl with
              | [], _ => rfl
              | [_], h => exact absurd rfl h
              | _ :: _ :: _, _ => rfl
      · rw [if_pos (by simpa using hk)]
        have ek : kindW w = none := by
          simp only [List.mem_cons, List.not_mem_nil, or_false, not_or] at hk
          simp [kindW, hk]
        exact hbad (hs0 ek)
  · subst e
    simp only [dVar, dC, dOp, dUn, dTest, dChain, dIsN, dNotN, isNo, dAnd, dOr, dNot, dAndV, dOrV, dNotV, dIf, dNil, dCons, dTup, dLst, dLstM, dNext, dSeq, dBreak, dCont, dDrop, dRet, dRetN, dIfS, gN, gsNil, gsCons, gTu, dAsg, gSubD, dPar, dPar3, dFor, dIter, dRng1, dRng2, dEnum, dZipB, dLc, dLcM, mkL, dCall, dFld, dMeth, dCB, dBM, rSubD, rMulD, rFdivD, rModD, rLtD, rLeD, rGtD, rGeD, rNegD, rEqDD, rNeDD, dSl, dPn, dPs, dRev, rIsiC, dStar, dJoined, dJs, gStar, dMake, mkD, dCMeth, dStore, dDGet, dDisp, dRaise, tyM, dstart, wipeD, List.map, List.replicate, List.cons_append, List.nil_append, List.length_cons, List.length_nil, List.set_cons_zero, List.set_cons_succ, List.getElem?_cons_zero, List.getElem?_cons_succ, Option.some.injEq, exists_eq_left, exists_eq_left', D.bl.injEq, D.int.injEq, D.str.injEq, D.tup.injEq, D.lst.injEq, List.cons.injEq, and_true, true_and, if_true, if_false, Bool.false_eq_true, Bool.not_true, Bool.not_false, Nat.reduceSub, Nat.reduceAdd, Nat.zero_add, isi_non, isi_bl, isi_int, isi_str, isi_tup, isi_lst, mt_bool, mt_int, mt_str, mt_list, mt_tuple, len_str, len_lst, len_tup, int_int, int_bl, int_str, str_int, top_int, top_str, top_bl, top_non, top_lst, top_tup, box_lst, box_tup, lst_lst, seq_lst, seq_tup, seq_str, eq_int, eq_str, ix_tup, ix_lst, ix_str, atD_0, atD_1, atD_2, in_sign, tyM, isT, String.reduceBEq, String.reduceEq, Bool.or_true, Bool.or_false, Bool.true_or, Bool.false_or, Bool.and_true, Bool.and_false, Bool.true_and, Bool.false_and, ix_refI, add_int, add_str, add_lst, sl_str, sl_lst, atD_3, atD_4, pow_int, DO.lst.injEq, D.ref.injEq, updG_same, lst_refI, box_refI, set_refI, int2I, app_refI, ext_refI, splitI, joinI, idxI, ixN_51, ixN_52, ixN_53, ixN_54, ixN_30, ixN_31, ixN_32, okD_intI, okD_blI, okD_nonI, DL.updG2, List.length_set, Option.some.injEq, decide_eq_true_eq, decide_true, decide_false]
    rw [List.drop_length] at h1
    have h1' : rd ls = .ok r := h1.symm
    rw [h1'] at q
    refine ⟨r.d, G, fun x o hx => ?_, ?_, q⟩
    · rw [h4.hO x (fun z => by rw [z, ha] at hx; cases hx) (fun z => by rw [z, hb0] at hx; cases hx) (fun z => by rw [z, hc0] at hx; cases hx) (fun z => by rw [z, hp0] at hx; cases hx)]
      exact hx
    · have fz : ∀ {x : Addr} {xs : List D}, G1 x = some (.lst xs) → G x = none → FzV G1 G (.ref x) (.lst xs) := fun {x xs} h1 h2 => .lst h1 h2 (fz_same xs)
      exact .dicc (.cons _ (fz h4.hA ha) (.cons _ (fz h4.hB hb0) (.cons _ (fz h4.hC hc0) .nil)))
  · refine ⟨⟨[], [], []⟩, 0, [], rfl, ⟨by decide, by decide, by decide, by simp, by simp [Rows.names], by simp [Rows.names]⟩, by decide, ⟨?_, ?_, ?_, updG_same, fun x h1 h2 h3 h4 => ?_, by simp [Rows.names], rfl⟩, _, _, _, _, _, rfl⟩
    · rw [updG_ne (Ne.symm npa), updG_ne (Ne.symm nca), updG_ne (Ne.symm nba), updG_same]; rfl
    · rw [updG_ne (Ne.symm npb), updG_ne (Ne.symm ncb), updG_same]; rfl
    · rw [updG_ne (Ne.symm npc), updG_same]; rfl
    · rw [updG_ne h4, updG_ne h3, updG_ne h2, updG_ne h1]
def sp_Plant___init__ : DSp := fun ds G Q E => ∃ (a : Addr) (r : Rows), ds = [.ref a, .lst (r.v.map vatD), .lst (r.f.map .str), .lst (r.o.map .str)] ∧ G a = some (.ins "Plant" []) ∧ r.good ∧ Q .non (updG G a (.ins "Plant" r.fs))
theorem l_Plant___init__ {ds G Q Ed} (h : sp_Plant___init__ ds G Q Ed) : ds.length = 4 := by
  obtain ⟨_, _, rfl, _⟩ := h; rfl
abbrev N_Plant___init__ : List Str := ["self", "vats", "floats", "outlets", "names", "at", "vat", "name"]
def t_Plant___init__ (Ed : DXK) : DTS := dSeq (dAsg (dLstM (dNil)) (gN 4)) (dSeq (dFor (dEnum (dCons (dVar 1) (dNil))) (gTu 2 (gsCons (gN 5) (gsCons (gN 6) (gsNil)))) (dSeq (dIfS (dOr (dTest (dOp rGeD (dVar 5) (dC (.int 4)))) (dOr (dNot (dTest (dCall sp_is_vat Ed (dCons (dVar 6) (dNil)) []))) (dTest (dOp (rInD false) (dOp rIxD (dVar 6) (dC (.int 0))) (dVar 4))))) (dRaise "InvalidVat" "at" "InvalidVat" (dVar 5) Ed) (dNext)) (dDrop (dBM "list" rAppD (dVar 4) (dCons (dOp rIxD (dVar 6) (dC (.int 0))) (dNil)))))) (dSeq (dIfS (dTest (dOp rEqDD (dVar 4) (dLst (dNil)))) (dRaise "InvalidVat" "at" "InvalidVat" (dC (.int 0)) Ed) (dNext)) (dSeq (dFor (dEnum (dCons (dVar 2) (dNil))) (gTu 2 (gsCons (gN 5) (gsCons (gN 7) (gsNil)))) (dSeq (dIfS (dOr (dTest (dOp rGeD (dVar 5) (dC (.int 2)))) (dOr (dNot (dTest (dCall sp_is_name Ed (dCons (dVar 7) (dNil)) []))) (dTest (dOp (rInD false) (dVar 7) (dVar 4))))) (dRaise "InvalidFloat" "at" "InvalidFloat" (dVar 5) Ed) (dNext)) (dDrop (dBM "list" rAppD (dVar 4) (dCons (dVar 7) (dNil)))))) (dSeq (dFor (dEnum (dCons (dVar 3) (dNil))) (gTu 2 (gsCons (gN 5) (gsCons (gN 7) (gsNil)))) (dSeq (dIfS (dOr (dTest (dOp rGeD (dVar 5) (dC (.int 2)))) (dOr (dNot (dTest (dCall sp_is_name Ed (dCons (dVar 7) (dNil)) []))) (dTest (dOp (rInD false) (dVar 7) (dVar 4))))) (dRaise "InvalidOutlet" "at" "InvalidOutlet" (dVar 5) Ed) (dNext)) (dDrop (dBM "list" rAppD (dVar 4) (dCons (dVar 7) (dNil)))))) (dSeq (dStore "Plant" "own_vats" (dVar 0) (dCB rTupleD (dCons (dVar 1) (dNil)))) (dSeq (dStore "Plant" "own_floats" (dVar 0) (dCB rTupleD (dCons (dVar 2) (dNil)))) (dStore "Plant" "own_outlets" (dVar 0) (dCB rTupleD (dCons (dVar 3) (dNil))))))))))
theorem r_Plant___init__ (ds : List D) (G : GH) (Qd : DK) (Ed : DXK) (h : sp_Plant___init__ ds G Qd Ed) : t_Plant___init__ (rtX Ed) { nx := fun _ G' => rtF Qd .non G', rt := rtF Qd } (dstart N_Plant___init__ ds) G := by
  obtain ⟨a, r, rfl, ha, hg, q⟩ := h
  have hz := size_ge
  have b1 := hg.p.v4
  have b2 := hg.p.f2
  have b3 := hg.p.o2
  have chr : ∀ x ∈ r.names, ∀ c ∈ x, c < 256 := fun x hx => chr_lt (hg.p.ok x hx)
  have nd := hg.p.nd
  have nmv : ∀ p ∈ r.v, p.1 ∈ r.names := fun p hp => by simp only [Rows.names, List.mem_append, List.mem_map]; exact .inl ⟨p, hp, rfl⟩
  have nmf : ∀ p ∈ r.f, p ∈ r.names := fun p hp => by simp only [Rows.names, List.mem_append]; exact .inr (.inl hp)
  have nmo : ∀ p ∈ r.o, p ∈ r.names := fun p hp => by simp only [Rows.names, List.mem_append]; exact .inr (.inr hp)
  simp only [t_Plant___init__, N_Plant___init__, dVar, dC, dOp, dUn, dTest, dChain, dIsN, dNotN, isNo, dAnd, dOr, dNot, dAndV, dOrV, dNotV, dIf, dNil, dCons, dTup, dLst, dLstM, dNext, dSeq, dBreak, dCont, dDrop, dRet, dRetN, dIfS, gN, gsNil, gsCons, gTu, dAsg, gSubD, dPar, dPar3, dFor, dIter, dRng1, dRng2, dEnum, dZipB, dLc, dLcM, mkL, dCall, dFld, dMeth, dCB, dBM, rSubD, rMulD, rFdivD, rModD, rLtD, rLeD, rGtD, rGeD, rNegD, rEqDD, rNeDD, dSl, dPn, dPs, dRev, rIsiC, dStar, dJoined, dJs, gStar, dMake, mkD, dCMeth, dStore, dDGet, dDisp, dRaise, tyM, dstart, wipeD, List.map, List.replicate, List.cons_append, List.nil_append, List.length_cons, List.length_nil, List.set_cons_zero, List.set_cons_succ, List.getElem?_cons_zero, List.getElem?_cons_succ, Option.some.injEq, exists_eq_left, exists_eq_left', D.bl.injEq, D.int.injEq, D.str.injEq, D.tup.injEq, D.lst.injEq, List.cons.injEq, and_true, true_and, if_true, if_false, Bool.false_eq_true, Bool.not_true, Bool.not_false, Nat.reduceSub, Nat.reduceAdd, Nat.zero_add, isi_non, isi_bl, isi_int, isi_str, isi_tup, isi_lst, mt_bool, mt_int, mt_str, mt_list, mt_tuple, len_str, len_lst, len_tup, int_int, int_bl, int_str, str_int, top_int, top_str, top_bl, top_non, top_lst, top_tup, box_lst, box_tup, lst_lst, seq_lst, seq_tup, seq_str, eq_int, eq_str, ix_tup, ix_lst, ix_str, atD_0, atD_1, atD_2, in_sign, tyM, isT, String.reduceBEq, String.reduceEq, Bool.or_true, Bool.or_false, Bool.true_or, Bool.false_or, Bool.and_true, Bool.and_false, Bool.true_and, Bool.false_and, ix_refI, add_int, add_str, add_lst, sl_str, sl_lst, atD_3, atD_4, pow_int, DO.lst.injEq, D.ref.injEq, updG_same, lst_refI, box_refI, set_refI, int2I, app_refI, ext_refI, splitI, joinI, idxI, ixN_51, ixN_52, ixN_53, ixN_54, ixN_30, ixN_31, ixN_32, okD_intI, okD_blI, okD_nonI, DL.updG2, List.length_set, Option.some.injEq, decide_eq_true_eq, decide_true, decide_false]
  refine ⟨by decide, fun p hp => ⟨_, _, rfl, rfl, ?_⟩⟩
  have hpa : a ≠ p := fun z => by
    subst z
    rw [hp] at ha
    cases ha
  refine forGo_enum (fun i ρ G1 => G1 = updG G p (strsO ((r.v.take i).map (·.1))) ∧ ∃ x5 x6 x7, ρ = [some (.ref a), some (.lst (r.v.map vatD)), some (.lst (r.f.map .str)), some (.lst (r.o.map .str)), some (.ref p), x5, x6, x7])
    (fun i x ρ G1 hx ⟨e1, x5, x6, x7, e2⟩ => ⟨rfl, fun K hK => ?_⟩) (fun ρ G1 ⟨e1, x5, x6, x7, e2⟩ => ⟨rfl, ?_⟩) ⟨rfl, _, _, _, rfl⟩
  · subst e1 e2
    obtain ⟨hlt, ex⟩ := List.getElem?_eq_some_iff.mp hx
    have hm : x ∈ r.v := ex ▸ List.getElem_mem hlt
    have hi4 : ¬ (4 : Int) ≤ i := by omega
    have hxi : (r.v.map (·.1))[i]? = some x.1 := by rw [List.getElem?_map, hx]; rfl
    have hnm : r.names[i]? = some x.1 := by
      show ((r.v.map (·.1)) ++ _)[i]? = _
      rw [List.getElem?_append_left (by simpa using hlt)]
      exact hxi
    have hnew : x.1 ∉ (r.v.take i).map (·.1) := by
      have := not_before nd hnm
      have e : r.names.take i = (r.v.take i).map (·.1) := by
        show ((r.v.map (·.1)) ++ _).take i = _
        rw [List.take_append_of_le_length (by simp; omega), List.map_take]
      rwa [e] at this
    have hv : (nameB x.1 && (decide (1 ≤ x.2) && decide (x.2 ≤ 6))) = true := by
      rw [hg.p.ok _ (nmv x hm)]
      have := hg.p.sz x hm
      simp [this]
    have hlen : x.1.length ≤ 6 := (name_len (hg.p.ok _ (nmv x hm))).2.1
    simp only [dVar, dC, dOp, dUn, dTest, dChain, dIsN, dNotN, isNo, dAnd, dOr, dNot, dAndV, dOrV, dNotV, dIf, dNil, dCons, dTup, dLst, dLstM, dNext, dSeq, dBreak, dCont, dDrop, dRet, dRetN, dIfS, gN, gsNil, gsCons, gTu, dAsg, gSubD, dPar, dPar3, dFor, dIter, dRng1, dRng2, dEnum, dZipB, dLc, dLcM, mkL, dCall, dFld, dMeth, dCB, dBM, rSubD, rMulD, rFdivD, rModD, rLtD, rLeD, rGtD, rGeD, rNegD, rEqDD, rNeDD, dSl, dPn, dPs, dRev, rIsiC, dStar, dJoined, dJs, gStar, dMake, mkD, dCMeth, dStore, dDGet, dDisp, dRaise, tyM, dstart, wipeD, List.map, List.replicate, List.cons_append, List.nil_append, List.length_cons, List.length_nil, List.set_cons_zero, List.set_cons_succ, List.getElem?_cons_zero, List.getElem?_cons_succ, Option.some.injEq, exists_eq_left, exists_eq_left', D.bl.injEq, D.int.injEq, D.str.injEq, D.tup.injEq, D.lst.injEq, List.cons.injEq, and_true, true_and, if_true, if_false, Bool.false_eq_true, Bool.not_true, Bool.not_false, Nat.reduceSub, Nat.reduceAdd, Nat.zero_add, isi_non, isi_bl, isi_int, isi_str, isi_tup, isi_lst, mt_bool, mt_int, mt_str, mt_list, mt_tuple, len_str, len_lst, len_tup, int_int, int_bl, int_str, str_int, top_int, top_str, top_bl, top_non, top_lst, top_tup, box_lst, box_tup, lst_lst, seq_lst, seq_tup, seq_str, eq_int, eq_str, ix_tup, ix_lst, ix_str, atD_0, atD_1, atD_2, in_sign, tyM, isT, String.reduceBEq, String.reduceEq, Bool.or_true, Bool.or_false, Bool.true_or, Bool.false_or, Bool.and_true, Bool.and_false, Bool.true_and, Bool.false_and, ix_refI, add_int, add_str, add_lst, sl_str, sl_lst, atD_3, atD_4, pow_int, DO.lst.injEq, D.ref.injEq, updG_same, lst_refI, box_refI, set_refI, int2I, app_refI, ext_refI, splitI, joinI, idxI, ixN_51, ixN_52, ixN_53, ixN_54, ixN_30, ixN_31, ixN_32, okD_intI, okD_blI, okD_nonI, DL.updG2, List.length_set, Option.some.injEq, decide_eq_true_eq, decide_true, decide_false, dNext]
    refine ⟨_, _, ⟨rfl, rfl⟩, _, _, rfl, rfl, ?_⟩
    rw [int2I]
    refine ⟨trivial, _, rfl, ?_⟩
    rw [if_neg (by simpa using hi4)]
    refine ⟨x.1, x.2, rfl, ⟨by omega, chr _ (nmv x hm)⟩, _, rfl, ?_⟩
    rw [hv, if_neg (by simp)]
    simp only [vatD, dVar, dC, dOp, dUn, dTest, dChain, dIsN, dNotN, isNo, dAnd, dOr, dNot, dAndV, dOrV, dNotV, dIf, dNil, dCons, dTup, dLst, dLstM, dNext, dSeq, dBreak, dCont, dDrop, dRet, dRetN, dIfS, gN, gsNil, gsCons, gTu, dAsg, gSubD, dPar, dPar3, dFor, dIter, dRng1, dRng2, dEnum, dZipB, dLc, dLcM, mkL, dCall, dFld, dMeth, dCB, dBM, rSubD, rMulD, rFdivD, rModD, rLtD, rLeD, rGtD, rGeD, rNegD, rEqDD, rNeDD, dSl, dPn, dPs, dRev, rIsiC, dStar, dJoined, dJs, gStar, dMake, mkD, dCMeth, dStore, dDGet, dDisp, dRaise, tyM, dstart, wipeD, List.map, List.replicate, List.cons_append, List.nil_append, List.length_cons, List.length_nil, List.set_cons_zero, List.set_cons_succ, List.getElem?_cons_zero, List.getElem?_cons_succ, Option.some.injEq, exists_eq_left, exists_eq_left', D.bl.injEq, D.int.injEq, D.str.injEq, D.tup.injEq, D.lst.injEq, List.cons.injEq, and_true, true_and, if_true, if_false, Bool.false_eq_true, Bool.not_true, Bool.not_false, Nat.reduceSub, Nat.reduceAdd, Nat.zero_add, isi_non, isi_bl, isi_int, isi_str, isi_tup, isi_lst, mt_bool, mt_int, mt_str, mt_list, mt_tuple, len_str, len_lst, len_tup, int_int, int_bl, int_str, str_int, top_int, top_str, top_bl, top_non, top_lst, top_tup, box_lst, box_tup, lst_lst, seq_lst, seq_tup, seq_str, eq_int, eq_str, ix_tup, ix_lst, ix_str, atD_0, atD_1, atD_2, in_sign, tyM, isT, String.reduceBEq, String.reduceEq, Bool.or_true, Bool.or_false, Bool.true_or, Bool.false_or, Bool.and_true, Bool.and_false, Bool.true_and, Bool.false_and, ix_refI, add_int, add_str, add_lst, sl_str, sl_lst, atD_3, atD_4, pow_int, DO.lst.injEq, D.ref.injEq, updG_same, lst_refI, box_refI, set_refI, int2I, app_refI, ext_refI, splitI, joinI, idxI, ixN_51, ixN_52, ixN_53, ixN_54, ixN_30, ixN_31, ixN_32, okD_intI, okD_blI, okD_nonI, DL.updG2, List.length_set, Option.some.injEq, decide_eq_true_eq, decide_true, decide_false]
    refine in_strs (box_ref updG_same) (fun s z => by cases z) (chr _ (nmv x hm)) (fun y hy => ?_) ⟨_, rfl, ?_⟩
    · obtain ⟨p', hp', rfl⟩ := List.mem_map.mp hy
      exact chr _ (nmv p' (List.mem_of_mem_take hp'))
    · rw [if_neg (by simpa using hnew)]
      simp only [vatD, dVar, dC, dOp, dUn, dTest, dChain, dIsN, dNotN, isNo, dAnd, dOr, dNot, dAndV, dOrV, dNotV, dIf, dNil, dCons, dTup, dLst, dLstM, dNext, dSeq, dBreak, dCont, dDrop, dRet, dRetN, dIfS, gN, gsNil, gsCons, gTu, dAsg, gSubD, dPar, dPar3, dFor, dIter, dRng1, dRng2, dEnum, dZipB, dLc, dLcM, mkL, dCall, dFld, dMeth, dCB, dBM, rSubD, rMulD, rFdivD, rModD, rLtD, rLeD, rGtD, rGeD, rNegD, rEqDD, rNeDD, dSl, dPn, dPs, dRev, rIsiC, dStar, dJoined, dJs, gStar, dMake, mkD, dCMeth, dStore, dDGet, dDisp, dRaise, tyM, dstart, wipeD, List.map, List.replicate, List.cons_append, List.nil_append, List.length_cons, List.length_nil, List.set_cons_zero, List.set_cons_succ, List.getElem?_cons_zero, List.getElem?_cons_succ, Option.some.injEq, exists_eq_left, exists_eq_left', D.bl.injEq, D.int.injEq, D.str.injEq, D.tup.injEq, D.lst.injEq, List.cons.injEq, and_true, true_and, if_true, if_false, Bool.false_eq_true, Bool.not_true, Bool.not_false, Nat.reduceSub, Nat.reduceAdd, Nat.zero_add, isi_non, isi_bl, isi_int, isi_str, isi_tup, isi_lst, mt_bool, mt_int, mt_str, mt_list, mt_tuple, len_str, len_lst, len_tup, int_int, int_bl, int_str, str_int, top_int, top_str, top_bl, top_non, top_lst, top_tup, box_lst, box_tup, lst_lst, seq_lst, seq_tup, seq_str, eq_int, eq_str, ix_tup, ix_lst, ix_str, atD_0, atD_1, atD_2, in_sign, tyM, isT, String.reduceBEq, String.reduceEq, Bool.or_true, Bool.or_false, Bool.true_or, Bool.false_or, Bool.and_true, Bool.and_false, Bool.true_and, Bool.false_and, ix_refI, add_int, add_str, add_lst, sl_str, sl_lst, atD_3, atD_4, pow_int, DO.lst.injEq, D.ref.injEq, updG_same, lst_refI, box_refI, set_refI, int2I, app_refI, ext_refI, splitI, joinI, idxI, ixN_51, ixN_52, ixN_53, ixN_54, ixN_30, ixN_31, ixN_32, okD_intI, okD_blI, okD_nonI, DL.updG2, List.length_set, Option.some.injEq, decide_eq_true_eq, decide_true, decide_false]
      refine ⟨⟨_, rfl⟩, by simp; omega, ?_⟩
      refine hK _ _ ⟨?_, _, _, _, rfl⟩
      rw [take_snoc hx]
      simp [strsO, Function.comp_def, List.map_take]
  · subst e1 e2
    have l1 : (r.v.take r.v.length).map (·.1) = r.v.map (·.1) := by simp
    simp only [l1]
    have lz : 0 < (r.v.map (·.1)).length := by
      rw [List.length_map]
      exact List.length_pos_iff.mpr hg.v1
    have okn : okD (.lst ((r.v.map (·.1)).map D.str)) := ok_strs fun y hy => by
      obtain ⟨p', hp', rfl⟩ := List.mem_map.mp hy
      exact chr _ (nmv p' hp')
    have eqn : eqD (.lst ((r.v.map (·.1)).map D.str)) (.lst []) = false := by
      have := eq_lstmap (k := D.str) (fun x y => eq_str) (r.v.map (·.1)) []
      rw [List.map_nil] at this
      rw [this]
      exact decide_eq_false fun z => by rw [z] at lz; simp at lz
    simp only [dVar, dC, dOp, dUn, dTest, dChain, dIsN, dNotN, isNo, dAnd, dOr, dNot, dAndV, dOrV, dNotV, dIf, dNil, dCons, dTup, dLst, dLstM, dNext, dSeq, dBreak, dCont, dDrop, dRet, dRetN, dIfS, gN, gsNil, gsCons, gTu, dAsg, gSubD, dPar, dPar3, dFor, dIter, dRng1, dRng2, dEnum, dZipB, dLc, dLcM, mkL, dCall, dFld, dMeth, dCB, dBM, rSubD, rMulD, rFdivD, rModD, rLtD, rLeD, rGtD, rGeD, rNegD, rEqDD, rNeDD, dSl, dPn, dPs, dRev, rIsiC, dStar, dJoined, dJs, gStar, dMake, mkD, dCMeth, dStore, dDGet, dDisp, dRaise, tyM, dstart, wipeD, List.map, List.replicate, List.cons_append, List.nil_append, List.length_cons, List.length_nil, List.set_cons_zero, List.set_cons_succ, List.getElem?_cons_zero, List.getElem?_cons_succ, Option.some.injEq, exists_eq_left, exists_eq_left', D.bl.injEq, D.int.injEq, D.str.injEq, D.tup.injEq, D.lst.injEq, List.cons.injEq, and_true, true_and, if_true, if_false, Bool.false_eq_true, Bool.not_true, Bool.not_false, Nat.reduceSub, Nat.reduceAdd, Nat.zero_add, isi_non, isi_bl, isi_int, isi_str, isi_tup, isi_lst, mt_bool, mt_int, mt_str, mt_list, mt_tuple, len_str, len_lst, len_tup, int_int, int_bl, int_str, str_int, top_int, top_str, top_bl, top_non, top_lst, top_tup, box_lst, box_tup, lst_lst, seq_lst, seq_tup, seq_str, eq_int, eq_str, ix_tup, ix_lst, ix_str, atD_0, atD_1, atD_2, in_sign, tyM, isT, String.reduceBEq, String.reduceEq, Bool.or_true, Bool.or_false, Bool.true_or, Bool.false_or, Bool.and_true, Bool.and_false, Bool.true_and, Bool.false_and, ix_refI, add_int, add_str, add_lst, sl_str, sl_lst, atD_3, atD_4, pow_int, DO.lst.injEq, D.ref.injEq, updG_same, lst_refI, box_refI, set_refI, int2I, app_refI, ext_refI, splitI, joinI, idxI, ixN_51, ixN_52, ixN_53, ixN_54, ixN_30, ixN_31, ixN_32, okD_intI, okD_blI, okD_nonI, DL.updG2, List.length_set, Option.some.injEq, decide_eq_true_eq, decide_true, decide_false]
    rw [top_ref updG_same]
    refine ⟨by decide, okn, rfl, ?_⟩
    rw [eqn, if_neg (by simp)]
    refine ⟨_, _, rfl, rfl, ?_⟩
    refine forGo_enum (fun i ρ G1 => G1 = updG G p (strsO (r.v.map (·.1) ++ r.f.take i)) ∧ ∃ x5 x6 x7, ρ = [some (.ref a), some (.lst (r.v.map vatD)), some (.lst (r.f.map .str)), some (.lst (r.o.map .str)), some (.ref p), x5, x6, x7])
      (fun i x ρ G1 hx ⟨e1, x5, x6, x7, e2⟩ => ⟨rfl, fun K hK => ?_⟩) (fun ρ G1 ⟨e1, x5, x6, x7, e2⟩ => ⟨rfl, ?_⟩) ⟨by simp, _, _, _, rfl⟩
    · subst e1 e2
      obtain ⟨hlt, ex⟩ := List.getElem?_eq_some_iff.mp hx
      have hm : x ∈ r.f := ex ▸ List.getElem_mem hlt
      have hi4 : ¬ (2 : Int) ≤ i := by omega
      have hnm : r.names[r.v.length + i]? = some x := by
        show ((r.v.map (·.1)) ++ (r.f ++ r.o))[_]? = _
        rw [List.getElem?_append_right (by simp), List.length_map, Nat.add_sub_cancel_left, List.getElem?_append_left hlt]
        exact hx
      have hnew : x ∉ r.v.map (·.1) ++ r.f.take i := by
        have := not_before nd hnm
        have e : r.names.take (r.v.length + i) = r.v.map (·.1) ++ r.f.take i := by
          show ((r.v.map (·.1)) ++ (r.f ++ r.o)).take _ = _
          rw [List.take_append, List.take_of_length_le (by simp), List.length_map, Nat.add_sub_cancel_left, List.take_append_of_le_length (by omega)]
        rwa [e] at this
      have hlen : x.length ≤ 6 := (name_len (hg.p.ok _ (nmf x hm))).2.1
      simp only [dVar, dC, dOp, dUn, dTest, dChain, dIsN, dNotN, isNo, dAnd, dOr, dNot, dAndV, dOrV, dNotV, dIf, dNil, dCons, dTup, dLst, dLstM, dNext, dSeq, dBreak, dCont, dDrop, dRet, dRetN, dIfS, gN, gsNil, gsCons, gTu, dAsg, gSubD, dPar, dPar3, dFor, dIter, dRng1, dRng2, dEnum, dZipB, dLc, dLcM, mkL, dCall, dFld, dMeth, dCB, dBM, rSubD, rMulD, rFdivD, rModD, rLtD, rLeD, rGtD, rGeD, rNegD, rEqDD, rNeDD, dSl, dPn, dPs, dRev, rIsiC, dStar, dJoined, dJs, gStar, dMake, mkD, dCMeth, dStore, dDGet, dDisp, dRaise, tyM, dstart, wipeD, List.map, List.replicate, List.cons_append, List.nil_append, List.length_cons, List.length_nil, List.set_cons_zero, List.set_cons_succ, List.getElem?_cons_zero, List.getElem?_cons_succ, Option.some.injEq, exists_eq_left, exists_eq_left', D.bl.injEq, D.int.injEq, D.str.injEq, D.tup.injEq, D.lst.injEq, List.cons.injEq, and_true, true_and, if_true, if_false, Bool.false_eq_true, Bool.not_true, Bool.not_false, Nat.reduceSub, Nat.reduceAdd, Nat.zero_add, isi_non, isi_bl, isi_int, isi_str, isi_tup, isi_lst, mt_bool, mt_int, mt_str, mt_list, mt_tuple, len_str, len_lst, len_tup, int_int, int_bl, int_str, str_int, top_int, top_str, top_bl, top_non, top_lst, top_tup, box_lst, box_tup, lst_lst, seq_lst, seq_tup, seq_str, eq_int, eq_str, ix_tup, ix_lst, ix_str, atD_0, atD_1, atD_2, in_sign, tyM, isT, String.reduceBEq, String.reduceEq, Bool.or_true, Bool.or_false, Bool.true_or, Bool.false_or, Bool.and_true, Bool.and_false, Bool.true_and, Bool.false_and, ix_refI, add_int, add_str, add_lst, sl_str, sl_lst, atD_3, atD_4, pow_int, DO.lst.injEq, D.ref.injEq, updG_same, lst_refI, box_refI, set_refI, int2I, app_refI, ext_refI, splitI, joinI, idxI, ixN_51, ixN_52, ixN_53, ixN_54, ixN_30, ixN_31, ixN_32, okD_intI, okD_blI, okD_nonI, DL.updG2, List.length_set, Option.some.injEq, decide_eq_true_eq, decide_true, decide_false, dNext]
      refine ⟨_, _, ⟨rfl, rfl⟩, _, _, rfl, rfl, ?_⟩
      rw [int2I]
      refine ⟨trivial, _, rfl, ?_⟩
      rw [if_neg (by simpa using hi4)]
      refine ⟨x, rfl, ⟨by omega, chr _ (nmf x hm)⟩, _, rfl, ?_⟩
      rw [hg.p.ok _ (nmf x hm), if_neg (by simp)]
      refine in_strs (box_ref updG_same) (fun s z => by cases z) (chr _ (nmf x hm)) (fun y hy => ?_) ⟨_, rfl, ?_⟩
      · rcases List.mem_append.mp hy with hy | hy
        · obtain ⟨p', hp', rfl⟩ := List.mem_map.mp hy
          exact chr _ (nmv p' hp')
        · exact chr _ (nmf y (List.mem_of_mem_take hy))
      · rw [if_neg (by simpa using hnew)]
        simp only [dVar, dC, dOp, dUn, dTest, dChain, dIsN, dNotN, isNo, dAnd, dOr, dNot, dAndV, dOrV, dNotV, dIf, dNil, dCons, dTup, dLst, dLstM, dNext, dSeq, dBreak, dCont, dDrop, dRet, dRetN, dIfS, gN, gsNil, gsCons, gTu, dAsg, gSubD, dPar, dPar3, dFor, dIter, dRng1, dRng2, dEnum, dZipB, dLc, dLcM, mkL, dCall, dFld, dMeth, dCB, dBM, rSubD, rMulD, rFdivD, rModD, rLtD, rLeD, rGtD, rGeD, rNegD, rEqDD, rNeDD, dSl, dPn, dPs, dRev, rIsiC, dStar, dJoined, dJs, gStar, dMake, mkD, dCMeth, dStore, dDGet, dDisp, dRaise, tyM, dstart, wipeD, List.map, List.replicate, List.cons_append, List.nil_append, List.length_cons, List.length_nil, List.set_cons_zero, List.set_cons_succ, List.getElem?_cons_zero, List.getElem?_cons_succ, Option.some.injEq, exists_eq_left, exists_eq_left', D.bl.injEq, D.int.injEq, D.str.injEq, D.tup.injEq, D.lst.injEq, List.cons.injEq, and_true, true_and, if_true, if_false, Bool.false_eq_true, Bool.not_true, Bool.not_false, Nat.reduceSub, Nat.reduceAdd, Nat.zero_add, isi_non, isi_bl, isi_int, isi_str, isi_tup, isi_lst, mt_bool, mt_int, mt_str, mt_list, mt_tuple, len_str, len_lst, len_tup, int_int, int_bl, int_str, str_int, top_int, top_str, top_bl, top_non, top_lst, top_tup, box_lst, box_tup, lst_lst, seq_lst, seq_tup, seq_str, eq_int, eq_str, ix_tup, ix_lst, ix_str, atD_0, atD_1, atD_2, in_sign, tyM, isT, String.reduceBEq, String.reduceEq, Bool.or_true, Bool.or_false, Bool.true_or, Bool.false_or, Bool.and_true, Bool.and_false, Bool.true_and, Bool.false_and, ix_refI, add_int, add_str, add_lst, sl_str, sl_lst, atD_3, atD_4, pow_int, DO.lst.injEq, D.ref.injEq, updG_same, lst_refI, box_refI, set_refI, int2I, app_refI, ext_refI, splitI, joinI, idxI, ixN_51, ixN_52, ixN_53, ixN_54, ixN_30, ixN_31, ixN_32, okD_intI, okD_blI, okD_nonI, DL.updG2, List.length_set, Option.some.injEq, decide_eq_true_eq, decide_true, decide_false]
        refine ⟨⟨_, rfl⟩, by simp; omega, ?_⟩
        refine hK _ _ ⟨?_, _, _, _, rfl⟩
        rw [take_snoc hx]
        simp [strsO, Function.comp_def, List.map_take]
    · subst e1 e2
      have l1 : r.f.take r.f.length = r.f := by simp
      simp only [l1]
      simp only [dVar, dC, dOp, dUn, dTest, dChain, dIsN, dNotN, isNo, dAnd, dOr, dNot, dAndV, dOrV, dNotV, dIf, dNil, dCons, dTup, dLst, dLstM, dNext, dSeq, dBreak, dCont, dDrop, dRet, dRetN, dIfS, gN, gsNil, gsCons, gTu, dAsg, gSubD, dPar, dPar3, dFor, dIter, dRng1, dRng2, dEnum, dZipB, dLc, dLcM, mkL, dCall, dFld, dMeth, dCB, dBM, rSubD, rMulD, rFdivD, rModD, rLtD, rLeD, rGtD, rGeD, rNegD, rEqDD, rNeDD, dSl, dPn, dPs, dRev, rIsiC, dStar, dJoined, dJs, gStar, dMake, mkD, dCMeth, dStore, dDGet, dDisp, dRaise, tyM, dstart, wipeD, List.map, List.replicate, List.cons_append, List.nil_append, List.length_cons, List.length_nil, List.set_cons_zero, List.set_cons_succ, List.getElem?_cons_zero, List.getElem?_cons_succ, Option.some.injEq, exists_eq_left, exists_eq_left', D.bl.injEq, D.int.injEq, D.str.injEq, D.tup.injEq, D.lst.injEq, List.cons.injEq, and_true, true_and, if_true, if_false, Bool.false_eq_true, Bool.not_true, Bool.not_false, Nat.reduceSub, Nat.reduceAdd, Nat.zero_add, isi_non, isi_bl, isi_int, isi_str, isi_tup, isi_lst, mt_bool, mt_int, mt_str, mt_list, mt_tuple, len_str, len_lst, len_tup, int_int, int_bl, int_str, str_int, top_int, top_str, top_bl, top_non, top_lst, top_tup, box_lst, box_tup, lst_lst, seq_lst, seq_tup, seq_str, eq_int, eq_str, ix_tup, ix_lst, ix_str, atD_0, atD_1, atD_2, in_sign, tyM, isT, String.reduceBEq, String.reduceEq, Bool.or_true, Bool.or_false, Bool.true_or, Bool.false_or, Bool.and_true, Bool.and_false, Bool.true_and, Bool.false_and, ix_refI, add_int, add_str, add_lst, sl_str, sl_lst, atD_3, atD_4, pow_int, DO.lst.injEq, D.ref.injEq, updG_same, lst_refI, box_refI, set_refI, int2I, app_refI, ext_refI, splitI, joinI, idxI, ixN_51, ixN_52, ixN_53, ixN_54, ixN_30, ixN_31, ixN_32, okD_intI, okD_blI, okD_nonI, DL.updG2, List.length_set, Option.some.injEq, decide_eq_true_eq, decide_true, decide_false]
      refine ⟨_, _, rfl, rfl, ?_⟩
      refine forGo_enum (fun i ρ G1 => G1 = updG G p (strsO (r.v.map (·.1) ++ (r.f ++ r.o.take i))) ∧ ∃ x5 x6 x7, ρ = [some (.ref a), some (.lst (r.v.map vatD)), some (.lst (r.f.map .str)), some (.lst (r.o.map .str)), some (.ref p), x5, x6, x7])
        (fun i x ρ G1 hx ⟨e1, x5, x6, x7, e2⟩ => ⟨rfl, fun K hK => ?_⟩) (fun ρ G1 ⟨e1, x5, x6, x7, e2⟩ => ⟨rfl, ?_⟩) ⟨by simp, _, _, _, rfl⟩
      · subst e1 e2
        obtain ⟨hlt, ex⟩ := List.getElem?_eq_some_iff.mp hx
        have hm : x ∈ r.o := ex ▸ List.getElem_mem hlt
        have hi4 : ¬ (2 : Int) ≤ i := by omega
        have hnm : r.names[r.v.length + (r.f.length + i)]? = some x := by
          show ((r.v.map (·.1)) ++ (r.f ++ r.o))[_]? = _
          rw [List.getElem?_append_right (by simp), List.length_map, Nat.add_sub_cancel_left, List.getElem?_append_right (by simp), Nat.add_sub_cancel_left]
          exact hx
        have hnew : x ∉ r.v.map (·.1) ++ (r.f ++ r.o.take i) := by
          have := not_before nd hnm
          have e : r.names.take (r.v.length + (r.f.length + i)) = r.v.map (·.1) ++ (r.f ++ r.o.take i) := by
            show ((r.v.map (·.1)) ++ (r.f ++ r.o)).take _ = _
            rw [List.take_append, List.take_of_length_le (by simp), List.length_map, Nat.add_sub_cancel_left, List.take_append, List.take_of_length_le (by simp), Nat.add_sub_cancel_left]
          rwa [e] at this
        have hlen : x.length ≤ 6 := (name_len (hg.p.ok _ (nmo x hm))).2.1
        simp only [dVar, dC, dOp, dUn, dTest, dChain, dIsN, dNotN, isNo, dAnd, dOr, dNot, dAndV, dOrV, dNotV, dIf, dNil, dCons, dTup, dLst, dLstM, dNext, dSeq, dBreak, dCont, dDrop, dRet, dRetN, dIfS, gN, gsNil, gsCons, gTu, dAsg, gSubD, dPar, dPar3, dFor, dIter, dRng1, dRng2, dEnum, dZipB, dLc, dLcM, mkL, dCall, dFld, dMeth, dCB, dBM, rSubD, rMulD, rFdivD, rModD, rLtD, rLeD, rGtD, rGeD, rNegD, rEqDD, rNeDD, dSl, dPn, dPs, dRev, rIsiC, dStar, dJoined, dJs, gStar, dMake, mkD, dCMeth, dStore, dDGet, dDisp, dRaise, tyM, dstart, wipeD, List.map, List.replicate, List.cons_append, List.nil_append, List.length_cons, List.length_nil, List.set_cons_zero, List.set_cons_succ, List.getElem?_cons_zero, List.getElem?_cons_succ, Option.some.injEq, exists_eq_left, exists_eq_left', D.bl.injEq, D.int.injEq, D.str.injEq, D.tup.injEq, D.lst.injEq, List.cons.injEq, and_true, true_and, if_true, if_false, Bool.false_eq_true, Bool.not_true, Bool.not_false, Nat.reduceSub, Nat.reduceAdd, Nat.zero_add, isi_non, isi_bl, isi_int, isi_str, isi_tup, isi_lst, mt_bool, mt_int, mt_str, mt_list, mt_tuple, len_str, len_lst, len_tup, int_int, int_bl, int_str, str_int, top_int, top_str, top_bl, top_non, top_lst, top_tup, box_lst, box_tup, lst_lst, seq_lst, seq_tup, seq_str, eq_int, eq_str, ix_tup, ix_lst, ix_str, atD_0, atD_1, atD_2, in_sign, tyM, isT, String.reduceBEq, String.reduceEq, Bool.or_true, Bool.or_false, Bool.true_or, Bool.false_or, Bool.and_true, Bool.and_false, Bool.true_and, Bool.false_and, ix_refI, add_int, add_str, add_lst, sl_str, sl_lst, atD_3, atD_4, pow_int, DO.lst.injEq, D.ref.injEq, updG_same, lst_refI, box_refI, set_refI, int2I, app_refI, ext_refI, splitI, joinI, idxI, ixN_51, ixN_52, ixN_53, ixN_54, ixN_30, ixN_31, ixN_32, okD_intI, okD_blI, okD_nonI, DL.updG2, List.length_set, Option.some.injEq, decide_eq_true_eq, decide_true, decide_false, dNext]
        refine ⟨_, _, ⟨rfl, rfl⟩, _, _, rfl, rfl, ?_⟩
        rw [int2I]
        refine ⟨trivial, _, rfl, ?_⟩
        rw [if_neg (by simpa using hi4)]
        refine ⟨x, rfl, ⟨by omega, chr _ (nmo x hm)⟩, _, rfl, ?_⟩
        rw [hg.p.ok _ (nmo x hm), if_neg (by simp)]
        refine in_strs (box_ref updG_same) (fun s z => by cases z) (chr _ (nmo x hm)) (fun y hy => ?_) ⟨_, rfl, ?_⟩
        · rcases List.mem_append.mp hy with hy | hy
          · obtain ⟨p', hp', rfl⟩ := List.mem_map.mp hy
            exact chr _ (nmv p' hp')
          · rcases List.mem_append.mp hy with hy | hy
            · exact chr _ (nmf y hy)
            · exact chr _ (nmo y (List.mem_of_mem_take hy))
        · rw [if_neg (by simpa using hnew)]
          simp only [dVar, dC, dOp, dUn, dTest, dChain, dIsN, dNotN, isNo, dAnd, dOr, dNot, dAndV, dOrV, dNotV, dIf, dNil, dCons, dTup, dLst, dLstM, dNext, dSeq, dBreak, dCont, dDrop, dRet, dRetN, dIfS, gN, gsNil, gsCons, gTu, dAsg, gSubD, dPar, dPar3, dFor, dIter, dRng1, dRng2, dEnum, dZipB, dLc, dLcM, mkL, dCall, dFld, dMeth, dCB, dBM, rSubD, rMulD, rFdivD, rModD, rLtD, rLeD, rGtD, rGeD, rNegD, rEqDD, rNeDD, dSl, dPn, dPs, dRev, rIsiC, dStar, dJoined, dJs, gStar, dMake, mkD, dCMeth, dStore, dDGet, dDisp, dRaise, tyM, dstart, wipeD, List.map, List.replicate, List.cons_append, List.nil_append, List.length_cons, List.length_nil, List.set_cons_zero, List.set_cons_succ, List.getElem?_cons_zero, List.getElem?_cons_succ, Option.some.injEq, exists_eq_left, exists_eq_left', D.bl.injEq, D.int.injEq, D.str.injEq, D.tup.injEq, D.lst.injEq, List.cons.injEq, and_true, true_and, if_true, if_false, Bool.false_eq_true, Bool.not_true, Bool.not_false, Nat.reduceSub, Nat.reduceAdd, Nat.zero_add, isi_non, isi_bl, isi_int, isi_str, isi_tup, isi_lst, mt_bool, mt_int, mt_str, mt_list, mt_tuple, len_str, len_lst, len_tup, int_int, int_bl, int_str, str_int, top_int, top_str, top_bl, top_non, top_lst, top_tup, box_lst, box_tup, lst_lst, seq_lst, seq_tup, seq_str, eq_int, eq_str, ix_tup, ix_lst, ix_str, atD_0, atD_1, atD_2, in_sign, tyM, isT, String.reduceBEq, String.reduceEq, Bool.or_true, Bool.or_false, Bool.true_or, Bool.false_or, Bool.and_true, Bool.and_false, Bool.true_and, Bool.false_and, ix_refI, add_int, add_str, add_lst, sl_str, sl_lst, atD_3, atD_4, pow_int, DO.lst.injEq, D.ref.injEq, updG_same, lst_refI, box_refI, set_refI, int2I, app_refI, ext_refI, splitI, joinI, idxI, ixN_51, ixN_52, ixN_53, ixN_54, ixN_30, ixN_31, ixN_32, okD_intI, okD_blI, okD_nonI, DL.updG2, List.length_set, Option.some.injEq, decide_eq_true_eq, decide_true, decide_false]
          refine ⟨⟨_, rfl⟩, by simp; omega, ?_⟩
          refine hK _ _ ⟨?_, _, _, _, rfl⟩
          rw [take_snoc hx]
          simp [strsO, Function.comp_def, List.map_take]
      · subst e1 e2
        simp only [dVar, dC, dOp, dUn, dTest, dChain, dIsN, dNotN, isNo, dAnd, dOr, dNot, dAndV, dOrV, dNotV, dIf, dNil, dCons, dTup, dLst, dLstM, dNext, dSeq, dBreak, dCont, dDrop, dRet, dRetN, dIfS, gN, gsNil, gsCons, gTu, dAsg, gSubD, dPar, dPar3, dFor, dIter, dRng1, dRng2, dEnum, dZipB, dLc, dLcM, mkL, dCall, dFld, dMeth, dCB, dBM, rSubD, rMulD, rFdivD, rModD, rLtD, rLeD, rGtD, rGeD, rNegD, rEqDD, rNeDD, dSl, dPn, dPs, dRev, rIsiC, dStar, dJoined, dJs, gStar, dMake, mkD, dCMeth, dStore, dDGet, dDisp, dRaise, tyM, dstart, wipeD, List.map, List.replicate, List.cons_append, List.nil_append, List.length_cons, List.length_nil, List.set_cons_zero, List.set_cons_succ, List.getElem?_cons_zero, List.getElem?_cons_succ, Option.some.injEq, exists_eq_left, exists_eq_left', D.bl.injEq, D.int.injEq, D.str.injEq, D.tup.injEq, D.lst.injEq, List.cons.injEq, and_true, true_and, if_true, if_false, Bool.false_eq_true, Bool.not_true, Bool.not_false, Nat.reduceSub, Nat.reduceAdd, Nat.zero_add, isi_non, isi_bl, isi_int, isi_str, isi_tup, isi_lst, mt_bool, mt_int, mt_str, mt_list, mt_tuple, len_str, len_lst, len_tup, int_int, int_bl, int_str, str_int, top_int, top_str, top_bl, top_non, top_lst, top_tup, box_lst, box_tup, lst_lst, seq_lst, seq_tup, seq_str, eq_int, eq_str, ix_tup, ix_lst, ix_str, atD_0, atD_1, atD_2, in_sign, tyM, isT, String.reduceBEq, String.reduceEq, Bool.or_true, Bool.or_false, Bool.true_or, Bool.false_or, Bool.and_true, Bool.and_false, Bool.true_and, Bool.false_and, ix_refI, add_int, add_str, add_lst, sl_str, sl_lst, atD_3, atD_4, pow_int, DO.lst.injEq, D.ref.injEq, updG_same, lst_refI, box_refI, set_refI, int2I, app_refI, ext_refI, splitI, joinI, idxI, ixN_51, ixN_52, ixN_53, ixN_54, ixN_30, ixN_31, ixN_32, okD_intI, okD_blI, okD_nonI, DL.updG2, List.length_set, Option.some.injEq, decide_eq_true_eq, decide_true, decide_false]
        refine tuple_r rfl ⟨a, [], rfl, by rw [updG_ne hpa]; exact ha, by decide, tuple_r rfl ⟨a, _, rfl, updG_same, by simp [putD], tuple_r rfl ⟨a, _, rfl, updG_same, by simp [putD], ?_⟩⟩⟩
        rw [DL.updG2, DL.updG2, updG_comm hpa]
        exact rt_drop (by rw [updG_ne (Ne.symm hpa)]; exact hp) rfl q
def plantD (d : D) (G : GH) (r : Rows) : Prop := insD d G = some ("Plant", r.fs)
def sp_Plant_lines : DSp := fun ds G Q E => ∃ d r, ds = [d] ∧ plantD d G r ∧ r.good ∧ Q (.lst (r.lines.map .str)) G
theorem l_Plant_lines {ds G Q Ed} (h : sp_Plant_lines ds G Q Ed) : ds.length = 1 := by
  obtain ⟨_, _, rfl, _⟩ := h; rfl
abbrev N_Plant_lines : List Str := ["self", "found", "name", "size"]
def t_Plant_lines (Ed : DXK) : DTS := dSeq (dAsg (dLcM (dIter (dFld "Plant" "own_vats" (dVar 0))) (gTu 2 (gsCons (gN 2) (gsCons (gN 3) (gsNil)))) (dYes) (dJoined [dC (.str [118, 97, 116, 32]), dFmt (dVar 2), dC (.str [32]), dFmt (dVar 3)]) [2, 3]) (gN 1)) (dSeq (dDrop (dBM "list" rExtD (dVar 1) (dCons (dLc (dIter (dFld "Plant" "own_floats" (dVar 0))) (gN 2) (dYes) (dJoined [dC (.str [102, 108, 111, 97, 116, 32]), dFmt (dVar 2)]) [2]) (dNil)))) (dRet (dLst (dStar (dVar 1) (dStar (dLc (dIter (dFld "Plant" "own_outlets" (dVar 0))) (gN 2) (dYes) (dJoined [dC (.str [111, 117, 116, 108, 101, 116, 32]), dFmt (dVar 2)]) [2]) (dNil))))))
theorem r_Plant_lines (ds : List D) (G : GH) (Qd : DK) (Ed : DXK) (h : sp_Plant_lines ds G Qd Ed) : t_Plant_lines (rtX Ed) { nx := fun _ G' => rtF Qd .non G', rt := rtF Qd } (dstart N_Plant_lines ds) G := by
  obtain ⟨d, r, rfl, hd, hg, q⟩ := h
  have hd' : insD d G = some ("Plant", r.fs) := hd
  have hz := size_ge
  have b1 := hg.p.v4
  have b2 := hg.p.f2
  have b3 := hg.p.o2
  simp only [t_Plant_lines, N_Plant_lines, dVar, dC, dOp, dUn, dTest, dChain, dIsN, dNotN, isNo, dAnd, dOr, dNot, dAndV, dOrV, dNotV, dIf, dNil, dCons, dTup, dLst, dLstM, dNext, dSeq, dBreak, dCont, dDrop, dRet, dRetN, dIfS, gN, gsNil, gsCons, gTu, dAsg, gSubD, dPar, dPar3, dFor, dIter, dRng1, dRng2, dEnum, dZipB, dLc, dLcM, mkL, dCall, dFld, dMeth, dCB, dBM, rSubD, rMulD, rFdivD, rModD, rLtD, rLeD, rGtD, rGeD, rNegD, rEqDD, rNeDD, dSl, dPn, dPs, dRev, rIsiC, dStar, dJoined, dJs, gStar, dMake, mkD, dCMeth, dStore, dDGet, dDisp, dRaise, tyM, dstart, wipeD, List.map, List.replicate, List.cons_append, List.nil_append, List.length_cons, List.length_nil, List.set_cons_zero, List.set_cons_succ, List.getElem?_cons_zero, List.getElem?_cons_succ, Option.some.injEq, exists_eq_left, exists_eq_left', D.bl.injEq, D.int.injEq, D.str.injEq, D.tup.injEq, D.lst.injEq, List.cons.injEq, and_true, true_and, if_true, if_false, Bool.false_eq_true, Bool.not_true, Bool.not_false, Nat.reduceSub, Nat.reduceAdd, Nat.zero_add, isi_non, isi_bl, isi_int, isi_str, isi_tup, isi_lst, mt_bool, mt_int, mt_str, mt_list, mt_tuple, len_str, len_lst, len_tup, int_int, int_bl, int_str, str_int, top_int, top_str, top_bl, top_non, top_lst, top_tup, box_lst, box_tup, lst_lst, seq_lst, seq_tup, seq_str, eq_int, eq_str, ix_tup, ix_lst, ix_str, atD_0, atD_1, atD_2, in_sign, tyM, isT, String.reduceBEq, String.reduceEq, Bool.or_true, Bool.or_false, Bool.true_or, Bool.false_or, Bool.and_true, Bool.and_false, Bool.true_and, Bool.false_and, ix_refI, add_int, add_str, add_lst, sl_str, sl_lst, atD_3, atD_4, pow_int, DO.lst.injEq, D.ref.injEq, updG_same, lst_refI, box_refI, set_refI, int2I, app_refI, ext_refI, splitI, joinI, idxI, ixN_51, ixN_52, ixN_53, ixN_54, ixN_30, ixN_31, ixN_32, okD_intI, okD_blI, okD_nonI, DL.updG2, List.length_set, Option.some.injEq, decide_eq_true_eq, decide_true, decide_false, hd']
  refine ⟨_, _, rfl, rfl, _, rfl, lc_map0 (f := fun p => .str (vatL p)) rfl (fun p hp Q' q' => ?_) (by omega) ?_⟩
  · obtain ⟨hl, hn, hz2, h3, h4⟩ := vat_line hg.p hp
    have hl2 := log2_of (i := p.2) (k := 10) (by omega) (by omega) (by decide)
    have hlen := hl.len
    simp [vatL, hz2] at hlen
    simp only [dVar, dC, dOp, dUn, dTest, dChain, dIsN, dNotN, isNo, dAnd, dOr, dNot, dAndV, dOrV, dNotV, dIf, dNil, dCons, dTup, dLst, dLstM, dNext, dSeq, dBreak, dCont, dDrop, dRet, dRetN, dIfS, gN, gsNil, gsCons, gTu, dAsg, gSubD, dPar, dPar3, dFor, dIter, dRng1, dRng2, dEnum, dZipB, dLc, dLcM, mkL, dCall, dFld, dMeth, dCB, dBM, rSubD, rMulD, rFdivD, rModD, rLtD, rLeD, rGtD, rGeD, rNegD, rEqDD, rNeDD, dSl, dPn, dPs, dRev, rIsiC, dStar, dJoined, dJs, gStar, dMake, mkD, dCMeth, dStore, dDGet, dDisp, dRaise, tyM, dstart, wipeD, List.map, List.replicate, List.cons_append, List.nil_append, List.length_cons, List.length_nil, List.set_cons_zero, List.set_cons_succ, List.getElem?_cons_zero, List.getElem?_cons_succ, Option.some.injEq, exists_eq_left, exists_eq_left', D.bl.injEq, D.int.injEq, D.str.injEq, D.tup.injEq, D.lst.injEq, List.cons.injEq, and_true, true_and, if_true, if_false, Bool.false_eq_true, Bool.not_true, Bool.not_false, Nat.reduceSub, Nat.reduceAdd, Nat.zero_add, isi_non, isi_bl, isi_int, isi_str, isi_tup, isi_lst, mt_bool, mt_int, mt_str, mt_list, mt_tuple, len_str, len_lst, len_tup, int_int, int_bl, int_str, str_int, top_int, top_str, top_bl, top_non, top_lst, top_tup, box_lst, box_tup, lst_lst, seq_lst, seq_tup, seq_str, eq_int, eq_str, ix_tup, ix_lst, ix_str, atD_0, atD_1, atD_2, in_sign, tyM, isT, String.reduceBEq, String.reduceEq, Bool.or_true, Bool.or_false, Bool.true_or, Bool.false_or, Bool.and_true, Bool.and_false, Bool.true_and, Bool.false_and, ix_refI, add_int, add_str, add_lst, sl_str, sl_lst, atD_3, atD_4, pow_int, DO.lst.injEq, D.ref.injEq, updG_same, lst_refI, box_refI, set_refI, int2I, app_refI, ext_refI, splitI, joinI, idxI, ixN_51, ixN_52, ixN_53, ixN_54, ixN_30, ixN_31, ixN_32, okD_intI, okD_blI, okD_nonI, DL.updG2, List.length_set, Option.some.injEq, decide_eq_true_eq, decide_true, decide_false, dFmt, vatD]
    refine ⟨_, _, ⟨rfl, rfl⟩, _, _, rfl, rfl, by omega, ?_⟩
    simp only [hz2]
    refine ⟨by omega, by omega, by omega, by omega, by simp; omega, ?_⟩
    simpa [vatL, hz2] using q'
  · refine ⟨_, rfl, fun p hp => ⟨⟨_, lst_ref updG_same⟩, _, _, insD_new hd hp, rfl, _, rfl, lc_map0 (f := fun s => .str (sFloat ++ 32 :: s)) rfl (fun s hs Q' q' => ?_) (by omega) ?_⟩⟩
    · obtain ⟨hl, hn⟩ := str_line hg.p (.inl hs) _ wf6
      simp only [dVar, dC, dOp, dUn, dTest, dChain, dIsN, dNotN, isNo, dAnd, dOr, dNot, dAndV, dOrV, dNotV, dIf, dNil, dCons, dTup, dLst, dLstM, dNext, dSeq, dBreak, dCont, dDrop, dRet, dRetN, dIfS, gN, gsNil, gsCons, gTu, dAsg, gSubD, dPar, dPar3, dFor, dIter, dRng1, dRng2, dEnum, dZipB, dLc, dLcM, mkL, dCall, dFld, dMeth, dCB, dBM, rSubD, rMulD, rFdivD, rModD, rLtD, rLeD, rGtD, rGeD, rNegD, rEqDD, rNeDD, dSl, dPn, dPs, dRev, rIsiC, dStar, dJoined, dJs, gStar, dMake, mkD, dCMeth, dStore, dDGet, dDisp, dRaise, tyM, dstart, wipeD, List.map, List.replicate, List.cons_append, List.nil_append, List.length_cons, List.length_nil, List.set_cons_zero, List.set_cons_succ, List.getElem?_cons_zero, List.getElem?_cons_succ, Option.some.injEq, exists_eq_left, exists_eq_left', D.bl.injEq, D.int.injEq, D.str.injEq, D.tup.injEq, D.lst.injEq, List.cons.injEq, and_true, true_and, if_true, if_false, Bool.false_eq_true, Bool.not_true, Bool.not_false, Nat.reduceSub, Nat.reduceAdd, Nat.zero_add, isi_non, isi_bl, isi_int, isi_str, isi_tup, isi_lst, mt_bool, mt_int, mt_str, mt_list, mt_tuple, len_str, len_lst, len_tup, int_int, int_bl, int_str, str_int, top_int, top_str, top_bl, top_non, top_lst, top_tup, box_lst, box_tup, lst_lst, seq_lst, seq_tup, seq_str, eq_int, eq_str, ix_tup, ix_lst, ix_str, atD_0, atD_1, atD_2, in_sign, tyM, isT, String.reduceBEq, String.reduceEq, Bool.or_true, Bool.or_false, Bool.true_or, Bool.false_or, Bool.and_true, Bool.and_false, Bool.true_and, Bool.false_and, ix_refI, add_int, add_str, add_lst, sl_str, sl_lst, atD_3, atD_4, pow_int, DO.lst.injEq, D.ref.injEq, updG_same, lst_refI, box_refI, set_refI, int2I, app_refI, ext_refI, splitI, joinI, idxI, ixN_51, ixN_52, ixN_53, ixN_54, ixN_30, ixN_31, ixN_32, okD_intI, okD_blI, okD_nonI, DL.updG2, List.length_set, Option.some.injEq, decide_eq_true_eq, decide_true, decide_false, dFmt]
      exact ⟨by omega, by omega, by omega, q'⟩
    · rw [ext_refI]
      refine ⟨_, updG_same, _, rfl, by simp; omega, ?_⟩
      rw [updG2]
      refine ⟨_, box_ref updG_same, _, _, insD_new hd hp, rfl, _, rfl, lc_map0 (f := fun s => .str (sOutlet ++ 32 :: s)) rfl (fun s hs Q' q' => ?_) (by omega) ?_⟩
      · obtain ⟨hl, hn⟩ := str_line hg.p (.inr hs) _ wo6
        simp only [dVar, dC, dOp, dUn, dTest, dChain, dIsN, dNotN, isNo, dAnd, dOr, dNot, dAndV, dOrV, dNotV, dIf, dNil, dCons, dTup, dLst, dLstM, dNext, dSeq, dBreak, dCont, dDrop, dRet, dRetN, dIfS, gN, gsNil, gsCons, gTu, dAsg, gSubD, dPar, dPar3, dFor, dIter, dRng1, dRng2, dEnum, dZipB, dLc, dLcM, mkL, dCall, dFld, dMeth, dCB, dBM, rSubD, rMulD, rFdivD, rModD, rLtD, rLeD, rGtD, rGeD, rNegD, rEqDD, rNeDD, dSl, dPn, dPs, dRev, rIsiC, dStar, dJoined, dJs, gStar, dMake, mkD, dCMeth, dStore, dDGet, dDisp, dRaise, tyM, dstart, wipeD, List.map, List.replicate, List.cons_append, List.nil_append, List.length_cons, List.length_nil, List.set_cons_zero, List.set_cons_succ, List.getElem?_cons_zero, List.getElem?_cons_succ, Option.some.injEq, exists_eq_left, exists_eq_left', D.bl.injEq, D.int.injEq, D.str.injEq, D.tup.injEq, D.lst.injEq, List.cons.injEq, and_true, true_and, if_true, if_false, Bool.false_eq_true, Bool.not_true, Bool.not_false, Nat.reduceSub, Nat.reduceAdd, Nat.zero_add, isi_non, isi_bl, isi_int, isi_str, isi_tup, isi_lst, mt_bool, mt_int, mt_str, mt_list, mt_tuple, len_str, len_lst, len_tup, int_int, int_bl, int_str, str_int, top_int, top_str, top_bl, top_non, top_lst, top_tup, box_lst, box_tup, lst_lst, seq_lst, seq_tup, seq_str, eq_int, eq_str, ix_tup, ix_lst, ix_str, atD_0, atD_1, atD_2, in_sign, tyM, isT, String.reduceBEq, String.reduceEq, Bool.or_true, Bool.or_false, Bool.true_or, Bool.false_or, Bool.and_true, Bool.and_false, Bool.true_and, Bool.false_and, ix_refI, add_int, add_str, add_lst, sl_str, sl_lst, atD_3, atD_4, pow_int, DO.lst.injEq, D.ref.injEq, updG_same, lst_refI, box_refI, set_refI, int2I, app_refI, ext_refI, splitI, joinI, idxI, ixN_51, ixN_52, ixN_53, ixN_54, ixN_30, ixN_31, ixN_32, okD_intI, okD_blI, okD_nonI, DL.updG2, List.length_set, Option.some.injEq, decide_eq_true_eq, decide_true, decide_false, dFmt]
        exact ⟨by omega, by omega, by omega, q'⟩
      · refine ⟨_, rfl, by simp; omega, rt_drop hp rfl ?_⟩
        have e : D.lst (List.map (fun p => .str (vatL p)) r.v ++ List.map (fun s => .str (sFloat ++ 32 :: s)) r.f ++ List.map (fun s => .str (sOutlet ++ 32 :: s)) r.o) = .lst (r.lines.map .str) := by
          simp only [Rows.lines, List.map_append, List.map_map, List.append_assoc]
          rfl
        simp only [List.append_assoc, List.append_nil] at e ⊢
        exact e ▸ q
def sp_Plant_text : DSp := fun ds G Q E => ∃ d r, ds = [d] ∧ plantD d G r ∧ r.good ∧ Q (.str r.text) G
theorem l_Plant_text {ds G Q Ed} (h : sp_Plant_text ds G Q Ed) : ds.length = 1 := by
  obtain ⟨_, _, rfl, _⟩ := h; rfl
abbrev N_Plant_text : List Str := ["self", "line"]
def t_Plant_text (Ed : DXK) : DTS := dRet (dBM "str" rJoinD (dC (.str [])) (dCons (dLc (dIter (dMeth "Plant" "lines" sp_Plant_lines Ed (dVar 0) dNil [])) (gN 1) (dYes) (dJoined [dFmt (dVar 1), dC (.str [10])]) [1]) (dNil)))
theorem r_Plant_text (ds : List D) (G : GH) (Qd : DK) (Ed : DXK) (h : sp_Plant_text ds G Qd Ed) : t_Plant_text (rtX Ed) { nx := fun _ G' => rtF Qd .non G', rt := rtF Qd } (dstart N_Plant_text ds) G := by
  obtain ⟨d, r, rfl, hd, hg, q⟩ := h
  have hz := size_ge
  obtain ⟨l8, hl8⟩ := lines_ok hg.p
  simp only [t_Plant_text, N_Plant_text, dVar, dC, dOp, dUn, dTest, dChain, dIsN, dNotN, isNo, dAnd, dOr, dNot, dAndV, dOrV, dNotV, dIf, dNil, dCons, dTup, dLst, dLstM, dNext, dSeq, dBreak, dCont, dDrop, dRet, dRetN, dIfS, gN, gsNil, gsCons, gTu, dAsg, gSubD, dPar, dPar3, dFor, dIter, dRng1, dRng2, dEnum, dZipB, dLc, dLcM, mkL, dCall, dFld, dMeth, dCB, dBM, rSubD, rMulD, rFdivD, rModD, rLtD, rLeD, rGtD, rGeD, rNegD, rEqDD, rNeDD, dSl, dPn, dPs, dRev, rIsiC, dStar, dJoined, dJs, gStar, dMake, mkD, dCMeth, dStore, dDGet, dDisp, dRaise, tyM, dstart, wipeD, List.map, List.replicate, List.cons_append, List.nil_append, List.length_cons, List.length_nil, List.set_cons_zero, List.set_cons_succ, List.getElem?_cons_zero, List.getElem?_cons_succ, Option.some.injEq, exists_eq_left, exists_eq_left', D.bl.injEq, D.int.injEq, D.str.injEq, D.tup.injEq, D.lst.injEq, List.cons.injEq, and_true, true_and, if_true, if_false, Bool.false_eq_true, Bool.not_true, Bool.not_false, Nat.reduceSub, Nat.reduceAdd, Nat.zero_add, isi_non, isi_bl, isi_int, isi_str, isi_tup, isi_lst, mt_bool, mt_int, mt_str, mt_list, mt_tuple, len_str, len_lst, len_tup, int_int, int_bl, int_str, str_int, top_int, top_str, top_bl, top_non, top_lst, top_tup, box_lst, box_tup, lst_lst, seq_lst, seq_tup, seq_str, eq_int, eq_str, ix_tup, ix_lst, ix_str, atD_0, atD_1, atD_2, in_sign, tyM, isT, String.reduceBEq, String.reduceEq, Bool.or_true, Bool.or_false, Bool.true_or, Bool.false_or, Bool.and_true, Bool.and_false, Bool.true_and, Bool.false_and, ix_refI, add_int, add_str, add_lst, sl_str, sl_lst, atD_3, atD_4, pow_int, DO.lst.injEq, D.ref.injEq, updG_same, lst_refI, box_refI, set_refI, int2I, app_refI, ext_refI, splitI, joinI, idxI, ixN_51, ixN_52, ixN_53, ixN_54, ixN_30, ixN_31, ixN_32, okD_intI, okD_blI, okD_nonI, DL.updG2, List.length_set, Option.some.injEq, decide_eq_true_eq, decide_true, decide_false]
  refine ⟨_, hd, rfl, d, r, rfl, hd, hg, _, rfl, lc_map0 (f := fun l => .str (l ++ [10])) rfl (fun l hl Q' q' => ?_) (by omega) ?_⟩
  · have := (hl8 l hl).len
    simp only [dVar, dC, dOp, dUn, dTest, dChain, dIsN, dNotN, isNo, dAnd, dOr, dNot, dAndV, dOrV, dNotV, dIf, dNil, dCons, dTup, dLst, dLstM, dNext, dSeq, dBreak, dCont, dDrop, dRet, dRetN, dIfS, gN, gsNil, gsCons, gTu, dAsg, gSubD, dPar, dPar3, dFor, dIter, dRng1, dRng2, dEnum, dZipB, dLc, dLcM, mkL, dCall, dFld, dMeth, dCB, dBM, rSubD, rMulD, rFdivD, rModD, rLtD, rLeD, rGtD, rGeD, rNegD, rEqDD, rNeDD, dSl, dPn, dPs, dRev, rIsiC, dStar, dJoined, dJs, gStar, dMake, mkD, dCMeth, dStore, dDGet, dDisp, dRaise, tyM, dstart, wipeD, List.map, List.replicate, List.cons_append, List.nil_append, List.length_cons, List.length_nil, List.set_cons_zero, List.set_cons_succ, List.getElem?_cons_zero, List.getElem?_cons_succ, Option.some.injEq, exists_eq_left, exists_eq_left', D.bl.injEq, D.int.injEq, D.str.injEq, D.tup.injEq, D.lst.injEq, List.cons.injEq, and_true, true_and, if_true, if_false, Bool.false_eq_true, Bool.not_true, Bool.not_false, Nat.reduceSub, Nat.reduceAdd, Nat.zero_add, isi_non, isi_bl, isi_int, isi_str, isi_tup, isi_lst, mt_bool, mt_int, mt_str, mt_list, mt_tuple, len_str, len_lst, len_tup, int_int, int_bl, int_str, str_int, top_int, top_str, top_bl, top_non, top_lst, top_tup, box_lst, box_tup, lst_lst, seq_lst, seq_tup, seq_str, eq_int, eq_str, ix_tup, ix_lst, ix_str, atD_0, atD_1, atD_2, in_sign, tyM, isT, String.reduceBEq, String.reduceEq, Bool.or_true, Bool.or_false, Bool.true_or, Bool.false_or, Bool.and_true, Bool.and_false, Bool.true_and, Bool.false_and, ix_refI, add_int, add_str, add_lst, sl_str, sl_lst, atD_3, atD_4, pow_int, DO.lst.injEq, D.ref.injEq, updG_same, lst_refI, box_refI, set_refI, int2I, app_refI, ext_refI, splitI, joinI, idxI, ixN_51, ixN_52, ixN_53, ixN_54, ixN_30, ixN_31, ixN_32, okD_intI, okD_blI, okD_nonI, DL.updG2, List.length_set, Option.some.injEq, decide_eq_true_eq, decide_true, decide_false, dFmt]
    exact ⟨by omega, by omega, by omega, q'⟩
  · refine ⟨r.lines.map (· ++ [10]), by simp [boxD, seqD], ?_, rtF_id ?_⟩
    · have := sum_le (k := 21) (ys := r.lines.map (· ++ [10])) fun y hy => by
        obtain ⟨l, hl, rfl⟩ := List.mem_map.mp hy
        have := (hl8 l hl).len
        simp; omega
      simp only [List.length_map] at this
      omega
    · rw [join_nil, ← List.flatMap_def]
      exact q
def readD (d : D) (Q : D → Prop) (E : DX → Prop) : Prop := match d with
  | .str t => txt t ∧ let ls := (splitD [10] t).dropLast
    if (splitD [10] t).getLast? = some [] then (match rd ls with
      | .error n => E (badText n)
      | .ok r => if r.v = [] then E (badText ls.length) else Q (.obj "Plant" r.fs))
    else match rd ls with
      | .error n => E (badText n)
      | .ok _ => E (badText ls.length)
  | _ => E (badText 0)
def isVal (d : D) (G : GH) : Prop := ∃ n, tyN d G = some n ∧ ∀ a, d ≠ .ref a
def sp_Plant_read : DSp := fun ds G Q E => ∃ d, ds = [.cls "Plant", d] ∧ isVal d G ∧ readD d (fun y => Q y G) (fun x => E x G)
theorem l_Plant_read {ds G Q Ed} (h : sp_Plant_read ds G Q Ed) : ds.length = 2 := by
  obtain ⟨_, rfl, _⟩ := h; rfl
abbrev N_Plant_read : List Str := ["cls", "text", "lines", "tail", "rows"]
def t_Plant_read (Ed : DXK) : DTS := dSeq (dIfS (dNot (dTest (dCB rIsiD (dCons (dVar 1) (dCons (dC (.ty "str")) (dNil)))))) (dRaise "InvalidText" "line" "InvalidText" (dC (.int 0)) Ed) (dNext)) (dSeq (dAsg (dBM "str" rSplitD (dVar 1) (dCons (dC (.str [10])) (dNil))) (gStar 2 0 (gsCons (gN 2) (gsCons (gN 3) (gsNil))))) (dSeq (dAsg (dCall sp_read_lines Ed (dCons (dVar 2) (dNil)) []) (gN 4)) (dSeq (dIfS (dOr (dTest (dOp rNeDD (dVar 3) (dC (.str [])))) (dTest (dOp rEqDD (dDGet (dVar 4) (dC (.str [118, 97, 116]))) (dLst (dNil))))) (dRaise "InvalidText" "line" "InvalidText" (dCB rLenD (dCons (dVar 2) (dNil))) Ed) (dNext)) (dRet (dMake "Plant" sp_Plant___init__ Ed (dVar 0) (dCons (dDGet (dVar 4) (dC (.str [118, 97, 116]))) (dNil)) (dCons (dDGet (dVar 4) (dC (.str [102, 108, 111, 97, 116]))) (dCons (dDGet (dVar 4) (dC (.str [111, 117, 116, 108, 101, 116]))) (dNil))) 1 2 mkD)))))
theorem r_Plant_read (ds : List D) (G : GH) (Qd : DK) (Ed : DXK) (h : sp_Plant_read ds G Qd Ed) : t_Plant_read (rtX Ed) { nx := fun _ G' => rtF Qd .non G', rt := rtF Qd } (dstart N_Plant_read ds) G := by
  obtain ⟨d, rfl, ⟨ty, hty, hnr⟩, hr⟩ := h
  have hz := size_ge
  simp only [t_Plant_read, N_Plant_read, dVar, dC, dOp, dUn, dTest, dChain, dIsN, dNotN, isNo, dAnd, dOr, dNot, dAndV, dOrV, dNotV, dIf, dNil, dCons, dTup, dLst, dLstM, dNext, dSeq, dBreak, dCont, dDrop, dRet, dRetN, dIfS, gN, gsNil, gsCons, gTu, dAsg, gSubD, dPar, dPar3, dFor, dIter, dRng1, dRng2, dEnum, dZipB, dLc, dLcM, mkL, dCall, dFld, dMeth, dCB, dBM, rSubD, rMulD, rFdivD, rModD, rLtD, rLeD, rGtD, rGeD, rNegD, rEqDD, rNeDD, dSl, dPn, dPs, dRev, rIsiC, dStar, dJoined, dJs, gStar, dMake, mkD, dCMeth, dStore, dDGet, dDisp, dRaise, tyM, dstart, wipeD, List.map, List.replicate, List.cons_append, List.nil_append, List.length_cons, List.length_nil, List.set_cons_zero, List.set_cons_succ, List.getElem?_cons_zero, List.getElem?_cons_succ, Option.some.injEq, exists_eq_left, exists_eq_left', D.bl.injEq, D.int.injEq, D.str.injEq, D.tup.injEq, D.lst.injEq, List.cons.injEq, and_true, true_and, if_true, if_false, Bool.false_eq_true, Bool.not_true, Bool.not_false, Nat.reduceSub, Nat.reduceAdd, Nat.zero_add, isi_non, isi_bl, isi_int, isi_str, isi_tup, isi_lst, mt_bool, mt_int, mt_str, mt_list, mt_tuple, len_str, len_lst, len_tup, int_int, int_bl, int_str, str_int, top_int, top_str, top_bl, top_non, top_lst, top_tup, box_lst, box_tup, lst_lst, seq_lst, seq_tup, seq_str, eq_int, eq_str, ix_tup, ix_lst, ix_str, atD_0, atD_1, atD_2, in_sign, tyM, isT, String.reduceBEq, String.reduceEq, Bool.or_true, Bool.or_false, Bool.true_or, Bool.false_or, Bool.and_true, Bool.and_false, Bool.true_and, Bool.false_and, ix_refI, add_int, add_str, add_lst, sl_str, sl_lst, atD_3, atD_4, pow_int, DO.lst.injEq, D.ref.injEq, updG_same, lst_refI, box_refI, set_refI, int2I, app_refI, ext_refI, splitI, joinI, idxI, ixN_51, ixN_52, ixN_53, ixN_54, ixN_30, ixN_31, ixN_32, okD_intI, okD_blI, okD_nonI, DL.updG2, List.length_set, Option.some.injEq, decide_eq_true_eq, decide_true, decide_false]
  rw [isi_of hty mt_str]
  refine ⟨_, rfl, ?_⟩
  cases d with
  | str t =>
    obtain ⟨ht, hr⟩ := hr
    have e : isT ty "str" = true := by cases hty; decide
    rw [e, if_neg (by simp)]
    obtain ⟨z, hz1, hz2⟩ := split_two (s := 10) t
    have sl := split_len (s := 10) t
    have sm : ∀ l ∈ splitD [10] t, txt l := fun l hl => by
      obtain ⟨a, b⟩ := split_mem hl
      exact ⟨by have := ht.1; omega, fun c hc => ht.2 c (b c hc)⟩
    have htl := ht.1
    generalize hls : (splitD [10] t).dropLast = ls at hr hz1
    have hz3 : txt z := sm z (by rw [hz1]; simp)
    have hsl : short ls := ⟨by have := congrArg List.length hz1; simp at this; omega, fun l hl => sm l (by rw [hz1]; simp [hl])⟩
    refine ⟨trivial, ?_⟩
    rw [splitI, hz1]
    have e1 : List.take ((ls.map D.str).length + 1 + 1 - 2) (List.map D.str ls ++ [D.str z]) = ls.map .str := by simp
    have e2 : List.drop ((ls.map D.str).length + 1 + 1 - 2) (List.map D.str ls ++ [D.str z]) = [.str z] := by simp
    refine ⟨by decide, by decide, by omega, _, rfl, by simp, by have := congrArg List.length hz1; simp at this ⊢; omega, ?_⟩
    simp only [List.map_append, List.map_cons, List.map_nil, List.take_zero, List.drop_zero, List.nil_append, List.length_append, List.length_cons, List.length_nil, Nat.zero_add]
    rw [e1, e2]
    refine ⟨_, _, rfl, _, _, rfl, rfl, ls, rfl, hsl, ?_⟩
    rw [hz2] at hr
    simp only [Option.some.injEq] at hr
    cases hrd : rd ls with
    | error n =>
      simp only [hrd] at hr
      have hr' : Ed (badText n) G := by by_cases h : z = [] <;> simpa [h] using hr
      exact rtX_id hr'
    | ok r =>
      simp only [hrd] at hr ⊢
      simp only [dVar, dC, dOp, dUn, dTest, dChain, dIsN, dNotN, isNo, dAnd, dOr, dNot, dAndV, dOrV, dNotV, dIf, dNil, dCons, dTup, dLst, dLstM, dNext, dSeq, dBreak, dCont, dDrop, dRet, dRetN, dIfS, gN, gsNil, gsCons, gTu, dAsg, gSubD, dPar, dPar3, dFor, dIter, dRng1, dRng2, dEnum, dZipB, dLc, dLcM, mkL, dCall, dFld, dMeth, dCB, dBM, rSubD, rMulD, rFdivD, rModD, rLtD, rLeD, rGtD, rGeD, rNegD, rEqDD, rNeDD, dSl, dPn, dPs, dRev, rIsiC, dStar, dJoined, dJs, gStar, dMake, mkD, dCMeth, dStore, dDGet, dDisp, dRaise, tyM, dstart, wipeD, List.map, List.replicate, List.cons_append, List.nil_append, List.length_cons, List.length_nil, List.set_cons_zero, List.set_cons_succ, List.getElem?_cons_zero, List.getElem?_cons_succ, Option.some.injEq, exists_eq_left, exists_eq_left', D.bl.injEq, D.int.injEq, D.str.injEq, D.tup.injEq, D.lst.injEq, List.cons.injEq, and_true, true_and, if_true, if_false, Bool.false_eq_true, Bool.not_true, Bool.not_false, Nat.reduceSub, Nat.reduceAdd, Nat.zero_add, isi_non, isi_bl, isi_int, isi_str, isi_tup, isi_lst, mt_bool, mt_int, mt_str, mt_list, mt_tuple, len_str, len_lst, len_tup, int_int, int_bl, int_str, str_int, top_int, top_str, top_bl, top_non, top_lst, top_tup, box_lst, box_tup, lst_lst, seq_lst, seq_tup, seq_str, eq_int, eq_str, ix_tup, ix_lst, ix_str, atD_0, atD_1, atD_2, in_sign, tyM, isT, String.reduceBEq, String.reduceEq, Bool.or_true, Bool.or_false, Bool.true_or, Bool.false_or, Bool.and_true, Bool.and_false, Bool.true_and, Bool.false_and, ix_refI, add_int, add_str, add_lst, sl_str, sl_lst, atD_3, atD_4, pow_int, DO.lst.injEq, D.ref.injEq, updG_same, lst_refI, box_refI, set_refI, int2I, app_refI, ext_refI, splitI, joinI, idxI, ixN_51, ixN_52, ixN_53, ixN_54, ixN_30, ixN_31, ixN_32, okD_intI, okD_blI, okD_nonI, DL.updG2, List.length_set, Option.some.injEq, decide_eq_true_eq, decide_true, decide_false]
      refine ⟨ok_str hz3.2, rfl, ?_⟩
      by_cases h : z = []
      · rw [if_neg (by simp [h])]
        rw [if_pos h] at hr
        have hp := rd_part hrd
        have okv : okD (.lst (r.v.map vatD)) := ok_lstmap fun p hp' => by
          have h1 := chr_lt (hp.ok p.1 (by simp only [Rows.names, List.mem_append, List.mem_map]; exact .inl ⟨p, hp', rfl⟩))
          show (okN 48 (.str p.1) && (okN 48 (.int p.2) && true)) = true
          rw [okn_str h1]
          rfl
        have ev : eqD (.lst (r.v.map vatD)) (.lst []) = decide (r.v = []) := by
          have := eq_lstmap (k := vatD) (fun x y => eq_pair) r.v []
          rwa [List.map_nil] at this
        refine ⟨_, .lst (r.v.map vatD), rfl, by decide, by rfl, by decide, okv, rfl, ?_⟩
        rw [top_lst, ev]
        by_cases h2 : r.v = []
        · rw [if_pos (by simpa using h2)]
          rw [if_pos h2] at hr
          simpa using rtX_id hr
        · rw [if_neg (by simpa using h2)]
          rw [if_neg h2] at hr
          refine ⟨_, .lst (r.v.map vatD), rfl, by decide, by rfl, _, .lst (r.f.map .str), rfl, by decide, by rfl, _, .lst (r.o.map .str), rfl, by decide, by rfl, ?_⟩
          exact fun x hx => ⟨x, r, rfl, updG_same, ⟨hp, h2⟩, rfl, rt_ins hx DL.updG2 hr⟩
      · rw [if_pos (by simp [h])]
        rw [if_neg h] at hr
        simpa using rtX_id hr
  | _ => first
    | exact absurd rfl (hnr _)
    | (cases hty; done)
    | (cases hty; rw [if_pos (by decide)]; exact rtX_id hr)
abbrev t_isi_Plant : List (String × Bool) := []
abbrev c_isi_Plant : List (String × Bool) := [("Plant", true)]
def sp_Plant___eq__ : DSp := fun ds G Q E => ∃ d e r r', ds = [d, e] ∧ plantD d G r ∧ plantD e G r' ∧ r.good ∧ r'.good ∧ ∀ b : Bool, (b = true ↔ r = r') → Q (.bl b) G
theorem l_Plant___eq__ {ds G Q Ed} (h : sp_Plant___eq__ ds G Q Ed) : ds.length = 2 := by
  obtain ⟨_, _, _, _, rfl, _⟩ := h; rfl
abbrev N_Plant___eq__ : List Str := ["self", "other"]
def t_Plant___eq__ (Ed : DXK) : DTS := dRet (dAndV (dCB (rIsiC "Plant" t_isi_Plant c_isi_Plant) (dCons (dVar 1) (dCons (dC (.cls "Plant")) (dNil)))) (dAndV (dOp rEqDD (dFld "Plant" "own_vats" (dVar 0)) (dFld "Plant" "own_vats" (dVar 1))) (dAndV (dOp rEqDD (dFld "Plant" "own_floats" (dVar 0)) (dFld "Plant" "own_floats" (dVar 1))) (dOp rEqDD (dFld "Plant" "own_outlets" (dVar 0)) (dFld "Plant" "own_outlets" (dVar 1))))))
theorem r_Plant___eq__ (ds : List D) (G : GH) (Qd : DK) (Ed : DXK) (h : sp_Plant___eq__ ds G Qd Ed) : t_Plant___eq__ (rtX Ed) { nx := fun _ G' => rtF Qd .non G', rt := rtF Qd } (dstart N_Plant___eq__ ds) G := by
  obtain ⟨d, e, r, r', rfl, hd, he, hg, hg', q⟩ := h
  have hd' : insD d G = some ("Plant", r.fs) := hd
  have he' : insD e G = some ("Plant", r'.fs) := he
  have q : ∀ b : Bool, (b = true ↔ r = r') → rtF Qd (.bl b) G := fun b hb => rtF_id (q b hb)
  have okv : ∀ r : Rows, r.good → okD (.tup (r.v.map vatD)) := fun r hg => ok_tupmap fun p hp => by
    have h1 := chr_lt (hg.p.ok p.1 (by simp only [Rows.names, List.mem_append, List.mem_map]; exact .inl ⟨p, hp, rfl⟩))
    show (okN 48 (.str p.1) && (okN 48 (.int p.2) && true)) = true
    rw [okn_str h1]
    rfl
  have okf : ∀ r : Rows, r.good → okD (.tup (r.f.map .str)) := fun r hg => ok_tupmap fun p hp => okn_str (chr_lt (hg.p.ok p (by simp [Rows.names, hp])))
  have oko : ∀ r : Rows, r.good → okD (.tup (r.o.map .str)) := fun r hg => ok_tupmap fun p hp => okn_str (chr_lt (hg.p.ok p (by simp [Rows.names, hp])))
  have ev : eqD (.tup (r.v.map vatD)) (.tup (r'.v.map vatD)) = decide (r.v = r'.v) := eq_tupmap (k := vatD) (fun x y => eq_pair) _ _
  have ef : eqD (.tup (r.f.map .str)) (.tup (r'.f.map .str)) = decide (r.f = r'.f) := eq_tupmap (k := D.str) (fun x y => eq_str) _ _
  have eo : eqD (.tup (r.o.map .str)) (.tup (r'.o.map .str)) = decide (r.o = r'.o) := eq_tupmap (k := D.str) (fun x y => eq_str) _ _
  simp only [t_Plant___eq__, N_Plant___eq__, dVar, dC, dOp, dUn, dTest, dChain, dIsN, dNotN, isNo, dAnd, dOr, dNot, dAndV, dOrV, dNotV, dIf, dNil, dCons, dTup, dLst, dLstM, dNext, dSeq, dBreak, dCont, dDrop, dRet, dRetN, dIfS, gN, gsNil, gsCons, gTu, dAsg, gSubD, dPar, dPar3, dFor, dIter, dRng1, dRng2, dEnum, dZipB, dLc, dLcM, mkL, dCall, dFld, dMeth, dCB, dBM, rSubD, rMulD, rFdivD, rModD, rLtD, rLeD, rGtD, rGeD, rNegD, rEqDD, rNeDD, dSl, dPn, dPs, dRev, rIsiC, dStar, dJoined, dJs, gStar, dMake, mkD, dCMeth, dStore, dDGet, dDisp, dRaise, tyM, dstart, wipeD, List.map, List.replicate, List.cons_append, List.nil_append, List.length_cons, List.length_nil, List.set_cons_zero, List.set_cons_succ, List.getElem?_cons_zero, List.getElem?_cons_succ, Option.some.injEq, exists_eq_left, exists_eq_left', D.bl.injEq, D.int.injEq, D.str.injEq, D.tup.injEq, D.lst.injEq, List.cons.injEq, and_true, true_and, if_true, if_false, Bool.false_eq_true, Bool.not_true, Bool.not_false, Nat.reduceSub, Nat.reduceAdd, Nat.zero_add, isi_non, isi_bl, isi_int, isi_str, isi_tup, isi_lst, mt_bool, mt_int, mt_str, mt_list, mt_tuple, len_str, len_lst, len_tup, int_int, int_bl, int_str, str_int, top_int, top_str, top_bl, top_non, top_lst, top_tup, box_lst, box_tup, lst_lst, seq_lst, seq_tup, seq_str, eq_int, eq_str, ix_tup, ix_lst, ix_str, atD_0, atD_1, atD_2, in_sign, tyM, isT, String.reduceBEq, String.reduceEq, Bool.or_true, Bool.or_false, Bool.true_or, Bool.false_or, Bool.and_true, Bool.and_false, Bool.true_and, Bool.false_and, ix_refI, add_int, add_str, add_lst, sl_str, sl_lst, atD_3, atD_4, pow_int, DO.lst.injEq, D.ref.injEq, updG_same, lst_refI, box_refI, set_refI, int2I, app_refI, ext_refI, splitI, joinI, idxI, ixN_51, ixN_52, ixN_53, ixN_54, ixN_30, ixN_31, ixN_32, okD_intI, okD_blI, okD_nonI, DL.updG2, List.length_set, Option.some.injEq, decide_eq_true_eq, decide_true, decide_false]
  refine .inr ⟨_, _, true, he', by simp, ?_⟩
  rw [if_pos rfl]
  refine ⟨_, _, hd', rfl, _, _, he', rfl, okv r hg, okv r' hg', ?_⟩
  simp only [top_tup, ev]
  by_cases h1 : r.v = r'.v
  · rw [if_pos (by simpa using h1)]
    refine ⟨_, _, hd', rfl, _, _, he', rfl, okf r hg, okf r' hg', ?_⟩
    simp only [top_tup, ef]
    by_cases h2 : r.f = r'.f
    · rw [if_pos (by simpa using h2)]
      refine ⟨_, _, hd', rfl, _, _, he', rfl, oko r hg, oko r' hg', ?_⟩
      simp only [top_tup, eo]
      refine q _ ?_
      cases r
      cases r'
      simp_all
    · rw [if_neg (by simpa using h2)]
      exact q _ ⟨fun z => (by cases z), fun z => absurd (congrArg Rows.f z) h2⟩
  · rw [if_neg (by simpa using h1)]
    exact q _ ⟨fun z => (by cases z), fun z => absurd (congrArg Rows.v z) h1⟩
/-! ### the law's own defs -/
structure Bag (u : Nat) (o : DO) : Prop where
  ex : ∃ (cs : List Int) (at_ : Nat) (hd sd n : Int), o = .lst [.lst (cs.map .int), .int at_, .int hd, .int sd, .int n] ∧ 0 ≤ sd ∧ sd < 2 ^ 40 ∧ 0 ≤ n ∧ n ≤ u
abbrev BagAt (u : Nat) (G : GH) (b : Addr) : Prop := u < 2 ^ 40 ∧ ∃ o, G b = some o ∧ Bag u o
def someD (d : D) (xs : List D) : Prop := d = .lst xs ∨ ∃ s : List Nat, d = .str s ∧ xs = s.map fun c => .str [c]
theorem sl_scr {xs : List D} {lo hi : Option Int} {G : GH} {Q : DK} : rSlD (.scr xs) lo hi G Q ↔ Q (.lst (cutD xs lo hi)) G := Iff.rfl
theorem len_scr {xs : List D} {G : GH} {Q : DK} : rLenD [.scr xs] G Q ↔ Q (.int xs.length) G := ⟨fun ⟨_, e, q⟩ => by
  cases e
  obtain ⟨_, h, q⟩ := q
  cases h
  exact q, fun q => ⟨_, rfl, _, rfl, q⟩⟩
def sp__law_start : DSp := fun ds G Q E => ∃ cs : List Int, ds = [.scr (cs.map .int)] ∧ cs.length < 2 ^ 30 ∧ ∀ p o, G p = none → Bag 0 o → Q (.ref p) (updG G p o)
theorem l__law_start {ds G Q Ed} (h : sp__law_start ds G Q Ed) : ds.length = 1 := by
  obtain ⟨_, rfl, _⟩ := h; rfl
abbrev N__law_start : List Str := ["_law_script"]
def t__law_start (Ed : DXK) : DTS := dRet (dLstM (dCons (dCB rListD (dCons (dSl (dVar 0) (dPn) (dPs (dC (.int 63)))) (dNil))) (dCons (dC (.int 0)) (dCons (dC (.int 0)) (dCons (dOp rAddD (dC (.int 4933)) (dCB rLenD (dCons (dVar 0) (dNil)))) (dCons (dC (.int 0)) (dNil)))))))
theorem r__law_start (ds : List D) (G : GH) (Qd : DK) (Ed : DXK) (h : sp__law_start ds G Qd Ed) : t__law_start (rtX Ed) { nx := fun _ G' => rtF Qd .non G', rt := rtF Qd } (dstart N__law_start ds) G := by
  obtain ⟨cs, rfl, hl, q⟩ := h
  simp only [t__law_start, N__law_start, sl_scr, len_scr, dVar, dC, dOp, dUn, dTest, dChain, dIsN, dNotN, isNo, dAnd, dOr, dNot, dAndV, dOrV, dNotV, dIf, dNil, dCons, dTup, dLst, dLstM, dNext, dSeq, dBreak, dCont, dDrop, dRet, dRetN, dIfS, gN, gsNil, gsCons, gTu, dAsg, gSubD, dPar, dPar3, dFor, dIter, dRng1, dRng2, dEnum, dZipB, dLc, dLcM, mkL, dCall, dFld, dMeth, dCB, dBM, rSubD, rMulD, rFdivD, rModD, rLtD, rLeD, rGtD, rGeD, rNegD, rEqDD, rNeDD, dSl, dPn, dPs, dRev, rIsiC, dStar, dJoined, dJs, gStar, dMake, mkD, dCMeth, dStore, dDGet, dDisp, dRaise, tyM, dstart, wipeD, List.map, List.replicate, List.cons_append, List.nil_append, List.length_cons, List.length_nil, List.set_cons_zero, List.set_cons_succ, List.getElem?_cons_zero, List.getElem?_cons_succ, Option.some.injEq, exists_eq_left, exists_eq_left', D.bl.injEq, D.int.injEq, D.str.injEq, D.tup.injEq, D.lst.injEq, List.cons.injEq, and_true, true_and, if_true, if_false, Bool.false_eq_true, Bool.not_true, Bool.not_false, Nat.reduceSub, Nat.reduceAdd, Nat.zero_add, isi_non, isi_bl, isi_int, isi_str, isi_tup, isi_lst, mt_bool, mt_int, mt_str, mt_list, mt_tuple, len_str, len_lst, len_tup, int_int, int_bl, int_str, str_int, top_int, top_str, top_bl, top_non, top_lst, top_tup, box_lst, box_tup, lst_lst, seq_lst, seq_tup, seq_str, eq_int, eq_str, ix_tup, ix_lst, ix_str, atD_0, atD_1, atD_2, in_sign, tyM, isT, String.reduceBEq, String.reduceEq, Bool.or_true, Bool.or_false, Bool.true_or, Bool.false_or, Bool.and_true, Bool.and_false, Bool.true_and, Bool.false_and, ix_refI, add_int, add_str, add_lst, sl_str, sl_lst, atD_3, atD_4, pow_int, DO.lst.injEq, D.ref.injEq, updG_same, lst_refI, box_refI, set_refI, int2I, app_refI, ext_refI, splitI, joinI, idxI, ixN_51, ixN_52, ixN_53, ixN_54, ixN_30, ixN_31, ixN_32, okD_intI, okD_blI, okD_nonI, DL.updG2, List.length_set, Option.some.injEq, decide_eq_true_eq, decide_true, decide_false]
  refine list_r rfl ⟨by decide, fun p hp => rtF_id (q p _ hp ⟨⟨cutD cs none (some 63), 0, 0, 4933 + cs.length, 0, ?_, by omega, by omega, by omega, by omega⟩⟩)⟩
  rw [cut_map]
  simp
def sp__law_pull : DSp := fun ds G Q E => ∃ b u n, ds = [.ref b, .int n] ∧ BagAt u G b ∧ 0 < n ∧ n < 2 ^ 40 ∧ ∀ (i : Nat) o, (i : Int) < n → Bag (u + 1) o → Q (.int i) (updG G b o)
theorem l__law_pull {ds G Q Ed} (h : sp__law_pull ds G Q Ed) : ds.length = 2 := by
  obtain ⟨_, _, _, rfl, _⟩ := h; rfl
abbrev N__law_pull : List Str := ["_law_bag", "_law_size", "_law_cell", "_law_digit", "_law_seed"]
def t__law_pull (Ed : DXK) : DTS := dSeq (dIfS (dAnd (dTest (dOp rEqDD (dOp rIxD (dVar 0) (dC (.int 2))) (dC (.int 0)))) (dTest (dOp rLtD (dOp rIxD (dVar 0) (dC (.int 1))) (dCB rLenD (dCons (dOp rIxD (dVar 0) (dC (.int 0))) (dNil)))))) (dSeq (dAsg (dOp rIxD (dOp rIxD (dVar 0) (dC (.int 0))) (dOp rIxD (dVar 0) (dC (.int 1)))) (gN 2)) (dSeq (dAsg (dOp rAddD (dOp rIxD (dVar 0) (dC (.int 1))) (dC (.int 1))) (gSubD (dVar 0) (dC (.int 1)) rSetD)) (dIfS (dTest (dOp rGeD (dVar 2) (dOp rPowD (dC (.int 10)) (dC (.int 18))))) (dAsg (dVar 2) (gSubD (dVar 0) (dC (.int 2)) rSetD)) (dAsg (dOp rModD (dCB rIntD (dCons (dOp rAddD (dOp rAddD (dOp rMulD (dOp rIxD (dVar 0) (dC (.int 3))) (dC (.int 43051))) (dOp rMulD (dOp rModD (dCB rIntD (dCons (dVar 2) (dNil))) (dC (.int 2147483423))) (dC (.int 7411)))) (dC (.int 37))) (dNil))) (dC (.int 2147483579))) (gSubD (dVar 0) (dC (.int 3)) rSetD))))) (dNext)) (dSeq (dIfS (dTest (dOp rGtD (dOp rIxD (dVar 0) (dC (.int 2))) (dC (.int 0)))) (dSeq (dAsg (dOp rModD (dCB rIntD (dCons (dOp rIxD (dVar 0) (dC (.int 2))) (dNil))) (dVar 1)) (gN 3)) (dSeq (dAsg (dOp rFdivD (dOp rIxD (dVar 0) (dC (.int 2))) (dVar 1)) (gSubD (dVar 0) (dC (.int 2)) rSetD)) (dRet (dVar 3)))) (dNext)) (dSeq (dAsg (dOp rAddD (dOp rIxD (dVar 0) (dC (.int 4))) (dC (.int 1))) (gSubD (dVar 0) (dC (.int 4)) rSetD)) (dSeq (dAsg (dOp rIxD (dVar 0) (dC (.int 3))) (gN 4)) (dSeq (dAsg (dOp rModD (dCB rIntD (dCons (dOp rAddD (dOp rAddD (dOp rAddD (dOp rMulD (dVar 4) (dVar 4)) (dOp rMulD (dVar 4) (dC (.int 31081)))) (dOp rMulD (dOp rIxD (dVar 0) (dC (.int 4))) (dC (.int 1299833)))) (dC (.int 70001))) (dNil))) (dC (.int 2147483549))) (gSubD (dVar 0) (dC (.int 3)) rSetD)) (dRet (dOp rModD (dCB rIntD (dCons (dOp rAddD (dOp rFdivD (dOp rIxD (dVar 0) (dC (.int 3))) (dC (.int 59))) (dOp rMulD (dOp rModD (dCB rIntD (dCons (dOp rIxD (dVar 0) (dC (.int 3))) (dNil))) (dC (.int 8053))) (dC (.int 47)))) (dNil))) (dVar 1)))))))
theorem lg {x : Int} (h1 : 0 ≤ x) (h2 : x < 2 ^ 41) : x.natAbs.log2 < 41 := log2_of h1 h2 (by decide)
theorem pull_log {s m n : Int} {Z : Prop} (h1 : 0 ≤ s) (h2 : s < 2 ^ 40) (h3 : 0 ≤ m) (h4 : m < 2 ^ 40) (hn : 0 < n) (z : Z) : s.natAbs.log2 + s.natAbs.log2 < 1000000 ∧ s.natAbs.log2 + (Int.natAbs 31081).log2 < 1000000 ∧ (m + 1).natAbs.log2 + (Int.natAbs 1299833).log2 < 1000000 ∧ (0 : Int) < 2147483549 ∧ ((0 : Int) < 59 ∧ (Int.natAbs 59).log2 < 9000) ∧ (0 : Int) < 8053 ∧
    ((s * s + s * 31081 + (m + 1) * 1299833 + 70001) % 2147483549 % 8053).natAbs.log2 + (Int.natAbs 47).log2 < 1000000 ∧ 0 < n ∧ Z := by
  have a1 := lg (x := s) h1 (by omega)
  have a2 := lg (x := 31081) (by decide) (by decide)
  have a3 := lg (x := m + 1) (by omega) (by omega)
  have a4 := lg (x := 1299833) (by decide) (by decide)
  have a5 := lg (x := 59) (by decide) (by decide)
  have a6 := lg (x := 47) (by decide) (by decide)
  have a7 := lg (x := (s * s + s * 31081 + (m + 1) * 1299833 + 70001) % 2147483549 % 8053) (by omega) (by omega)
  exact ⟨by omega, by omega, by omega, by decide, ⟨by decide, by omega⟩, by decide, by omega, hn, z⟩
theorem r__law_pull (ds : List D) (G : GH) (Qd : DK) (Ed : DXK) (h : sp__law_pull ds G Qd Ed) : t__law_pull (rtX Ed) { nx := fun _ G' => rtF Qd .non G', rt := rtF Qd } (dstart N__law_pull ds) G := by
  obtain ⟨b, u, n, rfl, ⟨hu, o, hg, ⟨cs, at_, hd, sd, m, rfl, h1, h2, h3, h4⟩⟩, hn, hn2, q⟩ := h
  have hz := size_ge
  simp only [t__law_pull, N__law_pull, dVar, dC, dOp, dUn, dTest, dChain, dIsN, dNotN, isNo, dAnd, dOr, dNot, dAndV, dOrV, dNotV, dIf, dNil, dCons, dTup, dLst, dLstM, dNext, dSeq, dBreak, dCont, dDrop, dRet, dRetN, dIfS, gN, gsNil, gsCons, gTu, dAsg, gSubD, dPar, dPar3, dFor, dIter, dRng1, dRng2, dEnum, dZipB, dLc, dLcM, mkL, dCall, dFld, dMeth, dCB, dBM, rSubD, rMulD, rFdivD, rModD, rLtD, rLeD, rGtD, rGeD, rNegD, rEqDD, rNeDD, dSl, dPn, dPs, dRev, rIsiC, dStar, dJoined, dJs, gStar, dMake, mkD, dCMeth, dStore, dDGet, dDisp, dRaise, tyM, dstart, wipeD, List.map, List.replicate, List.cons_append, List.nil_append, List.length_cons, List.length_nil, List.set_cons_zero, List.set_cons_succ, List.getElem?_cons_zero, List.getElem?_cons_succ, Option.some.injEq, exists_eq_left, exists_eq_left', D.bl.injEq, D.int.injEq, D.str.injEq, D.tup.injEq, D.lst.injEq, List.cons.injEq, and_true, true_and, if_true, if_false, Bool.false_eq_true, Bool.not_true, Bool.not_false, Nat.reduceSub, Nat.reduceAdd, Nat.zero_add, isi_non, isi_bl, isi_int, isi_str, isi_tup, isi_lst, mt_bool, mt_int, mt_str, mt_list, mt_tuple, len_str, len_lst, len_tup, int_int, int_bl, int_str, str_int, top_int, top_str, top_bl, top_non, top_lst, top_tup, box_lst, box_tup, lst_lst, seq_lst, seq_tup, seq_str, eq_int, eq_str, ix_tup, ix_lst, ix_str, atD_0, atD_1, atD_2, in_sign, tyM, isT, String.reduceBEq, String.reduceEq, Bool.or_true, Bool.or_false, Bool.true_or, Bool.false_or, Bool.and_true, Bool.and_false, Bool.true_and, Bool.false_and, ix_refI, add_int, add_str, add_lst, sl_str, sl_lst, atD_3, atD_4, pow_int, DO.lst.injEq, D.ref.injEq, updG_same, lst_refI, box_refI, set_refI, int2I, app_refI, ext_refI, splitI, joinI, idxI, ixN_51, ixN_52, ixN_53, ixN_54, ixN_30, ixN_31, ixN_32, okD_intI, okD_blI, okD_nonI, DL.updG2, List.length_set, Option.some.injEq, decide_eq_true_eq, decide_true, decide_false, hg]
  have fin : ∀ (z : Int) (a : Nat) (h s m' : Int), 0 ≤ s → s < 2 ^ 40 → 0 ≤ m' → m' ≤ u + 1 → rtF Qd (.int (z % n)) (updG G b (.lst [.lst (cs.map .int), .int a, .int h, .int s, .int m'])) := fun z a h s m' e1 e2 e3 e4 => by
    have z1 := Int.emod_nonneg z (show n ≠ 0 by omega)
    have z2 := Int.emod_lt_of_pos z hn
    have e : z % n = ((z % n).toNat : Int) := by omega
    rw [e]
    exact rtF_id (q _ _ (by omega) ⟨⟨cs, a, h, s, m', rfl, e1, e2, e3, by omega⟩⟩)
  have hnl := lg (x := n) (by omega) (by omega)
  by_cases hd0 : hd = 0
  · subst hd0
    simp only [if_true]
    by_cases ha : (at_ : Int) < (cs.map D.int).length
    · obtain ⟨x, hx, hm⟩ := atD_mem ha
      obtain ⟨c, hc, rfl⟩ := List.mem_map.mp hm
      simp only [if_pos ha, hx, dVar, dC, dOp, dUn, dTest, dChain, dIsN, dNotN, isNo, dAnd, dOr, dNot, dAndV, dOrV, dNotV, dIf, dNil, dCons, dTup, dLst, dLstM, dNext, dSeq, dBreak, dCont, dDrop, dRet, dRetN, dIfS, gN, gsNil, gsCons, gTu, dAsg, gSubD, dPar, dPar3, dFor, dIter, dRng1, dRng2, dEnum, dZipB, dLc, dLcM, mkL, dCall, dFld, dMeth, dCB, dBM, rSubD, rMulD, rFdivD, rModD, rLtD, rLeD, rGtD, rGeD, rNegD, rEqDD, rNeDD, dSl, dPn, dPs, dRev, rIsiC, dStar, dJoined, dJs, gStar, dMake, mkD, dCMeth, dStore, dDGet, dDisp, dRaise, tyM, dstart, wipeD, List.map, List.replicate, List.cons_append, List.nil_append, List.length_cons, List.length_nil, List.set_cons_zero, List.set_cons_succ, List.getElem?_cons_zero, List.getElem?_cons_succ, Option.some.injEq, exists_eq_left, exists_eq_left', D.bl.injEq, D.int.injEq, D.str.injEq, D.tup.injEq, D.lst.injEq, List.cons.injEq, and_true, true_and, if_true, if_false, Bool.false_eq_true, Bool.not_true, Bool.not_false, Nat.reduceSub, Nat.reduceAdd, Nat.zero_add, isi_non, isi_bl, isi_int, isi_str, isi_tup, isi_lst, mt_bool, mt_int, mt_str, mt_list, mt_tuple, len_str, len_lst, len_tup, int_int, int_bl, int_str, str_int, top_int, top_str, top_bl, top_non, top_lst, top_tup, box_lst, box_tup, lst_lst, seq_lst, seq_tup, seq_str, eq_int, eq_str, ix_tup, ix_lst, ix_str, atD_0, atD_1, atD_2, in_sign, tyM, isT, String.reduceBEq, String.reduceEq, Bool.or_true, Bool.or_false, Bool.true_or, Bool.false_or, Bool.and_true, Bool.and_false, Bool.true_and, Bool.false_and, ix_refI, add_int, add_str, add_lst, sl_str, sl_lst, atD_3, atD_4, pow_int, DO.lst.injEq, D.ref.injEq, updG_same, lst_refI, box_refI, set_refI, int2I, app_refI, ext_refI, splitI, joinI, idxI, ixN_51, ixN_52, ixN_53, ixN_54, ixN_30, ixN_31, ixN_32, okD_intI, okD_blI, okD_nonI, DL.updG2, List.length_set, Option.some.injEq, decide_eq_true_eq, decide_true, decide_false]
      refine ⟨cpow18, ?_⟩
      by_cases hb : 10 ^ Int.toNat 18 ≤ c
      · simp only [if_pos hb, dVar, dC, dOp, dUn, dTest, dChain, dIsN, dNotN, isNo, dAnd, dOr, dNot, dAndV, dOrV, dNotV, dIf, dNil, dCons, dTup, dLst, dLstM, dNext, dSeq, dBreak, dCont, dDrop, dRet, dRetN, dIfS, gN, gsNil, gsCons, gTu, dAsg, gSubD, dPar, dPar3, dFor, dIter, dRng1, dRng2, dEnum, dZipB, dLc, dLcM, mkL, dCall, dFld, dMeth, dCB, dBM, rSubD, rMulD, rFdivD, rModD, rLtD, rLeD, rGtD, rGeD, rNegD, rEqDD, rNeDD, dSl, dPn, dPs, dRev, rIsiC, dStar, dJoined, dJs, gStar, dMake, mkD, dCMeth, dStore, dDGet, dDisp, dRaise, tyM, dstart, wipeD, List.map, List.replicate, List.cons_append, List.nil_append, List.length_cons, List.length_nil, List.set_cons_zero, List.set_cons_succ, List.getElem?_cons_zero, List.getElem?_cons_succ, Option.some.injEq, exists_eq_left, exists_eq_left', D.bl.injEq, D.int.injEq, D.str.injEq, D.tup.injEq, D.lst.injEq, List.cons.injEq, and_true, true_and, if_true, if_false, Bool.false_eq_true, Bool.not_true, Bool.not_false, Nat.reduceSub, Nat.reduceAdd, Nat.zero_add, isi_non, isi_bl, isi_int, isi_str, isi_tup, isi_lst, mt_bool, mt_int, mt_str, mt_list, mt_tuple, len_str, len_lst, len_tup, int_int, int_bl, int_str, str_int, top_int, top_str, top_bl, top_non, top_lst, top_tup, box_lst, box_tup, lst_lst, seq_lst, seq_tup, seq_str, eq_int, eq_str, ix_tup, ix_lst, ix_str, atD_0, atD_1, atD_2, in_sign, tyM, isT, String.reduceBEq, String.reduceEq, Bool.or_true, Bool.or_false, Bool.true_or, Bool.false_or, Bool.and_true, Bool.and_false, Bool.true_and, Bool.false_and, ix_refI, add_int, add_str, add_lst, sl_str, sl_lst, atD_3, atD_4, pow_int, DO.lst.injEq, D.ref.injEq, updG_same, lst_refI, box_refI, set_refI, int2I, app_refI, ext_refI, splitI, joinI, idxI, ixN_51, ixN_52, ixN_53, ixN_54, ixN_30, ixN_31, ixN_32, okD_intI, okD_blI, okD_nonI, DL.updG2, List.length_set, Option.some.injEq, decide_eq_true_eq, decide_true, decide_false]
        by_cases h0 : 0 < c
        · rw [if_pos h0]
          exact ⟨hn, ⟨hn, by omega⟩, fin _ (at_ + 1) _ _ _ h1 h2 h3 (by omega)⟩
        · rw [if_neg h0]
          exact pull_log h1 h2 h3 (by omega) hn (fin _ (at_ + 1) _ _ _ (by omega) (by omega) (by omega) (by omega))
      · simp only [if_neg hb, dVar, dC, dOp, dUn, dTest, dChain, dIsN, dNotN, isNo, dAnd, dOr, dNot, dAndV, dOrV, dNotV, dIf, dNil, dCons, dTup, dLst, dLstM, dNext, dSeq, dBreak, dCont, dDrop, dRet, dRetN, dIfS, gN, gsNil, gsCons, gTu, dAsg, gSubD, dPar, dPar3, dFor, dIter, dRng1, dRng2, dEnum, dZipB, dLc, dLcM, mkL, dCall, dFld, dMeth, dCB, dBM, rSubD, rMulD, rFdivD, rModD, rLtD, rLeD, rGtD, rGeD, rNegD, rEqDD, rNeDD, dSl, dPn, dPs, dRev, rIsiC, dStar, dJoined, dJs, gStar, dMake, mkD, dCMeth, dStore, dDGet, dDisp, dRaise, tyM, dstart, wipeD, List.map, List.replicate, List.cons_append, List.nil_append, List.length_cons, List.length_nil, List.set_cons_zero, List.set_cons_succ, List.getElem?_cons_zero, List.getElem?_cons_succ, Option.some.injEq, exists_eq_left, exists_eq_left', D.bl.injEq, D.int.injEq, D.str.injEq, D.tup.injEq, D.lst.injEq, List.cons.injEq, and_true, true_and, if_true, if_false, Bool.false_eq_true, Bool.not_true, Bool.not_false, Nat.reduceSub, Nat.reduceAdd, Nat.zero_add, isi_non, isi_bl, isi_int, isi_str, isi_tup, isi_lst, mt_bool, mt_int, mt_str, mt_list, mt_tuple, len_str, len_lst, len_tup, int_int, int_bl, int_str, str_int, top_int, top_str, top_bl, top_non, top_lst, top_tup, box_lst, box_tup, lst_lst, seq_lst, seq_tup, seq_str, eq_int, eq_str, ix_tup, ix_lst, ix_str, atD_0, atD_1, atD_2, in_sign, tyM, isT, String.reduceBEq, String.reduceEq, Bool.or_true, Bool.or_false, Bool.true_or, Bool.false_or, Bool.and_true, Bool.and_false, Bool.true_and, Bool.false_and, ix_refI, add_int, add_str, add_lst, sl_str, sl_lst, atD_3, atD_4, pow_int, DO.lst.injEq, D.ref.injEq, updG_same, lst_refI, box_refI, set_refI, int2I, app_refI, ext_refI, splitI, joinI, idxI, ixN_51, ixN_52, ixN_53, ixN_54, ixN_30, ixN_31, ixN_32, okD_intI, okD_blI, okD_nonI, DL.updG2, List.length_set, Option.some.injEq, decide_eq_true_eq, decide_true, decide_false]
        have b1 := lg (x := sd) h1 (by omega)
        have b2 := lg (x := 43051) (by decide) (by decide)
        have b3 := lg (x := c % 2147483423) (by omega) (by omega)
        have b4 := lg (x := 7411) (by decide) (by decide)
        refine ⟨by omega, by decide, by omega, by decide, ?_⟩
        rw [if_neg (by decide)]
        exact pull_log (by omega) (by omega) h3 (by omega) hn (fin _ (at_ + 1) _ _ _ (by omega) (by omega) (by omega) (by omega))
    · simp only [if_neg ha, dVar, dC, dOp, dUn, dTest, dChain, dIsN, dNotN, isNo, dAnd, dOr, dNot, dAndV, dOrV, dNotV, dIf, dNil, dCons, dTup, dLst, dLstM, dNext, dSeq, dBreak, dCont, dDrop, dRet, dRetN, dIfS, gN, gsNil, gsCons, gTu, dAsg, gSubD, dPar, dPar3, dFor, dIter, dRng1, dRng2, dEnum, dZipB, dLc, dLcM, mkL, dCall, dFld, dMeth, dCB, dBM, rSubD, rMulD, rFdivD, rModD, rLtD, rLeD, rGtD, rGeD, rNegD, rEqDD, rNeDD, dSl, dPn, dPs, dRev, rIsiC, dStar, dJoined, dJs, gStar, dMake, mkD, dCMeth, dStore, dDGet, dDisp, dRaise, tyM, dstart, wipeD, List.map, List.replicate, List.cons_append, List.nil_append, List.length_cons, List.length_nil, List.set_cons_zero, List.set_cons_succ, List.getElem?_cons_zero, List.getElem?_cons_succ, Option.some.injEq, exists_eq_left, exists_eq_left', D.bl.injEq, D.int.injEq, D.str.injEq, D.tup.injEq, D.lst.injEq, List.cons.injEq, and_true, true_and, if_true, if_false, Bool.false_eq_true, Bool.not_true, Bool.not_false, Nat.reduceSub, Nat.reduceAdd, Nat.zero_add, isi_non, isi_bl, isi_int, isi_str, isi_tup, isi_lst, mt_bool, mt_int, mt_str, mt_list, mt_tuple, len_str, len_lst, len_tup, int_int, int_bl, int_str, str_int, top_int, top_str, top_bl, top_non, top_lst, top_tup, box_lst, box_tup, lst_lst, seq_lst, seq_tup, seq_str, eq_int, eq_str, ix_tup, ix_lst, ix_str, atD_0, atD_1, atD_2, in_sign, tyM, isT, String.reduceBEq, String.reduceEq, Bool.or_true, Bool.or_false, Bool.true_or, Bool.false_or, Bool.and_true, Bool.and_false, Bool.true_and, Bool.false_and, ix_refI, add_int, add_str, add_lst, sl_str, sl_lst, atD_3, atD_4, pow_int, DO.lst.injEq, D.ref.injEq, updG_same, lst_refI, box_refI, set_refI, int2I, app_refI, ext_refI, splitI, joinI, idxI, ixN_51, ixN_52, ixN_53, ixN_54, ixN_30, ixN_31, ixN_32, okD_intI, okD_blI, okD_nonI, DL.updG2, List.length_set, Option.some.injEq, decide_eq_true_eq, decide_true, decide_false, hg]
      rw [if_neg (by decide)]
      exact pull_log h1 h2 h3 (by omega) hn (fin _ at_ _ _ _ (by omega) (by omega) (by omega) (by omega))
  · simp only [if_neg hd0, dVar, dC, dOp, dUn, dTest, dChain, dIsN, dNotN, isNo, dAnd, dOr, dNot, dAndV, dOrV, dNotV, dIf, dNil, dCons, dTup, dLst, dLstM, dNext, dSeq, dBreak, dCont, dDrop, dRet, dRetN, dIfS, gN, gsNil, gsCons, gTu, dAsg, gSubD, dPar, dPar3, dFor, dIter, dRng1, dRng2, dEnum, dZipB, dLc, dLcM, mkL, dCall, dFld, dMeth, dCB, dBM, rSubD, rMulD, rFdivD, rModD, rLtD, rLeD, rGtD, rGeD, rNegD, rEqDD, rNeDD, dSl, dPn, dPs, dRev, rIsiC, dStar, dJoined, dJs, gStar, dMake, mkD, dCMeth, dStore, dDGet, dDisp, dRaise, tyM, dstart, wipeD, List.map, List.replicate, List.cons_append, List.nil_append, List.length_cons, List.length_nil, List.set_cons_zero, List.set_cons_succ, List.getElem?_cons_zero, List.getElem?_cons_succ, Option.some.injEq, exists_eq_left, exists_eq_left', D.bl.injEq, D.int.injEq, D.str.injEq, D.tup.injEq, D.lst.injEq, List.cons.injEq, and_true, true_and, if_true, if_false, Bool.false_eq_true, Bool.not_true, Bool.not_false, Nat.reduceSub, Nat.reduceAdd, Nat.zero_add, isi_non, isi_bl, isi_int, isi_str, isi_tup, isi_lst, mt_bool, mt_int, mt_str, mt_list, mt_tuple, len_str, len_lst, len_tup, int_int, int_bl, int_str, str_int, top_int, top_str, top_bl, top_non, top_lst, top_tup, box_lst, box_tup, lst_lst, seq_lst, seq_tup, seq_str, eq_int, eq_str, ix_tup, ix_lst, ix_str, atD_0, atD_1, atD_2, in_sign, tyM, isT, String.reduceBEq, String.reduceEq, Bool.or_true, Bool.or_false, Bool.true_or, Bool.false_or, Bool.and_true, Bool.and_false, Bool.true_and, Bool.false_and, ix_refI, add_int, add_str, add_lst, sl_str, sl_lst, atD_3, atD_4, pow_int, DO.lst.injEq, D.ref.injEq, updG_same, lst_refI, box_refI, set_refI, int2I, app_refI, ext_refI, splitI, joinI, idxI, ixN_51, ixN_52, ixN_53, ixN_54, ixN_30, ixN_31, ixN_32, okD_intI, okD_blI, okD_nonI, DL.updG2, List.length_set, Option.some.injEq, decide_eq_true_eq, decide_true, decide_false, hg]
    by_cases h0 : 0 < hd
    · rw [if_pos h0]
      exact ⟨hn, ⟨hn, by omega⟩, fin _ at_ _ _ _ h1 h2 h3 (by omega)⟩
    · rw [if_neg h0]
      exact pull_log h1 h2 h3 (by omega) hn (fin _ at_ _ _ _ (by omega) (by omega) (by omega) (by omega))
def sp__law_pick : DSp := fun ds G Q E => ∃ b u d xs, ds = [.ref b, d] ∧ BagAt u G b ∧ someD d xs ∧ xs ≠ [] ∧ xs.length ≤ 1000 ∧ ∀ x o, x ∈ xs → Bag (u + 1) o → Q x (updG G b o)
theorem l__law_pick {ds G Q Ed} (h : sp__law_pick ds G Q Ed) : ds.length = 2 := by
  obtain ⟨_, _, _, _, rfl, _⟩ := h; rfl
abbrev N__law_pick : List Str := ["_law_bag", "_law_some"]
def t__law_pick (Ed : DXK) : DTS := dRet (dOp rIxD (dVar 1) (dCall sp__law_pull Ed (dCons (dVar 0) (dCons (dCB rLenD (dCons (dVar 1) (dNil))) (dNil))) []))
theorem r__law_pick (ds : List D) (G : GH) (Qd : DK) (Ed : DXK) (h : sp__law_pick ds G Qd Ed) : t__law_pick (rtX Ed) { nx := fun _ G' => rtF Qd .non G', rt := rtF Qd } (dstart N__law_pick ds) G := by
  obtain ⟨b, u, d, xs, rfl, hb, hs, h0, hl, q⟩ := h
  have hz := size_ge
  simp only [t__law_pick, N__law_pick, dVar, dC, dOp, dUn, dTest, dChain, dIsN, dNotN, isNo, dAnd, dOr, dNot, dAndV, dOrV, dNotV, dIf, dNil, dCons, dTup, dLst, dLstM, dNext, dSeq, dBreak, dCont, dDrop, dRet, dRetN, dIfS, gN, gsNil, gsCons, gTu, dAsg, gSubD, dPar, dPar3, dFor, dIter, dRng1, dRng2, dEnum, dZipB, dLc, dLcM, mkL, dCall, dFld, dMeth, dCB, dBM, rSubD, rMulD, rFdivD, rModD, rLtD, rLeD, rGtD, rGeD, rNegD, rEqDD, rNeDD, dSl, dPn, dPs, dRev, rIsiC, dStar, dJoined, dJs, gStar, dMake, mkD, dCMeth, dStore, dDGet, dDisp, dRaise, tyM, dstart, wipeD, List.map, List.replicate, List.cons_append, List.nil_append, List.length_cons, List.length_nil, List.set_cons_zero, List.set_cons_succ, List.getElem?_cons_zero, List.getElem?_cons_succ, Option.some.injEq, exists_eq_left, exists_eq_left', D.bl.injEq, D.int.injEq, D.str.injEq, D.tup.injEq, D.lst.injEq, List.cons.injEq, and_true, true_and, if_true, if_false, Bool.false_eq_true, Bool.not_true, Bool.not_false, Nat.reduceSub, Nat.reduceAdd, Nat.zero_add, isi_non, isi_bl, isi_int, isi_str, isi_tup, isi_lst, mt_bool, mt_int, mt_str, mt_list, mt_tuple, len_str, len_lst, len_tup, int_int, int_bl, int_str, str_int, top_int, top_str, top_bl, top_non, top_lst, top_tup, box_lst, box_tup, lst_lst, seq_lst, seq_tup, seq_str, eq_int, eq_str, ix_tup, ix_lst, ix_str, atD_0, atD_1, atD_2, in_sign, tyM, isT, String.reduceBEq, String.reduceEq, Bool.or_true, Bool.or_false, Bool.true_or, Bool.false_or, Bool.and_true, Bool.and_false, Bool.true_and, Bool.false_and, ix_refI, add_int, add_str, add_lst, sl_str, sl_lst, atD_3, atD_4, pow_int, DO.lst.injEq, D.ref.injEq, updG_same, lst_refI, box_refI, set_refI, int2I, app_refI, ext_refI, splitI, joinI, idxI, ixN_51, ixN_52, ixN_53, ixN_54, ixN_30, ixN_31, ixN_32, okD_intI, okD_blI, okD_nonI, DL.updG2, List.length_set, Option.some.injEq, decide_eq_true_eq, decide_true, decide_false]
  have hp : 0 < xs.length := List.length_pos_iff.mpr h0
  rcases hs with rfl | ⟨s, rfl, rfl⟩
  · rw [len_lst]
    refine ⟨b, u, xs.length, rfl, hb, by omega, by omega, fun i o hi ho => ?_⟩
    obtain ⟨x, hx, hm⟩ := atD_mem hi
    rw [ix_lst]
    exact ⟨x, hx, rtF_id (q x o hm ho)⟩
  · rw [List.length_map] at hl hp
    rw [len_str]
    refine ⟨by omega, b, u, s.length, rfl, hb, by omega, by omega, fun i o hi ho => ?_⟩
    obtain ⟨x, hx, hm⟩ := atD_mem hi
    rw [ix_str]
    exact ⟨by omega, x, hx, rtF_id (q _ o (List.mem_map.mpr ⟨x, hm, rfl⟩) ho)⟩
def sp__law_words : DSp := fun ds G Q E => ∃ b u, ∃ n : Nat, ds = [.ref b, .int n] ∧ u + 8 < 2 ^ 40 ∧ BagAt u G b ∧ n ≤ 26 ∧ ∀ (ws : List (List Nat)) o, ws.length = n → ws.Nodup → (∀ w ∈ ws, nameB w = true) → Bag (u + 8) o → Q (.lst (ws.map .str)) (updG G b o)
theorem l__law_words {ds G Q Ed} (h : sp__law_words ds G Q Ed) : ds.length = 2 := by
  obtain ⟨_, _, _, rfl, _⟩ := h; rfl
abbrev N__law_words : List Str := ["_law_bag", "_law_count", "_law_letters", "_law_stem", "_law_at", "_law_first", "_law_found", "_law_k", "_law_sign"]
def t__law_words (Ed : DXK) : DTS := dSeq (dAsg (dC (.str [97, 98, 99, 100, 101, 102, 103, 104, 105, 106, 107, 108, 109, 110, 111, 112, 113, 114, 115, 116, 117, 118, 119, 120, 121, 122])) (gN 2)) (dSeq (dAsg (dBM "str" rJoinD (dC (.str [])) (dCons (dLc (dRng1 (dCons (dCall sp__law_pick Ed (dCons (dVar 0) (dCons (dLst (dCons (dC (.int 0)) (dCons (dC (.int 1)) (dCons (dC (.int 2)) (dCons (dC (.int 5)) (dNil)))))) (dNil))) []) (dNil))) (gN 7) (dYes) (dCall sp__law_pick Ed0 (dCons (dVar 0) (dCons (dVar 2) (dNil))) []) [7]) (dNil))) (gN 3)) (dSeq (dPar 4 5 (dCons (dCall sp__law_pull Ed (dCons (dVar 0) (dCons (dOp rAddD (dCB rLenD (dCons (dVar 3) (dNil))) (dC (.int 1))) (dNil))) []) (dCons (dCall sp__law_pull Ed (dCons (dVar 0) (dCons (dC (.int 26)) (dNil))) []) (dNil)))) (dSeq (dAsg (dLstM (dNil)) (gN 6)) (dSeq (dFor (dRng1 (dCons (dVar 1) (dNil))) (gN 7) (dSeq (dAsg (dOp rIxD (dVar 2) (dOp rModD (dCB rIntD (dCons (dOp rAddD (dVar 5) (dOp rMulD (dC (.int 7)) (dVar 7))) (dNil))) (dC (.int 26)))) (gN 8)) (dDrop (dBM "list" rAppD (dVar 6) (dCons (dOp rAddD (dOp rAddD (dSl (dVar 3) (dPn) (dPs (dVar 4))) (dVar 8)) (dSl (dVar 3) (dPs (dVar 4)) (dPn))) (dNil)))))) (dRet (dVar 6))))))
abbrev alpha : List Nat := [97, 98, 99, 100, 101, 102, 103, 104, 105, 106, 107, 108, 109, 110, 111, 112, 113, 114, 115, 116, 117, 118, 119, 120, 121, 122]
theorem stem_lc {b : Addr} {n : Int} {G : GH} {Q : DK} : ∀ (items : List D) (cs : List Nat) (u : Nat) (o : DO), u + items.length < 2 ^ 40 → Bag u o → (∀ c ∈ cs, 97 ≤ c ∧ c ≤ 122) → cs.length + items.length ≤ 5 →
    (∀ (cs' : List Nat) o', cs'.length = cs.length + items.length → (∀ c ∈ cs', 97 ≤ c ∧ c ≤ 122) → Bag (u + items.length) o' → Q (.lst (cs'.map fun c => .str [c])) (updG G b o')) →
    lcGo (gN 7) dYes (dCall sp__law_pick Ed0 (dCons (dVar 0) (dCons (dVar 2) dNil)) []) [some (.ref b), some (.int n), some (.str alpha), none, none, none, none, none, none] (fun _ => True) Q items (cs.map fun c => .str [c]) (updG G b o)
  | [], cs, u, o, _, hb, hc, _, q => ⟨trivial, q cs o (by simp) hc hb⟩
  | x :: items, cs, u, o, hu, hb, hc, hl, q => by
    have hz := size_ge
    refine ⟨trivial, ?_⟩
    simp only [List.length_cons] at hu hl q
    simp only [dVar, dC, dOp, dUn, dTest, dChain, dIsN, dNotN, isNo, dAnd, dOr, dNot, dAndV, dOrV, dNotV, dIf, dNil, dCons, dTup, dLst, dLstM, dNext, dSeq, dBreak, dCont, dDrop, dRet, dRetN, dIfS, gN, gsNil, gsCons, gTu, dAsg, gSubD, dPar, dPar3, dFor, dIter, dRng1, dRng2, dEnum, dZipB, dLc, dLcM, mkL, dCall, dFld, dMeth, dCB, dBM, rSubD, rMulD, rFdivD, rModD, rLtD, rLeD, rGtD, rGeD, rNegD, rEqDD, rNeDD, dSl, dPn, dPs, dRev, rIsiC, dStar, dJoined, dJs, gStar, dMake, mkD, dCMeth, dStore, dDGet, dDisp, dRaise, tyM, dstart, wipeD, List.map, List.replicate, List.cons_append, List.nil_append, List.length_cons, List.length_nil, List.set_cons_zero, List.set_cons_succ, List.getElem?_cons_zero, List.getElem?_cons_succ, Option.some.injEq, exists_eq_left, exists_eq_left', D.bl.injEq, D.int.injEq, D.str.injEq, D.tup.injEq, D.lst.injEq, List.cons.injEq, and_true, true_and, if_true, if_false, Bool.false_eq_true, Bool.not_true, Bool.not_false, Nat.reduceSub, Nat.reduceAdd, Nat.zero_add, isi_non, isi_bl, isi_int, isi_str, isi_tup, isi_lst, mt_bool, mt_int, mt_str, mt_list, mt_tuple, len_str, len_lst, len_tup, int_int, int_bl, int_str, str_int, top_int, top_str, top_bl, top_non, top_lst, top_tup, box_lst, box_tup, lst_lst, seq_lst, seq_tup, seq_str, eq_int, eq_str, ix_tup, ix_lst, ix_str, atD_0, atD_1, atD_2, in_sign, tyM, isT, String.reduceBEq, String.reduceEq, Bool.or_true, Bool.or_false, Bool.true_or, Bool.false_or, Bool.and_true, Bool.and_false, Bool.true_and, Bool.false_and, ix_refI, add_int, add_str, add_lst, sl_str, sl_lst, atD_3, atD_4, pow_int, DO.lst.injEq, D.ref.injEq, updG_same, lst_refI, box_refI, set_refI, int2I, app_refI, ext_refI, splitI, joinI, idxI, ixN_51, ixN_52, ixN_53, ixN_54, ixN_30, ixN_31, ixN_32, okD_intI, okD_blI, okD_nonI, DL.updG2, List.length_set, Option.some.injEq, decide_eq_true_eq, decide_true, decide_false, dYes]
    refine ⟨b, u, _, _, rfl, ⟨by omega, o, updG_same, hb⟩, .inr ⟨alpha, rfl, rfl⟩, by simp, by simp, fun y o1 hy ho => ?_⟩
    obtain ⟨c, hc1, rfl⟩ := List.mem_map.mp hy
    have hc2 := alpha_mem.mp hc1
    refine ⟨by simp; omega, ?_⟩
    rw [updG2]
    have := stem_lc (b := b) (n := n) (G := G) (Q := Q) items (cs ++ [c]) (u + 1) o1 (by omega) ho (fun z hz => by
      rcases List.mem_append.mp hz with hz | hz
      · exact hc z hz
      · rw [List.mem_singleton.mp hz]; exact hc2) (by simp; omega) fun cs' o' e1 e2 e3 => q cs' o' (by rw [e1]; simp; omega) e2 (by rw [show u + (items.length + 1) = u + 1 + items.length by omega]; exact e3)
    simpa using this
theorem alpha_at (z : Nat) (h : z < 26) : alpha[z]? = some (97 + z) := by
  have : ∀ z : Fin 26, alpha[z.val]? = some (97 + z.val) := by decide
  exact this ⟨z, h⟩
theorem Bag.mono {u v : Nat} {o : DO} (h : Bag u o) (e : u ≤ v) : Bag v o := by
  obtain ⟨cs, a, b, c, d, e1, h1, h2, h3, h4⟩ := h.ex
  exact ⟨⟨cs, a, b, c, d, e1, h1, h2, h3, by omega⟩⟩
theorem flat_one : ∀ cs : List Nat, joinD [] (cs.map fun c => [c]) = cs := fun cs => by
  rw [join_nil]
  induction cs with
  | nil => rfl
  | cons c cs ih => simpa using ih
theorem r__law_words (ds : List D) (G : GH) (Qd : DK) (Ed : DXK) (h : sp__law_words ds G Qd Ed) : t__law_words (rtX Ed) { nx := fun _ G' => rtF Qd .non G', rt := rtF Qd } (dstart N__law_words ds) G := by
  obtain ⟨b, u, n, rfl, hu, hb, hn, q⟩ := h
  have hz := size_ge
  simp only [t__law_words, N__law_words, dVar, dC, dOp, dUn, dTest, dChain, dIsN, dNotN, isNo, dAnd, dOr, dNot, dAndV, dOrV, dNotV, dIf, dNil, dCons, dTup, dLst, dLstM, dNext, dSeq, dBreak, dCont, dDrop, dRet, dRetN, dIfS, gN, gsNil, gsCons, gTu, dAsg, gSubD, dPar, dPar3, dFor, dIter, dRng1, dRng2, dEnum, dZipB, dLc, dLcM, mkL, dCall, dFld, dMeth, dCB, dBM, rSubD, rMulD, rFdivD, rModD, rLtD, rLeD, rGtD, rGeD, rNegD, rEqDD, rNeDD, dSl, dPn, dPs, dRev, rIsiC, dStar, dJoined, dJs, gStar, dMake, mkD, dCMeth, dStore, dDGet, dDisp, dRaise, tyM, dstart, wipeD, List.map, List.replicate, List.cons_append, List.nil_append, List.length_cons, List.length_nil, List.set_cons_zero, List.set_cons_succ, List.getElem?_cons_zero, List.getElem?_cons_succ, Option.some.injEq, exists_eq_left, exists_eq_left', D.bl.injEq, D.int.injEq, D.str.injEq, D.tup.injEq, D.lst.injEq, List.cons.injEq, and_true, true_and, if_true, if_false, Bool.false_eq_true, Bool.not_true, Bool.not_false, Nat.reduceSub, Nat.reduceAdd, Nat.zero_add, isi_non, isi_bl, isi_int, isi_str, isi_tup, isi_lst, mt_bool, mt_int, mt_str, mt_list, mt_tuple, len_str, len_lst, len_tup, int_int, int_bl, int_str, str_int, top_int, top_str, top_bl, top_non, top_lst, top_tup, box_lst, box_tup, lst_lst, seq_lst, seq_tup, seq_str, eq_int, eq_str, ix_tup, ix_lst, ix_str, atD_0, atD_1, atD_2, in_sign, tyM, isT, String.reduceBEq, String.reduceEq, Bool.or_true, Bool.or_false, Bool.true_or, Bool.false_or, Bool.and_true, Bool.and_false, Bool.true_and, Bool.false_and, ix_refI, add_int, add_str, add_lst, sl_str, sl_lst, atD_3, atD_4, pow_int, DO.lst.injEq, D.ref.injEq, updG_same, lst_refI, box_refI, set_refI, int2I, app_refI, ext_refI, splitI, joinI, idxI, ixN_51, ixN_52, ixN_53, ixN_54, ixN_30, ixN_31, ixN_32, okD_intI, okD_blI, okD_nonI, DL.updG2, List.length_set, Option.some.injEq, decide_eq_true_eq, decide_true, decide_false]
  refine ⟨by decide, b, u, _, _, rfl, hb, .inl rfl, by simp, by simp, fun x o hx ho => ?_⟩
  have hxs : ∃ k : Nat, x = .int k ∧ k ≤ 5 := by
    simp at hx
    rcases hx with rfl | rfl | rfl | rfl
    · exact ⟨0, rfl, by omega⟩
    · exact ⟨1, rfl, by omega⟩
    · exact ⟨2, rfl, by omega⟩
    · exact ⟨5, rfl, by omega⟩
  obtain ⟨k, rfl, hk⟩ := hxs
  refine ⟨_, rfl, by omega, by omega, ?_⟩
  refine stem_lc (rngD 0 k) [] (u + 1) o (by simp [rngD]; omega) ho (by simp) (by simp [rngD]; omega) fun cs o1 hl hc hb1 => ?_
  have hl : cs.length = k := by simpa [rngD] using hl
  have hb1 : Bag (u + 1 + k) o1 := by simpa [rngD] using hb1
  refine ⟨cs.map fun c => [c], by simp [boxD, seqD], ?_, ?_⟩
  · have := sum_le (k := 1) (ys := cs.map fun c => [c]) fun y hy => by
      obtain ⟨l, hl, rfl⟩ := List.mem_map.mp hy
      simp
    simp only [List.length_map] at this ⊢
    omega
  · rw [flat_one]
    refine ⟨by omega, b, u + 1 + k, _, rfl, ⟨by omega, _, updG_same, hb1⟩, by omega, by omega, fun at_ o2 h2 hb2 => ?_⟩
    rw [updG2]
    refine ⟨b, u + 1 + k + 1, _, rfl, ⟨by omega, _, updG_same, hb2⟩, by omega, by omega, fun first o3 h3 hb3 => ?_⟩
    rw [updG2]
    refine ⟨_, _, ⟨rfl, rfl⟩, by decide, fun p hp => ⟨by omega, by omega, ?_⟩⟩
    have hne : p ≠ b := fun z => by
      subst z
      rw [updG_same] at hp
      cases hp
    let sg : Nat → Nat := fun i => 97 + (first + 7 * i) % 26
    let wd : Nat → List Nat := fun i => cs.take at_ ++ sg i :: cs.drop at_
    refine forGo_rng (fun i ρ G1 => G1 = updG (updG G b o3) p (.lst ((List.range i).map fun j => .str (wd j))) ∧ ∃ x y, ρ = [some (.ref b), some (.int n), some (.str alpha), some (.str cs), some (.int at_), some (.int first), some (.ref p), x, y]) (fun i ρ G1 hi ⟨e1, x, y, e2⟩ => ⟨trivial, fun K hK => ?_⟩) (fun ρ G1 ⟨e1, x, y, e2⟩ => ⟨trivial, ?_⟩) ⟨rfl, _, _, rfl⟩
    · subst e1 e2
      simp only [dVar, dC, dOp, dUn, dTest, dChain, dIsN, dNotN, isNo, dAnd, dOr, dNot, dAndV, dOrV, dNotV, dIf, dNil, dCons, dTup, dLst, dLstM, dNext, dSeq, dBreak, dCont, dDrop, dRet, dRetN, dIfS, gN, gsNil, gsCons, gTu, dAsg, gSubD, dPar, dPar3, dFor, dIter, dRng1, dRng2, dEnum, dZipB, dLc, dLcM, mkL, dCall, dFld, dMeth, dCB, dBM, rSubD, rMulD, rFdivD, rModD, rLtD, rLeD, rGtD, rGeD, rNegD, rEqDD, rNeDD, dSl, dPn, dPs, dRev, rIsiC, dStar, dJoined, dJs, gStar, dMake, mkD, dCMeth, dStore, dDGet, dDisp, dRaise, tyM, dstart, wipeD, List.map, List.replicate, List.cons_append, List.nil_append, List.length_cons, List.length_nil, List.set_cons_zero, List.set_cons_succ, List.getElem?_cons_zero, List.getElem?_cons_succ, Option.some.injEq, exists_eq_left, exists_eq_left', D.bl.injEq, D.int.injEq, D.str.injEq, D.tup.injEq, D.lst.injEq, List.cons.injEq, and_true, true_and, if_true, if_false, Bool.false_eq_true, Bool.not_true, Bool.not_false, Nat.reduceSub, Nat.reduceAdd, Nat.zero_add, isi_non, isi_bl, isi_int, isi_str, isi_tup, isi_lst, mt_bool, mt_int, mt_str, mt_list, mt_tuple, len_str, len_lst, len_tup, int_int, int_bl, int_str, str_int, top_int, top_str, top_bl, top_non, top_lst, top_tup, box_lst, box_tup, lst_lst, seq_lst, seq_tup, seq_str, eq_int, eq_str, ix_tup, ix_lst, ix_str, atD_0, atD_1, atD_2, in_sign, tyM, isT, String.reduceBEq, String.reduceEq, Bool.or_true, Bool.or_false, Bool.true_or, Bool.false_or, Bool.and_true, Bool.and_false, Bool.true_and, Bool.false_and, ix_refI, add_int, add_str, add_lst, sl_str, sl_lst, atD_3, atD_4, pow_int, DO.lst.injEq, D.ref.injEq, updG_same, lst_refI, box_refI, set_refI, int2I, app_refI, ext_refI, splitI, joinI, idxI, ixN_51, ixN_52, ixN_53, ixN_54, ixN_30, ixN_31, ixN_32, okD_intI, okD_blI, okD_nonI, DL.updG2, List.length_set, Option.some.injEq, decide_eq_true_eq, decide_true, decide_false]
      have ez : ((first : Int) + 7 * i) % 26 = (((first + 7 * i) % 26 : Nat) : Int) := by omega
      have l7 := lg (x := 7) (by decide) (by decide)
      have li := lg (x := i) (by omega) (by omega)
      refine ⟨by omega, by decide, by decide, sg i, ?_, ⟨_, rfl⟩, by omega, ?_⟩
      · rw [ez, atD_nat]
        exact alpha_at _ (by omega)
      · rw [cut_to, cut_from]
        refine ⟨by simp; omega, by omega, by simp; omega, by simp; omega, hK _ _ ⟨?_, _, _, rfl⟩⟩
        rw [List.range_succ]
        simp [wd]
    · subst e1 e2
      simp only [dVar, dC, dOp, dUn, dTest, dChain, dIsN, dNotN, isNo, dAnd, dOr, dNot, dAndV, dOrV, dNotV, dIf, dNil, dCons, dTup, dLst, dLstM, dNext, dSeq, dBreak, dCont, dDrop, dRet, dRetN, dIfS, gN, gsNil, gsCons, gTu, dAsg, gSubD, dPar, dPar3, dFor, dIter, dRng1, dRng2, dEnum, dZipB, dLc, dLcM, mkL, dCall, dFld, dMeth, dCB, dBM, rSubD, rMulD, rFdivD, rModD, rLtD, rLeD, rGtD, rGeD, rNegD, rEqDD, rNeDD, dSl, dPn, dPs, dRev, rIsiC, dStar, dJoined, dJs, gStar, dMake, mkD, dCMeth, dStore, dDGet, dDisp, dRaise, tyM, dstart, wipeD, List.map, List.replicate, List.cons_append, List.nil_append, List.length_cons, List.length_nil, List.set_cons_zero, List.set_cons_succ, List.getElem?_cons_zero, List.getElem?_cons_succ, Option.some.injEq, exists_eq_left, exists_eq_left', D.bl.injEq, D.int.injEq, D.str.injEq, D.tup.injEq, D.lst.injEq, List.cons.injEq, and_true, true_and, if_true, if_false, Bool.false_eq_true, Bool.not_true, Bool.not_false, Nat.reduceSub, Nat.reduceAdd, Nat.zero_add, isi_non, isi_bl, isi_int, isi_str, isi_tup, isi_lst, mt_bool, mt_int, mt_str, mt_list, mt_tuple, len_str, len_lst, len_tup, int_int, int_bl, int_str, str_int, top_int, top_str, top_bl, top_non, top_lst, top_tup, box_lst, box_tup, lst_lst, seq_lst, seq_tup, seq_str, eq_int, eq_str, ix_tup, ix_lst, ix_str, atD_0, atD_1, atD_2, in_sign, tyM, isT, String.reduceBEq, String.reduceEq, Bool.or_true, Bool.or_false, Bool.true_or, Bool.false_or, Bool.and_true, Bool.and_false, Bool.true_and, Bool.false_and, ix_refI, add_int, add_str, add_lst, sl_str, sl_lst, atD_3, atD_4, pow_int, DO.lst.injEq, D.ref.injEq, updG_same, lst_refI, box_refI, set_refI, int2I, app_refI, ext_refI, splitI, joinI, idxI, ixN_51, ixN_52, ixN_53, ixN_54, ixN_30, ixN_31, ixN_32, okD_intI, okD_blI, okD_nonI, DL.updG2, List.length_set, Option.some.injEq, decide_eq_true_eq, decide_true, decide_false]
      refine rt_lst hp rfl ?_
      have e : List.map (fun j => D.str (wd j)) (List.range (n : Int).toNat) = ((List.range n).map wd).map .str := by simp
      rw [e]
      have hsg : ∀ i, 97 ≤ sg i ∧ sg i ≤ 122 := fun i => by
        have : (first + 7 * i) % 26 < 26 := Nat.mod_lt _ (by decide)
        exact ⟨Nat.le_add_right _ _, by show 97 + (first + 7 * i) % 26 ≤ 122; omega⟩
      refine q _ o3 (by simp) ?_ (fun w hw => ?_) (hb3.mono (by omega))
      · refine DL.nodup_map_on (fun i hi j hj eij => ?_) List.nodup_range
        have h1 := congrArg (fun l => l[at_]?) eij
        have hl2 : at_ ≤ cs.length := by omega
        simp only [wd] at h1
        rw [List.getElem?_append_right (by simp; omega), List.getElem?_append_right (by simp; omega)] at h1
        simp only [List.length_take, Nat.min_eq_left hl2, Nat.sub_self, List.getElem?_cons_zero, Option.some.injEq] at h1
        have h1' : 97 + (first + 7 * i) % 26 = 97 + (first + 7 * j) % 26 := h1
        have hi' : i < n := by simpa using hi
        have hj' : j < n := by simpa using hj
        omega
      · obtain ⟨i, hi, rfl⟩ := List.mem_map.mp hw
        simp only [nameB, Bool.and_eq_true, decide_eq_true_eq, List.all_eq_true]
        refine ⟨⟨by simp [wd]; omega, by simp [wd]; omega⟩, fun c hc' => ?_⟩
        simp only [wd, List.mem_append, List.mem_cons] at hc'
        rcases hc' with h | rfl | h
        · exact hc c (List.mem_of_mem_take h)
        · exact hsg i
        · exact hc c (List.mem_of_mem_drop h)
def sp__law_plant : DSp := fun ds G Q E => ∃ b u, ds = [.ref b, .lst [.int 4, .int 6, .int 2, .int 2]] ∧ u + 20 < 2 ^ 40 ∧ BagAt u G b ∧ ∀ (r : Rows) o, r.good → Bag (u + 20) o → Q r.spec (updG G b o)
theorem l__law_plant {ds G Q Ed} (h : sp__law_plant ds G Q Ed) : ds.length = 2 := by
  obtain ⟨_, _, rfl, _⟩ := h; rfl
abbrev N__law_plant : List Str := ["_law_bag", "_law_numbers", "_law_many", "_law_floating", "_law_leaving", "_law_words_here", "_law_vats", "_law_word"]
def t__law_plant (Ed : DXK) : DTS := dSeq (dAsg (dOp rAddD (dC (.int 1)) (dCall sp__law_pull Ed (dCons (dVar 0) (dCons (dOp rIxD (dVar 1) (dC (.int 0))) (dNil))) [])) (gN 2)) (dSeq (dPar 3 4 (dCons (dCall sp__law_pull Ed (dCons (dVar 0) (dCons (dOp rAddD (dOp rIxD (dVar 1) (dC (.int 2))) (dC (.int 1))) (dNil))) []) (dCons (dCall sp__law_pull Ed (dCons (dVar 0) (dCons (dOp rAddD (dOp rIxD (dVar 1) (dC (.int 3))) (dC (.int 1))) (dNil))) []) (dNil)))) (dSeq (dAsg (dCall sp__law_words Ed (dCons (dVar 0) (dCons (dOp rAddD (dOp rAddD (dVar 2) (dVar 3)) (dVar 4)) (dNil))) []) (gN 5)) (dSeq (dAsg (dLc (dIter (dSl (dVar 5) (dPn) (dPs (dVar 2)))) (gN 7) (dYes) (dTup (dCons (dVar 7) (dCons (dOp rAddD (dC (.int 1)) (dCall sp__law_pull Ed0 (dCons (dVar 0) (dCons (dOp rIxD (dVar 1) (dC (.int 1))) (dNil))) [])) (dNil)))) [7]) (gN 6)) (dRet (dTup (dCons (dVar 6) (dCons (dSl (dVar 5) (dPs (dVar 2)) (dPs (dOp rAddD (dVar 2) (dVar 3)))) (dCons (dSl (dVar 5) (dPs (dOp rAddD (dVar 2) (dVar 3))) (dPn)) (dNil)))))))))
theorem r__law_plant (ds : List D) (G : GH) (Qd : DK) (Ed : DXK) (h : sp__law_plant ds G Qd Ed) : t__law_plant (rtX Ed) { nx := fun _ G' => rtF Qd .non G', rt := rtF Qd } (dstart N__law_plant ds) G := by
  obtain ⟨b, u, rfl, hu, hb, q⟩ := h
  have hz := size_ge
  simp only [t__law_plant, N__law_plant, Rows.spec, dVar, dC, dOp, dUn, dTest, dChain, dIsN, dNotN, isNo, dAnd, dOr, dNot, dAndV, dOrV, dNotV, dIf, dNil, dCons, dTup, dLst, dLstM, dNext, dSeq, dBreak, dCont, dDrop, dRet, dRetN, dIfS, gN, gsNil, gsCons, gTu, dAsg, gSubD, dPar, dPar3, dFor, dIter, dRng1, dRng2, dEnum, dZipB, dLc, dLcM, mkL, dCall, dFld, dMeth, dCB, dBM, rSubD, rMulD, rFdivD, rModD, rLtD, rLeD, rGtD, rGeD, rNegD, rEqDD, rNeDD, dSl, dPn, dPs, dRev, rIsiC, dStar, dJoined, dJs, gStar, dMake, mkD, dCMeth, dStore, dDGet, dDisp, dRaise, tyM, dstart, wipeD, List.map, List.replicate, List.cons_append, List.nil_append, List.length_cons, List.length_nil, List.set_cons_zero, List.set_cons_succ, List.getElem?_cons_zero, List.getElem?_cons_succ, Option.some.injEq, exists_eq_left, exists_eq_left', D.bl.injEq, D.int.injEq, D.str.injEq, D.tup.injEq, D.lst.injEq, List.cons.injEq, and_true, true_and, if_true, if_false, Bool.false_eq_true, Bool.not_true, Bool.not_false, Nat.reduceSub, Nat.reduceAdd, Nat.zero_add, isi_non, isi_bl, isi_int, isi_str, isi_tup, isi_lst, mt_bool, mt_int, mt_str, mt_list, mt_tuple, len_str, len_lst, len_tup, int_int, int_bl, int_str, str_int, top_int, top_str, top_bl, top_non, top_lst, top_tup, box_lst, box_tup, lst_lst, seq_lst, seq_tup, seq_str, eq_int, eq_str, ix_tup, ix_lst, ix_str, atD_0, atD_1, atD_2, in_sign, tyM, isT, String.reduceBEq, String.reduceEq, Bool.or_true, Bool.or_false, Bool.true_or, Bool.false_or, Bool.and_true, Bool.and_false, Bool.true_and, Bool.false_and, ix_refI, add_int, add_str, add_lst, sl_str, sl_lst, atD_3, atD_4, pow_int, DO.lst.injEq, D.ref.injEq, updG_same, lst_refI, box_refI, set_refI, int2I, app_refI, ext_refI, splitI, joinI, idxI, ixN_51, ixN_52, ixN_53, ixN_54, ixN_30, ixN_31, ixN_32, okD_intI, okD_blI, okD_nonI, DL.updG2, List.length_set, Option.some.injEq, decide_eq_true_eq, decide_true, decide_false]
  refine ⟨b, u, _, rfl, hb, by omega, by omega, fun m o1 hm b1 => ?_⟩
  simp only [dVar, dC, dOp, dUn, dTest, dChain, dIsN, dNotN, isNo, dAnd, dOr, dNot, dAndV, dOrV, dNotV, dIf, dNil, dCons, dTup, dLst, dLstM, dNext, dSeq, dBreak, dCont, dDrop, dRet, dRetN, dIfS, gN, gsNil, gsCons, gTu, dAsg, gSubD, dPar, dPar3, dFor, dIter, dRng1, dRng2, dEnum, dZipB, dLc, dLcM, mkL, dCall, dFld, dMeth, dCB, dBM, rSubD, rMulD, rFdivD, rModD, rLtD, rLeD, rGtD, rGeD, rNegD, rEqDD, rNeDD, dSl, dPn, dPs, dRev, rIsiC, dStar, dJoined, dJs, gStar, dMake, mkD, dCMeth, dStore, dDGet, dDisp, dRaise, tyM, dstart, wipeD, List.map, List.replicate, List.cons_append, List.nil_append, List.length_cons, List.length_nil, List.set_cons_zero, List.set_cons_succ, List.getElem?_cons_zero, List.getElem?_cons_succ, Option.some.injEq, exists_eq_left, exists_eq_left', D.bl.injEq, D.int.injEq, D.str.injEq, D.tup.injEq, D.lst.injEq, List.cons.injEq, and_true, true_and, if_true, if_false, Bool.false_eq_true, Bool.not_true, Bool.not_false, Nat.reduceSub, Nat.reduceAdd, Nat.zero_add, isi_non, isi_bl, isi_int, isi_str, isi_tup, isi_lst, mt_bool, mt_int, mt_str, mt_list, mt_tuple, len_str, len_lst, len_tup, int_int, int_bl, int_str, str_int, top_int, top_str, top_bl, top_non, top_lst, top_tup, box_lst, box_tup, lst_lst, seq_lst, seq_tup, seq_str, eq_int, eq_str, ix_tup, ix_lst, ix_str, atD_0, atD_1, atD_2, in_sign, tyM, isT, String.reduceBEq, String.reduceEq, Bool.or_true, Bool.or_false, Bool.true_or, Bool.false_or, Bool.and_true, Bool.and_false, Bool.true_and, Bool.false_and, ix_refI, add_int, add_str, add_lst, sl_str, sl_lst, atD_3, atD_4, pow_int, DO.lst.injEq, D.ref.injEq, updG_same, lst_refI, box_refI, set_refI, int2I, app_refI, ext_refI, splitI, joinI, idxI, ixN_51, ixN_52, ixN_53, ixN_54, ixN_30, ixN_31, ixN_32, okD_intI, okD_blI, okD_nonI, DL.updG2, List.length_set, Option.some.injEq, decide_eq_true_eq, decide_true, decide_false]
  refine ⟨b, u + 1, _, rfl, ⟨by omega, _, updG_same, b1⟩, by omega, by omega, fun fl o2 hf b2 => ?_⟩
  rw [DL.updG2]
  refine ⟨b, u + 1 + 1, _, rfl, ⟨by omega, _, updG_same, b2⟩, by omega, by omega, fun lv o3 hl b3 => ?_⟩
  rw [DL.updG2]
  refine ⟨_, _, ⟨rfl, rfl⟩, ?_⟩
  simp only [dVar, dC, dOp, dUn, dTest, dChain, dIsN, dNotN, isNo, dAnd, dOr, dNot, dAndV, dOrV, dNotV, dIf, dNil, dCons, dTup, dLst, dLstM, dNext, dSeq, dBreak, dCont, dDrop, dRet, dRetN, dIfS, gN, gsNil, gsCons, gTu, dAsg, gSubD, dPar, dPar3, dFor, dIter, dRng1, dRng2, dEnum, dZipB, dLc, dLcM, mkL, dCall, dFld, dMeth, dCB, dBM, rSubD, rMulD, rFdivD, rModD, rLtD, rLeD, rGtD, rGeD, rNegD, rEqDD, rNeDD, dSl, dPn, dPs, dRev, rIsiC, dStar, dJoined, dJs, gStar, dMake, mkD, dCMeth, dStore, dDGet, dDisp, dRaise, tyM, dstart, wipeD, List.map, List.replicate, List.cons_append, List.nil_append, List.length_cons, List.length_nil, List.set_cons_zero, List.set_cons_succ, List.getElem?_cons_zero, List.getElem?_cons_succ, Option.some.injEq, exists_eq_left, exists_eq_left', D.bl.injEq, D.int.injEq, D.str.injEq, D.tup.injEq, D.lst.injEq, List.cons.injEq, and_true, true_and, if_true, if_false, Bool.false_eq_true, Bool.not_true, Bool.not_false, Nat.reduceSub, Nat.reduceAdd, Nat.zero_add, isi_non, isi_bl, isi_int, isi_str, isi_tup, isi_lst, mt_bool, mt_int, mt_str, mt_list, mt_tuple, len_str, len_lst, len_tup, int_int, int_bl, int_str, str_int, top_int, top_str, top_bl, top_non, top_lst, top_tup, box_lst, box_tup, lst_lst, seq_lst, seq_tup, seq_str, eq_int, eq_str, ix_tup, ix_lst, ix_str, atD_0, atD_1, atD_2, in_sign, tyM, isT, String.reduceBEq, String.reduceEq, Bool.or_true, Bool.or_false, Bool.true_or, Bool.false_or, Bool.and_true, Bool.and_false, Bool.true_and, Bool.false_and, ix_refI, add_int, add_str, add_lst, sl_str, sl_lst, atD_3, atD_4, pow_int, DO.lst.injEq, D.ref.injEq, updG_same, lst_refI, box_refI, set_refI, int2I, app_refI, ext_refI, splitI, joinI, idxI, ixN_51, ixN_52, ixN_53, ixN_54, ixN_30, ixN_31, ixN_32, okD_intI, okD_blI, okD_nonI, DL.updG2, List.length_set, Option.some.injEq, decide_eq_true_eq, decide_true, decide_false]
  refine ⟨b, u + 1 + 1 + 1, 1 + m + fl + lv, by simp, by omega, ⟨by omega, _, updG_same, b3⟩, by omega, fun ws o4 hw hnd hok b4 => ?_⟩
  rw [DL.updG2]
  refine ⟨_, rfl, ?_⟩
  have e1 : (1 : Int) + m = ((1 + m : Nat) : Int) := by omega
  have e2 : (1 : Int) + m + fl = ((1 + m + fl : Nat) : Int) := by omega
  have e3 : ((1 + m : Nat) : Int) + fl = ((1 + m + fl : Nat) : Int) := by omega
  simp only [e1, e3, dVar, dC, dOp, dUn, dTest, dChain, dIsN, dNotN, isNo, dAnd, dOr, dNot, dAndV, dOrV, dNotV, dIf, dNil, dCons, dTup, dLst, dLstM, dNext, dSeq, dBreak, dCont, dDrop, dRet, dRetN, dIfS, gN, gsNil, gsCons, gTu, dAsg, gSubD, dPar, dPar3, dFor, dIter, dRng1, dRng2, dEnum, dZipB, dLc, dLcM, mkL, dCall, dFld, dMeth, dCB, dBM, rSubD, rMulD, rFdivD, rModD, rLtD, rLeD, rGtD, rGeD, rNegD, rEqDD, rNeDD, dSl, dPn, dPs, dRev, rIsiC, dStar, dJoined, dJs, gStar, dMake, mkD, dCMeth, dStore, dDGet, dDisp, dRaise, tyM, dstart, wipeD, List.map, List.replicate, List.cons_append, List.nil_append, List.length_cons, List.length_nil, List.set_cons_zero, List.set_cons_succ, List.getElem?_cons_zero, List.getElem?_cons_succ, Option.some.injEq, exists_eq_left, exists_eq_left', D.bl.injEq, D.int.injEq, D.str.injEq, D.tup.injEq, D.lst.injEq, List.cons.injEq, and_true, true_and, if_true, if_false, Bool.false_eq_true, Bool.not_true, Bool.not_false, Nat.reduceSub, Nat.reduceAdd, Nat.zero_add, isi_non, isi_bl, isi_int, isi_str, isi_tup, isi_lst, mt_bool, mt_int, mt_str, mt_list, mt_tuple, len_str, len_lst, len_tup, int_int, int_bl, int_str, str_int, top_int, top_str, top_bl, top_non, top_lst, top_tup, box_lst, box_tup, lst_lst, seq_lst, seq_tup, seq_str, eq_int, eq_str, ix_tup, ix_lst, ix_str, atD_0, atD_1, atD_2, in_sign, tyM, isT, String.reduceBEq, String.reduceEq, Bool.or_true, Bool.or_false, Bool.true_or, Bool.false_or, Bool.and_true, Bool.and_false, Bool.true_and, Bool.false_and, ix_refI, add_int, add_str, add_lst, sl_str, sl_lst, atD_3, atD_4, pow_int, DO.lst.injEq, D.ref.injEq, updG_same, lst_refI, box_refI, set_refI, int2I, app_refI, ext_refI, splitI, joinI, idxI, ixN_51, ixN_52, ixN_53, ixN_54, ixN_30, ixN_31, ixN_32, okD_intI, okD_blI, okD_nonI, DL.updG2, List.length_set, Option.some.injEq, decide_eq_true_eq, decide_true, decide_false, cut_to, cut_from, cut_mid]
  simp only [← List.map_take, ← List.map_drop]
  refine lcGo_inv (fun rem acc G1 => ∃ (vs : List (List Nat × Int)) (o : DO) (v : Nat), ws.take (1 + m) = vs.map (·.1) ++ rem ∧ acc = vs.map vatD ∧ G1 = updG G b o ∧ Bag v o ∧ v + rem.length ≤ u + 20 ∧ ∀ p ∈ vs, 1 ≤ p.2 ∧ p.2 ≤ 6)
    (fun w rem acc G1 ⟨vs, o, v, h1, h2, h3, h4, h5, h6⟩ => ⟨trivial, fun K hK => ?_⟩) (fun acc G1 ⟨vs, o, v, h1, h2, h3, h4, h5, h6⟩ => ⟨trivial, ?_⟩) (ws.take (1 + m)) [] (updG G b o4) ⟨[], o4, _, rfl, rfl, rfl, b4, by simp; omega, by simp⟩
  · subst h2 h3
    have hvl : vs.length ≤ 10 := by
      have := congrArg List.length h1
      simp at this
      omega
    simp only [dVar, dC, dOp, dUn, dTest, dChain, dIsN, dNotN, isNo, dAnd, dOr, dNot, dAndV, dOrV, dNotV, dIf, dNil, dCons, dTup, dLst, dLstM, dNext, dSeq, dBreak, dCont, dDrop, dRet, dRetN, dIfS, gN, gsNil, gsCons, gTu, dAsg, gSubD, dPar, dPar3, dFor, dIter, dRng1, dRng2, dEnum, dZipB, dLc, dLcM, mkL, dCall, dFld, dMeth, dCB, dBM, rSubD, rMulD, rFdivD, rModD, rLtD, rLeD, rGtD, rGeD, rNegD, rEqDD, rNeDD, dSl, dPn, dPs, dRev, rIsiC, dStar, dJoined, dJs, gStar, dMake, mkD, dCMeth, dStore, dDGet, dDisp, dRaise, tyM, dstart, wipeD, List.map, List.replicate, List.cons_append, List.nil_append, List.length_cons, List.length_nil, List.set_cons_zero, List.set_cons_succ, List.getElem?_cons_zero, List.getElem?_cons_succ, Option.some.injEq, exists_eq_left, exists_eq_left', D.bl.injEq, D.int.injEq, D.str.injEq, D.tup.injEq, D.lst.injEq, List.cons.injEq, and_true, true_and, if_true, if_false, Bool.false_eq_true, Bool.not_true, Bool.not_false, Nat.reduceSub, Nat.reduceAdd, Nat.zero_add, isi_non, isi_bl, isi_int, isi_str, isi_tup, isi_lst, mt_bool, mt_int, mt_str, mt_list, mt_tuple, len_str, len_lst, len_tup, int_int, int_bl, int_str, str_int, top_int, top_str, top_bl, top_non, top_lst, top_tup, box_lst, box_tup, lst_lst, seq_lst, seq_tup, seq_str, eq_int, eq_str, ix_tup, ix_lst, ix_str, atD_0, atD_1, atD_2, in_sign, tyM, isT, String.reduceBEq, String.reduceEq, Bool.or_true, Bool.or_false, Bool.true_or, Bool.false_or, Bool.and_true, Bool.and_false, Bool.true_and, Bool.false_and, ix_refI, add_int, add_str, add_lst, sl_str, sl_lst, atD_3, atD_4, pow_int, DO.lst.injEq, D.ref.injEq, updG_same, lst_refI, box_refI, set_refI, int2I, app_refI, ext_refI, splitI, joinI, idxI, ixN_51, ixN_52, ixN_53, ixN_54, ixN_30, ixN_31, ixN_32, okD_intI, okD_blI, okD_nonI, DL.updG2, List.length_set, Option.some.injEq, decide_eq_true_eq, decide_true, decide_false, dYes]
    simp only [List.length_cons] at h5
    refine ⟨b, v, _, rfl, ⟨by omega, _, updG_same, h4⟩, by omega, by omega, fun i o5 hi b5 => ?_⟩
    simp only [dVar, dC, dOp, dUn, dTest, dChain, dIsN, dNotN, isNo, dAnd, dOr, dNot, dAndV, dOrV, dNotV, dIf, dNil, dCons, dTup, dLst, dLstM, dNext, dSeq, dBreak, dCont, dDrop, dRet, dRetN, dIfS, gN, gsNil, gsCons, gTu, dAsg, gSubD, dPar, dPar3, dFor, dIter, dRng1, dRng2, dEnum, dZipB, dLc, dLcM, mkL, dCall, dFld, dMeth, dCB, dBM, rSubD, rMulD, rFdivD, rModD, rLtD, rLeD, rGtD, rGeD, rNegD, rEqDD, rNeDD, dSl, dPn, dPs, dRev, rIsiC, dStar, dJoined, dJs, gStar, dMake, mkD, dCMeth, dStore, dDGet, dDisp, dRaise, tyM, dstart, wipeD, List.map, List.replicate, List.cons_append, List.nil_append, List.length_cons, List.length_nil, List.set_cons_zero, List.set_cons_succ, List.getElem?_cons_zero, List.getElem?_cons_succ, Option.some.injEq, exists_eq_left, exists_eq_left', D.bl.injEq, D.int.injEq, D.str.injEq, D.tup.injEq, D.lst.injEq, List.cons.injEq, and_true, true_and, if_true, if_false, Bool.false_eq_true, Bool.not_true, Bool.not_false, Nat.reduceSub, Nat.reduceAdd, Nat.zero_add, isi_non, isi_bl, isi_int, isi_str, isi_tup, isi_lst, mt_bool, mt_int, mt_str, mt_list, mt_tuple, len_str, len_lst, len_tup, int_int, int_bl, int_str, str_int, top_int, top_str, top_bl, top_non, top_lst, top_tup, box_lst, box_tup, lst_lst, seq_lst, seq_tup, seq_str, eq_int, eq_str, ix_tup, ix_lst, ix_str, atD_0, atD_1, atD_2, in_sign, tyM, isT, String.reduceBEq, String.reduceEq, Bool.or_true, Bool.or_false, Bool.true_or, Bool.false_or, Bool.and_true, Bool.and_false, Bool.true_and, Bool.false_and, ix_refI, add_int, add_str, add_lst, sl_str, sl_lst, atD_3, atD_4, pow_int, DO.lst.injEq, D.ref.injEq, updG_same, lst_refI, box_refI, set_refI, int2I, app_refI, ext_refI, splitI, joinI, idxI, ixN_51, ixN_52, ixN_53, ixN_54, ixN_30, ixN_31, ixN_32, okD_intI, okD_blI, okD_nonI, DL.updG2, List.length_set, Option.some.injEq, decide_eq_true_eq, decide_true, decide_false]
    refine ⟨by omega, by simp; omega, hK _ _ ⟨vs ++ [(w, 1 + (i : Int))], o5, v + 1, by simp [h1], by simp, rfl, b5, by omega, fun p hp => ?_⟩⟩
    rcases List.mem_append.mp hp with hp | hp
    · exact h6 p hp
    · rw [List.mem_singleton.mp hp]
      exact ⟨by show 1 ≤ 1 + (i : Int); omega, by show 1 + (i : Int) ≤ 6; omega⟩
  · subst h2 h3
    rw [List.append_nil] at h1
    have hn : (⟨vs, (ws.take (1 + m + fl)).drop (1 + m), ws.drop (1 + m + fl)⟩ : Rows).names = ws := by
      show vs.map (·.1) ++ ((ws.take (1 + m + fl)).drop (1 + m) ++ ws.drop (1 + m + fl)) = ws
      rw [← h1, ← List.append_assoc]
      have e5 : ws.take (1 + m) = (ws.take (1 + m + fl)).take (1 + m) := by rw [List.take_take]; congr 1; omega
      rw [e5, List.take_append_drop, List.take_append_drop]
    have hvl : vs.length = 1 + m := by
      have := congrArg List.length h1
      simp at this
      omega
    refine ⟨by decide, rtF_id (q ⟨vs, (ws.take (1 + m + fl)).drop (1 + m), ws.drop (1 + m + fl)⟩ o ⟨⟨by show vs.length ≤ 4; omega, by simp; omega, by simp; omega, h6, ?_, ?_⟩, fun z => ?_⟩ (h4.mono (by simp at h5; omega)))⟩
    · rw [hn]; exact hok
    · rw [hn]; exact hnd
    · have z' : vs = [] := z
      have z2 : vs.length = 0 := by rw [z']; rfl
      omega
def sp__law_made_plant : DSp := fun ds G Q E => ∃ r : Rows, ds = [r.spec] ∧ r.good ∧ Q (.obj "Plant" r.fs) G
theorem l__law_made_plant {ds G Q Ed} (h : sp__law_made_plant ds G Q Ed) : ds.length = 1 := by
  obtain ⟨_, rfl, _⟩ := h; rfl
abbrev N__law_made_plant : List Str := ["_law_spec"]
def t__law_made_plant (Ed : DXK) : DTS := dRet (dMake "Plant" sp_Plant___init__ Ed (dC (.cls "Plant")) (dCons (dCB rListD (dCons (dOp rIxD (dVar 0) (dC (.int 0))) (dNil))) (dNil)) (dCons (dCB rListD (dCons (dOp rIxD (dVar 0) (dC (.int 1))) (dNil))) (dCons (dCB rListD (dCons (dOp rIxD (dVar 0) (dC (.int 2))) (dNil))) (dNil))) 1 2 mkD)
theorem r__law_made_plant (ds : List D) (G : GH) (Qd : DK) (Ed : DXK) (h : sp__law_made_plant ds G Qd Ed) : t__law_made_plant (rtX Ed) { nx := fun _ G' => rtF Qd .non G', rt := rtF Qd } (dstart N__law_made_plant ds) G := by
  obtain ⟨r, rfl, hg, q⟩ := h
  simp only [t__law_made_plant, N__law_made_plant, Rows.spec, dVar, dC, dOp, dUn, dTest, dChain, dIsN, dNotN, isNo, dAnd, dOr, dNot, dAndV, dOrV, dNotV, dIf, dNil, dCons, dTup, dLst, dLstM, dNext, dSeq, dBreak, dCont, dDrop, dRet, dRetN, dIfS, gN, gsNil, gsCons, gTu, dAsg, gSubD, dPar, dPar3, dFor, dIter, dRng1, dRng2, dEnum, dZipB, dLc, dLcM, mkL, dCall, dFld, dMeth, dCB, dBM, rSubD, rMulD, rFdivD, rModD, rLtD, rLeD, rGtD, rGeD, rNegD, rEqDD, rNeDD, dSl, dPn, dPs, dRev, rIsiC, dStar, dJoined, dJs, gStar, dMake, mkD, dCMeth, dStore, dDGet, dDisp, dRaise, tyM, dstart, wipeD, List.map, List.replicate, List.cons_append, List.nil_append, List.length_cons, List.length_nil, List.set_cons_zero, List.set_cons_succ, List.getElem?_cons_zero, List.getElem?_cons_succ, Option.some.injEq, exists_eq_left, exists_eq_left', D.bl.injEq, D.int.injEq, D.str.injEq, D.tup.injEq, D.lst.injEq, List.cons.injEq, and_true, true_and, if_true, if_false, Bool.false_eq_true, Bool.not_true, Bool.not_false, Nat.reduceSub, Nat.reduceAdd, Nat.zero_add, isi_non, isi_bl, isi_int, isi_str, isi_tup, isi_lst, mt_bool, mt_int, mt_str, mt_list, mt_tuple, len_str, len_lst, len_tup, int_int, int_bl, int_str, str_int, top_int, top_str, top_bl, top_non, top_lst, top_tup, box_lst, box_tup, lst_lst, seq_lst, seq_tup, seq_str, eq_int, eq_str, ix_tup, ix_lst, ix_str, atD_0, atD_1, atD_2, in_sign, tyM, isT, String.reduceBEq, String.reduceEq, Bool.or_true, Bool.or_false, Bool.true_or, Bool.false_or, Bool.and_true, Bool.and_false, Bool.true_and, Bool.false_and, ix_refI, add_int, add_str, add_lst, sl_str, sl_lst, atD_3, atD_4, pow_int, DO.lst.injEq, D.ref.injEq, updG_same, lst_refI, box_refI, set_refI, int2I, app_refI, ext_refI, splitI, joinI, idxI, ixN_51, ixN_52, ixN_53, ixN_54, ixN_30, ixN_31, ixN_32, okD_intI, okD_blI, okD_nonI, DL.updG2, List.length_set, Option.some.injEq, decide_eq_true_eq, decide_true, decide_false]
  exact list_r rfl (list_r rfl (list_r rfl fun x hx => ⟨x, r, rfl, updG_same, hg, rfl, rt_ins hx updG2 q⟩))
def kindD : D → Option Nat
  | .non => some 0
  | .bl _ => some 1
  | .int _ => some 2
  | .str _ => some 3
  | .lst _ => some 4
  | .tup _ => some 5
  | _ => none
def sp__law_kind : DSp := fun ds G Q E => ∃ d k, ds = [d] ∧ kindD d = some k ∧ Q (.int k) G
theorem l__law_kind {ds G Q Ed} (h : sp__law_kind ds G Q Ed) : ds.length = 1 := by
  obtain ⟨_, _, rfl, _⟩ := h; rfl
abbrev N__law_kind : List Str := ["_law_thing", "_law_marks"]
def t__law_kind (Ed : DXK) : DTS := dSeq (dAsg (dLst (dCons (dIsN (dVar 0)) (dCons (dCB rIsiD (dCons (dVar 0) (dCons (dC (.ty "bool")) (dNil)))) (dCons (dCB rIsiD (dCons (dVar 0) (dCons (dC (.ty "int")) (dNil)))) (dCons (dCB rIsiD (dCons (dVar 0) (dCons (dC (.ty "str")) (dNil)))) (dNil)))))) (gN 1)) (dSeq (dAsg (dOp rAddD (dVar 1) (dLst (dCons (dCB rIsiD (dCons (dVar 0) (dCons (dC (.ty "list")) (dNil)))) (dCons (dCB rIsiD (dCons (dVar 0) (dCons (dC (.ty "tuple")) (dNil)))) (dCons (dC (.bl true)) (dNil)))))) (gN 1)) (dRet (dBM "list" rIdxD (dVar 1) (dCons (dC (.bl true)) (dNil)))))
theorem r__law_kind (ds : List D) (G : GH) (Qd : DK) (Ed : DXK) (h : sp__law_kind ds G Qd Ed) : t__law_kind (rtX Ed) { nx := fun _ G' => rtF Qd .non G', rt := rtF Qd } (dstart N__law_kind ds) G := by
  obtain ⟨d, k, rfl, hk, q⟩ := h
  have q := rtF_id q
  cases d <;> simp only [kindD, Option.some.injEq, reduceCtorEq] at hk <;> subst hk <;> simp only [t__law_kind, N__law_kind, dVar, dC, dOp, dUn, dTest, dChain, dIsN, dNotN, isNo, dAnd, dOr, dNot, dAndV, dOrV, dNotV, dIf, dNil, dCons, dTup, dLst, dLstM, dNext, dSeq, dBreak, dCont, dDrop, dRet, dRetN, dIfS, gN, gsNil, gsCons, gTu, dAsg, gSubD, dPar, dPar3, dFor, dIter, dRng1, dRng2, dEnum, dZipB, dLc, dLcM, mkL, dCall, dFld, dMeth, dCB, dBM, rSubD, rMulD, rFdivD, rModD, rLtD, rLeD, rGtD, rGeD, rNegD, rEqDD, rNeDD, dSl, dPn, dPs, dRev, rIsiC, dStar, dJoined, dJs, gStar, dMake, mkD, dCMeth, dStore, dDGet, dDisp, dRaise, tyM, dstart, wipeD, List.map, List.replicate, List.cons_append, List.nil_append, List.length_cons, List.length_nil, List.set_cons_zero, List.set_cons_succ, List.getElem?_cons_zero, List.getElem?_cons_succ, Option.some.injEq, exists_eq_left, exists_eq_left', D.bl.injEq, D.int.injEq, D.str.injEq, D.tup.injEq, D.lst.injEq, List.cons.injEq, and_true, true_and, if_true, if_false, Bool.false_eq_true, Bool.not_true, Bool.not_false, Nat.reduceSub, Nat.reduceAdd, Nat.zero_add, isi_non, isi_bl, isi_int, isi_str, isi_tup, isi_lst, mt_bool, mt_int, mt_str, mt_list, mt_tuple, len_str, len_lst, len_tup, int_int, int_bl, int_str, str_int, top_int, top_str, top_bl, top_non, top_lst, top_tup, box_lst, box_tup, lst_lst, seq_lst, seq_tup, seq_str, eq_int, eq_str, ix_tup, ix_lst, ix_str, atD_0, atD_1, atD_2, in_sign, tyM, isT, String.reduceBEq, String.reduceEq, Bool.or_true, Bool.or_false, Bool.true_or, Bool.false_or, Bool.and_true, Bool.and_false, Bool.true_and, Bool.false_and, ix_refI, add_int, add_str, add_lst, sl_str, sl_lst, atD_3, atD_4, pow_int, DO.lst.injEq, D.ref.injEq, updG_same, lst_refI, box_refI, set_refI, int2I, app_refI, ext_refI, splitI, joinI, idxI, ixN_51, ixN_52, ixN_53, ixN_54, ixN_30, ixN_31, ixN_32, okD_intI, okD_blI, okD_nonI, DL.updG2, List.length_set, Option.some.injEq, decide_eq_true_eq, decide_true, decide_false]
  all_goals exact ⟨by decide, by decide, by decide, by exact ⟨_, rfl⟩, by decide, _, rfl, q⟩
def Flat : Nat → D → Prop
  | _, .non => True
  | _, .bl _ => True
  | _, .int _ => True
  | _, .str s => ∀ c ∈ s, c < 256
  | n + 1, .lst xs => xs.length ≤ 1000 ∧ ∀ x ∈ xs, Flat n x
  | n + 1, .tup xs => xs.length ≤ 1000 ∧ ∀ x ∈ xs, Flat n x
  | _, _ => False
def sp__law_same : Nat → DSp
  | 0 => fun _ _ _ _ => False
  | n + 1 => fun ds G Q E => ∃ x y, ds = [x, y] ∧ Flat n x ∧ Flat n y ∧ ∀ b : Bool, (b = true ↔ x = y) → Q (.bl b) G
theorem l__law_same {n : Nat} {ds G Q Ed} (h : (sp__law_same (n + 1)) ds G Q Ed) : ds.length = 2 := by
  obtain ⟨_, _, rfl, _⟩ := h; rfl
abbrev N__law_same : List Str := ["_law_found", "_law_due", "_law_a", "_law_b"]
def t__law_same (n : Nat) (Ed : DXK) : DTS := dSeq (dIfS (dTest (dOp rNeDD (dCall sp__law_kind Ed (dCons (dVar 0) (dNil)) []) (dCall sp__law_kind Ed (dCons (dVar 1) (dNil)) []))) (dRet (dC (.bl false))) (dNext)) (dSeq (dIfS (dTest (dOp (rInD false) (dCall sp__law_kind Ed (dCons (dVar 1) (dNil)) []) (dTup (dCons (dC (.int 4)) (dCons (dC (.int 5)) (dNil)))))) (dRet (dAndV (dOp rEqDD (dCB rLenD (dCons (dVar 0) (dNil))) (dCB rLenD (dCons (dVar 1) (dNil)))) (dCB rAllD (dCons (dLc (dZipB (dCons (dVar 0) (dCons (dVar 1) (dNil)))) (gTu 2 (gsCons (gN 2) (gsCons (gN 3) (gsNil)))) (dYes) (dCall (sp__law_same n) Ed0 (dCons (dVar 2) (dCons (dVar 3) (dNil))) []) [2, 3]) (dNil))))) (dNext)) (dRet (dOp rEqDD (dVar 0) (dVar 1))))
theorem flat_kind {n : Nat} {x : D} (h : Flat n x) : ∃ k, kindD x = some k ∧ k ≤ 5 ∧ (k = 4 ∨ k = 5 → (∃ xs, (x = .lst xs ∧ k = 4 ∨ x = .tup xs ∧ k = 5) ∧ ∃ m, n = m + 1 ∧ xs.length ≤ 1000 ∧ ∀ x ∈ xs, Flat m x)) := by
  cases x with
  | non => exact ⟨0, rfl, by omega, by omega⟩
  | bl b => exact ⟨1, rfl, by omega, by omega⟩
  | int b => exact ⟨2, rfl, by omega, by omega⟩
  | str b => exact ⟨3, rfl, by omega, by omega⟩
  | lst xs => cases n with
    | zero => exact absurd h (by simp [Flat])
    | succ m => exact ⟨4, rfl, by omega, fun _ => ⟨xs, .inl ⟨rfl, rfl⟩, m, rfl, h⟩⟩
  | tup xs => cases n with
    | zero => exact absurd h (by simp [Flat])
    | succ m => exact ⟨5, rfl, by omega, fun _ => ⟨xs, .inr ⟨rfl, rfl⟩, m, rfl, h⟩⟩
  | _ => exact absurd h (by cases n <;> simp [Flat])
theorem kind_eq {x : D} {k : Nat} (h : kindD x = some k) (hk : ¬ (k = 4 ∨ k = 5)) {n : Nat} (f : Flat n x) : okD x := by
  cases x <;> simp [kindD] at h <;> first | rfl | (subst h; omega) | skip
  case str s =>
    have : ∀ c ∈ s, c < 256 := by cases n <;> exact f
    exact ok_str this
theorem zip_lc {m : Nat} {ok : GH → Prop} {Q : DK} {G : GH} {x y : D} {xs ys : List D} (hok : ok G) (hl : xs.length = ys.length) (h1 : xs.length ≤ 1000) (fx : ∀ x ∈ xs, Flat m x) (fy : ∀ y ∈ ys, Flat m y) (q : ∀ bs : List Bool, ((bs.all fun b => b) = true ↔ xs = ys) → Q (.lst (bs.map .bl)) G) :
    lcGo (gTu 2 (gsCons (gN 2) (gsCons (gN 3) gsNil))) dYes (dCall (sp__law_same (m + 1)) Ed0 (dCons (dVar 2) (dCons (dVar 3) dNil)) []) [some x, some y, none, none] ok Q (zipD xs ys) [] G := by
  have hz := size_ge
  refine lcGo_inv (k := fun p : D × D => D.tup [p.1, p.2]) (fun rem acc G1 => G1 = G ∧ ∃ (dn : List (D × D)) (bs : List Bool), xs.zip ys = dn ++ rem ∧ acc = bs.map .bl ∧ bs.length = dn.length ∧ ((bs.all fun b => b) = true ↔ ∀ p ∈ dn, p.1 = p.2))
    (fun p rem acc G1 ⟨e1, dn, bs, h3, h4, h5, h6⟩ => ?_) (fun acc G1 ⟨e1, dn, bs, h3, h4, h5, h6⟩ => ?_) (xs.zip ys) [] G ⟨rfl, [], [], rfl, rfl, rfl, by simp⟩
  · subst e1 h4
    refine ⟨hok, fun K hK => ?_⟩
    have hp : p ∈ xs.zip ys := by rw [h3]; simp
    have hp1 := List.of_mem_zip hp
    have hlen : bs.length < 1000 := by
      have := congrArg List.length h3
      simp at this
      omega
    simp only [dVar, dC, dOp, dUn, dTest, dChain, dIsN, dNotN, isNo, dAnd, dOr, dNot, dAndV, dOrV, dNotV, dIf, dNil, dCons, dTup, dLst, dLstM, dNext, dSeq, dBreak, dCont, dDrop, dRet, dRetN, dIfS, gN, gsNil, gsCons, gTu, dAsg, gSubD, dPar, dPar3, dFor, dIter, dRng1, dRng2, dEnum, dZipB, dLc, dLcM, mkL, dCall, dFld, dMeth, dCB, dBM, rSubD, rMulD, rFdivD, rModD, rLtD, rLeD, rGtD, rGeD, rNegD, rEqDD, rNeDD, dSl, dPn, dPs, dRev, rIsiC, dStar, dJoined, dJs, gStar, dMake, mkD, dCMeth, dStore, dDGet, dDisp, dRaise, tyM, dstart, wipeD, List.map, List.replicate, List.cons_append, List.nil_append, List.length_cons, List.length_nil, List.set_cons_zero, List.set_cons_succ, List.getElem?_cons_zero, List.getElem?_cons_succ, Option.some.injEq, exists_eq_left, exists_eq_left', D.bl.injEq, D.int.injEq, D.str.injEq, D.tup.injEq, D.lst.injEq, List.cons.injEq, and_true, true_and, if_true, if_false, Bool.false_eq_true, Bool.not_true, Bool.not_false, Nat.reduceSub, Nat.reduceAdd, Nat.zero_add, isi_non, isi_bl, isi_int, isi_str, isi_tup, isi_lst, mt_bool, mt_int, mt_str, mt_list, mt_tuple, len_str, len_lst, len_tup, int_int, int_bl, int_str, str_int, top_int, top_str, top_bl, top_non, top_lst, top_tup, box_lst, box_tup, lst_lst, seq_lst, seq_tup, seq_str, eq_int, eq_str, ix_tup, ix_lst, ix_str, atD_0, atD_1, atD_2, in_sign, tyM, isT, String.reduceBEq, String.reduceEq, Bool.or_true, Bool.or_false, Bool.true_or, Bool.false_or, Bool.and_true, Bool.and_false, Bool.true_and, Bool.false_and, ix_refI, add_int, add_str, add_lst, sl_str, sl_lst, atD_3, atD_4, pow_int, DO.lst.injEq, D.ref.injEq, updG_same, lst_refI, box_refI, set_refI, int2I, app_refI, ext_refI, splitI, joinI, idxI, ixN_51, ixN_52, ixN_53, ixN_54, ixN_30, ixN_31, ixN_32, okD_intI, okD_blI, okD_nonI, DL.updG2, List.length_set, Option.some.injEq, decide_eq_true_eq, decide_true, decide_false, dYes]
    refine ⟨_, _, ⟨rfl, rfl⟩, _, _, rfl, rfl, p.1, p.2, rfl, fx _ hp1.1, fy _ hp1.2, fun b hb => ⟨by simp; omega, hK _ _ ⟨rfl, dn ++ [p], bs ++ [b], by simp [h3], by simp, by simp [h5], ?_⟩⟩⟩
    rw [List.all_append, Bool.and_eq_true, h6]
    constructor
    · intro ⟨a, c⟩ z hz
      rcases List.mem_append.mp hz with hz | hz
      · exact a z hz
      · rw [List.mem_singleton.mp hz]
        exact hb.mp (by simpa using c)
    · intro a
      exact ⟨fun z hz => a z (by simp [hz]), by simpa using hb.mpr (a p (by simp))⟩
  · subst e1 h4
    refine ⟨hok, q bs ?_⟩
    rw [List.append_nil] at h3
    rw [h6, ← h3]
    constructor
    · intro a
      apply List.ext_getElem hl
      intro i hi hj
      exact a (xs[i], ys[i]) (List.mem_iff_getElem.mpr ⟨i, by simp; omega, by simp⟩)
    · intro e
      subst e
      intro p hp
      obtain ⟨i, hi, e⟩ := List.mem_iff_getElem.mp hp
      rw [List.getElem_zip] at e
      rw [← e]
theorem r__law_same (n : Nat) (ds : List D) (G : GH) (Qd : DK) (Ed : DXK) (h : sp__law_same (n + 1) ds G Qd Ed) : t__law_same n (rtX Ed) { nx := fun _ G' => rtF Qd .non G', rt := rtF Qd } (dstart N__law_same ds) G := by
  obtain ⟨x, y, rfl, hx, hy, q⟩ := h
  have hz := size_ge
  have q : ∀ b : Bool, (b = true ↔ x = y) → rtF Qd (.bl b) G := fun b hb => rtF_id (q b hb)
  obtain ⟨kx, k1, k2, k3⟩ := flat_kind hx
  obtain ⟨ky, m1, m2, m3⟩ := flat_kind hy
  simp only [t__law_same, N__law_same, dVar, dC, dOp, dUn, dTest, dChain, dIsN, dNotN, isNo, dAnd, dOr, dNot, dAndV, dOrV, dNotV, dIf, dNil, dCons, dTup, dLst, dLstM, dNext, dSeq, dBreak, dCont, dDrop, dRet, dRetN, dIfS, gN, gsNil, gsCons, gTu, dAsg, gSubD, dPar, dPar3, dFor, dIter, dRng1, dRng2, dEnum, dZipB, dLc, dLcM, mkL, dCall, dFld, dMeth, dCB, dBM, rSubD, rMulD, rFdivD, rModD, rLtD, rLeD, rGtD, rGeD, rNegD, rEqDD, rNeDD, dSl, dPn, dPs, dRev, rIsiC, dStar, dJoined, dJs, gStar, dMake, mkD, dCMeth, dStore, dDGet, dDisp, dRaise, tyM, dstart, wipeD, List.map, List.replicate, List.cons_append, List.nil_append, List.length_cons, List.length_nil, List.set_cons_zero, List.set_cons_succ, List.getElem?_cons_zero, List.getElem?_cons_succ, Option.some.injEq, exists_eq_left, exists_eq_left', D.bl.injEq, D.int.injEq, D.str.injEq, D.tup.injEq, D.lst.injEq, List.cons.injEq, and_true, true_and, if_true, if_false, Bool.false_eq_true, Bool.not_true, Bool.not_false, Nat.reduceSub, Nat.reduceAdd, Nat.zero_add, isi_non, isi_bl, isi_int, isi_str, isi_tup, isi_lst, mt_bool, mt_int, mt_str, mt_list, mt_tuple, len_str, len_lst, len_tup, int_int, int_bl, int_str, str_int, top_int, top_str, top_bl, top_non, top_lst, top_tup, box_lst, box_tup, lst_lst, seq_lst, seq_tup, seq_str, eq_int, eq_str, ix_tup, ix_lst, ix_str, atD_0, atD_1, atD_2, in_sign, tyM, isT, String.reduceBEq, String.reduceEq, Bool.or_true, Bool.or_false, Bool.true_or, Bool.false_or, Bool.and_true, Bool.and_false, Bool.true_and, Bool.false_and, ix_refI, add_int, add_str, add_lst, sl_str, sl_lst, atD_3, atD_4, pow_int, DO.lst.injEq, D.ref.injEq, updG_same, lst_refI, box_refI, set_refI, int2I, app_refI, ext_refI, splitI, joinI, idxI, ixN_51, ixN_52, ixN_53, ixN_54, ixN_30, ixN_31, ixN_32, okD_intI, okD_blI, okD_nonI, DL.updG2, List.length_set, Option.some.injEq, decide_eq_true_eq, decide_true, decide_false]
  refine ⟨x, kx, rfl, k1, y, ky, rfl, m1, rfl, rfl, ?_⟩
  simp only [top_int, eq_int]
  by_cases hk : kx = ky
  · subst hk
    rw [if_neg (by simp)]
    refine ⟨y, kx, rfl, m1, by decide, ?_⟩
    by_cases h45 : kx = 4 ∨ kx = 5
    · obtain ⟨xs, hxs, m, rfl, xl, xf⟩ := k3 h45
      obtain ⟨ys, hys, m', e', yl, yf⟩ := m3 h45
      cases e'
      have hin : ∀ Q : DK, Q (.bl true) G → rInD false (.int kx) (.tup [.int 4, .int 5]) G Q := fun Q hQ => by
        rcases h45 with rfl | rfl <;> exact ⟨_, rfl, rfl, rfl, hQ⟩
      refine hin _ ⟨_, rfl, ?_⟩
      rw [if_pos rfl]
      rcases hxs with ⟨rfl, h4⟩ | ⟨rfl, h5⟩
      · rcases hys with ⟨rfl, _⟩ | ⟨_, h6⟩
        · simp only [dVar, dC, dOp, dUn, dTest, dChain, dIsN, dNotN, isNo, dAnd, dOr, dNot, dAndV, dOrV, dNotV, dIf, dNil, dCons, dTup, dLst, dLstM, dNext, dSeq, dBreak, dCont, dDrop, dRet, dRetN, dIfS, gN, gsNil, gsCons, gTu, dAsg, gSubD, dPar, dPar3, dFor, dIter, dRng1, dRng2, dEnum, dZipB, dLc, dLcM, mkL, dCall, dFld, dMeth, dCB, dBM, rSubD, rMulD, rFdivD, rModD, rLtD, rLeD, rGtD, rGeD, rNegD, rEqDD, rNeDD, dSl, dPn, dPs, dRev, rIsiC, dStar, dJoined, dJs, gStar, dMake, mkD, dCMeth, dStore, dDGet, dDisp, dRaise, tyM, dstart, wipeD, List.map, List.replicate, List.cons_append, List.nil_append, List.length_cons, List.length_nil, List.set_cons_zero, List.set_cons_succ, List.getElem?_cons_zero, List.getElem?_cons_succ, Option.some.injEq, exists_eq_left, exists_eq_left', D.bl.injEq, D.int.injEq, D.str.injEq, D.tup.injEq, D.lst.injEq, List.cons.injEq, and_true, true_and, if_true, if_false, Bool.false_eq_true, Bool.not_true, Bool.not_false, Nat.reduceSub, Nat.reduceAdd, Nat.zero_add, isi_non, isi_bl, isi_int, isi_str, isi_tup, isi_lst, mt_bool, mt_int, mt_str, mt_list, mt_tuple, len_str, len_lst, len_tup, int_int, int_bl, int_str, str_int, top_int, top_str, top_bl, top_non, top_lst, top_tup, box_lst, box_tup, lst_lst, seq_lst, seq_tup, seq_str, eq_int, eq_str, ix_tup, ix_lst, ix_str, atD_0, atD_1, atD_2, in_sign, tyM, isT, String.reduceBEq, String.reduceEq, Bool.or_true, Bool.or_false, Bool.true_or, Bool.false_or, Bool.and_true, Bool.and_false, Bool.true_and, Bool.false_and, ix_refI, add_int, add_str, add_lst, sl_str, sl_lst, atD_3, atD_4, pow_int, DO.lst.injEq, D.ref.injEq, updG_same, lst_refI, box_refI, set_refI, int2I, app_refI, ext_refI, splitI, joinI, idxI, ixN_51, ixN_52, ixN_53, ixN_54, ixN_30, ixN_31, ixN_32, okD_intI, okD_blI, okD_nonI, DL.updG2, List.length_set, Option.some.injEq, decide_eq_true_eq, decide_true, decide_false]
          by_cases hl : xs.length = ys.length
          · rw [if_pos (by omega)]
            refine ⟨_, _, xs, ys, ⟨rfl, rfl⟩, .inr ⟨rfl, rfl, zip_lc ⟨rfl, rfl⟩ hl xl xf yf fun bs hb => ⟨_, bs, rfl, rfl, q _ (by rw [hb]; simp)⟩⟩⟩
          · rw [if_neg (by omega)]
            refine q false ⟨fun z => (by cases z), fun z => absurd ?_ hl⟩
            cases z
            rfl
        · omega
      · rcases hys with ⟨_, h6⟩ | ⟨rfl, _⟩
        · omega
        · simp only [dVar, dC, dOp, dUn, dTest, dChain, dIsN, dNotN, isNo, dAnd, dOr, dNot, dAndV, dOrV, dNotV, dIf, dNil, dCons, dTup, dLst, dLstM, dNext, dSeq, dBreak, dCont, dDrop, dRet, dRetN, dIfS, gN, gsNil, gsCons, gTu, dAsg, gSubD, dPar, dPar3, dFor, dIter, dRng1, dRng2, dEnum, dZipB, dLc, dLcM, mkL, dCall, dFld, dMeth, dCB, dBM, rSubD, rMulD, rFdivD, rModD, rLtD, rLeD, rGtD, rGeD, rNegD, rEqDD, rNeDD, dSl, dPn, dPs, dRev, rIsiC, dStar, dJoined, dJs, gStar, dMake, mkD, dCMeth, dStore, dDGet, dDisp, dRaise, tyM, dstart, wipeD, List.map, List.replicate, List.cons_append, List.nil_append, List.length_cons, List.length_nil, List.set_cons_zero, List.set_cons_succ, List.getElem?_cons_zero, List.getElem?_cons_succ, Option.some.injEq, exists_eq_left, exists_eq_left', D.bl.injEq, D.int.injEq, D.str.injEq, D.tup.injEq, D.lst.injEq, List.cons.injEq, and_true, true_and, if_true, if_false, Bool.false_eq_true, Bool.not_true, Bool.not_false, Nat.reduceSub, Nat.reduceAdd, Nat.zero_add, isi_non, isi_bl, isi_int, isi_str, isi_tup, isi_lst, mt_bool, mt_int, mt_str, mt_list, mt_tuple, len_str, len_lst, len_tup, int_int, int_bl, int_str, str_int, top_int, top_str, top_bl, top_non, top_lst, top_tup, box_lst, box_tup, lst_lst, seq_lst, seq_tup, seq_str, eq_int, eq_str, ix_tup, ix_lst, ix_str, atD_0, atD_1, atD_2, in_sign, tyM, isT, String.reduceBEq, String.reduceEq, Bool.or_true, Bool.or_false, Bool.true_or, Bool.false_or, Bool.and_true, Bool.and_false, Bool.true_and, Bool.false_and, ix_refI, add_int, add_str, add_lst, sl_str, sl_lst, atD_3, atD_4, pow_int, DO.lst.injEq, D.ref.injEq, updG_same, lst_refI, box_refI, set_refI, int2I, app_refI, ext_refI, splitI, joinI, idxI, ixN_51, ixN_52, ixN_53, ixN_54, ixN_30, ixN_31, ixN_32, okD_intI, okD_blI, okD_nonI, DL.updG2, List.length_set, Option.some.injEq, decide_eq_true_eq, decide_true, decide_false]
          by_cases hl : xs.length = ys.length
          · rw [if_pos (by omega)]
            refine ⟨_, _, xs, ys, ⟨rfl, rfl⟩, .inl ⟨rfl, rfl, zip_lc trivial hl xl xf yf fun bs hb => ⟨_, bs, rfl, rfl, q _ (by rw [hb]; simp)⟩⟩⟩
          · rw [if_neg (by omega)]
            refine q false ⟨fun z => (by cases z), fun z => absurd ?_ hl⟩
            cases z
            rfl
    · have hin : ∀ Q : DK, Q (.bl false) G → rInD false (.int kx) (.tup [.int 4, .int 5]) G Q := fun Q hQ => by
        have : kx = 0 ∨ kx = 1 ∨ kx = 2 ∨ kx = 3 := by omega
        rcases this with rfl | rfl | rfl | rfl <;> exact ⟨_, rfl, rfl, rfl, hQ⟩
      refine hin _ ⟨_, rfl, ?_⟩
      rw [if_neg (by simp)]
      have ox := kind_eq k1 h45 hx
      have oy := kind_eq m1 h45 hy
      cases x <;> simp only [kindD, Option.some.injEq, reduceCtorEq] at k1 <;> cases y <;> simp only [kindD, Option.some.injEq, reduceCtorEq] at m1 <;> first | omega | skip
      · exact ⟨ox, oy, q _ (by simp [topD, eqD, pyD, PyData.eqv])⟩
      · exact ⟨ox, oy, q _ (by simp [topD, eqD, pyD, PyData.eqv])⟩
      · exact ⟨ox, oy, q _ (by rw [top_int, top_int, eq_int]; simp)⟩
      · exact ⟨ox, oy, q _ (by rw [top_str, top_str, DL.eq_str]; simp)⟩
  · have hk' : ((kx : Int) = ky) = False := by simp; omega
    rw [if_pos (by simp [hk'])]
    refine q false ⟨fun z => (by cases z), fun z => ?_⟩
    subst z
    rw [k1] at m1
    exact absurd (Option.some.inj m1) hk
def sp__law_odd : DSp := fun ds G Q E => ∃ b u more, ds = [.ref b, .lst more] ∧ BagAt u G b ∧ more.length ≤ 10 ∧ ∀ x o, x ∈ [D.non, .bl true, .bl false, .str [], .str [65], .int (-1), .tup [.int 1, .str [97]], .lst [.int 1], .tup [], .lst [.str [97]], .int (10 ^ 17)] ++ more → Bag (u + 1) o → Q x (updG G b o)
theorem l__law_odd {ds G Q Ed} (h : sp__law_odd ds G Q Ed) : ds.length = 2 := by
  obtain ⟨_, _, _, rfl, _⟩ := h; rfl
abbrev N__law_odd : List Str := ["_law_bag", "_law_more"]
def t__law_odd (Ed : DXK) : DTS := dRet (dCall sp__law_pick Ed (dCons (dVar 0) (dCons (dOp rAddD (dLst (dCons (dC .non) (dCons (dC (.bl true)) (dCons (dC (.bl false)) (dCons (dC (.str [])) (dCons (dC (.str [65])) (dCons (dUn rNegD (dC (.int 1))) (dCons (dTup (dCons (dC (.int 1)) (dCons (dC (.str [97])) (dNil)))) (dCons (dLst (dCons (dC (.int 1)) (dNil))) (dCons (dTup (dNil)) (dCons (dLst (dCons (dC (.str [97])) (dNil))) (dCons (dOp rPowD (dC (.int 10)) (dC (.int 17))) (dNil))))))))))))) (dVar 1)) (dNil))) [])
theorem r__law_odd (ds : List D) (G : GH) (Qd : DK) (Ed : DXK) (h : sp__law_odd ds G Qd Ed) : t__law_odd (rtX Ed) { nx := fun _ G' => rtF Qd .non G', rt := rtF Qd } (dstart N__law_odd ds) G := by
  obtain ⟨b, u, more, rfl, hb, hl, q⟩ := h
  have hz := size_ge
  simp only [t__law_odd, N__law_odd, dVar, dC, dOp, dUn, dTest, dChain, dIsN, dNotN, isNo, dAnd, dOr, dNot, dAndV, dOrV, dNotV, dIf, dNil, dCons, dTup, dLst, dLstM, dNext, dSeq, dBreak, dCont, dDrop, dRet, dRetN, dIfS, gN, gsNil, gsCons, gTu, dAsg, gSubD, dPar, dPar3, dFor, dIter, dRng1, dRng2, dEnum, dZipB, dLc, dLcM, mkL, dCall, dFld, dMeth, dCB, dBM, rSubD, rMulD, rFdivD, rModD, rLtD, rLeD, rGtD, rGeD, rNegD, rEqDD, rNeDD, dSl, dPn, dPs, dRev, rIsiC, dStar, dJoined, dJs, gStar, dMake, mkD, dCMeth, dStore, dDGet, dDisp, dRaise, tyM, dstart, wipeD, List.map, List.replicate, List.cons_append, List.nil_append, List.length_cons, List.length_nil, List.set_cons_zero, List.set_cons_succ, List.getElem?_cons_zero, List.getElem?_cons_succ, Option.some.injEq, exists_eq_left, exists_eq_left', D.bl.injEq, D.int.injEq, D.str.injEq, D.tup.injEq, D.lst.injEq, List.cons.injEq, and_true, true_and, if_true, if_false, Bool.false_eq_true, Bool.not_true, Bool.not_false, Nat.reduceSub, Nat.reduceAdd, Nat.zero_add, isi_non, isi_bl, isi_int, isi_str, isi_tup, isi_lst, mt_bool, mt_int, mt_str, mt_list, mt_tuple, len_str, len_lst, len_tup, int_int, int_bl, int_str, str_int, top_int, top_str, top_bl, top_non, top_lst, top_tup, box_lst, box_tup, lst_lst, seq_lst, seq_tup, seq_str, eq_int, eq_str, ix_tup, ix_lst, ix_str, atD_0, atD_1, atD_2, in_sign, tyM, isT, String.reduceBEq, String.reduceEq, Bool.or_true, Bool.or_false, Bool.true_or, Bool.false_or, Bool.and_true, Bool.and_false, Bool.true_and, Bool.false_and, ix_refI, add_int, add_str, add_lst, sl_str, sl_lst, atD_3, atD_4, pow_int, DO.lst.injEq, D.ref.injEq, updG_same, lst_refI, box_refI, set_refI, int2I, app_refI, ext_refI, splitI, joinI, idxI, ixN_51, ixN_52, ixN_53, ixN_54, ixN_30, ixN_31, ixN_32, okD_intI, okD_blI, okD_nonI, DL.updG2, List.length_set, Option.some.injEq, decide_eq_true_eq, decide_true, decide_false]
  refine ⟨by decide, by decide, by decide, by decide, cpow17, by decide, by omega, b, u, _, _, rfl, hb, .inl rfl, by simp, by simp; omega, fun x o hx ho => rtF_id (q x o ?_ ho)⟩
  simpa using hx
def sp__law_plant_lines : DSp := fun ds G Q E => ∃ r : Rows, ds = [r.spec] ∧ r.good ∧ Q (.lst (r.lines.map .str)) G
theorem l__law_plant_lines {ds G Q Ed} (h : sp__law_plant_lines ds G Q Ed) : ds.length = 1 := by
  obtain ⟨_, rfl, _⟩ := h; rfl
abbrev N__law_plant_lines : List Str := ["_law_spec", "_law_found", "_law_row", "_law_name"]
def t__law_plant_lines (Ed : DXK) : DTS := dSeq (dAsg (dLc (dIter (dOp rIxD (dVar 0) (dC (.int 0)))) (gN 2) (dYes) (dOp rAddD (dOp rAddD (dOp rAddD (dC (.str [118, 97, 116, 32])) (dOp rIxD (dVar 2) (dC (.int 0)))) (dC (.str [32]))) (dCB rStrD (dCons (dOp rIxD (dVar 2) (dC (.int 1))) (dNil)))) [2]) (gN 1)) (dRet (dOp rAddD (dOp rAddD (dVar 1) (dLc (dIter (dOp rIxD (dVar 0) (dC (.int 1)))) (gN 3) (dYes) (dOp rAddD (dC (.str [102, 108, 111, 97, 116, 32])) (dVar 3)) [3])) (dLc (dIter (dOp rIxD (dVar 0) (dC (.int 2)))) (gN 3) (dYes) (dOp rAddD (dC (.str [111, 117, 116, 108, 101, 116, 32])) (dVar 3)) [3])))
theorem r__law_plant_lines (ds : List D) (G : GH) (Qd : DK) (Ed : DXK) (h : sp__law_plant_lines ds G Qd Ed) : t__law_plant_lines (rtX Ed) { nx := fun _ G' => rtF Qd .non G', rt := rtF Qd } (dstart N__law_plant_lines ds) G := by
  obtain ⟨r, rfl, hg, q⟩ := h
  have hz := size_ge
  have b1 := hg.p.v4
  have b2 := hg.p.f2
  have b3 := hg.p.o2
  simp only [t__law_plant_lines, N__law_plant_lines, Rows.spec, dVar, dC, dOp, dUn, dTest, dChain, dIsN, dNotN, isNo, dAnd, dOr, dNot, dAndV, dOrV, dNotV, dIf, dNil, dCons, dTup, dLst, dLstM, dNext, dSeq, dBreak, dCont, dDrop, dRet, dRetN, dIfS, gN, gsNil, gsCons, gTu, dAsg, gSubD, dPar, dPar3, dFor, dIter, dRng1, dRng2, dEnum, dZipB, dLc, dLcM, mkL, dCall, dFld, dMeth, dCB, dBM, rSubD, rMulD, rFdivD, rModD, rLtD, rLeD, rGtD, rGeD, rNegD, rEqDD, rNeDD, dSl, dPn, dPs, dRev, rIsiC, dStar, dJoined, dJs, gStar, dMake, mkD, dCMeth, dStore, dDGet, dDisp, dRaise, tyM, dstart, wipeD, List.map, List.replicate, List.cons_append, List.nil_append, List.length_cons, List.length_nil, List.set_cons_zero, List.set_cons_succ, List.getElem?_cons_zero, List.getElem?_cons_succ, Option.some.injEq, exists_eq_left, exists_eq_left', D.bl.injEq, D.int.injEq, D.str.injEq, D.tup.injEq, D.lst.injEq, List.cons.injEq, and_true, true_and, if_true, if_false, Bool.false_eq_true, Bool.not_true, Bool.not_false, Nat.reduceSub, Nat.reduceAdd, Nat.zero_add, isi_non, isi_bl, isi_int, isi_str, isi_tup, isi_lst, mt_bool, mt_int, mt_str, mt_list, mt_tuple, len_str, len_lst, len_tup, int_int, int_bl, int_str, str_int, top_int, top_str, top_bl, top_non, top_lst, top_tup, box_lst, box_tup, lst_lst, seq_lst, seq_tup, seq_str, eq_int, eq_str, ix_tup, ix_lst, ix_str, atD_0, atD_1, atD_2, in_sign, tyM, isT, String.reduceBEq, String.reduceEq, Bool.or_true, Bool.or_false, Bool.true_or, Bool.false_or, Bool.and_true, Bool.and_false, Bool.true_and, Bool.false_and, ix_refI, add_int, add_str, add_lst, sl_str, sl_lst, atD_3, atD_4, pow_int, DO.lst.injEq, D.ref.injEq, updG_same, lst_refI, box_refI, set_refI, int2I, app_refI, ext_refI, splitI, joinI, idxI, ixN_51, ixN_52, ixN_53, ixN_54, ixN_30, ixN_31, ixN_32, okD_intI, okD_blI, okD_nonI, DL.updG2, List.length_set, Option.some.injEq, decide_eq_true_eq, decide_true, decide_false]
  refine lc_map0 (f := fun p => .str (vatL p)) trivial (fun p hp Q' q' => ?_) (by omega) ?_
  · obtain ⟨hl, hn, hz2, h3, h4⟩ := vat_line hg.p hp
    have hl2 := log2_of (i := p.2) (k := 10) (by omega) (by omega) (by decide)
    have hlen := hl.len
    simp [vatL, hz2] at hlen
    simp only [dVar, dC, dOp, dUn, dTest, dChain, dIsN, dNotN, isNo, dAnd, dOr, dNot, dAndV, dOrV, dNotV, dIf, dNil, dCons, dTup, dLst, dLstM, dNext, dSeq, dBreak, dCont, dDrop, dRet, dRetN, dIfS, gN, gsNil, gsCons, gTu, dAsg, gSubD, dPar, dPar3, dFor, dIter, dRng1, dRng2, dEnum, dZipB, dLc, dLcM, mkL, dCall, dFld, dMeth, dCB, dBM, rSubD, rMulD, rFdivD, rModD, rLtD, rLeD, rGtD, rGeD, rNegD, rEqDD, rNeDD, dSl, dPn, dPs, dRev, rIsiC, dStar, dJoined, dJs, gStar, dMake, mkD, dCMeth, dStore, dDGet, dDisp, dRaise, tyM, dstart, wipeD, List.map, List.replicate, List.cons_append, List.nil_append, List.length_cons, List.length_nil, List.set_cons_zero, List.set_cons_succ, List.getElem?_cons_zero, List.getElem?_cons_succ, Option.some.injEq, exists_eq_left, exists_eq_left', D.bl.injEq, D.int.injEq, D.str.injEq, D.tup.injEq, D.lst.injEq, List.cons.injEq, and_true, true_and, if_true, if_false, Bool.false_eq_true, Bool.not_true, Bool.not_false, Nat.reduceSub, Nat.reduceAdd, Nat.zero_add, isi_non, isi_bl, isi_int, isi_str, isi_tup, isi_lst, mt_bool, mt_int, mt_str, mt_list, mt_tuple, len_str, len_lst, len_tup, int_int, int_bl, int_str, str_int, top_int, top_str, top_bl, top_non, top_lst, top_tup, box_lst, box_tup, lst_lst, seq_lst, seq_tup, seq_str, eq_int, eq_str, ix_tup, ix_lst, ix_str, atD_0, atD_1, atD_2, in_sign, tyM, isT, String.reduceBEq, String.reduceEq, Bool.or_true, Bool.or_false, Bool.true_or, Bool.false_or, Bool.and_true, Bool.and_false, Bool.true_and, Bool.false_and, ix_refI, add_int, add_str, add_lst, sl_str, sl_lst, atD_3, atD_4, pow_int, DO.lst.injEq, D.ref.injEq, updG_same, lst_refI, box_refI, set_refI, int2I, app_refI, ext_refI, splitI, joinI, idxI, ixN_51, ixN_52, ixN_53, ixN_54, ixN_30, ixN_31, ixN_32, okD_intI, okD_blI, okD_nonI, DL.updG2, List.length_set, Option.some.injEq, decide_eq_true_eq, decide_true, decide_false, vatD, hz2]
    refine ⟨by omega, by omega, by omega, by simp; omega, ?_⟩
    simpa [vatL, hz2] using q'
  · refine lc_map0 (f := fun s => .str (sFloat ++ 32 :: s)) trivial (fun s hs Q' q' => ?_) (by omega) ?_
    · obtain ⟨hl, hn⟩ := str_line hg.p (.inl hs) _ wf6
      simp only [dVar, dC, dOp, dUn, dTest, dChain, dIsN, dNotN, isNo, dAnd, dOr, dNot, dAndV, dOrV, dNotV, dIf, dNil, dCons, dTup, dLst, dLstM, dNext, dSeq, dBreak, dCont, dDrop, dRet, dRetN, dIfS, gN, gsNil, gsCons, gTu, dAsg, gSubD, dPar, dPar3, dFor, dIter, dRng1, dRng2, dEnum, dZipB, dLc, dLcM, mkL, dCall, dFld, dMeth, dCB, dBM, rSubD, rMulD, rFdivD, rModD, rLtD, rLeD, rGtD, rGeD, rNegD, rEqDD, rNeDD, dSl, dPn, dPs, dRev, rIsiC, dStar, dJoined, dJs, gStar, dMake, mkD, dCMeth, dStore, dDGet, dDisp, dRaise, tyM, dstart, wipeD, List.map, List.replicate, List.cons_append, List.nil_append, List.length_cons, List.length_nil, List.set_cons_zero, List.set_cons_succ, List.getElem?_cons_zero, List.getElem?_cons_succ, Option.some.injEq, exists_eq_left, exists_eq_left', D.bl.injEq, D.int.injEq, D.str.injEq, D.tup.injEq, D.lst.injEq, List.cons.injEq, and_true, true_and, if_true, if_false, Bool.false_eq_true, Bool.not_true, Bool.not_false, Nat.reduceSub, Nat.reduceAdd, Nat.zero_add, isi_non, isi_bl, isi_int, isi_str, isi_tup, isi_lst, mt_bool, mt_int, mt_str, mt_list, mt_tuple, len_str, len_lst, len_tup, int_int, int_bl, int_str, str_int, top_int, top_str, top_bl, top_non, top_lst, top_tup, box_lst, box_tup, lst_lst, seq_lst, seq_tup, seq_str, eq_int, eq_str, ix_tup, ix_lst, ix_str, atD_0, atD_1, atD_2, in_sign, tyM, isT, String.reduceBEq, String.reduceEq, Bool.or_true, Bool.or_false, Bool.true_or, Bool.false_or, Bool.and_true, Bool.and_false, Bool.true_and, Bool.false_and, ix_refI, add_int, add_str, add_lst, sl_str, sl_lst, atD_3, atD_4, pow_int, DO.lst.injEq, D.ref.injEq, updG_same, lst_refI, box_refI, set_refI, int2I, app_refI, ext_refI, splitI, joinI, idxI, ixN_51, ixN_52, ixN_53, ixN_54, ixN_30, ixN_31, ixN_32, okD_intI, okD_blI, okD_nonI, DL.updG2, List.length_set, Option.some.injEq, decide_eq_true_eq, decide_true, decide_false]
      exact ⟨by omega, q'⟩
    · rw [add_lst]
      refine ⟨by simp; omega, lc_map0 (f := fun s => .str (sOutlet ++ 32 :: s)) trivial (fun s hs Q' q' => ?_) (by omega) ?_⟩
      · obtain ⟨hl, hn⟩ := str_line hg.p (.inr hs) _ wo6
        simp only [dVar, dC, dOp, dUn, dTest, dChain, dIsN, dNotN, isNo, dAnd, dOr, dNot, dAndV, dOrV, dNotV, dIf, dNil, dCons, dTup, dLst, dLstM, dNext, dSeq, dBreak, dCont, dDrop, dRet, dRetN, dIfS, gN, gsNil, gsCons, gTu, dAsg, gSubD, dPar, dPar3, dFor, dIter, dRng1, dRng2, dEnum, dZipB, dLc, dLcM, mkL, dCall, dFld, dMeth, dCB, dBM, rSubD, rMulD, rFdivD, rModD, rLtD, rLeD, rGtD, rGeD, rNegD, rEqDD, rNeDD, dSl, dPn, dPs, dRev, rIsiC, dStar, dJoined, dJs, gStar, dMake, mkD, dCMeth, dStore, dDGet, dDisp, dRaise, tyM, dstart, wipeD, List.map, List.replicate, List.cons_append, List.nil_append, List.length_cons, List.length_nil, List.set_cons_zero, List.set_cons_succ, List.getElem?_cons_zero, List.getElem?_cons_succ, Option.some.injEq, exists_eq_left, exists_eq_left', D.bl.injEq, D.int.injEq, D.str.injEq, D.tup.injEq, D.lst.injEq, List.cons.injEq, and_true, true_and, if_true, if_false, Bool.false_eq_true, Bool.not_true, Bool.not_false, Nat.reduceSub, Nat.reduceAdd, Nat.zero_add, isi_non, isi_bl, isi_int, isi_str, isi_tup, isi_lst, mt_bool, mt_int, mt_str, mt_list, mt_tuple, len_str, len_lst, len_tup, int_int, int_bl, int_str, str_int, top_int, top_str, top_bl, top_non, top_lst, top_tup, box_lst, box_tup, lst_lst, seq_lst, seq_tup, seq_str, eq_int, eq_str, ix_tup, ix_lst, ix_str, atD_0, atD_1, atD_2, in_sign, tyM, isT, String.reduceBEq, String.reduceEq, Bool.or_true, Bool.or_false, Bool.true_or, Bool.false_or, Bool.and_true, Bool.and_false, Bool.true_and, Bool.false_and, ix_refI, add_int, add_str, add_lst, sl_str, sl_lst, atD_3, atD_4, pow_int, DO.lst.injEq, D.ref.injEq, updG_same, lst_refI, box_refI, set_refI, int2I, app_refI, ext_refI, splitI, joinI, idxI, ixN_51, ixN_52, ixN_53, ixN_54, ixN_30, ixN_31, ixN_32, okD_intI, okD_blI, okD_nonI, DL.updG2, List.length_set, Option.some.injEq, decide_eq_true_eq, decide_true, decide_false]
        exact ⟨by omega, q'⟩
      · rw [add_lst]
        refine ⟨by simp; omega, rtF_id ?_⟩
        have e : D.lst (List.map (fun p => .str (vatL p)) r.v ++ List.map (fun s => .str (sFloat ++ 32 :: s)) r.f ++ List.map (fun s => .str (sOutlet ++ 32 :: s)) r.o) = .lst (r.lines.map .str) := by
          simp only [Rows.lines, List.map_append, List.map_map, List.append_assoc]
          rfl
        exact e ▸ q
def sp__law_is_word : DSp := fun ds G Q E => ∃ s, ds = [.str s] ∧ txt s ∧ Q (.bl (nameB s)) G
theorem l__law_is_word {ds G Q Ed} (h : sp__law_is_word ds G Q Ed) : ds.length = 1 := by
  obtain ⟨_, rfl, _⟩ := h; rfl
abbrev N__law_is_word : List Str := ["_law_word", "_law_letter"]
def t__law_is_word (Ed : DXK) : DTS := dRet (dAndV (dChain rLtD rLtD (dC (.int 0)) (dCB rLenD (dCons (dVar 0) (dNil))) (dC (.int 7))) (dCB rAllD (dCons (dLc (dIter (dVar 0)) (gN 1) (dYes) (dOp (rInD false) (dVar 1) (dC (.str [97, 98, 99, 100, 101, 102, 103, 104, 105, 106, 107, 108, 109, 110, 111, 112, 113, 114, 115, 116, 117, 118, 119, 120, 121, 122]))) [1]) (dNil))))
theorem r__law_is_word (ds : List D) (G : GH) (Qd : DK) (Ed : DXK) (h : sp__law_is_word ds G Qd Ed) : t__law_is_word (rtX Ed) { nx := fun _ G' => rtF Qd .non G', rt := rtF Qd } (dstart N__law_is_word ds) G := by
  obtain ⟨s, rfl, ht, q⟩ := h
  have q := rtF_id q
  have hz : s.length ≤ sizeLine := by have := size_ge; have := ht.1; omega
  simp only [t__law_is_word, N__law_is_word, dVar, dC, dOp, dUn, dTest, dChain, dIsN, dNotN, isNo, dAnd, dOr, dNot, dAndV, dOrV, dNotV, dIf, dNil, dCons, dTup, dLst, dLstM, dNext, dSeq, dBreak, dCont, dDrop, dRet, dRetN, dIfS, gN, gsNil, gsCons, gTu, dAsg, gSubD, dPar, dPar3, dFor, dIter, dRng1, dRng2, dEnum, dZipB, dLc, dLcM, mkL, dCall, dFld, dMeth, dCB, dBM, rSubD, rMulD, rFdivD, rModD, rLtD, rLeD, rGtD, rGeD, rNegD, rEqDD, rNeDD, dSl, dPn, dPs, dRev, rIsiC, dStar, dJoined, dJs, gStar, dMake, mkD, dCMeth, dStore, dDGet, dDisp, dRaise, tyM, dstart, wipeD, List.map, List.replicate, List.cons_append, List.nil_append, List.length_cons, List.length_nil, List.set_cons_zero, List.set_cons_succ, List.getElem?_cons_zero, List.getElem?_cons_succ, Option.some.injEq, exists_eq_left, exists_eq_left', D.bl.injEq, D.int.injEq, D.str.injEq, D.tup.injEq, D.lst.injEq, List.cons.injEq, and_true, true_and, if_true, if_false, Bool.false_eq_true, Bool.not_true, Bool.not_false, Nat.reduceSub, Nat.reduceAdd, Nat.zero_add, isi_non, isi_bl, isi_int, isi_str, isi_tup, isi_lst, mt_bool, mt_int, mt_str, mt_list, mt_tuple, len_str, len_lst, len_tup, int_int, int_bl, int_str, str_int, top_int, top_str, top_bl, top_non, top_lst, top_tup, box_lst, box_tup, lst_lst, seq_lst, seq_tup, seq_str, eq_int, eq_str, ix_tup, ix_lst, ix_str, atD_0, atD_1, atD_2, in_sign, tyM, isT, String.reduceBEq, String.reduceEq, Bool.or_true, Bool.or_false, Bool.true_or, Bool.false_or, Bool.and_true, Bool.and_false, Bool.true_and, Bool.false_and, ix_refI, add_int, add_str, add_lst, sl_str, sl_lst, atD_3, atD_4, pow_int, DO.lst.injEq, D.ref.injEq, updG_same, lst_refI, box_refI, set_refI, int2I, app_refI, ext_refI, splitI, joinI, idxI, ixN_51, ixN_52, ixN_53, ixN_54, ixN_30, ixN_31, ixN_32, okD_intI, okD_blI, okD_nonI, DL.updG2, List.length_set, Option.some.injEq, decide_eq_true_eq, decide_true, decide_false]
  refine ⟨hz, ?_⟩
  by_cases h1 : (0 : Int) < s.length
  · simp only [h1, decide_true, if_true]
    by_cases h2 : (s.length : Int) < 7
    · simp only [h2, decide_true, if_true]
      refine lc_map0 (f := fun c => .bl (decide (97 ≤ c) && decide (c ≤ 122))) trivial (fun c hc Q' q' => ?_) hz (all_map ?_)
      · simp only [dVar, dC, dOp, dUn, dTest, dChain, dIsN, dNotN, isNo, dAnd, dOr, dNot, dAndV, dOrV, dNotV, dIf, dNil, dCons, dTup, dLst, dLstM, dNext, dSeq, dBreak, dCont, dDrop, dRet, dRetN, dIfS, gN, gsNil, gsCons, gTu, dAsg, gSubD, dPar, dPar3, dFor, dIter, dRng1, dRng2, dEnum, dZipB, dLc, dLcM, mkL, dCall, dFld, dMeth, dCB, dBM, rSubD, rMulD, rFdivD, rModD, rLtD, rLeD, rGtD, rGeD, rNegD, rEqDD, rNeDD, dSl, dPn, dPs, dRev, rIsiC, dStar, dJoined, dJs, gStar, dMake, mkD, dCMeth, dStore, dDGet, dDisp, dRaise, tyM, dstart, wipeD, List.map, List.replicate, List.cons_append, List.nil_append, List.length_cons, List.length_nil, List.set_cons_zero, List.set_cons_succ, List.getElem?_cons_zero, List.getElem?_cons_succ, Option.some.injEq, exists_eq_left, exists_eq_left', D.bl.injEq, D.int.injEq, D.str.injEq, D.tup.injEq, D.lst.injEq, List.cons.injEq, and_true, true_and, if_true, if_false, Bool.false_eq_true, Bool.not_true, Bool.not_false, Nat.reduceSub, Nat.reduceAdd, Nat.zero_add, isi_non, isi_bl, isi_int, isi_str, isi_tup, isi_lst, mt_bool, mt_int, mt_str, mt_list, mt_tuple, len_str, len_lst, len_tup, int_int, int_bl, int_str, str_int, top_int, top_str, top_bl, top_non, top_lst, top_tup, box_lst, box_tup, lst_lst, seq_lst, seq_tup, seq_str, eq_int, eq_str, ix_tup, ix_lst, ix_str, atD_0, atD_1, atD_2, in_sign, tyM, isT, String.reduceBEq, String.reduceEq, Bool.or_true, Bool.or_false, Bool.true_or, Bool.false_or, Bool.and_true, Bool.and_false, Bool.true_and, Bool.false_and, ix_refI, add_int, add_str, add_lst, sl_str, sl_lst, atD_3, atD_4, pow_int, DO.lst.injEq, D.ref.injEq, updG_same, lst_refI, box_refI, set_refI, int2I, app_refI, ext_refI, splitI, joinI, idxI, ixN_51, ixN_52, ixN_53, ixN_54, ixN_30, ixN_31, ixN_32, okD_intI, okD_blI, okD_nonI, DL.updG2, List.length_set, Option.some.injEq, decide_eq_true_eq, decide_true, decide_false]
        rw [decide_eq_decide.mpr alpha_mem, Bool.decide_and]
        exact q'
      · have e : nameB s = s.all fun c => decide (97 ≤ c) && decide (c ≤ 122) := by
          simp [nameB, show 1 ≤ s.length by omega, show s.length ≤ 6 by omega]
        rw [← e]; exact q
    · simp only [h2, decide_false, if_false, Bool.false_eq_true]
      have e : nameB s = false := by simp [nameB, show ¬ s.length ≤ 6 by omega]
      rw [← e]; exact q
  · simp only [h1, decide_false, if_false, Bool.false_eq_true]
    have e : nameB s = false := by simp [nameB, show ¬ 1 ≤ s.length by omega]
    rw [← e]; exact q
def sp__law_plant_fault : DSp := fun ds G Q E => ∃ ls : List (List Nat), ds = [.lst (ls.map .str)] ∧ short ls ∧ Q (match fault ls with
  | none => .non
  | some n => .int n) G
theorem l__law_plant_fault {ds G Q Ed} (h : sp__law_plant_fault ds G Q Ed) : ds.length = 1 := by
  obtain ⟨_, rfl, _⟩ := h; rfl
abbrev N__law_plant_fault : List Str := ["_law_lines", "_law_names", "_law_counts", "_law_last", "_law_at", "_law_words_here", "_law_kind_here"]
def t__law_plant_fault (Ed : DXK) : DTS := dSeq (dPar3 1 2 3 (dCons (dLstM (dNil)) (dCons (dLstM (dCons (dC (.int 0)) (dCons (dC (.int 0)) (dCons (dC (.int 0)) (dNil))))) (dCons (dC (.int 0)) (dNil))))) (dSeq (dFor (dRng1 (dCons (dCB rLenD (dCons (dVar 0) (dNil))) (dNil))) (gN 4) (dSeq (dAsg (dBM "str" rSplitD (dOp rIxD (dVar 0) (dVar 4)) (dCons (dC (.str [32])) (dNil))) (gN 5)) (dSeq (dAsg (dIf (dTest (dOp (rInD false) (dOp rIxD (dVar 5) (dC (.int 0))) (dLst (dCons (dC (.str [118, 97, 116])) (dCons (dC (.str [102, 108, 111, 97, 116])) (dCons (dC (.str [111, 117, 116, 108, 101, 116])) (dNil))))))) (dBM "list" rIdxD (dLst (dCons (dC (.str [118, 97, 116])) (dCons (dC (.str [102, 108, 111, 97, 116])) (dCons (dC (.str [111, 117, 116, 108, 101, 116])) (dNil))))) (dCons (dOp rIxD (dVar 5) (dC (.int 0))) (dNil))) (dUn rNegD (dC (.int 1)))) (gN 6)) (dSeq (dIfS (dOr (dTest (dOp rLtD (dVar 6) (dVar 3))) (dOr (dTest (dOp rNeDD (dCB rLenD (dCons (dVar 5) (dNil))) (dIf (dTest (dOp rEqDD (dVar 6) (dC (.int 0)))) (dC (.int 3)) (dC (.int 2))))) (dOr (dNot (dTest (dCall sp__law_is_word Ed (dCons (dOp rIxD (dVar 5) (dC (.int 1))) (dNil)) []))) (dTest (dOp (rInD false) (dOp rIxD (dVar 5) (dC (.int 1))) (dVar 1)))))) (dRet (dVar 4)) (dNext)) (dSeq (dIfS (dOr (dTest (dOp rGeD (dOp rIxD (dVar 2) (dVar 6)) (dIf (dTest (dOp rEqDD (dVar 6) (dC (.int 0)))) (dC (.int 4)) (dC (.int 2))))) (dAnd (dTest (dOp rEqDD (dVar 6) (dC (.int 0)))) (dTest (dOp (rInD true) (dOp rIxD (dVar 5) (dC (.int 2))) (dLst (dCons (dC (.str [49])) (dCons (dC (.str [50])) (dCons (dC (.str [51])) (dCons (dC (.str [52])) (dCons (dC (.str [53])) (dCons (dC (.str [54])) (dNil)))))))))))) (dRet (dVar 4)) (dNext)) (dSeq (dDrop (dBM "list" rAppD (dVar 1) (dCons (dOp rIxD (dVar 5) (dC (.int 1))) (dNil)))) (dAsg (dTup (dCons (dVar 6) (dCons (dOp rAddD (dOp rIxD (dVar 2) (dVar 6)) (dC (.int 1))) (dNil)))) (gTu 2 (gsCons (gN 3) (gsCons (gSubD (dVar 2) (dVar 6) rSetD) (gsNil))))))))))) (dRet (dIf (dTest (dOp rGtD (dOp rIxD (dVar 2) (dC (.int 0))) (dC (.int 0)))) (dC .non) (dCB rLenD (dCons (dVar 0) (dNil))))))
abbrev cntO (r : Rows) : DO := .lst [.int r.v.length, .int r.f.length, .int r.o.length]
theorem dig6 {z : List Nat} : z ∈ ([[49], [50], [51], [52], [53], [54]] : List (List Nat)) ↔ 1 ≤ digV z ∧ digV z ≤ 6 := by
  constructor
  · intro h
    exact (by decide : ∀ z ∈ ([[49], [50], [51], [52], [53], [54]] : List (List Nat)), 1 ≤ digV z ∧ digV z ≤ 6) z h
  · intro ⟨h1, h2⟩
    obtain ⟨c, rfl, a, b, e⟩ := digV_in h1
    rw [e] at h1 h2
    have : c = 49 ∨ c = 50 ∨ c = 51 ∨ c = 52 ∨ c = 53 ∨ c = 54 := by omega
    rcases this with rfl | rfl | rfl | rfl | rfl | rfl <;> decide
theorem r__law_plant_fault (ds : List D) (G : GH) (Qd : DK) (Ed : DXK) (h : sp__law_plant_fault ds G Qd Ed) : t__law_plant_fault (rtX Ed) { nx := fun _ G' => rtF Qd .non G', rt := rtF Qd } (dstart N__law_plant_fault ds) G := by
  obtain ⟨ls, rfl, hs, q⟩ := h
  have hz := size_ge
  simp only [t__law_plant_fault, N__law_plant_fault, dVar, dC, dOp, dUn, dTest, dChain, dIsN, dNotN, isNo, dAnd, dOr, dNot, dAndV, dOrV, dNotV, dIf, dNil, dCons, dTup, dLst, dLstM, dNext, dSeq, dBreak, dCont, dDrop, dRet, dRetN, dIfS, gN, gsNil, gsCons, gTu, dAsg, gSubD, dPar, dPar3, dFor, dIter, dRng1, dRng2, dEnum, dZipB, dLc, dLcM, mkL, dCall, dFld, dMeth, dCB, dBM, rSubD, rMulD, rFdivD, rModD, rLtD, rLeD, rGtD, rGeD, rNegD, rEqDD, rNeDD, dSl, dPn, dPs, dRev, rIsiC, dStar, dJoined, dJs, gStar, dMake, mkD, dCMeth, dStore, dDGet, dDisp, dRaise, tyM, dstart, wipeD, List.map, List.replicate, List.cons_append, List.nil_append, List.length_cons, List.length_nil, List.set_cons_zero, List.set_cons_succ, List.getElem?_cons_zero, List.getElem?_cons_succ, Option.some.injEq, exists_eq_left, exists_eq_left', D.bl.injEq, D.int.injEq, D.str.injEq, D.tup.injEq, D.lst.injEq, List.cons.injEq, and_true, true_and, if_true, if_false, Bool.false_eq_true, Bool.not_true, Bool.not_false, Nat.reduceSub, Nat.reduceAdd, Nat.zero_add, isi_non, isi_bl, isi_int, isi_str, isi_tup, isi_lst, mt_bool, mt_int, mt_str, mt_list, mt_tuple, len_str, len_lst, len_tup, int_int, int_bl, int_str, str_int, top_int, top_str, top_bl, top_non, top_lst, top_tup, box_lst, box_tup, lst_lst, seq_lst, seq_tup, seq_str, eq_int, eq_str, ix_tup, ix_lst, ix_str, atD_0, atD_1, atD_2, in_sign, tyM, isT, String.reduceBEq, String.reduceEq, Bool.or_true, Bool.or_false, Bool.true_or, Bool.false_or, Bool.and_true, Bool.and_false, Bool.true_and, Bool.false_and, ix_refI, add_int, add_str, add_lst, sl_str, sl_lst, atD_3, atD_4, pow_int, DO.lst.injEq, D.ref.injEq, updG_same, lst_refI, box_refI, set_refI, int2I, app_refI, ext_refI, splitI, joinI, idxI, ixN_51, ixN_52, ixN_53, ixN_54, ixN_30, ixN_31, ixN_32, okD_intI, okD_blI, okD_nonI, DL.updG2, List.length_set, Option.some.injEq, decide_eq_true_eq, decide_true, decide_false]
  refine ⟨by decide, fun p hp => ⟨by decide, fun c hc => ⟨_, _, _, ⟨rfl, rfl, rfl⟩, ?_⟩⟩⟩
  have ncp : c ≠ p := fun z => by subst z; rw [updG_same] at hc; cases hc
  have hc0 : G c = none := by rwa [updG_ne ncp] at hc
  have hout : ∀ (ns : List (List Nat)) (r : Rows) (d : D), Qd d G → rtF Qd d (updG (updG G p (strsO ns)) c (cntO r)) := fun ns r d q => ⟨d, G, fun x o hx => by
    rw [updG_ne (fun z => by rw [z, hc0] at hx; cases hx), updG_ne (fun z => by rw [z, hp] at hx; cases hx)]
    exact hx, .same d, q⟩
  have hll := hs.1
  refine ⟨by omega, by simp; omega, ?_⟩
  rw [Int.toNat_natCast, List.length_map]
  refine forGo_rng (fun i ρ G1 => ∃ (r : Rows) (last : Nat) (ns : List (List Nat)), rdGo (ls.drop i) (r, last) i = rd ls ∧ r.part ∧ last ≤ 2 ∧ G1 = updG (updG G p (strsO ns)) c (cntO r) ∧ (∀ x, x ∈ ns ↔ x ∈ r.names) ∧ ns.length = r.names.length ∧ ∃ x4 x5 x6, ρ = [some (.lst (ls.map .str)), some (.ref p), some (.ref c), some (.int last), x4, x5, x6])
    (fun i ρ G1 hi ⟨r, last, ns, h1, h2, h3, h4, h5, h6, x4, x5, x6, e⟩ => ⟨trivial, fun K hK => ?_⟩) (fun ρ G1 ⟨r, last, ns, h1, h2, h3, h4, h5, h6, x4, x5, x6, e⟩ => ⟨trivial, ?_⟩) ?_
  · subst e h4
    simp only [dVar, dC, dOp, dUn, dTest, dChain, dIsN, dNotN, isNo, dAnd, dOr, dNot, dAndV, dOrV, dNotV, dIf, dNil, dCons, dTup, dLst, dLstM, dNext, dSeq, dBreak, dCont, dDrop, dRet, dRetN, dIfS, gN, gsNil, gsCons, gTu, dAsg, gSubD, dPar, dPar3, dFor, dIter, dRng1, dRng2, dEnum, dZipB, dLc, dLcM, mkL, dCall, dFld, dMeth, dCB, dBM, rSubD, rMulD, rFdivD, rModD, rLtD, rLeD, rGtD, rGeD, rNegD, rEqDD, rNeDD, dSl, dPn, dPs, dRev, rIsiC, dStar, dJoined, dJs, gStar, dMake, mkD, dCMeth, dStore, dDGet, dDisp, dRaise, tyM, dstart, wipeD, List.map, List.replicate, List.cons_append, List.nil_append, List.length_cons, List.length_nil, List.set_cons_zero, List.set_cons_succ, List.getElem?_cons_zero, List.getElem?_cons_succ, Option.some.injEq, exists_eq_left, exists_eq_left', D.bl.injEq, D.int.injEq, D.str.injEq, D.tup.injEq, D.lst.injEq, List.cons.injEq, and_true, true_and, if_true, if_false, Bool.false_eq_true, Bool.not_true, Bool.not_false, Nat.reduceSub, Nat.reduceAdd, Nat.zero_add, isi_non, isi_bl, isi_int, isi_str, isi_tup, isi_lst, mt_bool, mt_int, mt_str, mt_list, mt_tuple, len_str, len_lst, len_tup, int_int, int_bl, int_str, str_int, top_int, top_str, top_bl, top_non, top_lst, top_tup, box_lst, box_tup, lst_lst, seq_lst, seq_tup, seq_str, eq_int, eq_str, ix_tup, ix_lst, ix_str, atD_0, atD_1, atD_2, in_sign, tyM, isT, String.reduceBEq, String.reduceEq, Bool.or_true, Bool.or_false, Bool.true_or, Bool.false_or, Bool.and_true, Bool.and_false, Bool.true_and, Bool.false_and, ix_refI, add_int, add_str, add_lst, sl_str, sl_lst, atD_3, atD_4, pow_int, DO.lst.injEq, D.ref.injEq, updG_same, lst_refI, box_refI, set_refI, int2I, app_refI, ext_refI, splitI, joinI, idxI, ixN_51, ixN_52, ixN_53, ixN_54, ixN_30, ixN_31, ixN_32, okD_intI, okD_blI, okD_nonI, DL.updG2, List.length_set, Option.some.injEq, decide_eq_true_eq, decide_true, decide_false]
    obtain ⟨x, hx⟩ : ∃ x, ls[i]? = some x := ⟨ls[i], List.getElem?_eq_getElem hi⟩
    have hm : x ∈ ls := List.mem_of_getElem? hx
    have htx := hs.2 x hm
    have htl := htx.1
    have sl := split_len (s := 32) x
    have sm : ∀ l ∈ splitD [32] x, txt l := fun l hl => by
      obtain ⟨a, b⟩ := split_mem hl
      exact ⟨by omega, fun c hc => htx.2 c (b c hc)⟩
    have hne := split_ne (s := 32) x
    refine ⟨.str x, by rw [atD_nat, List.getElem?_map, hx]; rfl, trivial, splitI.mpr ⟨by decide, by decide, by omega, ?_⟩⟩
    have hgo : rdGo (ls.drop i) (r, last) i = (match step1 (r, last) x with
      | some st' => rdGo (ls.drop (i + 1)) st' (i + 1)
      | none => .error i) := by
      rw [List.drop_eq_getElem_cons hi, show ls[i] = x from (List.getElem?_eq_some_iff.mp hx).2]
      rfl
    cases hsp : splitD [32] x with
    | nil => exact absurd hsp hne
    | cons w rest =>
      rw [hsp] at sm sl
      have hbad : step1 (r, last) x = none → rtF Qd (.int i) (updG (updG G p (strsO ns)) c (cntO r)) := fun hb => by
        rw [hgo, hb] at h1
        have ef : fault ls = some i := by unfold fault; rw [← h1]
        rw [ef] at q
        exact hout _ _ _ q
      have hs1 : ∀ k, kindW w = some k → step1 (r, last) x = (stepW r last k rest).map fun r => (r, k) := fun k e => by simp [step1, hsp, e]
      have hs0 : kindW w = none → step1 (r, last) x = none := fun e => by simp [step1, hsp, e]
      have hbk : ∀ k, kindW w = some k → stepW r last k rest = none → rtF Qd (.int i) (updG (updG G p (strsO ns)) c (cntO r)) := fun k e e2 => hbad (by rw [hs1 k e, e2]; rfl)
      have hgk : ∀ k r', kindW w = some k → stepW r last k rest = some r' → rdGo (ls.drop (i + 1)) (r', k) (i + 1) = rd ls := fun k r' e e2 => by
        rw [← h1, hgo, hs1 k e, e2]
        rfl
      have hw : txt w := sm w (by simp)
      have hrs : ∀ l ∈ rest, txt l := fun l hl => sm l (by simp [hl])
      have hws : ∀ y ∈ [sVat, sFloat, sOutlet], ∀ c ∈ y, c < 256 := by decide
      have okw : okD (.str w) := ok_str hw.2
      have hnm : ∀ y ∈ ns, ∀ c ∈ y, c < 256 := fun y hy => chr_lt (h2.ok y ((h5 y).mp hy))
      have hP : updG (updG G p (strsO ns)) c (cntO r) p = some (strsO ns) := by rw [updG_ne (Ne.symm ncp), updG_same]
      have hC : updG (updG G p (strsO ns)) c (cntO r) c = some (cntO r) := updG_same
      refine ix_lst.mpr ⟨.str w, rfl, by omega, in_strs (ys := [sVat, sFloat, sOutlet]) rfl (fun s z => by cases z) hw.2 hws ⟨_, rfl, ?_⟩⟩
      by_cases hk : w ∈ [sVat, sFloat, sOutlet]
      · rw [if_pos (by rw [decide_eq_true hk]; simp)]
        refine ⟨by omega, ⟨_, rfl⟩, ix_lst.mpr ⟨.str w, rfl, ?_⟩⟩
        simp only [List.mem_cons, List.not_mem_nil, or_false] at hk
        rcases hk with rfl | rfl | rfl
        · have ek : kindW sVat = some 0 := rfl
          refine ⟨by decide, okw, 0, by rfl, ?_⟩
          by_cases hj : ((0 : Nat) : Int) < last
          · rw [if_pos hj]
            exact hbk 0 ek (by simp [stepW, show 0 < last by omega])
          · have e0 : ¬ 0 < last := by omega
            rw [if_neg hj]
            refine len_lst.mpr ?_
            rw [if_pos (by decide)]
            refine ⟨rfl, ?_⟩
            by_cases hl : rest.length = 2
            · obtain ⟨n, z, rfl⟩ : ∃ n z, rest = [n, z] := by
                match rest, hl with
                | [n, z], _ => exact ⟨n, z, rfl⟩
              have hst : stepW r last 0 [n, z] = if nameB n && !decide (n ∈ r.names) && decide (r.v.length < 4) && decide (1 ≤ digV z) && decide (digV z ≤ 6) then some { r with v := r.v ++ [(n, digV z)] } else none := by unfold stepW; rw [if_neg e0]; rfl
              rw [if_neg (by simp [eqD, pyD, PyData.eqv, topD])]
              refine ix_lst.mpr ⟨.str n, rfl, n, rfl, hrs n (by simp), _, rfl, ?_⟩
              by_cases c1 : nameB n = true
              · rw [if_neg (by simp [c1])]
                refine ix_lst.mpr ⟨.str n, rfl, in_strs (box_ref hP) (fun s z => by cases z) (hrs n (by simp)).2 hnm ⟨_, rfl, ?_⟩⟩
                by_cases c2 : n ∈ ns
                · rw [if_pos (by simpa using c2)]
                  exact hbk 0 ek (by rw [hst, if_neg (by simp [(h5 n).mp c2])])
                · rw [if_neg (by simpa using c2)]
                  have c2' : n ∉ r.names := fun z => c2 ((h5 n).mpr z)
                  refine ⟨_, hC, _, rfl, ?_⟩
                  rw [if_pos (by decide)]
                  refine int2I.mpr ⟨trivial, _, rfl, ?_⟩
                  by_cases c3 : r.v.length < 4
                  · rw [if_neg (by simp; omega), if_pos (by decide)]
                    refine ix_lst.mpr ⟨.str z, rfl, by omega, in_strs (ys := [[49], [50], [51], [52], [53], [54]]) rfl (fun s z => by cases z) (hrs z (by simp)).2 (by decide) ⟨_, rfl, ?_⟩⟩
                    by_cases c4 : z ∈ ([[49], [50], [51], [52], [53], [54]] : List (List Nat))
                    · rw [if_neg (by rw [decide_eq_true c4]; simp)]
                      obtain ⟨d1, d2⟩ := dig6.mp c4
                      refine ⟨⟨_, hP⟩, ix_lst.mpr ⟨.str n, rfl, _, hP, by have := names_len h2 h6; simp; omega, ?_⟩⟩
                      have hC2 : updG (updG (updG G p (strsO ns)) c (cntO r)) p (DO.lst (ns.map D.str ++ [D.str n])) c = some (cntO r) := by rw [updG_ne ncp, updG_same]
                      have hr' : stepW r last 0 [n, z] = some { r with v := r.v ++ [(n, digV z)] } := by rw [hst, if_pos (by simp [c1, c2', c3, d1, d2])]
                      refine ⟨_, hC2, _, rfl, add_int.mpr ⟨by omega, _, _, ⟨rfl, rfl⟩, _, _, rfl, _, hC2, _, rfl, rfl, hK _ _ ⟨_, 0, ns ++ [n], hgk 0 _ ek hr', step_part h2 hr', by omega, ?_, fun x => ?_, ?_, _, _, _, rfl⟩⟩⟩
                      · rw [updG_comm ncp, DL.updG2, updG_comm (Ne.symm ncp), DL.updG2]
                        simp [strsO, cntO]
                      · have := h5 x
                        simp only [Rows.names, List.map_append, List.mem_append, List.map_cons, List.map_nil, List.mem_singleton] at this ⊢
                        rw [this]
                        grind
                      · simp [Rows.names] at h6 ⊢
                        omega
                    · rw [if_pos (by rw [decide_eq_false c4]; simp)]
                      exact hbk 0 ek (by rw [hst, if_neg (by
                        intro z'
                        simp only [Bool.and_eq_true, decide_eq_true_eq] at z'
                        exact c4 (dig6.mpr ⟨z'.1.2, z'.2⟩))])
                  · rw [if_pos (by simp; omega)]
                    exact hbk 0 ek (by rw [hst, if_neg (by simp [c3])])
              · rw [if_pos (by simpa using c1)]
                exact hbk 0 ek (by rw [hst, if_neg (by simp [c1])])
            · rw [if_pos (by simp [eqD, pyD, PyData.eqv, topD]; omega)]
              refine hbk 0 ek ?_
              unfold stepW
              rw [if_neg e0]
              match rest, hl with
            | [], _ => rfl
            | [_], _ => rfl
            | [_, _], h => exact absurd rfl h
            | _ :: _ :: _ :: _, _ => rfl
        · have ek : kindW sFloat = some 1 := rfl
          refine ⟨by decide, okw, 1, by rfl, ?_⟩
          by_cases hj : ((1 : Nat) : Int) < last
          · rw [if_pos hj]
            exact hbk 1 ek (by simp [stepW, show 1 < last by omega])
          · have e0 : ¬ 1 < last := by omega
            rw [if_neg hj]
            refine len_lst.mpr ?_
            rw [if_neg (by decide)]
            refine ⟨rfl, ?_⟩
            by_cases hl : rest.length = 1
            · obtain ⟨n, rfl⟩ : ∃ n, rest = [n] := by
                match rest, hl with
                | [n], _ => exact ⟨n, rfl⟩
              have hst : stepW r last 1 [n] = if nameB n && !decide (n ∈ r.names) && decide (r.f.length < 2) then some { r with f := r.f ++ [n] } else none := by unfold stepW; rw [if_neg e0]; rfl
              rw [if_neg (by simp [eqD, pyD, PyData.eqv, topD])]
              refine ix_lst.mpr ⟨.str n, rfl, n, rfl, hrs n (by simp), _, rfl, ?_⟩
              by_cases c1 : nameB n = true
              · rw [if_neg (by simp [c1])]
                refine ix_lst.mpr ⟨.str n, rfl, in_strs (box_ref hP) (fun s z => by cases z) (hrs n (by simp)).2 hnm ⟨_, rfl, ?_⟩⟩
                by_cases c2 : n ∈ ns
                · rw [if_pos (by simpa using c2)]
                  exact hbk 1 ek (by rw [hst, if_neg (by simp [(h5 n).mp c2])])
                · rw [if_neg (by simpa using c2)]
                  have c2' : n ∉ r.names := fun z => c2 ((h5 n).mpr z)
                  refine ⟨_, hC, _, rfl, ?_⟩
                  rw [if_neg (by decide)]
                  refine int2I.mpr ⟨trivial, _, rfl, ?_⟩
                  by_cases c3 : r.f.length < 2
                  · rw [if_neg (by simp; omega), if_neg (by decide)]
                    refine ⟨⟨_, hP⟩, ix_lst.mpr ⟨.str n, rfl, _, hP, by have := names_len h2 h6; simp; omega, ?_⟩⟩
                    have hC2 : updG (updG (updG G p (strsO ns)) c (cntO r)) p (DO.lst (ns.map D.str ++ [D.str n])) c = some (cntO r) := by rw [updG_ne ncp, updG_same]
                    have hr' : stepW r last 1 [n] = some { r with f := r.f ++ [n] } := by rw [hst, if_pos (by simp [c1, c2', c3])]
                    refine ⟨_, hC2, _, rfl, add_int.mpr ⟨by omega, _, _, ⟨rfl, rfl⟩, _, _, rfl, _, hC2, _, rfl, rfl, hK _ _ ⟨_, 1, ns ++ [n], hgk 1 _ ek hr', step_part h2 hr', by omega, ?_, fun x => ?_, ?_, _, _, _, rfl⟩⟩⟩
                    · rw [updG_comm ncp, DL.updG2, updG_comm (Ne.symm ncp), DL.updG2]
                      simp [strsO, cntO]
                    · have := h5 x
                      simp only [Rows.names, List.map_append, List.mem_append, List.map_cons, List.map_nil, List.mem_singleton] at this ⊢
                      rw [this]
                      grind
                    · simp [Rows.names] at h6 ⊢
                      omega
                  · rw [if_pos (by simp; omega)]
                    exact hbk 1 ek (by rw [hst, if_neg (by simp [c3])])
              · rw [if_pos (by simpa using c1)]
                exact hbk 1 ek (by rw [hst, if_neg (by simp [c1])])
            · rw [if_pos (by simp [eqD, pyD, PyData.eqv, topD]; omega)]
              refine hbk 1 ek ?_
              unfold stepW
              rw [if_neg e0]
              match rest, hl with
            | [], _ => rfl
            | [_], h => exact absurd rfl h
            | _ :: _ :: _, _ => rfl
        · have ek : kindW sOutlet = some 2 := rfl
          refine ⟨by decide, okw, 2, by rfl, ?_⟩
          by_cases hj : ((2 : Nat) : Int) < last
          · rw [if_pos hj]
            exact hbk 2 ek (by simp [stepW, show 2 < last by omega])
          · have e0 : ¬ 2 < last := by omega
            rw [if_neg hj]
            refine len_lst.mpr ?_
            rw [if_neg (by decide)]
            refine ⟨rfl, ?_⟩
            by_cases hl : rest.length = 1
            · obtain ⟨n, rfl⟩ : ∃ n, rest = [n] := by
                match rest, hl with
                | [n], _ => exact ⟨n, rfl⟩
              have hst : stepW r last 2 [n] = if nameB n && !decide (n ∈ r.names) && decide (r.o.length < 2) then some { r with o := r.o ++ [n] } else none := by unfold stepW; rw [if_neg e0]; rfl
              rw [if_neg (by simp [eqD, pyD, PyData.eqv, topD])]
              refine ix_lst.mpr ⟨.str n, rfl, n, rfl, hrs n (by simp), _, rfl, ?_⟩
              by_cases c1 : nameB n = true
              · rw [if_neg (by simp [c1])]
                refine ix_lst.mpr ⟨.str n, rfl, in_strs (box_ref hP) (fun s z => by cases z) (hrs n (by simp)).2 hnm ⟨_, rfl, ?_⟩⟩
                by_cases c2 : n ∈ ns
                · rw [if_pos (by simpa using c2)]
                  exact hbk 2 ek (by rw [hst, if_neg (by simp [(h5 n).mp c2])])
                · rw [if_neg (by simpa using c2)]
                  have c2' : n ∉ r.names := fun z => c2 ((h5 n).mpr z)
                  refine ⟨_, hC, _, rfl, ?_⟩
                  rw [if_neg (by decide)]
                  refine int2I.mpr ⟨trivial, _, rfl, ?_⟩
                  by_cases c3 : r.o.length < 2
                  · rw [if_neg (by simp; omega), if_neg (by decide)]
                    refine ⟨⟨_, hP⟩, ix_lst.mpr ⟨.str n, rfl, _, hP, by have := names_len h2 h6; simp; omega, ?_⟩⟩
                    have hC2 : updG (updG (updG G p (strsO ns)) c (cntO r)) p (DO.lst (ns.map D.str ++ [D.str n])) c = some (cntO r) := by rw [updG_ne ncp, updG_same]
                    have hr' : stepW r last 2 [n] = some { r with o := r.o ++ [n] } := by rw [hst, if_pos (by simp [c1, c2', c3])]
                    refine ⟨_, hC2, _, rfl, add_int.mpr ⟨by omega, _, _, ⟨rfl, rfl⟩, _, _, rfl, _, hC2, _, rfl, rfl, hK _ _ ⟨_, 2, ns ++ [n], hgk 2 _ ek hr', step_part h2 hr', by omega, ?_, fun x => ?_, ?_, _, _, _, rfl⟩⟩⟩
                    · rw [updG_comm ncp, DL.updG2, updG_comm (Ne.symm ncp), DL.updG2]
                      simp [strsO, cntO]
                    · have := h5 x
                      simp only [Rows.names, List.map_append, List.mem_append, List.map_cons, List.map_nil, List.mem_singleton] at this ⊢
                      rw [this]
                      grind
                    · simp [Rows.names] at h6 ⊢
                      omega
                  · rw [if_pos (by simp; omega)]
                    exact hbk 2 ek (by rw [hst, if_neg (by simp [c3])])
              · rw [if_pos (by simpa using c1)]
                exact hbk 2 ek (by rw [hst, if_neg (by simp [c1])])
            · rw [if_pos (by simp [eqD, pyD, PyData.eqv, topD]; omega)]
              refine hbk 2 ek ?_
              unfold stepW
              rw [if_neg e0]
              match rest, hl with
            | [], _ => rfl
            | [_], h => exact absurd rfl h
            | _ :: _ :: _, _ => rfl
      · rw [if_neg (by simpa using hk)]
        have ek : kindW w = none := by
          simp only [List.mem_cons, List.not_mem_nil, or_false, not_or] at hk
          simp [kindW, hk]
        have hn := hbad (hs0 ek)
        rw [if_pos (by omega)]
        exact hn
  · subst e h4
    rw [List.drop_length] at h1
    have h1' : rd ls = .ok r := h1.symm
    simp only [fault, h1'] at q
    simp only [dVar, dC, dOp, dUn, dTest, dChain, dIsN, dNotN, isNo, dAnd, dOr, dNot, dAndV, dOrV, dNotV, dIf, dNil, dCons, dTup, dLst, dLstM, dNext, dSeq, dBreak, dCont, dDrop, dRet, dRetN, dIfS, gN, gsNil, gsCons, gTu, dAsg, gSubD, dPar, dPar3, dFor, dIter, dRng1, dRng2, dEnum, dZipB, dLc, dLcM, mkL, dCall, dFld, dMeth, dCB, dBM, rSubD, rMulD, rFdivD, rModD, rLtD, rLeD, rGtD, rGeD, rNegD, rEqDD, rNeDD, dSl, dPn, dPs, dRev, rIsiC, dStar, dJoined, dJs, gStar, dMake, mkD, dCMeth, dStore, dDGet, dDisp, dRaise, tyM, dstart, wipeD, List.map, List.replicate, List.cons_append, List.nil_append, List.length_cons, List.length_nil, List.set_cons_zero, List.set_cons_succ, List.getElem?_cons_zero, List.getElem?_cons_succ, Option.some.injEq, exists_eq_left, exists_eq_left', D.bl.injEq, D.int.injEq, D.str.injEq, D.tup.injEq, D.lst.injEq, List.cons.injEq, and_true, true_and, if_true, if_false, Bool.false_eq_true, Bool.not_true, Bool.not_false, Nat.reduceSub, Nat.reduceAdd, Nat.zero_add, isi_non, isi_bl, isi_int, isi_str, isi_tup, isi_lst, mt_bool, mt_int, mt_str, mt_list, mt_tuple, len_str, len_lst, len_tup, int_int, int_bl, int_str, str_int, top_int, top_str, top_bl, top_non, top_lst, top_tup, box_lst, box_tup, lst_lst, seq_lst, seq_tup, seq_str, eq_int, eq_str, ix_tup, ix_lst, ix_str, atD_0, atD_1, atD_2, in_sign, tyM, isT, String.reduceBEq, String.reduceEq, Bool.or_true, Bool.or_false, Bool.true_or, Bool.false_or, Bool.and_true, Bool.and_false, Bool.true_and, Bool.false_and, ix_refI, add_int, add_str, add_lst, sl_str, sl_lst, atD_3, atD_4, pow_int, DO.lst.injEq, D.ref.injEq, updG_same, lst_refI, box_refI, set_refI, int2I, app_refI, ext_refI, splitI, joinI, idxI, ixN_51, ixN_52, ixN_53, ixN_54, ixN_30, ixN_31, ixN_32, okD_intI, okD_blI, okD_nonI, DL.updG2, List.length_set, Option.some.injEq, decide_eq_true_eq, decide_true, decide_false]
    by_cases hv : r.v = []
    · rw [if_neg (by simp [hv])]
      rw [if_pos hv] at q
      rw [List.length_map]
      exact hout _ _ _ q
    · rw [if_pos (by have := List.length_pos_iff.mpr hv; omega)]
      rw [if_neg hv] at q
      exact hout _ _ _ q
  · exact ⟨⟨[], [], []⟩, 0, [], rfl, ⟨by decide, by decide, by decide, by simp, by simp [Rows.names], by simp [Rows.names]⟩, by decide, rfl, by simp [Rows.names], rfl, _, _, _, rfl⟩
def cutN (t : List Nat) : Nat := match fault (splitD [10] t).dropLast with
  | none => (splitD [10] t).dropLast.length
  | some n => n
def sp__law_cut_line : DSp := fun ds G Q E => ∃ t : List Nat, ds = [.str t] ∧ txt t ∧ Q (.int (cutN t)) G
theorem l__law_cut_line {ds G Q Ed} (h : sp__law_cut_line ds G Q Ed) : ds.length = 1 := by
  obtain ⟨_, rfl, _⟩ := h; rfl
abbrev N__law_cut_line : List Str := ["_law_text_y", "_law_lines", "_law_due"]
def t__law_cut_line (Ed : DXK) : DTS := dSeq (dAsg (dSl (dBM "str" rSplitD (dVar 0) (dCons (dC (.str [10])) (dNil))) (dPn) (dPs (dUn rNegD (dC (.int 1))))) (gN 1)) (dSeq (dAsg (dCall sp__law_plant_fault Ed (dCons (dVar 1) (dNil)) []) (gN 2)) (dRet (dIf (dTest (dIsN (dVar 2))) (dCB rLenD (dCons (dVar 1) (dNil))) (dVar 2))))
theorem r__law_cut_line (ds : List D) (G : GH) (Qd : DK) (Ed : DXK) (h : sp__law_cut_line ds G Qd Ed) : t__law_cut_line (rtX Ed) { nx := fun _ G' => rtF Qd .non G', rt := rtF Qd } (dstart N__law_cut_line ds) G := by
  obtain ⟨t, rfl, ht, q⟩ := h
  have hz := size_ge
  have htl := ht.1
  simp only [t__law_cut_line, N__law_cut_line, dVar, dC, dOp, dUn, dTest, dChain, dIsN, dNotN, isNo, dAnd, dOr, dNot, dAndV, dOrV, dNotV, dIf, dNil, dCons, dTup, dLst, dLstM, dNext, dSeq, dBreak, dCont, dDrop, dRet, dRetN, dIfS, gN, gsNil, gsCons, gTu, dAsg, gSubD, dPar, dPar3, dFor, dIter, dRng1, dRng2, dEnum, dZipB, dLc, dLcM, mkL, dCall, dFld, dMeth, dCB, dBM, rSubD, rMulD, rFdivD, rModD, rLtD, rLeD, rGtD, rGeD, rNegD, rEqDD, rNeDD, dSl, dPn, dPs, dRev, rIsiC, dStar, dJoined, dJs, gStar, dMake, mkD, dCMeth, dStore, dDGet, dDisp, dRaise, tyM, dstart, wipeD, List.map, List.replicate, List.cons_append, List.nil_append, List.length_cons, List.length_nil, List.set_cons_zero, List.set_cons_succ, List.getElem?_cons_zero, List.getElem?_cons_succ, Option.some.injEq, exists_eq_left, exists_eq_left', D.bl.injEq, D.int.injEq, D.str.injEq, D.tup.injEq, D.lst.injEq, List.cons.injEq, and_true, true_and, if_true, if_false, Bool.false_eq_true, Bool.not_true, Bool.not_false, Nat.reduceSub, Nat.reduceAdd, Nat.zero_add, isi_non, isi_bl, isi_int, isi_str, isi_tup, isi_lst, mt_bool, mt_int, mt_str, mt_list, mt_tuple, len_str, len_lst, len_tup, int_int, int_bl, int_str, str_int, top_int, top_str, top_bl, top_non, top_lst, top_tup, box_lst, box_tup, lst_lst, seq_lst, seq_tup, seq_str, eq_int, eq_str, ix_tup, ix_lst, ix_str, atD_0, atD_1, atD_2, in_sign, tyM, isT, String.reduceBEq, String.reduceEq, Bool.or_true, Bool.or_false, Bool.true_or, Bool.false_or, Bool.and_true, Bool.and_false, Bool.true_and, Bool.false_and, ix_refI, add_int, add_str, add_lst, sl_str, sl_lst, atD_3, atD_4, pow_int, DO.lst.injEq, D.ref.injEq, updG_same, lst_refI, box_refI, set_refI, int2I, app_refI, ext_refI, splitI, joinI, idxI, ixN_51, ixN_52, ixN_53, ixN_54, ixN_30, ixN_31, ixN_32, okD_intI, okD_blI, okD_nonI, DL.updG2, List.length_set, Option.some.injEq, decide_eq_true_eq, decide_true, decide_false, cut_last]
  have sl := split_len (s := 10) t
  have e0 : (List.map D.str (splitD [10] t)).dropLast = ((splitD [10] t).dropLast).map .str := by simp [List.map_dropLast]
  rw [e0]
  refine ⟨by decide, by decide, by omega, _, rfl, ⟨by simp; omega, fun l hl => ?_⟩, ?_⟩
  · obtain ⟨a, b⟩ := split_mem (List.dropLast_subset _ hl)
    exact ⟨by omega, fun c hc => ht.2 c (b c hc)⟩
  · cases hf : fault (splitD [10] t).dropLast with
    | none =>
      rw [show cutN t = (splitD [10] t).dropLast.length by unfold cutN; rw [hf]] at q
      simpa using rtF_id q
    | some n =>
      rw [show cutN t = n by unfold cutN; rw [hf]] at q
      simpa using rtF_id q
end LK06
set_option Elab.async false
set_option linter.all false
set_option maxRecDepth 100000
set_option maxHeartbeats 1000000
namespace LK06
open PySem DL
/-! ### split and join -/
theorem pre_one {s c : Nat} {r : List Nat} : TL.pre [s] (c :: r) = decide (c = s) := by
  show (List.take 1 (c :: r) == [s]) = _
  by_cases h : c = s <;> simp [h]
theorem spl_cons {s c : Nat} {r acc : List Nat} : TL.spl [s] 0 acc (c :: r) = if c = s then acc :: TL.spl [s] 0 [] r else TL.spl [s] 0 (acc ++ [c]) r := by
  by_cases h : c = s
  · rw [if_pos h, TL.spl_hit (by rw [pre_one]; simpa using h)]
    rfl
  · rw [if_neg h, TL.spl_miss (by rw [pre_one]; simpa using h)]
theorem join_spl {s : Nat} : ∀ (l acc : List Nat), joinD [s] (TL.spl [s] 0 acc l) = acc ++ l
  | [], acc => by rw [TL.spl_nil]; simp [joinD, TL.joinL]
  | c :: l, acc => by
    rw [spl_cons]
    by_cases h : c = s
    · rw [if_pos h]
      have ih := join_spl (s := s) l []
      have hn := (spl1 (s := s) l []).1
      obtain ⟨y, ys, e⟩ := List.exists_cons_of_ne_nil hn
      rw [e] at ih ⊢
      simp only [joinD, TL.joinL] at ih ⊢
      rw [ih, h]
      simp
    · rw [if_neg h, join_spl l (acc ++ [c])]
      simp
/-- what is cut, joined again -/
theorem join_split {s : Nat} (l : List Nat) : joinD [s] (splitD [s] l) = l := join_spl (s := s) l []
theorem spl_free {s : Nat} : ∀ (l acc r : List Nat), s ∉ l → TL.spl [s] 0 acc (l ++ s :: r) = (acc ++ l) :: TL.spl [s] 0 [] r
  | [], acc, r, _ => by rw [List.nil_append, spl_cons, if_pos rfl, List.append_nil]
  | c :: l, acc, r, h => by
    have h1 : c ≠ s := fun z => h (by simp [z])
    have h2 : s ∉ l := fun z => h (by simp [z])
    rw [List.cons_append, spl_cons, if_neg h1, spl_free l _ r h2]
    simp
theorem spl_last {s : Nat} : ∀ (l acc : List Nat), s ∉ l → TL.spl [s] 0 acc l = [acc ++ l]
  | [], acc, _ => by rw [TL.spl_nil, List.append_nil]
  | c :: l, acc, h => by
    have h1 : c ≠ s := fun z => h (by simp [z])
    have h2 : s ∉ l := fun z => h (by simp [z])
    rw [spl_cons, if_neg h1, spl_last l _ h2]
    simp
/-- lines, each ended -/
theorem split_lines {s : Nat} (z : List Nat) (hz : s ∉ z) : ∀ ls : List (List Nat), (∀ l ∈ ls, s ∉ l) → splitD [s] (ls.flatMap (· ++ [s]) ++ z) = ls ++ [z]
  | [], _ => by simpa [splitD] using spl_last z [] hz
  | l :: ls, h => by
    have ih := split_lines z hz ls fun y hy => h y (by simp [hy])
    simp only [splitD] at ih ⊢
    have e : (l :: ls).flatMap (· ++ [s]) ++ z = l ++ s :: (ls.flatMap (· ++ [s]) ++ z) := by simp
    rw [e, spl_free l [] _ (h l (by simp)), ih]
    simp
theorem split_join {s : Nat} : ∀ ws : List (List Nat), ws ≠ [] → (∀ w ∈ ws, s ∉ w) → splitD [s] (joinD [s] ws) = ws
  | [], h, _ => absurd rfl h
  | [w], _, h => by simpa [splitD, joinD, TL.joinL] using spl_last w [] (h w (by simp))
  | w :: v :: ws, _, h => by
    have ih := split_join (v :: ws) (by simp) fun y hy => h y (by simp [hy])
    have e : joinD [s] (w :: v :: ws) = w ++ s :: joinD [s] (v :: ws) := by simp [joinD, TL.joinL]
    rw [e]
    simp only [splitD] at ih ⊢
    rw [spl_free w [] _ (h w (by simp)), ih]
    simp
/-! ### what is read is what is written -/
theorem num_dig {z : List Nat} (h : 1 ≤ digV z) : numD (digV z) = z := by
  obtain ⟨c, rfl, h1, h2, h3⟩ := digV_in h
  rw [h3]
  exact dig_num h1 h2
theorem stepW0 {r r' : Rows} {last : Nat} {rest : List (List Nat)} (h : stepW r last 0 rest = some r') : ∃ n z, rest = [n, z] ∧ (nameB n && !decide (n ∈ r.names) && decide (r.v.length < 4) && decide (1 ≤ digV z) && decide (digV z ≤ 6)) = true ∧ r' = { r with v := r.v ++ [(n, digV z)] } ∧ ¬ 0 < last := by
  unfold stepW at h
  split at h
  · cases h
  · rename_i hl
    match rest, h with
    | [n, z], h =>
      by_cases hc : (nameB n && !decide (n ∈ r.names) && decide (r.v.length < 4) && decide (1 ≤ digV z) && decide (digV z ≤ 6)) = true
      · have h2 := (if_pos hc).symm.trans h
        exact ⟨n, z, rfl, hc, (Option.some.inj h2).symm, hl⟩
      · have h2 := (if_neg hc).symm.trans h
        cases h2
    | [], h => cases h
    | [_], h => cases h
    | _ :: _ :: _ :: _, h => cases h
theorem stepW1 {r r' : Rows} {last : Nat} {rest : List (List Nat)} (h : stepW r last 1 rest = some r') : ∃ n, rest = [n] ∧ (nameB n && !decide (n ∈ r.names) && decide (r.f.length < 2)) = true ∧ r' = { r with f := r.f ++ [n] } ∧ ¬ 1 < last := by
  unfold stepW at h
  split at h
  · cases h
  · rename_i hl
    match rest, h with
    | [n], h =>
      by_cases hc : (nameB n && !decide (n ∈ r.names) && decide (r.f.length < 2)) = true
      · have h2 := (if_pos hc).symm.trans h
        exact ⟨n, rfl, hc, (Option.some.inj h2).symm, hl⟩
      · have h2 := (if_neg hc).symm.trans h
        cases h2
    | [], h => cases h
    | _ :: _ :: _, h => cases h
theorem stepW2 {r r' : Rows} {last : Nat} {rest : List (List Nat)} (h : stepW r last 2 rest = some r') : ∃ n, rest = [n] ∧ (nameB n && !decide (n ∈ r.names) && decide (r.o.length < 2)) = true ∧ r' = { r with o := r.o ++ [n] } ∧ ¬ 2 < last := by
  unfold stepW at h
  split at h
  · cases h
  · rename_i hl
    match rest, h with
    | [n], h =>
      by_cases hc : (nameB n && !decide (n ∈ r.names) && decide (r.o.length < 2)) = true
      · have h2 := (if_pos hc).symm.trans h
        exact ⟨n, rfl, hc, (Option.some.inj h2).symm, hl⟩
      · have h2 := (if_neg hc).symm.trans h
        cases h2
    | [], h => cases h
    | _ :: _ :: _, h => cases h
def Ord (r : Rows) (last : Nat) : Prop := (last < 1 → r.f = []) ∧ (last < 2 → r.o = [])
theorem step_line {r r' : Rows} {last k : Nat} {x : List Nat} (ho : Ord r last) (e : step1 (r, last) x = some (r', k)) : r'.lines = r.lines ++ [x] ∧ Ord r' k := by
  have hj := join_split (s := 32) x
  unfold step1 at e
  split at e
  case h_2 => cases e
  case h_1 w rest hs =>
  rw [hs] at hj
  split at e
  case h_2 => cases e
  case h_1 k' hk =>
  obtain ⟨r1, h1, h2⟩ := Option.map_eq_some_iff.mp e
  cases h2
  have hw : (w = sVat ∧ k = 0) ∨ (w = sFloat ∧ k = 1) ∨ (w = sOutlet ∧ k = 2) := by
    unfold kindW at hk
    split at hk
    · cases hk; exact .inl ⟨by assumption, rfl⟩
    · split at hk
      · cases hk; exact .inr (.inl ⟨by assumption, rfl⟩)
      · split at hk
        · cases hk; exact .inr (.inr ⟨by assumption, rfl⟩)
        · cases hk
  rcases hw with ⟨rfl, rfl⟩ | ⟨rfl, rfl⟩ | ⟨rfl, rfl⟩
  · obtain ⟨n, z, rfl, hc, rfl, hlt⟩ := stepW0 h1
    simp only [Bool.and_eq_true, decide_eq_true_eq] at hc
    obtain ⟨⟨⟨⟨_, _⟩, _⟩, h4⟩, h5⟩ := hc
    have hlt : ¬ 0 < last := hlt
    have hf := ho.1 (by omega)
    have hoo := ho.2 (by omega)
    refine ⟨?_, fun _ => hf, fun _ => hoo⟩
    have ev : vatL (n, digV z) = x := by
      rw [← hj]
      simp [vatL, joinD, TL.joinL, num_dig h4]
    simp [Rows.lines, hf, hoo, ev]
  · obtain ⟨n, rfl, hc, rfl, hlt⟩ := stepW1 h1
    have hlt : ¬ 1 < last := hlt
    have hoo := ho.2 (by omega)
    refine ⟨?_, fun z => by omega, fun _ => hoo⟩
    have ev : sFloat ++ 32 :: n = x := by
      rw [← hj]
      simp [joinD, TL.joinL]
    simp [Rows.lines, hoo, ← ev]
  · obtain ⟨n, rfl, hc, rfl, hlt⟩ := stepW2 h1
    refine ⟨?_, fun z => by omega, fun z => by omega⟩
    have ev : sOutlet ++ 32 :: n = x := by
      rw [← hj]
      simp [joinD, TL.joinL]
    simp [Rows.lines, ← ev]
theorem rdGo_lines : ∀ {ls : List (List Nat)} {r r' : Rows} {last n : Nat}, Ord r last → rdGo ls (r, last) n = .ok r' → r'.lines = r.lines ++ ls
  | [], r, r', last, n, h, e => by
    cases e
    simp
  | l :: ls, r, r', last, n, h, e => by
    unfold rdGo at e
    split at e
    · rename_i st' h1
      obtain ⟨r1, k⟩ := st'
      obtain ⟨h2, h3⟩ := step_line h h1
      rw [rdGo_lines h3 e, h2]
      simp
    · cases e
theorem rd_lines {ls : List (List Nat)} {r : Rows} (e : rd ls = .ok r) : r.lines = ls := by
  have := rdGo_lines (r := ⟨[], [], []⟩) ⟨fun _ => rfl, fun _ => rfl⟩ e
  simpa [Rows.lines] using this
/-! ### what is written is read -/
theorem name_free {s : List Nat} (h : nameB s = true) (c : Nat) (hc : c < 97) : c ∉ s := fun z => by have := (name_len h).2.2 c z; omega
theorem split_vat {p : List Nat × Int} (h : nameB p.1 = true) (h1 : 1 ≤ p.2) (h2 : p.2 ≤ 6) : splitD [32] (vatL p) = [sVat, p.1, numD p.2] := by
  have e : vatL p = joinD [32] [sVat, p.1, numD p.2] := by simp [vatL, joinD, TL.joinL]
  rw [e, split_join _ (by simp)]
  intro w hw
  simp only [List.mem_cons, List.not_mem_nil, or_false] at hw
  rcases hw with rfl | rfl | rfl
  · decide
  · exact name_free h 32 (by omega)
  · rw [num_small h1 h2]
    simp
    omega
theorem split_two_words {w s : List Nat} (h : nameB s = true) (hw : 32 ∉ w) : splitD [32] (w ++ 32 :: s) = [w, s] := by
  have e : w ++ 32 :: s = joinD [32] [w, s] := by simp [joinD, TL.joinL]
  rw [e, split_join _ (by simp)]
  intro v hv
  simp only [List.mem_cons, List.not_mem_nil, or_false] at hv
  rcases hv with rfl | rfl
  · exact hw
  · exact name_free h 32 (by omega)
theorem dig_of {i : Int} (h1 : 1 ≤ i) (h2 : i ≤ 6) : digV (numD i) = i := by
  rw [num_small h1 h2]
  have : i = 1 ∨ i = 2 ∨ i = 3 ∨ i = 4 ∨ i = 5 ∨ i = 6 := by omega
  rcases this with rfl | rfl | rfl | rfl | rfl | rfl <;> decide
theorem nd_mid {a b : List (List Nat)} {x : List Nat} (h : (a ++ x :: b).Nodup) : x ∉ a := fun z => by
  have := (List.nodup_append.mp h).2.2 x z x (by simp)
  exact this rfl
theorem rd_o {v : List (List Nat × Int)} {f : List (List Nat)} : ∀ (os o1 : List (List Nat)) (last n : Nat), last ≤ 2 → Rows.part ⟨v, f, o1 ++ os⟩ → rdGo (os.map fun x => sOutlet ++ 32 :: x) (⟨v, f, o1⟩, last) n = .ok ⟨v, f, o1 ++ os⟩
  | [], o1, last, n, _, _ => by simp [rdGo]
  | x :: os, o1, last, n, hl, h => by
    have hx : nameB x = true := h.ok x (by simp [Rows.names])
    have hn : x ∉ (⟨v, f, o1⟩ : Rows).names := by
      have := h.nd
      simp only [Rows.names] at this ⊢
      rw [← List.append_assoc, ← List.append_assoc] at this
      simpa using nd_mid this
    have hlen : o1.length < 2 := by have := h.o2; simp at this; omega
    have e : step1 (⟨v, f, o1⟩, last) (sOutlet ++ 32 :: x) = some (⟨v, f, o1 ++ [x]⟩, 2) := by
      unfold step1
      rw [split_two_words hx (by decide)]
      simp only [show kindW sOutlet = some 2 from rfl, stepW]
      rw [if_neg (by omega)]
      simp [hx, hn, hlen]
    rw [List.map_cons, rdGo, e]
    have := rd_o (v := v) (f := f) os (o1 ++ [x]) 2 (n + 1) (by omega) (by simpa using h)
    simpa using this
theorem rd_f {v : List (List Nat × Int)} {os : List (List Nat)} : ∀ (fs f1 : List (List Nat)) (last n : Nat), last ≤ 1 → Rows.part ⟨v, f1 ++ fs, os⟩ → rdGo ((fs.map fun x => sFloat ++ 32 :: x) ++ os.map fun x => sOutlet ++ 32 :: x) (⟨v, f1, []⟩, last) n = .ok ⟨v, f1 ++ fs, os⟩
  | [], f1, last, n, hl, h => by simpa using rd_o os [] last n (by omega) (by simpa using h)
  | x :: fs, f1, last, n, hl, h => by
    have hx : nameB x = true := h.ok x (by simp [Rows.names])
    have hn : x ∉ (⟨v, f1, []⟩ : Rows).names := by
      have := h.nd
      simp only [Rows.names] at this ⊢
      rw [List.append_assoc, ← List.append_assoc] at this
      simpa using nd_mid this
    have hlen : f1.length < 2 := by have := h.f2; simp at this; omega
    have e : step1 (⟨v, f1, []⟩, last) (sFloat ++ 32 :: x) = some (⟨v, f1 ++ [x], []⟩, 1) := by
      unfold step1
      rw [split_two_words hx (by decide)]
      simp only [show kindW sFloat = some 1 from rfl, stepW]
      rw [if_neg (by omega)]
      simp [hx, hn, hlen]
    rw [List.map_cons, List.cons_append, rdGo, e]
    have := rd_f (v := v) (os := os) fs (f1 ++ [x]) 1 (n + 1) (by omega) (by simpa using h)
    simpa using this
theorem rd_v {f os : List (List Nat)} : ∀ (vs v1 : List (List Nat × Int)) (n : Nat), Rows.part ⟨v1 ++ vs, f, os⟩ → rdGo (vs.map vatL ++ ((f.map fun x => sFloat ++ 32 :: x) ++ os.map fun x => sOutlet ++ 32 :: x)) (⟨v1, [], []⟩, 0) n = .ok ⟨v1 ++ vs, f, os⟩
  | [], v1, n, h => by simpa using rd_f f [] 0 n (by omega) (by simpa using h)
  | p :: vs, v1, n, h => by
    have hx : nameB p.1 = true := h.ok p.1 (by simp [Rows.names])
    obtain ⟨s1, s2⟩ := h.sz p (by simp)
    have hn : p.1 ∉ (⟨v1, [], []⟩ : Rows).names := by
      have := h.nd
      simp only [Rows.names, List.map_append, List.map_cons, List.append_assoc, List.cons_append] at this ⊢
      simpa using nd_mid this
    have hlen : v1.length < 4 := by have := h.v4; simp at this; omega
    have e : step1 (⟨v1, [], []⟩, 0) (vatL p) = some (⟨v1 ++ [p], [], []⟩, 0) := by
      unfold step1
      rw [split_vat hx s1 s2]
      simp only [show kindW sVat = some 0 from rfl, stepW]
      rw [if_neg (by omega)]
      simp [hx, hn, hlen, dig_of s1 s2, s1, s2]
    rw [List.map_cons, List.cons_append, rdGo, e]
    have := rd_v (f := f) (os := os) vs (v1 ++ [p]) (n + 1) (by simpa using h)
    simpa using this
theorem rd_of {r : Rows} (h : r.part) : rd r.lines = .ok r := rd_v r.v [] 0 h
end LK06
set_option Elab.async false
set_option linter.all false
set_option maxRecDepth 100000
set_option maxHeartbeats 4000000
namespace LK06
open PySem PySem.Spec DL
/-! ### the law's try, its lambdas, the law -/
def csT (K : PySem.W.Frag) : List Value := [.ref (gaS K "LiquidError"), .ref (gaS K "Missing"), .ref (gaS K "NothingLeft")]
abbrev xTab : List (String × Option String) := [("InvalidText", some "line")]
def strsL : List D → Option (List (List Nat))
  | [] => some []
  | .str x :: r => (strsL r).map (x :: ·)
  | _ => none
theorem strsL_eq : ∀ {xs : List D} {ys : List (List Nat)}, strsL xs = some ys → xs = ys.map .str
  | [], ys, h => by cases h; rfl
  | .str x :: r, ys, h => by
    obtain ⟨zs, h1, h2⟩ := Option.map_eq_some_iff.mp h
    rw [← h2, strsL_eq h1, List.map_cons]
theorem in_lits {x : List Nat} {xs : List D} {ys : List (List Nat)} {b : Bool} {G : GH} {Q : DK} (h : strsL xs = some ys) (h1 : ∀ c ∈ x, c < 256) (h2 : ∀ y ∈ ys, ∀ c ∈ y, c < 256) (q : Q (.bl (if b then !decide (x ∈ ys) else decide (x ∈ ys))) G) : rInD b (.str x) (.lst xs) G Q :=
  in_strs (by rw [strsL_eq h]; rfl) (fun s z => by cases z) h1 h2 q
abbrev N__law_field : List Str := ["_law_e"]
def t__law_field (a : Addr) (x : DX) : DTS := dSeq (dIfS (dTest (dOp (rInD false) (dXf a x "code" (dVar 0)) (dLst (dCons (dC (.str [73, 110, 118, 97, 108, 105, 100, 86, 97, 116])) (dCons (dC (.str [73, 110, 118, 97, 108, 105, 100, 70, 108, 111, 97, 116])) (dCons (dC (.str [73, 110, 118, 97, 108, 105, 100, 79, 117, 116, 108, 101, 116])) (dCons (dC (.str [73, 110, 118, 97, 108, 105, 100, 82, 111, 119])) (dCons (dC (.str [73, 110, 118, 97, 108, 105, 100, 71, 105, 118, 101, 110])) (dCons (dC (.str [73, 110, 118, 97, 108, 105, 100, 67, 111, 109, 109, 97, 110, 100])) (dNil)))))))))) (dRet (dXf a x "at" (dVar 0))) (dNext)) (dSeq (dIfS (dTest (dOp (rInD false) (dXf a x "code" (dVar 0)) (dLst (dCons (dC (.str [73, 110, 118, 97, 108, 105, 100, 84, 101, 120, 116])) (dCons (dC (.str [73, 110, 118, 97, 108, 105, 100, 80, 97, 103, 101])) (dNil)))))) (dRet (dXf a x "line" (dVar 0))) (dNext)) (dSeq (dIfS (dTest (dOp (rInD false) (dXf a x "code" (dVar 0)) (dLst (dCons (dC (.str [68, 117, 112, 108, 105, 99, 97, 116, 101, 78, 97, 109, 101])) (dCons (dC (.str [85, 110, 107, 110, 111, 119, 110, 78, 97, 109, 101])) (dNil)))))) (dRet (dXf a x "name" (dVar 0))) (dNext)) (dSeq (dIfS (dTest (dOp rEqDD (dXf a x "code" (dVar 0)) (dC (.str [85, 110, 107, 110, 111, 119, 110, 76, 105, 113, 117, 105, 100])))) (dRet (dXf a x "liquid" (dVar 0))) (dNext)) (dSeq (dIfS (dTest (dOp rEqDD (dXf a x "code" (dVar 0)) (dC (.str [84, 111, 111, 77, 97, 110, 121])))) (dRet (dXf a x "most" (dVar 0))) (dNext)) (dSeq (dIfS (dTest (dOp rEqDD (dXf a x "code" (dVar 0)) (dC (.str [70, 117, 108, 108])))) (dRet (dXf a x "limit" (dVar 0))) (dNext)) (dRet (dIf (dTest (dOp (rInD false) (dXf a x "code" (dVar 0)) (dLst (dCons (dC (.str [79, 116, 104, 101, 114, 80, 108, 97, 110, 116])) (dCons (dC (.str [78, 111, 116, 80, 108, 97, 105, 110])) (dCons (dC (.str [78, 111, 70, 105, 116])) (dCons (dC (.str [78, 111, 116, 104, 105, 110, 103, 76, 101, 102, 116])) (dNil)))))))) (dC .non) (dXf a x "given" (dVar 0)))))))))
theorem r__law_field (a : Addr) (x : DX) (y : D) (G : GH) (Qd : DK) (h : spF xTab x y) (q : Qd y G) : t__law_field a x { nx := fun _ _ => False, rt := Qd } (dstart N__law_field [.ref a]) G := by
  obtain ⟨p, hp, rfl, _⟩ := h
  simp only [List.mem_singleton] at hp
  subst hp
  have hz := size_ge
  simp only [t__law_field, N__law_field, dXf, dVar, dC, dOp, dUn, dTest, dChain, dIsN, dNotN, isNo, dAnd, dOr, dNot, dAndV, dOrV, dNotV, dIf, dNil, dCons, dTup, dLst, dLstM, dNext, dSeq, dBreak, dCont, dDrop, dRet, dRetN, dIfS, gN, gsNil, gsCons, gTu, dAsg, gSubD, dPar, dPar3, dFor, dIter, dRng1, dRng2, dEnum, dZipB, dLc, dLcM, mkL, dCall, dFld, dMeth, dCB, dBM, rSubD, rMulD, rFdivD, rModD, rLtD, rLeD, rGtD, rGeD, rNegD, rEqDD, rNeDD, dSl, dPn, dPs, dRev, rIsiC, dStar, dJoined, dJs, gStar, dMake, mkD, dCMeth, dStore, dDGet, dDisp, dRaise, tyM, dstart, wipeD, List.map, List.replicate, List.cons_append, List.nil_append, List.length_cons, List.length_nil, List.set_cons_zero, List.set_cons_succ, List.getElem?_cons_zero, List.getElem?_cons_succ, Option.some.injEq, exists_eq_left, exists_eq_left', D.bl.injEq, D.int.injEq, D.str.injEq, D.tup.injEq, D.lst.injEq, List.cons.injEq, and_true, true_and, if_true, if_false, Bool.false_eq_true, Bool.not_true, Bool.not_false, Nat.reduceSub, Nat.reduceAdd, Nat.zero_add, isi_non, isi_bl, isi_int, isi_str, isi_tup, isi_lst, mt_bool, mt_int, mt_str, mt_list, mt_tuple, len_str, len_lst, len_tup, int_int, int_bl, int_str, str_int, top_int, top_str, top_bl, top_non, top_lst, top_tup, box_lst, box_tup, lst_lst, seq_lst, seq_tup, seq_str, eq_int, eq_str, ix_tup, ix_lst, ix_str, atD_0, atD_1, atD_2, in_sign, tyM, isT, String.reduceBEq, String.reduceEq, Bool.or_true, Bool.or_false, Bool.true_or, Bool.false_or, Bool.and_true, Bool.and_false, Bool.true_and, Bool.false_and, ix_refI, add_int, add_str, add_lst, sl_str, sl_lst, atD_3, atD_4, pow_int, DO.lst.injEq, D.ref.injEq, updG_same, lst_refI, box_refI, set_refI, int2I, app_refI, ext_refI, splitI, joinI, idxI, ixN_51, ixN_52, ixN_53, ixN_54, ixN_30, ixN_31, ixN_32, okD_intI, okD_blI, okD_nonI, DL.updG2, List.length_set, Option.some.injEq, decide_eq_true_eq, decide_true, decide_false]
  refine ⟨_, rfl, by omega, in_lits rfl (by decide +kernel) (by decide) ⟨_, rfl, ?_⟩⟩
  rw [if_neg (by decide +kernel)]
  refine ⟨_, rfl, by omega, in_lits rfl (by decide +kernel) (by decide) ⟨_, rfl, ?_⟩⟩
  rw [if_pos (by decide +kernel)]
  exact ⟨_, rfl, q⟩
/-! ### what the law's lambdas tell -/
structure okL (ls : List (List Nat)) : Prop where
  len : ls.length ≤ 10
  l : ∀ l ∈ ls, l.length ≤ 30 ∧ ∀ c ∈ l, 32 ≤ c ∧ c < 256
abbrev textL (ls : List (List Nat)) : List Nat := ls.flatMap (· ++ [10])
theorem okL.short {ls : List (List Nat)} (h : okL ls) : short ls := ⟨by have := h.len; omega, fun l hl => ⟨by have := (h.l l hl).1; omega, fun c hc => ((h.l l hl).2 c hc).2⟩⟩
theorem okL.free {ls : List (List Nat)} (h : okL ls) : ∀ l ∈ ls, 10 ∉ l := fun l hl z => by have := ((h.l l hl).2 10 z).1; omega
theorem textL_len {ls : List (List Nat)} (h : ∀ l ∈ ls, l.length ≤ 30) : (textL ls).length ≤ 31 * ls.length := by
  induction ls with
  | nil => simp
  | cons x ls ih =>
    have h1 := h x (by simp)
    have h2 := ih fun y hy => h y (by simp [hy])
    simp only [textL, List.flatMap_cons, List.length_append, List.length_cons, List.length_nil] at h2 ⊢
    omega
theorem textL_ge : ∀ ls : List (List Nat), ls.length ≤ (textL ls).length
  | [] => by simp
  | x :: ls => by
    have := textL_ge ls
    simp only [textL, List.flatMap_cons, List.length_append, List.length_cons, List.length_nil] at this ⊢
    omega
theorem okL.text {ls : List (List Nat)} (h : okL ls) : (textL ls).length ≤ 310 ∧ ∀ c ∈ textL ls, c < 256 := by
  have h1 := textL_len fun l hl => (h.l l hl).1
  have h2 := h.len
  refine ⟨by omega, fun c hc => ?_⟩
  simp only [textL, List.mem_flatMap, List.mem_append, List.mem_singleton] at hc
  obtain ⟨l, hl, hc | hc⟩ := hc
  · exact ((h.l l hl).2 c hc).2
  · omega
theorem readD_lines {ls : List (List Nat)} (h : okL ls) {Q : D → Prop} {E : DX → Prop} (hq : match fault ls with
    | none => ∀ r : Rows, r.good → r.lines = ls → Q (.obj "Plant" r.fs)
    | some n => E (badText n)) : readD (.str (textL ls)) Q E := by
  have hs := split_lines (s := 10) [] (by simp) ls h.free
  rw [List.append_nil] at hs
  obtain ⟨h1, h2⟩ := h.text
  refine ⟨⟨by omega, h2⟩, ?_⟩
  rw [show textL ls = ls.flatMap (· ++ [10]) from rfl, hs]
  simp only [List.dropLast_concat, List.getLast?_concat, if_true]
  cases hr : rd ls with
  | error n =>
    have hf : fault ls = some n := by unfold fault; rw [hr]
    rw [hf] at hq
    exact hq
  | ok r =>
    by_cases hv : r.v = []
    · have hf : fault ls = some ls.length := by unfold fault; rw [hr]; simp [hv]
      rw [hf] at hq
      simpa [hv] using hq
    · have hf : fault ls = none := by unfold fault; rw [hr]; simp [hv]
      rw [hf] at hq
      simpa [hv] using hq r ⟨rd_part hr, hv⟩ (rd_lines hr)
theorem last_spl {s c : Nat} (hc : c ≠ s) : ∀ (l acc : List Nat), ∃ y, (TL.spl [s] 0 acc (l ++ [c])).getLast? = some (y ++ [c])
  | [], acc => ⟨acc, by rw [List.nil_append, spl_cons, if_neg hc, TL.spl_nil]; simp⟩
  | x :: l, acc => by
    rw [List.cons_append, spl_cons]
    by_cases h : x = s
    · rw [if_pos h]
      obtain ⟨y, hy⟩ := last_spl hc l []
      refine ⟨y, ?_⟩
      rw [List.getLast?_cons, hy]
      rfl
    · rw [if_neg h]
      exact last_spl hc l _
theorem readD_cut {t : List Nat} (ht : txt (t ++ [120])) {Q : D → Prop} {E : DX → Prop} (h : E (badText (cutN (t ++ [120])))) : readD (.str (t ++ [120])) Q E := by
  refine ⟨ht, ?_⟩
  obtain ⟨y, hy⟩ := last_spl (s := 10) (c := 120) (by decide) t []
  rw [show splitD [10] (t ++ [120]) = TL.spl [10] 0 [] (t ++ [120]) from rfl, hy]
  rw [if_neg (by simp)]
  unfold cutN fault at h
  rw [show splitD [10] (t ++ [120]) = TL.spl [10] 0 [] (t ++ [120]) from rfl] at h
  cases hr : rd (TL.spl [10] 0 [] (t ++ [120])).dropLast with
  | error n =>
    rw [hr] at h
    exact h
  | ok r =>
    rw [hr] at h
    by_cases hv : r.v = []
    · simpa [hv] using h
    · simpa [hv] using h
def spL_0 : LSp := fun ws G Q E => ∃ ls : List (List Nat), ws = [.lst (ls.map .str)] ∧ okL ls ∧ match fault ls with
  | none => Q (.str (textL ls)) G
  | some n => E (badText n) G
abbrev N_lam0 : List Str := ["_law_lot", "_law_line"]
def t_lam0 (Ed : DXK) : DTE := dMeth "Plant" "text" sp_Plant_text Ed (dCMeth "Plant" sp_Plant_read Ed (dC (.cls "Plant")) (dCons (dBM "str" rJoinD (dC (.str [])) (dCons (dLc (dIter (dVar 0)) (gN 1) (dYes) (dOp rAddD (dVar 1) (dC (.str [10]))) [1]) (dNil))) (dNil))) dNil []
theorem r_lam0 (ws : List D) (G : GH) (Qd : DK) (Ed : DXK) (h : spL_0 ws G Qd Ed) : t_lam0 (rtX Ed) (dstart N_lam0 ([] ++ ws)) G (rtF Qd) := by
  obtain ⟨ls, rfl, hk, q⟩ := h
  have hz := size_ge
  have hl := hk.len
  simp only [t_lam0, N_lam0, dVar, dC, dOp, dUn, dTest, dChain, dIsN, dNotN, isNo, dAnd, dOr, dNot, dAndV, dOrV, dNotV, dIf, dNil, dCons, dTup, dLst, dLstM, dNext, dSeq, dBreak, dCont, dDrop, dRet, dRetN, dIfS, gN, gsNil, gsCons, gTu, dAsg, gSubD, dPar, dPar3, dFor, dIter, dRng1, dRng2, dEnum, dZipB, dLc, dLcM, mkL, dCall, dFld, dMeth, dCB, dBM, rSubD, rMulD, rFdivD, rModD, rLtD, rLeD, rGtD, rGeD, rNegD, rEqDD, rNeDD, dSl, dPn, dPs, dRev, rIsiC, dStar, dJoined, dJs, gStar, dMake, mkD, dCMeth, dStore, dDGet, dDisp, dRaise, tyM, dstart, wipeD, List.map, List.replicate, List.cons_append, List.nil_append, List.length_cons, List.length_nil, List.set_cons_zero, List.set_cons_succ, List.getElem?_cons_zero, List.getElem?_cons_succ, Option.some.injEq, exists_eq_left, exists_eq_left', D.bl.injEq, D.int.injEq, D.str.injEq, D.tup.injEq, D.lst.injEq, List.cons.injEq, and_true, true_and, if_true, if_false, Bool.false_eq_true, Bool.not_true, Bool.not_false, Nat.reduceSub, Nat.reduceAdd, Nat.zero_add, isi_non, isi_bl, isi_int, isi_str, isi_tup, isi_lst, mt_bool, mt_int, mt_str, mt_list, mt_tuple, len_str, len_lst, len_tup, int_int, int_bl, int_str, str_int, top_int, top_str, top_bl, top_non, top_lst, top_tup, box_lst, box_tup, lst_lst, seq_lst, seq_tup, seq_str, eq_int, eq_str, ix_tup, ix_lst, ix_str, atD_0, atD_1, atD_2, in_sign, tyM, isT, String.reduceBEq, String.reduceEq, Bool.or_true, Bool.or_false, Bool.true_or, Bool.false_or, Bool.and_true, Bool.and_false, Bool.true_and, Bool.false_and, ix_refI, add_int, add_str, add_lst, sl_str, sl_lst, atD_3, atD_4, pow_int, DO.lst.injEq, D.ref.injEq, updG_same, lst_refI, box_refI, set_refI, int2I, app_refI, ext_refI, splitI, joinI, idxI, ixN_51, ixN_52, ixN_53, ixN_54, ixN_30, ixN_31, ixN_32, okD_intI, okD_blI, okD_nonI, DL.updG2, List.length_set, Option.some.injEq, decide_eq_true_eq, decide_true, decide_false]
  refine lc_map0 (f := fun l => .str (l ++ [10])) trivial (fun l hl Q' q' => ?_) (by omega) ?_
  · have := (hk.l l hl).1
    simp only [dVar, dC, dOp, dUn, dTest, dChain, dIsN, dNotN, isNo, dAnd, dOr, dNot, dAndV, dOrV, dNotV, dIf, dNil, dCons, dTup, dLst, dLstM, dNext, dSeq, dBreak, dCont, dDrop, dRet, dRetN, dIfS, gN, gsNil, gsCons, gTu, dAsg, gSubD, dPar, dPar3, dFor, dIter, dRng1, dRng2, dEnum, dZipB, dLc, dLcM, mkL, dCall, dFld, dMeth, dCB, dBM, rSubD, rMulD, rFdivD, rModD, rLtD, rLeD, rGtD, rGeD, rNegD, rEqDD, rNeDD, dSl, dPn, dPs, dRev, rIsiC, dStar, dJoined, dJs, gStar, dMake, mkD, dCMeth, dStore, dDGet, dDisp, dRaise, tyM, dstart, wipeD, List.map, List.replicate, List.cons_append, List.nil_append, List.length_cons, List.length_nil, List.set_cons_zero, List.set_cons_succ, List.getElem?_cons_zero, List.getElem?_cons_succ, Option.some.injEq, exists_eq_left, exists_eq_left', D.bl.injEq, D.int.injEq, D.str.injEq, D.tup.injEq, D.lst.injEq, List.cons.injEq, and_true, true_and, if_true, if_false, Bool.false_eq_true, Bool.not_true, Bool.not_false, Nat.reduceSub, Nat.reduceAdd, Nat.zero_add, isi_non, isi_bl, isi_int, isi_str, isi_tup, isi_lst, mt_bool, mt_int, mt_str, mt_list, mt_tuple, len_str, len_lst, len_tup, int_int, int_bl, int_str, str_int, top_int, top_str, top_bl, top_non, top_lst, top_tup, box_lst, box_tup, lst_lst, seq_lst, seq_tup, seq_str, eq_int, eq_str, ix_tup, ix_lst, ix_str, atD_0, atD_1, atD_2, in_sign, tyM, isT, String.reduceBEq, String.reduceEq, Bool.or_true, Bool.or_false, Bool.true_or, Bool.false_or, Bool.and_true, Bool.and_false, Bool.true_and, Bool.false_and, ix_refI, add_int, add_str, add_lst, sl_str, sl_lst, atD_3, atD_4, pow_int, DO.lst.injEq, D.ref.injEq, updG_same, lst_refI, box_refI, set_refI, int2I, app_refI, ext_refI, splitI, joinI, idxI, ixN_51, ixN_52, ixN_53, ixN_54, ixN_30, ixN_31, ixN_32, okD_intI, okD_blI, okD_nonI, DL.updG2, List.length_set, Option.some.injEq, decide_eq_true_eq, decide_true, decide_false]
    exact ⟨by omega, q'⟩
  · have hh := textL_len fun l hl => (hk.l l hl).1
    refine ⟨ls.map (· ++ [10]), by rw [box_lst, List.map_map]; rfl, ?_, .str (textL ls), by rw [join_nil, ← List.flatMap_def], ⟨_, rfl, fun a z => by cases z⟩, readD_lines hk ?_⟩
    · have := sum_le (k := 31) (ys := ls.map (· ++ [10])) fun y hy => by
        obtain ⟨l, hl, rfl⟩ := List.mem_map.mp hy
        have := (hk.l l hl).1
        simp; omega
      simp only [List.length_map] at this
      simp only [List.length_nil, Nat.mul_zero]
      omega
    · cases hf : fault ls with
      | none =>
        rw [hf] at q
        intro r hr e
        refine ⟨_, rfl, rfl, _, r, rfl, rfl, hr, rtF_id ?_⟩
        rw [show r.text = textL ls by rw [Rows.text, e]]
        exact q
      | some n =>
        rw [hf] at q
        exact rtX_id q
def spL_1 : LSp := fun ws G Q E => ∃ t : List Nat, ws = [.str t] ∧ txt (t ++ [120]) ∧ E (badText (cutN (t ++ [120]))) G
abbrev N_lam1 : List Str := ["_law_cut"]
def t_lam1 (Ed : DXK) : DTE := dCMeth "Plant" sp_Plant_read Ed (dC (.cls "Plant")) (dCons (dOp rAddD (dVar 0) (dC (.str [120]))) (dNil))
theorem r_lam1 (ws : List D) (G : GH) (Qd : DK) (Ed : DXK) (h : spL_1 ws G Qd Ed) : t_lam1 (rtX Ed) (dstart N_lam1 ([] ++ ws)) G (rtF Qd) := by
  obtain ⟨t, rfl, ht, q⟩ := h
  have hz := size_ge
  have hl := ht.1
  simp only [List.length_append, List.length_cons, List.length_nil] at hl
  simp only [t_lam1, N_lam1, dVar, dC, dOp, dUn, dTest, dChain, dIsN, dNotN, isNo, dAnd, dOr, dNot, dAndV, dOrV, dNotV, dIf, dNil, dCons, dTup, dLst, dLstM, dNext, dSeq, dBreak, dCont, dDrop, dRet, dRetN, dIfS, gN, gsNil, gsCons, gTu, dAsg, gSubD, dPar, dPar3, dFor, dIter, dRng1, dRng2, dEnum, dZipB, dLc, dLcM, mkL, dCall, dFld, dMeth, dCB, dBM, rSubD, rMulD, rFdivD, rModD, rLtD, rLeD, rGtD, rGeD, rNegD, rEqDD, rNeDD, dSl, dPn, dPs, dRev, rIsiC, dStar, dJoined, dJs, gStar, dMake, mkD, dCMeth, dStore, dDGet, dDisp, dRaise, tyM, dstart, wipeD, List.map, List.replicate, List.cons_append, List.nil_append, List.length_cons, List.length_nil, List.set_cons_zero, List.set_cons_succ, List.getElem?_cons_zero, List.getElem?_cons_succ, Option.some.injEq, exists_eq_left, exists_eq_left', D.bl.injEq, D.int.injEq, D.str.injEq, D.tup.injEq, D.lst.injEq, List.cons.injEq, and_true, true_and, if_true, if_false, Bool.false_eq_true, Bool.not_true, Bool.not_false, Nat.reduceSub, Nat.reduceAdd, Nat.zero_add, isi_non, isi_bl, isi_int, isi_str, isi_tup, isi_lst, mt_bool, mt_int, mt_str, mt_list, mt_tuple, len_str, len_lst, len_tup, int_int, int_bl, int_str, str_int, top_int, top_str, top_bl, top_non, top_lst, top_tup, box_lst, box_tup, lst_lst, seq_lst, seq_tup, seq_str, eq_int, eq_str, ix_tup, ix_lst, ix_str, atD_0, atD_1, atD_2, in_sign, tyM, isT, String.reduceBEq, String.reduceEq, Bool.or_true, Bool.or_false, Bool.true_or, Bool.false_or, Bool.and_true, Bool.and_false, Bool.true_and, Bool.false_and, ix_refI, add_int, add_str, add_lst, sl_str, sl_lst, atD_3, atD_4, pow_int, DO.lst.injEq, D.ref.injEq, updG_same, lst_refI, box_refI, set_refI, int2I, app_refI, ext_refI, splitI, joinI, idxI, ixN_51, ixN_52, ixN_53, ixN_54, ixN_30, ixN_31, ixN_32, okD_intI, okD_blI, okD_nonI, DL.updG2, List.length_set, Option.some.injEq, decide_eq_true_eq, decide_true, decide_false]
  exact ⟨by omega, _, rfl, ⟨_, rfl, fun a z => by cases z⟩, readD_cut ht (rtX_id q)⟩
def spL_2 : LSp := fun ws G Q E => ∃ d, ws = [d] ∧ isVal d G ∧ (∀ s, d = .str s → s = [] ∨ s = [65]) ∧ E (badText 0) G
abbrev N_lam2 : List Str := ["_law_a", "_law_odd_here"]
def t_lam2 (Ed : DXK) : DTE := dCMeth "Plant" sp_Plant_read Ed (dC (.cls "Plant")) (dCons (dVar 1) (dNil))
theorem r_lam2 (ws : List D) (G : GH) (Qd : DK) (Ed : DXK) (h : spL_2 ws G Qd Ed) : t_lam2 (rtX Ed) (dstart N_lam2 ([.int 0] ++ ws)) G (rtF Qd) := by
  obtain ⟨d, rfl, hv, hs, q⟩ := h
  simp only [t_lam2, N_lam2, dVar, dC, dOp, dUn, dTest, dChain, dIsN, dNotN, isNo, dAnd, dOr, dNot, dAndV, dOrV, dNotV, dIf, dNil, dCons, dTup, dLst, dLstM, dNext, dSeq, dBreak, dCont, dDrop, dRet, dRetN, dIfS, gN, gsNil, gsCons, gTu, dAsg, gSubD, dPar, dPar3, dFor, dIter, dRng1, dRng2, dEnum, dZipB, dLc, dLcM, mkL, dCall, dFld, dMeth, dCB, dBM, rSubD, rMulD, rFdivD, rModD, rLtD, rLeD, rGtD, rGeD, rNegD, rEqDD, rNeDD, dSl, dPn, dPs, dRev, rIsiC, dStar, dJoined, dJs, gStar, dMake, mkD, dCMeth, dStore, dDGet, dDisp, dRaise, tyM, dstart, wipeD, List.map, List.replicate, List.cons_append, List.nil_append, List.length_cons, List.length_nil, List.set_cons_zero, List.set_cons_succ, List.getElem?_cons_zero, List.getElem?_cons_succ, Option.some.injEq, exists_eq_left, exists_eq_left', D.bl.injEq, D.int.injEq, D.str.injEq, D.tup.injEq, D.lst.injEq, List.cons.injEq, and_true, true_and, if_true, if_false, Bool.false_eq_true, Bool.not_true, Bool.not_false, Nat.reduceSub, Nat.reduceAdd, Nat.zero_add, isi_non, isi_bl, isi_int, isi_str, isi_tup, isi_lst, mt_bool, mt_int, mt_str, mt_list, mt_tuple, len_str, len_lst, len_tup, int_int, int_bl, int_str, str_int, top_int, top_str, top_bl, top_non, top_lst, top_tup, box_lst, box_tup, lst_lst, seq_lst, seq_tup, seq_str, eq_int, eq_str, ix_tup, ix_lst, ix_str, atD_0, atD_1, atD_2, in_sign, tyM, isT, String.reduceBEq, String.reduceEq, Bool.or_true, Bool.or_false, Bool.true_or, Bool.false_or, Bool.and_true, Bool.and_false, Bool.true_and, Bool.false_and, ix_refI, add_int, add_str, add_lst, sl_str, sl_lst, atD_3, atD_4, pow_int, DO.lst.injEq, D.ref.injEq, updG_same, lst_refI, box_refI, set_refI, int2I, app_refI, ext_refI, splitI, joinI, idxI, ixN_51, ixN_52, ixN_53, ixN_54, ixN_30, ixN_31, ixN_32, okD_intI, okD_blI, okD_nonI, DL.updG2, List.length_set, Option.some.injEq, decide_eq_true_eq, decide_true, decide_false]
  refine ⟨_, rfl, hv, ?_⟩
  have q' : rtX Ed (badText 0) G := rtX_id q
  cases d with
  | str s =>
    rcases hs s rfl with rfl | rfl
    · exact ⟨⟨by decide, by decide⟩, q'⟩
    · exact ⟨⟨by decide, by decide⟩, q'⟩
  | _ => exact q'
def spL_3 : LSp := fun ws G Q E => ws = [] ∧ E (badText 1) G
abbrev N_lam3 : List Str := ["_law_b"]
def t_lam3 (Ed : DXK) : DTE := dCMeth "Plant" sp_Plant_read Ed (dC (.cls "Plant")) (dCons (dC (.str [102, 108, 111, 97, 116, 32, 97, 10])) (dNil))
theorem r_lam3 (ws : List D) (G : GH) (Qd : DK) (Ed : DXK) (h : spL_3 ws G Qd Ed) : t_lam3 (rtX Ed) (dstart N_lam3 ([.int 0] ++ ws)) G (rtF Qd) := by
  obtain ⟨rfl, q⟩ := h
  simp only [t_lam3, N_lam3, dVar, dC, dOp, dUn, dTest, dChain, dIsN, dNotN, isNo, dAnd, dOr, dNot, dAndV, dOrV, dNotV, dIf, dNil, dCons, dTup, dLst, dLstM, dNext, dSeq, dBreak, dCont, dDrop, dRet, dRetN, dIfS, gN, gsNil, gsCons, gTu, dAsg, gSubD, dPar, dPar3, dFor, dIter, dRng1, dRng2, dEnum, dZipB, dLc, dLcM, mkL, dCall, dFld, dMeth, dCB, dBM, rSubD, rMulD, rFdivD, rModD, rLtD, rLeD, rGtD, rGeD, rNegD, rEqDD, rNeDD, dSl, dPn, dPs, dRev, rIsiC, dStar, dJoined, dJs, gStar, dMake, mkD, dCMeth, dStore, dDGet, dDisp, dRaise, tyM, dstart, wipeD, List.map, List.replicate, List.cons_append, List.nil_append, List.length_cons, List.length_nil, List.set_cons_zero, List.set_cons_succ, List.getElem?_cons_zero, List.getElem?_cons_succ, Option.some.injEq, exists_eq_left, exists_eq_left', D.bl.injEq, D.int.injEq, D.str.injEq, D.tup.injEq, D.lst.injEq, List.cons.injEq, and_true, true_and, if_true, if_false, Bool.false_eq_true, Bool.not_true, Bool.not_false, Nat.reduceSub, Nat.reduceAdd, Nat.zero_add, isi_non, isi_bl, isi_int, isi_str, isi_tup, isi_lst, mt_bool, mt_int, mt_str, mt_list, mt_tuple, len_str, len_lst, len_tup, int_int, int_bl, int_str, str_int, top_int, top_str, top_bl, top_non, top_lst, top_tup, box_lst, box_tup, lst_lst, seq_lst, seq_tup, seq_str, eq_int, eq_str, ix_tup, ix_lst, ix_str, atD_0, atD_1, atD_2, in_sign, tyM, isT, String.reduceBEq, String.reduceEq, Bool.or_true, Bool.or_false, Bool.true_or, Bool.false_or, Bool.and_true, Bool.and_false, Bool.true_and, Bool.false_and, ix_refI, add_int, add_str, add_lst, sl_str, sl_lst, atD_3, atD_4, pow_int, DO.lst.injEq, D.ref.injEq, updG_same, lst_refI, box_refI, set_refI, int2I, app_refI, ext_refI, splitI, joinI, idxI, ixN_51, ixN_52, ixN_53, ixN_54, ixN_30, ixN_31, ixN_32, okD_intI, okD_blI, okD_nonI, DL.updG2, List.length_set, Option.some.injEq, decide_eq_true_eq, decide_true, decide_false]
  have e : ([102, 108, 111, 97, 116, 32, 97, 10] : List Nat) = textL [[102, 108, 111, 97, 116, 32, 97]] := rfl
  rw [e]
  refine ⟨_, rfl, ⟨_, rfl, fun a z => by cases z⟩, readD_lines ⟨by decide, by decide⟩ ?_⟩
  rw [show fault [[102, 108, 111, 97, 116, 32, 97]] = some 1 by decide +kernel]
  exact rtX_id q
theorem okL_lines {r : Rows} (h : r.part) : okL r.lines := by
  obtain ⟨h1, h2⟩ := lines_ok h
  exact ⟨by omega, fun l hl => ⟨by have := (h2 l hl).len; omega, fun c hc => by have := (h2 l hl).chr c hc; omega⟩⟩
theorem readD_made {r : Rows} (h : r.good) {Q : D → Prop} {E : DX → Prop} (q : Q (.obj "Plant" r.fs)) : readD (.str (textL r.lines)) Q E := by
  refine readD_lines (okL_lines h.p) ?_
  have e := rd_of h.p
  have hf : fault r.lines = none := by unfold fault; rw [e]; simp [h.v1]
  rw [hf]
  intro r' h1 h2
  have e2 := rd_of h1.p
  rw [h2, e] at e2
  cases e2
  exact q
def badL : List (List Nat) := [[], [118, 97, 116], [118, 97, 116, 32, 113, 32, 48], [118, 97, 116, 32, 113, 32, 55], [118, 97, 116, 32, 113, 32, 48, 49], [118, 97, 116, 32, 81, 32, 49], [118, 97, 116, 32, 113, 32, 49, 32, 49], [102, 108, 111, 97, 116], [102, 108, 111, 97, 116, 32, 81], [102, 108, 111, 97, 116, 32, 113, 32, 113], [111, 117, 116, 108, 101, 116], [111, 117, 116, 108, 101, 116, 32, 51], [86, 97, 116, 32, 113, 32, 49], [32, 118, 97, 116, 32, 113, 32, 49], [118, 97, 116, 32, 113, 32, 32, 49], [118, 97, 116, 32, 113, 32, 49, 32], [118, 97, 116, 32, 113], [102, 108, 111, 97, 116, 32, 113, 113], [111, 117, 116, 108, 101, 116, 32, 113, 113, 113], [118, 97, 116, 32, 113, 113, 113, 113, 113, 32, 54]]
theorem badL_ok : ∀ s ∈ badL, s.length ≤ 30 ∧ ∀ c ∈ s, 32 ≤ c ∧ c < 256 := by decide
abbrev N_law : List Str := (["_law_script", "_law_bag", "_law_turn", "_law_spec", "_law_lines", "_law_text_z", "_law_made", "_law_at", "_law_bad", "_law_spot", "_law_lots", "_law_lot", "_law_due", "_law_found"] : List Str) ++ (["_law_cut", "_law_odd_here", "_law_asks", "_law_line"] : List Str)
def t_law (P : Program) (w : World) (K : PySem.W.Frag) (mg : Str → Option Value) (base : Heap) (T : Addr) (q : Str) (sc : Scope) (pr0 : Arguments) (bo0 : Expr) (ls0 : Scope) (pr1 : Arguments) (bo1 : Expr) (ls1 : Scope) (pr2 : Arguments) (bo2 : Expr) (ls2 : Scope) (pr3 : Arguments) (bo3 : Expr) (ls3 : Scope) (cells : List (Str × Addr)) : DTS := dSeq (dAsg (dCall sp__law_start Ed0 (dCons (dVar 0) (dNil)) []) (gN 1)) (dSeq (dFor (dRng1 (dCons (dC (.int 5)) (dNil))) (gN 2) (dSeq (dAsg (dCall sp__law_plant Ed0 (dCons (dVar 1) (dCons (dLst (dCons (dC (.int 4)) (dCons (dC (.int 6)) (dCons (dC (.int 2)) (dCons (dC (.int 2)) (dNil)))))) (dNil))) []) (gN 3)) (dSeq (dAsg (dCall sp__law_plant_lines Ed0 (dCons (dVar 3) (dNil)) []) (gN 4)) (dSeq (dAsg (dBM "str" rJoinD (dC (.str [])) (dCons (dLc (dIter (dVar 4)) (gN 17) (dYes) (dOp rAddD (dVar 17) (dC (.str [10]))) [17]) (dNil))) (gN 5)) (dSeq (dAsg (dCall sp__law_made_plant Ed0 (dCons (dVar 3) (dNil)) []) (gN 6)) (dSeq (dIfS (dOr (dNot (dTest (dCall (sp__law_same 3) Ed0 (dCons (dLst (dCons (dMeth "Plant" "text" sp_Plant_text Ed0 (dVar 6) dNil []) (dCons (dMeth "Plant" "text" sp_Plant_text Ed0 (dCMeth "Plant" sp_Plant_read Ed0 (dC (.cls "Plant")) (dCons (dVar 5) (dNil))) dNil []) (dNil)))) (dCons (dLst (dCons (dVar 5) (dCons (dVar 5) (dNil)))) (dNil))) []))) (dTest (dOp (rOwnD "Plant" sp_Plant___eq__ true) (dCMeth "Plant" sp_Plant_read Ed0 (dC (.cls "Plant")) (dCons (dVar 5) (dNil))) (dVar 6)))) (dRet (dC (.bl false))) (dNext)) (dSeq (dAsg (dCall sp__law_pull Ed0 (dCons (dVar 1) (dCons (dOp rAddD (dCB rLenD (dCons (dVar 4) (dNil))) (dC (.int 1))) (dNil))) []) (gN 7)) (dSeq (dAsg (dCall sp__law_pick Ed0 (dCons (dVar 1) (dCons (dLst (dCons (dC (.str [])) (dCons (dC (.str [118, 97, 116])) (dCons (dC (.str [118, 97, 116, 32, 113, 32, 48])) (dCons (dC (.str [118, 97, 116, 32, 113, 32, 55])) (dCons (dC (.str [118, 97, 116, 32, 113, 32, 48, 49])) (dCons (dC (.str [118, 97, 116, 32, 81, 32, 49])) (dCons (dC (.str [118, 97, 116, 32, 113, 32, 49, 32, 49])) (dCons (dC (.str [102, 108, 111, 97, 116])) (dCons (dC (.str [102, 108, 111, 97, 116, 32, 81])) (dCons (dC (.str [102, 108, 111, 97, 116, 32, 113, 32, 113])) (dCons (dC (.str [111, 117, 116, 108, 101, 116])) (dCons (dC (.str [111, 117, 116, 108, 101, 116, 32, 51])) (dCons (dC (.str [86, 97, 116, 32, 113, 32, 49])) (dCons (dC (.str [32, 118, 97, 116, 32, 113, 32, 49])) (dCons (dC (.str [118, 97, 116, 32, 113, 32, 32, 49])) (dCons (dC (.str [118, 97, 116, 32, 113, 32, 49, 32])) (dCons (dC (.str [118, 97, 116, 32, 113])) (dCons (dC (.str [102, 108, 111, 97, 116, 32, 113, 113])) (dCons (dC (.str [111, 117, 116, 108, 101, 116, 32, 113, 113, 113])) (dCons (dC (.str [118, 97, 116, 32, 113, 113, 113, 113, 113, 32, 54])) (dNil)))))))))))))))))))))) (dNil))) []) (gN 8)) (dSeq (dAsg (dCall sp__law_pull Ed0 (dCons (dVar 1) (dCons (dCB rLenD (dCons (dVar 4) (dNil))) (dNil))) []) (gN 9)) (dSeq (dAsg (dLst (dCons (dOp rAddD (dOp rAddD (dSl (dVar 4) (dPn) (dPs (dVar 7))) (dLst (dCons (dVar 8) (dNil)))) (dSl (dVar 4) (dPs (dVar 7)) (dPn))) (dCons (dOp rAddD (dSl (dVar 4) (dPn) (dPs (dVar 9))) (dSl (dVar 4) (dPs (dOp rAddD (dVar 9) (dC (.int 1)))) (dPn))) (dCons (dOp rAddD (dOp rAddD (dSl (dVar 4) (dPn) (dPs (dVar 9))) (dLst (dCons (dOp rIxD (dVar 4) (dVar 9)) (dNil)))) (dSl (dVar 4) (dPs (dVar 9)) (dPn))) (dCons (dRev (dVar 4)) (dNil)))))) (gN 10)) (dSeq (dFor (dIter (dVar 10)) (gN 11) (dSeq (dAsg (dCall sp__law_plant_fault Ed0 (dCons (dVar 11) (dNil)) []) (gN 12)) (dSeq (dAsg (dBound P w K mg base 12 N_law sc cells (bdTry K (csT K) (spF xTab)) (dLam T (fun _ _ => q) q cells pr0 bo0 ls0 false)) (gN 13)) (dIfS (dNot (dTest (dCall (sp__law_same 3) Ed0 (dCons (dVar 13) (dCons (dIf (dTest (dIsN (dVar 12))) (dTup (dCons (dC (.str [])) (dCons (dBM "str" rJoinD (dC (.str [])) (dCons (dLc (dIter (dVar 11)) (gN 17) (dYes) (dOp rAddD (dVar 17) (dC (.str [10]))) [17]) (dNil))) (dNil)))) (dTup (dCons (dC (.str [73, 110, 118, 97, 108, 105, 100, 84, 101, 120, 116])) (dCons (dVar 12) (dNil))))) (dNil))) []))) (dRet (dC (.bl false))) (dNext))))) (dSeq (dAsg (dSl (dVar 5) (dPn) (dPs (dCall sp__law_pull Ed0 (dCons (dVar 1) (dCons (dCB rLenD (dCons (dVar 5) (dNil))) (dNil))) []))) (gN 14)) (dSeq (dAsg (dCall sp__law_odd Ed0 (dCons (dVar 1) (dCons (dLst (dCons (dLst (dCons (dVar 5) (dNil))) (dCons (dTup (dCons (dVar 5) (dNil))) (dNil)))) (dNil))) []) (gN 15)) (dSeq (dAsg (dLst (dCons (dLam T (fun _ _ => q) q cells pr1 bo1 ls1 false) (dCons (dLam T (fun _ _ => q) q cells pr2 bo2 ls2 true) (dCons (dLam T (fun _ _ => q) q cells pr3 bo3 ls3 true) (dNil))))) (gN 16)) (dSeq (dAsg (dLst (dCons (dTup (dCons (dC (.str [73, 110, 118, 97, 108, 105, 100, 84, 101, 120, 116])) (dCons (dCall sp__law_cut_line Ed0 (dCons (dOp rAddD (dVar 14) (dC (.str [120]))) (dNil)) []) (dNil)))) (dCons (dTup (dCons (dC (.str [73, 110, 118, 97, 108, 105, 100, 84, 101, 120, 116])) (dCons (dC (.int 0)) (dNil)))) (dCons (dTup (dCons (dC (.str [73, 110, 118, 97, 108, 105, 100, 84, 101, 120, 116])) (dCons (dC (.int 1)) (dNil)))) (dNil))))) (gN 12)) (dIfS (dNot (dTest (dCall (sp__law_same 3) Ed0 (dCons (dBound P w K mg base 12 N_law sc cells (bdTries K (csT K) (spF xTab)) (dVar 16)) (dCons (dVar 12) (dNil))) []))) (dRet (dC (.bl false))) (dNext))))))))))))))))) (dRet (dC (.bl true))))
structure LawF (P : Program) (w : World) (K : PySem.W.Frag) (mg : Str → Option Value) (base : Heap) (q : Str) (sc : Scope) (pr0 : Arguments) (bo0 : Expr) (ls0 : Scope) (pr1 : Arguments) (bo1 : Expr) (ls1 : Scope) (pr2 : Arguments) (bo2 : Expr) (ls2 : Scope) (pr3 : Arguments) (bo3 : Expr) (ls3 : Scope) : Prop where
  ex : ∀ p ∈ xTab, PySem.W.exmAny K (.ref (gaS K p.1)) (csT K) = some true
  xf : XfAll K xTab
  l0 : ∀ (cl : List (Str × Addr)) (c : Addr) (T : Option Addr), T.isSome = false → LOk P w K mg base 12 ⟨q, pr0, bo0, ls0, cl, c, T⟩ ["_law_lot"] spL_0
  n0 : NdefX.ndefB sc ls0 ["_law_lot"] = true
  d0 : ∀ m, ((L2.cloFrom (cellsFrom (m + 1) sc.names []) ls0.names []).map (·.1)).Nodup
  l1 : ∀ (cl : List (Str × Addr)) (c : Addr) (T : Option Addr), T.isSome = false → LOk P w K mg base 12 ⟨q, pr1, bo1, ls1, cl, c, T⟩ ["_law_cut"] spL_1
  n1 : NdefX.ndefB sc ls1 ["_law_cut"] = true
  d1 : ∀ m, ((L2.cloFrom (cellsFrom (m + 1) sc.names []) ls1.names []).map (·.1)).Nodup
  l2 : ∀ (cl : List (Str × Addr)) (c : Addr) (T : Option Addr), T.isSome = true → LOk P w K mg base 12 ⟨q, pr2, bo2, ls2, cl, c, T⟩ ["_law_odd_here"] spL_2
  n2 : NdefX.ndefB sc ls2 ["_law_odd_here"] = true
  d2 : ∀ m, ((L2.cloFrom (cellsFrom (m + 1) sc.names []) ls2.names []).map (·.1)).Nodup
  l3 : ∀ (cl : List (Str × Addr)) (c : Addr) (T : Option Addr), T.isSome = true → LOk P w K mg base 12 ⟨q, pr3, bo3, ls3, cl, c, T⟩ [] spL_3
  n3 : NdefX.ndefB sc ls3 [] = true
  d3 : ∀ m, ((L2.cloFrom (cellsFrom (m + 1) sc.names []) ls3.names []).map (·.1)).Nodup
abbrev sInv : List Nat := [73, 110, 118, 97, 108, 105, 100, 84, 101, 120, 116]
theorem strN_inv : strN "InvalidText" = sInv := by decide +kernel
theorem try_exc {K : PySem.W.Frag} (ex : ∀ p ∈ xTab, PySem.W.exmAny K (.ref (gaS K p.1)) (csT K) = some true) (xf : XfAll K xTab) {c : Clo} {s : LSp} {G : GH} {Qd : DK} (n : Nat) (h : ∀ (Q : DK) (E : DXK), E (badText n) G → s c.ws G Q E) (q : Qd (.tup [.str sInv, .int n]) G) : tryD K (csT K) (spF xTab) (c, s) G Qd := by
  refine h _ _ ⟨ex ("InvalidText", some "line") (by simp), xf.all ("InvalidText", some "line") (by simp) "code" (by decide), .int n, .str (strN "InvalidText"), ⟨("InvalidText", some "line"), by simp, rfl, fun z => by cases z⟩, rfl, ?_⟩
  rw [strN_inv]
  exact q
theorem mono_0 (ws : List D) (G : GH) (Q Q' : DK) (E E' : DXK) (h1 : ∀ d G', Q d G' → Q' d G') (h2 : ∀ x G', E x G' → E' x G') (h : spL_0 ws G Q E) : spL_0 ws G Q' E' := by
  obtain ⟨ls, e, h3, h4⟩ := h
  refine ⟨ls, e, h3, ?_⟩
  cases hf : fault ls with
  | none => rw [hf] at h4; exact h1 _ _ h4
  | some n => rw [hf] at h4; exact h2 _ _ h4
theorem mono_1 (ws : List D) (G : GH) (Q Q' : DK) (E E' : DXK) (h1 : ∀ d G', Q d G' → Q' d G') (h2 : ∀ x G', E x G' → E' x G') (h : spL_1 ws G Q E) : spL_1 ws G Q' E' := by
  obtain ⟨t, e, h3, h4⟩ := h
  exact ⟨t, e, h3, h2 _ _ h4⟩
theorem mono_2 (ws : List D) (G : GH) (Q Q' : DK) (E E' : DXK) (h1 : ∀ d G', Q d G' → Q' d G') (h2 : ∀ x G', E x G' → E' x G') (h : spL_2 ws G Q E) : spL_2 ws G Q' E' := by
  obtain ⟨t, e, h3, h5, h4⟩ := h
  exact ⟨t, e, h3, h5, h2 _ _ h4⟩
theorem mono_3 (ws : List D) (G : GH) (Q Q' : DK) (E E' : DXK) (h1 : ∀ d G', Q d G' → Q' d G') (h2 : ∀ x G', E x G' → E' x G') (h : spL_3 ws G Q E) : spL_3 ws G Q' E' := ⟨h.1, h2 _ _ h.2⟩
theorem odd_val {z : List Nat} {x : D} (h : x ∈ [D.non, .bl true, .bl false, .str [], .str [65], .int (-1), .tup [.int 1, .str [97]], .lst [.int 1], .tup [], .lst [.str [97]], .int (10 ^ 17)] ++ [D.lst [.str z], .tup [.str z]]) (G : GH) : isVal x G ∧ ∀ s, x = .str s → s = [] ∨ s = [65] := by
  simp only [List.mem_append, List.mem_cons, List.not_mem_nil, or_false] at h
  rcases h with (rfl | rfl | rfl | rfl | rfl | rfl | rfl | rfl | rfl | rfl | rfl) | rfl | rfl
  all_goals exact ⟨⟨_, rfl, fun a z => by cases z⟩, fun s z => by cases z <;> first | exact .inl rfl | exact .inr rfl⟩
theorem r_law {P : Program} {w : World} {K : PySem.W.Frag} {mg : Str → Option Value} {base : Heap} {T : Addr} {q : Str} {sc : Scope} {pr0 : Arguments} {bo0 : Expr} {ls0 : Scope} {pr1 : Arguments} {bo1 : Expr} {ls1 : Scope} {pr2 : Arguments} {bo2 : Expr} {ls2 : Scope} {pr3 : Arguments} {bo3 : Expr} {ls3 : Scope} (Z : LawF P w K mg base q sc pr0 bo0 ls0 pr1 bo1 ls1 pr2 bo2 ls2 pr3 bo3 ls3)
    (m : Nat) (ns : List Int) (G : GH) (hl : ns.length ≤ 63) (hb : ∀ z ∈ ns, Builtin.Int.intBits z ≤ 1048576) (hT : G T = some (.tab fun _ _ => q)) (hG : ∀ b, b ≠ T → G b = none) :
    t_law P w K mg base T q sc pr0 bo0 ls0 pr1 bo1 ls1 pr2 bo2 ls2 pr3 bo3 ls3 (cellsFrom (m + 1) sc.names []) { nx := fun _ _ => False, rt := fun d _ => d = .bl true } (dstart N_law [.scr (ns.map .int)]) G := by
  have hz := size_ge
  simp only [t_law, N_law, dVar, dC, dOp, dUn, dTest, dChain, dIsN, dNotN, isNo, dAnd, dOr, dNot, dAndV, dOrV, dNotV, dIf, dNil, dCons, dTup, dLst, dLstM, dNext, dSeq, dBreak, dCont, dDrop, dRet, dRetN, dIfS, gN, gsNil, gsCons, gTu, dAsg, gSubD, dPar, dPar3, dFor, dIter, dRng1, dRng2, dEnum, dZipB, dLc, dLcM, mkL, dCall, dFld, dMeth, dCB, dBM, rSubD, rMulD, rFdivD, rModD, rLtD, rLeD, rGtD, rGeD, rNegD, rEqDD, rNeDD, dSl, dPn, dPs, dRev, rIsiC, dStar, dJoined, dJs, gStar, dMake, mkD, dCMeth, dStore, dDGet, dDisp, dRaise, tyM, dstart, wipeD, List.map, List.replicate, List.cons_append, List.nil_append, List.length_cons, List.length_nil, List.set_cons_zero, List.set_cons_succ, List.getElem?_cons_zero, List.getElem?_cons_succ, Option.some.injEq, exists_eq_left, exists_eq_left', D.bl.injEq, D.int.injEq, D.str.injEq, D.tup.injEq, D.lst.injEq, List.cons.injEq, and_true, true_and, if_true, if_false, Bool.false_eq_true, Bool.not_true, Bool.not_false, Nat.reduceSub, Nat.reduceAdd, Nat.zero_add, isi_non, isi_bl, isi_int, isi_str, isi_tup, isi_lst, mt_bool, mt_int, mt_str, mt_list, mt_tuple, len_str, len_lst, len_tup, int_int, int_bl, int_str, str_int, top_int, top_str, top_bl, top_non, top_lst, top_tup, box_lst, box_tup, lst_lst, seq_lst, seq_tup, seq_str, eq_int, eq_str, ix_tup, ix_lst, ix_str, atD_0, atD_1, atD_2, in_sign, tyM, isT, String.reduceBEq, String.reduceEq, Bool.or_true, Bool.or_false, Bool.true_or, Bool.false_or, Bool.and_true, Bool.and_false, Bool.true_and, Bool.false_and, ix_refI, add_int, add_str, add_lst, sl_str, sl_lst, atD_3, atD_4, pow_int, DO.lst.injEq, D.ref.injEq, updG_same, lst_refI, box_refI, set_refI, int2I, app_refI, ext_refI, splitI, joinI, idxI, ixN_51, ixN_52, ixN_53, ixN_54, ixN_30, ixN_31, ixN_32, okD_intI, okD_blI, okD_nonI, DL.updG2, List.length_set, Option.some.injEq, decide_eq_true_eq, decide_true, decide_false]
  refine ⟨ns, rfl, by omega, fun b o hb hbag => ⟨by decide, by decide, ?_⟩⟩
  have hbT : b ≠ T := fun z => by rw [z, hT] at hb; cases hb
  show forGo _ _ _ _ (rngD 0 (5 : Nat)) _ _
  refine forGo_rng (fun i ρ G1 => ∃ o, Bag (25 * i) o ∧ G1 = updG G b o ∧ ∃ x2 x3 x4 x5 x6 x7 x8 x9 x10 x11 x12 x13 x14 x15 x16 x17, ρ = [some (.scr (ns.map .int)), some (.ref b), x2, x3, x4, x5, x6, x7, x8, x9, x10, x11, x12, x13, x14, x15, x16, x17])
    (fun i ρ G1 hi ⟨o, h1, h2, x2, x3, x4, x5, x6, x7, x8, x9, x10, x11, x12, x13, x14, x15, x16, x17, e⟩ => ⟨trivial, fun KK hK => ?_⟩)
    (fun ρ G1 ⟨o, h1, h2, x2, x3, x4, x5, x6, x7, x8, x9, x10, x11, x12, x13, x14, x15, x16, x17, e⟩ => ⟨trivial, rfl⟩)
    ⟨o, hbag, rfl, _, _, _, _, _, _, _, _, _, _, _, _, _, _, _, _, rfl⟩
  subst h2 e
  simp only [dVar, dC, dOp, dUn, dTest, dChain, dIsN, dNotN, isNo, dAnd, dOr, dNot, dAndV, dOrV, dNotV, dIf, dNil, dCons, dTup, dLst, dLstM, dNext, dSeq, dBreak, dCont, dDrop, dRet, dRetN, dIfS, gN, gsNil, gsCons, gTu, dAsg, gSubD, dPar, dPar3, dFor, dIter, dRng1, dRng2, dEnum, dZipB, dLc, dLcM, mkL, dCall, dFld, dMeth, dCB, dBM, rSubD, rMulD, rFdivD, rModD, rLtD, rLeD, rGtD, rGeD, rNegD, rEqDD, rNeDD, dSl, dPn, dPs, dRev, rIsiC, dStar, dJoined, dJs, gStar, dMake, mkD, dCMeth, dStore, dDGet, dDisp, dRaise, tyM, dstart, wipeD, List.map, List.replicate, List.cons_append, List.nil_append, List.length_cons, List.length_nil, List.set_cons_zero, List.set_cons_succ, List.getElem?_cons_zero, List.getElem?_cons_succ, Option.some.injEq, exists_eq_left, exists_eq_left', D.bl.injEq, D.int.injEq, D.str.injEq, D.tup.injEq, D.lst.injEq, List.cons.injEq, and_true, true_and, if_true, if_false, Bool.false_eq_true, Bool.not_true, Bool.not_false, Nat.reduceSub, Nat.reduceAdd, Nat.zero_add, isi_non, isi_bl, isi_int, isi_str, isi_tup, isi_lst, mt_bool, mt_int, mt_str, mt_list, mt_tuple, len_str, len_lst, len_tup, int_int, int_bl, int_str, str_int, top_int, top_str, top_bl, top_non, top_lst, top_tup, box_lst, box_tup, lst_lst, seq_lst, seq_tup, seq_str, eq_int, eq_str, ix_tup, ix_lst, ix_str, atD_0, atD_1, atD_2, in_sign, tyM, isT, String.reduceBEq, String.reduceEq, Bool.or_true, Bool.or_false, Bool.true_or, Bool.false_or, Bool.and_true, Bool.and_false, Bool.true_and, Bool.false_and, ix_refI, add_int, add_str, add_lst, sl_str, sl_lst, atD_3, atD_4, pow_int, DO.lst.injEq, D.ref.injEq, updG_same, lst_refI, box_refI, set_refI, int2I, app_refI, ext_refI, splitI, joinI, idxI, ixN_51, ixN_52, ixN_53, ixN_54, ixN_30, ixN_31, ixN_32, okD_intI, okD_blI, okD_nonI, DL.updG2, List.length_set, Option.some.injEq, decide_eq_true_eq, decide_true, decide_false]
  refine ⟨by omega, b, 25 * i, rfl, by omega, ⟨by omega, o, updG_same, h1⟩, fun r o2 hr ho2 => ?_⟩
  rw [DL.updG2]
  have hL := okL_lines hr.p
  have hLl := hL.len
  have hL0 : 0 < r.lines.length := by
    have := List.length_pos_iff.mpr hr.v1
    simp [Rows.lines]
    omega
  have hT2 := hL.text
  refine ⟨r, rfl, hr, _, rfl, lc_map0 (f := fun l => .str (l ++ [10])) rfl (fun l hl Q' q' => ?_) (by omega) ?_⟩
  · have := (hL.l l hl).1
    simp only [dVar, dC, dOp, dUn, dTest, dChain, dIsN, dNotN, isNo, dAnd, dOr, dNot, dAndV, dOrV, dNotV, dIf, dNil, dCons, dTup, dLst, dLstM, dNext, dSeq, dBreak, dCont, dDrop, dRet, dRetN, dIfS, gN, gsNil, gsCons, gTu, dAsg, gSubD, dPar, dPar3, dFor, dIter, dRng1, dRng2, dEnum, dZipB, dLc, dLcM, mkL, dCall, dFld, dMeth, dCB, dBM, rSubD, rMulD, rFdivD, rModD, rLtD, rLeD, rGtD, rGeD, rNegD, rEqDD, rNeDD, dSl, dPn, dPs, dRev, rIsiC, dStar, dJoined, dJs, gStar, dMake, mkD, dCMeth, dStore, dDGet, dDisp, dRaise, tyM, dstart, wipeD, List.map, List.replicate, List.cons_append, List.nil_append, List.length_cons, List.length_nil, List.set_cons_zero, List.set_cons_succ, List.getElem?_cons_zero, List.getElem?_cons_succ, Option.some.injEq, exists_eq_left, exists_eq_left', D.bl.injEq, D.int.injEq, D.str.injEq, D.tup.injEq, D.lst.injEq, List.cons.injEq, and_true, true_and, if_true, if_false, Bool.false_eq_true, Bool.not_true, Bool.not_false, Nat.reduceSub, Nat.reduceAdd, Nat.zero_add, isi_non, isi_bl, isi_int, isi_str, isi_tup, isi_lst, mt_bool, mt_int, mt_str, mt_list, mt_tuple, len_str, len_lst, len_tup, int_int, int_bl, int_str, str_int, top_int, top_str, top_bl, top_non, top_lst, top_tup, box_lst, box_tup, lst_lst, seq_lst, seq_tup, seq_str, eq_int, eq_str, ix_tup, ix_lst, ix_str, atD_0, atD_1, atD_2, in_sign, tyM, isT, String.reduceBEq, String.reduceEq, Bool.or_true, Bool.or_false, Bool.true_or, Bool.false_or, Bool.and_true, Bool.and_false, Bool.true_and, Bool.false_and, ix_refI, add_int, add_str, add_lst, sl_str, sl_lst, atD_3, atD_4, pow_int, DO.lst.injEq, D.ref.injEq, updG_same, lst_refI, box_refI, set_refI, int2I, app_refI, ext_refI, splitI, joinI, idxI, ixN_51, ixN_52, ixN_53, ixN_54, ixN_30, ixN_31, ixN_32, okD_intI, okD_blI, okD_nonI, DL.updG2, List.length_set, Option.some.injEq, decide_eq_true_eq, decide_true, decide_false]
    exact ⟨by omega, q'⟩
  refine ⟨r.lines.map (· ++ [10]), by rw [box_lst, List.map_map]; rfl, ?_, r, rfl, hr, _, rfl, rfl, _, r, rfl, rfl, hr, ?_⟩
  · have := sum_le (k := 31) (ys := r.lines.map (· ++ [10])) fun y hy => by
      obtain ⟨l, hl, rfl⟩ := List.mem_map.mp hy
      have := (hL.l l hl).1
      simp; omega
    simp only [List.length_map] at this
    omega
  have ej : joinD [] (r.lines.map (· ++ [10])) = textL r.lines := by rw [join_nil, ← List.flatMap_def]
  have et : r.text = textL r.lines := rfl
  rw [ej, et]
  have rdv : ∀ {Q : D → Prop} {E : DX → Prop}, Q (.obj "Plant" r.fs) → ∃ d, [D.cls "Plant", D.str (textL r.lines)] = [.cls "Plant", d] ∧ isVal d (updG G b o2) ∧ readD d Q E := fun q => ⟨_, rfl, ⟨_, rfl, fun a z => by cases z⟩, readD_made hr q⟩
  refine rdv ⟨_, rfl, rfl, _, r, rfl, rfl, hr, by omega, by omega, _, _, rfl, ⟨by simp, ?_⟩, ⟨by simp, ?_⟩, fun bb hbb => ?_⟩
  · intro x hx
    simp only [List.mem_cons, List.not_mem_nil, or_false] at hx
    rcases hx with rfl | rfl
    · exact hT2.2
    · exact hT2.2
  · intro x hx
    simp only [List.mem_cons, List.not_mem_nil, or_false] at hx
    rcases hx with rfl | rfl
    · exact hT2.2
    · exact hT2.2
  have ebb : bb = true := hbb.mpr (by rw [et])
  refine ⟨_, rfl, ?_⟩
  rw [ebb, if_neg (by simp)]
  refine rdv ⟨⟨_, rfl⟩, ⟨_, rfl⟩, _, _, r, r, rfl, rfl, rfl, hr, hr, fun b2 hb2 => ⟨_, rfl, _, rfl, ?_⟩⟩
  rw [hb2.mpr rfl, if_neg (by simp)]
  simp only [dVar, dC, dOp, dUn, dTest, dChain, dIsN, dNotN, isNo, dAnd, dOr, dNot, dAndV, dOrV, dNotV, dIf, dNil, dCons, dTup, dLst, dLstM, dNext, dSeq, dBreak, dCont, dDrop, dRet, dRetN, dIfS, gN, gsNil, gsCons, gTu, dAsg, gSubD, dPar, dPar3, dFor, dIter, dRng1, dRng2, dEnum, dZipB, dLc, dLcM, mkL, dCall, dFld, dMeth, dCB, dBM, rSubD, rMulD, rFdivD, rModD, rLtD, rLeD, rGtD, rGeD, rNegD, rEqDD, rNeDD, dSl, dPn, dPs, dRev, rIsiC, dStar, dJoined, dJs, gStar, dMake, mkD, dCMeth, dStore, dDGet, dDisp, dRaise, tyM, dstart, wipeD, List.map, List.replicate, List.cons_append, List.nil_append, List.length_cons, List.length_nil, List.set_cons_zero, List.set_cons_succ, List.getElem?_cons_zero, List.getElem?_cons_succ, Option.some.injEq, exists_eq_left, exists_eq_left', D.bl.injEq, D.int.injEq, D.str.injEq, D.tup.injEq, D.lst.injEq, List.cons.injEq, and_true, true_and, if_true, if_false, Bool.false_eq_true, Bool.not_true, Bool.not_false, Nat.reduceSub, Nat.reduceAdd, Nat.zero_add, isi_non, isi_bl, isi_int, isi_str, isi_tup, isi_lst, mt_bool, mt_int, mt_str, mt_list, mt_tuple, len_str, len_lst, len_tup, int_int, int_bl, int_str, str_int, top_int, top_str, top_bl, top_non, top_lst, top_tup, box_lst, box_tup, lst_lst, seq_lst, seq_tup, seq_str, eq_int, eq_str, ix_tup, ix_lst, ix_str, atD_0, atD_1, atD_2, in_sign, tyM, isT, String.reduceBEq, String.reduceEq, Bool.or_true, Bool.or_false, Bool.true_or, Bool.false_or, Bool.and_true, Bool.and_false, Bool.true_and, Bool.false_and, ix_refI, add_int, add_str, add_lst, sl_str, sl_lst, atD_3, atD_4, pow_int, DO.lst.injEq, D.ref.injEq, updG_same, lst_refI, box_refI, set_refI, int2I, app_refI, ext_refI, splitI, joinI, idxI, ixN_51, ixN_52, ixN_53, ixN_54, ixN_30, ixN_31, ixN_32, okD_intI, okD_blI, okD_nonI, DL.updG2, List.length_set, Option.some.injEq, decide_eq_true_eq, decide_true, decide_false]
  refine ⟨b, 25 * i + 20, _, rfl, ⟨by omega, o2, updG_same, ho2⟩, by omega, by simp; omega, fun at_ o3 hat ho3 => ?_⟩
  rw [DL.updG2]
  refine ⟨by omega, b, 25 * i + 20 + 1, _, badL.map .str, rfl, ⟨by omega, o3, updG_same, ho3⟩, .inl rfl, by simp [badL], by simp [badL], fun bad o4 hbad ho4 => ?_⟩
  obtain ⟨bs, hbs, rfl⟩ := List.mem_map.mp hbad
  have hbk := badL_ok bs hbs
  rw [DL.updG2]
  refine ⟨b, 25 * i + 20 + 1 + 1, _, rfl, ⟨by omega, o4, updG_same, ho4⟩, by simp; omega, by simp; omega, fun sp o5 hsp ho5 => ?_⟩
  rw [DL.updG2]
  refine ⟨_, rfl, by omega, ?_⟩
  have lt : ∀ k : Nat, (cutD (r.lines.map D.str) none (some (k : Int))).length ≤ 10 := fun k => by rw [cut_map, cut_to]; simp; omega
  have ld : ∀ k : Nat, (cutD (r.lines.map D.str) (some (k : Int)) none).length ≤ 10 := fun k => by rw [cut_map, cut_from]; simp; omega
  have l1 := lt at_
  have l2 := ld at_
  have l3 := lt sp
  have l4 := ld sp
  have l5 := ld (sp + 1)
  have hspl : sp < r.lines.length := by simp at hsp; omega
  obtain ⟨l, hl⟩ : ∃ l, r.lines[sp]? = some l := ⟨r.lines[sp], List.getElem?_eq_getElem hspl⟩
  have hlm : l ∈ r.lines := List.mem_of_getElem? hl
  refine ⟨by omega, _, rfl, by simp only [List.length_append, List.length_cons, List.length_nil]; omega, _, rfl, add_int.mpr ⟨((sp + 1 : Nat) : Int), rfl, by omega, _, rfl, ix_lst.mpr ⟨.str l, by rw [atD_nat, List.getElem?_map, hl]; rfl, by omega, by omega, _, rfl, by simp only [List.length_append, List.length_cons, List.length_nil]; omega, by omega, ?_⟩⟩⟩
  simp only [cut_map, cut_to, cut_from]
  have eLots : [D.lst (List.take at_ (List.map D.str r.lines) ++ [D.str bs] ++ List.drop at_ (List.map D.str r.lines)), D.lst (List.take sp (List.map D.str r.lines) ++ List.drop (sp + 1) (List.map D.str r.lines)), D.lst (List.take sp (List.map D.str r.lines) ++ [D.str l] ++ List.drop sp (List.map D.str r.lines)), D.lst (List.map D.str r.lines).reverse] =
      [r.lines.take at_ ++ [bs] ++ r.lines.drop at_, r.lines.take sp ++ r.lines.drop (sp + 1), r.lines.take sp ++ [l] ++ r.lines.drop sp, r.lines.reverse].map fun ls => D.lst (ls.map D.str) := by
    simp [List.map_take, List.map_drop]
  rw [eLots]
  have hmem : ∀ (ls : List (List Nat)), (∀ y ∈ ls, y ∈ r.lines ∨ y = bs ∨ y = l) → ls.length ≤ 10 → okL ls := fun ls h1 h2 => ⟨h2, fun y hy => by
    rcases h1 y hy with h | rfl | rfl
    · exact hL.l y h
    · exact hbk
    · exact hL.l y hlm⟩
  have hlots : ∀ ls ∈ [r.lines.take at_ ++ [bs] ++ r.lines.drop at_, r.lines.take sp ++ r.lines.drop (sp + 1), r.lines.take sp ++ [l] ++ r.lines.drop sp, r.lines.reverse], okL ls := by
    intro ls hls
    have hL8 := (lines_ok hr.p).1
    simp only [List.mem_cons, List.not_mem_nil, or_false] at hls
    rcases hls with rfl | rfl | rfl | rfl
    · refine hmem _ (fun y hy => ?_) (by simp; omega)
      simp only [List.mem_append, List.mem_singleton] at hy
      rcases hy with (hy | hy) | hy
      · exact .inl (List.mem_of_mem_take hy)
      · exact .inr (.inl hy)
      · exact .inl (List.mem_of_mem_drop hy)
    · refine hmem _ (fun y hy => ?_) (by simp; omega)
      simp only [List.mem_append] at hy
      rcases hy with hy | hy
      · exact .inl (List.mem_of_mem_take hy)
      · exact .inl (List.mem_of_mem_drop hy)
    · refine hmem _ (fun y hy => ?_) (by simp; omega)
      simp only [List.mem_append, List.mem_singleton] at hy
      rcases hy with (hy | hy) | hy
      · exact .inl (List.mem_of_mem_take hy)
      · exact .inr (.inr hy)
      · exact .inl (List.mem_of_mem_drop hy)
    · exact hmem _ (fun y hy => .inl (by simpa using hy)) (by simp; omega)
  refine forGo_inv (fun rem ρ G1 => G1 = updG G b o5 ∧ (∀ ls ∈ rem, okL ls) ∧ ∃ y3 y4 y6 y7 y8 y9 y10 y11 y12 y13 y14 y15 y16 y17, ρ = [some (.scr (ns.map .int)), some (.ref b), some (.int i), y3, y4, some (.str (textL r.lines)), y6, y7, y8, y9, y10, y11, y12, y13, y14, y15, y16, y17])
    (fun ls rem ρ G1 ⟨e1, e2, y3, y4, y6, y7, y8, y9, y10, y11, y12, y13, y14, y15, y16, y17, e3⟩ => ⟨trivial, fun KK' hK' => ?_⟩)
    (fun ρ G1 ⟨e1, e2, y3, y4, y6, y7, y8, y9, y10, y11, y12, y13, y14, y15, y16, y17, e3⟩ => ⟨trivial, ?_⟩) _ _ _ ⟨rfl, hlots, _, _, _, _, _, _, _, _, _, _, _, _, _, _, rfl⟩
  · subst e1 e3
    simp only [dVar, dC, dOp, dUn, dTest, dChain, dIsN, dNotN, isNo, dAnd, dOr, dNot, dAndV, dOrV, dNotV, dIf, dNil, dCons, dTup, dLst, dLstM, dNext, dSeq, dBreak, dCont, dDrop, dRet, dRetN, dIfS, gN, gsNil, gsCons, gTu, dAsg, gSubD, dPar, dPar3, dFor, dIter, dRng1, dRng2, dEnum, dZipB, dLc, dLcM, mkL, dCall, dFld, dMeth, dCB, dBM, rSubD, rMulD, rFdivD, rModD, rLtD, rLeD, rGtD, rGeD, rNegD, rEqDD, rNeDD, dSl, dPn, dPs, dRev, rIsiC, dStar, dJoined, dJs, gStar, dMake, mkD, dCMeth, dStore, dDGet, dDisp, dRaise, tyM, dstart, wipeD, List.map, List.replicate, List.cons_append, List.nil_append, List.length_cons, List.length_nil, List.set_cons_zero, List.set_cons_succ, List.getElem?_cons_zero, List.getElem?_cons_succ, Option.some.injEq, exists_eq_left, exists_eq_left', D.bl.injEq, D.int.injEq, D.str.injEq, D.tup.injEq, D.lst.injEq, List.cons.injEq, and_true, true_and, if_true, if_false, Bool.false_eq_true, Bool.not_true, Bool.not_false, Nat.reduceSub, Nat.reduceAdd, Nat.zero_add, isi_non, isi_bl, isi_int, isi_str, isi_tup, isi_lst, mt_bool, mt_int, mt_str, mt_list, mt_tuple, len_str, len_lst, len_tup, int_int, int_bl, int_str, str_int, top_int, top_str, top_bl, top_non, top_lst, top_tup, box_lst, box_tup, lst_lst, seq_lst, seq_tup, seq_str, eq_int, eq_str, ix_tup, ix_lst, ix_str, atD_0, atD_1, atD_2, in_sign, tyM, isT, String.reduceBEq, String.reduceEq, Bool.or_true, Bool.or_false, Bool.true_or, Bool.false_or, Bool.and_true, Bool.and_false, Bool.true_and, Bool.false_and, ix_refI, add_int, add_str, add_lst, sl_str, sl_lst, atD_3, atD_4, pow_int, DO.lst.injEq, D.ref.injEq, updG_same, lst_refI, box_refI, set_refI, int2I, app_refI, ext_refI, splitI, joinI, idxI, ixN_51, ixN_52, ixN_53, ixN_54, ixN_30, ixN_31, ixN_32, okD_intI, okD_blI, okD_nonI, DL.updG2, List.length_set, Option.some.injEq, decide_eq_true_eq, decide_true, decide_false]
    have hls := e2 ls (by simp)
    have hGT : updG G b o5 T = some (.tab fun _ _ => q) := by rw [updG_ne (Ne.symm hbT)]; exact hT
    have htl := hls.text
    have hll := hls.len
    have fin : ∀ (dd d11 d13 : D), KK' [some (.scr (ns.map .int)), some (.ref b), some (.int i), y3, y4, some (.str (textL r.lines)), y6, y7, y8, y9, y10, some d11, some dd, some d13, y14, y15, y16, y17] (updG G b o5) := fun dd d11 d13 => hK' _ _ ⟨rfl, fun ls' h => e2 ls' (by simp [h]), _, _, _, _, _, _, _, _, _, _, _, _, _, _, rfl⟩
    refine ⟨ls, rfl, hls.short, hGT, fun c' T' hT' => ⟨[(⟨⟨q, pr0, bo0, ls0, L2.cloFrom (cellsFrom (m + 1) sc.names []) ls0.names [], c', T'⟩, ["_law_lot"], [.lst (ls.map .str)]⟩, spL_0)], fun p hp => ?_, ?_⟩⟩
    · rw [List.mem_singleton.mp hp]
      exact ⟨⟨Z.l0 _ c' T' hT', Z.d0 m, mono_0⟩, rfl, Z.n0, [11], rfl, rfl⟩
    · refine ⟨_, List.mem_singleton.mpr rfl, rfl, ?_⟩
      cases hf : fault ls with
      | none =>
        refine ⟨ls, rfl, hls, ?_⟩
        rw [hf]
        simp only [if_true]
        refine lc_map0 (f := fun l => .str (l ++ [10])) trivial (fun l hl Q' q' => ?_) (by omega) ?_
        · have := (hls.l l hl).1
          simp only [dVar, dC, dOp, dUn, dTest, dChain, dIsN, dNotN, isNo, dAnd, dOr, dNot, dAndV, dOrV, dNotV, dIf, dNil, dCons, dTup, dLst, dLstM, dNext, dSeq, dBreak, dCont, dDrop, dRet, dRetN, dIfS, gN, gsNil, gsCons, gTu, dAsg, gSubD, dPar, dPar3, dFor, dIter, dRng1, dRng2, dEnum, dZipB, dLc, dLcM, mkL, dCall, dFld, dMeth, dCB, dBM, rSubD, rMulD, rFdivD, rModD, rLtD, rLeD, rGtD, rGeD, rNegD, rEqDD, rNeDD, dSl, dPn, dPs, dRev, rIsiC, dStar, dJoined, dJs, gStar, dMake, mkD, dCMeth, dStore, dDGet, dDisp, dRaise, tyM, dstart, wipeD, List.map, List.replicate, List.cons_append, List.nil_append, List.length_cons, List.length_nil, List.set_cons_zero, List.set_cons_succ, List.getElem?_cons_zero, List.getElem?_cons_succ, Option.some.injEq, exists_eq_left, exists_eq_left', D.bl.injEq, D.int.injEq, D.str.injEq, D.tup.injEq, D.lst.injEq, List.cons.injEq, and_true, true_and, if_true, if_false, Bool.false_eq_true, Bool.not_true, Bool.not_false, Nat.reduceSub, Nat.reduceAdd, Nat.zero_add, isi_non, isi_bl, isi_int, isi_str, isi_tup, isi_lst, mt_bool, mt_int, mt_str, mt_list, mt_tuple, len_str, len_lst, len_tup, int_int, int_bl, int_str, str_int, top_int, top_str, top_bl, top_non, top_lst, top_tup, box_lst, box_tup, lst_lst, seq_lst, seq_tup, seq_str, eq_int, eq_str, ix_tup, ix_lst, ix_str, atD_0, atD_1, atD_2, in_sign, tyM, isT, String.reduceBEq, String.reduceEq, Bool.or_true, Bool.or_false, Bool.true_or, Bool.false_or, Bool.and_true, Bool.and_false, Bool.true_and, Bool.false_and, ix_refI, add_int, add_str, add_lst, sl_str, sl_lst, atD_3, atD_4, pow_int, DO.lst.injEq, D.ref.injEq, updG_same, lst_refI, box_refI, set_refI, int2I, app_refI, ext_refI, splitI, joinI, idxI, ixN_51, ixN_52, ixN_53, ixN_54, ixN_30, ixN_31, ixN_32, okD_intI, okD_blI, okD_nonI, DL.updG2, List.length_set, Option.some.injEq, decide_eq_true_eq, decide_true, decide_false]
          exact ⟨by omega, q'⟩
        refine ⟨ls.map (· ++ [10]), by rw [box_lst, List.map_map]; rfl, ?_, by omega, _, _, rfl, ⟨by simp, ?_⟩, ⟨by simp, ?_⟩, fun bb hbb => ⟨_, rfl, ?_⟩⟩
        · have := sum_le (k := 31) (ys := ls.map (· ++ [10])) fun y hy => by
            obtain ⟨l, hl, rfl⟩ := List.mem_map.mp hy
            have := (hls.l l hl).1
            simp; omega
          simp only [List.length_map] at this
          omega
        · intro x hx
          simp only [List.mem_cons, List.not_mem_nil, or_false] at hx
          rcases hx with rfl | rfl
          · exact fun c hc => by cases hc
          · exact htl.2
        · intro x hx
          simp only [List.mem_cons, List.not_mem_nil, or_false] at hx
          rcases hx with rfl | rfl
          · exact fun c hc => by cases hc
          · rw [join_nil, ← List.flatMap_def]
            exact htl.2
        · rw [hbb.mpr (by rw [join_nil, ← List.flatMap_def]), if_neg (by simp)]
          exact fin _ _ _
      | some n =>
        refine try_exc Z.ex Z.xf n (fun Q E h => ⟨ls, rfl, hls, by rw [hf]; exact h⟩) ?_
        simp only [if_false, Bool.false_eq_true]
        refine ⟨by omega, _, _, rfl, ⟨by simp, ?_⟩, ⟨by simp, ?_⟩, fun bb hbb => ⟨_, rfl, ?_⟩⟩
        · intro x hx
          simp only [List.mem_cons, List.not_mem_nil, or_false] at hx
          rcases hx with rfl | rfl
          · exact (by decide : ∀ c ∈ sInv, c < 256)
          · trivial
        · intro x hx
          simp only [List.mem_cons, List.not_mem_nil, or_false] at hx
          rcases hx with rfl | rfl
          · exact (by decide : ∀ c ∈ sInv, c < 256)
          · trivial
        · rw [hbb.mpr rfl, if_neg (by simp)]
          exact fin _ _ _
  · subst e1 e3
    simp only [dVar, dC, dOp, dUn, dTest, dChain, dIsN, dNotN, isNo, dAnd, dOr, dNot, dAndV, dOrV, dNotV, dIf, dNil, dCons, dTup, dLst, dLstM, dNext, dSeq, dBreak, dCont, dDrop, dRet, dRetN, dIfS, gN, gsNil, gsCons, gTu, dAsg, gSubD, dPar, dPar3, dFor, dIter, dRng1, dRng2, dEnum, dZipB, dLc, dLcM, mkL, dCall, dFld, dMeth, dCB, dBM, rSubD, rMulD, rFdivD, rModD, rLtD, rLeD, rGtD, rGeD, rNegD, rEqDD, rNeDD, dSl, dPn, dPs, dRev, rIsiC, dStar, dJoined, dJs, gStar, dMake, mkD, dCMeth, dStore, dDGet, dDisp, dRaise, tyM, dstart, wipeD, List.map, List.replicate, List.cons_append, List.nil_append, List.length_cons, List.length_nil, List.set_cons_zero, List.set_cons_succ, List.getElem?_cons_zero, List.getElem?_cons_succ, Option.some.injEq, exists_eq_left, exists_eq_left', D.bl.injEq, D.int.injEq, D.str.injEq, D.tup.injEq, D.lst.injEq, List.cons.injEq, and_true, true_and, if_true, if_false, Bool.false_eq_true, Bool.not_true, Bool.not_false, Nat.reduceSub, Nat.reduceAdd, Nat.zero_add, isi_non, isi_bl, isi_int, isi_str, isi_tup, isi_lst, mt_bool, mt_int, mt_str, mt_list, mt_tuple, len_str, len_lst, len_tup, int_int, int_bl, int_str, str_int, top_int, top_str, top_bl, top_non, top_lst, top_tup, box_lst, box_tup, lst_lst, seq_lst, seq_tup, seq_str, eq_int, eq_str, ix_tup, ix_lst, ix_str, atD_0, atD_1, atD_2, in_sign, tyM, isT, String.reduceBEq, String.reduceEq, Bool.or_true, Bool.or_false, Bool.true_or, Bool.false_or, Bool.and_true, Bool.and_false, Bool.true_and, Bool.false_and, ix_refI, add_int, add_str, add_lst, sl_str, sl_lst, atD_3, atD_4, pow_int, DO.lst.injEq, D.ref.injEq, updG_same, lst_refI, box_refI, set_refI, int2I, app_refI, ext_refI, splitI, joinI, idxI, ixN_51, ixN_52, ixN_53, ixN_54, ixN_30, ixN_31, ixN_32, okD_intI, okD_blI, okD_nonI, DL.updG2, List.length_set, Option.some.injEq, decide_eq_true_eq, decide_true, decide_false]
    have htx := hL.text
    have ht0 : 0 < (textL r.lines).length := by
      have := textL_ge r.lines
      omega
    refine ⟨by omega, b, 25 * i + 20 + 1 + 1 + 1, _, rfl, ⟨by omega, o5, updG_same, ho5⟩, by omega, by omega, fun cu o6 hcu ho6 => ⟨_, rfl, by omega, by omega, by omega, by omega, ?_⟩⟩
    rw [DL.updG2, cut_to]
    have hct : ((textL r.lines).take cu).length ≤ 310 := by simp; omega
    have hcc : txt ((textL r.lines).take cu ++ [120]) := ⟨by simp; omega, fun c hc => by
      simp only [List.mem_append, List.mem_singleton] at hc
      rcases hc with hc | rfl
      · exact htx.2 c (List.mem_of_mem_take hc)
      · omega⟩
    refine ⟨b, 25 * i + 20 + 1 + 1 + 1 + 1, _, rfl, ⟨by omega, o6, updG_same, ho6⟩, by simp, fun od o7 hod ho7 => ?_⟩
    rw [DL.updG2]
    have hGT : updG G b o7 T = some (.tab fun _ _ => q) := by rw [updG_ne (Ne.symm hbT)]; exact hT
    obtain ⟨ov1, ov2⟩ := odd_val hod (updG G b o7)
    refine ⟨hGT, fun c1 T1 hT1 => ⟨hGT, fun c2 T2 hT2 => ⟨hGT, fun c3 T3 hT3 => ⟨by omega, by omega, _, rfl, hcc, by omega, by omega, by omega, by omega, ?_⟩⟩⟩⟩
    refine ⟨_, rfl, [(⟨⟨q, pr1, bo1, ls1, L2.cloFrom (cellsFrom (m + 1) sc.names []) ls1.names [], c1, T1⟩, ["_law_cut"], [.str ((textL r.lines).take cu)]⟩, spL_1), (⟨⟨q, pr2, bo2, ls2, L2.cloFrom (cellsFrom (m + 1) sc.names []) ls2.names [], c2, T2⟩, ["_law_odd_here"], [od]⟩, spL_2),
      (⟨⟨q, pr3, bo3, ls3, L2.cloFrom (cellsFrom (m + 1) sc.names []) ls3.names [], c3, T3⟩, [], []⟩, spL_3)], fun p hp => ?_, by simp, rfl, ?_⟩
    · simp only [List.mem_cons, List.not_mem_nil, or_false] at hp
      rcases hp with rfl | rfl | rfl
      · exact ⟨⟨Z.l1 _ c1 T1 hT1, Z.d1 m, mono_1⟩, rfl, Z.n1, [14], rfl, rfl⟩
      · exact ⟨⟨Z.l2 _ c2 T2 hT2, Z.d2 m, mono_2⟩, rfl, Z.n2, [15], rfl, rfl⟩
      · exact ⟨⟨Z.l3 _ c3 T3 hT3, Z.d3 m, mono_3⟩, rfl, Z.n3, [], rfl, rfl⟩
    · refine try_exc Z.ex Z.xf _ (fun Q E h => ⟨_, rfl, hcc, h⟩) ?_
      refine try_exc Z.ex Z.xf 0 (fun Q E h => ⟨_, rfl, ov1, ov2, h⟩) ?_
      refine try_exc Z.ex Z.xf 1 (fun Q E h => ⟨rfl, h⟩) ?_
      have fl : ∀ (n : Nat), Flat 1 (.tup [.str sInv, .int n]) := fun n => ⟨by simp, fun x hx => by
        simp only [List.mem_cons, List.not_mem_nil, or_false] at hx
        rcases hx with rfl | rfl
        · exact (by decide : ∀ c ∈ sInv, c < 256)
        · trivial⟩
      refine ⟨_, _, rfl, ⟨by simp, ?_⟩, ⟨by simp, ?_⟩, fun bb hbb => ⟨_, rfl, ?_⟩⟩
      · intro x hx
        simp only [List.nil_append, List.cons_append, List.mem_cons, List.not_mem_nil, or_false] at hx
        rcases hx with rfl | rfl | rfl
        · exact fl _
        · exact fl 0
        · exact fl 1
      · intro x hx
        simp only [List.mem_cons, List.not_mem_nil, or_false] at hx
        rcases hx with rfl | rfl | rfl
        · exact fl _
        · exact fl 0
        · exact fl 1
      · rw [hbb.mpr rfl, if_neg (by simp)]
        exact hK _ _ ⟨o7, ho7.mono (by omega), rfl, _, _, _, _, _, _, _, _, _, _, _, _, _, _, _, _, rfl⟩
end LK06
set_option Elab.async false
set_option linter.all false
set_option maxRecDepth 100000
set_option maxHeartbeats 4000000
namespace LK06
open PySem PySem.Spec PyProof.Rows L2 DL
abbrev top (i : Nat) : Stmt := PySem.Challenge.pw_lightabove_k06_whole_texts_of_plants.main.body.getD i (.Pass ⟨0, 0, 0, 0⟩)
abbrev meth (i k : Nat) : Stmt := (clsBody (top i)).getD k (.Pass ⟨0, 0, 0, 0⟩)
abbrev s_is_number : Stmt := top 11
abbrev s_is_name : Stmt := top 12
abbrev s_digits_in : Stmt := top 16
abbrev s_is_vat : Stmt := top 18
abbrev s_read_lines : Stmt := top 20
abbrev s_Plant___init__ : Stmt := meth 17 2
abbrev s_Plant_lines : Stmt := meth 17 14
abbrev s_Plant_text : Stmt := meth 17 15
abbrev s_Plant_read : Stmt := meth 17 16
abbrev s_Plant___eq__ : Stmt := meth 17 18
abbrev s__law_start : Stmt := top 22
abbrev s__law_pull : Stmt := top 23
abbrev s__law_pick : Stmt := top 24
abbrev s__law_words : Stmt := top 25
abbrev s__law_plant : Stmt := top 26
abbrev s__law_made_plant : Stmt := top 27
abbrev s__law_kind : Stmt := top 28
abbrev s__law_same : Stmt := top 29
abbrev s__law_odd : Stmt := top 33
abbrev s__law_plant_lines : Stmt := top 34
abbrev s__law_is_word : Stmt := top 35
abbrev s__law_plant_fault : Stmt := top 36
abbrev s__law_cut_line : Stmt := top 37
abbrev s__law_field : Stmt := top 30
abbrev s__law_try : Stmt := top 31
abbrev s__law_tries : Stmt := top 32
abbrev s_law : Stmt := top 38
structure Zf (P : Program) (w : World) (K : PySem.W.Frag) (mg : Str → Option Value) (base : Heap) : Prop where
  c_LETTERS : ∃ u, mg "LETTERS" = some u ∧ RelV (sv [97, 98, 99, 100, 101, 102, 103, 104, 105, 106, 107, 108, 109, 110, 111, 112, 113, 114, 115, 116, 117, 118, 119, 120, 121, 122]) u
  c_MOST_ROWS : ∃ u, mg "MOST_ROWS" = some u ∧ RelV (.int 2) u
  cls_Plant : Cls K (gaS K "Plant")
  cv_Plant_MOST_SIZE : CvK K "Plant" "MOST_SIZE" 6
  cv_Plant_MOST_VATS : CvK K "Plant" "MOST_VATS" 4
  f_all : mg "all" = none
  f_bool : mg "bool" = none
  f_enumerate : mg "enumerate" = none
  f_int : mg "int" = none
  f_isinstance : mg "isinstance" = none
  f_len : mg "len" = none
  f_list : mg "list" = none
  f_range : mg "range" = none
  f_str : mg "str" = none
  f_tuple : mg "tuple" = none
  f_zip : mg "zip" = none
  g_LiquidError : mg (Str.ofString "LiquidError") = some (.ref (gaS K "LiquidError"))
  g_Missing : mg (Str.ofString "Missing") = some (.ref (gaS K "Missing"))
  g_NothingLeft : mg (Str.ofString "NothingLeft") = some (.ref (gaS K "NothingLeft"))
  g_Plant : mg (Str.ofString "Plant") = some (.ref (gaS K "Plant"))
  it_Plant : IsiK K "Plant" t_isi_Plant c_isi_Plant
  no_Plant_own_floats : NoAttr K (gaS K "Plant") (Str.ofString "own_floats")
  no_Plant_own_outlets : NoAttr K (gaS K "Plant") (Str.ofString "own_outlets")
  no_Plant_own_vats : NoAttr K (gaS K "Plant") (Str.ofString "own_vats")
  v_WORDS : TupK K mg "WORDS" v_WORDS
  x_InvalidFloat : XcK P K mg "InvalidFloat" (some "at") "InvalidFloat"
  x_InvalidOutlet : XcK P K mg "InvalidOutlet" (some "at") "InvalidOutlet"
  x_InvalidText : XcK P K mg "InvalidText" (some "line") "InvalidText"
  x_InvalidVat : XcK P K mg "InvalidVat" (some "at") "InvalidVat"
  fd_is_number : ∃ fd, FunD K "is_number" "is_number" (defArgs s_is_number) (defBody s_is_number) (defScope s_is_number) [] [] (gaS K "is_number") fd
  gl_is_number : mg (Str.ofString "is_number") = some (.ref (gaS K "is_number"))
  fd_is_name : ∃ fd, FunD K "is_name" "is_name" (defArgs s_is_name) (defBody s_is_name) (defScope s_is_name) [] [] (gaS K "is_name") fd
  gl_is_name : mg (Str.ofString "is_name") = some (.ref (gaS K "is_name"))
  fd_digits_in : ∃ fd, FunD K "digits_in" "digits_in" (defArgs s_digits_in) (defBody s_digits_in) (defScope s_digits_in) [] [] (gaS K "digits_in") fd
  gl_digits_in : mg (Str.ofString "digits_in") = some (.ref (gaS K "digits_in"))
  fd_is_vat : ∃ fd, FunD K "is_vat" "is_vat" (defArgs s_is_vat) (defBody s_is_vat) (defScope s_is_vat) [] [] (gaS K "is_vat") fd
  gl_is_vat : mg (Str.ofString "is_vat") = some (.ref (gaS K "is_vat"))
  fd_is_vat_plants : ∃ fd, FunD K "is_vat" "is_vat" (defArgs s_is_vat) (defBody s_is_vat) (defScope s_is_vat) [] [] (gaS K "is_vat_plants") fd
  gl_is_vat_plants : mg (Str.ofString "is_vat_plants") = some (.ref (gaS K "is_vat_plants"))
  fd_read_lines : ∃ fd, FunD K "read_lines" "read_lines" (defArgs s_read_lines) (defBody s_read_lines) (defScope s_read_lines) [] [] (gaS K "read_lines") fd
  gl_read_lines : mg (Str.ofString "read_lines") = some (.ref (gaS K "read_lines"))
  fd_Plant___init__ : ∃ f fd kws, Mk K (gaS K "Plant") f ∧ FunD K "__init__" "Plant.__init__" (defArgs s_Plant___init__) (defBody s_Plant___init__) (defScope s_Plant___init__) [] kws f fd
  fd_Plant_lines : ∃ f fd, Meth K (gaS K "Plant") (Str.ofString "lines") f ∧ FunD K "lines" "Plant.lines" (defArgs s_Plant_lines) (defBody s_Plant_lines) (defScope s_Plant_lines) [] [] f fd
  fd_Plant_text : ∃ f fd, Meth K (gaS K "Plant") (Str.ofString "text") f ∧ FunD K "text" "Plant.text" (defArgs s_Plant_text) (defBody s_Plant_text) (defScope s_Plant_text) [] [] f fd
  fd_Plant_read : ∃ pa f fd mc, ClX.CRead K (gaS K "Plant") mc ∧ ClX.CMet K (gaS K "Plant") mc (Str.ofString "read") pa f ∧ FunD K "read" "Plant.read" (defArgs s_Plant_read) (defBody s_Plant_read) (defScope s_Plant_read) [] [] f fd
  fd_Plant___eq__ : ∃ f fd, OwnNe K (gaS K "Plant") f ∧ FunD K "__eq__" "Plant.__eq__" (defArgs s_Plant___eq__) (defBody s_Plant___eq__) (defScope s_Plant___eq__) [] [] f fd
  fd__law_start : ∃ fd, FunD K "_law_start" "_law_start" (defArgs s__law_start) (defBody s__law_start) (defScope s__law_start) [] [] (gaS K "_law_start") fd
  gl__law_start : mg (Str.ofString "_law_start") = some (.ref (gaS K "_law_start"))
  fd__law_pull : ∃ fd, FunD K "_law_pull" "_law_pull" (defArgs s__law_pull) (defBody s__law_pull) (defScope s__law_pull) [] [] (gaS K "_law_pull") fd
  gl__law_pull : mg (Str.ofString "_law_pull") = some (.ref (gaS K "_law_pull"))
  fd__law_pick : ∃ fd, FunD K "_law_pick" "_law_pick" (defArgs s__law_pick) (defBody s__law_pick) (defScope s__law_pick) [] [] (gaS K "_law_pick") fd
  gl__law_pick : mg (Str.ofString "_law_pick") = some (.ref (gaS K "_law_pick"))
  fd__law_words : ∃ fd, FunD K "_law_words" "_law_words" (defArgs s__law_words) (defBody s__law_words) (defScope s__law_words) [] [] (gaS K "_law_words") fd
  gl__law_words : mg (Str.ofString "_law_words") = some (.ref (gaS K "_law_words"))
  fd__law_plant : ∃ fd, FunD K "_law_plant" "_law_plant" (defArgs s__law_plant) (defBody s__law_plant) (defScope s__law_plant) [] [] (gaS K "_law_plant") fd
  gl__law_plant : mg (Str.ofString "_law_plant") = some (.ref (gaS K "_law_plant"))
  fd__law_made_plant : ∃ fd, FunD K "_law_made_plant" "_law_made_plant" (defArgs s__law_made_plant) (defBody s__law_made_plant) (defScope s__law_made_plant) [] [] (gaS K "_law_made_plant") fd
  gl__law_made_plant : mg (Str.ofString "_law_made_plant") = some (.ref (gaS K "_law_made_plant"))
  fd__law_kind : ∃ fd, FunD K "_law_kind" "_law_kind" (defArgs s__law_kind) (defBody s__law_kind) (defScope s__law_kind) [] [] (gaS K "_law_kind") fd
  gl__law_kind : mg (Str.ofString "_law_kind") = some (.ref (gaS K "_law_kind"))
  fd__law_same : ∃ fd, FunD K "_law_same" "_law_same" (defArgs s__law_same) (defBody s__law_same) (defScope s__law_same) [] [] (gaS K "_law_same") fd
  gl__law_same : mg (Str.ofString "_law_same") = some (.ref (gaS K "_law_same"))
  fd__law_odd : ∃ fd, FunD K "_law_odd" "_law_odd" (defArgs s__law_odd) (defBody s__law_odd) (defScope s__law_odd) [] [] (gaS K "_law_odd") fd
  gl__law_odd : mg (Str.ofString "_law_odd") = some (.ref (gaS K "_law_odd"))
  fd__law_plant_lines : ∃ fd, FunD K "_law_plant_lines" "_law_plant_lines" (defArgs s__law_plant_lines) (defBody s__law_plant_lines) (defScope s__law_plant_lines) [] [] (gaS K "_law_plant_lines") fd
  gl__law_plant_lines : mg (Str.ofString "_law_plant_lines") = some (.ref (gaS K "_law_plant_lines"))
  fd__law_is_word : ∃ fd, FunD K "_law_is_word" "_law_is_word" (defArgs s__law_is_word) (defBody s__law_is_word) (defScope s__law_is_word) [] [] (gaS K "_law_is_word") fd
  gl__law_is_word : mg (Str.ofString "_law_is_word") = some (.ref (gaS K "_law_is_word"))
  fd__law_plant_fault : ∃ fd, FunD K "_law_plant_fault" "_law_plant_fault" (defArgs s__law_plant_fault) (defBody s__law_plant_fault) (defScope s__law_plant_fault) [] [] (gaS K "_law_plant_fault") fd
  gl__law_plant_fault : mg (Str.ofString "_law_plant_fault") = some (.ref (gaS K "_law_plant_fault"))
  fd__law_cut_line : ∃ fd, FunD K "_law_cut_line" "_law_cut_line" (defArgs s__law_cut_line) (defBody s__law_cut_line) (defScope s__law_cut_line) [] [] (gaS K "_law_cut_line") fd
  gl__law_cut_line : mg (Str.ofString "_law_cut_line") = some (.ref (gaS K "_law_cut_line"))
  fd__law_field : ∃ fd, FunD K "_law_field" "_law_field" (defArgs s__law_field) (defBody s__law_field) (defScope s__law_field) [] [] (gaS K "_law_field") fd
  gl__law_field : mg (Str.ofString "_law_field") = some (.ref (gaS K "_law_field"))
  fd__law_try : ∃ fd, FunD K "_law_try" "_law_try" (defArgs s__law_try) (defBody s__law_try) (defScope s__law_try) [] [] (gaS K "_law_try") fd
  gl__law_try : mg (Str.ofString "_law_try") = some (.ref (gaS K "_law_try"))
  fd__law_tries : ∃ fd, FunD K "_law_tries" "_law_tries" (defArgs s__law_tries) (defBody s__law_tries) (defScope s__law_tries) [] [] (gaS K "_law_tries") fd
  gl__law_tries : mg (Str.ofString "_law_tries") = some (.ref (gaS K "_law_tries"))
  fd_law : ∃ fd, FunD K "law" "law" (defArgs s_law) (defBody s_law) (defScope s_law) [] [] (gaS K "law") fd
  gl_law : mg (Str.ofString "law") = some (.ref (gaS K "law"))
  xf_all : XfAll K xTab
  ex_all : ∀ p ∈ xTab, PySem.W.exmAny K (.ref (gaS K p.1)) (csT K) = some true
theorem sc_is_number : FnScope N_is_number ["value", "least", "most"] (defScope s_is_number) := ⟨rfl, rfl, rfl, by decide +kernel, rfl, by decide +kernel, by decide +kernel⟩
theorem o_is_number {P : Program} {w : World} {K : PySem.W.Frag} {mg : Str → Option Value} {base : Heap} (Z : Zf P w K mg base) {kws : List (Str × V)} {f : Addr} {fd : FuncData} (F : FunD K "is_number" "is_number" (defArgs s_is_number) (defBody s_is_number) (defScope s_is_number) [] kws f fd) : FnOk P w K mg base (L2N.CX P w) 1 f fd ["value", "least", "most"] (spUp K sp_is_number) := by
  refine d_ok (t := t_is_number) F sc_is_number (fun ds G Q Ed h => l_is_number h) (fun cdv A outer s H O Ed E hr xo => ?_) r_is_number
  exact dss_one (ds_ret (de_and (de_callB d_isi rfl Z.f_isinstance (by decide +kernel) (da_cons (de_var (pv 0)) (da_cons (de_bltn rfl Z.f_int (by decide +kernel)) (da_nil)))) (de_and (de_not (de_callB d_isi rfl Z.f_isinstance (by decide +kernel) (da_cons (de_var (pv 0)) (da_cons (de_bltn rfl Z.f_bool (by decide +kernel)) (da_nil))))) (de_one (de_chain d_le d_le (de_var (pv 1)) (de_var (pv 0)) (de_var (pv 2)))))))
theorem k_is_number {P : Program} {w : World} {K : PySem.W.Frag} {mg : Str → Option Value} {base : Heap} (Z : Zf P w K mg base) : FnK P w K mg base "is_number" 1 ["value", "least", "most"] sp_is_number := by
  obtain ⟨fd, F⟩ := Z.fd_is_number
  exact ⟨⟨fd, o_is_number Z F, F.bindsN fun _ _ _ _ _ _ us hl => match us, hl with | [_, _, _], _ => rfl⟩, Z.gl_is_number, F.kp⟩
theorem sc_is_name : FnScope N_is_name ["value"] (defScope s_is_name) := ⟨rfl, rfl, rfl, by decide +kernel, rfl, by decide +kernel, by decide +kernel⟩
theorem o_is_name {P : Program} {w : World} {K : PySem.W.Frag} {mg : Str → Option Value} {base : Heap} (Z : Zf P w K mg base) {kws : List (Str × V)} {f : Addr} {fd : FuncData} (F : FunD K "is_name" "is_name" (defArgs s_is_name) (defBody s_is_name) (defScope s_is_name) [] kws f fd) : FnOk P w K mg base (L2N.CX P w) 1 f fd ["value"] (spUp K sp_is_name) := by
  refine d_ok (t := t_is_name) F sc_is_name (fun ds G Q Ed h => l_is_name h) (fun cdv A outer s H O Ed E hr xo => ?_) r_is_name
  exact dss_one (ds_ret (de_and (de_callB d_isi rfl Z.f_isinstance (by decide +kernel) (da_cons (de_var (pv 0)) (da_cons (de_bltn rfl Z.f_str (by decide +kernel)) (da_nil)))) (de_and (de_chain d_le d_le (de_int) (de_callB d_len rfl Z.f_len (by decide +kernel) (da_cons (de_var (pv 0)) (da_nil))) (de_int)) (de_one (de_callB (d_all rfl) rfl Z.f_all (by decide +kernel) (da_cons (de_lc (own := [("sign", 1)]) rfl sc_is_name.nd (di_any (de_var (pv 0))) (blkOk_by (by kernel_rfl)) (ownN (by simp)) (fun _ _ _ _ _ => pg_name (i := 1) sc_is_name.nd rfl (by first | exact Or.inl rfl | exact Or.inr rfl)  (by first | exact Or.inl rfl | exact Or.inr rfl)) (fun _ _ _ _ _ => dts_nil) (fun _ _ _ _ _ => de_cmp (d_in (hU1 hr)) (de_var (pv 1)) (de_gS Z.c_LETTERS))) (da_nil)))))))
theorem k_is_name {P : Program} {w : World} {K : PySem.W.Frag} {mg : Str → Option Value} {base : Heap} (Z : Zf P w K mg base) : FnK P w K mg base "is_name" 1 ["value"] sp_is_name := by
  obtain ⟨fd, F⟩ := Z.fd_is_name
  exact ⟨⟨fd, o_is_name Z F, F.bindsN fun _ _ _ _ _ _ us hl => match us, hl with | [_], _ => rfl⟩, Z.gl_is_name, F.kp⟩
theorem sc_digits_in : FnScope N_digits_in ["word", "most"] (defScope s_digits_in) := ⟨rfl, rfl, rfl, by decide +kernel, rfl, by decide +kernel, by decide +kernel⟩
theorem o_digits_in {P : Program} {w : World} {K : PySem.W.Frag} {mg : Str → Option Value} {base : Heap} (Z : Zf P w K mg base) {kws : List (Str × V)} {f : Addr} {fd : FuncData} (F : FunD K "digits_in" "digits_in" (defArgs s_digits_in) (defBody s_digits_in) (defScope s_digits_in) [] kws f fd) : FnOk P w K mg base (L2N.CX P w) 1 f fd ["word", "most"] (spUp K sp_digits_in) := by
  refine d_ok (t := t_digits_in) F sc_digits_in (fun ds G Q Ed h => l_digits_in h) (fun cdv A outer s H O Ed E hr xo => ?_) r_digits_in
  exact dss_cons (ds_if (dw_pt (dw_or (dt_not (dt_chain d_le d_le (de_int) (de_callB d_len rfl Z.f_len (by decide +kernel) (da_cons (de_var (pv 0)) (da_nil))) (de_var (pv 1)))) (dw_or1 (dt_not (dt_val (de_callB (d_all rfl) rfl Z.f_all (by decide +kernel) (da_cons (de_lc (own := [("sign", 2)]) rfl sc_digits_in.nd (di_any (de_var (pv 0))) (blkOk_by (by kernel_rfl)) (ownN (by simp)) (fun _ _ _ _ _ => pg_name (i := 2) sc_digits_in.nd rfl (by first | exact Or.inl rfl | exact Or.inr rfl)  (by first | exact Or.inl rfl | exact Or.inr rfl)) (fun _ _ _ _ _ => dts_nil) (fun _ _ _ _ _ => de_cmp (d_in (hU1 hr)) (de_var (pv 2)) (de_str (by rfl)))) (da_nil)))))))) (dss_one (ds_ret (de_un d_neg (de_int)))) (dss_nil)) (dss_one (ds_ret (de_if (dt_cmp (d_ne (hU hr)) (de_var (pv 0)) (de_callTy d_str rfl Z.f_str (by decide +kernel) (da_cons (de_callTy d_int rfl Z.f_int (by decide +kernel) (da_cons (de_var (pv 0)) (da_nil))) (da_nil)))) (de_un d_neg (de_int)) (de_callTy d_int rfl Z.f_int (by decide +kernel) (da_cons (de_var (pv 0)) (da_nil))))))
theorem k_digits_in {P : Program} {w : World} {K : PySem.W.Frag} {mg : Str → Option Value} {base : Heap} (Z : Zf P w K mg base) : FnK P w K mg base "digits_in" 1 ["word", "most"] sp_digits_in := by
  obtain ⟨fd, F⟩ := Z.fd_digits_in
  exact ⟨⟨fd, o_digits_in Z F, F.bindsN fun _ _ _ _ _ _ us hl => match us, hl with | [_, _], _ => rfl⟩, Z.gl_digits_in, F.kp⟩
theorem sc_is_vat : FnScope N_is_vat ["value"] (defScope s_is_vat) := ⟨rfl, rfl, rfl, by decide +kernel, rfl, by decide +kernel, by decide +kernel⟩
theorem o_is_vat {P : Program} {w : World} {K : PySem.W.Frag} {mg : Str → Option Value} {base : Heap} (Z : Zf P w K mg base) {kws : List (Str × V)} {f : Addr} {fd : FuncData} (F : FunD K "is_vat" "is_vat" (defArgs s_is_vat) (defBody s_is_vat) (defScope s_is_vat) [] kws f fd) : FnOk P w K mg base (L2N.CX P w) 2 f fd ["value"] (spUp K sp_is_vat) := by
  refine d_ok (t := t_is_vat) F sc_is_vat (fun ds G Q Ed h => l_is_vat h) (fun cdv A outer s H O Ed E hr xo => ?_) r_is_vat
  exact dss_cons (ds_if (dw_pt (dw_or (dt_not (dt_val (de_callB d_isi rfl Z.f_isinstance (by decide +kernel) (da_cons (de_var (pv 0)) (da_cons (de_bltn rfl Z.f_tuple (by decide +kernel)) (da_nil)))))) (dw_or1 (dt_cmp (d_ne (hU hr)) (de_callB d_len rfl Z.f_len (by decide +kernel) (da_cons (de_var (pv 0)) (da_nil))) (de_int))))) (dss_one (ds_ret (de_bl))) (dss_nil)) (dss_one (ds_ret (de_and (de_callF (k_is_name Z) (hr.mono (by decide)) xo (da_cons (de_ix d_ix (de_var (pv 0)) (de_int)) (da_nil))) (de_one (de_callF (k_is_number Z) (hr.mono (by decide)) xo (da_cons (de_ix d_ix (de_var (pv 0)) (de_int)) (da_cons (de_int) (da_cons (de_cv (Z.cv_Plant_MOST_SIZE) (de_clsN Z.g_Plant)) (da_nil)))))))))
theorem k_is_vat {P : Program} {w : World} {K : PySem.W.Frag} {mg : Str → Option Value} {base : Heap} (Z : Zf P w K mg base) : FnK P w K mg base "is_vat" 2 ["value"] sp_is_vat := by
  obtain ⟨fd, F⟩ := Z.fd_is_vat
  exact ⟨⟨fd, o_is_vat Z F, F.bindsN fun _ _ _ _ _ _ us hl => match us, hl with | [_], _ => rfl⟩, Z.gl_is_vat, F.kp⟩
theorem k_is_vat_plants {P : Program} {w : World} {K : PySem.W.Frag} {mg : Str → Option Value} {base : Heap} (Z : Zf P w K mg base) : FnK P w K mg base "is_vat_plants" 2 ["value"] sp_is_vat := by
  obtain ⟨fd, F⟩ := Z.fd_is_vat_plants
  exact ⟨⟨fd, o_is_vat Z F, F.bindsN fun _ _ _ _ _ _ us hl => match us, hl with | [_], _ => rfl⟩, Z.gl_is_vat_plants, F.kp⟩
theorem sc_read_lines : FnScope N_read_lines ["lines"] (defScope s_read_lines) := ⟨rfl, rfl, rfl, by decide +kernel, rfl, by decide +kernel, by decide +kernel⟩
theorem o_read_lines {P : Program} {w : World} {K : PySem.W.Frag} {mg : Str → Option Value} {base : Heap} (Z : Zf P w K mg base) {kws : List (Str × V)} {f : Addr} {fd : FuncData} (F : FunD K "read_lines" "read_lines" (defArgs s_read_lines) (defBody s_read_lines) (defScope s_read_lines) [] kws f fd) : FnOk P w K mg base (L2N.CX P w) 2 f fd ["lines"] (spUp K sp_read_lines) := by
  refine d_ok (t := t_read_lines) F sc_read_lines (fun ds G Q Ed h => l_read_lines h) (fun cdv A outer s H O Ed E hr xo => ?_) r_read_lines
  exact dss_cons (ds_par3 (i := 1) (j := 2) (l := 3) rfl sc_read_lines.nd rfl rfl rfl (by decide) (by decide) (by decide) rfl rfl rfl (da_cons (de_disp (pps_cons (de_str (by rfl)) (de_lstM (da_nil)) (pps_cons (de_str (by rfl)) (de_lstM (da_nil)) (pps_cons (de_str (by rfl)) (de_lstM (da_nil)) (pps_nil)))) rfl rfl (by simp) (by decide)) (da_cons (de_lstM (da_nil)) (da_cons (de_int) (da_nil))))) (dss_cons (ds_for (passes_of rfl) rfl (di_enum rfl Z.f_enumerate (da_cons (de_var (pv 0)) (da_nil))) (dg_tup (n := 2) rfl (dgs_cons (dg_name (i := 4) sc_read_lines.nd rfl (by first | exact Or.inl rfl | exact Or.inr rfl)) (dgs_cons (dg_name (i := 5) sc_read_lines.nd rfl (by first | exact Or.inl rfl | exact Or.inr rfl)) (dgs_nil)))) (dss_cons (ds_asg (de_bm PySem.F.plainAttrs_str PySem.F.slot_str_split PySem.F.type_str_split d_split (de_var (pv 5)) (da_cons (de_str (by rfl)) (da_nil))) (dg_star (i := 1) (n := 2) rfl (dgs_cons (dg_name (i := 6) sc_read_lines.nd rfl (by first | exact Or.inl rfl | exact Or.inr rfl)) (dgs_cons (dg_name (i := 7) sc_read_lines.nd rfl (by first | exact Or.inl rfl | exact Or.inr rfl)) (dgs_nil))))) (dss_cons (ds_if (dw_pt (dw_or (dt_cmp (d_notin (hU1 hr)) (de_var (pv 6)) (de_gTK Z.v_WORDS)) (dw_or (dt_cmp d_lt (de_tidxG Z.v_WORDS (de_var (pv 6))) (de_var (pv 3))) (dw_or1 (dt_cmp (d_ne (hU hr)) (de_callB d_len rfl Z.f_len (by decide +kernel) (da_cons (de_var (pv 7)) (da_nil))) (de_op d_add (de_int) (de_callTy d_int rfl Z.f_int (by decide +kernel) (da_cons (de_cmp (d_eq (hU hr)) (de_var (pv 6)) (de_str (by rfl))) (da_nil))))))))) (dss_one (ds_raise rfl xo Z.x_InvalidText hr (de_var (pv 4)))) (dss_nil)) (dss_cons (ds_set (i := 3) sc_read_lines.nd rfl (by first | exact Or.inl rfl | exact Or.inr rfl) (de_tidxG Z.v_WORDS (de_var (pv 6)))) (dss_cons (ds_set (i := 8) sc_read_lines.nd rfl (by first | exact Or.inl rfl | exact Or.inr rfl) (de_if (dt_cmp (d_eq (hU hr)) (de_var (pv 6)) (de_str (by rfl))) (de_cv (Z.cv_Plant_MOST_VATS) (de_clsN Z.g_Plant)) (de_gI Z.c_MOST_ROWS))) (dss_cons (ds_if (dw_pt (dw_or (dt_not (dt_val (de_callF (k_is_name Z) (hr.mono (by decide)) xo (da_cons (de_ix d_ix (de_var (pv 7)) (de_int)) (da_nil))))) (dw_or (dt_cmp (d_in (hU1 hr)) (de_ix d_ix (de_var (pv 7)) (de_int)) (de_var (pv 2))) (dw_or1 (dt_cmp d_ge (de_callB d_len rfl Z.f_len (by decide +kernel) (da_cons (de_dget (hU0 hr) (de_var (pv 1)) (de_var (pv 6)) (by intro _ _; rfl)) (da_nil))) (de_var (pv 8))))))) (dss_one (ds_raise rfl xo Z.x_InvalidText hr (de_var (pv 4)))) (dss_nil)) (dss_cons (ds_if (dw_pt (dw_and (dt_cmp (d_eq (hU hr)) (de_var (pv 6)) (de_str (by rfl))) (dw_and1 (dt_not (dt_chain d_le d_le (de_int) (de_callF (k_digits_in Z) (hr.mono (by decide)) xo (da_cons (de_ix d_ix (de_var (pv 7)) (de_int)) (da_cons (de_int) (da_nil)))) (de_cv (Z.cv_Plant_MOST_SIZE) (de_clsN Z.g_Plant))))))) (dss_one (ds_raise rfl xo Z.x_InvalidText hr (de_var (pv 4)))) (dss_nil)) (dss_cons (ds_expr (de_bm PySem.F.plainAttrs_list PySem.F.slot_list_append PySem.F.type_list_append d_append (de_var (pv 2)) (da_cons (de_ix d_ix (de_var (pv 7)) (de_int)) (da_nil)))) (dss_one (ds_expr (de_bm PySem.F.plainAttrs_list PySem.F.slot_list_append PySem.F.type_list_append d_append (de_dget (hU0 hr) (de_var (pv 1)) (de_var (pv 6)) (by intro _ _; rfl)) (da_cons (de_if (dt_cmp (d_eq (hU hr)) (de_var (pv 6)) (de_str (by rfl))) (de_tup (da_cons (de_ix d_ix (de_var (pv 7)) (de_int)) (da_cons (de_callTy d_int rfl Z.f_int (by decide +kernel) (da_cons (de_ix d_ix (de_var (pv 7)) (de_int)) (da_nil))) (da_nil)))) (de_ix d_ix (de_var (pv 7)) (de_int))) (da_nil))))))))))))) (dss_one (ds_ret (de_var (pv 1)))))
theorem k_read_lines {P : Program} {w : World} {K : PySem.W.Frag} {mg : Str → Option Value} {base : Heap} (Z : Zf P w K mg base) : FnK P w K mg base "read_lines" 2 ["lines"] sp_read_lines := by
  obtain ⟨fd, F⟩ := Z.fd_read_lines
  exact ⟨⟨fd, o_read_lines Z F, F.bindsN fun _ _ _ _ _ _ us hl => match us, hl with | [_], _ => rfl⟩, Z.gl_read_lines, F.kp⟩
theorem sc_Plant___init__ : FnScope N_Plant___init__ ["self", "vats", "floats", "outlets"] (defScope s_Plant___init__) := ⟨rfl, rfl, rfl, by decide +kernel, rfl, by decide +kernel, by decide +kernel⟩
theorem o_Plant___init__ {P : Program} {w : World} {K : PySem.W.Frag} {mg : Str → Option Value} {base : Heap} (Z : Zf P w K mg base) {kws : List (Str × V)} {f : Addr} {fd : FuncData} (F : FunD K "__init__" "Plant.__init__" (defArgs s_Plant___init__) (defBody s_Plant___init__) (defScope s_Plant___init__) [] kws f fd) : FnOk P w K mg base (L2N.CX P w) 3 f fd ["self", "vats", "floats", "outlets"] (spUp K sp_Plant___init__) := by
  refine d_ok (t := t_Plant___init__) F sc_Plant___init__ (fun ds G Q Ed h => l_Plant___init__ h) (fun cdv A outer s H O Ed E hr xo => ?_) r_Plant___init__
  exact dss_cons (ds_set (i := 4) sc_Plant___init__.nd rfl (by first | exact Or.inl rfl | exact Or.inr rfl) (de_lstM (da_nil))) (dss_cons (ds_for (passes_of rfl) rfl (di_enum rfl Z.f_enumerate (da_cons (de_var (pv 1)) (da_nil))) (dg_tup (n := 2) rfl (dgs_cons (dg_name (i := 5) sc_Plant___init__.nd rfl (by first | exact Or.inl rfl | exact Or.inr rfl)) (dgs_cons (dg_name (i := 6) sc_Plant___init__.nd rfl (by first | exact Or.inl rfl | exact Or.inr rfl)) (dgs_nil)))) (dss_cons (ds_if (dw_pt (dw_or (dt_cmp d_ge (de_var (pv 5)) (de_cv (Z.cv_Plant_MOST_VATS) (de_clsN Z.g_Plant))) (dw_or (dt_not (dt_val (de_callF (k_is_vat_plants Z) (hr.mono (by decide)) xo (da_cons (de_var (pv 6)) (da_nil))))) (dw_or1 (dt_cmp (d_in (hU1 hr)) (de_ix d_ix (de_var (pv 6)) (de_int)) (de_var (pv 4))))))) (dss_one (ds_raise rfl xo Z.x_InvalidVat hr (de_var (pv 5)))) (dss_nil)) (dss_one (ds_expr (de_bm PySem.F.plainAttrs_list PySem.F.slot_list_append PySem.F.type_list_append d_append (de_var (pv 4)) (da_cons (de_ix d_ix (de_var (pv 6)) (de_int)) (da_nil))))))) (dss_cons (ds_if (dt_cmp (d_eq (hU hr)) (de_var (pv 4)) (de_lst (da_nil))) (dss_one (ds_raise rfl xo Z.x_InvalidVat hr (de_int))) (dss_nil)) (dss_cons (ds_for (passes_of rfl) rfl (di_enum rfl Z.f_enumerate (da_cons (de_var (pv 2)) (da_nil))) (dg_tup (n := 2) rfl (dgs_cons (dg_name (i := 5) sc_Plant___init__.nd rfl (by first | exact Or.inl rfl | exact Or.inr rfl)) (dgs_cons (dg_name (i := 7) sc_Plant___init__.nd rfl (by first | exact Or.inl rfl | exact Or.inr rfl)) (dgs_nil)))) (dss_cons (ds_if (dw_pt (dw_or (dt_cmp d_ge (de_var (pv 5)) (de_gI Z.c_MOST_ROWS)) (dw_or (dt_not (dt_val (de_callF (k_is_name Z) (hr.mono (by decide)) xo (da_cons (de_var (pv 7)) (da_nil))))) (dw_or1 (dt_cmp (d_in (hU1 hr)) (de_var (pv 7)) (de_var (pv 4))))))) (dss_one (ds_raise rfl xo Z.x_InvalidFloat hr (de_var (pv 5)))) (dss_nil)) (dss_one (ds_expr (de_bm PySem.F.plainAttrs_list PySem.F.slot_list_append PySem.F.type_list_append d_append (de_var (pv 4)) (da_cons (de_var (pv 7)) (da_nil))))))) (dss_cons (ds_for (passes_of rfl) rfl (di_enum rfl Z.f_enumerate (da_cons (de_var (pv 3)) (da_nil))) (dg_tup (n := 2) rfl (dgs_cons (dg_name (i := 5) sc_Plant___init__.nd rfl (by first | exact Or.inl rfl | exact Or.inr rfl)) (dgs_cons (dg_name (i := 7) sc_Plant___init__.nd rfl (by first | exact Or.inl rfl | exact Or.inr rfl)) (dgs_nil)))) (dss_cons (ds_if (dw_pt (dw_or (dt_cmp d_ge (de_var (pv 5)) (de_gI Z.c_MOST_ROWS)) (dw_or (dt_not (dt_val (de_callF (k_is_name Z) (hr.mono (by decide)) xo (da_cons (de_var (pv 7)) (da_nil))))) (dw_or1 (dt_cmp (d_in (hU1 hr)) (de_var (pv 7)) (de_var (pv 4))))))) (dss_one (ds_raise rfl xo Z.x_InvalidOutlet hr (de_var (pv 5)))) (dss_nil)) (dss_one (ds_expr (de_bm PySem.F.plainAttrs_list PySem.F.slot_list_append PySem.F.type_list_append d_append (de_var (pv 4)) (da_cons (de_var (pv 7)) (da_nil))))))) (dss_cons (ds_store (C := "Plant") (f := "own_vats") Z.cls_Plant Z.no_Plant_own_vats (de_var (pv 0)) (de_callTy d_tuple rfl Z.f_tuple (by decide +kernel) (da_cons (de_var (pv 1)) (da_nil)))) (dss_cons (ds_store (C := "Plant") (f := "own_floats") Z.cls_Plant Z.no_Plant_own_floats (de_var (pv 0)) (de_callTy d_tuple rfl Z.f_tuple (by decide +kernel) (da_cons (de_var (pv 2)) (da_nil)))) (dss_one (ds_store (C := "Plant") (f := "own_outlets") Z.cls_Plant Z.no_Plant_own_outlets (de_var (pv 0)) (de_callTy d_tuple rfl Z.f_tuple (by decide +kernel) (da_cons (de_var (pv 3)) (da_nil)))))))))))
theorem m_Plant___init__ {P : Program} {w : World} {K : PySem.W.Frag} {mg : Str → Option Value} {base : Heap} (Z : Zf P w K mg base) : InitK P w K mg base "Plant" 3 1 ["self", "vats", "floats", "outlets"] ["floats", "outlets"] sp_Plant___init__ := by
  obtain ⟨f, fd, kws, M, F⟩ := Z.fd_Plant___init__
  refine ⟨f, fd, M, o_Plant___init__ Z F, kbn_of F fun kV doc pm an cdv ct us ws h1 h2 => match us, h1, ws, h2 with | [_, _], _, [_, _], _ => rfl⟩
theorem sc_Plant_lines : FnScope N_Plant_lines ["self"] (defScope s_Plant_lines) := ⟨rfl, rfl, rfl, by decide +kernel, rfl, by decide +kernel, by decide +kernel⟩
theorem o_Plant_lines {P : Program} {w : World} {K : PySem.W.Frag} {mg : Str → Option Value} {base : Heap} (Z : Zf P w K mg base) {kws : List (Str × V)} {f : Addr} {fd : FuncData} (F : FunD K "lines" "Plant.lines" (defArgs s_Plant_lines) (defBody s_Plant_lines) (defScope s_Plant_lines) [] kws f fd) : FnOk P w K mg base (L2N.CX P w) 1 f fd ["self"] (spUp K sp_Plant_lines) := by
  refine d_ok (t := t_Plant_lines) F sc_Plant_lines (fun ds G Q Ed h => l_Plant_lines h) (fun cdv A outer s H O Ed E hr xo => ?_) r_Plant_lines
  exact dss_cons (ds_setLcM (i := 1) (own := [("name", 2), ("size", 3)]) rfl sc_Plant_lines.nd rfl rfl rfl (di_any (de_fld (C := "Plant") (f := "own_vats") Z.cls_Plant Z.no_Plant_own_vats (de_var (pv 0)))) (blkOk_by (by kernel_rfl)) (ownT (ownsCons (ownN (by simp)) (ownsCons (ownN (by simp)) (ownsNil)))) (fun _ _ _ _ _ => pg_tup (n := 2) rfl (pgs_cons (pg_name (i := 2) sc_Plant_lines.nd rfl (by first | exact Or.inl rfl | exact Or.inr rfl)  (by first | exact Or.inl rfl | exact Or.inr rfl)) (pgs_cons (pg_name (i := 3) sc_Plant_lines.nd rfl (by first | exact Or.inl rfl | exact Or.inr rfl)  (by first | exact Or.inl rfl | exact Or.inr rfl)) (pgs_nil)))) (fun _ _ _ _ _ => dts_nil) (fun _ _ _ _ _ => de_joined (dj_cons (de_str (by rfl)) (dj_cons (de_fmt (de_var (pv 2))) (dj_cons (de_str (by rfl)) (dj_cons (de_fmt (de_var (pv 3))) (dj_nil))))))) (dss_cons (ds_expr (de_bm PySem.F.plainAttrs_list PySem.F.slot_list_extend PySem.F.type_list_extend d_extend (de_var (pv 1)) (da_cons (de_lc (own := [("name", 2)]) rfl sc_Plant_lines.nd (di_any (de_fld (C := "Plant") (f := "own_floats") Z.cls_Plant Z.no_Plant_own_floats (de_var (pv 0)))) (blkOk_by (by kernel_rfl)) (ownN (by simp)) (fun _ _ _ _ _ => pg_name (i := 2) sc_Plant_lines.nd rfl (by first | exact Or.inl rfl | exact Or.inr rfl)  (by first | exact Or.inl rfl | exact Or.inr rfl)) (fun _ _ _ _ _ => dts_nil) (fun _ _ _ _ _ => de_joined (dj_cons (de_str (by rfl)) (dj_cons (de_fmt (de_var (pv 2))) (dj_nil))))) (da_nil)))) (dss_one (ds_ret (de_lst (da_star (de_var (pv 1)) (da_star (de_lc (own := [("name", 2)]) rfl sc_Plant_lines.nd (di_any (de_fld (C := "Plant") (f := "own_outlets") Z.cls_Plant Z.no_Plant_own_outlets (de_var (pv 0)))) (blkOk_by (by kernel_rfl)) (ownN (by simp)) (fun _ _ _ _ _ => pg_name (i := 2) sc_Plant_lines.nd rfl (by first | exact Or.inl rfl | exact Or.inr rfl)  (by first | exact Or.inl rfl | exact Or.inr rfl)) (fun _ _ _ _ _ => dts_nil) (fun _ _ _ _ _ => de_joined (dj_cons (de_str (by rfl)) (dj_cons (de_fmt (de_var (pv 2))) (dj_nil))))) (da_nil)))))))
theorem m_Plant_lines {P : Program} {w : World} {K : PySem.W.Frag} {mg : Str → Option Value} {base : Heap} (Z : Zf P w K mg base) : MthK P w K mg base "Plant" "lines" 1 ["self"] sp_Plant_lines := by
  obtain ⟨f, fd, M, F⟩ := Z.fd_Plant_lines
  exact ⟨f, fd, M, o_Plant_lines Z F, F.bindsN fun _ _ _ _ _ _ us hl => match us, hl with | [_], _ => rfl⟩
theorem sc_Plant_text : FnScope N_Plant_text ["self"] (defScope s_Plant_text) := ⟨rfl, rfl, rfl, by decide +kernel, rfl, by decide +kernel, by decide +kernel⟩
theorem o_Plant_text {P : Program} {w : World} {K : PySem.W.Frag} {mg : Str → Option Value} {base : Heap} (Z : Zf P w K mg base) {kws : List (Str × V)} {f : Addr} {fd : FuncData} (F : FunD K "text" "Plant.text" (defArgs s_Plant_text) (defBody s_Plant_text) (defScope s_Plant_text) [] kws f fd) : FnOk P w K mg base (L2N.CX P w) 2 f fd ["self"] (spUp K sp_Plant_text) := by
  refine d_ok (t := t_Plant_text) F sc_Plant_text (fun ds G Q Ed h => l_Plant_text h) (fun cdv A outer s H O Ed E hr xo => ?_) r_Plant_text
  exact dss_one (ds_ret (de_bm PySem.F.plainAttrs_str PySem.F.slot_str_join PySem.F.type_str_join d_join (de_str (by rfl)) (da_cons (de_lc (own := [("line", 1)]) rfl sc_Plant_text.nd (di_any (de_methF0 (m := "lines") Z.cls_Plant (m_Plant_lines Z) (hr.mono (by decide)) xo (de_var (pv 0)))) (blkOk_by (by kernel_rfl)) (ownN (by simp)) (fun _ _ _ _ _ => pg_name (i := 1) sc_Plant_text.nd rfl (by first | exact Or.inl rfl | exact Or.inr rfl)  (by first | exact Or.inl rfl | exact Or.inr rfl)) (fun _ _ _ _ _ => dts_nil) (fun _ _ _ _ _ => de_joined (dj_cons (de_fmt (de_var (pv 1))) (dj_cons (de_str (by rfl)) (dj_nil))))) (da_nil))))
theorem m_Plant_text {P : Program} {w : World} {K : PySem.W.Frag} {mg : Str → Option Value} {base : Heap} (Z : Zf P w K mg base) : MthK P w K mg base "Plant" "text" 2 ["self"] sp_Plant_text := by
  obtain ⟨f, fd, M, F⟩ := Z.fd_Plant_text
  exact ⟨f, fd, M, o_Plant_text Z F, F.bindsN fun _ _ _ _ _ _ us hl => match us, hl with | [_], _ => rfl⟩
theorem sc_Plant_read : FnScope N_Plant_read ["cls", "text"] (defScope s_Plant_read) := ⟨rfl, rfl, rfl, by decide +kernel, rfl, by decide +kernel, by decide +kernel⟩
theorem o_Plant_read {P : Program} {w : World} {K : PySem.W.Frag} {mg : Str → Option Value} {base : Heap} (Z : Zf P w K mg base) {kws : List (Str × V)} {f : Addr} {fd : FuncData} (F : FunD K "read" "Plant.read" (defArgs s_Plant_read) (defBody s_Plant_read) (defScope s_Plant_read) [] kws f fd) : FnOk P w K mg base (L2N.CX P w) 5 f fd ["cls", "text"] (spUp K sp_Plant_read) := by
  refine d_ok (t := t_Plant_read) F sc_Plant_read (fun ds G Q Ed h => l_Plant_read h) (fun cdv A outer s H O Ed E hr xo => ?_) r_Plant_read
  exact dss_cons (ds_if (dt_not (dt_val (de_callB d_isi rfl Z.f_isinstance (by decide +kernel) (da_cons (de_var (pv 1)) (da_cons (de_bltn rfl Z.f_str (by decide +kernel)) (da_nil)))))) (dss_one (ds_raise rfl xo Z.x_InvalidText hr (de_int))) (dss_nil)) (dss_cons (ds_asg (de_bm PySem.F.plainAttrs_str PySem.F.slot_str_split PySem.F.type_str_split d_split (de_var (pv 1)) (da_cons (de_str (by rfl)) (da_nil))) (dg_star (i := 0) (n := 2) rfl (dgs_cons (dg_name (i := 2) sc_Plant_read.nd rfl (by first | exact Or.inl rfl | exact Or.inr rfl)) (dgs_cons (dg_name (i := 3) sc_Plant_read.nd rfl (by first | exact Or.inl rfl | exact Or.inr rfl)) (dgs_nil))))) (dss_cons (ds_set (i := 4) sc_Plant_read.nd rfl (by first | exact Or.inl rfl | exact Or.inr rfl) (de_callF (k_read_lines Z) (hr.mono (by decide)) xo (da_cons (de_var (pv 2)) (da_nil)))) (dss_cons (ds_if (dw_pt (dw_or (dt_cmp (d_ne (hU hr)) (de_var (pv 3)) (de_str (by rfl))) (dw_or1 (dt_cmp (d_eq (hU hr)) (de_dget (hU0 hr) (de_var (pv 4)) (de_str (by rfl)) (by intro _ _; rfl)) (de_lst (da_nil)))))) (dss_one (ds_raise rfl xo Z.x_InvalidText hr (de_callB d_len rfl Z.f_len (by decide +kernel) (da_cons (de_var (pv 2)) (da_nil))))) (dss_nil)) (dss_one (ds_ret (de_makeF (m_Plant___init__ Z) (hr.mono (by decide)) xo (de_var (pv 0)) (da_cons (de_dget (hU0 hr) (de_var (pv 4)) (de_str (by rfl)) (by intro _ _; rfl)) (da_nil)) (dk_cons (de_dget (hU0 hr) (de_var (pv 4)) (de_str (by rfl)) (by intro _ _; rfl)) (dk_cons (de_dget (hU0 hr) (de_var (pv 4)) (de_str (by rfl)) (by intro _ _; rfl)) (dk_nil)))))))))
theorem m_Plant_read {P : Program} {w : World} {K : PySem.W.Frag} {mg : Str → Option Value} {base : Heap} (Z : Zf P w K mg base) : CMthK P w K mg base "Plant" "read" 5 ["cls", "text"] sp_Plant_read := by
  obtain ⟨pa, f, fd, mc, M1, M2, F⟩ := Z.fd_Plant_read
  refine ⟨⟨pa, f, fd, mc, M1, M2, o_Plant_read Z F, F.bindsN fun _ _ _ _ _ _ us hl => match us, hl with | [_, _], _ => rfl, fun ks e => by
    subst e
    exact kbn_of F fun kV doc pm an cdv ct us ws h1 h2 => match us, h1, ws, h2 with | [_], _, [_], _ => rfl⟩, by decide⟩
theorem sc_Plant___eq__ : FnScope N_Plant___eq__ ["self", "other"] (defScope s_Plant___eq__) := ⟨rfl, rfl, rfl, by decide +kernel, rfl, by decide +kernel, by decide +kernel⟩
theorem o_Plant___eq__ {P : Program} {w : World} {K : PySem.W.Frag} {mg : Str → Option Value} {base : Heap} (Z : Zf P w K mg base) {kws : List (Str × V)} {f : Addr} {fd : FuncData} (F : FunD K "__eq__" "Plant.__eq__" (defArgs s_Plant___eq__) (defBody s_Plant___eq__) (defScope s_Plant___eq__) [] kws f fd) : FnOk P w K mg base (L2N.CX P w) 1 f fd ["self", "other"] (spUp K sp_Plant___eq__) := by
  refine d_ok (t := t_Plant___eq__) F sc_Plant___eq__ (fun ds G Q Ed h => l_Plant___eq__ h) (fun cdv A outer s H O Ed E hr xo => ?_) r_Plant___eq__
  exact dss_one (ds_ret (de_and (de_callB (d_isiK Z.it_Plant) rfl Z.f_isinstance (by decide +kernel) (da_cons (de_var (pv 1)) (da_cons (de_clsN Z.g_Plant) (da_nil)))) (de_and (de_cmp (d_eq (hU hr)) (de_fld (C := "Plant") (f := "own_vats") Z.cls_Plant Z.no_Plant_own_vats (de_var (pv 0))) (de_fld (C := "Plant") (f := "own_vats") Z.cls_Plant Z.no_Plant_own_vats (de_var (pv 1)))) (de_and (de_cmp (d_eq (hU hr)) (de_fld (C := "Plant") (f := "own_floats") Z.cls_Plant Z.no_Plant_own_floats (de_var (pv 0))) (de_fld (C := "Plant") (f := "own_floats") Z.cls_Plant Z.no_Plant_own_floats (de_var (pv 1)))) (de_one (de_cmp (d_eq (hU hr)) (de_fld (C := "Plant") (f := "own_outlets") Z.cls_Plant Z.no_Plant_own_outlets (de_var (pv 0))) (de_fld (C := "Plant") (f := "own_outlets") Z.cls_Plant Z.no_Plant_own_outlets (de_var (pv 1)))))))))
theorem m_Plant___eq__ {P : Program} {w : World} {K : PySem.W.Frag} {mg : Str → Option Value} {base : Heap} (Z : Zf P w K mg base) : OwnK P w K mg base "Plant" 1 ["self", "other"] sp_Plant___eq__ := by
  obtain ⟨f, fd, M, F⟩ := Z.fd_Plant___eq__
  exact ⟨f, fd, M, o_Plant___eq__ Z F, F.bindsN fun _ _ _ _ _ _ us hl => match us, hl with | [_, _], _ => rfl⟩
theorem sc__law_start : FnScope N__law_start ["_law_script"] (defScope s__law_start) := ⟨rfl, rfl, rfl, by decide +kernel, rfl, by decide +kernel, by decide +kernel⟩
theorem o__law_start {P : Program} {w : World} {K : PySem.W.Frag} {mg : Str → Option Value} {base : Heap} (Z : Zf P w K mg base) {kws : List (Str × V)} {f : Addr} {fd : FuncData} (F : FunD K "_law_start" "_law_start" (defArgs s__law_start) (defBody s__law_start) (defScope s__law_start) [] kws f fd) : FnOk P w K mg base (L2N.CX P w) 1 f fd ["_law_script"] (spUp K sp__law_start) := by
  refine d_ok (t := t__law_start) F sc__law_start (fun ds G Q Ed h => l__law_start h) (fun cdv A outer s H O Ed E hr xo => ?_) r__law_start
  exact dss_one (ds_ret (de_lstM (da_cons (de_callTy d_list rfl Z.f_list (by decide +kernel) (da_cons (de_slice (de_var (pv 0)) (dpo_none) (dpo_some (de_int))) (da_nil))) (da_cons (de_int) (da_cons (de_int) (da_cons (de_op d_add (de_int) (de_callB d_len rfl Z.f_len (by decide +kernel) (da_cons (de_var (pv 0)) (da_nil)))) (da_cons (de_int) (da_nil))))))))
theorem k__law_start {P : Program} {w : World} {K : PySem.W.Frag} {mg : Str → Option Value} {base : Heap} (Z : Zf P w K mg base) : FnK P w K mg base "_law_start" 1 ["_law_script"] sp__law_start := by
  obtain ⟨fd, F⟩ := Z.fd__law_start
  exact ⟨⟨fd, o__law_start Z F, F.bindsN fun _ _ _ _ _ _ us hl => match us, hl with | [_], _ => rfl⟩, Z.gl__law_start, F.kp⟩
theorem sc__law_pull : FnScope N__law_pull ["_law_bag", "_law_size"] (defScope s__law_pull) := ⟨rfl, rfl, rfl, by decide +kernel, rfl, by decide +kernel, by decide +kernel⟩
theorem o__law_pull {P : Program} {w : World} {K : PySem.W.Frag} {mg : Str → Option Value} {base : Heap} (Z : Zf P w K mg base) {kws : List (Str × V)} {f : Addr} {fd : FuncData} (F : FunD K "_law_pull" "_law_pull" (defArgs s__law_pull) (defBody s__law_pull) (defScope s__law_pull) [] kws f fd) : FnOk P w K mg base (L2N.CX P w) 1 f fd ["_law_bag", "_law_size"] (spUp K sp__law_pull) := by
  refine d_ok (t := t__law_pull) F sc__law_pull (fun ds G Q Ed h => l__law_pull h) (fun cdv A outer s H O Ed E hr xo => ?_) r__law_pull
  exact dss_cons (ds_if (dw_pt (dw_and (dt_cmp (d_eq (hU hr)) (de_ix d_ix (de_var (pv 0)) (de_int)) (de_int)) (dw_and1 (dt_cmp d_lt (de_ix d_ix (de_var (pv 0)) (de_int)) (de_callB d_len rfl Z.f_len (by decide +kernel) (da_cons (de_ix d_ix (de_var (pv 0)) (de_int)) (da_nil))))))) (dss_cons (ds_set (i := 2) sc__law_pull.nd rfl (by first | exact Or.inl rfl | exact Or.inr rfl) (de_ix d_ix (de_ix d_ix (de_var (pv 0)) (de_int)) (de_ix d_ix (de_var (pv 0)) (de_int)))) (dss_cons (ds_asg (de_op d_add (de_ix d_ix (de_var (pv 0)) (de_int)) (de_int)) (dg_sub (de_var (pv 0)) (de_int) d_set)) (dss_one (ds_if (dt_cmp d_ge (de_var (pv 2)) (de_op d_pow (de_int) (de_int))) (dss_one (ds_asg (de_var (pv 2)) (dg_sub (de_var (pv 0)) (de_int) d_set))) (dss_one (ds_asg (de_op d_mod (de_callTy d_int rfl Z.f_int (by decide +kernel) (da_cons (de_op d_add (de_op d_add (de_op d_mul (de_ix d_ix (de_var (pv 0)) (de_int)) (de_int)) (de_op d_mul (de_op d_mod (de_callTy d_int rfl Z.f_int (by decide +kernel) (da_cons (de_var (pv 2)) (da_nil))) (de_int)) (de_int))) (de_int)) (da_nil))) (de_int)) (dg_sub (de_var (pv 0)) (de_int) d_set))))))) (dss_nil)) (dss_cons (ds_if (dt_cmp d_gt (de_ix d_ix (de_var (pv 0)) (de_int)) (de_int)) (dss_cons (ds_set (i := 3) sc__law_pull.nd rfl (by first | exact Or.inl rfl | exact Or.inr rfl) (de_op d_mod (de_callTy d_int rfl Z.f_int (by decide +kernel) (da_cons (de_ix d_ix (de_var (pv 0)) (de_int)) (da_nil))) (de_var (pv 1)))) (dss_cons (ds_asg (de_op d_fdiv (de_ix d_ix (de_var (pv 0)) (de_int)) (de_var (pv 1))) (dg_sub (de_var (pv 0)) (de_int) d_set)) (dss_one (ds_ret (de_var (pv 3)))))) (dss_nil)) (dss_cons (ds_asg (de_op d_add (de_ix d_ix (de_var (pv 0)) (de_int)) (de_int)) (dg_sub (de_var (pv 0)) (de_int) d_set)) (dss_cons (ds_set (i := 4) sc__law_pull.nd rfl (by first | exact Or.inl rfl | exact Or.inr rfl) (de_ix d_ix (de_var (pv 0)) (de_int))) (dss_cons (ds_asg (de_op d_mod (de_callTy d_int rfl Z.f_int (by decide +kernel) (da_cons (de_op d_add (de_op d_add (de_op d_add (de_op d_mul (de_var (pv 4)) (de_var (pv 4))) (de_op d_mul (de_var (pv 4)) (de_int))) (de_op d_mul (de_ix d_ix (de_var (pv 0)) (de_int)) (de_int))) (de_int)) (da_nil))) (de_int)) (dg_sub (de_var (pv 0)) (de_int) d_set)) (dss_one (ds_ret (de_op d_mod (de_callTy d_int rfl Z.f_int (by decide +kernel) (da_cons (de_op d_add (de_op d_fdiv (de_ix d_ix (de_var (pv 0)) (de_int)) (de_int)) (de_op d_mul (de_op d_mod (de_callTy d_int rfl Z.f_int (by decide +kernel) (da_cons (de_ix d_ix (de_var (pv 0)) (de_int)) (da_nil))) (de_int)) (de_int))) (da_nil))) (de_var (pv 1)))))))))
theorem k__law_pull {P : Program} {w : World} {K : PySem.W.Frag} {mg : Str → Option Value} {base : Heap} (Z : Zf P w K mg base) : FnK P w K mg base "_law_pull" 1 ["_law_bag", "_law_size"] sp__law_pull := by
  obtain ⟨fd, F⟩ := Z.fd__law_pull
  exact ⟨⟨fd, o__law_pull Z F, F.bindsN fun _ _ _ _ _ _ us hl => match us, hl with | [_, _], _ => rfl⟩, Z.gl__law_pull, F.kp⟩
theorem sc__law_pick : FnScope N__law_pick ["_law_bag", "_law_some"] (defScope s__law_pick) := ⟨rfl, rfl, rfl, by decide +kernel, rfl, by decide +kernel, by decide +kernel⟩
theorem o__law_pick {P : Program} {w : World} {K : PySem.W.Frag} {mg : Str → Option Value} {base : Heap} (Z : Zf P w K mg base) {kws : List (Str × V)} {f : Addr} {fd : FuncData} (F : FunD K "_law_pick" "_law_pick" (defArgs s__law_pick) (defBody s__law_pick) (defScope s__law_pick) [] kws f fd) : FnOk P w K mg base (L2N.CX P w) 2 f fd ["_law_bag", "_law_some"] (spUp K sp__law_pick) := by
  refine d_ok (t := t__law_pick) F sc__law_pick (fun ds G Q Ed h => l__law_pick h) (fun cdv A outer s H O Ed E hr xo => ?_) r__law_pick
  exact dss_one (ds_ret (de_ix d_ix (de_var (pv 1)) (de_callF (k__law_pull Z) (hr.mono (by decide)) xo (da_cons (de_var (pv 0)) (da_cons (de_callB d_len rfl Z.f_len (by decide +kernel) (da_cons (de_var (pv 1)) (da_nil))) (da_nil))))))
theorem k__law_pick {P : Program} {w : World} {K : PySem.W.Frag} {mg : Str → Option Value} {base : Heap} (Z : Zf P w K mg base) : FnK P w K mg base "_law_pick" 2 ["_law_bag", "_law_some"] sp__law_pick := by
  obtain ⟨fd, F⟩ := Z.fd__law_pick
  exact ⟨⟨fd, o__law_pick Z F, F.bindsN fun _ _ _ _ _ _ us hl => match us, hl with | [_, _], _ => rfl⟩, Z.gl__law_pick, F.kp⟩
theorem sc__law_words : FnScope N__law_words ["_law_bag", "_law_count"] (defScope s__law_words) := ⟨rfl, rfl, rfl, by decide +kernel, rfl, by decide +kernel, by decide +kernel⟩
theorem o__law_words {P : Program} {w : World} {K : PySem.W.Frag} {mg : Str → Option Value} {base : Heap} (Z : Zf P w K mg base) {kws : List (Str × V)} {f : Addr} {fd : FuncData} (F : FunD K "_law_words" "_law_words" (defArgs s__law_words) (defBody s__law_words) (defScope s__law_words) [] kws f fd) : FnOk P w K mg base (L2N.CX P w) 3 f fd ["_law_bag", "_law_count"] (spUp K sp__law_words) := by
  refine d_ok (t := t__law_words) F sc__law_words (fun ds G Q Ed h => l__law_words h) (fun cdv A outer s H O Ed E hr xo => ?_) r__law_words
  exact dss_cons (ds_set (i := 2) sc__law_words.nd rfl (by first | exact Or.inl rfl | exact Or.inr rfl) (de_str (by rfl))) (dss_cons (ds_set (i := 3) sc__law_words.nd rfl (by first | exact Or.inl rfl | exact Or.inr rfl) (de_bm PySem.F.plainAttrs_str PySem.F.slot_str_join PySem.F.type_str_join d_join (de_str (by rfl)) (da_cons (de_lc (own := [("_law_k", 7)]) rfl sc__law_words.nd (di_range1 rfl Z.f_range (da_cons (de_callF (k__law_pick Z) (hr.mono (by decide)) xo (da_cons (de_var (pv 0)) (da_cons (de_lst (da_cons (de_int) (da_cons (de_int) (da_cons (de_int) (da_cons (de_int) (da_nil)))))) (da_nil)))) (da_nil))) (blkOk_by (by kernel_rfl)) (ownN (by simp)) (fun _ _ _ _ _ => pg_name (i := 7) sc__law_words.nd rfl (by first | exact Or.inl rfl | exact Or.inr rfl)  (by first | exact Or.inl rfl | exact Or.inr rfl)) (fun _ _ _ _ _ => dts_nil) (fun _ _ _ _ _ => de_callF (k__law_pick Z) (hr.mono (by decide)) xo0 (da_cons (de_var (pv 0)) (da_cons (de_var (pv 2)) (da_nil))))) (da_nil)))) (dss_cons (ds_par (i := 4) (j := 5) rfl sc__law_words.nd rfl rfl (by decide) rfl rfl (da_cons (de_callF (k__law_pull Z) (hr.mono (by decide)) xo (da_cons (de_var (pv 0)) (da_cons (de_op d_add (de_callB d_len rfl Z.f_len (by decide +kernel) (da_cons (de_var (pv 3)) (da_nil))) (de_int)) (da_nil)))) (da_cons (de_callF (k__law_pull Z) (hr.mono (by decide)) xo (da_cons (de_var (pv 0)) (da_cons (de_int) (da_nil)))) (da_nil)))) (dss_cons (ds_set (i := 6) sc__law_words.nd rfl (by first | exact Or.inl rfl | exact Or.inr rfl) (de_lstM (da_nil))) (dss_cons (ds_for (passes_of rfl) rfl (di_range1 rfl Z.f_range (da_cons (de_var (pv 1)) (da_nil))) (dg_name (i := 7) sc__law_words.nd rfl (by first | exact Or.inl rfl | exact Or.inr rfl)) (dss_cons (ds_set (i := 8) sc__law_words.nd rfl (by first | exact Or.inl rfl | exact Or.inr rfl) (de_ix d_ix (de_var (pv 2)) (de_op d_mod (de_callTy d_int rfl Z.f_int (by decide +kernel) (da_cons (de_op d_add (de_var (pv 5)) (de_op d_mul (de_int) (de_var (pv 7)))) (da_nil))) (de_int)))) (dss_one (ds_expr (de_bm PySem.F.plainAttrs_list PySem.F.slot_list_append PySem.F.type_list_append d_append (de_var (pv 6)) (da_cons (de_op d_add (de_op d_add (de_slice (de_var (pv 3)) (dpo_none) (dpo_some (de_var (pv 4)))) (de_var (pv 8))) (de_slice (de_var (pv 3)) (dpo_some (de_var (pv 4))) (dpo_none))) (da_nil))))))) (dss_one (ds_ret (de_var (pv 6))))))))
theorem k__law_words {P : Program} {w : World} {K : PySem.W.Frag} {mg : Str → Option Value} {base : Heap} (Z : Zf P w K mg base) : FnK P w K mg base "_law_words" 3 ["_law_bag", "_law_count"] sp__law_words := by
  obtain ⟨fd, F⟩ := Z.fd__law_words
  exact ⟨⟨fd, o__law_words Z F, F.bindsN fun _ _ _ _ _ _ us hl => match us, hl with | [_, _], _ => rfl⟩, Z.gl__law_words, F.kp⟩
theorem sc__law_plant : FnScope N__law_plant ["_law_bag", "_law_numbers"] (defScope s__law_plant) := ⟨rfl, rfl, rfl, by decide +kernel, rfl, by decide +kernel, by decide +kernel⟩
theorem o__law_plant {P : Program} {w : World} {K : PySem.W.Frag} {mg : Str → Option Value} {base : Heap} (Z : Zf P w K mg base) {kws : List (Str × V)} {f : Addr} {fd : FuncData} (F : FunD K "_law_plant" "_law_plant" (defArgs s__law_plant) (defBody s__law_plant) (defScope s__law_plant) [] kws f fd) : FnOk P w K mg base (L2N.CX P w) 4 f fd ["_law_bag", "_law_numbers"] (spUp K sp__law_plant) := by
  refine d_ok (t := t__law_plant) F sc__law_plant (fun ds G Q Ed h => l__law_plant h) (fun cdv A outer s H O Ed E hr xo => ?_) r__law_plant
  exact dss_cons (ds_set (i := 2) sc__law_plant.nd rfl (by first | exact Or.inl rfl | exact Or.inr rfl) (de_op d_add (de_int) (de_callF (k__law_pull Z) (hr.mono (by decide)) xo (da_cons (de_var (pv 0)) (da_cons (de_ix d_ix (de_var (pv 1)) (de_int)) (da_nil)))))) (dss_cons (ds_par (i := 3) (j := 4) rfl sc__law_plant.nd rfl rfl (by decide) rfl rfl (da_cons (de_callF (k__law_pull Z) (hr.mono (by decide)) xo (da_cons (de_var (pv 0)) (da_cons (de_op d_add (de_ix d_ix (de_var (pv 1)) (de_int)) (de_int)) (da_nil)))) (da_cons (de_callF (k__law_pull Z) (hr.mono (by decide)) xo (da_cons (de_var (pv 0)) (da_cons (de_op d_add (de_ix d_ix (de_var (pv 1)) (de_int)) (de_int)) (da_nil)))) (da_nil)))) (dss_cons (ds_set (i := 5) sc__law_plant.nd rfl (by first | exact Or.inl rfl | exact Or.inr rfl) (de_callF (k__law_words Z) (hr.mono (by decide)) xo (da_cons (de_var (pv 0)) (da_cons (de_op d_add (de_op d_add (de_var (pv 2)) (de_var (pv 3))) (de_var (pv 4))) (da_nil))))) (dss_cons (ds_setLc (i := 6) (own := [("_law_word", 7)]) rfl sc__law_plant.nd rfl rfl rfl (di_any (de_slice (de_var (pv 5)) (dpo_none) (dpo_some (de_var (pv 2))))) (blkOk_by (by kernel_rfl)) (ownN (by simp)) (fun _ _ _ _ _ => pg_name (i := 7) sc__law_plant.nd rfl (by first | exact Or.inl rfl | exact Or.inr rfl)  (by first | exact Or.inl rfl | exact Or.inr rfl)) (fun _ _ _ _ _ => dts_nil) (fun _ _ _ _ _ => de_tup (da_cons (de_var (pv 7)) (da_cons (de_op d_add (de_int) (de_callF (k__law_pull Z) (hr.mono (by decide)) xo0 (da_cons (de_var (pv 0)) (da_cons (de_ix d_ix (de_var (pv 1)) (de_int)) (da_nil))))) (da_nil))))) (dss_one (ds_ret (de_tup (da_cons (de_var (pv 6)) (da_cons (de_slice (de_var (pv 5)) (dpo_some (de_var (pv 2))) (dpo_some (de_op d_add (de_var (pv 2)) (de_var (pv 3))))) (da_cons (de_slice (de_var (pv 5)) (dpo_some (de_op d_add (de_var (pv 2)) (de_var (pv 3)))) (dpo_none)) (da_nil))))))))))
theorem k__law_plant {P : Program} {w : World} {K : PySem.W.Frag} {mg : Str → Option Value} {base : Heap} (Z : Zf P w K mg base) : FnK P w K mg base "_law_plant" 4 ["_law_bag", "_law_numbers"] sp__law_plant := by
  obtain ⟨fd, F⟩ := Z.fd__law_plant
  exact ⟨⟨fd, o__law_plant Z F, F.bindsN fun _ _ _ _ _ _ us hl => match us, hl with | [_, _], _ => rfl⟩, Z.gl__law_plant, F.kp⟩
theorem sc__law_made_plant : FnScope N__law_made_plant ["_law_spec"] (defScope s__law_made_plant) := ⟨rfl, rfl, rfl, by decide +kernel, rfl, by decide +kernel, by decide +kernel⟩
theorem o__law_made_plant {P : Program} {w : World} {K : PySem.W.Frag} {mg : Str → Option Value} {base : Heap} (Z : Zf P w K mg base) {kws : List (Str × V)} {f : Addr} {fd : FuncData} (F : FunD K "_law_made_plant" "_law_made_plant" (defArgs s__law_made_plant) (defBody s__law_made_plant) (defScope s__law_made_plant) [] kws f fd) : FnOk P w K mg base (L2N.CX P w) 5 f fd ["_law_spec"] (spUp K sp__law_made_plant) := by
  refine d_ok (t := t__law_made_plant) F sc__law_made_plant (fun ds G Q Ed h => l__law_made_plant h) (fun cdv A outer s H O Ed E hr xo => ?_) r__law_made_plant
  exact dss_one (ds_ret (de_makeF (m_Plant___init__ Z) (hr.mono (by decide)) xo (de_clsN Z.g_Plant) (da_cons (de_callTy d_list rfl Z.f_list (by decide +kernel) (da_cons (de_ix d_ix (de_var (pv 0)) (de_int)) (da_nil))) (da_nil)) (dk_cons (de_callTy d_list rfl Z.f_list (by decide +kernel) (da_cons (de_ix d_ix (de_var (pv 0)) (de_int)) (da_nil))) (dk_cons (de_callTy d_list rfl Z.f_list (by decide +kernel) (da_cons (de_ix d_ix (de_var (pv 0)) (de_int)) (da_nil))) (dk_nil)))))
theorem k__law_made_plant {P : Program} {w : World} {K : PySem.W.Frag} {mg : Str → Option Value} {base : Heap} (Z : Zf P w K mg base) : FnK P w K mg base "_law_made_plant" 5 ["_law_spec"] sp__law_made_plant := by
  obtain ⟨fd, F⟩ := Z.fd__law_made_plant
  exact ⟨⟨fd, o__law_made_plant Z F, F.bindsN fun _ _ _ _ _ _ us hl => match us, hl with | [_], _ => rfl⟩, Z.gl__law_made_plant, F.kp⟩
theorem sc__law_kind : FnScope N__law_kind ["_law_thing"] (defScope s__law_kind) := ⟨rfl, rfl, rfl, by decide +kernel, rfl, by decide +kernel, by decide +kernel⟩
theorem o__law_kind {P : Program} {w : World} {K : PySem.W.Frag} {mg : Str → Option Value} {base : Heap} (Z : Zf P w K mg base) {kws : List (Str × V)} {f : Addr} {fd : FuncData} (F : FunD K "_law_kind" "_law_kind" (defArgs s__law_kind) (defBody s__law_kind) (defScope s__law_kind) [] kws f fd) : FnOk P w K mg base (L2N.CX P w) 1 f fd ["_law_thing"] (spUp K sp__law_kind) := by
  refine d_ok (t := t__law_kind) F sc__law_kind (fun ds G Q Ed h => l__law_kind h) (fun cdv A outer s H O Ed E hr xo => ?_) r__law_kind
  exact dss_cons (ds_set (i := 1) sc__law_kind.nd rfl (by first | exact Or.inl rfl | exact Or.inr rfl) (de_lst (da_cons (de_isN (de_var (pv 0))) (da_cons (de_callB d_isi rfl Z.f_isinstance (by decide +kernel) (da_cons (de_var (pv 0)) (da_cons (de_bltn rfl Z.f_bool (by decide +kernel)) (da_nil)))) (da_cons (de_callB d_isi rfl Z.f_isinstance (by decide +kernel) (da_cons (de_var (pv 0)) (da_cons (de_bltn rfl Z.f_int (by decide +kernel)) (da_nil)))) (da_cons (de_callB d_isi rfl Z.f_isinstance (by decide +kernel) (da_cons (de_var (pv 0)) (da_cons (de_bltn rfl Z.f_str (by decide +kernel)) (da_nil)))) (da_nil))))))) (dss_cons (ds_set (i := 1) sc__law_kind.nd rfl (by first | exact Or.inl rfl | exact Or.inr rfl) (de_op d_add (de_var (pv 1)) (de_lst (da_cons (de_callB d_isi rfl Z.f_isinstance (by decide +kernel) (da_cons (de_var (pv 0)) (da_cons (de_bltn rfl Z.f_list (by decide +kernel)) (da_nil)))) (da_cons (de_callB d_isi rfl Z.f_isinstance (by decide +kernel) (da_cons (de_var (pv 0)) (da_cons (de_bltn rfl Z.f_tuple (by decide +kernel)) (da_nil)))) (da_cons (de_bl) (da_nil))))))) (dss_one (ds_ret (de_bm PySem.F.plainAttrs_list PySem.F.slot_list_index PySem.F.type_list_index (d_index (hU1 hr)) (de_var (pv 1)) (da_cons (de_bl) (da_nil))))))
theorem k__law_kind {P : Program} {w : World} {K : PySem.W.Frag} {mg : Str → Option Value} {base : Heap} (Z : Zf P w K mg base) : FnK P w K mg base "_law_kind" 1 ["_law_thing"] sp__law_kind := by
  obtain ⟨fd, F⟩ := Z.fd__law_kind
  exact ⟨⟨fd, o__law_kind Z F, F.bindsN fun _ _ _ _ _ _ us hl => match us, hl with | [_], _ => rfl⟩, Z.gl__law_kind, F.kp⟩
theorem sc__law_same : FnScope N__law_same ["_law_found", "_law_due"] (defScope s__law_same) := ⟨rfl, rfl, rfl, by decide +kernel, rfl, by decide +kernel, by decide +kernel⟩
theorem o__law_same {P : Program} {w : World} {K : PySem.W.Frag} {mg : Str → Option Value} {base : Heap} (Z : Zf P w K mg base) (n : Nat) (Rec : FnK P w K mg base "_law_same" (2 + n) ["_law_found", "_law_due"] (sp__law_same n)) {f : Addr} {fd : FuncData} (F : FunD K "_law_same" "_law_same" (defArgs s__law_same) (defBody s__law_same) (defScope s__law_same) [] [] f fd) : FnOk P w K mg base (L2N.CX P w) (2 + n + 1) f fd ["_law_found", "_law_due"] (spUp K (sp__law_same (n + 1))) := by
  refine d_ok (t := t__law_same n) F sc__law_same (fun ds G Q Ed h => l__law_same h) (fun cdv A outer s H O Ed E hr xo => ?_) (r__law_same n)
  exact dss_cons (ds_if (dt_cmp (d_ne (hU hr)) (de_callF (k__law_kind Z) (hr.mono (by omega)) xo (da_cons (de_var (pv 0)) (da_nil))) (de_callF (k__law_kind Z) (hr.mono (by omega)) xo (da_cons (de_var (pv 1)) (da_nil)))) (dss_one (ds_ret (de_bl))) (dss_nil)) (dss_cons (ds_if (dt_cmp (d_in (hU1 hr)) (de_callF (k__law_kind Z) (hr.mono (by omega)) xo (da_cons (de_var (pv 1)) (da_nil))) (de_tup (da_cons (de_int) (da_cons (de_int) (da_nil))))) (dss_one (ds_ret (de_and (de_cmp (d_eq (hU hr)) (de_callB d_len rfl Z.f_len (by decide +kernel) (da_cons (de_var (pv 0)) (da_nil))) (de_callB d_len rfl Z.f_len (by decide +kernel) (da_cons (de_var (pv 1)) (da_nil)))) (de_one (de_callB (d_all rfl) rfl Z.f_all (by decide +kernel) (da_cons (de_lc (own := [("_law_a", 2), ("_law_b", 3)]) rfl sc__law_same.nd (di_zipB rfl Z.f_zip (da_cons (de_var (pv 0)) (da_cons (de_var (pv 1)) (da_nil)))) (blkOk_by (by kernel_rfl)) (ownT (ownsCons (ownN (by simp)) (ownsCons (ownN (by simp)) (ownsNil)))) (fun _ _ _ _ _ => pg_tup (n := 2) rfl (pgs_cons (pg_name (i := 2) sc__law_same.nd rfl (by first | exact Or.inl rfl | exact Or.inr rfl)  (by first | exact Or.inl rfl | exact Or.inr rfl)) (pgs_cons (pg_name (i := 3) sc__law_same.nd rfl (by first | exact Or.inl rfl | exact Or.inr rfl)  (by first | exact Or.inl rfl | exact Or.inr rfl)) (pgs_nil)))) (fun _ _ _ _ _ => dts_nil) (fun _ _ _ _ _ => de_callF Rec (hr.mono (by omega)) xo0 (da_cons (de_var (pv 2)) (da_cons (de_var (pv 3)) (da_nil))))) (da_nil))))))) (dss_nil)) (dss_one (ds_ret (de_cmp (d_eq (hU hr)) (de_var (pv 0)) (de_var (pv 1))))))
theorem k__law_same {P : Program} {w : World} {K : PySem.W.Frag} {mg : Str → Option Value} {base : Heap} (Z : Zf P w K mg base) : ∀ n : Nat, FnK P w K mg base "_law_same" (2 + n) ["_law_found", "_law_due"] (sp__law_same n)
  | 0 => by
    obtain ⟨fd, F⟩ := Z.fd__law_same
    exact ⟨⟨fd, d_ok0 F sc__law_same fun _ _ _ _ h => h, F.bindsN fun _ _ _ _ _ _ us hl => match us, hl with | [_, _], _ => rfl⟩, Z.gl__law_same, F.kp⟩
  | n + 1 => by
    obtain ⟨fd, F⟩ := Z.fd__law_same
    exact ⟨⟨fd, o__law_same Z n (k__law_same Z n) F, F.bindsN fun _ _ _ _ _ _ us hl => match us, hl with | [_, _], _ => rfl⟩, Z.gl__law_same, F.kp⟩
theorem sc__law_odd : FnScope N__law_odd ["_law_bag", "_law_more"] (defScope s__law_odd) := ⟨rfl, rfl, rfl, by decide +kernel, rfl, by decide +kernel, by decide +kernel⟩
theorem o__law_odd {P : Program} {w : World} {K : PySem.W.Frag} {mg : Str → Option Value} {base : Heap} (Z : Zf P w K mg base) {kws : List (Str × V)} {f : Addr} {fd : FuncData} (F : FunD K "_law_odd" "_law_odd" (defArgs s__law_odd) (defBody s__law_odd) (defScope s__law_odd) [] kws f fd) : FnOk P w K mg base (L2N.CX P w) 3 f fd ["_law_bag", "_law_more"] (spUp K sp__law_odd) := by
  refine d_ok (t := t__law_odd) F sc__law_odd (fun ds G Q Ed h => l__law_odd h) (fun cdv A outer s H O Ed E hr xo => ?_) r__law_odd
  exact dss_one (ds_ret (de_callF (k__law_pick Z) (hr.mono (by decide)) xo (da_cons (de_var (pv 0)) (da_cons (de_op d_add (de_lst (da_cons (de_non) (da_cons (de_bl) (da_cons (de_bl) (da_cons (de_str (by rfl)) (da_cons (de_str (by rfl)) (da_cons (de_un d_neg (de_int)) (da_cons (de_tup (da_cons (de_int) (da_cons (de_str (by rfl)) (da_nil)))) (da_cons (de_lst (da_cons (de_int) (da_nil))) (da_cons (de_tup (da_nil)) (da_cons (de_lst (da_cons (de_str (by rfl)) (da_nil))) (da_cons (de_op d_pow (de_int) (de_int)) (da_nil))))))))))))) (de_var (pv 1))) (da_nil)))))
theorem k__law_odd {P : Program} {w : World} {K : PySem.W.Frag} {mg : Str → Option Value} {base : Heap} (Z : Zf P w K mg base) : FnK P w K mg base "_law_odd" 3 ["_law_bag", "_law_more"] sp__law_odd := by
  obtain ⟨fd, F⟩ := Z.fd__law_odd
  exact ⟨⟨fd, o__law_odd Z F, F.bindsN fun _ _ _ _ _ _ us hl => match us, hl with | [_, _], _ => rfl⟩, Z.gl__law_odd, F.kp⟩
theorem sc__law_plant_lines : FnScope N__law_plant_lines ["_law_spec"] (defScope s__law_plant_lines) := ⟨rfl, rfl, rfl, by decide +kernel, rfl, by decide +kernel, by decide +kernel⟩
theorem o__law_plant_lines {P : Program} {w : World} {K : PySem.W.Frag} {mg : Str → Option Value} {base : Heap} (Z : Zf P w K mg base) {kws : List (Str × V)} {f : Addr} {fd : FuncData} (F : FunD K "_law_plant_lines" "_law_plant_lines" (defArgs s__law_plant_lines) (defBody s__law_plant_lines) (defScope s__law_plant_lines) [] kws f fd) : FnOk P w K mg base (L2N.CX P w) 1 f fd ["_law_spec"] (spUp K sp__law_plant_lines) := by
  refine d_ok (t := t__law_plant_lines) F sc__law_plant_lines (fun ds G Q Ed h => l__law_plant_lines h) (fun cdv A outer s H O Ed E hr xo => ?_) r__law_plant_lines
  exact dss_cons (ds_setLc (i := 1) (own := [("_law_row", 2)]) rfl sc__law_plant_lines.nd rfl rfl rfl (di_any (de_ix d_ix (de_var (pv 0)) (de_int))) (blkOk_by (by kernel_rfl)) (ownN (by simp)) (fun _ _ _ _ _ => pg_name (i := 2) sc__law_plant_lines.nd rfl (by first | exact Or.inl rfl | exact Or.inr rfl)  (by first | exact Or.inl rfl | exact Or.inr rfl)) (fun _ _ _ _ _ => dts_nil) (fun _ _ _ _ _ => de_op d_add (de_op d_add (de_op d_add (de_str (by rfl)) (de_ix d_ix (de_var (pv 2)) (de_int))) (de_str (by rfl))) (de_callTy d_str rfl Z.f_str (by decide +kernel) (da_cons (de_ix d_ix (de_var (pv 2)) (de_int)) (da_nil))))) (dss_one (ds_ret (de_op d_add (de_op d_add (de_var (pv 1)) (de_lc (own := [("_law_name", 3)]) rfl sc__law_plant_lines.nd (di_any (de_ix d_ix (de_var (pv 0)) (de_int))) (blkOk_by (by kernel_rfl)) (ownN (by simp)) (fun _ _ _ _ _ => pg_name (i := 3) sc__law_plant_lines.nd rfl (by first | exact Or.inl rfl | exact Or.inr rfl)  (by first | exact Or.inl rfl | exact Or.inr rfl)) (fun _ _ _ _ _ => dts_nil) (fun _ _ _ _ _ => de_op d_add (de_str (by rfl)) (de_var (pv 3))))) (de_lc (own := [("_law_name", 3)]) rfl sc__law_plant_lines.nd (di_any (de_ix d_ix (de_var (pv 0)) (de_int))) (blkOk_by (by kernel_rfl)) (ownN (by simp)) (fun _ _ _ _ _ => pg_name (i := 3) sc__law_plant_lines.nd rfl (by first | exact Or.inl rfl | exact Or.inr rfl)  (by first | exact Or.inl rfl | exact Or.inr rfl)) (fun _ _ _ _ _ => dts_nil) (fun _ _ _ _ _ => de_op d_add (de_str (by rfl)) (de_var (pv 3)))))))
theorem k__law_plant_lines {P : Program} {w : World} {K : PySem.W.Frag} {mg : Str → Option Value} {base : Heap} (Z : Zf P w K mg base) : FnK P w K mg base "_law_plant_lines" 1 ["_law_spec"] sp__law_plant_lines := by
  obtain ⟨fd, F⟩ := Z.fd__law_plant_lines
  exact ⟨⟨fd, o__law_plant_lines Z F, F.bindsN fun _ _ _ _ _ _ us hl => match us, hl with | [_], _ => rfl⟩, Z.gl__law_plant_lines, F.kp⟩
theorem sc__law_is_word : FnScope N__law_is_word ["_law_word"] (defScope s__law_is_word) := ⟨rfl, rfl, rfl, by decide +kernel, rfl, by decide +kernel, by decide +kernel⟩
theorem o__law_is_word {P : Program} {w : World} {K : PySem.W.Frag} {mg : Str → Option Value} {base : Heap} (Z : Zf P w K mg base) {kws : List (Str × V)} {f : Addr} {fd : FuncData} (F : FunD K "_law_is_word" "_law_is_word" (defArgs s__law_is_word) (defBody s__law_is_word) (defScope s__law_is_word) [] kws f fd) : FnOk P w K mg base (L2N.CX P w) 1 f fd ["_law_word"] (spUp K sp__law_is_word) := by
  refine d_ok (t := t__law_is_word) F sc__law_is_word (fun ds G Q Ed h => l__law_is_word h) (fun cdv A outer s H O Ed E hr xo => ?_) r__law_is_word
  exact dss_one (ds_ret (de_and (de_chain d_lt d_lt (de_int) (de_callB d_len rfl Z.f_len (by decide +kernel) (da_cons (de_var (pv 0)) (da_nil))) (de_int)) (de_one (de_callB (d_all rfl) rfl Z.f_all (by decide +kernel) (da_cons (de_lc (own := [("_law_letter", 1)]) rfl sc__law_is_word.nd (di_any (de_var (pv 0))) (blkOk_by (by kernel_rfl)) (ownN (by simp)) (fun _ _ _ _ _ => pg_name (i := 1) sc__law_is_word.nd rfl (by first | exact Or.inl rfl | exact Or.inr rfl)  (by first | exact Or.inl rfl | exact Or.inr rfl)) (fun _ _ _ _ _ => dts_nil) (fun _ _ _ _ _ => de_cmp (d_in (hU1 hr)) (de_var (pv 1)) (de_str (by rfl)))) (da_nil))))))
theorem k__law_is_word {P : Program} {w : World} {K : PySem.W.Frag} {mg : Str → Option Value} {base : Heap} (Z : Zf P w K mg base) : FnK P w K mg base "_law_is_word" 1 ["_law_word"] sp__law_is_word := by
  obtain ⟨fd, F⟩ := Z.fd__law_is_word
  exact ⟨⟨fd, o__law_is_word Z F, F.bindsN fun _ _ _ _ _ _ us hl => match us, hl with | [_], _ => rfl⟩, Z.gl__law_is_word, F.kp⟩
theorem sc__law_plant_fault : FnScope N__law_plant_fault ["_law_lines"] (defScope s__law_plant_fault) := ⟨rfl, rfl, rfl, by decide +kernel, rfl, by decide +kernel, by decide +kernel⟩
theorem o__law_plant_fault {P : Program} {w : World} {K : PySem.W.Frag} {mg : Str → Option Value} {base : Heap} (Z : Zf P w K mg base) {kws : List (Str × V)} {f : Addr} {fd : FuncData} (F : FunD K "_law_plant_fault" "_law_plant_fault" (defArgs s__law_plant_fault) (defBody s__law_plant_fault) (defScope s__law_plant_fault) [] kws f fd) : FnOk P w K mg base (L2N.CX P w) 2 f fd ["_law_lines"] (spUp K sp__law_plant_fault) := by
  refine d_ok (t := t__law_plant_fault) F sc__law_plant_fault (fun ds G Q Ed h => l__law_plant_fault h) (fun cdv A outer s H O Ed E hr xo => ?_) r__law_plant_fault
  exact dss_cons (ds_par3 (i := 1) (j := 2) (l := 3) rfl sc__law_plant_fault.nd rfl rfl rfl (by decide) (by decide) (by decide) rfl rfl rfl (da_cons (de_lstM (da_nil)) (da_cons (de_lstM (da_cons (de_int) (da_cons (de_int) (da_cons (de_int) (da_nil))))) (da_cons (de_int) (da_nil))))) (dss_cons (ds_for (passes_of rfl) rfl (di_range1 rfl Z.f_range (da_cons (de_callB d_len rfl Z.f_len (by decide +kernel) (da_cons (de_var (pv 0)) (da_nil))) (da_nil))) (dg_name (i := 4) sc__law_plant_fault.nd rfl (by first | exact Or.inl rfl | exact Or.inr rfl)) (dss_cons (ds_set (i := 5) sc__law_plant_fault.nd rfl (by first | exact Or.inl rfl | exact Or.inr rfl) (de_bm PySem.F.plainAttrs_str PySem.F.slot_str_split PySem.F.type_str_split d_split (de_ix d_ix (de_var (pv 0)) (de_var (pv 4))) (da_cons (de_str (by rfl)) (da_nil)))) (dss_cons (ds_set (i := 6) sc__law_plant_fault.nd rfl (by first | exact Or.inl rfl | exact Or.inr rfl) (de_if (dt_cmp (d_in (hU1 hr)) (de_ix d_ix (de_var (pv 5)) (de_int)) (de_lst (da_cons (de_str (by rfl)) (da_cons (de_str (by rfl)) (da_cons (de_str (by rfl)) (da_nil)))))) (de_bm PySem.F.plainAttrs_list PySem.F.slot_list_index PySem.F.type_list_index (d_index (hU1 hr)) (de_lst (da_cons (de_str (by rfl)) (da_cons (de_str (by rfl)) (da_cons (de_str (by rfl)) (da_nil))))) (da_cons (de_ix d_ix (de_var (pv 5)) (de_int)) (da_nil))) (de_un d_neg (de_int)))) (dss_cons (ds_if (dw_pt (dw_or (dt_cmp d_lt (de_var (pv 6)) (de_var (pv 3))) (dw_or (dt_cmp (d_ne (hU hr)) (de_callB d_len rfl Z.f_len (by decide +kernel) (da_cons (de_var (pv 5)) (da_nil))) (de_if (dt_cmp (d_eq (hU hr)) (de_var (pv 6)) (de_int)) (de_int) (de_int))) (dw_or (dt_not (dt_val (de_callF (k__law_is_word Z) (hr.mono (by decide)) xo (da_cons (de_ix d_ix (de_var (pv 5)) (de_int)) (da_nil))))) (dw_or1 (dt_cmp (d_in (hU1 hr)) (de_ix d_ix (de_var (pv 5)) (de_int)) (de_var (pv 1)))))))) (dss_one (ds_ret (de_var (pv 4)))) (dss_nil)) (dss_cons (ds_if (dw_pt (dw_or (dt_cmp d_ge (de_ix d_ix (de_var (pv 2)) (de_var (pv 6))) (de_if (dt_cmp (d_eq (hU hr)) (de_var (pv 6)) (de_int)) (de_int) (de_int))) (dw_or1 (dw_pt (dw_and (dt_cmp (d_eq (hU hr)) (de_var (pv 6)) (de_int)) (dw_and1 (dt_cmp (d_notin (hU1 hr)) (de_ix d_ix (de_var (pv 5)) (de_int)) (de_lst (da_cons (de_str (by rfl)) (da_cons (de_str (by rfl)) (da_cons (de_str (by rfl)) (da_cons (de_str (by rfl)) (da_cons (de_str (by rfl)) (da_cons (de_str (by rfl)) (da_nil))))))))))))))) (dss_one (ds_ret (de_var (pv 4)))) (dss_nil)) (dss_cons (ds_expr (de_bm PySem.F.plainAttrs_list PySem.F.slot_list_append PySem.F.type_list_append d_append (de_var (pv 1)) (da_cons (de_ix d_ix (de_var (pv 5)) (de_int)) (da_nil)))) (dss_one (ds_asg (de_tup (da_cons (de_var (pv 6)) (da_cons (de_op d_add (de_ix d_ix (de_var (pv 2)) (de_var (pv 6))) (de_int)) (da_nil)))) (dg_tup (n := 2) rfl (dgs_cons (dg_name (i := 3) sc__law_plant_fault.nd rfl (by first | exact Or.inl rfl | exact Or.inr rfl)) (dgs_cons (dg_sub (de_var (pv 2)) (de_var (pv 6)) d_set) (dgs_nil)))))))))))) (dss_one (ds_ret (de_if (dt_cmp d_gt (de_ix d_ix (de_var (pv 2)) (de_int)) (de_int)) (de_non) (de_callB d_len rfl Z.f_len (by decide +kernel) (da_cons (de_var (pv 0)) (da_nil)))))))
theorem k__law_plant_fault {P : Program} {w : World} {K : PySem.W.Frag} {mg : Str → Option Value} {base : Heap} (Z : Zf P w K mg base) : FnK P w K mg base "_law_plant_fault" 2 ["_law_lines"] sp__law_plant_fault := by
  obtain ⟨fd, F⟩ := Z.fd__law_plant_fault
  exact ⟨⟨fd, o__law_plant_fault Z F, F.bindsN fun _ _ _ _ _ _ us hl => match us, hl with | [_], _ => rfl⟩, Z.gl__law_plant_fault, F.kp⟩
theorem sc__law_cut_line : FnScope N__law_cut_line ["_law_text_y"] (defScope s__law_cut_line) := ⟨rfl, rfl, rfl, by decide +kernel, rfl, by decide +kernel, by decide +kernel⟩
theorem o__law_cut_line {P : Program} {w : World} {K : PySem.W.Frag} {mg : Str → Option Value} {base : Heap} (Z : Zf P w K mg base) {kws : List (Str × V)} {f : Addr} {fd : FuncData} (F : FunD K "_law_cut_line" "_law_cut_line" (defArgs s__law_cut_line) (defBody s__law_cut_line) (defScope s__law_cut_line) [] kws f fd) : FnOk P w K mg base (L2N.CX P w) 3 f fd ["_law_text_y"] (spUp K sp__law_cut_line) := by
  refine d_ok (t := t__law_cut_line) F sc__law_cut_line (fun ds G Q Ed h => l__law_cut_line h) (fun cdv A outer s H O Ed E hr xo => ?_) r__law_cut_line
  exact dss_cons (ds_set (i := 1) sc__law_cut_line.nd rfl (by first | exact Or.inl rfl | exact Or.inr rfl) (de_slice (de_bm PySem.F.plainAttrs_str PySem.F.slot_str_split PySem.F.type_str_split d_split (de_var (pv 0)) (da_cons (de_str (by rfl)) (da_nil))) (dpo_none) (dpo_some (de_un d_neg (de_int))))) (dss_cons (ds_set (i := 2) sc__law_cut_line.nd rfl (by first | exact Or.inl rfl | exact Or.inr rfl) (de_callF (k__law_plant_fault Z) (hr.mono (by decide)) xo (da_cons (de_var (pv 1)) (da_nil)))) (dss_one (ds_ret (de_if (dt_isN (de_var (pv 2))) (de_callB d_len rfl Z.f_len (by decide +kernel) (da_cons (de_var (pv 1)) (da_nil))) (de_var (pv 2))))))
theorem k__law_cut_line {P : Program} {w : World} {K : PySem.W.Frag} {mg : Str → Option Value} {base : Heap} (Z : Zf P w K mg base) : FnK P w K mg base "_law_cut_line" 3 ["_law_text_y"] sp__law_cut_line := by
  obtain ⟨fd, F⟩ := Z.fd__law_cut_line
  exact ⟨⟨fd, o__law_cut_line Z F, F.bindsN fun _ _ _ _ _ _ us hl => match us, hl with | [_], _ => rfl⟩, Z.gl__law_cut_line, F.kp⟩
theorem sc__law_field : FnScope N__law_field ["_law_e"] (defScope s__law_field) := ⟨rfl, rfl, rfl, by decide +kernel, rfl, by decide +kernel, by decide +kernel⟩
theorem sc__law_try : FnScope ["_law_ask", "_law_e"] ["_law_ask"] (defScope s__law_try) := ⟨rfl, rfl, rfl, by decide +kernel, rfl, by decide +kernel, by decide +kernel⟩
theorem sc__law_tries : FnScope ["_law_asks", "_law_ask"] ["_law_asks"] (defScope s__law_tries) := ⟨rfl, rfl, rfl, by decide +kernel, rfl, by decide +kernel, by decide +kernel⟩
theorem sc_law : FnScope N_law ["_law_script"] (defScope s_law) := ⟨rfl, rfl, rfl, by decide +kernel, rfl, by decide +kernel, by decide +kernel⟩
theorem k__law_field {P : Program} {w : World} {K : PySem.W.Frag} {mg : Str → Option Value} {base : Heap} (Z : Zf P w K mg base) : FldK P w K mg base "_law_field" 12 ["_law_e"] (spF xTab) := by
  obtain ⟨fd, F⟩ := Z.fd__law_field
  exact ⟨⟨fd, fld_ok (t := t__law_field) F sc__law_field rfl (fun cdv A outer s H O a oe x y cls d hr hz hf hx hsp => dss_cons (ds_if (dt_cmp (d_in (hH1 hr)) (de_xf (f := "code") List.mem_cons_self hz hf hx (Z.xf_all.of hsp (by decide)) (de_var (pv 0))) (de_lst (da_cons (de_str (by rfl)) (da_cons (de_str (by rfl)) (da_cons (de_str (by rfl)) (da_cons (de_str (by rfl)) (da_cons (de_str (by rfl)) (da_cons (de_str (by rfl)) (da_nil))))))))) (dss_one (ds_ret (de_xf (f := "at") List.mem_cons_self hz hf hx (Z.xf_all.of hsp (by decide)) (de_var (pv 0))))) (dss_nil)) (dss_cons (ds_if (dt_cmp (d_in (hH1 hr)) (de_xf (f := "code") List.mem_cons_self hz hf hx (Z.xf_all.of hsp (by decide)) (de_var (pv 0))) (de_lst (da_cons (de_str (by rfl)) (da_cons (de_str (by rfl)) (da_nil))))) (dss_one (ds_ret (de_xf (f := "line") List.mem_cons_self hz hf hx (Z.xf_all.of hsp (by decide)) (de_var (pv 0))))) (dss_nil)) (dss_cons (ds_if (dt_cmp (d_in (hH1 hr)) (de_xf (f := "code") List.mem_cons_self hz hf hx (Z.xf_all.of hsp (by decide)) (de_var (pv 0))) (de_lst (da_cons (de_str (by rfl)) (da_cons (de_str (by rfl)) (da_nil))))) (dss_one (ds_ret (de_xf (f := "name") List.mem_cons_self hz hf hx (Z.xf_all.of hsp (by decide)) (de_var (pv 0))))) (dss_nil)) (dss_cons (ds_if (dt_cmp (d_eq (hH hr)) (de_xf (f := "code") List.mem_cons_self hz hf hx (Z.xf_all.of hsp (by decide)) (de_var (pv 0))) (de_str (by rfl))) (dss_one (ds_ret (de_xf (f := "liquid") List.mem_cons_self hz hf hx (Z.xf_all.of hsp (by decide)) (de_var (pv 0))))) (dss_nil)) (dss_cons (ds_if (dt_cmp (d_eq (hH hr)) (de_xf (f := "code") List.mem_cons_self hz hf hx (Z.xf_all.of hsp (by decide)) (de_var (pv 0))) (de_str (by rfl))) (dss_one (ds_ret (de_xf (f := "most") List.mem_cons_self hz hf hx (Z.xf_all.of hsp (by decide)) (de_var (pv 0))))) (dss_nil)) (dss_cons (ds_if (dt_cmp (d_eq (hH hr)) (de_xf (f := "code") List.mem_cons_self hz hf hx (Z.xf_all.of hsp (by decide)) (de_var (pv 0))) (de_str (by rfl))) (dss_one (ds_ret (de_xf (f := "limit") List.mem_cons_self hz hf hx (Z.xf_all.of hsp (by decide)) (de_var (pv 0))))) (dss_nil)) (dss_one (ds_ret (de_if (dt_cmp (d_in (hH1 hr)) (de_xf (f := "code") List.mem_cons_self hz hf hx (Z.xf_all.of hsp (by decide)) (de_var (pv 0))) (de_lst (da_cons (de_str (by rfl)) (da_cons (de_str (by rfl)) (da_cons (de_str (by rfl)) (da_cons (de_str (by rfl)) (da_nil))))))) (de_non) (de_xf (f := "given") List.mem_cons_self hz hf hx (Z.xf_all.of hsp (by decide)) (de_var (pv 0)))))))))))) (fun a x y G Qd h q => r__law_field a x y G Qd h q), F.bindsN fun _ _ _ _ _ _ us hl => match us, hl with | [_], _ => rfl⟩, Z.gl__law_field, F.kp⟩
theorem kk__law_try {P : Program} {w : World} {K : PySem.W.Frag} {mg : Str → Option Value} {base : Heap} (Z : Zf P w K mg base) : ClK P w K mg base "_law_try" 13 ["_law_ask"] (spTry P w K mg base 12 (csT K) (spF xTab)) := by
  obtain ⟨fd, F⟩ := Z.fd__law_try
  obtain ⟨fg, Gf, bg⟩ := (k__law_field Z).ex
  exact ⟨⟨fd, ok_try F sc__law_try (fun cdv A outer s H E => .cons ⟨rfl, by decide, .inl Z.g_LiquidError⟩ (.cons ⟨rfl, by decide, .inl Z.g_Missing⟩ (.cons ⟨rfl, by decide, .inl Z.g_NothingLeft⟩ (.nil)))) (fun X => tupM3) (by simp [csT]) (fun p env => rfl) Gf rfl rfl (k__law_field Z).gl (k__law_field Z).kp bg rfl rfl (by decide) (by decide) (by decide) (by decide) (by decide), F.bindsN fun _ _ _ _ _ _ us hl => match us, hl with | [_], _ => rfl⟩, Z.gl__law_try, F.kp⟩
theorem kk__law_tries {P : Program} {w : World} {K : PySem.W.Frag} {mg : Str → Option Value} {base : Heap} (Z : Zf P w K mg base) : ClK P w K mg base "_law_tries" 14 ["_law_asks"] (spTries P w K mg base 12 (csT K) (spF xTab)) := by
  obtain ⟨fd, F⟩ := Z.fd__law_tries
  obtain ⟨ft, Ft, bt⟩ := (kk__law_try Z).ex
  exact ⟨⟨fd, ok_tries F sc__law_tries (blkOk_by (by kernel_rfl)) Ft rfl (kk__law_try Z).gl (kk__law_try Z).kp bt rfl rfl (by decide) (by decide) (by decide) (by decide) (by decide), F.bindsN fun _ _ _ _ _ _ us hl => match us, hl with | [_], _ => rfl⟩, Z.gl__law_tries, F.kp⟩
abbrev lm0 : Arguments × Expr × Scope := lamT (eSub 0 (sVal (sBody 1 (sBody 9 ((defBody s_law).getD 1 noS)))))
theorem sc_lam0 : NdefX.NScope N_lam0 [] ["_law_lot"] lm0.2.2 := NdefX.nscope_by (by decide +kernel)
theorem nd_lam0 : NdefX.ndefB (defScope s_law) lm0.2.2 ["_law_lot"] = true := by decide +kernel
theorem nn_lam0 (m : Nat) : ((L2.cloFrom (cellsFrom (m + 1) (defScope s_law).names []) lm0.2.2.names []).map (·.1)).Nodup := by
  have e : (L2.cloFrom (cellsFrom (m + 1) (defScope s_law).names []) lm0.2.2.names []).map (·.1) = (["_law_lot"] : List Str) := by rfl
  rw [e]
  decide
theorem L_0 {P : Program} {w : World} {K : PySem.W.Frag} {mg : Str → Option Value} {base : Heap} (Z : Zf P w K mg base) {q : Str} (cl : List (Str × Addr)) (c : Addr) (T : Option Addr) (hT : T.isSome = false) : LOk P w K mg base 12 ⟨q, lm0.1, lm0.2.1, lm0.2.2, cl, c, T⟩ ["_law_lot"] spL_0 := by
  cases T with
  | some T => cases hT
  | none =>
    refine lok_of (N := N_lam0) (ps := []) (t := t_lam0) sc_lam0 rfl (fun doc pm ctv s h => ⟨[], .nil, BindsTo.of_eq rfl⟩) (fun f A outer s H O Ed E hr xo => ?_) (fun ws G Qd Ed h hl => r_lam0 ws G Qd Ed h)
    exact de_methF0 (m := "text") Z.cls_Plant (m_Plant_text Z) (hr.mono (by decide)) xo (de_cmF (m := "read") (m_Plant_read Z) (hr.mono (by decide)) xo (de_clsN Z.g_Plant) (da_cons (de_bm PySem.F.plainAttrs_str PySem.F.slot_str_join PySem.F.type_str_join d_join (de_str (by rfl)) (da_cons (de_lc (own := [("_law_line", 1)]) rfl sc_lam0.nd (di_any (de_var (pv 0))) (blkOk_by (by kernel_rfl)) (ownN (by simp)) (fun _ _ _ _ _ => pg_name (i := 1) sc_lam0.nd rfl (by first | exact Or.inl rfl | exact Or.inr rfl)  (by first | exact Or.inl rfl | exact Or.inr rfl)) (fun _ _ _ _ _ => dts_nil) (fun _ _ _ _ _ => de_op d_add (de_var (pv 1)) (de_str (by rfl)))) (da_nil))) (da_nil)))
abbrev lm1 : Arguments × Expr × Scope := lamT (eSub 0 (sVal (sBody 12 ((defBody s_law).getD 1 noS))))
theorem sc_lam1 : NdefX.NScope N_lam1 [] ["_law_cut"] lm1.2.2 := NdefX.nscope_by (by decide +kernel)
theorem nd_lam1 : NdefX.ndefB (defScope s_law) lm1.2.2 ["_law_cut"] = true := by decide +kernel
theorem nn_lam1 (m : Nat) : ((L2.cloFrom (cellsFrom (m + 1) (defScope s_law).names []) lm1.2.2.names []).map (·.1)).Nodup := by
  have e : (L2.cloFrom (cellsFrom (m + 1) (defScope s_law).names []) lm1.2.2.names []).map (·.1) = (["_law_cut"] : List Str) := by rfl
  rw [e]
  decide
theorem L_1 {P : Program} {w : World} {K : PySem.W.Frag} {mg : Str → Option Value} {base : Heap} (Z : Zf P w K mg base) {q : Str} (cl : List (Str × Addr)) (c : Addr) (T : Option Addr) (hT : T.isSome = false) : LOk P w K mg base 12 ⟨q, lm1.1, lm1.2.1, lm1.2.2, cl, c, T⟩ ["_law_cut"] spL_1 := by
  cases T with
  | some T => cases hT
  | none =>
    refine lok_of (N := N_lam1) (ps := []) (t := t_lam1) sc_lam1 rfl (fun doc pm ctv s h => ⟨[], .nil, BindsTo.of_eq rfl⟩) (fun f A outer s H O Ed E hr xo => ?_) (fun ws G Qd Ed h hl => r_lam1 ws G Qd Ed h)
    exact de_cmF (m := "read") (m_Plant_read Z) (hr.mono (by decide)) xo (de_clsN Z.g_Plant) (da_cons (de_op d_add (de_var (pv 0)) (de_str (by rfl))) (da_nil))
abbrev lm2 : Arguments × Expr × Scope := lamT (eSub 1 (sVal (sBody 12 ((defBody s_law).getD 1 noS))))
theorem sc_lam2 : NdefX.NScope N_lam2 ["_law_a"] ["_law_odd_here"] lm2.2.2 := NdefX.nscope_by (by decide +kernel)
theorem nd_lam2 : NdefX.ndefB (defScope s_law) lm2.2.2 ["_law_odd_here"] = true := by decide +kernel
theorem nn_lam2 (m : Nat) : ((L2.cloFrom (cellsFrom (m + 1) (defScope s_law).names []) lm2.2.2.names []).map (·.1)).Nodup := by
  have e : (L2.cloFrom (cellsFrom (m + 1) (defScope s_law).names []) lm2.2.2.names []).map (·.1) = (["_law_odd_here"] : List Str) := by rfl
  rw [e]
  decide
theorem L_2 {P : Program} {w : World} {K : PySem.W.Frag} {mg : Str → Option Value} {base : Heap} (Z : Zf P w K mg base) {q : Str} (cl : List (Str × Addr)) (c : Addr) (T : Option Addr) (hT : T.isSome = true) : LOk P w K mg base 12 ⟨q, lm2.1, lm2.2.1, lm2.2.2, cl, c, T⟩ ["_law_odd_here"] spL_2 := by
  obtain ⟨T, rfl⟩ := Option.isSome_iff_exists.mp hT
  refine lok_of (N := N_lam2) (ps := ["_law_a"]) (t := t_lam2) sc_lam2 rfl (fun doc pm ctv s h => ?_) (fun f A outer s H O Ed E hr xo => ?_) (fun ws G Qd Ed h hl => r_lam2 ws G Qd Ed h)
  · obtain ⟨o, n, t, h1, h2⟩ := h T rfl
    exact ⟨[.int 0 t], .cons ⟨t, rfl⟩ .nil, bind_dfl h1 h2 ⟨_, rfl, rfl⟩⟩
  · exact de_cmF (m := "read") (m_Plant_read Z) (hr.mono (by decide)) xo (de_clsN Z.g_Plant) (da_cons (de_var (pv 1)) (da_nil))
abbrev lm3 : Arguments × Expr × Scope := lamT (eSub 2 (sVal (sBody 12 ((defBody s_law).getD 1 noS))))
theorem sc_lam3 : NdefX.NScope N_lam3 ["_law_b"] [] lm3.2.2 := NdefX.nscope_by (by decide +kernel)
theorem nd_lam3 : NdefX.ndefB (defScope s_law) lm3.2.2 [] = true := by decide +kernel
theorem nn_lam3 (m : Nat) : ((L2.cloFrom (cellsFrom (m + 1) (defScope s_law).names []) lm3.2.2.names []).map (·.1)).Nodup := by
  have e : (L2.cloFrom (cellsFrom (m + 1) (defScope s_law).names []) lm3.2.2.names []).map (·.1) = ([] : List Str) := by rfl
  rw [e]
  decide
theorem L_3 {P : Program} {w : World} {K : PySem.W.Frag} {mg : Str → Option Value} {base : Heap} (Z : Zf P w K mg base) {q : Str} (cl : List (Str × Addr)) (c : Addr) (T : Option Addr) (hT : T.isSome = true) : LOk P w K mg base 12 ⟨q, lm3.1, lm3.2.1, lm3.2.2, cl, c, T⟩ [] spL_3 := by
  obtain ⟨T, rfl⟩ := Option.isSome_iff_exists.mp hT
  refine lok_of (N := N_lam3) (ps := ["_law_b"]) (t := t_lam3) sc_lam3 rfl (fun doc pm ctv s h => ?_) (fun f A outer s H O Ed E hr xo => ?_) (fun ws G Qd Ed h hl => r_lam3 ws G Qd Ed h)
  · obtain ⟨o, n, t, h1, h2⟩ := h T rfl
    exact ⟨[.int 0 t], .cons ⟨t, rfl⟩ .nil, bind_dfl h1 h2 ⟨_, rfl, rfl⟩⟩
  · exact de_cmF (m := "read") (m_Plant_read Z) (hr.mono (by decide)) xo (de_clsN Z.g_Plant) (da_cons (de_str (by rfl)) (da_nil))
abbrev qlam : Str := "law" ++ ".<locals>." ++ "<lambda>"
theorem o_law {P : Program} {w : World} {K : PySem.W.Frag} {mg : Str → Option Value} {base : Heap} (Z : Zf P w K mg base) {T : Addr} (TB : LamX.TabB base mg (cdAt K (gaS K "law")) T) {fd : FuncData} (F : FunD K "law" "law" (defArgs s_law) (defBody s_law) (defScope s_law) [] [] (gaS K "law") fd) : FnOk P w K mg base (L2N.CX P w) 15 (gaS K "law") fd ["_law_script"] (fun vs H Q E => spLaw K T 63 vs H Q E ∧ E = E0) := by
  refine d_okL (nm := fun _ _ => qlam) (t := t_law P w K mg base T qlam (defScope s_law) lm0.1 lm0.2.1 lm0.2.2 lm1.1 lm1.2.1 lm1.2.2 lm2.1 lm2.2.1 lm2.2.2 lm3.1 lm3.2.1 lm3.2.2) F sc_law (fun A outer s H O hr xo => ?_) (r_law ⟨Z.ex_all, Z.xf_all, L_0 Z, nd_lam0, nn_lam0, L_1 Z, nd_lam1, nn_lam1, L_2 Z, nd_lam2, nn_lam2, L_3 Z, nd_lam3, nn_lam3⟩)
  exact dss_cons (ds_set (i := 1) sc_law.nd rfl (by first | exact Or.inl rfl | exact Or.inr rfl) (de_callF (k__law_start Z) (hr.mono (by decide)) xo (da_cons (de_var (pv 0)) (da_nil)))) (dss_cons (ds_for (passes_of rfl) rfl (di_range1 rfl Z.f_range (da_cons (de_int) (da_nil))) (dg_name (i := 2) sc_law.nd rfl (by first | exact Or.inl rfl | exact Or.inr rfl)) (dss_cons (ds_set (i := 3) sc_law.nd rfl (by first | exact Or.inl rfl | exact Or.inr rfl) (de_callF (k__law_plant Z) (hr.mono (by decide)) xo (da_cons (de_var (pv 1)) (da_cons (de_lst (da_cons (de_int) (da_cons (de_int) (da_cons (de_int) (da_cons (de_int) (da_nil)))))) (da_nil))))) (dss_cons (ds_set (i := 4) sc_law.nd rfl (by first | exact Or.inl rfl | exact Or.inr rfl) (de_callF (k__law_plant_lines Z) (hr.mono (by decide)) xo (da_cons (de_var (pv 3)) (da_nil)))) (dss_cons (ds_set (i := 5) sc_law.nd rfl (by first | exact Or.inl rfl | exact Or.inr rfl) (de_bm PySem.F.plainAttrs_str PySem.F.slot_str_join PySem.F.type_str_join d_join (de_str (by rfl)) (da_cons (de_lc (own := [("_law_line", 17)]) rfl sc_law.nd (di_any (de_var (pv 4))) (blkOk_by (by kernel_rfl)) (ownN (by simp)) (fun _ _ _ _ _ => pg_name (i := 17) sc_law.nd rfl (by first | exact Or.inl rfl | exact Or.inr rfl)  (by first | exact Or.inl rfl | exact Or.inr rfl)) (fun _ _ _ _ _ => dts_nil) (fun _ _ _ _ _ => de_op d_add (de_var (pv 17)) (de_str (by rfl)))) (da_nil)))) (dss_cons (ds_set (i := 6) sc_law.nd rfl (by first | exact Or.inl rfl | exact Or.inr rfl) (de_callF (k__law_made_plant Z) (hr.mono (by decide)) xo (da_cons (de_var (pv 3)) (da_nil)))) (dss_cons (ds_if (dw_pt (dw_or (dt_not (dt_val (de_callF (k__law_same Z 3) (hr.mono (by decide)) xo (da_cons (de_lst (da_cons (de_methF0 (m := "text") Z.cls_Plant (m_Plant_text Z) (hr.mono (by decide)) xo (de_var (pv 6))) (da_cons (de_methF0 (m := "text") Z.cls_Plant (m_Plant_text Z) (hr.mono (by decide)) xo (de_cmKF (m := "read") (m_Plant_read Z) (hr.mono (by decide)) xo (de_clsN Z.g_Plant) (dk_cons (de_var (pv 5)) (dk_nil)))) (da_nil)))) (da_cons (de_lst (da_cons (de_var (pv 5)) (da_cons (de_var (pv 5)) (da_nil)))) (da_nil)))))) (dw_or1 (dt_cmp (own_ne (m_Plant___eq__ Z) (hr.mono (by decide))) (de_cmF (m := "read") (m_Plant_read Z) (hr.mono (by decide)) xo (de_clsN Z.g_Plant) (da_cons (de_var (pv 5)) (da_nil))) (de_var (pv 6)))))) (dss_one (ds_ret (de_bl))) (dss_nil)) (dss_cons (ds_set (i := 7) sc_law.nd rfl (by first | exact Or.inl rfl | exact Or.inr rfl) (de_callF (k__law_pull Z) (hr.mono (by decide)) xo (da_cons (de_var (pv 1)) (da_cons (de_op d_add (de_callB d_len rfl Z.f_len (by decide +kernel) (da_cons (de_var (pv 4)) (da_nil))) (de_int)) (da_nil))))) (dss_cons (ds_set (i := 8) sc_law.nd rfl (by first | exact Or.inl rfl | exact Or.inr rfl) (de_callF (k__law_pick Z) (hr.mono (by decide)) xo (da_cons (de_var (pv 1)) (da_cons (de_lst (da_cons (de_str (by rfl)) (da_cons (de_str (by rfl)) (da_cons (de_str (by rfl)) (da_cons (de_str (by rfl)) (da_cons (de_str (by rfl)) (da_cons (de_str (by rfl)) (da_cons (de_str (by rfl)) (da_cons (de_str (by rfl)) (da_cons (de_str (by rfl)) (da_cons (de_str (by rfl)) (da_cons (de_str (by rfl)) (da_cons (de_str (by rfl)) (da_cons (de_str (by rfl)) (da_cons (de_str (by rfl)) (da_cons (de_str (by rfl)) (da_cons (de_str (by rfl)) (da_cons (de_str (by rfl)) (da_cons (de_str (by rfl)) (da_cons (de_str (by rfl)) (da_cons (de_str (by rfl)) (da_nil)))))))))))))))))))))) (da_nil))))) (dss_cons (ds_set (i := 9) sc_law.nd rfl (by first | exact Or.inl rfl | exact Or.inr rfl) (de_callF (k__law_pull Z) (hr.mono (by decide)) xo (da_cons (de_var (pv 1)) (da_cons (de_callB d_len rfl Z.f_len (by decide +kernel) (da_cons (de_var (pv 4)) (da_nil))) (da_nil))))) (dss_cons (ds_set (i := 10) sc_law.nd rfl (by first | exact Or.inl rfl | exact Or.inr rfl) (de_lst (da_cons (de_op d_add (de_op d_add (de_slice (de_var (pv 4)) (dpo_none) (dpo_some (de_var (pv 7)))) (de_lst (da_cons (de_var (pv 8)) (da_nil)))) (de_slice (de_var (pv 4)) (dpo_some (de_var (pv 7))) (dpo_none))) (da_cons (de_op d_add (de_slice (de_var (pv 4)) (dpo_none) (dpo_some (de_var (pv 9)))) (de_slice (de_var (pv 4)) (dpo_some (de_op d_add (de_var (pv 9)) (de_int))) (dpo_none))) (da_cons (de_op d_add (de_op d_add (de_slice (de_var (pv 4)) (dpo_none) (dpo_some (de_var (pv 9)))) (de_lst (da_cons (de_ix d_ix (de_var (pv 4)) (de_var (pv 9))) (da_nil)))) (de_slice (de_var (pv 4)) (dpo_some (de_var (pv 9))) (dpo_none))) (da_cons (de_rev (de_var (pv 4))) (da_nil))))))) (dss_cons (ds_for (passes_of rfl) rfl (di_any (de_var (pv 10))) (dg_name (i := 11) sc_law.nd rfl (by first | exact Or.inl rfl | exact Or.inr rfl)) (dss_cons (ds_set (i := 12) sc_law.nd rfl (by first | exact Or.inl rfl | exact Or.inr rfl) (de_callF (k__law_plant_fault Z) (hr.mono (by decide)) xo (da_cons (de_var (pv 11)) (da_nil)))) (dss_cons (ds_set (i := 13) sc_law.nd rfl (by first | exact Or.inl rfl | exact Or.inr rfl) (de_boundF (k := 12) callee_try (kk__law_try Z) (fun _ => rfl) (hr.mono (by decide)) (de_lam0 TB rfl rfl rfl rfl (NdefX.ndef_free nd_lam0)))) (dss_one (ds_if (dt_not (dt_val (de_callF (k__law_same Z 3) (hr.mono (by decide)) xo (da_cons (de_var (pv 13)) (da_cons (de_if (dt_isN (de_var (pv 12))) (de_tup (da_cons (de_str (by rfl)) (da_cons (de_bm PySem.F.plainAttrs_str PySem.F.slot_str_join PySem.F.type_str_join d_join (de_str (by rfl)) (da_cons (de_lc (own := [("_law_line", 17)]) rfl sc_law.nd (di_any (de_var (pv 11))) (blkOk_by (by kernel_rfl)) (ownN (by simp)) (fun _ _ _ _ _ => pg_name (i := 17) sc_law.nd rfl (by first | exact Or.inl rfl | exact Or.inr rfl)  (by first | exact Or.inl rfl | exact Or.inr rfl)) (fun _ _ _ _ _ => dts_nil) (fun _ _ _ _ _ => de_op d_add (de_var (pv 17)) (de_str (by rfl)))) (da_nil))) (da_nil)))) (de_tup (da_cons (de_str (by rfl)) (da_cons (de_var (pv 12)) (da_nil))))) (da_nil)))))) (dss_one (ds_ret (de_bl))) (dss_nil)))))) (dss_cons (ds_set (i := 14) sc_law.nd rfl (by first | exact Or.inl rfl | exact Or.inr rfl) (de_slice (de_var (pv 5)) (dpo_none) (dpo_some (de_callF (k__law_pull Z) (hr.mono (by decide)) xo (da_cons (de_var (pv 1)) (da_cons (de_callB d_len rfl Z.f_len (by decide +kernel) (da_cons (de_var (pv 5)) (da_nil))) (da_nil))))))) (dss_cons (ds_set (i := 15) sc_law.nd rfl (by first | exact Or.inl rfl | exact Or.inr rfl) (de_callF (k__law_odd Z) (hr.mono (by decide)) xo (da_cons (de_var (pv 1)) (da_cons (de_lst (da_cons (de_lst (da_cons (de_var (pv 5)) (da_nil))) (da_cons (de_tup (da_cons (de_var (pv 5)) (da_nil))) (da_nil)))) (da_nil))))) (dss_cons (ds_set (i := 16) sc_law.nd rfl (by first | exact Or.inl rfl | exact Or.inr rfl) (de_lst (da_cons (de_lam0 TB rfl rfl rfl rfl (NdefX.ndef_free nd_lam1)) (da_cons (de_lam1 TB rfl rfl rfl rfl (NdefX.ndef_free nd_lam2)) (da_cons (de_lam1 TB rfl rfl rfl rfl (NdefX.ndef_free nd_lam3)) (da_nil)))))) (dss_cons (ds_set (i := 12) sc_law.nd rfl (by first | exact Or.inl rfl | exact Or.inr rfl) (de_lst (da_cons (de_tup (da_cons (de_str (by rfl)) (da_cons (de_callF (k__law_cut_line Z) (hr.mono (by decide)) xo (da_cons (de_op d_add (de_var (pv 14)) (de_str (by rfl))) (da_nil))) (da_nil)))) (da_cons (de_tup (da_cons (de_str (by rfl)) (da_cons (de_int) (da_nil)))) (da_cons (de_tup (da_cons (de_str (by rfl)) (da_cons (de_int) (da_nil)))) (da_nil)))))) (dss_one (ds_if (dt_not (dt_val (de_callF (k__law_same Z 3) (hr.mono (by decide)) xo (da_cons (de_boundF (k := 12) callee_tries (kk__law_tries Z) (fun _ => rfl) (hr.mono (by decide)) (de_var (pv 16))) (da_cons (de_var (pv 12)) (da_nil)))))) (dss_one (ds_ret (de_bl))) (dss_nil)))))))))))))))))) (dss_one (ds_ret (de_bl))))
end LK06
set_option Elab.async false
set_option linter.all false
set_option maxRecDepth 100000
set_option maxHeartbeats 4000000
namespace LK06
open PySem PySem.Spec PyProof.Rows L2 DL
def fz0 : List Fz := [.fa (.str "LETTERS" ⟨([97, 98, 99, 100, 101, 102, 103, 104, 105, 106, 107, 108, 109, 110, 111, 112, 113, 114, 115, 116, 117, 118, 119, 120, 121, 122] : List Nat).toArray⟩), .fa (.int "MOST_ROWS" 2), .fa (.cls (Str.ofString "Plant")), .cv "Plant" "MOST_SIZE" 6, .cv "Plant" "MOST_VATS" 4, .fa (.free "all"), .fa (.free "bool"), .fa (.free "enumerate"), .fa (.free "int"), .fa (.free "isinstance"), .fa (.free "len"), .fa (.free "list")]
def fz1 : List Fz := [.fa (.free "range"), .fa (.free "str"), .fa (.free "tuple"), .fa (.free "zip"), .fa (.glo (Str.ofString "LiquidError")), .fa (.glo (Str.ofString "Missing")), .fa (.glo (Str.ofString "NothingLeft")), .fa (.glo (Str.ofString "Plant")), .isi "Plant" t_isi_Plant c_isi_Plant, .fa (.noat (Str.ofString "Plant") (Str.ofString "own_floats")), .fa (.noat (Str.ofString "Plant") (Str.ofString "own_outlets")), .fa (.noat (Str.ofString "Plant") (Str.ofString "own_vats"))]
def fz2 : List Fz := [.tup "WORDS" [[118, 97, 116], [102, 108, 111, 97, 116], [111, 117, 116, 108, 101, 116]], .exc "InvalidFloat" (some "at") 0, .exc "InvalidOutlet" (some "at") 0, .exc "InvalidText" (some "line") 0, .exc "InvalidVat" (some "at") 0, .fa (.glo (Str.ofString "is_number")), .fa (.glo (Str.ofString "is_name")), .fa (.glo (Str.ofString "digits_in")), .fa (.glo (Str.ofString "is_vat")), .fa (.glo (Str.ofString "is_vat_plants")), .fa (.glo (Str.ofString "read_lines")), .fa (.mkr (Str.ofString "Plant"))]
def fz3 : List Fz := [.fa (.meth (Str.ofString "Plant") (Str.ofString "lines")), .fa (.meth (Str.ofString "Plant") (Str.ofString "text")), .cm "Plant" "read", .own "Plant", .fa (.glo (Str.ofString "_law_start")), .fa (.glo (Str.ofString "_law_pull")), .fa (.glo (Str.ofString "_law_pick")), .fa (.glo (Str.ofString "_law_words")), .fa (.glo (Str.ofString "_law_plant")), .fa (.glo (Str.ofString "_law_made_plant")), .fa (.glo (Str.ofString "_law_kind")), .fa (.glo (Str.ofString "_law_same"))]
def fz4 : List Fz := [.fa (.glo (Str.ofString "_law_odd")), .fa (.glo (Str.ofString "_law_plant_lines")), .fa (.glo (Str.ofString "_law_is_word")), .fa (.glo (Str.ofString "_law_plant_fault")), .fa (.glo (Str.ofString "_law_cut_line")), .fa (.glo (Str.ofString "_law_field")), .fa (.glo (Str.ofString "_law_try")), .fa (.glo (Str.ofString "_law_tries")), .fa (.glo (Str.ofString "law")), .xf "InvalidText", .exm "InvalidText" ["LiquidError", "Missing", "NothingLeft"]]
def fzs : List Fz := fz0 ++ (fz1 ++ (fz2 ++ (fz3 ++ (fz4))))
def dz_0 : He5.DefA := ⟨fun K => gaS K "is_number", "is_number", "is_number", defArgs s_is_number, defBody s_is_number, defScope s_is_number, [], []⟩
def dz_1 : He5.DefA := ⟨fun K => gaS K "is_name", "is_name", "is_name", defArgs s_is_name, defBody s_is_name, defScope s_is_name, [], []⟩
def dz_2 : He5.DefA := ⟨fun K => gaS K "digits_in", "digits_in", "digits_in", defArgs s_digits_in, defBody s_digits_in, defScope s_digits_in, [], []⟩
def dz_3 : He5.DefA := ⟨fun K => gaS K "is_vat", "is_vat", "is_vat", defArgs s_is_vat, defBody s_is_vat, defScope s_is_vat, [], []⟩
def dz_4 : He5.DefA := ⟨fun K => gaS K "is_vat_plants", "is_vat", "is_vat", defArgs s_is_vat, defBody s_is_vat, defScope s_is_vat, [], []⟩
def dz_5 : He5.DefA := ⟨fun K => gaS K "read_lines", "read_lines", "read_lines", defArgs s_read_lines, defBody s_read_lines, defScope s_read_lines, [], []⟩
def dz_6 : He5.DefA := ⟨fun K => He.ma K (gaS K "Plant") "__init__", "__init__", "Plant.__init__", defArgs s_Plant___init__, defBody s_Plant___init__, defScope s_Plant___init__, [], []⟩
def dz_7 : He5.DefA := ⟨fun K => He.ma K (gaS K "Plant") (Str.ofString "lines"), "lines", "Plant.lines", defArgs s_Plant_lines, defBody s_Plant_lines, defScope s_Plant_lines, [], []⟩
def dz_8 : He5.DefA := ⟨fun K => He.ma K (gaS K "Plant") (Str.ofString "text"), "text", "Plant.text", defArgs s_Plant_text, defBody s_Plant_text, defScope s_Plant_text, [], []⟩
def dz_9 : He5.DefA := ⟨fun K => He5.wf K (gaS K "Plant") "classmethod" (Str.ofString "read"), "read", "Plant.read", defArgs s_Plant_read, defBody s_Plant_read, defScope s_Plant_read, [], []⟩
def dz_10 : He5.DefA := ⟨fun K => He.ma K (gaS K "Plant") "__eq__", "__eq__", "Plant.__eq__", defArgs s_Plant___eq__, defBody s_Plant___eq__, defScope s_Plant___eq__, [], []⟩
def dz_11 : He5.DefA := ⟨fun K => gaS K "_law_start", "_law_start", "_law_start", defArgs s__law_start, defBody s__law_start, defScope s__law_start, [], []⟩
def dz_12 : He5.DefA := ⟨fun K => gaS K "_law_pull", "_law_pull", "_law_pull", defArgs s__law_pull, defBody s__law_pull, defScope s__law_pull, [], []⟩
def dz_13 : He5.DefA := ⟨fun K => gaS K "_law_pick", "_law_pick", "_law_pick", defArgs s__law_pick, defBody s__law_pick, defScope s__law_pick, [], []⟩
def dz_14 : He5.DefA := ⟨fun K => gaS K "_law_words", "_law_words", "_law_words", defArgs s__law_words, defBody s__law_words, defScope s__law_words, [], []⟩
def dz_15 : He5.DefA := ⟨fun K => gaS K "_law_plant", "_law_plant", "_law_plant", defArgs s__law_plant, defBody s__law_plant, defScope s__law_plant, [], []⟩
def dz_16 : He5.DefA := ⟨fun K => gaS K "_law_made_plant", "_law_made_plant", "_law_made_plant", defArgs s__law_made_plant, defBody s__law_made_plant, defScope s__law_made_plant, [], []⟩
def dz_17 : He5.DefA := ⟨fun K => gaS K "_law_kind", "_law_kind", "_law_kind", defArgs s__law_kind, defBody s__law_kind, defScope s__law_kind, [], []⟩
def dz_18 : He5.DefA := ⟨fun K => gaS K "_law_same", "_law_same", "_law_same", defArgs s__law_same, defBody s__law_same, defScope s__law_same, [], []⟩
def dz_19 : He5.DefA := ⟨fun K => gaS K "_law_odd", "_law_odd", "_law_odd", defArgs s__law_odd, defBody s__law_odd, defScope s__law_odd, [], []⟩
def dz_20 : He5.DefA := ⟨fun K => gaS K "_law_plant_lines", "_law_plant_lines", "_law_plant_lines", defArgs s__law_plant_lines, defBody s__law_plant_lines, defScope s__law_plant_lines, [], []⟩
def dz_21 : He5.DefA := ⟨fun K => gaS K "_law_is_word", "_law_is_word", "_law_is_word", defArgs s__law_is_word, defBody s__law_is_word, defScope s__law_is_word, [], []⟩
def dz_22 : He5.DefA := ⟨fun K => gaS K "_law_plant_fault", "_law_plant_fault", "_law_plant_fault", defArgs s__law_plant_fault, defBody s__law_plant_fault, defScope s__law_plant_fault, [], []⟩
def dz_23 : He5.DefA := ⟨fun K => gaS K "_law_cut_line", "_law_cut_line", "_law_cut_line", defArgs s__law_cut_line, defBody s__law_cut_line, defScope s__law_cut_line, [], []⟩
def dz_24 : He5.DefA := ⟨fun K => gaS K "_law_field", "_law_field", "_law_field", defArgs s__law_field, defBody s__law_field, defScope s__law_field, [], []⟩
def dz_25 : He5.DefA := ⟨fun K => gaS K "_law_try", "_law_try", "_law_try", defArgs s__law_try, defBody s__law_try, defScope s__law_try, [], []⟩
def dz_26 : He5.DefA := ⟨fun K => gaS K "_law_tries", "_law_tries", "_law_tries", defArgs s__law_tries, defBody s__law_tries, defScope s__law_tries, [], []⟩
def dz_27 : He5.DefA := ⟨fun K => gaS K "law", "law", "law", defArgs s_law, defBody s_law, defScope s_law, [], []⟩
def fns : List He5.DefA := [dz_0, dz_1, dz_2, dz_3, dz_4, dz_5, dz_6, dz_7, dz_8, dz_9, dz_10, dz_11, dz_12, dz_13, dz_14, dz_15, dz_16, dz_17, dz_18, dz_19, dz_20, dz_21, dz_22, dz_23, dz_24, dz_25, dz_26, dz_27]
theorem zf_of {P : Program} {w : World} {K : PySem.W.Frag} {mg : Str → Option Value} {base h : Heap} (X : K.In h) (G : h.Ns mainGlobals mg) (c : SaysZ P fzs fns h K) : Zf P w K mg base where
  c_LETTERS := str_okZ X G (s := [97, 98, 99, 100, 101, 102, 103, 104, 105, 106, 107, 108, 109, 110, 111, 112, 113, 114, 115, 116, 117, 118, 119, 120, 121, 122]) (c.fact 0 (f := .fa (.str "LETTERS" ⟨([97, 98, 99, 100, 101, 102, 103, 104, 105, 106, 107, 108, 109, 110, 111, 112, 113, 114, 115, 116, 117, 118, 119, 120, 121, 122] : List Nat).toArray⟩)) rfl)
  c_MOST_ROWS := int_okZ X G (c.fact 1 (f := .fa (.int "MOST_ROWS" 2)) rfl)
  cls_Plant := He.cls_ok (c.fact 2 (f := .fa (.cls (Str.ofString "Plant"))) rfl)
  cv_Plant_MOST_SIZE := cvB_ok (c.fact 3 (f := .cv "Plant" "MOST_SIZE" 6) rfl)
  cv_Plant_MOST_VATS := cvB_ok (c.fact 4 (f := .cv "Plant" "MOST_VATS" 4) rfl)
  f_all := He.free_ok X G (c.fact 5 (f := .fa (.free "all")) rfl)
  f_bool := He.free_ok X G (c.fact 6 (f := .fa (.free "bool")) rfl)
  f_enumerate := He.free_ok X G (c.fact 7 (f := .fa (.free "enumerate")) rfl)
  f_int := He.free_ok X G (c.fact 8 (f := .fa (.free "int")) rfl)
  f_isinstance := He.free_ok X G (c.fact 9 (f := .fa (.free "isinstance")) rfl)
  f_len := He.free_ok X G (c.fact 10 (f := .fa (.free "len")) rfl)
  f_list := He.free_ok X G (c.fact 11 (f := .fa (.free "list")) rfl)
  f_range := He.free_ok X G (c.fact 12 (f := .fa (.free "range")) rfl)
  f_str := He.free_ok X G (c.fact 13 (f := .fa (.free "str")) rfl)
  f_tuple := He.free_ok X G (c.fact 14 (f := .fa (.free "tuple")) rfl)
  f_zip := He.free_ok X G (c.fact 15 (f := .fa (.free "zip")) rfl)
  g_LiquidError := He.glo_ok X G (c.fact 16 (f := .fa (.glo (Str.ofString "LiquidError"))) rfl)
  g_Missing := He.glo_ok X G (c.fact 17 (f := .fa (.glo (Str.ofString "Missing"))) rfl)
  g_NothingLeft := He.glo_ok X G (c.fact 18 (f := .fa (.glo (Str.ofString "NothingLeft"))) rfl)
  g_Plant := He.glo_ok X G (c.fact 19 (f := .fa (.glo (Str.ofString "Plant"))) rfl)
  it_Plant := isiB_ok (c.fact 20 (f := .isi "Plant" t_isi_Plant c_isi_Plant) rfl)
  no_Plant_own_floats := He.noat_ok (c.fact 21 (f := .fa (.noat (Str.ofString "Plant") (Str.ofString "own_floats"))) rfl)
  no_Plant_own_outlets := He.noat_ok (c.fact 22 (f := .fa (.noat (Str.ofString "Plant") (Str.ofString "own_outlets"))) rfl)
  no_Plant_own_vats := He.noat_ok (c.fact 23 (f := .fa (.noat (Str.ofString "Plant") (Str.ofString "own_vats"))) rfl)
  v_WORDS := tupZ_ok X G (c.fact 24 (f := .tup "WORDS" [[118, 97, 116], [102, 108, 111, 97, 116], [111, 117, 116, 108, 101, 116]]) rfl)
  x_InvalidFloat := exc_okZ X G (fun fd s zs a b c d => bind_at a b c d) (fun f hf => by cases hf; decide) (c.fact 25 (f := .exc "InvalidFloat" (some "at") 0) rfl)
  x_InvalidOutlet := exc_okZ X G (fun fd s zs a b c d => bind_at a b c d) (fun f hf => by cases hf; decide) (c.fact 26 (f := .exc "InvalidOutlet" (some "at") 0) rfl)
  x_InvalidText := exc_okZ X G (fun fd s zs a b c d => bind_line a b c d) (fun f hf => by cases hf; decide) (c.fact 27 (f := .exc "InvalidText" (some "line") 0) rfl)
  x_InvalidVat := exc_okZ X G (fun fd s zs a b c d => bind_at a b c d) (fun f hf => by cases hf; decide) (c.fact 28 (f := .exc "InvalidVat" (some "at") 0) rfl)
  fd_is_number := c.def_ 0 (d := dz_0) rfl
  gl_is_number := He.glo_ok X G (c.fact 29 (f := .fa (.glo (Str.ofString "is_number"))) rfl)
  fd_is_name := c.def_ 1 (d := dz_1) rfl
  gl_is_name := He.glo_ok X G (c.fact 30 (f := .fa (.glo (Str.ofString "is_name"))) rfl)
  fd_digits_in := c.def_ 2 (d := dz_2) rfl
  gl_digits_in := He.glo_ok X G (c.fact 31 (f := .fa (.glo (Str.ofString "digits_in"))) rfl)
  fd_is_vat := c.def_ 3 (d := dz_3) rfl
  gl_is_vat := He.glo_ok X G (c.fact 32 (f := .fa (.glo (Str.ofString "is_vat"))) rfl)
  fd_is_vat_plants := c.def_ 4 (d := dz_4) rfl
  gl_is_vat_plants := He.glo_ok X G (c.fact 33 (f := .fa (.glo (Str.ofString "is_vat_plants"))) rfl)
  fd_read_lines := c.def_ 5 (d := dz_5) rfl
  gl_read_lines := He.glo_ok X G (c.fact 34 (f := .fa (.glo (Str.ofString "read_lines"))) rfl)
  fd_Plant___init__ := let ⟨fd, Fd⟩ := c.def_ 6 (d := dz_6) rfl; ⟨_, fd, [], He.mkr_ok (c.fact 35 (f := .fa (.mkr (Str.ofString "Plant"))) rfl), Fd⟩
  fd_Plant_lines := let ⟨fd, Fd⟩ := c.def_ 7 (d := dz_7) rfl; ⟨_, fd, He.meth_ok (c.fact 36 (f := .fa (.meth (Str.ofString "Plant") (Str.ofString "lines"))) rfl), Fd⟩
  fd_Plant_text := let ⟨fd, Fd⟩ := c.def_ 8 (d := dz_8) rfl; ⟨_, fd, He.meth_ok (c.fact 37 (f := .fa (.meth (Str.ofString "Plant") (Str.ofString "text"))) rfl), Fd⟩
  fd_Plant_read := let ⟨fd, Fd⟩ := c.def_ 9 (d := dz_9) rfl; ⟨_, _, fd, _, (cm_okZ (c.fact 38 (f := .cm "Plant" "read") rfl)).1, (cm_okZ (c.fact 38 (f := .cm "Plant" "read") rfl)).2, Fd⟩
  fd_Plant___eq__ := let ⟨fd, Fd⟩ := c.def_ 10 (d := dz_10) rfl; ⟨_, fd, ownB_ok (c.fact 39 (f := .own "Plant") rfl), Fd⟩
  fd__law_start := c.def_ 11 (d := dz_11) rfl
  gl__law_start := He.glo_ok X G (c.fact 40 (f := .fa (.glo (Str.ofString "_law_start"))) rfl)
  fd__law_pull := c.def_ 12 (d := dz_12) rfl
  gl__law_pull := He.glo_ok X G (c.fact 41 (f := .fa (.glo (Str.ofString "_law_pull"))) rfl)
  fd__law_pick := c.def_ 13 (d := dz_13) rfl
  gl__law_pick := He.glo_ok X G (c.fact 42 (f := .fa (.glo (Str.ofString "_law_pick"))) rfl)
  fd__law_words := c.def_ 14 (d := dz_14) rfl
  gl__law_words := He.glo_ok X G (c.fact 43 (f := .fa (.glo (Str.ofString "_law_words"))) rfl)
  fd__law_plant := c.def_ 15 (d := dz_15) rfl
  gl__law_plant := He.glo_ok X G (c.fact 44 (f := .fa (.glo (Str.ofString "_law_plant"))) rfl)
  fd__law_made_plant := c.def_ 16 (d := dz_16) rfl
  gl__law_made_plant := He.glo_ok X G (c.fact 45 (f := .fa (.glo (Str.ofString "_law_made_plant"))) rfl)
  fd__law_kind := c.def_ 17 (d := dz_17) rfl
  gl__law_kind := He.glo_ok X G (c.fact 46 (f := .fa (.glo (Str.ofString "_law_kind"))) rfl)
  fd__law_same := c.def_ 18 (d := dz_18) rfl
  gl__law_same := He.glo_ok X G (c.fact 47 (f := .fa (.glo (Str.ofString "_law_same"))) rfl)
  fd__law_odd := c.def_ 19 (d := dz_19) rfl
  gl__law_odd := He.glo_ok X G (c.fact 48 (f := .fa (.glo (Str.ofString "_law_odd"))) rfl)
  fd__law_plant_lines := c.def_ 20 (d := dz_20) rfl
  gl__law_plant_lines := He.glo_ok X G (c.fact 49 (f := .fa (.glo (Str.ofString "_law_plant_lines"))) rfl)
  fd__law_is_word := c.def_ 21 (d := dz_21) rfl
  gl__law_is_word := He.glo_ok X G (c.fact 50 (f := .fa (.glo (Str.ofString "_law_is_word"))) rfl)
  fd__law_plant_fault := c.def_ 22 (d := dz_22) rfl
  gl__law_plant_fault := He.glo_ok X G (c.fact 51 (f := .fa (.glo (Str.ofString "_law_plant_fault"))) rfl)
  fd__law_cut_line := c.def_ 23 (d := dz_23) rfl
  gl__law_cut_line := He.glo_ok X G (c.fact 52 (f := .fa (.glo (Str.ofString "_law_cut_line"))) rfl)
  fd__law_field := c.def_ 24 (d := dz_24) rfl
  gl__law_field := He.glo_ok X G (c.fact 53 (f := .fa (.glo (Str.ofString "_law_field"))) rfl)
  fd__law_try := c.def_ 25 (d := dz_25) rfl
  gl__law_try := He.glo_ok X G (c.fact 54 (f := .fa (.glo (Str.ofString "_law_try"))) rfl)
  fd__law_tries := c.def_ 26 (d := dz_26) rfl
  gl__law_tries := He.glo_ok X G (c.fact 55 (f := .fa (.glo (Str.ofString "_law_tries"))) rfl)
  fd_law := c.def_ 27 (d := dz_27) rfl
  gl_law := He.glo_ok X G (c.fact 56 (f := .fa (.glo (Str.ofString "law"))) rfl)
  xf_all := ⟨fun p hp => by
    have e := List.mem_singleton.mp hp
    subst e
    exact fun f hf => xf_okZ (c.fact 57 (f := .xf "InvalidText") rfl) hf⟩
  ex_all := fun p hp => by
    have e := List.mem_singleton.mp hp
    subst e
    exact of_decide_eq_true (c.fact 58 (f := .exm "InvalidText" ["LiquidError", "Missing", "NothingLeft"]) rfl)
def names0 : List PySem.Str := ["_wall", "LiquidError", "Missing", "InvalidVat", "InvalidFloat", "InvalidOutlet", "InvalidText", "NothingLeft", "LETTERS", "is_number", "is_name", "MOST_ROWS", "WORDS", "digits_in", "Plant", "is_vat"]
def names1 : List PySem.Str := ["is_vat_plants", "read_lines", "_law_start", "_law_pull", "_law_pick", "_law_words", "_law_plant", "_law_made_plant", "_law_kind", "_law_same", "_law_field", "_law_try", "_law_tries", "_law_odd", "_law_plant_lines", "_law_is_word"]
def names2 : List PySem.Str := ["_law_plant_fault", "_law_cut_line"]
def names : List PySem.Str := names0 ++ names1 ++ names2
abbrev RR : PySem.W.OpenRow := PySem.W.OpenLaw.row PySem.Challenge.rw_lightabove_k06_whole_texts_of_plants
abbrev qv : Program := PySem.W.view RR.prog [38]
abbrev hk : PySem.W.Hook := hookZ PySem.Challenge.pw_lightabove_k06_whole_texts_of_plants 8 fzs fns
def ob (s : PySem.W.SharedT) : AlZ := obsZ PySem.Challenge.pw_lightabove_k06_whole_texts_of_plants 8 fzs fns (HandSHeadRun.getT s)
theorem ob_eq (s : PySem.W.SharedT) : ob s = hk.obs s.abs := obsZ_eq (HandSHeadRun.getT_eq s)
theorem run (w : World) : HandSHeadRun.RunEq RR qv hk ob 6000 names w := by
  intro os
  kernel_rfl
theorem law_at {w : World} {K : PySem.W.Frag} {mg : Str → Option Value} {fa : Addr} {h : Heap} (X : K.In h) (G : h.Ns mainGlobals mg) (hfa : mg ("law" : Str) = some (.ref fa)) (c : SaysZ PySem.Challenge.pw_lightabove_k06_whole_texts_of_plants fzs fns h K) : LamX.LawAtS PySem.Challenge.rw_lightabove_k06_whole_texts_of_plants w K (L2N.CX PySem.Challenge.pw_lightabove_k06_whole_texts_of_plants w) 15 63 "_law_script" mg fa h := by
  have Z : ∀ base, Zf PySem.Challenge.pw_lightabove_k06_whole_texts_of_plants w K mg base := fun base => zf_of X G c
  have e := hfa.symm.trans (Z h).gl_law
  cases e
  obtain ⟨fd, F⟩ := (Z h).fd_law
  refine ⟨fd, [(cdAt K (gaS K "law"), He.tabOf K (cdAt K (gaS K "law")))], _, fun p hp => ?_, fun p hp => ?_, fun p hp => ?_, fun s u => ?_, fun H a ns hl hb hT hS => ?_, fun base hK hG hT => o_law (Z base) (hT _ (List.mem_singleton.mpr rfl)) F⟩
  · rw [List.mem_singleton.mp hp]; exact c.empty
  · rw [List.mem_singleton.mp hp]; exact c.out
  · rw [List.mem_singleton.mp hp]; exact PySem.W.codeHd_of_K X c.hd
  · exact (FunD.bindsA (ps := ["_law_script"]) F fun _ _ _ _ _ _ us hl => match us, hl with | [_], _ => rfl) s [u] rfl
  · have hT' := hT _ (List.mem_singleton.mpr rfl)
    have hR : Rd H a (.lst (ns.map V.int)) := by
      rcases hS with h | ⟨o, its, n, lk, hc, _⟩
      · exact h
      · exact absurd hc (c.nolst a o lk)
    refine ⟨⟨a, ns, rfl, hl, hb, fun z => ?_, hT', hR, fun _ => rfl⟩, rfl⟩
    subst z
    rcases hR with h | ⟨o, h⟩
    · rw [hT'] at h; cases h
    · rw [hT'] at h; cases h
end LK06
open PySem PySem.W PySem.Calls PyProof.Rows
theorem PySem.Challenge.cw_lightabove_k06_whole_texts_of_plants_holds : PySem.Challenge.rw_lightabove_k06_whole_texts_of_plants.Holds := by
  w_on; o_law
  refine HandSHeadRun.head_any (r := OpenLaw.row PySem.Challenge.rw_lightabove_k06_whole_texts_of_plants) (q := view (OpenLaw.row PySem.Challenge.rw_lightabove_k06_whole_texts_of_plants).prog [38]) (H := LK06.hk) (ob := LK06.ob) (M := 6000) (loose := LK06.names) (d := HandSHeadRun.topDef (OpenLaw.row PySem.Challenge.rw_lightabove_k06_whole_texts_of_plants).prog 38) (kwd := []) LK06.ob_eq
    (by kernel_rfl) (fun s => by kernel_rfl) LK06.run (by kernel_rfl) (by kernel_rfl) (by kernel_rfl) (by rfl) (by first | assumption | decide +kernel) (by decide +kernel) ⟨rfl, rfl, rfl, rfl, rfl, by decide +kernel⟩ ?hw ?hc
  case hw => w_witness2
  case hc =>
    refine LamX.walk_ofTsE (l := PySem.Challenge.rw_lightabove_k06_whole_texts_of_plants) (n := 63) (k := 15) (x := "_law_script") (CX := fun w => L2N.CX PySem.Challenge.pw_lightabove_k06_whole_texts_of_plants w) rfl (by decide) (by kernel_rfl) ⟨rfl, by decide, by decide⟩ ?F ?G
    case F =>
      intro w mg fa h Y G hmg0
      obtain ⟨K, KX, c⟩ := Y
      have hmg : mg ("law" : PySem.Str) = some (.ref fa) := by
        have e : (HandSHeadRun.topDef (OpenLaw.row PySem.Challenge.rw_lightabove_k06_whole_texts_of_plants).prog 38).name = ("law" : PySem.Str) := by kernel_rfl
        rw [← e]
        exact hmg0
      exact ⟨K, KX, LK06.law_at KX G hmg c⟩
    case G =>
      intro w H s e s' z
      obtain ⟨_, _, _, _, _, _, _, _, _, _, _, _, z⟩ := z
      exact z.elim

#print axioms PySem.Challenge.cw_lightabove_k06_whole_texts_of_plants_holds
