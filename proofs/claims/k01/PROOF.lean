import PyProof.Rows.All
import Wide.All
import OpenK.AllK
import Wide.FinOn
import KE.KStateDown
import HandS.ForMost
import HandS.ForExc
import HandS.IsInst
import HandS.Zip
import HandS.Conv
import HandS.Wide
import HandS.SortInts
import HandS.More
import HandS.Defaults
import HandS.Lambda
import HandS.TupAny
import HandS.TupLe
import HandS.Style
import HandS.Call
import HandS.TupMul
import KE.KDictZip
import HandS.ListItems
import HandS.SetFor
import PyProof.Rows.Range3
import HandS.RaiseMore
import HandS.TryMany
import HandS.ExcIs
import HandS.WordsExc
import HandS.HeadHook4
import HandS.ExcCtx
import HandS.HotCalls
import KE.KNest
import HandS.Hot
import HandS.Strs
import HandS.Head0
import HandS.Head1
import HandS.Head2
import HandS.HeadEnd
import HandS.HeadHook1
import HandS.HeadHook2
import HandS.HeadWalk
import HandS.EndTab
import PySem.Challenge.RW_stairlamps_k01_stairs_and_walkers_known
set_option Elab.async false
set_option linter.all false
set_option maxRecDepth 100000
set_option maxHeartbeats 4000000
/- ==== DLa ==== -/
/-! DLa: a layer over data. Values are told as plain data; the heap stands aside. -/
namespace DL
open PySem PySem.Spec PyProof.Rows L2
/-- the name that the law's lambda bears -/
def qlam : Str := "law.<locals>.<lambda>"

/-! ### values as data -/
/-- a lambda that captures nothing, as it stands in the text -/
structure LamD where
  q : Str
  params : Arguments
  body : Expr
  scope : Scope
/-- its function object at f, its code object at c' -/
def FunO (f c' : Addr) (pm ctv : Value) (L : LamD) : HO := .ext fun h => h.get? f = some (PySem.W.kla_obj "<lambda>" L.q L.params L.body L.scope [] pm c' ctv)
inductive D where
  /-- a lambda -/
  | fn (L : LamD)
  /-- plain data -/
  | py (d : PyData)
  /-- a value by itself -/
  | raw (v : V)
  /-- a list, a dict that only this frame holds -/
  | ol (ds : List PyData)
  | od (kvs : List (Key × PyData))
  /-- a dict that stands still -/
  | dic (kvs : List (Key × PyData))
  /-- an instance that stands still, its attributes -/
  | ins (p C : Addr) (fs : List (Str × PyData))
abbrev D.int (i : Int) : D := .py (.int i)
abbrev D.bl (b : Bool) : D := .py (.bool b)
abbrev D.str (s : Str) : D := .py (.str s)
abbrev D.non : D := .py .none
abbrev D.lst (ds : List PyData) : D := .py (.list ds)
abbrev D.tup (ds : List PyData) : D := .py (.tuple ds)
def D.own : D → Prop
  | .ol _ => True
  | .od _ => True
  | _ => False

/-- not an own object -/
def fre : D → Prop → Prop
  | .ol _, _ => False
  | .od _, _ => False
  | _, p => p

abbrev Kf := PySem.W.Frag
mutual
/-- the value v stands for the data d: lists are tracked themselves -/
inductive Dt (K : Kf) (G : Hp) : V → PyData → Prop
  | non : Dt K G .non .none
  | bl (b : Bool) : Dt K G (.bl b) (.bool b)
  | int (i : Int) : Dt K G (.int i) (.int i)
  | str (x : Str) : Dt K G (.str x) (.str x)
  | lst {a : Addr} {xs : List V} {ds : List PyData} : G a = some (.lst xs) → DtAll K G xs ds → Dt K G (.ref a) (.list ds)
  | tup {a : Addr} {xs : List V} {ds : List PyData} : SqT K G a xs → DtAll K G xs ds → Dt K G (.ref a) (.tuple ds)
inductive DtAll (K : Kf) (G : Hp) : List V → List PyData → Prop
  | nil : DtAll K G [] []
  | cons {v : V} {vs : List V} {d : PyData} {ds : List PyData} : Dt K G v d → DtAll K G vs ds → DtAll K G (v :: vs) (d :: ds)
end
mutual
theorem Dt.dp {K : Kf} {G : Hp} : ∀ {v : V} {d : PyData}, Dt K G v d → Dp K G v d
  | _, _, .non => .non
  | _, _, .bl b => .bl b
  | _, _, .int i => .int i
  | _, _, .str x => .str x
  | _, _, .lst h ha => .lst (SqL.of h) (DtAll.dp ha)
  | _, _, .tup h ha => .tup h (DtAll.dp ha)
theorem DtAll.dp {K : Kf} {G : Hp} : ∀ {vs : List V} {ds : List PyData}, DtAll K G vs ds → DpAll K G vs ds
  | _, _, .nil => .nil
  | _, _, .cons h t => .cons (Dt.dp h) (DtAll.dp t)
end
theorem SqT.up {K : Kf} {G G' : Hp} {a : Addr} {xs : List V} (e : Same G G') (h : SqT K G a xs) : SqT K G' a xs := by
  rcases h with (h | ⟨o, h⟩) | h
  · exact .inl (.inl (e _ _ h))
  · exact .inl (.inr ⟨o, e _ _ h⟩)
  · exact .inr h
mutual
theorem Dt.up {K : Kf} {G G' : Hp} (e : Same G G') : ∀ {v : V} {d : PyData}, Dt K G v d → Dt K G' v d
  | _, _, .non => .non
  | _, _, .bl b => .bl b
  | _, _, .int i => .int i
  | _, _, .str x => .str x
  | _, _, .lst h ha => .lst (e _ _ h) (DtAll.up e ha)
  | _, _, .tup h ha => .tup (SqT.up e h) (DtAll.up e ha)
theorem DtAll.up {K : Kf} {G G' : Hp} (e : Same G G') : ∀ {vs : List V} {ds : List PyData}, DtAll K G vs ds → DtAll K G' vs ds
  | _, _, .nil => .nil
  | _, _, .cons h t => .cons (Dt.up e h) (DtAll.up e t)
end
theorem DtAll.length {K : Kf} {G : Hp} : ∀ {vs : List V} {ds : List PyData}, DtAll K G vs ds → vs.length = ds.length
  | _, _, .nil => rfl
  | _, _, .cons _ t => by rw [List.length_cons, List.length_cons, DtAll.length t]
theorem DtAll.get {K : Kf} {G : Hp} : ∀ {vs : List V} {ds : List PyData} {i : Nat} {v : V}, DtAll K G vs ds → vs[i]? = some v → ∃ d, ds[i]? = some d ∧ Dt K G v d
  | _, _, _, _, .nil, e => by simp at e
  | _, _, 0, _, .cons h _, e => by
    simp at e; subst e; exact ⟨_, rfl, h⟩
  | _, _, i + 1, v, .cons _ t, e => by
    obtain ⟨d, h1, h2⟩ := DtAll.get (i := i) (v := v) t (by simpa using e)
    exact ⟨d, by simpa using h1, h2⟩
theorem DtAll.getD {K : Kf} {G : Hp} : ∀ {vs : List V} {ds : List PyData} {i : Nat} {d : PyData}, DtAll K G vs ds → ds[i]? = some d → ∃ v, vs[i]? = some v ∧ Dt K G v d
  | _, _, _, _, .nil, e => by simp at e
  | _, _, 0, _, .cons h _, e => by
    simp at e; subst e; exact ⟨_, rfl, h⟩
  | _, _, i + 1, v, .cons _ t, e => by
    obtain ⟨d, h1, h2⟩ := DtAll.getD (i := i) (d := v) t (by simpa using e)
    exact ⟨d, by simpa using h1, h2⟩
theorem DtAll.append {K : Kf} {G : Hp} : ∀ {vs ws : List V} {ds es : List PyData}, DtAll K G vs ds → DtAll K G ws es → DtAll K G (vs ++ ws) (ds ++ es)
  | _, _, _, _, .nil, s => s
  | _, _, _, _, .cons r t, s => .cons r (DtAll.append t s)
theorem DtAll.one {K : Kf} {G : Hp} {v : V} {d : PyData} (h : Dt K G v d) : DtAll K G [v] [d] := .cons h .nil
theorem DtAll.take {K : Kf} {G : Hp} : ∀ {vs : List V} {ds : List PyData} (n : Nat), DtAll K G vs ds → DtAll K G (vs.take n) (ds.take n)
  | _, _, 0, _ => .nil
  | _, _, _ + 1, .nil => .nil
  | _, _, n + 1, .cons r t => .cons r (DtAll.take n t)
theorem DtAll.drop {K : Kf} {G : Hp} : ∀ {vs : List V} {ds : List PyData} (n : Nat), DtAll K G vs ds → DtAll K G (vs.drop n) (ds.drop n)
  | _, _, 0, r => r
  | _, _, _ + 1, .nil => .nil
  | _, _, n + 1, .cons _ t => DtAll.drop n t
theorem DtAll.set {K : Kf} {G : Hp} {x : V} {e : PyData} (r : Dt K G x e) : ∀ {vs : List V} {ds : List PyData} (i : Nat), DtAll K G vs ds → DtAll K G (vs.set i x) (ds.set i e)
  | _, _, _, .nil => .nil
  | _, _, 0, .cons _ t => .cons r t
  | _, _, i + 1, .cons q t => .cons q (DtAll.set r i t)
theorem DtAll.ints {K : Kf} {G : Hp} : ∀ {vs : List V} {ns : List Int}, DtAll K G vs (ns.map PyData.int) → vs = ns.map V.int
  | _, [], h => by cases h; rfl
  | _, n :: ns, h => by
    cases h with
    | cons h1 h2 => cases h1; rw [DtAll.ints h2]; rfl
theorem DtAll.ofInts {K : Kf} {G : Hp} : ∀ (ns : List Int), DtAll K G (ns.map V.int) (ns.map PyData.int)
  | [] => .nil
  | n :: ns => .cons (.int n) (DtAll.ofInts ns)
theorem DtAll.bls {K : Kf} {G : Hp} : ∀ {vs : List V} {ns : List Bool}, DtAll K G vs (ns.map PyData.bool) → vs = ns.map V.bl
  | _, [], h => by cases h; rfl
  | _, n :: ns, h => by
    cases h with
    | cons h1 h2 => cases h1; rw [DtAll.bls h2]; rfl
theorem DtAll.strs {K : Kf} {G : Hp} : ∀ {vs : List V} {ns : List Str}, DtAll K G vs (ns.map PyData.str) → vs = ns.map V.str
  | _, [], h => by cases h; rfl
  | _, n :: ns, h => by
    cases h with
    | cons h1 h2 => cases h1; rw [DtAll.strs h2]; rfl
theorem DtAll.ofStrs {K : Kf} {G : Hp} : ∀ (ns : List Str), DtAll K G (ns.map V.str) (ns.map PyData.str)
  | [] => .nil
  | n :: ns => .cons (.str n) (DtAll.ofStrs ns)

/-- pairs by key -/
def KvR {κ : Type} (K : Kf) (G : Hp) (vs : List (κ × V)) (kvs : List (κ × PyData)) : Prop := Paired (fun p q => p.1 = q.1 ∧ Dt K G p.2 q.2) vs kvs
theorem KvR.up {κ : Type} {K : Kf} {G G' : Hp} (e : Same G G') {vs : List (κ × V)} {kvs : List (κ × PyData)} (h : KvR K G vs kvs) : KvR K G' vs kvs :=
  Paired.mapP h fun _ _ z => ⟨z.1, Dt.up e z.2⟩

/-- this frame's own: not in the stable part, no bag -/
def Own (B : List Addr) (G : Hp) (p : Addr) : Prop := G p = none ∧ p ∉ B
def Rp (K : Kf) (B : List Addr) (G H : Hp) : D → V → Prop
  | .py d, v => Dt K G v d
  | .raw u, v => v = u
  | .ol ds, v => ∃ p vs, v = .ref p ∧ Own B G p ∧ H p = some (.lst vs) ∧ DtAll K G vs ds
  | .od kvs, v => ∃ p vs, v = .ref p ∧ Own B G p ∧ H p = some (.dK vs) ∧ KvR K G vs kvs
  | .dic kvs, v => ∃ p vs, v = .ref p ∧ G p = some (.dK vs) ∧ KvR K G vs kvs
  | .ins p C fs, v => ∃ dx vs, v = .ref p ∧ G p = some (.ins C dx vs) ∧ KvR K G vs fs
  | .fn L, v => ∃ f c' pm ctv, v = .ref f ∧ G f = some (FunO f c' pm ctv L) ∧ G c' = some (LamX.CodeO c' L.q)

/-! ### the bags of draws -/
def DrawAt (K : Kf) (G H : Hp) (b : Addr) : Prop := ∃ (dl : Addr) (c : Int) (ns : List Int), H b = some (.lst [.ref dl, .int c]) ∧ 0 ≤ c ∧ G dl = some (.lst (ns.map V.int)) ∧ ns.length = 400 ∧ ∀ n ∈ ns, 0 ≤ n ∧ n < 1000
/-- a table of code objects, each of the name qlam -/
def TabAt (G H : Hp) (b : Addr) : Prop := ∃ ps : Array Value, H b = some (.tbl ps) ∧ TriplesOk ps.toList ∧ ∀ (pos : Pos) (cv : Value), codeAmong pos ps.toList = some cv → ∃ c, cv = .ref c ∧ G c = some (LamX.CodeO c qlam)
/-- the first of B is the table, the others are bags of draws -/
def BagAt (K : Kf) (B : List Addr) (G H : Hp) (b : Addr) : Prop := (B.head? ≠ some b ∧ DrawAt K G H b) ∨ (B.head? = some b ∧ TabAt G H b)
def bagIn (B : List Addr) (b : Addr) : Prop := b ∈ B ∧ B.head? ≠ some b

/-- the heap H, its stable part G, the bags B -/
structure Wd (K : Kf) (B : List Addr) (G H : Hp) : Prop where
  sub : Same G H
  bags : ∀ b ∈ B, G b = none ∧ BagAt K B G H b
/-- what stood stands -/
structure Old (B : List Addr) (G H G' H' : Hp) : Prop where
  up : Same G G'
  keep : ∀ a o, H a = some o → G a = none → a ∉ B → H' a = some o ∧ G' a = none
theorem Old.self {B : List Addr} {G0 H0 G H : Hp} (o : Old B G0 H0 G H) : Old B G H0 G H := ⟨fun _ _ h => h, fun a u h h' hb => by
  cases q : G0 a with
  | none => exact o.keep a u h q hb
  | some v => have := o.up _ _ q; rw [h'] at this; cases this⟩
theorem Old.andThen {B : List Addr} {G0 H0 G H G2 H2 : Hp} (o : Old B G0 H0 G H) (k : Old B G H0 G2 H2) : Old B G0 H0 G2 H2 := ⟨o.up.trans k.up, fun a u h h' hb => k.keep a u h (o.keep a u h h' hb).2 hb⟩
structure Stp (K : Kf) (B : List Addr) (G H G' H' : Hp) : Prop extends Old B G H G' H' where
  wd : Wd K B G' H'
theorem Old.refl {B : List Addr} {G H : Hp} : Old B G H G H := ⟨fun _ _ h => h, fun _ _ h h' _ => ⟨h, h'⟩⟩
theorem Old.trans {B : List Addr} {G H G1 H1 G2 H2 : Hp} (a : Old B G H G1 H1) (b : Old B G1 H1 G2 H2) : Old B G H G2 H2 :=
  ⟨a.up.trans b.up, fun c o h h' hb => let q := a.keep c o h h' hb; b.keep c o q.1 q.2 hb⟩
theorem Stp.refl {K : Kf} {B : List Addr} {G H : Hp} (w : Wd K B G H) : Stp K B G H G H := ⟨Old.refl, w⟩
theorem Stp.trans {K : Kf} {B : List Addr} {G H G1 H1 G2 H2 : Hp} (a : Stp K B G H G1 H1) (b : Stp K B G1 H1 G2 H2) : Stp K B G H G2 H2 := ⟨a.toOld.trans b.toOld, b.wd⟩
theorem BagAt.up {K : Kf} {B : List Addr} {G G' H H' : Hp} {b : Addr} (e : Same G G') (h : BagAt K B G H b) (q : H' b = H b) : BagAt K B G' H' b := by
  rcases h with ⟨n, dl, c, ns, h1, h2, h3, h4, h5⟩ | ⟨n, ps, h1, h2, h3⟩
  · exact .inl ⟨n, dl, c, ns, q.trans h1, h2, e _ _ h3, h4, h5⟩
  · exact .inr ⟨n, ps, q.trans h1, h2, fun pos cv hc => let ⟨c, e1, e2⟩ := h3 pos cv hc; ⟨c, e1, e _ _ e2⟩⟩
theorem BagAt.some {K : Kf} {B : List Addr} {G H : Hp} {b : Addr} (h : BagAt K B G H b) : ∃ o, H b = some o := by
  rcases h with ⟨_, dl, c, ns, h1, _⟩ | ⟨_, ps, h1, _⟩
  · exact ⟨_, h1⟩
  · exact ⟨_, h1⟩
theorem Wd.draw {K : Kf} {B : List Addr} {G H : Hp} (w : Wd K B G H) {b : Addr} (h : bagIn B b) : G b = none ∧ DrawAt K G H b := by
  obtain ⟨h1, h2⟩ := w.bags b h.1
  rcases h2 with z | z
  · exact ⟨h1, z.2⟩
  · exact absurd z.1 h.2
theorem Wd.tab {K : Kf} {P : Addr} {bs : List Addr} {G H : Hp} (w : Wd K (P :: bs) G H) : G P = none ∧ TabAt G H P := by
  obtain ⟨h1, h2⟩ := w.bags P (List.mem_cons_self ..)
  rcases h2 with z | z
  · exact absurd rfl z.1
  · exact ⟨h1, z.2⟩
theorem Same.updN {G : Hp} {p : Addr} {o : HO} (h : G p = none) : Same G (upd G p o) := fun b u e => by
  rw [upd_ne (ne_of_none e h)]; exact e
theorem Same.updB {G H : Hp} {p : Addr} {o : HO} (h : Same G H) : Same (upd G p o) (upd H p o) := fun b u e => by
  by_cases q : b = p
  · subst q; rw [upd_same] at e ⊢; exact e
  · rw [upd_ne q] at e ⊢; exact h b u e
/-- a new object, stable -/
theorem Stp.new {K : Kf} {B : List Addr} {G H : Hp} (w : Wd K B G H) {p : Addr} (hp : H p = none) (o : HO) : Stp K B G H (upd G p o) (upd H p o) := by
  have hg : G p = none := w.sub.free hp
  refine ⟨⟨Same.updN hg, fun a u h h' _ => ?_⟩, ⟨Same.updB w.sub, fun b hb => ?_⟩⟩
  · have n := ne_of_none h hp
    rw [upd_ne n, upd_ne n]; exact ⟨h, h'⟩
  · obtain ⟨h1, h2⟩ := w.bags b hb
    obtain ⟨u, hu⟩ := h2.some
    have n := ne_of_none hu hp
    exact ⟨by rw [upd_ne n]; exact h1, h2.up (Same.updN hg) (upd_ne n)⟩
/-- the heap grew; all that is new is stable -/
theorem Stp.grow {K : Kf} {B : List Addr} {G H H' : Hp} (w : Wd K B G H) (e : Same H H') : ∃ G', Stp K B G H G' H' ∧ (∀ a, H a = none → G' a = H' a) ∧ ∀ a o, H a = some o → G' a = G a := by
  refine ⟨fun a => match H a with | some _ => G a | none => H' a, ⟨⟨fun a o h => ?_, fun a o h h' _ => ?_⟩, ⟨fun a o h => ?_, fun b hb => ?_⟩⟩, fun a h => ?_, fun a o h => ?_⟩
  · have := w.sub a o h
    show (match H a with | some _ => G a | none => H' a) = some o
    rw [this]; exact h
  · refine ⟨e a o h, ?_⟩
    show (match H a with | some _ => G a | none => H' a) = none
    rw [h]; exact h'
  · have h : (match H a with | some _ => G a | none => H' a) = some o := h
    cases q : H a with
    | none => rw [q] at h; exact h
    | some u => rw [q] at h; have := w.sub a o h; exact e a o this
  · obtain ⟨h1, h2⟩ := w.bags b hb
    obtain ⟨u, hu⟩ := h2.some
    refine ⟨?_, h2.up (fun a o h => ?_) (by rw [hu]; exact e b u hu)⟩
    · show (match H b with | some _ => G b | none => H' b) = none
      rw [hu]; exact h1
    · show (match H a with | some _ => G a | none => H' a) = some o
      rw [w.sub a o h]; exact h
  · show (match H a with | some _ => G a | none => H' a) = H' a
    rw [h]
  · show (match H a with | some _ => G a | none => H' a) = G a
    rw [h]
theorem Rp.up {K : Kf} {B : List Addr} {G H G' H' : Hp} (e : Old B G H G' H') : ∀ {d : D} {v : V}, Rp K B G H d v → Rp K B G' H' d v
  | .py _, _, h => Dt.up e.up h
  | .raw _, _, h => h
  | .ol _, _, ⟨p, vs, h1, h2, h3, h4⟩ => ⟨p, vs, h1, ⟨(e.keep p _ h3 h2.1 h2.2).2, h2.2⟩, (e.keep p _ h3 h2.1 h2.2).1, DtAll.up e.up h4⟩
  | .od _, _, ⟨p, vs, h1, h2, h3, h4⟩ => ⟨p, vs, h1, ⟨(e.keep p _ h3 h2.1 h2.2).2, h2.2⟩, (e.keep p _ h3 h2.1 h2.2).1, KvR.up e.up h4⟩
  | .dic _, _, ⟨p, vs, h1, h2, h3⟩ => ⟨p, vs, h1, e.up _ _ h2, KvR.up e.up h3⟩
  | .ins _ _ _, _, ⟨dx, vs, h1, h2, h3⟩ => ⟨dx, vs, h1, e.up _ _ h2, KvR.up e.up h3⟩
  | .fn _, _, ⟨f, c, pm, ct, h1, h2, h3⟩ => ⟨f, c, pm, ct, h1, e.up _ _ h2, e.up _ _ h3⟩
/-- in the whole heap plain data is data -/
theorem Rp.dt {K : Kf} {B : List Addr} {G H : Hp} (w : Wd K B G H) {d : PyData} {v : V} (h : Rp K B G H (.py d) v) : Dt K H v d := Dt.up w.sub h

/-! ### slots -/
abbrev Slots := List (Option D)
structure Sl (K : Kf) (B : List Addr) (H0 : Hp) (S : Slots) (σ : L2.St) (G H : Hp) : Prop where
  wd : Wd K B G H
  len : σ.length = S.length
  slot : ∀ (i : Nat) (d : D), S[i]? = some (some d) → ∃ v, σ[i]? = some (some v) ∧ Rp K B G H d v ∧ (d.own → ∀ p, v = .ref p → H0 p = none)
  sep : ∀ (i j : Nat) (di dj : D) (p : Addr), i ≠ j → S[i]? = some (some di) → S[j]? = some (some dj) → di.own → dj.own → σ[i]? = some (some (.ref p)) → σ[j]? = some (some (.ref p)) → False
theorem Sl.step {K : Kf} {B : List Addr} {H0 : Hp} {S : Slots} {σ : L2.St} {G H G' H' : Hp} (s : Sl K B H0 S σ G H) (e : Stp K B G H G' H') : Sl K B H0 S σ G' H' :=
  ⟨e.wd, s.len, fun i d h => let ⟨v, h1, h2, h3⟩ := s.slot i d h; ⟨v, h1, Rp.up e.toOld h2, h3⟩, s.sep⟩
theorem set_get {α : Type} {l : List α} {i j : Nat} {x y : α} (h : (l.set i x)[j]? = some y) : (i = j ∧ y = x ∧ i < l.length) ∨ (i ≠ j ∧ l[j]? = some y) := by
  by_cases e : i = j
  · subst e
    by_cases hl : i < l.length
    · rw [List.getElem?_set_self hl] at h
      exact .inl ⟨rfl, (Option.some.inj h).symm, hl⟩
    · rw [List.getElem?_eq_none (by simpa using hl)] at h; cases h
  · rw [List.getElem?_set_ne e] at h
    exact .inr ⟨e, h⟩
theorem Sl.set {K : Kf} {B : List Addr} {H0 : Hp} {S : Slots} {σ : L2.St} {G H : Hp} (s : Sl K B H0 S σ G H) (i : Nat) {d : D} {v : V} (h : Rp K B G H d v) (hn : ¬ d.own) : Sl K B H0 (S.set i (some d)) (σ.set i (some v)) G H := by
  refine ⟨s.wd, by rw [List.length_set, List.length_set]; exact s.len, fun j e h1 => ?_, fun j k dj dk p hjk h1 h2 o1 o2 q1 q2 => ?_⟩
  · rcases set_get h1 with ⟨rfl, e1, hl⟩ | ⟨ne, h2⟩
    · cases e1
      exact ⟨v, by rw [List.getElem?_set_self (by rw [s.len]; exact hl)], h, fun o => (hn o).elim⟩
    · obtain ⟨u, k1, k2, k3⟩ := s.slot j e h2
      exact ⟨u, by rw [List.getElem?_set_ne ne]; exact k1, k2, k3⟩
  · rcases set_get h1 with ⟨rfl, e1, hl⟩ | ⟨ne1, h1⟩
    · cases e1; exact hn o1
    · rcases set_get h2 with ⟨rfl, e2, hl⟩ | ⟨ne2, h2⟩
      · cases e2; exact hn o2
      · rw [List.getElem?_set_ne ne1] at q1
        rw [List.getElem?_set_ne ne2] at q2
        exact s.sep j k dj dk p hjk h1 h2 o1 o2 q1 q2
theorem Sl.clear {K : Kf} {B : List Addr} {H0 : Hp} {S : Slots} {σ : L2.St} {G H : Hp} (s : Sl K B H0 S σ G H) (i : Nat) (u : Option V) : Sl K B H0 (S.set i none) (σ.set i u) G H := by
  refine ⟨s.wd, by rw [List.length_set, List.length_set]; exact s.len, fun j e h1 => ?_, fun j k dj dk p hjk h1 h2 o1 o2 q1 q2 => ?_⟩
  · rcases set_get h1 with ⟨rfl, e1, hl⟩ | ⟨ne, h2⟩
    · cases e1
    · obtain ⟨u, k1, k2, k3⟩ := s.slot j e h2
      exact ⟨u, by rw [List.getElem?_set_ne ne]; exact k1, k2, k3⟩
  · rcases set_get h1 with ⟨rfl, e1, hl⟩ | ⟨ne1, h1⟩
    · cases e1
    · rcases set_get h2 with ⟨rfl, e2, hl⟩ | ⟨ne2, h2⟩
      · cases e2
      · rw [List.getElem?_set_ne ne1] at q1
        rw [List.getElem?_set_ne ne2] at q2
        exact s.sep j k dj dk p hjk h1 h2 o1 o2 q1 q2
/-- fewer slots known -/
theorem Sl.weak {K : Kf} {B : List Addr} {H0 : Hp} {S S' : Slots} {σ : L2.St} {G H : Hp} (s : Sl K B H0 S σ G H) (hl : S'.length = S.length) (h : ∀ (i : Nat) (d : D), S'[i]? = some (some d) → S[i]? = some (some d)) : Sl K B H0 S' σ G H :=
  ⟨s.wd, s.len.trans hl.symm, fun i d e => s.slot i d (h i d e), fun i j di dj p ne h1 h2 => s.sep i j di dj p ne (h i di h1) (h j dj h2)⟩
/-- a new own object at p -/
theorem Sl.setOwn {K : Kf} {B : List Addr} {H0 : Hp} {S : Slots} {σ : L2.St} {G H : Hp} (s : Sl K B H0 S σ G H) (i : Nat) {d : D} {p : Addr} (h : Rp K B G H d (.ref p)) (h0 : H0 p = Option.none)
    (hd : ∀ (j : Nat) (dj : D), S[j]? = some (some dj) → dj.own → i ≠ j → σ[j]? ≠ some (some (.ref p))) : Sl K B H0 (S.set i (some d)) (σ.set i (some (.ref p))) G H := by
  refine ⟨s.wd, by rw [List.length_set, List.length_set]; exact s.len, fun j e h1 => ?_, fun j k dj dk q hjk h1 h2 o1 o2 q1 q2 => ?_⟩
  · rcases set_get h1 with ⟨rfl, e1, hl⟩ | ⟨ne, h2⟩
    · cases e1
      exact ⟨.ref p, by rw [List.getElem?_set_self (by rw [s.len]; exact hl)], h, fun _ q e => by cases e; exact h0⟩
    · obtain ⟨u, k1, k2, k3⟩ := s.slot j e h2
      exact ⟨u, by rw [List.getElem?_set_ne ne]; exact k1, k2, k3⟩
  · rcases set_get h1 with ⟨rfl, e1, hl⟩ | ⟨ne1, h1⟩
    · rw [List.getElem?_set_self (by rw [s.len]; exact hl)] at q1
      cases q1
      rcases set_get h2 with ⟨rfl, e2, hl⟩ | ⟨ne2, h2⟩
      · exact hjk rfl
      · rw [List.getElem?_set_ne ne2] at q2
        exact hd k dk h2 o2 ne2 q2
    · rcases set_get h2 with ⟨rfl, e2, hl⟩ | ⟨ne2, h2⟩
      · rw [List.getElem?_set_self (by rw [s.len]; exact hl)] at q2
        cases q2
        rw [List.getElem?_set_ne ne1] at q1
        exact hd j dj h1 o1 ne1 q1
      · rw [List.getElem?_set_ne ne1] at q1
        rw [List.getElem?_set_ne ne2] at q2
        exact s.sep j k dj dk q hjk h1 h2 o1 o2 q1 q2

/-! ### readings over data, and what they stand for -/
abbrev DE := Slots → (D → Prop) → Prop
abbrev DT := Slots → (Bool → Prop) → Prop
abbrev DA := Slots → (List D → Prop) → Prop
structure DEnds where
  nx : Slots → Prop
  rt : D → Prop
  bk : Slots → Prop := fun _ => False
  ct : Slots → Prop := fun _ => False
abbrev DS := DEnds → Slots → Prop

inductive RpAll (K : Kf) (B : List Addr) (G H : Hp) : List D → List V → Prop
  | nil : RpAll K B G H [] []
  | cons {d : D} {v : V} {ds : List D} {vs : List V} : Rp K B G H d v → RpAll K B G H ds vs → RpAll K B G H (d :: ds) (v :: vs)
theorem RpAll.up {K : Kf} {B : List Addr} {G H G' H' : Hp} (e : Old B G H G' H') : ∀ {ds : List D} {vs : List V}, RpAll K B G H ds vs → RpAll K B G' H' ds vs
  | _, _, .nil => .nil
  | _, _, .cons h t => .cons (Rp.up e h) (RpAll.up e t)
theorem RpAll.length {K : Kf} {B : List Addr} {G H : Hp} : ∀ {ds : List D} {vs : List V}, RpAll K B G H ds vs → ds.length = vs.length
  | _, _, .nil => rfl
  | _, _, .cons _ t => by rw [List.length_cons, List.length_cons, RpAll.length t]

def lE (K : Kf) (B : List Addr) (H0 : Hp) (de : DE) : TE := fun σ H Q => ∃ (G : Hp) (S : Slots) (post : D → Prop), Sl K B H0 S σ G H ∧ de S post ∧ ∀ v d G' H', Stp K B G H G' H' → Rp K B G' H' d v → post d → Q v H'
def lT (K : Kf) (B : List Addr) (H0 : Hp) (dt : DT) : TT := fun σ H Q => ∃ (G : Hp) (S : Slots) (post : Bool → Prop), Sl K B H0 S σ G H ∧ dt S post ∧ ∀ b G' H', Stp K B G H G' H' → post b → Q b H'
def lA (K : Kf) (B : List Addr) (H0 : Hp) (da : DA) : TA := fun σ H Q => ∃ (G : Hp) (S : Slots) (post : List D → Prop), Sl K B H0 S σ G H ∧ da S post ∧ ∀ vs ds G' H', Stp K B G H G' H' → RpAll K B G' H' ds vs → post ds → Q vs H'
/-- a block's end: the slots known -/
def nxOf (K : Kf) (B : List Addr) (G0 H0 : Hp) (P : Slots → Prop) (σ : L2.St) (H : Hp) : Prop := ∃ (G : Hp) (S : Slots), Sl K B H0 S σ G H ∧ Old B G0 H0 G H ∧ P S
def rtOf (K : Kf) (B : List Addr) (G0 H0 : Hp) (P : D → Prop) (v : V) (H : Hp) : Prop := ∃ (G : Hp) (d : D), Wd K B G H ∧ Old B G0 H0 G H ∧ Rp K B G H d v ∧ (d.own → ∀ p, v = .ref p → H0 p = none) ∧ P d
def lS (K : Kf) (B : List Addr) (H0 : Hp) (ds : DS) : TS := fun D σ H => ∃ (G0 : Hp) (E : DEnds), nxOf K B G0 H0 (ds E) σ H ∧
  (∀ σ' H', nxOf K B G0 H0 E.nx σ' H' → D.nx σ' H') ∧ (∀ v H', rtOf K B G0 H0 E.rt v H' → D.rt v H') ∧ (∀ σ' H', nxOf K B G0 H0 E.bk σ' H' → D.bk σ' H') ∧ (∀ σ' H', nxOf K B G0 H0 E.ct σ' H' → D.ct σ' H')

theorem PEmono {X : Cx} {e : Expr} {t t' : TE} (h : PE X e t) (m : ∀ σ H Q, t' σ H Q → t σ H Q) : PE X e t' := ⟨fun pins s σ H Q I q => h.run pins s σ H Q I (m σ H Q q)⟩
theorem PTmono {X : Cx} {e : Expr} {t t' : TT} (h : PT X e t) (m : ∀ σ H Q, t' σ H Q → t σ H Q) : PT X e t' := ⟨fun pins s σ H Q I q => h.run pins s σ H Q I (m σ H Q q)⟩
theorem PWmono {X : Cx} {e : Expr} {t t' : TT} (h : PW X e t) (m : ∀ σ H Q, t' σ H Q → t σ H Q) : PW X e t' := ⟨fun w pins s σ H Q I q => h.run w pins s σ H Q I (m σ H Q q)⟩
theorem PAmono {X : Cx} {e : List Expr} {t t' : TA} (h : PA X e t) (m : ∀ σ H Q, t' σ H Q → t σ H Q) : PA X e t' := ⟨fun pos pins s σ H Q I q => h.run pos pins s σ H Q I (m σ H Q q)⟩
theorem PSmono {X : Cx} {e : Stmt} {t t' : TS} (h : PS X e t) (m : ∀ D σ H, t' D σ H → t D σ H) : PS X e t' := ⟨fun pins s σ H D I q => h.run pins s σ H D I (m D σ H q)⟩
theorem PSsmono {X : Cx} {e : List Stmt} {t t' : TS} (h : PSs X e t) (m : ∀ D σ H, t' D σ H → t D σ H) : PSs X e t' := ⟨fun pins s σ H D I q => h.run pins s σ H D I (m D σ H q)⟩
theorem PImono {X : Cx} {tg e : Expr} {t t' : TI} (h : PI X tg e t) (m : ∀ σ H R, t' σ H R → t σ H R) : PI X tg e t' := ⟨fun pins s σ H R I q => h.run pins s σ H R I (m σ H R q)⟩
end DL
/- ==== DLb ==== -/
/-! DLb: expressions over data. -/
namespace DL
open PySem PySem.Spec PyProof.Rows L2

abbrev PD (X : Cx) (B : List Addr) (H0 : Hp) (e : Expr) (de : DE) : Prop := PE X e (lE X.K B H0 de)
abbrev PDT (X : Cx) (B : List Addr) (H0 : Hp) (e : Expr) (dt : DT) : Prop := PT X e (lT X.K B H0 dt)
abbrev PDW (X : Cx) (B : List Addr) (H0 : Hp) (e : Expr) (dt : DT) : Prop := PW X e (lT X.K B H0 dt)
abbrev PDA (X : Cx) (B : List Addr) (H0 : Hp) (es : List Expr) (da : DA) : Prop := PA X es (lA X.K B H0 da)

/-- an operation on values does what one on data does -/
def OpD (K : Kf) (B : List Addr) (r : R2) (f : D → D → (D → Prop) → Prop) : Prop := ∀ (G H : Hp) (x y : V) (dx dy : D) (post : D → Prop) (Q : VK), Wd K B G H → Rp K B G H dx x → Rp K B G H dy y → f dx dy post →
  (∀ v d G' H', Stp K B G H G' H' → Rp K B G' H' d v → post d → Q v H') → r x y H Q
def CallD (K : Kf) (B : List Addr) (r : List V → Hp → VK → Prop) (f : List D → (D → Prop) → Prop) : Prop := ∀ (G H : Hp) (xs : List V) (dxs : List D) (post : D → Prop) (Q : VK), Wd K B G H → RpAll K B G H dxs xs → f dxs post →
  (∀ v d G' H', Stp K B G H G' H' → Rp K B G' H' d v → post d → Q v H') → r xs H Q

def dVar (i : Nat) : DE := fun S post => match S[i]? with
  | some (some d) => post d
  | _ => False
def dC (d : D) : DE := fun _ post => post d
def dOp (f : D → D → (D → Prop) → Prop) (a b : DE) : DE := fun S post => a S fun x => b S fun y => f x y post
def dUn (f : D → (D → Prop) → Prop) (a : DE) : DE := fun S post => a S fun x => f x post
def dB (a : DE) : DT := fun S post => a S fun x => match x with
  | .py (.bool b) => post b
  | _ => False
def dAnd (t u : DT) : DT := fun S post => t S fun c => if c = true then u S post else post false
def dOr (t u : DT) : DT := fun S post => t S fun c => if c = true then post true else u S post
def dNot (t : DT) : DT := fun S post => t S fun c => post (!c)
def dAndV (a b : DE) : DE := fun S post => a S fun x => match x with
  | .py (.bool c) => if c = true then b S post else post (.py (.bool false))
  | _ => False
def dOrV (a b : DE) : DE := fun S post => a S fun x => match x with
  | .py (.bool c) => if c = true then post (.py (.bool true)) else b S post
  | _ => False
def dNotV (a : DE) : DE := fun S post => a S fun x => match x with
  | .py (.bool c) => post (.py (.bool (!c)))
  | _ => False
def dIf (t : DT) (a b : DE) : DE := fun S post => t S fun c => if c = true then a S post else b S post
def dNil : DA := fun _ post => post []
def dCons (a : DE) (r : DA) : DA := fun S post => a S fun x => r S fun xs => post (x :: xs)
def dChain (f g : D → D → (D → Prop) → Prop) (a b c : DE) : DE := fun S post => a S fun x => b S fun y => f x y fun z => match z with
  | .py (.bool k) => if k = true then c S fun w => g y w post else post (.py (.bool false))
  | _ => False
/-- plain data of each -/
def pys : List D → Option (List PyData)
  | [] => some []
  | .py d :: r => (pys r).map (d :: ·)
  | _ :: _ => none
def dTup (a : DA) : DE := fun S post => a S fun xs => match pys xs with
  | some ds => ds.length ≤ 1000 ∧ post (.py (.tuple ds))
  | none => False
def dLst (a : DA) : DE := fun S post => a S fun xs => match pys xs with
  | some ds => ds.length ≤ 1000 ∧ post (.py (.list ds))
  | none => False
def dCB (f : List D → (D → Prop) → Prop) (a : DA) : DE := fun S post => a S fun xs => f xs post

theorem Rp.ofDt {K : Kf} {B : List Addr} {G H : Hp} {d : PyData} {v : V} (h : Dt K G v d) : Rp K B G H (.py d) v := h
theorem Rp.bl {K : Kf} {B : List Addr} {G H : Hp} (b : Bool) : Rp K B G H (.py (.bool b)) (.bl b) := Dt.bl b
theorem Rp.int {K : Kf} {B : List Addr} {G H : Hp} (b : Int) : Rp K B G H (.py (.int b)) (.int b) := Dt.int b
theorem Rp.str {K : Kf} {B : List Addr} {G H : Hp} (b : Str) : Rp K B G H (.py (.str b)) (.str b) := Dt.str b
theorem Rp.non {K : Kf} {B : List Addr} {G H : Hp} : Rp K B G H (.py .none) .non := Dt.non
theorem sz1000 {n : Nat} (h : n ≤ 1000) : n ≤ sizeLine := Nat.le_trans h (by decide)
theorem szM {n : Nat} (h : n ≤ 16000000) : n ≤ sizeLine := Nat.le_trans h (by decide)
theorem szL {n : Nat} (h : n < 16000000) : n < sizeLine := Nat.lt_of_lt_of_le h (by decide)

section
variable {X : Cx} {B : List Addr} {H0 : Hp} {a b c e : Expr} {da db dc de : DE} {ta tb : DT} {pos : Pos}

theorem pd_var (i : Nat) {x : Str} (hN : X.N[i]? = some x := by rfl) (hv : Vis X.env.scope x := by first | exact Or.inl rfl | exact Or.inr (Or.inl rfl) | exact Or.inr (Or.inr rfl)) (hd : (x == ("__debug__" : Str)) = false := by decide)
    (hcd : (x == ("__classdict__" : Str)) = false := by decide) : PD X B H0 (.Name x pos) (dVar i) := PEmono (pe_var hN hv hd hcd) fun σ H Q ⟨G, S, post, hs, hd, hq⟩ => by
  unfold dVar at hd
  split at hd
  · next d e =>
    obtain ⟨v, h1, h2, _⟩ := hs.slot i d e
    exact ⟨v, h1, hq v d G H (Stp.refl hs.wd) h2 hd⟩
  · exact hd.elim
theorem pd_c {e : Expr} {d : PyData} {v : V} (h : PE X e (tC v)) (hv : ∀ G, Dt X.K G v d) : PD X B H0 e (dC (.py d)) := PEmono h fun σ H Q ⟨G, S, post, hs, hd, hq⟩ => hq v (.py d) G H (Stp.refl hs.wd) (hv G) hd
theorem pd_int {i : Int} {j} : PD X B H0 (.Constant (.int i) j pos) (dC (.py (.int i))) := pd_c pe_int fun _ => .int i
theorem pd_bl {i : Bool} {j} : PD X B H0 (.Constant (.bool i) j pos) (dC (.py (.bool i))) := pd_c pe_bl fun _ => .bl i
theorem pd_str {i : Str} {j} : PD X B H0 (.Constant (.str i) j pos) (dC (.py (.str i))) := pd_c pe_str fun _ => .str i
theorem pd_non {j} : PD X B H0 (.Constant .none j pos) (dC (.py .none)) := pd_c pe_non fun _ => .non
/-- a module's constant -/
theorem pd_globI {x : Str} {i : Int} (hg : Gl X x) (hm : ∃ t, X.mg x = some (.int i t)) (hd : (x == ("__debug__" : Str)) = false := by decide) : PD X B H0 (.Name x pos) (dC (.py (.int i))) :=
  let ⟨t, h⟩ := hm; pd_c (pe_glob (v := V.int i) hg h ⟨t, rfl⟩ hd) fun _ => .int i
theorem pd_globS {x : Str} {z : Str} (hg : Gl X x) (hm : ∃ t, X.mg x = some (.str z t)) (hd : (x == ("__debug__" : Str)) = false := by decide) : PD X B H0 (.Name x pos) (dC (.py (.str z))) :=
  let ⟨t, h⟩ := hm; pd_c (pe_glob (v := V.str z) hg h ⟨t, rfl⟩ hd) fun _ => .str z

theorem lift2 {r : R2} {f : D → D → (D → Prop) → Prop} (hf : OpD X.K B r f) {σ : L2.St} {H : Hp} {Q : VK} (h : lE X.K B H0 (dOp f da db) σ H Q) : tOp r (lE X.K B H0 da) (lE X.K B H0 db) σ H Q := by
  obtain ⟨G, S, post, hs, hd, hq⟩ := h
  refine ⟨G, S, _, hs, hd, fun x dx G1 H1 s1 r1 p1 => ⟨G1, S, _, hs.step s1, p1, fun y dy G2 H2 s2 r2 p2 => ?_⟩⟩
  exact hf G2 H2 x y dx dy post Q s2.wd (Rp.up s2.toOld r1) r2 p2 fun v d G' H' s3 r3 p3 => hq v d G' H' (s1.trans (s2.trans s3)) r3 p3
theorem pd_op {op : Operator} {r : R2} {f : D → D → (D → Prop) → Prop} (ho : OpR X (binaryOp op) r) (hf : OpD X.K B r f) (ha : PD X B H0 a da) (hb : PD X B H0 b db) : PD X B H0 (.BinOp a op b pos) (dOp f da db) :=
  PEmono (pe_op ho ha hb) fun _ _ _ h => lift2 hf h
theorem pd_cmp {op : CmpOp} {r : R2} {f : D → D → (D → Prop) → Prop} (ho : OpR X (compareOp op) r) (hf : OpD X.K B r f) (ha : PD X B H0 a da) (hb : PD X B H0 b db) (hm : behindInMarks op b = false) : PD X B H0 (.Compare a [op] [b] pos) (dOp f da db) :=
  PEmono (pe_cmpR ho ha hb hm) fun _ _ _ h => lift2 hf h
theorem liftB {t : TE} {de : DE} (h : ∀ σ H Q, lE X.K B H0 de σ H Q → t σ H Q) {σ : L2.St} {H : Hp} {Q : Bool → Hp → Prop} (q : lT X.K B H0 (dB de) σ H Q) : t σ H (fun x H' => ∃ k, x = .bl k ∧ Q k H') := by
  obtain ⟨G, S, post, hs, hd, hq⟩ := q
  refine h σ H _ ⟨G, S, _, hs, hd, fun v d G' H' s1 r1 p1 => ?_⟩
  split at p1
  · next b => cases r1; exact ⟨b, rfl, hq b G' H' s1 p1⟩
  · exact p1.elim
theorem pdt_cmp {op : CmpOp} {r : R2} {f : D → D → (D → Prop) → Prop} (ho : OpR X (compareOp op) r) (hf : OpD X.K B r f) (ha : PD X B H0 a da) (hb : PD X B H0 b db) (hm : behindInMarks op b = false) : PDT X B H0 (.Compare a [op] [b] pos) (dB (dOp f da db)) :=
  PTmono (pt_cmpR ho ha hb hm) fun _ _ _ h => liftB (fun _ _ _ z => lift2 hf z) h
theorem pdt_val (h : PD X B H0 e de) (he : ∀ whole, isTrue e X.env whole = (do let v ← whole; standAt e.pos; holding [v] (truthy v)) := by intro _; rfl) : PDT X B H0 e (dB de) :=
  PTmono (pt_val h he) fun _ _ _ q => liftB (fun _ _ _ z => z) q
theorem liftChain {r r' : R2} {f g : D → D → (D → Prop) → Prop} (hf : OpD X.K B r f) (hg : OpD X.K B r' g) {σ : L2.St} {H : Hp} {Q : VK} (h : lE X.K B H0 (dChain f g da db dc) σ H Q) : tChain r r' (lE X.K B H0 da) (lE X.K B H0 db) (lE X.K B H0 dc) σ H Q := by
  obtain ⟨G, S, post, hs, hd, hq⟩ := h
  refine ⟨G, S, _, hs, hd, fun x dx G1 H1 s1 r1 p1 => ⟨G1, S, _, hs.step s1, p1, fun y dy G2 H2 s2 r2 p2 => ?_⟩⟩
  refine hf G2 H2 x y dx dy _ _ s2.wd (Rp.up s2.toOld r1) r2 p2 fun v d G3 H3 s3 r3 p3 => ?_
  split at p3
  · next k =>
    cases r3
    refine ⟨k, rfl, ?_⟩
    cases k with
    | true =>
      rw [if_pos rfl] at p3 ⊢
      refine ⟨G3, S, _, (hs.step (s1.trans (s2.trans s3))), p3, fun w dw G4 H4 s4 r4 p4 => ?_⟩
      exact hg G4 H4 y w dy dw post Q s4.wd (Rp.up (s3.trans s4).toOld r2) r4 p4 fun v d G' H' s5 r5 p5 => hq v d G' H' (s1.trans (s2.trans (s3.trans (s4.trans s5)))) r5 p5
    | false =>
      rw [if_neg Bool.false_ne_true] at p3 ⊢
      exact hq _ _ G3 H3 (s1.trans (s2.trans s3)) (Rp.bl _) p3
  · exact p3.elim
theorem pd_chain {op op' : CmpOp} {r r' : R2} {f g : D → D → (D → Prop) → Prop} (ho : OpR X (compareOp op) r) (ho' : OpR X (compareOp op') r') (hf : OpD X.K B r f) (hg : OpD X.K B r' g) (ha : PD X B H0 a da) (hb : PD X B H0 b db) (hc : PD X B H0 c dc)
    (h1 : lastMarks [op, op'] [b, c] = false := by rfl) : PD X B H0 (.Compare a [op, op'] [b, c] pos) (dChain f g da db dc) :=
  PEmono (pe_chain ho ho' ha hb hc h1) fun _ _ _ h => liftChain hf hg h
theorem pdt_chain {op op' : CmpOp} {r r' : R2} {f g : D → D → (D → Prop) → Prop} (ho : OpR X (compareOp op) r) (ho' : OpR X (compareOp op') r') (hf : OpD X.K B r f) (hg : OpD X.K B r' g) (ha : PD X B H0 a da) (hb : PD X B H0 b db) (hc : PD X B H0 c dc)
    (h1 : lastMarks [op, op'] [b, c] = false := by rfl) : PDT X B H0 (.Compare a [op, op'] [b, c] pos) (dB (dChain f g da db dc)) :=
  PTmono (pt_chain ho ho' ha hb hc h1) fun _ _ _ h => liftB (fun _ _ _ z => liftChain hf hg z) h
theorem liftIf {α : Type} {P : Bool → Prop} {k : Bool} : True := trivial
theorem pdt_not (ha : PDT X B H0 a ta) : PDT X B H0 (.UnaryOp .Not a pos) (dNot ta) := PTmono (pt_not ha) fun σ H Q ⟨G, S, post, hs, hd, hq⟩ => ⟨G, S, _, hs, hd, fun k G' H' s1 p1 => hq _ G' H' s1 p1⟩
theorem lift_and {σ : L2.St} {H : Hp} {Q : Bool → Hp → Prop} (h : lT X.K B H0 (dAnd ta tb) σ H Q) : tAnd (lT X.K B H0 ta) (lT X.K B H0 tb) σ H Q := by
  obtain ⟨G, S, post, hs, hd, hq⟩ := h
  refine ⟨G, S, _, hs, hd, fun k G1 H1 s1 p1 => ?_⟩
  cases k with
  | true =>
    rw [if_pos rfl] at p1 ⊢
    exact ⟨G1, S, post, hs.step s1, p1, fun b G' H' s2 p2 => hq b G' H' (s1.trans s2) p2⟩
  | false =>
    rw [if_neg Bool.false_ne_true] at p1 ⊢
    exact hq false G1 H1 s1 p1
theorem lift_or {σ : L2.St} {H : Hp} {Q : Bool → Hp → Prop} (h : lT X.K B H0 (dOr ta tb) σ H Q) : tOr (lT X.K B H0 ta) (lT X.K B H0 tb) σ H Q := by
  obtain ⟨G, S, post, hs, hd, hq⟩ := h
  refine ⟨G, S, _, hs, hd, fun k G1 H1 s1 p1 => ?_⟩
  cases k with
  | true =>
    rw [if_pos rfl] at p1 ⊢
    exact hq true G1 H1 s1 p1
  | false =>
    rw [if_neg Bool.false_ne_true] at p1 ⊢
    exact ⟨G1, S, post, hs.step s1, p1, fun b G' H' s2 p2 => hq b G' H' (s1.trans s2) p2⟩
variable {rest : List Expr}
theorem pdw_and (ha : PDT X B H0 a ta) (hb : PDW X B H0 (.BoolOp .And (b :: rest) pos) tb) : PDW X B H0 (.BoolOp .And (a :: b :: rest) pos) (dAnd ta tb) := PWmono (pw_and ha hb) fun _ _ _ h => lift_and h
theorem pdw_and1 (ha : PDT X B H0 a ta) : PDW X B H0 (.BoolOp .And [a] pos) ta := pw_and1 ha
theorem pdw_or (ha : PDT X B H0 a ta) (hb : PDW X B H0 (.BoolOp .Or (b :: rest) pos) tb) : PDW X B H0 (.BoolOp .Or (a :: b :: rest) pos) (dOr ta tb) := PWmono (pw_or ha hb) fun _ _ _ h => lift_or h
theorem pdw_or1 (ha : PDT X B H0 a ta) : PDW X B H0 (.BoolOp .Or [a] pos) ta := pw_or1 ha
theorem PDW.t (h : PDW X B H0 e ta) : PDT X B H0 e ta := PW.pt h
theorem pd_and (ha : PD X B H0 a da) (hb : PD X B H0 (.BoolOp .And (b :: rest) pos) db) : PD X B H0 (.BoolOp .And (a :: b :: rest) pos) (dAndV da db) := PEmono (pe_and ha hb) fun σ H Q ⟨G, S, post, hs, hd, hq⟩ => by
  refine ⟨G, S, _, hs, hd, fun v d G1 H1 s1 r1 p1 => ?_⟩
  split at p1
  · next k =>
    cases r1
    refine ⟨k, rfl, ?_⟩
    cases k with
    | true =>
      rw [if_pos rfl] at p1 ⊢
      exact ⟨G1, S, post, hs.step s1, p1, fun v d G' H' s2 r2 p2 => hq v d G' H' (s1.trans s2) r2 p2⟩
    | false =>
      rw [if_neg Bool.false_ne_true] at p1 ⊢
      exact hq _ _ G1 H1 s1 (Rp.bl _) p1
  · exact p1.elim
theorem pd_or (ha : PD X B H0 a da) (hb : PD X B H0 (.BoolOp .Or (b :: rest) pos) db) : PD X B H0 (.BoolOp .Or (a :: b :: rest) pos) (dOrV da db) := PEmono (pe_or ha hb) fun σ H Q ⟨G, S, post, hs, hd, hq⟩ => by
  refine ⟨G, S, _, hs, hd, fun v d G1 H1 s1 r1 p1 => ?_⟩
  split at p1
  · next k =>
    cases r1
    refine ⟨k, rfl, ?_⟩
    cases k with
    | true =>
      rw [if_pos rfl] at p1 ⊢
      exact hq _ _ G1 H1 s1 (Rp.bl _) p1
    | false =>
      rw [if_neg Bool.false_ne_true] at p1 ⊢
      exact ⟨G1, S, post, hs.step s1, p1, fun v d G' H' s2 r2 p2 => hq v d G' H' (s1.trans s2) r2 p2⟩
  · exact p1.elim
theorem pd_one {op} (h : PD X B H0 a da) : PD X B H0 (.BoolOp op [a] pos) da := pe_one h
theorem pd_not (ha : PD X B H0 a da) : PD X B H0 (.UnaryOp .Not a pos) (dNotV da) := PEmono (pe_not ha) fun σ H Q ⟨G, S, post, hs, hd, hq⟩ => by
  refine ⟨G, S, _, hs, hd, fun v d G1 H1 s1 r1 p1 => ?_⟩
  split at p1
  · next k =>
    cases r1
    exact ⟨k, rfl, hq _ _ G1 H1 s1 (Rp.bl _) p1⟩
  · exact p1.elim
theorem pd_ifExp {c : Expr} (hc : PDT X B H0 c ta) (ha : PD X B H0 a da) (hb : PD X B H0 b db) : PD X B H0 (.IfExp c a b pos) (dIf ta da db) := PEmono (pe_ifExp hc ha hb) fun σ H Q ⟨G, S, post, hs, hd, hq⟩ => by
  refine ⟨G, S, _, hs, hd, fun k G1 H1 s1 p1 => ?_⟩
  cases k with
  | true =>
    rw [if_pos rfl] at p1 ⊢
    exact ⟨G1, S, post, hs.step s1, p1, fun v d G' H' s2 r2 p2 => hq v d G' H' (s1.trans s2) r2 p2⟩
  | false =>
    rw [if_neg Bool.false_ne_true] at p1 ⊢
    exact ⟨G1, S, post, hs.step s1, p1, fun v d G' H' s2 r2 p2 => hq v d G' H' (s1.trans s2) r2 p2⟩
variable {es : List Expr} {ra : DA}
theorem pda_nil : PDA X B H0 [] dNil := PAmono pa_nil fun σ H Q ⟨G, S, post, hs, hd, hq⟩ => hq [] [] G H (Stp.refl hs.wd) .nil hd
theorem pda_cons (ha : PD X B H0 e de) (hr : PDA X B H0 es ra) (hs : starEach (e :: es) X.env = (false, eval e X.env) :: starEach es X.env := by rfl) : PDA X B H0 (e :: es) (dCons de ra) := PAmono (pa_cons ha hr hs) fun σ H Q ⟨G, S, post, hs, hd, hq⟩ =>
  ⟨G, S, _, hs, hd, fun v d G1 H1 s1 r1 p1 => ⟨G1, S, _, hs.step s1, p1, fun vs ds G2 H2 s2 r2 p2 => hq _ _ G2 H2 (s1.trans s2) (.cons (Rp.up s2.toOld r1) r2) p2⟩⟩
theorem pys_all {K : Kf} {G H : Hp} : ∀ {xs : List D} {vs : List V} {ds : List PyData}, RpAll K B G H xs vs → pys xs = some ds → DtAll K G vs ds
  | _, _, _, .nil, h => by cases h; exact .nil
  | .py d :: r, _, ds, .cons h t, e => by
    unfold pys at e
    cases q : pys r with
    | none => rw [q] at e; cases e
    | some es => rw [q] at e; cases e; exact .cons h (pys_all t q)
  | .raw _ :: _, _, _, .cons _ _, e => by cases e
  | .ol _ :: _, _, _, .cons _ _, e => by cases e
  | .od _ :: _, _, _, .cons _ _, e => by cases e
  | .dic _ :: _, _, _, .cons _ _, e => by cases e
  | .ins _ _ _ :: _, _, _, .cons _ _, e => by cases e
  | .fn _ :: _, _, _, .cons _ _, e => by cases e
theorem pys_len : ∀ {xs : List D} {ds : List PyData}, pys xs = some ds → ds.length = xs.length
  | [], _, h => by cases h; rfl
  | .py d :: r, ds, e => by
    unfold pys at e
    cases q : pys r with
    | none => rw [q] at e; cases e
    | some es => rw [q] at e; cases e; rw [List.length_cons, List.length_cons, pys_len q]
  | .raw _ :: _, _, e => by cases e
  | .ol _ :: _, _, e => by cases e
  | .od _ :: _, _, e => by cases e
  | .dic _ :: _, _, e => by cases e
  | .ins _ _ _ :: _, _, e => by cases e
  | .fn _ :: _, _, e => by cases e
theorem Dt.newT {K : Kf} {G : Hp} {p : Addr} {vs : List V} {ds : List PyData} (hg : G p = none) (h : DtAll K G vs ds) : Dt K (upd G p (.tup vs)) (.ref p) (.tuple ds) := .tup (SqT.of upd_same) (DtAll.up (Same.updN hg) h)
theorem Dt.newL {K : Kf} {G : Hp} {p : Addr} {vs : List V} {ds : List PyData} (hg : G p = none) (h : DtAll K G vs ds) : Dt K (upd G p (.lst vs)) (.ref p) (.list ds) := .lst upd_same (DtAll.up (Same.updN hg) h)
theorem pd_tup {x1} (h : PDA X B H0 es ra) : PD X B H0 (.Tuple es x1 pos) (dTup ra) := PEmono (pe_tup h) fun σ H Q ⟨G, S, post, hs, hd, hq⟩ => by
  refine ⟨G, S, _, hs, hd, fun vs xs G1 H1 s1 r1 p1 => ?_⟩
  split at p1
  · next ds e =>
    obtain ⟨hl, p1⟩ := p1
    refine ⟨sz1000 (by rw [← r1.length, ← pys_len e]; exact hl), fun p hp => ?_⟩
    exact hq _ _ _ _ (s1.trans (Stp.new s1.wd hp _)) (Rp.ofDt (Dt.newT (s1.wd.sub.free hp) (pys_all r1 e))) p1
  · exact p1.elim
theorem pd_lst (h : PDA X B H0 es ra) : PD X B H0 (.List es pos) (dLst ra) := PEmono (pe_lst h) fun σ H Q ⟨G, S, post, hs, hd, hq⟩ => by
  refine ⟨G, S, _, hs, hd, fun vs xs G1 H1 s1 r1 p1 => ?_⟩
  split at p1
  · next ds e =>
    obtain ⟨hl, p1⟩ := p1
    refine ⟨sz1000 (by rw [← r1.length, ← pys_len e]; exact hl), fun p hp => ?_⟩
    exact hq _ _ _ _ (s1.trans (Stp.new s1.wd hp _)) (Rp.ofDt (Dt.newL (s1.wd.sub.free hp) (pys_all r1 e))) p1
  · exact p1.elim
theorem liftCB {r : List V → Hp → VK → Prop} {f : List D → (D → Prop) → Prop} (hf : CallD X.K B r f) {σ : L2.St} {H : Hp} {Q : VK} (h : lE X.K B H0 (dCB f ra) σ H Q) : tCB r (lA X.K B H0 ra) σ H Q := by
  obtain ⟨G, S, post, hs, hd, hq⟩ := h
  exact ⟨G, S, _, hs, hd, fun vs xs G1 H1 s1 r1 p1 => hf G1 H1 vs xs post Q s1.wd r1 p1 fun v d G' H' s2 r2 p2 => hq v d G' H' (s1.trans s2) r2 p2⟩
variable {x : Str} {p : Pos} {id T : String} {r : List V → Hp → VK → Prop} {f : List D → (D → Prop) → Prop}
theorem pd_callB (hc : CallR X (.builtin id) r) (hf : CallD X.K B r f) (hg : Gl X x) (hm : X.mg x = none) (hv : bootBuiltins x = some (.builtin id)) (ha : PDA X B H0 (e :: es) ra) (hn : x ≠ "__name__" := by decide) (hdb : (x == ("__debug__" : Str)) = false := by decide)
    (he : starEach (e :: es) X.env = (false, eval e X.env) :: starEach es X.env := by rfl) (hpl : (backTo pos (starEach es X.env)).any (·.1) = false := by rfl) : PD X B H0 (.Call (.Name x p) (e :: es) [] pos) (dCB f ra) :=
  PEmono (pe_callB hc hg hm hv ha hn hdb he hpl) fun _ _ _ h => liftCB hf h
theorem pd_callTy (hc : CallR X (.type T) r) (hf : CallD X.K B r f) (hg : Gl X x) (hm : X.mg x = none) (hv : bootBuiltins x = some (.type T)) (ha : PDA X B H0 (e :: es) ra) (hn : x ≠ "__name__" := by decide) (hdb : (x == ("__debug__" : Str)) = false := by decide)
    (he : starEach (e :: es) X.env = (false, eval e X.env) :: starEach es X.env := by rfl) (hpl : (backTo pos (starEach es X.env)).any (·.1) = false := by rfl) : PD X B H0 (.Call (.Name x p) (e :: es) [] pos) (dCB f ra) :=
  PEmono (pe_callTy hc hg hm hv ha hn hdb he hpl) fun _ _ _ h => liftCB hf h

/-! ### defs -/
/-- what a def does with data; B: the bags -/
abbrev Ct := List Addr → List D → (D → Prop) → Prop
def spD (K : Kf) (C : Ct) : Sp := fun vs H Q _ => ∃ (B : List Addr) (G : Hp) (ds : List D) (post : D → Prop), Wd K B G H ∧ RpAll K B G H ds vs ∧ C B ds post ∧ ∀ v d G' H', Stp K B G H G' H' → Rp K B G' H' d v → post d → Q v H'
def dCall (B : List Addr) (C : Ct) (a : DA) : DE := fun S post => a S fun xs => C B xs post
theorem pd_call {CX : CXT} {k : Nat} {f : Addr} {fd : FuncData} {ps : List Str} {C : Ct} {E : XK} (F : FnOk X.prog X.w X.K X.mg X.base CX k f fd ps (spD X.K C)) (hr : Room k X.A) (hg : Gl X x) (hm : X.mg x = some (.ref f)) (hk : PySem.W.keepIn X.K (.ref f) = true) (hb : Binds X.K fd ps [])
    (hx : Passes CX X E) (ha : PDA X B H0 (e :: es) ra) (hdb : (x == ("__debug__" : Str)) = false := by decide) (he : starEach (e :: es) X.env = (false, eval e X.env) :: starEach es X.env := by rfl) (hpl : (backTo pos (starEach es X.env)).any (·.1) = false := by rfl) :
    PD X B H0 (.Call (.Name x p) (e :: es) [] pos) (dCall B C ra) :=
  PEmono (pe_call F hr hg hm hk hb .nil hx ha hdb he hpl) fun σ H Q ⟨G, S, post, hs, hd, hq⟩ =>
    ⟨G, S, _, hs, hd, fun vs xs G1 H1 s1 r1 p1 => by
      show spD X.K C (vs ++ []) H1 Q E
      rw [List.append_nil]
      exact ⟨B, G1, xs, post, s1.wd, r1, p1, fun v d G' H' s2 r2 p2 => hq v d G' H' (s1.trans s2) r2 p2⟩⟩
end
end DL
/- ==== DLc ==== -/
/-! DLc: operations over data. -/
namespace DL
open PySem PySem.Spec PyProof.Rows L2

def fI (g : Int → Int → PyData) : D → D → (D → Prop) → Prop := fun x y post => match x, y with
  | .py (.int i), .py (.int j) => post (.py (g i j))
  | _, _ => False
def fIc (C : Int → Int → Prop) (g : Int → Int → PyData) : D → D → (D → Prop) → Prop := fun x y post => match x, y with
  | .py (.int i), .py (.int j) => C i j ∧ post (.py (g i j))
  | _, _ => False
/-- plain data, an own list read as such -/
def D.py? : D → Option PyData
  | .py d => some d
  | .ol ds => some (.list ds)
  | _ => none
theorem Rp.py? {K : Kf} {B : List Addr} {G H : Hp} (w : Wd K B G H) {d : D} {v : V} {q : PyData} (h : Rp K B G H d v) (e : d.py? = some q) : Dt K H v q := by
  cases d with
  | py d => cases e; exact Dt.up w.sub h
  | ol ds => cases e; obtain ⟨p, vs, rfl, _, h2, h3⟩ := h; exact .lst h2 (DtAll.up w.sub h3)
  | _ => cases e
def fAdd : D → D → (D → Prop) → Prop := fun x y post => match x, y with
  | .py (.int i), .py (.int j) => post (.py (.int (i + j)))
  | .py (.list a), .py (.list b) => a.length + b.length ≤ 16000000 ∧ post (.py (.list (a ++ b)))
  | .py (.tuple a), .py (.tuple b) => a.length + b.length ≤ 16000000 ∧ post (.py (.tuple (a ++ b)))
  | _, _ => False
def fMul : D → D → (D → Prop) → Prop := fun x y post => match x, y with
  | .py (.int i), .py (.int j) => CMul i j ∧ post (.py (.int (i * j)))
  | _, _ => False
def fEq : D → D → (D → Prop) → Prop := fun x y post => match x.py?, y.py? with
  | some (.int i), some (.int j) => post (.py (.bool (decide (i = j))))
  | some (.str i), some (.str j) => post (.py (.bool (decide (i = j))))
  | some d, some e => SeqAt.shaped d = true ∧ SeqAt.shaped e = true ∧ post (.py (.bool (PyData.eqv d e)))
  | _, _ => False
def fNe : D → D → (D → Prop) → Prop := fun x y post => match x.py?, y.py? with
  | some (.int i), some (.int j) => post (.py (.bool (!decide (i = j))))
  | some (.str i), some (.str j) => post (.py (.bool (!decide (i = j))))
  | some d, some e => SeqAt.shaped d = true ∧ SeqAt.shaped e = true ∧ post (.py (.bool (!PyData.eqv d e)))
  | _, _ => False
def fLt : D → D → (D → Prop) → Prop := fI fun i j => .bool (decide (i < j))
def fLe : D → D → (D → Prop) → Prop := fI fun i j => .bool (decide (i ≤ j))
def fGt : D → D → (D → Prop) → Prop := fI fun i j => .bool (decide (j < i))
def fGe : D → D → (D → Prop) → Prop := fI fun i j => .bool (decide (j ≤ i))
def fLtS : D → D → (D → Prop) → Prop := fun x y post => match x, y with
  | .py (.str i), .py (.str j) => post (.py (.bool (decide (i.cps.toList < j.cps.toList))))
  | _, _ => False
def fSub : D → D → (D → Prop) → Prop := fI fun i j => .int (i - j)
def fFdiv : D → D → (D → Prop) → Prop := fIc CDiv fun i j => .int (i / j)
def fMod : D → D → (D → Prop) → Prop := fIc (fun _ j => 0 < j) fun i j => .int (i % j)
def isNonD : D → Bool
  | .py .none => true
  | .raw .non => true
  | _ => false
def fIsN : D → D → (D → Prop) → Prop := fun x y post => match y with
  | .py .none => post (.py (.bool (isNonD x)))
  | _ => False
def fNotN : D → D → (D → Prop) → Prop := fun x y post => match y with
  | .py .none => post (.py (.bool (!isNonD x)))
  | _ => False
def fIsB : D → D → (D → Prop) → Prop := fun x y post => match x, y with
  | .py (.bool a), .py (.bool b) => post (.py (.bool (decide (a = b))))
  | _, _ => False
def fNotB : D → D → (D → Prop) → Prop := fun x y post => match x, y with
  | .py (.bool a), .py (.bool b) => post (.py (.bool (!decide (a = b))))
  | _, _ => False
/-- one sign in a text -/
def fInS : D → D → (D → Prop) → Prop := fun x y post => match x, y with
  | .py (.str s), .py (.str z) => ∃ c, s = ⟨#[c]⟩ ∧ post (.py (.bool (decide (c ∈ z.cps.toList))))
  | _, _ => False
def D.items : D → Option (List PyData)
  | .py (.list ds) => some ds
  | .py (.tuple ds) => some ds
  | .ol ds => some ds
  | _ => none
def fIx : D → D → (D → Prop) → Prop := fun x y post => match x.items, y with
  | some ds, .py (.int i) => match atI ds i with
    | some d => post (.py d)
    | none => False
  | _, _ => False
def flatP : PyData → Bool
  | .none => true
  | .bool _ => true
  | .int _ => true
  | .str _ => true
  | _ => false
def eqP : PyData → PyData → Bool := PyData.eqv

section
variable {X : Cx} {K : Kf} {B : List Addr}
theorem stay {K : Kf} {B : List Addr} {G H : Hp} {Q : VK} {post : D → Prop} (w : Wd K B G H) (hq : ∀ v d G' H', Stp K B G H G' H' → Rp K B G' H' d v → post d → Q v H') {v : V} {d : PyData} (h : Dt K G v d) (p : post (.py d)) : Q v H :=
  hq v (.py d) G H (Stp.refl w) h p
theorem od_I0 {v : Int → Int → V} {g : Int → Int → PyData} (h : ∀ i j G, Dt K G (v i j) (g i j)) : OpD K B (rI0 v) (fI g) := fun G H x y dx dy post Q w rx ry hf hq => by
  unfold fI at hf
  split at hf
  · cases rx; cases ry; exact ⟨_, _, rfl, rfl, stay w hq (h _ _ G) hf⟩
  · exact hf.elim
theorem od_I {C : Int → Int → Prop} {v : Int → Int → V} {g : Int → Int → PyData} (h : ∀ i j G, Dt K G (v i j) (g i j)) : OpD K B (rI C v) (fIc C g) := fun G H x y dx dy post Q w rx ry hf hq => by
  unfold fIc at hf
  split at hf
  · cases rx; cases ry; exact ⟨_, _, rfl, rfl, hf.1, stay w hq (h _ _ G) hf.2⟩
  · exact hf.elim
theorem od_lt : OpD K B (rI0 fun i j => .bl (decide (i < j))) fLt := od_I0 fun _ _ _ => .bl _
theorem od_le : OpD K B (rI0 fun i j => .bl (decide (i ≤ j))) fLe := od_I0 fun _ _ _ => .bl _
theorem od_gt : OpD K B (rI0 fun i j => .bl (decide (j < i))) fGt := od_I0 fun _ _ _ => .bl _
theorem od_ge : OpD K B (rI0 fun i j => .bl (decide (j ≤ i))) fGe := od_I0 fun _ _ _ => .bl _
theorem od_sub : OpD K B (rI0 fun i j => .int (i - j)) fSub := od_I0 fun _ _ _ => .int _
theorem od_mul : OpD K B (rI CMul fun i j => .int (i * j)) fMul := fun G H x y dx dy post Q w rx ry hf hq => by
  unfold fMul at hf
  split at hf
  · cases rx; cases ry; exact ⟨_, _, rfl, rfl, hf.1, stay w hq (.int _) hf.2⟩
  · exact hf.elim
theorem od_fdiv : OpD K B (rI CDiv fun i j => .int (i / j)) fFdiv := od_I fun _ _ _ => .int _
theorem od_mod : OpD K B (rI (fun _ j => 0 < j) fun i j => .int (i % j)) fMod := od_I fun _ _ _ => .int _
/-- + of ints, lists, tuples -/
def rAddA (K : Kf) : R2 := fun x y H Q => (rI0 fun i j => .int (i + j)) x y H Q ∨ rCat x y H Q ∨ rCatA K x y H Q
theorem op_addA : OpR X (binaryOp .Add) (rAddA X.K) := by
  intro pins s σ H x y v u Q I rx ry h
  rcases h with h | h | h
  · exact op_add pins s σ H x y v u Q I rx ry h
  · exact op_cat pins s σ H x y v u Q I rx ry h
  · exact op_catA pins s σ H x y v u Q I rx ry h
theorem od_add : OpD K B (rAddA K) fAdd := fun G H x y dx dy post Q w rx ry hf hq => by
  unfold fAdd at hf
  split at hf
  · cases rx; cases ry; exact .inl ⟨_, _, rfl, rfl, stay w hq (.int _) hf⟩
  · next a b =>
    cases rx with
    | lst h1 h2 =>
      cases ry with
      | lst h3 h4 =>
        refine .inr (.inl ⟨_, _, _, _, rfl, rfl, w.sub _ _ h1, w.sub _ _ h3, szM (by rw [h2.length, h4.length]; exact hf.1), fun p hp => ?_⟩)
        exact hq _ _ _ _ (Stp.new w hp _) (Rp.ofDt (Dt.newL (w.sub.free hp) (h2.append h4))) hf.2
  · next a b =>
    cases rx with
    | tup h1 h2 =>
      cases ry with
      | tup h3 h4 =>
        refine .inr (.inr ⟨_, _, _, _, rfl, rfl, SqT.up w.sub h1, SqT.up w.sub h3, szM (by rw [h2.length, h4.length]; exact hf.1), fun e => ?_, fun _ e => ?_, fun _ _ p hp => ?_⟩)
        · subst e; cases h2; exact stay w hq (.tup h3 h4) hf.2
        · subst e; cases h4; refine stay w hq (.tup h1 h2) ?_; rw [List.append_nil] at hf; exact hf.2
        · exact hq _ _ _ _ (Stp.new w hp _) (Rp.ofDt (Dt.newT (w.sub.free hp) (h2.append h4))) hf.2
  · exact hf.elim
theorem OpR.or {f : Value → Value → Sem Value} {r r' : R2} (h : OpR X f r) (h' : OpR X f r') : OpR X f (fun x y H Q => r x y H Q ∨ r' x y H Q) := by
  intro pins s σ H x y v u Q I rx ry q
  rcases q with q | q
  · exact h pins s σ H x y v u Q I rx ry q
  · exact h' pins s σ H x y v u Q I rx ry q
theorem dt_int {G : Hp} {v : V} {i : Int} (h : Dt K G v (.int i)) : v = .int i := by cases h; rfl
theorem dt_str {G : Hp} {v : V} {i : Str} (h : Dt K G v (.str i)) : v = .str i := by cases h; rfl
theorem op_eqA (hu : X.A.units + 64 < cLine) : OpR X (compareOp .Eq) (fun x y H Q => rEq x y H Q ∨ rEqD X.K x y H Q) := op_eq.or (op_eqD hu)
theorem op_neA (hu : X.A.units + 64 < cLine) : OpR X (compareOp .NotEq) (fun x y H Q => rNe x y H Q ∨ rNeD X.K x y H Q) := op_ne.or (op_neD hu)
theorem od_eq : OpD K B (fun x y H Q => rEq x y H Q ∨ rEqD K x y H Q) fEq := fun G H x y dx dy post Q w rx ry hf hq => by
  unfold fEq at hf
  split at hf
  · next i j e1 e2 =>
    cases dt_int (rx.py? w e1); cases dt_int (ry.py? w e2)
    refine .inl ⟨rfl, ?_⟩
    rw [show decide (V.int i = V.int j) = decide (i = j) from dec_int]
    exact stay w hq (.bl _) hf
  · next i j e1 e2 =>
    cases dt_str (rx.py? w e1); cases dt_str (ry.py? w e2)
    refine .inl ⟨rfl, ?_⟩
    rw [show decide (V.str i = V.str j) = decide (i = j) from dec_str]
    exact stay w hq (.bl _) hf
  · next d e _ _ e1 e2 =>
    have h1 := (rx.py? w e1).dp; have h2 := (ry.py? w e2).dp
    exact .inr ⟨_, _, h1, h2, hf.1, hf.2.1, stay w hq (.bl _) hf.2.2⟩
  · exact hf.elim
theorem od_ne : OpD K B (fun x y H Q => rNe x y H Q ∨ rNeD K x y H Q) fNe := fun G H x y dx dy post Q w rx ry hf hq => by
  unfold fNe at hf
  split at hf
  · next i j e1 e2 =>
    cases dt_int (rx.py? w e1); cases dt_int (ry.py? w e2)
    refine .inl ⟨rfl, ?_⟩
    rw [show decide (V.int i = V.int j) = decide (i = j) from dec_int]
    exact stay w hq (.bl _) hf
  · next i j e1 e2 =>
    cases dt_str (rx.py? w e1); cases dt_str (ry.py? w e2)
    refine .inl ⟨rfl, ?_⟩
    rw [show decide (V.str i = V.str j) = decide (i = j) from dec_str]
    exact stay w hq (.bl _) hf
  · next d e _ _ e1 e2 =>
    have h1 := (rx.py? w e1).dp; have h2 := (ry.py? w e2).dp
    exact .inr ⟨_, _, h1, h2, hf.1, hf.2.1, stay w hq (.bl _) hf.2.2⟩
  · exact hf.elim
theorem od_ltS : OpD K B (fun x y H Q => ∃ i j, x = .str i ∧ y = .str j ∧ Q (.bl (decide (i.cps.toList < j.cps.toList))) H) fLtS := fun G H x y dx dy post Q w rx ry hf hq => by
  unfold fLtS at hf
  split at hf
  · cases rx; cases ry; exact ⟨_, _, rfl, rfl, stay w hq (.bl _) hf⟩
  · exact hf.elim
theorem nonD {G H : Hp} {d : D} {v : V} (h : Rp K B G H d v) : decide (v = .non) = isNonD d := by
  cases d with
  | py d => cases h <;> rfl
  | raw u => cases (show v = u from h); cases v <;> rfl
  | ol ds => obtain ⟨p, vs, rfl, _⟩ := h; rfl
  | od ds => obtain ⟨p, vs, rfl, _⟩ := h; rfl
  | dic ds => obtain ⟨p, vs, rfl, _⟩ := h; rfl
  | ins p C ds => obtain ⟨dx, vs, rfl, _⟩ := h; rfl
  | fn L => obtain ⟨f, c, pm, ct, rfl, _⟩ := h; rfl
theorem od_isN : OpD K B (fun x y H Q => y = .non ∧ Q (.bl (decide (x = .non))) H) fIsN := fun G H x y dx dy post Q w rx ry hf hq => by
  unfold fIsN at hf
  split at hf
  · cases ry; exact ⟨rfl, by rw [nonD rx]; exact stay w hq (.bl _) hf⟩
  · exact hf.elim
theorem od_notN : OpD K B (fun x y H Q => y = .non ∧ Q (.bl (!decide (x = .non))) H) fNotN := fun G H x y dx dy post Q w rx ry hf hq => by
  unfold fNotN at hf
  split at hf
  · cases ry; exact ⟨rfl, by rw [nonD rx]; exact stay w hq (.bl _) hf⟩
  · exact hf.elim
theorem od_isB : OpD K B (fun x y H Q => ∃ a b, x = .bl a ∧ y = .bl b ∧ Q (.bl (decide (a = b))) H) fIsB := fun G H x y dx dy post Q w rx ry hf hq => by
  unfold fIsB at hf
  split at hf
  · cases rx; cases ry; exact ⟨_, _, rfl, rfl, stay w hq (.bl _) hf⟩
  · exact hf.elim
theorem od_notB : OpD K B (fun x y H Q => ∃ a b, x = .bl a ∧ y = .bl b ∧ Q (.bl (!decide (a = b))) H) fNotB := fun G H x y dx dy post Q w rx ry hf hq => by
  unfold fNotB at hf
  split at hf
  · cases rx; cases ry; exact ⟨_, _, rfl, rfl, stay w hq (.bl _) hf⟩
  · exact hf.elim
theorem od_inS : OpD K B (fun x y H Q => ∃ (c : Nat) (z : Str), x = .str ⟨#[c]⟩ ∧ y = .str z ∧ Q (.bl (decide (c ∈ z.cps.toList))) H) fInS := fun G H x y dx dy post Q w rx ry hf hq => by
  unfold fInS at hf
  split at hf
  · cases rx; cases ry
    obtain ⟨c, rfl, hf⟩ := hf
    exact ⟨c, _, rfl, rfl, stay w hq (.bl _) hf⟩
  · exact hf.elim
theorem atI_all {G : Hp} {vs : List V} {ds : List PyData} {i : Int} {d : PyData} (h : DtAll K G vs ds) (e : atI ds i = some d) : ∃ v, atI vs i = some v ∧ Dt K G v d := by
  unfold atI at e ⊢
  rw [h.length]
  cases q : ixN ds.length i with
  | none => rw [q] at e; cases e
  | some j =>
    rw [q] at e
    exact h.getD (i := j) e
theorem od_ix : OpD K B (rIx K) fIx := fun G H x y dx dy post Q w rx ry hf hq => by
  unfold fIx at hf
  split at hf
  · next ds i e =>
    split at hf
    · next d ed =>
      cases ry
      cases dx with
      | py q =>
        cases q with
        | list l =>
          cases e
          cases rx with
          | lst h1 h2 =>
            obtain ⟨v, hv, hd⟩ := atI_all h2 ed
            exact .inl ⟨_, _, _, v, rfl, rfl, SqL.of (w.sub _ _ h1), hv, stay w hq hd hf⟩
        | tuple l =>
          cases e
          cases rx with
          | tup h1 h2 =>
            obtain ⟨v, hv, hd⟩ := atI_all h2 ed
            exact .inr (.inl ⟨_, _, _, v, rfl, rfl, SqT.up w.sub h1, hv, stay w hq hd hf⟩)
        | _ => cases e
      | ol l =>
        cases e
        obtain ⟨p, vs, rfl, _, h1, h2⟩ := rx
        obtain ⟨v, hv, hd⟩ := atI_all h2 ed
        exact .inl ⟨_, _, _, v, rfl, rfl, SqL.of h1, hv, stay w hq hd hf⟩
      | _ => cases e
    · exact hf.elim
  · exact hf.elim
variable {H0 : Hp} {a b : Expr} {da db : DE} {pos : Pos}
theorem pd_ix (ha : PD X B H0 a da) (hb : PD X B H0 b db) (hs : PlainIx b := by exact fun _ _ => rfl) : PD X B H0 (.Subscript a b pos) (dOp fIx da db) := PEmono (pe_ix ix_seq ha hb hs) fun _ _ _ h => lift2 od_ix h
theorem pd_add (ha : PD X B H0 a da) (hb : PD X B H0 b db) : PD X B H0 (.BinOp a .Add b pos) (dOp fAdd da db) := pd_op op_addA od_add ha hb
theorem pd_sub (ha : PD X B H0 a da) (hb : PD X B H0 b db) : PD X B H0 (.BinOp a .Sub b pos) (dOp fSub da db) := pd_op op_sub od_sub ha hb
theorem pd_mul (ha : PD X B H0 a da) (hb : PD X B H0 b db) : PD X B H0 (.BinOp a .Mult b pos) (dOp fMul da db) := pd_op op_mul od_mul ha hb
theorem pd_fdiv (ha : PD X B H0 a da) (hb : PD X B H0 b db) : PD X B H0 (.BinOp a .FloorDiv b pos) (dOp fFdiv da db) := pd_op op_fdiv od_fdiv ha hb
theorem pd_mod (ha : PD X B H0 a da) (hb : PD X B H0 b db) : PD X B H0 (.BinOp a .Mod b pos) (dOp fMod da db) := pd_op op_mod od_mod ha hb
/-- a written power -/
theorem pd_pow {i j n : Int} {j1 j2} {p1 p2 : Pos} (h : CPow i j := by exact ⟨by decide, by decide, by decide⟩) (e : i ^ j.toNat = n := by decide +kernel) : PD X B H0 (.BinOp (.Constant (.int i) j1 p1) .Pow (.Constant (.int j) j2 p2) pos) (dC (.py (.int n))) :=
  PEmono (pe_op op_pow pe_int pe_int) fun σ H Q ⟨G, S, post, hs, hd, hq⟩ => ⟨i, j, rfl, rfl, h, by show Q (.int (i ^ j.toNat)) H; rw [e]; exact stay hs.wd hq (.int n) hd⟩
/-- a written negative -/
theorem pd_neg {i : Int} {j1} {p1 : Pos} : PD X B H0 (.UnaryOp .USub (.Constant (.int i) j1 p1) pos) (dC (.py (.int (-i)))) :=
  PEmono (pe_un un_neg pe_int) fun σ H Q ⟨G, S, post, hs, hd, hq⟩ => ⟨i, rfl, stay hs.wd hq (.int (-i)) hd⟩

/-! calls of built-ins -/
def cLen : List D → (D → Prop) → Prop := fun xs post => match xs with
  | [.py (.str s)] => s.length ≤ 16000000 ∧ post (.py (.int s.length))
  | [.py (.list ds)] => post (.py (.int ds.length))
  | [.py (.tuple ds)] => post (.py (.int ds.length))
  | [.ol ds] => post (.py (.int ds.length))
  | _ => False
theorem cd_len : CallD K B (fun xs H Q => ∃ x n, xs = [x] ∧ LenV K x H n ∧ Q (.int n) H) cLen := fun G H xs dxs post Q w r hf hq => by
  unfold cLen at hf
  split at hf
  · cases r with
    | cons rx rn => cases rn; cases rx; exact ⟨_, _, rfl, ⟨szM hf.1, rfl⟩, stay w hq (.int _) hf.2⟩
  · cases r with
    | cons rx rn =>
      cases rn
      cases rx with
      | lst h1 h2 => exact ⟨_, _, rfl, .inl ⟨_, SqL.of (w.sub _ _ h1), rfl⟩, by rw [h2.length]; exact stay w hq (.int _) hf⟩
  · cases r with
    | cons rx rn =>
      cases rn
      cases rx with
      | tup h1 h2 => exact ⟨_, _, rfl, .inr ⟨_, SqT.up w.sub h1, rfl⟩, by rw [h2.length]; exact stay w hq (.int _) hf⟩
  · cases r with
    | cons rx rn =>
      cases rn
      obtain ⟨p, vs, rfl, _, h1, h2⟩ := rx
      exact ⟨_, _, rfl, .inl ⟨_, SqL.of h1, rfl⟩, by rw [h2.length]; exact stay w hq (.int _) hf⟩
  · exact hf.elim
def cInt : List D → (D → Prop) → Prop := fun xs post => match xs with
  | [.py (.int i)] => post (.py (.int i))
  | [.py (.bool b)] => post (.py (.int (if b then 1 else 0)))
  | _ => False
theorem cd_int : CallD K B (fun xs H Q => (∃ i, xs = [.int i] ∧ Q (.int i) H) ∨ ∃ k, xs = [.bl k] ∧ Q (.int (if k then 1 else 0)) H) cInt := fun G H xs dxs post Q w r hf hq => by
  unfold cInt at hf
  split at hf
  · cases r with
    | cons rx rn => cases rn; cases rx; exact .inl ⟨_, rfl, stay w hq (.int _) hf⟩
  · cases r with
    | cons rx rn => cases rn; cases rx; exact .inr ⟨_, rfl, stay w hq (.int _) hf⟩
  · exact hf.elim
def cMax2 : List D → (D → Prop) → Prop := fun xs post => match xs with
  | [.py (.int i), .py (.int j)] => post (.py (.int (if j > i then j else i)))
  | _ => False
def cMin2 : List D → (D → Prop) → Prop := fun xs post => match xs with
  | [.py (.int i), .py (.int j)] => post (.py (.int (if j < i then j else i)))
  | _ => False
theorem cd_max2 : CallD K B (fun xs H Q => ∃ i j, xs = [.int i, .int j] ∧ Q (.int (if j > i then j else i)) H) cMax2 := fun G H xs dxs post Q w r hf hq => by
  unfold cMax2 at hf
  split at hf
  · cases r with
    | cons rx rn =>
      cases rn with
      | cons ry rn => cases rn; cases rx; cases ry; exact ⟨_, _, rfl, stay w hq (.int _) hf⟩
  · exact hf.elim
theorem cd_min2 : CallD K B (fun xs H Q => ∃ i j, xs = [.int i, .int j] ∧ Q (.int (if j < i then j else i)) H) cMin2 := fun G H xs dxs post Q w r hf hq => by
  unfold cMin2 at hf
  split at hf
  · cases r with
    | cons rx rn =>
      cases rn with
      | cons ry rn => cases rn; cases rx; cases ry; exact ⟨_, _, rfl, stay w hq (.int _) hf⟩
  · exact hf.elim
/-- a list of ints, read -/
theorem rp_ints {G H : Hp} (w : Wd K B G H) {x : D} {v : V} {ns : List Int} (h : Rp K B G H x v) (e : x.items = some (ns.map PyData.int)) (hl : ∀ ds, x ≠ .py (.tuple ds)) : ∃ p, v = .ref p ∧ SqL K H p (ns.map V.int) := by
  cases x with
  | py q =>
    cases q with
    | list l =>
      cases e
      cases h with
      | lst h1 h2 => refine ⟨_, rfl, SqL.of ?_⟩; rw [← h2.ints]; exact w.sub _ _ h1
    | tuple l => exact absurd rfl (hl l)
    | _ => cases e
  | ol l =>
    cases e
    obtain ⟨p, vs, rfl, _, h1, h2⟩ := h
    refine ⟨_, rfl, SqL.of ?_⟩; rw [← h2.ints]; exact h1
  | _ => cases e
def D.lsti : D → Option (List PyData)
  | .py (.list ds) => some ds
  | .ol ds => some ds
  | _ => none
theorem rp_lst {G H : Hp} (w : Wd K B G H) {x : D} {v : V} {ds : List PyData} (h : Rp K B G H x v) (e : x.lsti = some ds) : ∃ p vs, v = .ref p ∧ H p = some (.lst vs) ∧ DtAll K G vs ds := by
  cases x with
  | py q =>
    cases q with
    | list l =>
      cases e
      cases h with
      | lst h1 h2 => exact ⟨_, _, rfl, w.sub _ _ h1, h2⟩
    | _ => cases e
  | ol l =>
    cases e
    obtain ⟨p, vs, rfl, _, h1, h2⟩ := h
    exact ⟨_, _, rfl, h1, h2⟩
  | _ => cases e
def cSum : List D → (D → Prop) → Prop := fun xs post => match xs with
  | [x] => ∃ ns : List Int, x.lsti = some (ns.map PyData.int) ∧ post (.py (.int ns.sum))
  | _ => False
theorem cd_sum : CallD K B (rSum K) cSum := fun G H xs dxs post Q w r hf hq => by
  unfold cSum at hf
  split at hf
  · cases r with
    | cons rx rn =>
      cases rn
      obtain ⟨ns, e, hf⟩ := hf
      obtain ⟨p, vs, rfl, h1, h2⟩ := rp_lst w rx e
      have := h2.ints; subst this
      exact ⟨p, ns, rfl, SqL.of h1, stay w hq (.int _) hf⟩
  · exact hf.elim
def cMaxL : List D → (D → Prop) → Prop := fun xs post => match xs with
  | [x] => ∃ ns : List Int, x.lsti = some (ns.map PyData.int) ∧ 0 < ns.length ∧ ∀ m, m ∈ ns → (∀ y ∈ ns, y ≤ m) → post (.py (.int m))
  | _ => False
theorem cd_maxL : CallD K B (rMax K) cMaxL := fun G H xs dxs post Q w r hf hq => by
  unfold cMaxL at hf
  split at hf
  · cases r with
    | cons rx rn =>
      cases rn
      obtain ⟨ns, e, hl, hf⟩ := hf
      obtain ⟨p, vs, rfl, h1, h2⟩ := rp_lst w rx e
      have := h2.ints; subst this
      exact ⟨p, ns, rfl, SqL.of h1, hl, fun m k1 k2 => stay w hq (.int _) (hf m k1 k2)⟩
  · exact hf.elim
def cMinL : List D → (D → Prop) → Prop := fun xs post => match xs with
  | [x] => ∃ ns : List Int, x.lsti = some (ns.map PyData.int) ∧ 0 < ns.length ∧ ∀ m, m ∈ ns → (∀ y ∈ ns, m ≤ y) → post (.py (.int m))
  | _ => False
theorem cd_minL : CallD K B (rMin K) cMinL := fun G H xs dxs post Q w r hf hq => by
  unfold cMinL at hf
  split at hf
  · cases r with
    | cons rx rn =>
      cases rn
      obtain ⟨ns, e, hl, hf⟩ := hf
      obtain ⟨p, vs, rfl, h1, h2⟩ := rp_lst w rx e
      have := h2.ints; subst this
      exact ⟨p, ns, rfl, SqL.of h1, hl, fun m k1 k2 => stay w hq (.int _) (hf m k1 k2)⟩
  · exact hf.elim
def cAll : List D → (D → Prop) → Prop := fun xs post => match xs with
  | [x] => ∃ bs : List Bool, x.lsti = some (bs.map PyData.bool) ∧ post (.py (.bool (bs.all id)))
  | _ => False
theorem cd_all : CallD K B (rAll K) cAll := fun G H xs dxs post Q w r hf hq => by
  unfold cAll at hf
  split at hf
  · cases r with
    | cons rx rn =>
      cases rn
      obtain ⟨ns, e, hf⟩ := hf
      obtain ⟨p, vs, rfl, h1, h2⟩ := rp_lst w rx e
      have := h2.bls; subst this
      exact ⟨p, ns, rfl, SqL.of h1, stay w hq (.bl _) hf⟩
  · exact hf.elim
def cAny : List D → (D → Prop) → Prop := fun xs post => match xs with
  | [x] => ∃ bs : List Bool, x.lsti = some (bs.map PyData.bool) ∧ post (.py (.bool (bs.any id)))
  | _ => False
theorem cd_any : CallD K B (rAny K) cAny := fun G H xs dxs post Q w r hf hq => by
  unfold cAny at hf
  split at hf
  · cases r with
    | cons rx rn =>
      cases rn
      obtain ⟨ns, e, hf⟩ := hf
      obtain ⟨p, vs, rfl, h1, h2⟩ := rp_lst w rx e
      have := h2.bls; subst this
      exact ⟨p, ns, rfl, SqL.of h1, stay w hq (.bl _) hf⟩
  · exact hf.elim
def cTuple : List D → (D → Prop) → Prop := fun xs post => match xs with
  | [x] => match x.items with
    | some ds => post (.py (.tuple ds))
    | none => False
  | _ => False
theorem cd_tuple : CallD K B (fun xs H Q => ∃ p ys, xs = [.ref p] ∧ ((SqL K H p ys ∧ ∀ l, H l = none → Q (.ref l) (upd H l (.tup ys))) ∨ (SqT K H p ys ∧ Q (.ref p) H))) cTuple := fun G H xs dxs post Q w r hf hq => by
  unfold cTuple at hf
  split at hf
  · next x =>
    cases r with
    | cons rx rn =>
      cases rn
      split at hf
      · next ds e =>
        cases x with
        | py q =>
          cases q with
          | list l =>
            cases e
            cases rx with
            | lst h1 h2 => exact ⟨_, _, rfl, .inl ⟨SqL.of (w.sub _ _ h1), fun l hl => hq _ _ _ _ (Stp.new w hl _) (Rp.ofDt (Dt.newT (w.sub.free hl) h2)) hf⟩⟩
          | tuple l =>
            cases e
            cases rx with
            | tup h1 h2 => exact ⟨_, _, rfl, .inr ⟨SqT.up w.sub h1, stay w hq (.tup h1 h2) hf⟩⟩
          | _ => cases e
        | ol l =>
          cases e
          obtain ⟨p, vs, rfl, _, h1, h2⟩ := rx
          exact ⟨_, _, rfl, .inl ⟨SqL.of h1, fun l hl => hq _ _ _ _ (Stp.new w hl _) (Rp.ofDt (Dt.newT (w.sub.free hl) h2)) hf⟩⟩
        | _ => cases e
      · exact hf.elim
  · exact hf.elim
def cList : List D → (D → Prop) → Prop := fun xs post => match xs with
  | [x] => match x.items with
    | some ds => post (.py (.list ds))
    | none => False
  | _ => False
theorem cd_list : CallD K B (fun xs H Q => ∃ p ys, xs = [.ref p] ∧ (SqL K H p ys ∨ SqT K H p ys) ∧ ∀ l, H l = none → Q (.ref l) (upd H l (.lst ys))) cList := fun G H xs dxs post Q w r hf hq => by
  unfold cList at hf
  split at hf
  · next x =>
    cases r with
    | cons rx rn =>
      cases rn
      split at hf
      · next ds e =>
        cases x with
        | py q =>
          cases q with
          | list l =>
            cases e
            cases rx with
            | lst h1 h2 => exact ⟨_, _, rfl, .inl (SqL.of (w.sub _ _ h1)), fun l hl => hq _ _ _ _ (Stp.new w hl _) (Rp.ofDt (Dt.newL (w.sub.free hl) h2)) hf⟩
          | tuple l =>
            cases e
            cases rx with
            | tup h1 h2 => exact ⟨_, _, rfl, .inr (SqT.up w.sub h1), fun l hl => hq _ _ _ _ (Stp.new w hl _) (Rp.ofDt (Dt.newL (w.sub.free hl) h2)) hf⟩
          | _ => cases e
        | ol l =>
          cases e
          obtain ⟨p, vs, rfl, _, h1, h2⟩ := rx
          exact ⟨_, _, rfl, .inl (SqL.of h1), fun l hl => hq _ _ _ _ (Stp.new w hl _) (Rp.ofDt (Dt.newL (w.sub.free hl) h2)) hf⟩
        | _ => cases e
      · exact hf.elim
  · exact hf.elim
def cSorted : List D → (D → Prop) → Prop := fun xs post => match xs with
  | [x] => ∃ ns : List Int, x.lsti = some (ns.map PyData.int) ∧ ∀ ns' : List Int, ns'.Perm ns → ns'.Pairwise (· ≤ ·) → post (.py (.list (ns'.map PyData.int)))
  | _ => False
theorem cd_sorted : CallD K B (rSortedI K) cSorted := fun G H xs dxs post Q w r hf hq => by
  unfold cSorted at hf
  split at hf
  · cases r with
    | cons rx rn =>
      cases rn
      obtain ⟨ns, e, hf⟩ := hf
      obtain ⟨p, vs, rfl, h1, h2⟩ := rp_lst w rx e
      have := h2.ints; subst this
      refine ⟨p, ns, rfl, SqL.of h1, fun ns' l hp hs hl => ?_⟩
      exact hq _ _ _ _ (Stp.new w hl _) (Rp.ofDt (Dt.newL (w.sub.free hl) (DtAll.ofInts ns'))) (hf ns' hp hs)
  · exact hf.elim

/-! slices -/
def cutG {α : Type} (xs : List α) (lo hi : Option Int) : List α := (xs.drop (HT.sIx xs.length 0 lo)).take (HT.sIx xs.length xs.length hi - HT.sIx xs.length 0 lo)
theorem cut_all {G : Hp} {vs : List V} {ds : List PyData} {lo hi : Option Int} (h : DtAll K G vs ds) : DtAll K G (cutV vs lo hi) (cutG ds lo hi) := by
  unfold cutV cutG
  rw [h.length]
  exact (h.drop _).take _
abbrev DO := Slots → (Option Int → Prop) → Prop
def lO (K : Kf) (B : List Addr) (H0 : Hp) (d : DO) : TO := fun σ H Q => ∃ (G : Hp) (S : Slots) (post : Option Int → Prop), Sl K B H0 S σ G H ∧ d S post ∧ ∀ o G' H', Stp K B G H G' H' → post o → Q o H'
def dNo : DO := fun _ post => post none
def dPart (e : DE) : DO := fun S post => e S fun x => match x with
  | .py (.int i) => post (some i)
  | _ => False
theorem pdo_none : PO X none (lO X.K B H0 dNo) := ⟨fun pins s σ H Q I ⟨G, S, post, hs, hd, hq⟩ => po_none.run pins s σ H Q I (hq none G H (Stp.refl hs.wd) hd)⟩
theorem pdo_some {e : Expr} {de : DE} (h : PD X B H0 e de) : PO X (some e) (lO X.K B H0 (dPart de)) := ⟨fun pins s σ H Q I ⟨G, S, post, hs, hd, hq⟩ => (po_some h).run pins s σ H Q I ⟨G, S, _, hs, hd, fun v d G' H' s1 r1 p1 => by
  split at p1
  · cases r1; exact ⟨_, rfl, hq _ G' H' s1 p1⟩
  · exact p1.elim⟩⟩
def fSl : D → Option Int → Option Int → (D → Prop) → Prop := fun x lo hi post => match x with
  | .py (.list ds) => post (.py (.list (cutG ds lo hi)))
  | .ol ds => post (.py (.list (cutG ds lo hi)))
  | .py (.tuple ds) => post (.py (.tuple (cutG ds lo hi)))
  | _ => False
def dSl (e : DE) (l u : DO) : DE := fun S post => e S fun x => l S fun lo => u S fun hi => fSl x lo hi post
def rSlB (K : Kf) : V → Option Int → Option Int → Hp → VK → Prop := fun x lo hi H Q => rSlL K x lo hi H Q ∨ rSlA K x lo hi H Q
theorem sl_both : SlR X (rSlB X.K) := sl_list.or sl_tupA
theorem cutG_whole {α : Type} {xs : List α} {lo hi : Option Int} (h : HT.sIx xs.length 0 lo = 0 ∧ HT.sIx xs.length xs.length hi = xs.length) : cutG xs lo hi = xs := by
  unfold cutG
  rw [h.1, h.2, List.drop_zero, Nat.sub_zero, List.take_length]
theorem pd_slice {e : Expr} {de : DE} {lo hi : Option Expr} {dl du : DO} {p2 : Pos} (he : PD X B H0 e de) (hl : PO X lo (lO X.K B H0 dl)) (hu : PO X hi (lO X.K B H0 du)) : PD X B H0 (.Subscript e (.Slice lo hi none p2) pos) (dSl de dl du) :=
  PEmono (pe_slice sl_both he hl hu) fun σ H Q ⟨G, S, post, hs, hd, hq⟩ => by
    refine ⟨G, S, _, hs, hd, fun v d G1 H1 s1 r1 p1 => ⟨G1, S, _, hs.step s1, p1, fun l G2 H2 s2 p2 => ⟨G2, S, _, hs.step (s1.trans s2), p2, fun u G3 H3 s3 p3 => ?_⟩⟩⟩
    have r := Rp.up (s2.trans s3).toOld r1
    have st := s1.trans (s2.trans s3)
    have w := s3.wd
    unfold fSl at p3
    split at p3
    · cases r with
      | lst h1 h2 => exact .inl ⟨_, _, rfl, SqL.of (w.sub _ _ h1), fun p hp => hq _ _ _ _ (st.trans (Stp.new w hp _)) (Rp.ofDt (Dt.newL (w.sub.free hp) (cut_all h2))) p3⟩
    · obtain ⟨q, vs, rfl, _, h1, h2⟩ := r
      exact .inl ⟨_, _, rfl, SqL.of h1, fun p hp => hq _ _ _ _ (st.trans (Stp.new w hp _)) (Rp.ofDt (Dt.newL (w.sub.free hp) (cut_all h2))) p3⟩
    · next ds =>
      cases r with
      | tup h1 h2 =>
        refine .inr ⟨_, _, rfl, SqT.up w.sub h1, fun e => ?_, fun _ p hp => hq _ _ _ _ (st.trans (Stp.new w hp _)) (Rp.ofDt (Dt.newT (w.sub.free hp) (cut_all h2))) p3⟩
        rw [h2.length] at e
        rw [cutG_whole e] at p3
        exact hq _ (.py (.tuple ds)) G3 H3 st (Rp.ofDt (.tup h1 h2)) p3
    · exact p3.elim
end
end DL
/- ==== DLd ==== -/
/-! DLd: statements over data. -/
namespace DL
open PySem PySem.Spec PyProof.Rows L2

abbrev PDS (X : Cx) (B : List Addr) (H0 : Hp) (st : Stmt) (ds : DS) : Prop := PS X st (lS X.K B H0 ds)
abbrev PDSs (X : Cx) (B : List Addr) (H0 : Hp) (st : List Stmt) (ds : DS) : Prop := PSs X st (lS X.K B H0 ds)

def dSeq (a b : DS) : DS := fun E S => a { E with nx := b E } S
def dNext : DS := fun E S => E.nx S
def dBrk : DS := fun E S => E.bk S
def dCont : DS := fun E S => E.ct S
def dNever : DS := fun _ _ => False
def dIfS (c : DT) (a b : DS) : DS := fun E S => c S fun k => if k = true then a E S else b E S
def dRet (e : DE) : DS := fun E S => e S fun d => fre d (E.rt d)
def dRetV (i : Nat) : DS := fun E S => match S[i]? with
  | some (some (.ol ds)) => E.rt (.py (.list ds))
  | some (some (.od kvs)) => E.rt (.dic kvs)
  | some (some d) => E.rt d
  | _ => False
def dSet (i : Nat) (e : DE) : DS := fun E S => e S fun d => fre d (E.nx (S.set i (some d)))
def dSetL (i : Nat) : DS := fun E S => E.nx (S.set i (some (.ol [])))
def dSetD (i : Nat) : DS := fun E S => E.nx (S.set i (some (.od [])))
def dApp (i : Nat) (e : DE) : DS := fun E S => match S[i]? with
  | some (some (.ol ds)) => e S fun d => match d with
    | .py q => ds.length < 16000000 ∧ E.nx (S.set i (some (.ol (ds ++ [q]))))
    | _ => False
  | _ => False
def dDrop (e : DE) : DS := fun E S => e S fun _ => E.nx S
def dPar (i j : Nat) (a b : DE) : DS := fun E S => a S fun x => b S fun y => match x, y with
  | .py x, .py y => E.nx ((S.set i (some (.py x))).set j (some (.py y)))
  | _, _ => False
def dParL (i j : Nat) (a : DE) : DS := fun E S => a S fun x => match x with
  | .py x => E.nx ((S.set i (some (.py x))).set j (some (.ol [])))
  | _ => False
def dWhile (c : DT) (b : DS) : DS := fun E S => ∃ W : Nat → Slots → Prop, (∃ m, W m S) ∧ ∀ m S, W m S → c S fun k => if k = true then b { E with nx := fun S' => ∃ m', m' < m ∧ W m' S', ct := fun S' => ∃ m', m' < m ∧ W m' S', bk := E.nx } S else E.nx S

theorem Old.dom {K : Kf} {B : List Addr} {G0 H0 G H : Hp} (o : Old B G0 H0 G H) (w : Wd K B G H) {p : Addr} (hp : H p = none) : H0 p = none := by
  cases q : H0 p with
  | none => rfl
  | some u =>
    cases g : G0 p with
    | some v => have := w.sub _ _ (o.up _ _ g); rw [hp] at this; cases this
    | none =>
      by_cases hb : p ∈ B
      · obtain ⟨z, hz⟩ := (w.bags p hb).2.some; rw [hp] at hz; cases hz
      · have := (o.keep p u q g hb).1; rw [hp] at this; cases this
/-- an object that is not stable is laid -/
theorem Stp.lay {K : Kf} {B : List Addr} {G H : Hp} (w : Wd K B G H) {p : Addr} (hp : H p = none) (o : HO) : Stp K B G H G (upd H p o) := by
  have hg : G p = none := w.sub.free hp
  refine ⟨⟨fun _ _ h => h, fun a u h h' _ => ⟨by rw [upd_ne (ne_of_none h hp)]; exact h, h'⟩⟩, ⟨fun a u h => by rw [upd_ne (ne_of_none h hg)]; exact w.sub _ _ h, fun b hb => ?_⟩⟩
  obtain ⟨h1, h2⟩ := w.bags b hb
  obtain ⟨u, hu⟩ := h2.some
  exact ⟨h1, h2.up (fun _ _ h => h) (upd_ne (ne_of_none hu hp))⟩
theorem bag_ne {K : Kf} {B : List Addr} {G H : Hp} (w : Wd K B G H) {p : Addr} (hp : H p = none) : p ∉ B := fun hb => by
  obtain ⟨z, hz⟩ := (w.bags p hb).2.some; rw [hp] at hz; cases hz
/-- a new own object in slot i -/
theorem Sl.newOwn {K : Kf} {B : List Addr} {G0 H0 : Hp} {S : Slots} {σ : L2.St} {G H : Hp} (s : Sl K B H0 S σ G H) (o : Old B G0 H0 G H) (i : Nat) {p : Addr} (hp : H p = none) {u : HO} {d : D} (h : Rp K B G (upd H p u) d (.ref p)) :
    Sl K B H0 (S.set i (some d)) (σ.set i (some (.ref p))) G (upd H p u) ∧ Old B G0 H0 G (upd H p u) := by
  have st := Stp.lay s.wd hp u
  refine ⟨(s.step st).setOwn i h (o.dom s.wd hp) fun j dj hj oj ne e => ?_, o.trans st.toOld⟩
  obtain ⟨v, h1, h2, _⟩ := s.slot j dj hj
  rw [e] at h1; cases h1
  cases dj with
  | ol ds => obtain ⟨q, vs, e1, _, h3, _⟩ := h2; cases e1; rw [hp] at h3; cases h3
  | od ds => obtain ⟨q, vs, e1, _, h3, _⟩ := h2; cases e1; rw [hp] at h3; cases h3
  | _ => exact oj.elim
/-- an own object is given up: it stands still from now on -/
theorem release {K : Kf} {B : List Addr} {G0 H0 G H : Hp} (w : Wd K B G H) (o : Old B G0 H0 G H) {p : Addr} {u : HO} (hg : G p = none) (hb : p ∉ B) (hp : H p = some u) (h0 : H0 p = none) : Wd K B (upd G p u) H ∧ Old B G0 H0 (upd G p u) H := by
  refine ⟨⟨fun a z h => ?_, fun b hbb => ?_⟩, ⟨fun a z h => ?_, fun a z h h' hbb => ?_⟩⟩
  · by_cases e : a = p
    · subst e; rw [upd_same] at h; cases h; exact hp
    · rw [upd_ne e] at h; exact w.sub _ _ h
  · have ne : b ≠ p := fun e => hb (e ▸ hbb)
    obtain ⟨h1, h2⟩ := w.bags b hbb
    exact ⟨by rw [upd_ne ne]; exact h1, h2.up (Same.updN hg) rfl⟩
  · have := o.up _ _ h
    rw [upd_ne (ne_of_none this hg)]; exact this
  · have ne : a ≠ p := fun e => by subst e; rw [h0] at h; cases h
    rw [upd_ne ne]; exact o.keep a z h h' hbb
/-- an own object is changed -/
theorem Sl.write {K : Kf} {B : List Addr} {G0 H0 : Hp} {S : Slots} {σ : L2.St} {G H : Hp} (s : Sl K B H0 S σ G H) (o : Old B G0 H0 G H) (i : Nat) {p : Addr} {u : HO} {d d' : D} (hi : S[i]? = some (some d)) (hd : d.own) (hσ : σ[i]? = some (some (.ref p)))
    (hg : G p = none) (hb : p ∉ B) (h0 : H0 p = none) (h : Rp K B G (upd H p u) d' (.ref p)) (hd' : d'.own) : Sl K B H0 (S.set i (some d')) σ G (upd H p u) ∧ Old B G0 H0 G (upd H p u) := by
  refine ⟨⟨⟨fun a z h => by rw [upd_ne (ne_of_none h hg)]; exact s.wd.sub _ _ h, fun b hbb => ?_⟩, by rw [List.length_set]; exact s.len, fun j e hj => ?_, fun j k dj dk q hjk h1 h2 o1 o2 q1 q2 => ?_⟩, ⟨o.up, fun a z hz h' hbb => ?_⟩⟩
  · have ne : b ≠ p := fun e => hb (e ▸ hbb)
    obtain ⟨h1, h2⟩ := s.wd.bags b hbb
    exact ⟨h1, h2.up (fun _ _ h => h) (upd_ne ne)⟩
  · rcases set_get hj with ⟨rfl, e1, hl⟩ | ⟨ne, h2⟩
    · cases e1
      exact ⟨_, hσ, h, fun _ q e => by cases e; exact h0⟩
    · obtain ⟨v, k1, k2, k3⟩ := s.slot j e h2
      refine ⟨v, k1, ?_, k3⟩
      cases e with
      | py q => exact k2
      | raw q => exact k2
      | dic q => exact k2
      | ins p C q => exact k2
      | fn L => exact k2
      | ol ds =>
        obtain ⟨q, vs, rfl, w1, w2, w3⟩ := k2
        have nq : q ≠ p := fun z => by subst z; exact s.sep j i _ _ q (Ne.symm ne) h2 hi trivial hd k1 hσ
        exact ⟨q, vs, rfl, w1, by rw [upd_ne nq]; exact w2, w3⟩
      | od ds =>
        obtain ⟨q, vs, rfl, w1, w2, w3⟩ := k2
        have nq : q ≠ p := fun z => by subst z; exact s.sep j i _ _ q (Ne.symm ne) h2 hi trivial hd k1 hσ
        exact ⟨q, vs, rfl, w1, by rw [upd_ne nq]; exact w2, w3⟩
  · rcases set_get h1 with ⟨rfl, e1, hl⟩ | ⟨ne1, h1⟩
    · rcases set_get h2 with ⟨rfl, e2, hl⟩ | ⟨ne2, h2⟩
      · exact hjk rfl
      · exact s.sep _ k d dk q hjk hi h2 hd o2 q1 q2
    · rcases set_get h2 with ⟨rfl, e2, hl⟩ | ⟨ne2, h2⟩
      · exact s.sep j _ dj d q hjk h1 hi o1 hd q1 q2
      · exact s.sep j k dj dk q hjk h1 h2 o1 o2 q1 q2
  · have ne : a ≠ p := fun e => by subst e; rw [h0] at hz; cases hz
    rw [upd_ne ne]; exact o.keep a z hz h' hbb

section
variable {X : Cx} {B : List Addr} {H0 : Hp} {st : Stmt} {rest : List Stmt} {a b : DS} {da db de : DE} {ta : DT} {pos pos' : Pos} {e : Expr}
theorem psd_cons (h1 : PDS X B H0 st a) (h2 : PDSs X B H0 rest b) : PDSs X B H0 (st :: rest) (dSeq a b) := PSsmono (pss_cons h1 h2) fun D σ H ⟨G0, E, hn, q1, q2, q3, q4⟩ =>
  ⟨G0, { E with nx := b E }, hn, fun σ' H' z => ⟨G0, E, z, q1, q2, q3, q4⟩, q2, q3, q4⟩
theorem psd_one (h1 : PDS X B H0 st a) : PDSs X B H0 [st] a := pss_one h1
theorem psd_nil : PDSs X B H0 [] dNext := PSsmono pss_nil fun D σ H ⟨G0, E, hn, q1, q2, q3, q4⟩ => q1 σ H hn
theorem psd_brk : PDS X B H0 (.Break pos) dBrk := PSmono ps_break fun D σ H ⟨G0, E, hn, q1, q2, q3, q4⟩ => q3 σ H hn
theorem psd_cont : PDS X B H0 (.Continue pos) dCont := PSmono ps_continue fun D σ H ⟨G0, E, hn, q1, q2, q3, q4⟩ => q4 σ H hn
theorem psd_pass : PDS X B H0 (.Pass pos) dNext := PSmono ps_pass fun D σ H ⟨G0, E, hn, q1, q2, q3, q4⟩ => q1 σ H hn
theorem psd_never : PDS X B H0 st dNever := PSmono ps_never fun D σ H ⟨G0, E, ⟨_, _, _, _, z⟩, _⟩ => z
theorem psd_if {c : Expr} {s1 s2 : List Stmt} (hc : PDT X B H0 c ta) (h1 : PDSs X B H0 s1 a) (h2 : PDSs X B H0 s2 b) : PDS X B H0 (.If c s1 s2 pos) (dIfS ta a b) := PSmono (ps_if hc h1 h2) fun D σ H ⟨G0, E, ⟨G, S, hs, ho, hd⟩, q1, q2, q3, q4⟩ => by
  refine ⟨G, S, _, hs, hd, fun k G' H' s p => ?_⟩
  cases k with
  | true =>
    rw [if_pos rfl] at p ⊢
    exact ⟨G0, E, ⟨G', S, hs.step s, ho.trans s.toOld, p⟩, q1, q2, q3, q4⟩
  | false =>
    rw [if_neg Bool.false_ne_true] at p ⊢
    exact ⟨G0, E, ⟨G', S, hs.step s, ho.trans s.toOld, p⟩, q1, q2, q3, q4⟩
theorem psd_ret (h : PD X B H0 e de) : PDS X B H0 (.Return (some e) pos) (dRet de) := PSmono (ps_ret h) fun D σ H ⟨G0, E, ⟨G, S, hs, ho, hd⟩, q1, q2, q3, q4⟩ => by
  refine ⟨G, S, _, hs, hd, fun v d G' H' s r p => q2 v H' ⟨G', d, s.wd, ho.trans s.toOld, r, ?_⟩⟩
  cases d <;> first | exact p.elim | exact ⟨fun z => z.elim, p⟩
theorem psd_retN : PDS X B H0 (.Return none pos) (fun E S => E.rt (.py .none)) := PSmono ps_retN fun D σ H ⟨G0, E, ⟨G, S, hs, ho, hd⟩, q1, q2, q3, q4⟩ => q2 _ _ ⟨G, _, hs.wd, ho, Rp.non, fun z => z.elim, hd⟩
theorem psd_retV (i : Nat) {x : Str} {p : Pos} (hN : X.N[i]? = some x := by rfl) (hv : Vis X.env.scope x := by first | exact Or.inl rfl | exact Or.inr (Or.inl rfl) | exact Or.inr (Or.inr rfl)) (hd : (x == ("__debug__" : Str)) = false := by decide)
    (hcd : (x == ("__classdict__" : Str)) = false := by decide) : PDS X B H0 (.Return (some (.Name x p)) pos) (dRetV i) := PSmono (ps_ret (pe_var hN hv hd hcd)) fun D σ H ⟨G0, E, ⟨G, S, hs, ho, hd⟩, q1, q2, q3, q4⟩ => by
  unfold dRetV at hd
  split at hd
  · next ds e =>
    obtain ⟨v, h1, ⟨p, vs, rfl, w1, w2, w3⟩, h3⟩ := hs.slot i _ e
    obtain ⟨r1, r2⟩ := release hs.wd ho w1.1 w1.2 w2 (h3 trivial p rfl)
    exact ⟨_, h1, q2 _ _ ⟨_, _, r1, r2, Rp.ofDt (.lst upd_same (DtAll.up (Same.updN w1.1) w3)), fun z => z.elim, hd⟩⟩
  · next ds e =>
    obtain ⟨v, h1, ⟨p, vs, rfl, w1, w2, w3⟩, h3⟩ := hs.slot i _ e
    obtain ⟨r1, r2⟩ := release hs.wd ho w1.1 w1.2 w2 (h3 trivial p rfl)
    exact ⟨_, h1, q2 _ _ ⟨_, _, r1, r2, (show Rp X.K B (upd G p (.dK vs)) H (.dic ds) (.ref p) from ⟨p, vs, rfl, upd_same, KvR.up (Same.updN w1.1) w3⟩), fun z => z.elim, hd⟩⟩
  · next d _ _ e =>
    obtain ⟨v, h1, h2, h3⟩ := hs.slot i _ e
    exact ⟨v, h1, q2 _ _ ⟨G, _, hs.wd, ho, h2, h3, hd⟩⟩
  · exact hd.elim
theorem psd_drop (h : PD X B H0 e de) (hs : swapsWith e none pos.line X.env = pure false := by rfl) : PDS X B H0 (.Expr e pos) (dDrop de) := PSmono (ps_expr h hs) fun D σ H ⟨G0, E, ⟨G, S, hs, ho, hd⟩, q1, q2, q3, q4⟩ =>
  ⟨G, S, _, hs, hd, fun v d G' H' s r p => q1 _ _ ⟨G', S, hs.step s, ho.trans s.toOld, p⟩⟩
variable {x : Str}
theorem nset {K : Kf} {B : List Addr} {G0 H0 : Hp} {S : Slots} {σ : L2.St} {G H : Hp} (s : Sl K B H0 S σ G H) (o : Old B G0 H0 G H) (i : Nat) {d : D} {v : V} (r : Rp K B G H d v) {P : Slots → Prop} (p : fre d (P (S.set i (some d)))) :
    nxOf K B G0 H0 P (σ.set i (some v)) H := by
  cases d with
  | ol _ => exact p.elim
  | od _ => exact p.elim
  | py q => exact ⟨G, _, s.set i r (fun z => z), o, p⟩
  | raw q => exact ⟨G, _, s.set i r (fun z => z), o, p⟩
  | dic q => exact ⟨G, _, s.set i r (fun z => z), o, p⟩
  | ins p C q => exact ⟨G, _, s.set i r (fun z => z), o, p⟩
  | fn L => exact ⟨G, _, s.set i r (fun z => z), o, p⟩
theorem psd_set {i : Nat} (hN : X.N.Nodup) (hi : X.N[i]? = some x) (hx : Loc X.env.scope x) (he : PD X B H0 e de) (hs : swapsWith e (some (.Name x pos')) pos.line X.env = pure false := by rfl) (hf : X.fn x = true ∨ X.env.scope.names.lookup x = some .local := by first | exact .inl rfl | exact .inr rfl | assumption) :
    PDS X B H0 (.Assign [.Name x pos'] e pos) (dSet i de) := PSmono (ps_set hN hi hx he hs hf) fun D σ H ⟨G0, E, ⟨G, S, hs, ho, hd⟩, q1, q2, q3, q4⟩ =>
  ⟨G, S, _, hs, hd, fun v d G' H' s r p => q1 _ _ (nset (hs.step s) (ho.trans s.toOld) i r p)⟩
/-- a statement that stores an expression's value by a rule of its own -/
theorem psd_asg {te : TE} {i : Nat} {st : Stmt} (h : PS X st (tAsg te (gName i))) (hl : ∀ σ H Q, lE X.K B H0 de σ H Q → te σ H Q) : PDS X B H0 st (dSet i de) := PSmono h fun D σ H ⟨G0, E, ⟨G, S, hs, ho, hd⟩, q1, q2, q3, q4⟩ =>
  hl _ _ _ ⟨G, S, _, hs, hd, fun v d G' H' s r p => q1 _ _ (nset (hs.step s) (ho.trans s.toOld) i r p)⟩
theorem psd_setL {i : Nat} {p2 : Pos} (hN : X.N.Nodup) (hi : X.N[i]? = some x) (hx : Loc X.env.scope x) (hs : swapsWith (.List [] p2) (some (.Name x pos')) pos.line X.env = pure false := by rfl) (hf : X.fn x = true ∨ X.env.scope.names.lookup x = some .local := by first | exact .inl rfl | exact .inr rfl | assumption) :
    PDS X B H0 (.Assign [.Name x pos'] (.List [] p2) pos) (dSetL i) := PSmono (ps_set hN hi hx (pe_lst pa_nil) hs hf) fun D σ H ⟨G0, E, ⟨G, S, hs, ho, hd⟩, q1, q2, q3, q4⟩ =>
  ⟨sz1000 (Nat.zero_le _), fun p hp => by
    obtain ⟨h1, h2⟩ := hs.newOwn ho i hp (u := .lst []) (d := .ol []) ⟨p, [], rfl, ⟨hs.wd.sub.free hp, bag_ne hs.wd hp⟩, upd_same, .nil⟩
    exact q1 _ _ ⟨G, _, h1, h2, hd⟩⟩
theorem psd_setD {i : Nat} {p2 : Pos} (hN : X.N.Nodup) (hi : X.N[i]? = some x) (hx : Loc X.env.scope x) (hs : swapsWith (.Dict [] [] p2) (some (.Name x pos')) pos.line X.env = pure false := by rfl) (hf : X.fn x = true ∨ X.env.scope.names.lookup x = some .local := by first | exact .inl rfl | exact .inr rfl | assumption) :
    PDS X B H0 (.Assign [.Name x pos'] (.Dict [] [] p2) pos) (dSetD i) := PSmono (ps_set hN hi hx pe_dnewK hs hf) fun D σ H ⟨G0, E, ⟨G, S, hs, ho, hd⟩, q1, q2, q3, q4⟩ =>
  fun p hp => by
    obtain ⟨h1, h2⟩ := hs.newOwn ho i hp (u := .dK []) (d := .od []) ⟨p, [], rfl, ⟨hs.wd.sub.free hp, bag_ne hs.wd hp⟩, upd_same, .nil⟩
    exact q1 _ _ ⟨G, _, h1, h2, hd⟩
/-- xs.append(e), xs this frame's own -/
theorem psd_app {i : Nat} {p1 : Pos} {apos cpos : Pos} (hN : X.N[i]? = some x) (hv : Vis X.env.scope x) (hd : (x == ("__debug__" : Str)) = false) (hcd : (x == ("__classdict__" : Str)) = false) (he : PD X B H0 e de)
    (hp : ∀ {to : TE} {t : TA}, PE X (.Name x p1) to → PA X [e] t → PE X (.Call (.Attribute (.Name x p1) "append" apos) [e] [] cpos) (tBM X.K "list" rAppend to t)) (hs : swapsWith (.Call (.Attribute (.Name x p1) "append" apos) [e] [] cpos) none pos.line X.env = pure false)
    (hst : starEach [e] X.env = (false, eval e X.env) :: starEach [] X.env) : PDS X B H0 (.Expr (.Call (.Attribute (.Name x p1) "append" apos) [e] [] cpos) pos) (dApp i de) := PSmono (ps_expr (hp (pe_var hN hv hd hcd) (pa_cons he pa_nil hst)) hs) fun D σ H ⟨G0, E, ⟨G, S, hs, ho, hd⟩, q1, q2, q3, q4⟩ => by
  unfold dApp at hd
  split at hd
  · next ds e =>
    obtain ⟨v, h1, ⟨p, vs, rfl, w1, w2, w3⟩, h3⟩ := hs.slot i _ e
    refine ⟨_, h1, Or.inl ⟨rfl, _, SqL.of w2⟩, G, S, _, hs, hd, fun v d G' H' s r q => ?_⟩
    split at q
    · next q' =>
      have k := s.keep p _ w2 w1.1 w1.2
      refine ⟨p, vs, v, rfl, rfl, k.1, szL (by rw [w3.length]; exact q.1), ?_⟩
      obtain ⟨y1, y2⟩ := (hs.step s).write (ho.trans s.toOld) i e trivial h1 k.2 w1.2 (h3 trivial p rfl) (u := .lst (vs ++ [v])) (d' := .ol (ds ++ [q'])) ⟨p, _, rfl, ⟨k.2, w1.2⟩, upd_same, (DtAll.up s.up w3).append (.one r)⟩ trivial
      exact q1 _ _ ⟨G', _, y1, y2, q.2⟩
    · exact q.elim
  · exact hd.elim
/-- a, b = e1, e2: two local names -/
theorem psd_par {i j : Nat} {x y : Str} {a b : Expr} {px py pt : Pos} {kt k2 pt2} (hc : X.calm = true) (hN : X.N.Nodup) (hi : X.N[i]? = some x) (hj : X.N[j]? = some y) (hij : i ≠ j)
    (hx : X.env.scope.names.lookup x = some .local) (hy : X.env.scope.names.lookup y = some .local) (ha : PD X B H0 a da) (hb : PD X B H0 b db)
    (hw : swappedStores [.Tuple [.Name x px, .Name y py] kt pt] (.Tuple [a, b] k2 pt2) X.env = pure (some [x, y])) (s1 : starEach [a, b] X.env = (false, eval a X.env) :: starEach [b] X.env := by rfl) (s2 : starEach [b] X.env = (false, eval b X.env) :: starEach [] X.env := by rfl)
    (hs : swapsWithSole [.Tuple [.Name x px, .Name y py] kt pt] (.Tuple [a, b] k2 pt2) pos.line X.env = pure false := by rfl) :
    PDS X B H0 (.Assign [.Tuple [.Name x px, .Name y py] kt pt] (.Tuple [a, b] k2 pt2) pos) (dPar i j da db) := PSmono (ps_par hc hN hi hj hij hx hy (pa_cons ha (pa_cons hb pa_nil s2) s1) hw hs) fun D σ H ⟨G0, E, ⟨G, S, hs, ho, hd⟩, q1, q2, q3, q4⟩ =>
  ⟨G, S, _, hs, hd, fun v d G1 H1 s r p => ⟨G1, S, _, hs.step s, p, fun v2 d2 G2 H2 s2 r2 p2 => by
    refine ⟨v, v2, rfl, q1 _ _ ?_⟩
    split at p2
    · exact ⟨G2, _, ((hs.step (s.trans s2)).set i (Rp.up s2.toOld r) (fun z => z)).set j r2 (fun z => z), ho.trans (s.trans s2).toOld, p2⟩
    · exact p2.elim⟩⟩
theorem psd_parL {i j : Nat} {x y : Str} {a : Expr} {px py pt p2 : Pos} {kt k2 pt2} (hc : X.calm = true) (hN : X.N.Nodup) (hi : X.N[i]? = some x) (hj : X.N[j]? = some y) (hij : i ≠ j)
    (hx : X.env.scope.names.lookup x = some .local) (hy : X.env.scope.names.lookup y = some .local) (ha : PD X B H0 a da)
    (hw : swappedStores [.Tuple [.Name x px, .Name y py] kt pt] (.Tuple [a, .List [] p2] k2 pt2) X.env = pure (some [x, y])) (s1 : starEach [a, .List [] p2] X.env = (false, eval a X.env) :: starEach [.List [] p2] X.env := by rfl) (s2 : starEach [.List [] p2] X.env = (false, eval (.List [] p2) X.env) :: starEach [] X.env := by rfl)
    (hs : swapsWithSole [.Tuple [.Name x px, .Name y py] kt pt] (.Tuple [a, .List [] p2] k2 pt2) pos.line X.env = pure false := by rfl) :
    PDS X B H0 (.Assign [.Tuple [.Name x px, .Name y py] kt pt] (.Tuple [a, .List [] p2] k2 pt2) pos) (dParL i j da) := PSmono (ps_par hc hN hi hj hij hx hy (pa_cons ha (pa_cons (pe_lst pa_nil) pa_nil s2) s1) hw hs) fun D σ H ⟨G0, E, ⟨G, S, hs, ho, hd⟩, q1, q2, q3, q4⟩ =>
  ⟨G, S, _, hs, hd, fun v d G1 H1 s r p => ⟨sz1000 (Nat.zero_le _), fun q hq => by
    refine ⟨v, _, rfl, q1 _ _ ?_⟩
    split at p
    · have h1 := (hs.step s).set i r (fun z => z)
      obtain ⟨k1, k2⟩ := h1.newOwn (ho.trans s.toOld) j hq (u := .lst []) (d := .ol []) ⟨q, [], rfl, ⟨s.wd.sub.free hq, bag_ne s.wd hq⟩, upd_same, .nil⟩
      exact ⟨G1, _, k1, k2, p⟩
    · exact p.elim⟩⟩
theorem psd_while {c : Expr} {body : List Stmt} (hp : PassesOwn (model X.prog X.w) X.A X.env X.xe) (hc : PDT X B H0 c ta) (hb : PDSs X B H0 body b) : PDS X B H0 (.While c body [] pos) (dWhile ta b) := PSmono (ps_while hp hc hb) fun D σ H ⟨G0, E, ⟨G, S, hs, ho, W, ⟨m0, w0⟩, turn⟩, q1, q2, q3, q4⟩ => by
  refine ⟨fun m σ H => nxOf X.K B G0 H0 (W m) σ H, ⟨m0, G, S, hs, ho, w0⟩, fun m σ H ⟨G, S, hs, ho, hw⟩ => ?_⟩
  refine ⟨G, S, _, hs, turn m S hw, fun k G' H' s p => ?_⟩
  cases k with
  | true =>
    rw [if_pos rfl] at p ⊢
    refine ⟨fun σ' H' => nxOf X.K B G0 H0 (fun S' => ∃ m', m' < m ∧ W m' S') σ' H', fun σ' H' ⟨G, S, h1, h2, m', h3, h4⟩ => ⟨m', h3, G, S, h1, h2, h4⟩, ?_⟩
    exact ⟨G0, _, ⟨G', S, hs.step s, ho.trans s.toOld, p⟩, fun _ _ z => z, q2, q1, fun _ _ z => z⟩
  | false =>
    rw [if_neg Bool.false_ne_true] at p ⊢
    exact q1 _ _ ⟨G', S, hs.step s, ho.trans s.toOld, p⟩

/-! ### targets -/
abbrev DG := PyData → Slots → (Slots → Prop) → Prop
abbrev DGs := List PyData → Slots → (Slots → Prop) → Prop
def dgName (i : Nat) : DG := fun d S post => post (S.set i (some (.py d)))
def dgNil : DGs := fun ds S post => match ds with
  | [] => post S
  | _ => False
def dgCons (g : DG) (r : DGs) : DGs := fun ds S post => match ds with
  | d :: ds => g d S fun S' => r ds S' post
  | [] => False
def dgTup (r : DGs) : DG := fun d S post => match d with
  | .tuple ds => r ds S post
  | _ => False
/-- is: the slots that may change -/
def lG (K : Kf) (B : List Addr) (H0 : Hp) (is : List Nat) (dg : DG) : TG := fun v σ H Q => ∃ (G : Hp) (S : Slots) (d : PyData) (post : Slots → Prop), Sl K B H0 S σ G H ∧ Dt K G v d ∧ dg d S post ∧
  ∀ S' σ', Sl K B H0 S' σ' G H → σ'.length = σ.length → (∀ j, j ∉ is → σ'[j]? = σ[j]?) → post S' → Q σ' H
def lGs (K : Kf) (B : List Addr) (H0 : Hp) (is : List Nat) (dg : DGs) : TGs := fun vs σ H Q => ∃ (G : Hp) (S : Slots) (ds : List PyData) (post : Slots → Prop), Sl K B H0 S σ G H ∧ DtAll K G vs ds ∧ dg ds S post ∧
  ∀ S' σ', Sl K B H0 S' σ' G H → σ'.length = σ.length → (∀ j, j ∉ is → σ'[j]? = σ[j]?) → post S' → Q σ' H
abbrev PDG (X : Cx) (B : List Addr) (H0 : Hp) (is : List Nat) (tg : Expr) (g : DG) : Prop := PG X tg (lG X.K B H0 is g)
abbrev PDGs (X : Cx) (B : List Addr) (H0 : Hp) (is : List Nat) (tg : List Expr) (g : DGs) : Prop := PGs X tg (lGs X.K B H0 is g)
theorem PGmono {X : Cx} {e : Expr} {t t' : TG} (h : PG X e t) (m : ∀ v σ H Q, t' v σ H Q → t v σ H Q) : PG X e t' := ⟨fun pins s σ H x v Q I r q => h.run pins s σ H x v Q I r (m x σ H Q q)⟩
theorem PGsmono {X : Cx} {e : List Expr} {t t' : TGs} (h : PGs X e t) (m : ∀ v σ H Q, t' v σ H Q → t v σ H Q) : PGs X e t' := ⟨fun pins s σ H x v Q I r q => h.run pins s σ H x v Q I r (m x σ H Q q)⟩
theorem pdg_name {i : Nat} {pos : Pos} (hN : X.N.Nodup) (hi : X.N[i]? = some x) (hx : Loc X.env.scope x) (hf : X.fn x = true ∨ X.env.scope.names.lookup x = some .local := by first | exact .inl rfl | exact .inr rfl | assumption) : PDG X B H0 [i] (.Name x pos) (dgName i) :=
  PGmono (pg_name hN hi hx hf) fun v σ H Q ⟨G, S, d, post, hs, hd, hg, hq⟩ => hq _ _ (hs.set i (Rp.ofDt hd) (fun z => z)) (by rw [List.length_set]) (fun j hj => by rw [List.getElem?_set_ne]; intro e; exact hj (by rw [e]; exact List.mem_singleton.mpr rfl)) hg
theorem pdgs_nil : PDGs X B H0 [] [] dgNil := PGsmono pgs_nil fun v σ H Q ⟨G, S, ds, post, hs, hd, hg, hq⟩ => by
  unfold dgNil at hg
  split at hg
  · cases hd
    exact ⟨rfl, hq S σ hs rfl (fun _ _ => rfl) hg⟩
  · exact hg.elim
theorem pdgs_cons {e : Expr} {es : List Expr} {g : DG} {r : DGs} {is js : List Nat} (h1 : PDG X B H0 is e g) (h2 : PDGs X B H0 js es r) (hu : (assignEach (e :: es) X.env).map (·.2) = assign e X.env :: (assignEach es X.env).map (·.2) := by rfl) :
    PDGs X B H0 (is ++ js) (e :: es) (dgCons g r) := PGsmono (pgs_cons h1 h2 hu) fun v σ H Q ⟨G, S, ds, post, hs, hd, hg, hq⟩ => by
  unfold dgCons at hg
  split at hg
  · cases hd with
    | cons hd1 hd2 =>
      refine ⟨_, _, rfl, G, S, _, _, hs, hd1, hg, fun S' σ' hs' hl hj p => ⟨G, S', _, post, hs', hd2, p, fun S2 σ2 hs2 hl2 hj2 p2 => hq S2 σ2 hs2 (hl2.trans hl) (fun j hn => ?_) p2⟩⟩
      rw [hj2 j (fun z => hn (List.mem_append_right _ z)), hj j (fun z => hn (List.mem_append_left _ z))]
  · exact hg.elim
theorem pdg_tup {es : List Expr} {k : Nat} {r : DGs} {n : Nat} {is : List Nat} (hc : X.calm = true) (h : PDGs X B H0 is es r) (hn : ∀ {ds S post}, r ds S post → ds.length = n)
    (ha : (assignEach es X.env).length = n := by rfl) (hst : (assignEach es X.env).findIdx? (·.1) = none := by rfl) : PDG X B H0 is (.Tuple es k pos) (dgTup r) := PGmono (pg_tup hc h ha hst) fun v σ H Q ⟨G, S, d, post, hs, hd, hg, hq⟩ => by
  unfold dgTup at hg
  split at hg
  · cases hd with
    | tup t1 t2 => exact ⟨_, _, rfl, SqT.up hs.wd.sub t1, by rw [t2.length]; exact hn hg, G, S, _, post, hs, t2, hg, hq⟩
  · exact hg.elim
end
end DL
/- ==== DLe ==== -/
/-! DLe: loops, comprehensions, dicts, defs over data. -/
namespace DL
open PySem PySem.Spec PyProof.Rows L2 RZ

/-! ### what is walked -/
abbrev DI := Slots → (List PyData → Prop) → Prop
/-- an iterator that gives these, from G1 on -/
def ItD (K : Kf) (B : List Addr) (J : It) (ds : List PyData) (G1 : Hp) : Prop := ∀ (G H : Hp), Wd K B G H → Same G1 G → ∀ i : Nat, (ds[i]? = none → J.stop i H) ∧ ∀ d, ds[i]? = some d → J.go i H ∧ ∀ x H', J.yld i H x H' → ∃ G', Stp K B G H G' H' ∧ Dt K G' x d
def lI (K : Kf) (B : List Addr) (H0 : Hp) (di : DI) : TI := fun σ H R => ∃ (G : Hp) (S : Slots) (post : List PyData → Prop), Sl K B H0 S σ G H ∧ di S post ∧ ∀ J ds G' H', Stp K B G H G' H' → ItD K B J ds G' → post ds → R J H'
abbrev PDI (X : Cx) (B : List Addr) (H0 : Hp) (tg iter : Expr) (di : DI) : Prop := PI X tg iter (lI X.K B H0 di)
def diL (e : DE) : DI := fun S post => e S fun x => match x with
  | .py (.list ds) => post ds
  | _ => False
def diT (e : DE) : DI := fun S post => e S fun x => match x with
  | .py (.tuple ds) => post ds
  | _ => False
def diR1 (e : DE) : DI := fun S post => e S fun x => match x with
  | .py (.int n) => n < 2 ^ 61 ∧ -(2 ^ 61) < n ∧ post ((List.range n.toNat).map fun (i : Nat) => PyData.int (i : Int))
  | _ => False
def diR2 (a b : DE) : DI := fun S post => a S fun x => b S fun y => match x, y with
  | .py (.int lo), .py (.int hi) => (lo < 2 ^ 61 ∧ -(2 ^ 61) < lo ∧ hi < 2 ^ 61 ∧ -(2 ^ 61) < hi) ∧ post ((List.range (hi - lo).toNat).map fun (i : Nat) => PyData.int (lo + (i : Int)))
  | _, _ => False
def diS (e : DE) : DI := fun S post => e S fun x => match x with
  | .py (.str z) => post (z.cps.toList.map fun c => PyData.str ⟨#[c]⟩)
  | _ => False
/-- zip of two of one kind: pairs -/
def zipP (xs ys : List PyData) : List PyData := List.zipWith (fun x y => PyData.tuple [x, y]) xs ys
def diZ (a b : DE) : DI := fun S post => a S fun x => b S fun y => match x, y with
  | .py (.list xs), .py (.list ys) => post (zipP xs ys)
  | .py (.tuple xs), .py (.tuple ys) => post (zipP xs ys)
  | _, _ => False

theorem zipP_get (xs ys : List PyData) (i : Nat) : (zipP xs ys)[i]? = match xs[i]?, ys[i]? with
  | some x, some y => some (PyData.tuple [x, y])
  | _, _ => none := by
  unfold zipP
  rw [List.getElem?_zipWith]
  cases xs[i]? <;> cases ys[i]? <;> rfl
theorem none_len {G : Hp} {K : Kf} {vs : List V} {ds : List PyData} {i : Nat} (h : DtAll K G vs ds) (e : ds[i]? = none) : vs.length ≤ i := by
  rw [h.length]; exact List.getElem?_eq_none_iff.mp e
theorem itd_list {K : Kf} {B : List Addr} {a : Addr} {xs : List V} {ds : List PyData} {G1 : Hp} (h : G1 a = some (.lst xs)) (hd : DtAll K G1 xs ds) : ItD K B (Itl K a) ds G1 := fun G H w e i =>
  have q : SqL K H a xs := SqL.of (w.sub _ _ (e _ _ h))
  ⟨fun hn => ⟨xs, q, none_len hd hn⟩, fun d hi => by
    obtain ⟨v, hv, hdv⟩ := hd.getD hi
    refine ⟨⟨xs, v, q, hv⟩, fun x H' ⟨e1, e2⟩ => ?_⟩
    subst e1
    have := e2 xs q
    rw [hv] at this; cases this
    exact ⟨G, Stp.refl w, Dt.up e hdv⟩⟩
theorem itd_tup {K : Kf} {B : List Addr} {a : Addr} {xs : List V} {ds : List PyData} {G1 : Hp} (h : SqT K G1 a xs) (hd : DtAll K G1 xs ds) : ItD K B (Itt K a) ds G1 := fun G H w e i =>
  have q : SqT K H a xs := SqT.up w.sub (SqT.up e h)
  ⟨fun hn => ⟨xs, q, none_len hd hn⟩, fun d hi => by
    obtain ⟨v, hv, hdv⟩ := hd.getD hi
    refine ⟨⟨xs, v, q, hv⟩, fun x H' ⟨e1, e2⟩ => ?_⟩
    subst e1
    have := e2 xs q
    rw [hv] at this; cases this
    exact ⟨G, Stp.refl w, Dt.up e hdv⟩⟩
theorem itd_range {K : Kf} {B : List Addr} {lo : Int} {n : Nat} {G1 : Hp} : ItD K B (Itr lo n) ((List.range n).map fun (i : Nat) => PyData.int (lo + (i : Int))) G1 := fun G H w e i => by
  refine ⟨fun hn => ?_, fun d hi => ?_⟩
  · have := List.getElem?_eq_none_iff.mp hn
    rw [List.length_map, List.length_range] at this
    exact this
  · obtain ⟨hl, he⟩ := List.getElem?_eq_some_iff.mp hi
    rw [List.length_map, List.length_range] at hl
    rw [List.getElem_map, List.getElem_range] at he
    refine ⟨hl, fun x H' ⟨e1, e2⟩ => ?_⟩
    subst e1 e2 he
    exact ⟨G, Stp.refl w, .int _⟩
theorem itd_str {K : Kf} {B : List Addr} {z : Str} {G1 : Hp} : ItD K B (Its z) (z.cps.toList.map fun c => PyData.str ⟨#[c]⟩) G1 := fun G H w e i => by
  refine ⟨fun hn => ?_, fun d hi => ?_⟩
  · have := List.getElem?_eq_none_iff.mp hn
    rw [List.length_map, Array.length_toList] at this
    exact this
  · obtain ⟨hl, he⟩ := List.getElem?_eq_some_iff.mp hi
    rw [List.length_map, Array.length_toList] at hl
    rw [List.getElem_map, Array.getElem_toList] at he
    refine ⟨hl, fun x H' ⟨e1, c, e2, e3⟩ => ?_⟩
    subst e1 e3 he
    rw [Array.getElem?_eq_getElem hl] at e2
    cases e2
    exact ⟨G, Stp.refl w, .str _⟩
section
variable {X : Cx} {B : List Addr} {H0 : Hp} {tg e e2 iter : Expr} {de db : DE}
theorem pdi_list (h : PD X B H0 e de) : PDI X B H0 tg e (diL de) := PImono (pi_list h) fun σ H R ⟨G, S, post, hs, hd, hq⟩ => ⟨G, S, _, hs, hd, fun v d G' H' s r p => by
  split at p
  · cases r with
    | lst h1 h2 => exact ⟨_, rfl, ⟨_, SqL.of (s.wd.sub _ _ h1)⟩, hq _ _ G' H' s (itd_list h1 h2) p⟩
  · exact p.elim⟩
theorem pdi_tup (h : PD X B H0 e de) : PDI X B H0 tg e (diT de) := PImono (pi_tup h) fun σ H R ⟨G, S, post, hs, hd, hq⟩ => ⟨G, S, _, hs, hd, fun v d G' H' s r p => by
  split at p
  · cases r with
    | tup h1 h2 => exact ⟨_, rfl, ⟨_, SqT.up s.wd.sub h1⟩, hq _ _ G' H' s (itd_tup h1 h2) p⟩
  · exact p.elim⟩
theorem pdi_str (h : PD X B H0 e de) : PDI X B H0 tg e (diS de) := PImono (pi_str h) fun σ H R ⟨G, S, post, hs, hd, hq⟩ => ⟨G, S, _, hs, hd, fun v d G' H' s r p => by
  split at p
  · cases r; exact ⟨_, rfl, hq _ _ G' H' s itd_str p⟩
  · exact p.elim⟩
theorem pdi_range1 {p pos : Pos} (hg : Gl X "range") (hm : X.mg "range" = none) (ha : PD X B H0 e de) (hs : starEach [e] X.env = [(false, eval e X.env)] := by rfl) (hs' : starEach [e] X.env = (false, eval e X.env) :: starEach [] X.env := by rfl) : PDI X B H0 tg (.Call (.Name "range" p) [e] [] pos) (diR1 de) :=
  PImono (pi_range1 hg hm (pa_cons ha pa_nil hs') hs) fun σ H R ⟨G, S, post, hs, hd, hq⟩ => ⟨G, S, _, hs, hd, fun v d G' H' s r p => by
    split at p
    · next n =>
      cases r
      refine ⟨n, rfl, by have := p.2.1; omega, by have := p.1; omega, hq _ _ G' H' s ?_ p.2.2⟩
      have := itd_range (K := X.K) (B := B) (lo := 0) (n := n.toNat) (G1 := G')
      simp only [Int.zero_add] at this
      exact this
    · exact p.elim⟩
theorem pdi_range2 {p pos : Pos} (hg : Gl X "range") (hm : X.mg "range" = none) (ha : PD X B H0 e de) (hb : PD X B H0 e2 db) (hs : starEach [e, e2] X.env = [(false, eval e X.env), (false, eval e2 X.env)] := by rfl) (hs2 : starEach [e2] X.env = [(false, eval e2 X.env)] := by rfl)
    (k1 : starEach [e, e2] X.env = (false, eval e X.env) :: starEach [e2] X.env := by rfl) (k2 : starEach [e2] X.env = (false, eval e2 X.env) :: starEach [] X.env := by rfl) : PDI X B H0 tg (.Call (.Name "range" p) [e, e2] [] pos) (diR2 de db) :=
  PImono (pi_range2 hg hm (pa_cons ha (pa_cons hb pa_nil k2) k1) hs hs2) fun σ H R ⟨G, S, post, hs, hd, hq⟩ => ⟨G, S, _, hs, hd, fun v d G1 H1 s1 r1 p1 => ⟨G1, S, _, hs.step s1, p1, fun v2 d2 G' H' s r p => by
    split at p
    · next lo hi =>
      cases r1
      cases r
      refine ⟨lo, hi, rfl, ⟨by have := p.1.2.1; omega, by have := p.1.1; omega, by have := p.1.2.2.2; omega, by have := p.1.2.2.1; omega⟩, hq _ _ G' H' (s1.trans s) itd_range p.2⟩
    · exact p.elim⟩⟩
theorem zip_none {xs ys : List PyData} {i : Nat} (h : (zipP xs ys)[i]? = none) : xs[i]? = none ∨ ys[i]? = none := by
  rw [zipP_get] at h
  cases q : xs[i]? with
  | none => exact .inl rfl
  | some x =>
    cases q2 : ys[i]? with
    | none => exact .inr rfl
    | some y => rw [q, q2] at h; cases h
theorem zip_some {xs ys : List PyData} {i : Nat} {d : PyData} (h : (zipP xs ys)[i]? = some d) : ∃ x y, xs[i]? = some x ∧ ys[i]? = some y ∧ d = .tuple [x, y] := by
  rw [zipP_get] at h
  cases q : xs[i]? with
  | none => rw [q] at h; cases h
  | some x =>
    cases q2 : ys[i]? with
    | none => rw [q, q2] at h; cases h
    | some y => rw [q, q2] at h; cases h; exact ⟨x, y, rfl, rfl, rfl⟩
theorem itd_zipL {K : Kf} {a b : Addr} {xs ys : List V} {ds es : List PyData} {G1 : Hp} (h : G1 a = some (.lst xs)) (hd : DtAll K G1 xs ds) (h' : G1 b = some (.lst ys)) (hd' : DtAll K G1 ys es) : ItD K B (Itz K a b) (zipP ds es) G1 := fun G H w e i => by
  have q : SqL K H a xs := SqL.of (w.sub _ _ (e _ _ h))
  have q' : SqL K H b ys := SqL.of (w.sub _ _ (e _ _ h'))
  refine ⟨fun hn => ⟨xs, ys, q, q', ?_⟩, fun d hi => ?_⟩
  · rcases zip_none hn with z | z
    · exact .inl (none_len hd z)
    · exact .inr (none_len hd' z)
  · obtain ⟨x, y, hx, hy, rfl⟩ := zip_some hi
    obtain ⟨v, hv, dv⟩ := hd.getD hx
    obtain ⟨u, hu, du⟩ := hd'.getD hy
    refine ⟨⟨xs, ys, v, u, q, q', hv, hu⟩, fun x H' ⟨T, x', y', e1, hT, e2, f1, f2⟩ => ?_⟩
    subst e1 e2
    have k1 := f1 xs q; rw [hv] at k1; cases k1
    have k2 := f2 ys q'; rw [hu] at k2; cases k2
    exact ⟨_, Stp.new w hT _, Dt.newT (w.sub.free hT) (.cons (Dt.up e dv) (.cons (Dt.up e du) .nil))⟩
theorem itd_zipT {K : Kf} {a b : Addr} {xs ys : List V} {ds es : List PyData} {G1 : Hp} (h : SqT K G1 a xs) (hd : DtAll K G1 xs ds) (h' : SqT K G1 b ys) (hd' : DtAll K G1 ys es) : ItD K B (ItzT K a b) (zipP ds es) G1 := fun G H w e i => by
  have q : SqT K H a xs := SqT.up w.sub (SqT.up e h)
  have q' : SqT K H b ys := SqT.up w.sub (SqT.up e h')
  refine ⟨fun hn => ⟨xs, ys, q, q', ?_⟩, fun d hi => ?_⟩
  · rcases zip_none hn with z | z
    · exact .inl (none_len hd z)
    · exact .inr (none_len hd' z)
  · obtain ⟨x, y, hx, hy, rfl⟩ := zip_some hi
    obtain ⟨v, hv, dv⟩ := hd.getD hx
    obtain ⟨u, hu, du⟩ := hd'.getD hy
    refine ⟨⟨xs, ys, v, u, q, q', hv, hu⟩, fun x H' ⟨T, x', y', e1, hT, e2, f1, f2⟩ => ?_⟩
    subst e1 e2
    have k1 := f1 xs q; rw [hv] at k1; cases k1
    have k2 := f2 ys q'; rw [hu] at k2; cases k2
    exact ⟨_, Stp.new w hT _, Dt.newT (w.sub.free hT) (.cons (Dt.up e dv) (.cons (Dt.up e du) .nil))⟩
theorem pdi_zip {p pos tpos : Pos} {elts : List Expr} {kk : Nat} (hg : Gl X "zip") (hm : X.mg "zip" = none) (ha : PD X B H0 e de) (hb : PD X B H0 e2 db)
    (k1 : starEach [e, e2] X.env = (false, eval e X.env) :: starEach [e2] X.env := by rfl) (k2 : starEach [e2] X.env = (false, eval e2 X.env) :: starEach [] X.env := by rfl) (hpl : (backTo pos (starEach [e2] X.env)).any (·.1) = false := by rfl) :
    PDI X B H0 (.Tuple elts kk tpos) (.Call (.Name "zip" p) [e, e2] [] pos) (diZ de db) :=
  PImono (pi_zipA hg hm (pa_cons ha (pa_cons hb pa_nil k2) k1) k1 hpl) fun σ H R ⟨G, S, post, hs, hd, hq⟩ => ⟨G, S, _, hs, hd, fun v d G1 H1 s1 r1 p1 => ⟨G1, S, _, hs.step s1, p1, fun v2 d2 G' H' s r p => by
    have r1 := Rp.up s.toOld r1
    split at p
    · cases r1 with
      | lst h1 h2 =>
        cases r with
        | lst h3 h4 => exact ⟨_, _, _, _, rfl, .inl ⟨SqL.of (s.wd.sub _ _ h1), SqL.of (s.wd.sub _ _ h3), hq _ _ G' H' (s1.trans s) (itd_zipL h1 h2 h3 h4) p⟩⟩
    · cases r1 with
      | tup h1 h2 =>
        cases r with
        | tup h3 h4 => exact ⟨_, _, _, _, rfl, .inr ⟨SqT.up s.wd.sub h1, SqT.up s.wd.sub h3, hq _ _ G' H' (s1.trans s) (itd_zipT h1 h2 h3 h4) p⟩⟩
    · exact p.elim⟩⟩

/-! ### for -/
def dFor (di : DI) (g : DG) (b : DS) : DS := fun E S => di S fun ds => ∃ Iv : Nat → Slots → Prop, Iv 0 S ∧
  (∀ (i : Nat) (d : PyData) (S' : Slots), ds[i]? = some d → Iv i S' → g d S' fun S2 => b { E with nx := Iv (i + 1), ct := Iv (i + 1), bk := E.nx } S2) ∧ ∀ S', Iv ds.length S' → E.nx S'
theorem psd_for {body : List Stmt} {di : DI} {g : DG} {b : DS} {is : List Nat} {pos : Pos} (hp : PassesOwn (model X.prog X.w) X.A X.env X.xe) (hc : X.calm = true) (hi : PDI X B H0 tg iter di) (hg : PDG X B H0 is tg g) (hb : PDSs X B H0 body b)
    (hs : ∀ x, foldedSetIterable iter X.env x = pure x := by intro _; rfl) : PDS X B H0 (.For tg iter body [] pos) (dFor di g b) := PSmono (ps_for hp hc hi hg hb hs) fun D σ H ⟨G0, E, ⟨G, S, hs, ho, hd⟩, q1, q2, q3, q4⟩ => by
  refine ⟨G, S, _, hs, hd, fun J ds G1 H1 s1 it ⟨Iv, i0, turn, fin⟩ => ?_⟩
  refine ⟨fun i m σ H => m = ds.length - i ∧ i ≤ ds.length ∧ ∃ G S, Sl X.K B H0 S σ G H ∧ Old B G0 H0 G H ∧ Same G1 G ∧ Iv i S, ⟨ds.length, rfl, Nat.zero_le _, G1, S, hs.step s1, ho.trans s1.toOld, fun _ _ h => h, i0⟩, ?_⟩
  rintro i m σ H ⟨rfl, hi, G, S, hs, ho, hsame, hinv⟩
  obtain ⟨t1, t2⟩ := it G H hs.wd hsame i
  cases e : ds[i]? with
  | none =>
    have := List.getElem?_eq_none_iff.mp e
    have : i = ds.length := by omega
    subst this
    exact .inl ⟨t1 e, q1 _ _ ⟨G, S, hs, ho, fin S hinv⟩⟩
  | some d =>
    have hlt := (List.getElem?_eq_some_iff.mp e).1
    obtain ⟨g1, g2⟩ := t2 d e
    refine .inr ⟨g1, fun σ' H' => ∃ G S, Sl X.K B H0 S σ' G H' ∧ Old B G0 H0 G H' ∧ Same G1 G ∧ Iv (i + 1) S, fun σ' H' z => ⟨ds.length - (i + 1), by omega, rfl, hlt, z⟩, fun x H' y => ?_⟩
    obtain ⟨G2, s2, dx⟩ := g2 x H' y
    refine ⟨G2, S, d, _, hs.step s2, dx, turn i d S e hinv, fun S' σ' hs' _ _ p => ?_⟩
    refine ⟨G2, _, ⟨G2, S', hs', ?_, p⟩, fun σ3 H3 ⟨G3, S3, k1, k2, k3⟩ => ⟨G3, S3, k1, ?_, (hsame.trans s2.up).trans k2.up, k3⟩, fun v H3 ⟨G3, d3, k1, k2, k3, k4⟩ => q2 v H3 ⟨G3, d3, k1, ?_, k3, k4⟩, fun σ3 H3 ⟨G3, S3, k1, k2, k3⟩ => q1 σ3 H3 ⟨G3, S3, k1, ?_, k3⟩, fun σ3 H3 ⟨G3, S3, k1, k2, k3⟩ => ⟨G3, S3, k1, ?_, (hsame.trans s2.up).trans k2.up, k3⟩⟩
    · exact (ho.trans s2.toOld).self
    all_goals exact (ho.trans s2.toOld).andThen k2
end
end DL
/- ==== DLf ==== -/
/-! DLf: comprehensions, dicts, defs over data. -/
namespace DL
open PySem PySem.Spec PyProof.Rows L2 RZ

/-! ### comprehensions -/
def wipeS (S : Slots) : List Nat → Slots
  | [] => S
  | v :: vs => (wipeS S vs).set v none
def dLc (di : DI) (g : DG) (t : DT) (e : DE) (own : List Nat) : DE := fun S post => di S fun ds => ∃ Iv : Nat → List PyData → Prop, Iv 0 [] ∧
  (∀ (i : Nat) (d : PyData) (acc : List PyData), ds[i]? = some d → Iv i acc → g d (wipeS S own) fun S2 => t S2 fun b => if b = true then e S2 fun y => match y with
    | .py q => acc.length < 16000000 ∧ Iv (i + 1) (acc ++ [q])
    | _ => False
  else Iv (i + 1) acc) ∧ ∀ acc, Iv ds.length acc → post (.py (.list acc))
def dYes : DT := fun _ post => post true
theorem Sl.wipe {K : Kf} {B : List Addr} {H0 : Hp} {S : Slots} {σ : L2.St} {G H : Hp} (s : Sl K B H0 S σ G H) : ∀ vs : List Nat, Sl K B H0 (wipeS S vs) (L2.wipe σ vs) G H
  | [] => s
  | v :: vs => (s.wipe vs).clear v none
theorem wipe_eq {σ σ' : L2.St} {is : List Nat} (hl : σ'.length = σ.length) (h : ∀ j, j ∉ is → σ'[j]? = σ[j]?) : ∀ vs : List Nat, (∀ j, j ∈ is → j ∈ vs) → L2.wipe σ' vs = L2.wipe σ vs := fun vs hs => by
  have key : ∀ (vs : List Nat) (τ : L2.St) (j : Nat), (L2.wipe τ vs)[j]? = if j ∈ vs then (if j < τ.length then some none else none) else τ[j]? := by
    intro vs
    induction vs with
    | nil => intro τ j; simp [L2.wipe]
    | cons v vs ih =>
      intro τ j
      unfold L2.wipe
      by_cases e : v = j
      · subst e
        rw [if_pos List.mem_cons_self]
        by_cases hv : v < τ.length
        · rw [List.getElem?_set_self (by rw [L2.wipe_length]; exact hv), if_pos hv]
        · rw [List.getElem?_eq_none (by rw [List.length_set, L2.wipe_length]; omega), if_neg hv]
      · rw [List.getElem?_set_ne e, ih]
        by_cases m : j ∈ vs
        · rw [if_pos m, if_pos (List.mem_cons_of_mem _ m)]
        · rw [if_neg m, if_neg (fun z => (List.mem_cons.mp z).elim (fun q => e q.symm) m)]
  refine List.ext_getElem? fun j => ?_
  rw [key, key]
  by_cases m : j ∈ vs
  · rw [if_pos m, if_pos m, hl]
  · rw [if_neg m, if_neg m]
    exact h j fun z => m (hs j z)
section
variable {X : Cx} {B : List Addr} {H0 : Hp}
theorem lc_lift {di : DI} {g : DG} {t : DT} {e : DE} {own is : List Nat} (hio : ∀ j, j ∈ is → j ∈ own) {σ : L2.St} {H : Hp} {Q : VK} (h : lE X.K B H0 (dLc di g t e own) σ H Q) : tLc (lI X.K B H0 di) (lG X.K B H0 is g) (lT X.K B H0 t) (lE X.K B H0 e) own σ H Q := by
  obtain ⟨G, S, post, hs, hd, hq⟩ := h
  refine ⟨G, S, _, hs, hd, fun J ds G1 H1 s1 it ⟨Iv, i0, turn, fin⟩ D hD => ?_⟩
  have hDB := bag_ne s1.wd hD
  refine ⟨fun i m H2 => m = ds.length - i ∧ i ≤ ds.length ∧ ∃ G2 acc vs, Stp X.K B G1 H1 G2 H2 ∧ G2 D = none ∧ H2 D = some (.lst vs) ∧ DtAll X.K G2 vs acc ∧ Iv i acc, ⟨ds.length, rfl, Nat.zero_le _, G1, [], [], Stp.lay s1.wd hD _, s1.wd.sub.free hD, upd_same, .nil, i0⟩, ?_⟩
  rintro i m H2 ⟨rfl, hi, G2, acc, vs, s2, gD, hD2, da, hiv⟩
  obtain ⟨t1, t2⟩ := it G2 H2 s2.wd s2.up i
  cases eq : ds[i]? with
  | none =>
    have := List.getElem?_eq_none_iff.mp eq
    have : i = ds.length := by omega
    subst this
    refine .inl ⟨t1 eq, ?_⟩
    -- the list stands still from now on
    have hnew : Stp X.K B G1 H1 (upd G2 D (.lst vs)) H2 := by
      refine ⟨⟨fun a u h => ?_, fun a u h h' hb => ?_⟩, ⟨fun a u h => ?_, fun b hb => ?_⟩⟩
      · have := s2.up _ _ h
        rw [upd_ne (ne_of_none this gD)]; exact this
      · have ne : a ≠ D := ne_of_none h hD
        rw [upd_ne ne]; exact s2.keep a u h h' hb
      · by_cases z : a = D
        · subst z; rw [upd_same] at h; cases h; exact hD2
        · rw [upd_ne z] at h; exact s2.wd.sub _ _ h
      · have ne : b ≠ D := fun z => hDB (z ▸ hb)
        obtain ⟨k1, k2⟩ := s2.wd.bags b hb
        exact ⟨by rw [upd_ne ne]; exact k1, k2.up (Same.updN gD) rfl⟩
    exact hq _ _ _ _ (s1.trans hnew) (Rp.ofDt (.lst upd_same (DtAll.up (Same.updN gD) da))) (fin acc hiv)
  | some d =>
    have hlt := (List.getElem?_eq_some_iff.mp eq).1
    obtain ⟨g1, g2⟩ := t2 d eq
    refine .inr ⟨g1, fun H' => ∃ G2 acc vs, Stp X.K B G1 H1 G2 H' ∧ G2 D = none ∧ H' D = some (.lst vs) ∧ DtAll X.K G2 vs acc ∧ Iv (i + 1) acc, fun H' z => ⟨ds.length - (i + 1), by omega, rfl, hlt, z⟩, fun x H3 y => ?_⟩
    obtain ⟨G3, s3, dx⟩ := g2 x H3 y
    have st : Stp X.K B G1 H1 G3 H3 := s2.trans s3
    have k3 := s3.keep D _ hD2 gD hDB
    refine ⟨G3, wipeS S own, d, _, (hs.step (s1.trans st)).wipe own, dx, turn i d acc eq hiv, fun S' σ' hs' hl hj p => ⟨?_, G3, S', _, hs', p, fun b G4 H4 s4 p4 => ?_⟩⟩
    · have hw := wipe_eq hl hj own hio
      have : ∀ (vs : List Nat) (τ : L2.St), L2.wipe (L2.wipe τ vs) vs = L2.wipe τ vs := fun vs τ => by
        refine wipe_eq (is := vs) (L2.wipe_length τ vs) (fun j hn => ?_) vs fun _ z => z
        exact L2.wipe_out hn
      rw [hw, this]
    · have k4 := s4.keep D _ k3.1 k3.2 hDB
      cases b with
      | true =>
        rw [if_pos rfl] at p4
        refine iteT ?_
        refine ⟨G4, S', _, hs'.step s4, p4, fun v q G5 H5 s5 r5 p5 => ?_⟩
        have k5 := s5.keep D _ k4.1 k4.2 hDB
        split at p5
        · next q' =>
          refine ⟨vs, k5.1, szL (by rw [da.length]; exact p5.1), G5, acc ++ [q'], vs ++ [v], ?_, k5.2, upd_same, (DtAll.up (s3.trans (s4.trans s5)).up da).append (.one r5), p5.2⟩
          have s6 := st.trans (s4.trans s5)
          refine ⟨⟨s6.up, fun a u h h' hb => ?_⟩, ⟨fun a u h => ?_, fun b hb => ?_⟩⟩
          · have ne : a ≠ D := ne_of_none h hD
            rw [upd_ne ne]; exact s6.keep a u h h' hb
          · rw [upd_ne (ne_of_none h k5.2)]; exact s6.wd.sub _ _ h
          · have ne : b ≠ D := fun z => hDB (z ▸ hb)
            obtain ⟨y1, y2⟩ := s6.wd.bags b hb
            exact ⟨y1, y2.up (fun _ _ h => h) (upd_ne ne)⟩
        · exact p5.elim
      | false =>
        rw [if_neg Bool.false_ne_true] at p4
        refine iteF ?_
        exact ⟨G4, acc, vs, st.trans s4, k4.2, k4.1, DtAll.up (s3.trans s4).up da, p4⟩
theorem pd_lc {elt tg iter : Expr} {ifs : List Expr} {scope : Scope} {own : List (Str × Nat)} {is : List Nat} {pos : Pos} {di : DI} {g : DG} {t : DT} {e : DE} (hc : X.calm = true) (hN : X.N.Nodup) (hi : PDI X B H0 tg iter di) (ok : BlkOk X.N X.env.scope scope own)
    (hg : ∀ (s : Shared) (H : Hp) (C : Addr) (cl : List (Str × Addr)) (fp : List Addr), PDG (X.blk s H scope (compEnvC scope cl C X.env) fp) B H0 is tg g) (ht : ∀ (s : Shared) (H : Hp) (C : Addr) (cl : List (Str × Addr)) (fp : List Addr), PTs (X.blk s H scope (compEnvC scope cl C X.env) fp) ifs (lT X.K B H0 t))
    (he : ∀ (s : Shared) (H : Hp) (C : Addr) (cl : List (Str × Addr)) (fp : List Addr), PD (X.blk s H scope (compEnvC scope cl C X.env) fp) B H0 elt e) (hio : ∀ j, j ∈ is → j ∈ own.map (·.2) := by decide) (hs : ∀ x, foldedSetIterable iter X.env x = pure x := by intro _; rfl) :
    PD X B H0 (.ListComp elt [⟨tg, iter, ifs, 0⟩] scope pos) (dLc di g t e (own.map (·.2))) := PEmono (pe_lc hc hN hi ok hg ht he hs) fun _ _ _ h => lc_lift hio h
theorem psd_setLc {i : Nat} {y : Str} {py : Pos} {elt tg iter : Expr} {ifs : List Expr} {scope : Scope} {own : List (Str × Nat)} {is : List Nat} {pos spos : Pos} {di : DI} {g : DG} {t : DT} {e : DE} (hc : X.calm = true) (hN : X.N.Nodup) (hy : X.N[i]? = some y) (hyl : X.env.scope.names.lookup y = some .local)
    (hsw : swapsWith (.ListComp elt [⟨tg, iter, ifs, 0⟩] scope pos) (some (.Name y py)) spos.line X.env = pure true) (hi : PDI X B H0 tg iter di) (ok : BlkOk X.N X.env.scope scope own)
    (hg : ∀ (s : Shared) (H : Hp) (C : Addr) (cl : List (Str × Addr)) (fp : List Addr), PDG (X.blk s H scope (compEnvC scope cl C X.env) fp) B H0 is tg g) (ht : ∀ (s : Shared) (H : Hp) (C : Addr) (cl : List (Str × Addr)) (fp : List Addr), PTs (X.blk s H scope (compEnvC scope cl C X.env) fp) ifs (lT X.K B H0 t))
    (he : ∀ (s : Shared) (H : Hp) (C : Addr) (cl : List (Str × Addr)) (fp : List Addr), PD (X.blk s H scope (compEnvC scope cl C X.env) fp) B H0 elt e) (hio : ∀ j, j ∈ is → j ∈ own.map (·.2) := by decide) (hs : ∀ x, foldedSetIterable iter X.env x = pure x := by intro _; rfl) :
    PDS X B H0 (.Assign [.Name y py] (.ListComp elt [⟨tg, iter, ifs, 0⟩] scope pos) spos) (dSet i (dLc di g t e (own.map (·.2)))) :=
  psd_asg (ps_setLc hc hN hy hyl hsw hi ok hg ht he hs) fun _ _ _ h => lc_lift hio h
theorem ptd_nil : PTs X [] (lT X.K B H0 dYes) := ⟨fun pins s σ H Q I ⟨G, S, post, hs, hd, hq⟩ => wpAny_tests_nil ⟨H, I, hq true G H (Stp.refl hs.wd) hd⟩⟩
theorem ptd_one {c : Expr} {t : DT} (h : PDT X B H0 c t) : PTs X [c] (lT X.K B H0 t) := pts_one h

/-! ### dicts -/
section
variable {κ : Type} [DecidableEq κ]
def valD (kvs : List (κ × PyData)) (k : κ) : Option PyData := (kvs.find? fun p => decide (p.1 = k)).map (·.2)
def putD (kvs : List (κ × PyData)) (k : κ) (v : PyData) : List (κ × PyData) :=
  if (kvs.any fun kv => decide (kv.1 = k)) = true then kvs.map (fun kv => if kv.1 = k then (kv.1, v) else kv) else kvs ++ [(k, v)]
theorem kv_val {K : Kf} {G : Hp} {k : κ} : ∀ {vs : List (κ × V)} {kvs : List (κ × PyData)}, KvR K G vs kvs → (valV vs k = none ∧ valD kvs k = none) ∨ ∃ v d, valV vs k = some v ∧ valD kvs k = some d ∧ Dt K G v d
  | _, _, .nil => .inl ⟨rfl, rfl⟩
  | p :: ps, q :: qs, .cons r t => by
    have ih := kv_val (k := k) t
    by_cases e : q.1 = k
    · have e' : p.1 = k := r.1.trans e
      exact .inr ⟨p.2, q.2, by simp [valV, List.find?_cons, e'], by simp [valD, List.find?_cons, e], r.2⟩
    · have e' : ¬ p.1 = k := fun z => e (r.1.symm.trans z)
      have h1 : valV (p :: ps) k = valV ps k := valV_neg e'
      have h2 : ∀ l, valD (q :: l) k = valD l k := fun l => by simp [valD, List.find?_cons, e]
      rw [h1, h2]; exact ih
theorem kv_any {K : Kf} {G : Hp} {k : κ} : ∀ {vs : List (κ × V)} {kvs : List (κ × PyData)}, KvR K G vs kvs → (vs.any fun kv => decide (kv.1 = k)) = kvs.any fun kv => decide (kv.1 = k)
  | _, _, .nil => rfl
  | p :: _, q :: _, .cons r t => by rw [List.any_cons, List.any_cons, kv_any t, r.1]
theorem kv_map {K : Kf} {G : Hp} {k : κ} {v : V} {d : PyData} (h : Dt K G v d) : ∀ {vs : List (κ × V)} {kvs : List (κ × PyData)}, KvR K G vs kvs → KvR K G (vs.map fun kv => if kv.1 = k then (kv.1, v) else kv) (kvs.map fun kv => if kv.1 = k then (kv.1, d) else kv)
  | _, _, .nil => .nil
  | p :: _, q :: _, .cons r t => by
    refine .cons ?_ (kv_map h t)
    by_cases e : q.1 = k
    · have e' : p.1 = k := r.1.trans e
      dsimp only
      rw [if_pos e, if_pos e']; exact ⟨r.1, h⟩
    · have e' : ¬ p.1 = k := fun z => e (r.1.symm.trans z)
      dsimp only
      rw [if_neg e, if_neg e']; exact r
theorem kv_app {K : Kf} {G : Hp} {p : κ × V} {q : κ × PyData} (h : p.1 = q.1 ∧ Dt K G p.2 q.2) : ∀ {vs : List (κ × V)} {kvs : List (κ × PyData)}, KvR K G vs kvs → KvR K G (vs ++ [p]) (kvs ++ [q])
  | _, _, .nil => .cons h .nil
  | _ :: _, _ :: _, .cons r t => .cons r (kv_app h t)
theorem kv_put {K : Kf} {G : Hp} {k : κ} {v : V} {d : PyData} (h : Dt K G v d) {vs : List (κ × V)} {kvs : List (κ × PyData)} (r : KvR K G vs kvs) : KvR K G (putK vs k v) (putD kvs k d) := by
  unfold putK putD
  rw [kv_any r]
  by_cases e : (kvs.any fun kv => decide (kv.1 = k)) = true
  · rw [if_pos e, if_pos e]; exact kv_map h r
  · rw [if_neg e, if_neg e]; exact kv_app ⟨rfl, h⟩ r
theorem kv_len {K : Kf} {G : Hp} {vs : List (κ × V)} {kvs : List (κ × PyData)} (r : KvR K G vs kvs) : vs.length = kvs.length := Paired.length r
end
def keyD : D → Option Key
  | .py (.int n) => some (.inl n)
  | .py (.str z) => some (.inr z)
  | _ => none
def D.kvs : D → Option (List (Key × PyData))
  | .od k => some k
  | .dic k => some k
  | _ => none
theorem rp_key {K : Kf} {B : List Addr} {G H : Hp} {d : D} {v : V} {k : Key} (h : Rp K B G H d v) (e : keyD d = some k) : v = kV k := by
  cases d with
  | py q => cases q with
    | int n => cases e; cases h; rfl
    | str n => cases e; cases h; rfl
    | _ => cases e
  | _ => cases e
theorem rp_kvs {K : Kf} {B : List Addr} {G H : Hp} (w : Wd K B G H) {d : D} {v : V} {kvs : List (Key × PyData)} (h : Rp K B G H d v) (e : d.kvs = some kvs) : ∃ p vs, v = .ref p ∧ H p = some (.dK vs) ∧ KvR K G vs kvs := by
  cases d with
  | od k => cases e; obtain ⟨p, vs, rfl, _, h1, h2⟩ := h; exact ⟨p, vs, rfl, h1, h2⟩
  | dic k => cases e; obtain ⟨p, vs, rfl, h1, h2⟩ := h; exact ⟨p, vs, rfl, w.sub _ _ h1, h2⟩
  | _ => cases e
/-- d[k], it is there -/
def fDix : D → D → (D → Prop) → Prop := fun x y post => match x.kvs, keyD y with
  | some kvs, some k => match valD kvs k with
    | some q => post (.py q)
    | none => False
  | _, _ => False
def dDix (a b : DE) : DE := fun S post => a S fun x => b S fun y => fDix x y post
/-- d.get(k, z) -/
def dDget (a b c : DE) : DE := fun S post => a S fun x => match x.kvs with
  | some kvs => b S fun y => c S fun z => match keyD y with
    | some k => match valD kvs k with
      | some q => post (.py q)
      | none => post z
    | none => False
  | none => False
/-- k in d -/
def dDin (b a : DE) : DE := fun S post => b S fun y => a S fun x => match x.kvs, keyD y with
  | some kvs, some k => post (.py (.bool (valD kvs k).isSome))
  | _, _ => False
def dPut (i : Nat) (k v : DE) : DS := fun E S => match S[i]? with
  | some (some (.od kvs)) => v S fun dv => k S fun dk => match dv, keyD dk with
    | .py q, some key => kvs.length < 16000000 ∧ E.nx (S.set i (some (.od (putD kvs key q))))
    | _, _ => False
  | _ => False
variable {o i e f : Expr} {da db dc : DE} {pos apos cpos pos' : Pos}
theorem pd_dix (hu : X.A.units + 1 < cLine) (ho : PD X B H0 o da) (hi : PD X B H0 i db) (hs : NoSl i := by exact fun _ _ => rfl) : PD X B H0 (.Subscript o i pos) (dDix da db) := PEmono (pe_dget hu ho hi hs) fun σ H Q ⟨G, S, post, hs, hd, hq⟩ => by
  refine ⟨G, S, _, hs, hd, fun v d G1 H1 s1 r1 p1 => ⟨G1, S, _, hs.step s1, p1, fun v2 d2 G2 H2 s2 r2 p2 => ?_⟩⟩
  have r1 := Rp.up s2.toOld r1
  unfold fDix at p2
  split at p2
  · next kvs k e1 e2 =>
    obtain ⟨p, vs, rfl, h1, h2⟩ := rp_kvs s2.wd r1 e1
    cases rp_key r2 e2
    split at p2
    · next q eq =>
      rcases kv_val (k := k) h2 with ⟨_, z⟩ | ⟨v, d, z1, z2, z3⟩
      · rw [eq] at z; cases z
      · rw [eq] at z2; cases z2
        exact ⟨p, v, rfl, by rw [← z1]; exact DGet.k h1, hq _ (.py q) G2 H2 (s1.trans s2) z3 p2⟩
    · exact p2.elim
  · exact p2.elim
theorem pd_dget (hu : X.A.units + 1 < cLine) (ho : PD X B H0 o da) (he : PD X B H0 e db) (hf : PD X B H0 f dc) (m : M2 X o "get" apos e f cpos) : PD X B H0 (.Call (.Attribute o "get" apos) [e, f] [] cpos) (dDget da db dc) := PEmono (pe_dget2 hu ho he hf m) fun σ H Q ⟨G, S, post, hs, hd, hq⟩ => by
  refine ⟨G, S, _, hs, hd, fun v d G1 H1 s1 r1 p1 => ?_⟩
  split at p1
  · next kvs ek =>
    obtain ⟨p, vs, rfl, h1, h2⟩ := rp_kvs s1.wd r1 ek
    refine ⟨p, rfl, .inl ⟨vs, .inl h1⟩, G1, S, _, hs.step s1, p1, fun v2 d2 G2 H2 s2 r2 p2 => ⟨G2, S, _, hs.step (s1.trans s2), p2, fun v3 d3 G3 H3 s3 r3 p3 => ?_⟩⟩
    split at p3
    · next k e2 =>
      cases rp_key r2 e2
      have r1 := Rp.up (s2.trans s3).toOld r1
      obtain ⟨p', vs', ep, h1, h2⟩ := rp_kvs s3.wd r1 ek
      cases ep
      refine ⟨_, DGet.k h1, ?_⟩
      split at p3
      · next q eq =>
        rcases kv_val (k := k) h2 with ⟨_, z⟩ | ⟨v, d, z1, z2, z3⟩
        · rw [eq] at z; cases z
        · rw [eq] at z2; cases z2
          rw [z1]
          exact hq v (.py q) G3 H3 (s1.trans (s2.trans s3)) z3 p3
      · next eq =>
        rcases kv_val (k := k) h2 with ⟨z, _⟩ | ⟨v, d, z1, z2, z3⟩
        · rw [z]; exact hq v3 d3 G3 H3 (s1.trans (s2.trans s3)) r3 p3
        · rw [eq] at z2; cases z2
    · exact p3.elim
  · exact p1.elim
theorem din_lift {σ : L2.St} {H : Hp} {Q : VK} (h : lE X.K B H0 (dDin db da) σ H Q) : tDIn (lE X.K B H0 db) (lE X.K B H0 da) σ H Q := by
  obtain ⟨G, S, post, hs, hd, hq⟩ := h
  refine ⟨G, S, _, hs, hd, fun v d G1 H1 s1 r1 p1 => ⟨G1, S, _, hs.step s1, p1, fun v2 d2 G2 H2 s2 r2 p2 => ?_⟩⟩
  have r1 := Rp.up s2.toOld r1
  split at p2
  · next kvs k e1 e2 =>
    obtain ⟨p, vs, rfl, h1, h2⟩ := rp_kvs s2.wd r2 e1
    cases rp_key r1 e2
    refine ⟨p, _, rfl, DGet.k h1, ?_⟩
    rcases kv_val (k := k) h2 with ⟨z1, z2⟩ | ⟨v, d, z1, z2, z3⟩
    · rw [z2] at p2; rw [z1]; exact hq _ _ G2 H2 (s1.trans s2) (Rp.bl _) p2
    · rw [z2] at p2; rw [z1]; exact hq _ _ G2 H2 (s1.trans s2) (Rp.bl _) p2
  · exact p2.elim
theorem pd_din (hu : X.A.units + 1 < cLine) (hi : PD X B H0 i db) (ho : PD X B H0 o da) (h1 : behindInMarks .In o = false := by first | exact nobehind _ (by decide) (by decide) | rfl) : PD X B H0 (.Compare i [.In] [o] pos) (dDin db da) := PEmono (pe_cmp (pc_din hu hi ho) h1) fun _ _ _ h => din_lift h
theorem pdt_din (hu : X.A.units + 1 < cLine) (hi : PD X B H0 i db) (ho : PD X B H0 o da) (h1 : behindInMarks .In o = false := by first | exact nobehind _ (by decide) (by decide) | rfl) : PDT X B H0 (.Compare i [.In] [o] pos) (dB (dDin db da)) := PTmono (pt_cmp (pc_din hu hi ho) h1) fun _ _ _ h => liftB (fun _ _ _ z => din_lift z) h
theorem psd_put {i : Nat} {x : Str} {p1 : Pos} {ek ev : Expr} {dk dv : DE} (hu : X.A.units + 1 < cLine) (hN : X.N[i]? = some x) (hv : Vis X.env.scope x) (hd : (x == ("__debug__" : Str)) = false) (hcd : (x == ("__classdict__" : Str)) = false) (hk : PD X B H0 ek dk) (hval : PD X B H0 ev dv)
    (hs : swapsWith ev (some (.Subscript (.Name x p1) ek pos')) pos.line X.env = pure false := by rfl) : PDS X B H0 (.Assign [.Subscript (.Name x p1) ek pos'] ev pos) (dPut i dk dv) := PSmono (ps_dput hu (pe_var hN hv hd hcd) hk hval hs) fun D σ H ⟨G0, E, ⟨G, S, hs, ho, hd⟩, q1, q2, q3, q4⟩ => by
  unfold dPut at hd
  split at hd
  · next kvs es =>
    obtain ⟨v0, h1, ⟨p, vs, rfl, w1, w2, w3⟩, h3⟩ := hs.slot i _ es
    refine ⟨G, S, _, hs, hd, fun v d G1 H1 s1 r1 p1 => ⟨_, h1, G1, S, _, hs.step s1, p1, fun v2 d2 G2 H2 s2 r2 p2 => ?_⟩⟩
    have st := s1.trans s2
    have r1 := Rp.up s2.toOld r1
    split at p2
    · next _ _ _ q key ek _ =>
      cases rp_key r2 ek
      have k := st.keep p _ w2 w1.1 w1.2
      refine ⟨p, _, rfl, DPut.k k.1 (szL (by rw [kv_len w3]; exact p2.1)), ?_⟩
      obtain ⟨y1, y2⟩ := (hs.step st).write (ho.trans st.toOld) i es trivial h1 k.2 w1.2 (h3 trivial p rfl) (u := .dK (putK vs key v)) (d' := .od (putD kvs key q)) ⟨p, _, rfl, ⟨k.2, w1.2⟩, upd_same, kv_put r1 (KvR.up st.up w3)⟩ trivial
      exact q1 _ _ ⟨G2, _, y1, y2, p2.2⟩
    · exact p2.elim
  · exact hd.elim
end

/-! ### a def by its reading over data -/
theorem rpall_get {K : Kf} {B : List Addr} {G H : Hp} : ∀ {ds : List D} {vs : List V} {i : Nat} {d : D}, RpAll K B G H ds vs → ds[i]? = some d → ∃ v, vs[i]? = some v ∧ Rp K B G H d v
  | _, _, _, _, .nil, e => by simp at e
  | _, _, 0, _, .cons h _, e => by
    simp at e; subst e; exact ⟨_, rfl, h⟩
  | _, _, i + 1, d, .cons _ t, e => by
    obtain ⟨v, h1, h2⟩ := rpall_get (i := i) (d := d) t (by simpa using e)
    exact ⟨v, by simpa using h1, h2⟩
/-- the slots at the entry -/
def startS (n : Nat) (ds : List D) : Slots := ds.map some ++ List.replicate (n - ds.length) none
theorem sl_start {K : Kf} {B : List Addr} {N : List Str} {G H : Hp} {ds : List D} {vs : List V} (w : Wd K B G H) (r : RpAll K B G H ds vs) (hf : ∀ d ∈ ds, ¬ d.own) : Sl K B H (startS N.length ds) (L2.start N vs) G H := by
  have hl := r.length
  refine ⟨w, ?_, fun i d h => ?_, fun i j di dj p _ h1 _ o1 _ => ?_⟩
  · unfold startS L2.start
    rw [List.length_append, List.length_append, List.length_map, List.length_map, List.length_replicate, List.length_replicate, hl]
  all_goals
    have key : ∀ (i : Nat) (d : D), (startS N.length ds)[i]? = some (some d) → ds[i]? = some d := fun i d h => by
      unfold startS at h
      by_cases hi : i < ds.length
      · rw [List.getElem?_append_left (by simpa using hi), List.getElem?_map] at h
        cases q : ds[i]? with
        | none => rw [q] at h; cases h
        | some z => rw [q] at h; cases h; rfl
      · rw [List.getElem?_append_right (by simpa using hi), List.getElem?_replicate] at h
        split at h <;> cases h
  · have h := key i d h
    obtain ⟨v, h1, h2⟩ := rpall_get r h
    refine ⟨v, ?_, h2, fun o => (hf d (List.mem_of_getElem? h) o).elim⟩
    unfold L2.start
    have hi : i < vs.length := (List.getElem?_eq_some_iff.mp h1).1
    rw [List.getElem?_append_left (by simpa using hi), List.getElem?_map, h1]; rfl
  · exact fun _ _ => hf di (List.mem_of_getElem? (key i di h1)) o1
section
variable {P : Program} {w : World} {K : Kf} {mg : Str → Option Value} {base : Heap}
/-- THE RULE: a def's body over data -/
theorem okD {x qual : Str} {params : Arguments} {body : List Stmt} {scope : Scope} {f : Addr} {fd : FuncData} {N ps : List Str} {k : Nat} {C : Ct} (F : FunD K x qual params body scope [] [] f fd) (S : FnScope N ps scope) (len : ∀ B ds post, C B ds post → ds.length = ps.length ∧ ∀ d ∈ ds, ¬ d.own)
    (hbody : ∀ (cdv : Value) (A : Around) (outer : List Env) (s : Shared) (H : Hp) (E : XK) (B : List Addr) (ds : List D) (post : D → Prop), Room k (A.deeper (envOfC qual scope s.heap.objs.size f cdv)) → C B ds post →
      ∃ t, PDSs (cxOf CX0 P w K mg base N qual scope f cdv A outer s H E).nox B H body t ∧ t { nx := fun _ => post (.py .none), rt := post } (startS N.length ds)) : FnOk P w K mg base CX0 (k + 1) f fd ps (spD K C) := by
  refine F.ok S (fun vs H Q E h => ?_) (fun cdv A outer s H vs Q E hr h => ?_)
  · obtain ⟨B, G, ds, post, _, r, c, _⟩ := h
    rw [← r.length]; exact (len B ds post c).1
  · obtain ⟨B, G, ds, post, wd, r, c, hq⟩ := h
    obtain ⟨t, ht, q⟩ := hbody cdv A outer s H E B ds post hr c
    refine ⟨_, ht.nox, ⟨G, _, ⟨G, _, sl_start wd r (len B ds post c).2, Old.refl, q⟩, fun σ' H' ⟨G', S', h1, h2, h3⟩ => ?_, fun v H' ⟨G', d, h1, h2, h3, _, h4⟩ => ?_, fun _ _ ⟨_, _, _, _, z⟩ => z, fun _ _ ⟨_, _, _, _, z⟩ => z⟩⟩
    · exact hq .non (.py .none) G' H' ⟨h2, h1.wd⟩ Rp.non h3
    · exact hq v d G' H' ⟨h2, h1⟩ h3 h4
end
end DL
/- ==== DLg ==== -/
/-! DLg: the names of the top, calls in short. -/
namespace DL
open PySem PySem.Spec PyProof.Rows L2 RZ

/-- the built-in names that the top leaves alone -/
structure Bl (mg : Str → Option Value) : Prop where
  len : mg "len" = none
  range : mg "range" = none
  int : mg "int" = none
  bool : mg "bool" = none
  str : mg "str" = none
  list : mg "list" = none
  tuple : mg "tuple" = none
  set : mg "set" = none
  max : mg "max" = none
  min : mg "min" = none
  sum : mg "sum" = none
  all : mg "all" = none
  any : mg "any" = none
  sorted : mg "sorted" = none
  zip : mg "zip" = none
  enumerate : mg "enumerate" = none
  isinstance : mg "isinstance" = none
  repr : mg "repr" = none
  ValueError : mg "ValueError" = none
def blNames : List Str := ["len", "range", "int", "bool", "str", "list", "tuple", "set", "max", "min", "sum", "all", "any", "sorted", "zip", "enumerate", "isinstance", "repr", "ValueError"]
theorem bo_len : bootBuiltins "len" = some (.builtin "len") := by decide +kernel
theorem bo_int : bootBuiltins "int" = some (.type "int") := by decide +kernel
theorem bo_bool : bootBuiltins "bool" = some (.type "bool") := by decide +kernel
theorem bo_str : bootBuiltins "str" = some (.type "str") := by decide +kernel
theorem bo_list : bootBuiltins "list" = some (.type "list") := by decide +kernel
theorem bo_tuple : bootBuiltins "tuple" = some (.type "tuple") := by decide +kernel
theorem bo_max : bootBuiltins "max" = some (.builtin "max") := by decide +kernel
theorem bo_min : bootBuiltins "min" = some (.builtin "min") := by decide +kernel
theorem bo_sum : bootBuiltins "sum" = some (.builtin "sum") := by decide +kernel
theorem bo_all : bootBuiltins "all" = some (.builtin "all") := by decide +kernel
theorem bo_any : bootBuiltins "any" = some (.builtin "any") := by decide +kernel
theorem bo_sorted : bootBuiltins "sorted" = some (.builtin "sorted") := by decide +kernel
theorem bo_isinstance : bootBuiltins "isinstance" = some (.builtin "isinstance") := by decide +kernel
theorem bo_repr : bootBuiltins "repr" = some (.builtin "repr") := by decide +kernel

/-- a def of the top as it stands -/
def Def (K : Kf) (mg : Str → Option Value) (x : Str) (st : Stmt) : Prop := ∃ (f : Addr) (fd : FuncData), mg x = some (.ref f) ∧ FunD K x x (defArgs st) (defBody st) (defScope st) [] [] f fd
/-- a def that may be called, by its contract -/
def Cal (P : Program) (w : World) (K : Kf) (mg : Str → Option Value) (base : Heap) (x : Str) (ps : List Str) (k : Nat) (C : Ct) : Prop := ∃ (f : Addr) (fd : FuncData), mg x = some (.ref f) ∧ FnOk P w K mg base CX0 k f fd ps (spD K C) ∧ PySem.W.keepIn K (.ref f) = true ∧ Binds K fd ps []
theorem calD {P : Program} {w : World} {K : Kf} {mg : Str → Option Value} {base : Heap} {x : Str} {st : Stmt} {N ps : List Str} {k : Nat} {C : Ct} (d : Def K mg x st) (S : FnScope N ps (defScope st)) (len : ∀ B ds post, C B ds post → ds.length = ps.length ∧ ∀ d ∈ ds, ¬ d.own)
    (hb : ∀ (dV kV doc pm : Value) (an : Option Addr) (cdv ct : Value) (us : List Value), us.length = ps.length → bindArgs (PySem.W.fnOf x x (defArgs st) (defBody st) (defScope st) .none kV doc pm an cdv ct) ⟨us, []⟩ = pure (ps.zip us))
    (hbody : ∀ (f : Addr) (cdv : Value) (A : Around) (outer : List Env) (s : Shared) (H : Hp) (E : XK) (B : List Addr) (ds : List D) (post : D → Prop), Room k (A.deeper (envOfC x (defScope st) s.heap.objs.size f cdv)) → C B ds post →
      ∃ t, PDSs (cxOf CX0 P w K mg base N x (defScope st) f cdv A outer s H E).nox B H (defBody st) t ∧ t { nx := fun _ => post (.py .none), rt := post } (startS N.length ds)) : Cal P w K mg base x ps (k + 1) C := by
  obtain ⟨f, fd, hm, F⟩ := d
  refine ⟨f, fd, hm, okD F S len (fun cdv A outer s H E B ds post hr c => hbody f cdv A outer s H E B ds post hr c), F.kp, ?_⟩
  refine FunD.bindsN F ?_
  intro kV doc pm an cdv ct us hl
  exact hb .none kV doc pm an cdv ct us hl
theorem Cal.mono {P : Program} {w : World} {K : Kf} {mg : Str → Option Value} {base : Heap} {x : Str} {ps : List Str} {j k : Nat} {C : Ct} (c : Cal P w K mg base x ps j C) (h : j ≤ k) : Cal P w K mg base x ps k C :=
  let ⟨f, fd, a, b, c, d⟩ := c; ⟨f, fd, a, b.mono h, c, d⟩
/-- a weaker contract -/
theorem Cal.imp {P : Program} {w : World} {K : Kf} {mg : Str → Option Value} {base : Heap} {x : Str} {ps : List Str} {k : Nat} {C C' : Ct} (c : Cal P w K mg base x ps k C) (h : ∀ B ds post, C' B ds post → C B ds post) : Cal P w K mg base x ps k C' :=
  let ⟨f, fd, a, b, c, d⟩ := c; ⟨f, fd, a, b.imp fun vs H Q E ⟨B, G, ds, post, h1, h2, h3, h4⟩ => ⟨B, G, ds, post, h1, h2, h _ _ _ h3, h4⟩, c, d⟩
section
variable {X : Cx} {B : List Addr} {H0 : Hp} {e e2 : Expr} {es : List Expr} {de db : DE} {ra : DA} {p pos : Pos} {x : Str}
theorem pd_cal {ps : List Str} {j k : Nat} {C : Ct} (c : Cal X.prog X.w X.K X.mg X.base x ps j C) (hr : Room k X.A) (ha : PDA X B H0 (e :: es) ra) (hjk : j ≤ k := by decide) (hg : Gl X x := by rfl) (hdb : (x == ("__debug__" : Str)) = false := by decide)
    (he : starEach (e :: es) X.env = (false, eval e X.env) :: starEach es X.env := by rfl) (hpl : (backTo pos (starEach es X.env)).any (·.1) = false := by rfl) : PD X B H0 (.Call (.Name x p) (e :: es) [] pos) (dCall B C ra) :=
  let ⟨f, fd, hm, F, kp, b⟩ := c
  pd_call F (hr.mono hjk) hg hm kp b pass0 ha hdb he hpl
theorem pd_len (T : Bl X.mg) (ha : PD X B H0 e de) (hg : Gl X "len" := by rfl) (s2 : starEach [e] X.env = (false, eval e X.env) :: starEach [] X.env := by rfl) (hpl : (backTo pos (starEach [] X.env)).any (·.1) = false := by rfl) : PD X B H0 (.Call (.Name "len" p) [e] [] pos) (dCB cLen (dCons de dNil)) :=
  pd_callB call_len cd_len hg T.len bo_len (pda_cons ha pda_nil s2) (by decide) (by decide) s2 hpl
theorem pd_int1 (T : Bl X.mg) (ha : PD X B H0 e de) (hg : Gl X "int" := by rfl) (s2 : starEach [e] X.env = (false, eval e X.env) :: starEach [] X.env := by rfl) (hpl : (backTo pos (starEach [] X.env)).any (·.1) = false := by rfl) : PD X B H0 (.Call (.Name "int" p) [e] [] pos) (dCB cInt (dCons de dNil)) :=
  pd_callTy call_int1 cd_int hg T.int bo_int (pda_cons ha pda_nil s2) (by decide) (by decide) s2 hpl
theorem pd_tupleOf (T : Bl X.mg) (ha : PD X B H0 e de) (hg : Gl X "tuple" := by rfl) (s2 : starEach [e] X.env = (false, eval e X.env) :: starEach [] X.env := by rfl) (hpl : (backTo pos (starEach [] X.env)).any (·.1) = false := by rfl) : PD X B H0 (.Call (.Name "tuple" p) [e] [] pos) (dCB cTuple (dCons de dNil)) :=
  pd_callTy call_tuple_of cd_tuple hg T.tuple bo_tuple (pda_cons ha pda_nil s2) (by decide) (by decide) s2 hpl
theorem pd_listOf (T : Bl X.mg) (ha : PD X B H0 e de) (hg : Gl X "list" := by rfl) (s2 : starEach [e] X.env = (false, eval e X.env) :: starEach [] X.env := by rfl) (hpl : (backTo pos (starEach [] X.env)).any (·.1) = false := by rfl) : PD X B H0 (.Call (.Name "list" p) [e] [] pos) (dCB cList (dCons de dNil)) :=
  pd_callTy call_list_of cd_list hg T.list bo_list (pda_cons ha pda_nil s2) (by decide) (by decide) s2 hpl
theorem pd_sum (T : Bl X.mg) (hc : X.calm = true) (ha : PD X B H0 e de) (hg : Gl X "sum" := by rfl) (s2 : starEach [e] X.env = (false, eval e X.env) :: starEach [] X.env := by rfl) (hpl : (backTo pos (starEach [] X.env)).any (·.1) = false := by rfl) : PD X B H0 (.Call (.Name "sum" p) [e] [] pos) (dCB cSum (dCons de dNil)) :=
  pd_callB (cr_sum hc) cd_sum hg T.sum bo_sum (pda_cons ha pda_nil s2) (by decide) (by decide) s2 hpl
theorem pd_maxL (T : Bl X.mg) (hc : X.calm = true) (ha : PD X B H0 e de) (hg : Gl X "max" := by rfl) (s2 : starEach [e] X.env = (false, eval e X.env) :: starEach [] X.env := by rfl) (hpl : (backTo pos (starEach [] X.env)).any (·.1) = false := by rfl) : PD X B H0 (.Call (.Name "max" p) [e] [] pos) (dCB cMaxL (dCons de dNil)) :=
  pd_callB (cr_max hc) cd_maxL hg T.max bo_max (pda_cons ha pda_nil s2) (by decide) (by decide) s2 hpl
theorem pd_minL (T : Bl X.mg) (hc : X.calm = true) (ha : PD X B H0 e de) (hg : Gl X "min" := by rfl) (s2 : starEach [e] X.env = (false, eval e X.env) :: starEach [] X.env := by rfl) (hpl : (backTo pos (starEach [] X.env)).any (·.1) = false := by rfl) : PD X B H0 (.Call (.Name "min" p) [e] [] pos) (dCB cMinL (dCons de dNil)) :=
  pd_callB (cr_min hc) cd_minL hg T.min bo_min (pda_cons ha pda_nil s2) (by decide) (by decide) s2 hpl
theorem pd_all (T : Bl X.mg) (hc : X.calm = true) (ha : PD X B H0 e de) (hg : Gl X "all" := by rfl) (s2 : starEach [e] X.env = (false, eval e X.env) :: starEach [] X.env := by rfl) (hpl : (backTo pos (starEach [] X.env)).any (·.1) = false := by rfl) : PD X B H0 (.Call (.Name "all" p) [e] [] pos) (dCB cAll (dCons de dNil)) :=
  pd_callB (cr_all hc) cd_all hg T.all bo_all (pda_cons ha pda_nil s2) (by decide) (by decide) s2 hpl
theorem pd_any (T : Bl X.mg) (hc : X.calm = true) (ha : PD X B H0 e de) (hg : Gl X "any" := by rfl) (s2 : starEach [e] X.env = (false, eval e X.env) :: starEach [] X.env := by rfl) (hpl : (backTo pos (starEach [] X.env)).any (·.1) = false := by rfl) : PD X B H0 (.Call (.Name "any" p) [e] [] pos) (dCB cAny (dCons de dNil)) :=
  pd_callB (cr_any hc) cd_any hg T.any bo_any (pda_cons ha pda_nil s2) (by decide) (by decide) s2 hpl
theorem pd_sortedL (T : Bl X.mg) (ha : PD X B H0 e de) (hg : Gl X "sorted" := by rfl) (s2 : starEach [e] X.env = (false, eval e X.env) :: starEach [] X.env := by rfl) (hpl : (backTo pos (starEach [] X.env)).any (·.1) = false := by rfl) : PD X B H0 (.Call (.Name "sorted" p) [e] [] pos) (dCB cSorted (dCons de dNil)) :=
  pd_callB cr_sortedI cd_sorted hg T.sorted bo_sorted (pda_cons ha pda_nil s2) (by decide) (by decide) s2 hpl
theorem pd_max2 (T : Bl X.mg) (hc : X.calm = true) (ha : PD X B H0 e de) (hb : PD X B H0 e2 db) (hg : Gl X "max" := by rfl) (s1 : starEach [e, e2] X.env = (false, eval e X.env) :: starEach [e2] X.env := by rfl) (s2 : starEach [e2] X.env = (false, eval e2 X.env) :: starEach [] X.env := by rfl)
    (hpl : (backTo pos (starEach [e2] X.env)).any (·.1) = false := by rfl) : PD X B H0 (.Call (.Name "max" p) [e, e2] [] pos) (dCB cMax2 (dCons de (dCons db dNil))) :=
  pd_callB (call_max2 hc) cd_max2 hg T.max bo_max (pda_cons ha (pda_cons hb pda_nil s2) s1) (by decide) (by decide) s1 hpl
theorem pd_min2 (T : Bl X.mg) (hc : X.calm = true) (ha : PD X B H0 e de) (hb : PD X B H0 e2 db) (hg : Gl X "min" := by rfl) (s1 : starEach [e, e2] X.env = (false, eval e X.env) :: starEach [e2] X.env := by rfl) (s2 : starEach [e2] X.env = (false, eval e2 X.env) :: starEach [] X.env := by rfl)
    (hpl : (backTo pos (starEach [e2] X.env)).any (·.1) = false := by rfl) : PD X B H0 (.Call (.Name "min" p) [e, e2] [] pos) (dCB cMin2 (dCons de (dCons db dNil))) :=
  pd_callB (call_min2 hc) cd_min2 hg T.min bo_min (pda_cons ha (pda_cons hb pda_nil s2) s1) (by decide) (by decide) s1 hpl

/-! isinstance of data with a built-in class -/
def D.ty : D → Option String
  | .py .none => some "NoneType"
  | .py (.bool _) => some "bool"
  | .py (.int _) => some "int"
  | .py (.str _) => some "str"
  | .py (.list _) => some "list"
  | .py (.tuple _) => some "tuple"
  | .py (.dict _) => some "dict"
  | .ol _ => some "list"
  | .od _ => some "dict"
  | .dic _ => some "dict"
  | _ => none
def isiT (a b : String) : Bool := a == b || (a == "bool" && b == "int")
def cIsi : List D → (D → Prop) → Prop := fun xs post => match xs with
  | [x, .raw (.ty n)] => match x.ty with
    | some t => (n = "int" ∨ n = "bool" ∨ n = "str" ∨ n = "list" ∨ n = "tuple") ∧ post (.py (.bool (isiT t n)))
    | none => False
  | _ => False
theorem kit_tab : ∀ a ∈ ["NoneType", "bool", "int", "str", "list", "tuple", "dict"], ∀ b ∈ ["int", "bool", "str", "list", "tuple"], kitB a b = some (isiT a b) := by decide +kernel
theorem ty_mem {x : D} {t : String} (h : x.ty = some t) : t ∈ ["NoneType", "bool", "int", "str", "list", "tuple", "dict"] := by
  cases x with
  | py q => cases q <;> first | (cases h; decide) | cases h
  | ol _ => cases h; decide
  | od _ => cases h; decide
  | dic _ => cases h; decide
  | _ => cases h
theorem tyX_sqT {K : Kf} {H : Hp} {a : Addr} {xs : List V} (h : SqT K H a xs) : TyX K H (.ref a) (.type "tuple") := by
  rcases h with (h | ⟨o, h⟩) | ⟨o, its, n, h, hc, _⟩
  · exact .base (.tup h)
  · exact .fTuple h
  · exact .kTuple h hc
theorem ty_x {K : Kf} {B : List Addr} {G H : Hp} (w : Wd K B G H) {x : D} {v : V} {t : String} (r : Rp K B G H x v) (h : x.ty = some t) : TyX K H v (.type t) := by
  cases x with
  | py q =>
    cases q with
    | none => cases h; cases r; exact .base .non
    | bool b => cases h; cases r; exact .base (.bl _)
    | int b => cases h; cases r; exact .base (.int _)
    | str b => cases h; cases r; exact .base (.str _)
    | list b => cases h; cases r with | lst h1 h2 => exact .base (.lst (w.sub _ _ h1))
    | tuple b => cases h; cases r with | tup h1 h2 => exact tyX_sqT (SqT.up w.sub h1)
    | dict _ => cases r
  | ol _ => cases h; obtain ⟨p, vs, rfl, _, h1, _⟩ := r; exact .base (.lst h1)
  | od _ => cases h; obtain ⟨p, vs, rfl, _, h1, _⟩ := r; exact .base (.dK h1)
  | dic _ => cases h; obtain ⟨p, vs, rfl, h1, _⟩ := r; exact .base (.dK (w.sub _ _ h1))
  | _ => cases h
theorem cd_isi {K : Kf} : CallD K B (rIsi K) cIsi := fun G H xs dxs post Q w r hf hq => by
  unfold cIsi at hf
  split at hf
  · next x n =>
    cases r with
    | cons rx rn =>
      cases rn with
      | cons ry rn =>
        cases rn
        split at hf
        · next t e =>
          cases ry
          have hn : n ∈ ["int", "bool", "str", "list", "tuple"] := by
            rcases hf.1 with z | z | z | z | z <;> subst z <;> decide
          exact ⟨_, _, _, _, _, rfl, .ty n, ty_x w rx e, kit_ty (kit_tab t (ty_mem e) n hn), stay w hq (.bl _) hf.2⟩
        · exact hf.elim
  · exact hf.elim
theorem pd_ty {x : Str} {n : String} (hg : Gl X x) (hm : X.mg x = none) (hv : bootBuiltins x = some (.type n)) (hn : x ≠ "__name__" := by decide) (hd : (x == ("__debug__" : Str)) = false := by decide) : PD X B H0 (.Name x pos) (dC (.raw (.ty n))) :=
  PEmono (pe_bltn (v := .ty n) hg hm hv rfl hn hd) fun σ H Q ⟨G, S, post, hs, h, hq⟩ => hq _ (.raw (.ty n)) G H (Stp.refl hs.wd) rfl h
theorem pd_isi {c : Expr} {n : String} (T : Bl X.mg) (ha : PD X B H0 e de) (hc : PD X B H0 c (dC (.raw (.ty n)))) (hg : Gl X "isinstance" := by rfl) (s1 : starEach [e, c] X.env = (false, eval e X.env) :: starEach [c] X.env := by rfl) (s2 : starEach [c] X.env = (false, eval c X.env) :: starEach [] X.env := by rfl)
    (hpl : (backTo pos (starEach [c] X.env)).any (·.1) = false := by rfl) : PD X B H0 (.Call (.Name "isinstance" p) [e, c] [] pos) (dCB cIsi (dCons de (dCons (dC (.raw (.ty n))) dNil))) :=
  pd_callB call_isi cd_isi hg T.isinstance bo_isinstance (pda_cons ha (pda_cons hc pda_nil s2) s1) (by decide) (by decide) s1 hpl
end
/-! targets of a fixed length -/
def Rch (g : DG) : Prop := ∀ {d S post}, g d S post → ∃ S', post S'
def Rchs (r : DGs) : Prop := ∀ {d S post}, r d S post → ∃ S', post S'
theorem rch_name {i : Nat} : Rch (dgName i) := fun h => ⟨_, h⟩
theorem rchs_nil : Rchs dgNil := fun {d S post} h => by
  unfold dgNil at h
  split at h
  · exact ⟨_, h⟩
  · exact h.elim
theorem rchs_cons {g : DG} {r : DGs} (h1 : Rch g) (h2 : Rchs r) : Rchs (dgCons g r) := fun {d S post} h => by
  unfold dgCons at h
  split at h
  · obtain ⟨S', k⟩ := h1 h; exact h2 k
  · exact h.elim
theorem rch_tup {r : DGs} (h : Rchs r) : Rch (dgTup r) := fun {d S post} k => by
  unfold dgTup at k
  split at k
  · exact h k
  · exact k.elim
theorem lg_nil : ∀ {ds S post}, dgNil ds S post → ds.length = 0 := fun {ds S post} h => by
  unfold dgNil at h
  split at h
  · rfl
  · exact h.elim
theorem lg_cons {g : DG} {r : DGs} {n : Nat} (h1 : Rch g) (h2 : ∀ {ds S post}, r ds S post → ds.length = n) : ∀ {ds S post}, dgCons g r ds S post → ds.length = n + 1 := fun {ds S post} h => by
  unfold dgCons at h
  split at h
  · obtain ⟨S', k⟩ := h1 h
    rw [List.length_cons, h2 k]
  · exact h.elim
/-- a, b, .. = e, e a tuple -/
def dAsg (e : DE) (g : DG) : DS := fun E S => e S fun d => match d with
  | .py q => g q S E.nx
  | _ => False
section
variable {X : Cx} {B : List Addr} {H0 : Hp} {e tg : Expr} {de : DE} {g : DG} {is : List Nat} {pos : Pos}
theorem psd_asgG (he : PD X B H0 e de) (hg : PDG X B H0 is tg g) (hs : swapsWithSole [tg] e pos.line X.env = pure false := by rfl) (hw : swappedStores [tg] e X.env = pure none := by rfl) (h1 : (assignEach [tg] X.env).map (·.2) = [assign tg X.env] := by rfl) :
    PDS X B H0 (.Assign [tg] e pos) (dAsg de g) := PSmono (ps_asg he hg hs hw h1) fun D σ H ⟨G0, E, ⟨G, S, hs, ho, hd⟩, q1, q2, q3, q4⟩ =>
  ⟨G, S, _, hs, hd, fun v d G' H' s r p => by
    split at p
    · exact ⟨G', S, _, _, hs.step s, r, p, fun S' σ' k1 _ _ k2 => q1 _ _ ⟨G', S', k1, ho.trans s.toOld, k2⟩⟩
    · exact p.elim⟩
end
end DL
/- ==== DLh ==== -/
/-! DLh: small words for readings. -/
namespace DL
open PySem PySem.Spec PyProof.Rows L2 RZ
theorem at_st {t : DS} {E : DEnds} {S S' : Slots} (e : S = S') (h : t E S') : t E S := e ▸ h
theorem take_more {α : Type} : ∀ {l : List α} {i : Nat} {x : α}, l[i]? = some x → l.take (i + 1) = l.take i ++ [x]
  | [], i, x, h => by simp at h
  | a :: l, 0, x, h => by
    have e : a = x := Option.some.inj h
    subst e; rfl
  | a :: l, i + 1, x, h => by
    have ih := take_more (l := l) (i := i) (x := x) h
    show a :: l.take (i + 1) = a :: l.take i ++ [x]
    rw [ih]; rfl
theorem map_get {α β : Type} {f : α → β} {l : List α} {i : Nat} {y : β} (h : (l.map f)[i]? = some y) : ∃ x, l[i]? = some x ∧ f x = y := by
  rw [List.getElem?_map] at h
  cases e : l[i]? with
  | none => rw [e] at h; cases h
  | some x => rw [e] at h; exact ⟨x, rfl, Option.some.inj h⟩
theorem range_get {n i : Nat} {f : Nat → PyData} {d : PyData} (h : ((List.range n).map f)[i]? = some d) : i < n ∧ d = f i := by
  obtain ⟨hl, he⟩ := List.getElem?_eq_some_iff.mp h
  rw [List.length_map, List.length_range] at hl
  rw [List.getElem_map, List.getElem_range] at he
  exact ⟨hl, he.symm⟩
theorem if_dec {c : Prop} [Decidable c] {A B : Prop} (h1 : c → A) (h2 : ¬ c → B) : if decide c = true then A else B := by
  by_cases h : c
  · rw [if_pos (decide_eq_true h)]; exact h1 h
  · rw [if_neg (by simp [h])]; exact h2 h
theorem if_b {c : Bool} {A B : Prop} (h1 : c = true → A) (h2 : c = false → B) : if c = true then A else B := by
  cases c with
  | true => rw [if_pos rfl]; exact h1 rfl
  | false => rw [if_neg Bool.false_ne_true]; exact h2 rfl
theorem if_t {c : Bool} {A B : Prop} (h : c = true) (h1 : A) : if c = true then A else B := by rw [if_pos h]; exact h1
theorem if_f {c : Bool} {A B : Prop} (h : c = false) (h1 : B) : if c = true then A else B := by rw [if_neg (by rw [h]; decide)]; exact h1
theorem cmul_r {i j : Int} (h : -(2 ^ 64) < j ∧ j < 2 ^ 64) : CMul i j := .inr h
theorem cmul_l {i j : Int} (h : -(2 ^ 64) < i ∧ i < 2 ^ 64) : CMul i j := .inl h
/-- the arguments are plain -/
theorem free_py {d : PyData} : ¬ (D.py d).own := fun z => z
theorem free_raw {v : V} : ¬ (D.raw v).own := fun z => z
theorem free_dic {v} : ¬ (D.dic v).own := fun z => z
theorem free_fn {L} : ¬ (D.fn L).own := fun z => z
theorem free_ins {p c v} : ¬ (D.ins p c v).own := fun z => z

theorem atI_0 {α : Type} {x : α} {xs : List α} : atI (x :: xs) 0 = some x := atI_nat (j := 0) rfl
theorem atI_1 {α : Type} {x y : α} {xs : List α} : atI (x :: y :: xs) 1 = some y := atI_nat (j := 1) rfl
theorem atI_2 {α : Type} {x y z : α} {xs : List α} : atI (x :: y :: z :: xs) 2 = some z := atI_nat (j := 2) rfl
theorem atI_3 {α : Type} {x y z u : α} {xs : List α} : atI (x :: y :: z :: u :: xs) 3 = some u := atI_nat (j := 3) rfl
/-! < of ints or of texts -/
def fLtA : D → D → (D → Prop) → Prop := fun x y post => match x, y with
  | .py (.int i), .py (.int j) => post (.py (.bool (decide (i < j))))
  | .py (.str i), .py (.str j) => post (.py (.bool (decide (i.cps.toList < j.cps.toList))))
  | _, _ => False
theorem op_ltA {X : Cx} : OpR X (compareOp .Lt) (fun x y H Q => (rI0 fun i j => .bl (decide (i < j))) x y H Q ∨ ∃ i j, x = .str i ∧ y = .str j ∧ Q (.bl (decide (i.cps.toList < j.cps.toList))) H) := OpR.or op_lt op_lt_str
theorem od_ltA {K : Kf} {B : List Addr} : OpD K B (fun x y H Q => (rI0 fun i j => .bl (decide (i < j))) x y H Q ∨ ∃ i j, x = .str i ∧ y = .str j ∧ Q (.bl (decide (i.cps.toList < j.cps.toList))) H) fLtA := fun G H x y dx dy post Q w rx ry hf hq => by
  unfold fLtA at hf
  split at hf
  · cases rx; cases ry; exact .inl ⟨_, _, rfl, rfl, stay w hq (.bl _) hf⟩
  · cases rx; cases ry; exact .inr ⟨_, _, rfl, rfl, stay w hq (.bl _) hf⟩
  · exact hf.elim
/-! in, not in: flat things -/
theorem flat_all {K : Kf} {G : Hp} : ∀ {vs : List V} {ds : List PyData}, DtAll K G vs ds → ds.all flatP = true → vs.all flatV = true
  | _, _, .nil, _ => rfl
  | _, _, .cons h t, e => by
    rw [List.all_cons, Bool.and_eq_true] at e ⊢
    refine ⟨?_, flat_all t e.2⟩
    cases h <;> first | rfl | cases e.1
theorem flat_one {K : Kf} {G : Hp} {v : V} {d : PyData} (h : Dt K G v d) (e : flatP d = true) : flatV v = true := by
  cases h <;> first | rfl | cases e
theorem eqv_flat {K : Kf} {G : Hp} {v u : V} {d e : PyData} (h : Dt K G v d) (h' : Dt K G u e) (hd : flatP d = true) (he : flatP e = true) : eqV v u = PyData.eqv d e := by
  cases h with
  | lst _ _ => cases hd
  | tup _ _ => cases hd
  | non => cases h' <;> first | exact (Bool.false_ne_true he).elim | simp [eqV, PyData.eqv]
  | bl b => cases h' <;> first | exact (Bool.false_ne_true he).elim | simp [eqV, PyData.eqv]
  | int b => cases h' <;> first | exact (Bool.false_ne_true he).elim | simp [eqV, PyData.eqv]
  | str b => cases h' <;> first | exact (Bool.false_ne_true he).elim | simp [eqV, PyData.eqv]
theorem inv_flat {K : Kf} {G : Hp} {x : V} {d : PyData} (h : Dt K G x d) (hd : flatP d = true) : ∀ {vs : List V} {ds : List PyData}, DtAll K G vs ds → ds.all flatP = true → inV x vs = ds.any fun e => PyData.eqv e d
  | _, _, .nil, _ => rfl
  | _, _, .cons h1 t, e => by
    rw [List.all_cons, Bool.and_eq_true] at e
    have ih := inv_flat h hd t e.2
    unfold inV at ih ⊢
    rw [List.any_cons, List.any_cons, ih, eqv_flat h1 h e.1 hd]
def fIn (neg : Bool) : D → D → (D → Prop) → Prop := fun x y post => match x, y.items with
  | .py d, some ds => flatP d = true ∧ ds.all flatP = true ∧ post (.py (.bool (if neg then !(ds.any fun e => PyData.eqv e d) else ds.any fun e => PyData.eqv e d)))
  | _, _ => False
theorem od_inN {K : Kf} {B : List Addr} {neg : Bool} : OpD K B (rIn K neg) (fIn neg) := fun G H x y dx dy post Q w rx ry hf hq => by
  unfold fIn at hf
  split at hf
  · next d ds e =>
    obtain ⟨f1, f2, hf⟩ := hf
    have key : ∀ {vs : List V}, DtAll K G vs ds → (if neg = true then !inV x vs else inV x vs) = (if neg then !(ds.any fun e => PyData.eqv e d) else ds.any fun e => PyData.eqv e d) := fun h => by rw [inv_flat rx f1 h f2]
    cases dy with
    | py q =>
      cases q with
      | list l =>
        cases e
        cases ry with
        | lst h1 h2 => exact ⟨_, _, rfl, .inl (SqL.of (w.sub _ _ h1)), flat_one rx f1, flat_all h2 f2, by rw [key h2]; exact stay w hq (.bl _) hf⟩
      | tuple l =>
        cases e
        cases ry with
        | tup h1 h2 => exact ⟨_, _, rfl, .inr (SqT.up w.sub h1), flat_one rx f1, flat_all h2 f2, by rw [key h2]; exact stay w hq (.bl _) hf⟩
      | _ => cases e
    | ol l =>
      cases e
      obtain ⟨p, vs, rfl, _, h1, h2⟩ := ry
      exact ⟨_, _, rfl, .inl (SqL.of h1), flat_one rx f1, flat_all h2 f2, by rw [key h2]; exact stay w hq (.bl _) hf⟩
    | _ => cases e
  · exact hf.elim
theorem od_in {K : Kf} {B : List Addr} : OpD K B (rIn K false) (fIn false) := od_inN
theorem od_notIn {K : Kf} {B : List Addr} : OpD K B (rIn K true) (fIn true) := od_inN
/-! three at once -/
def dPar3 (i j l : Nat) (a b c : DE) : DS := fun E S => a S fun x => b S fun y => c S fun z => match x, y, z with
  | .py x, .py y, .py z => E.nx (((S.set i (some (.py x))).set j (some (.py y))).set l (some (.py z)))
  | _, _, _ => False
section
variable {X : Cx} {B : List Addr} {H0 : Hp} {da db dc : DE} {pos : Pos}
theorem psd_par3 {i j l : Nat} {x y z : Str} {a b c : Expr} {px py pz pt : Pos} {kt k2 pt2} (hc : X.calm = true) (hN : X.N.Nodup) (hi : X.N[i]? = some x) (hj : X.N[j]? = some y) (hl : X.N[l]? = some z) (hij : i ≠ j) (hil : i ≠ l) (hjl : j ≠ l)
    (hx : X.env.scope.names.lookup x = some .local) (hy : X.env.scope.names.lookup y = some .local) (hz : X.env.scope.names.lookup z = some .local) (ha : PD X B H0 a da) (hb : PD X B H0 b db) (hcc : PD X B H0 c dc)
    (hw : swappedStores [.Tuple [.Name x px, .Name y py, .Name z pz] kt pt] (.Tuple [a, b, c] k2 pt2) X.env = pure (some [x, y, z])) (s1 : starEach [a, b, c] X.env = (false, eval a X.env) :: starEach [b, c] X.env := by rfl) (s2 : starEach [b, c] X.env = (false, eval b X.env) :: starEach [c] X.env := by rfl) (s3 : starEach [c] X.env = (false, eval c X.env) :: starEach [] X.env := by rfl)
    (hs : swapsWithSole [.Tuple [.Name x px, .Name y py, .Name z pz] kt pt] (.Tuple [a, b, c] k2 pt2) pos.line X.env = pure false := by rfl) :
    PDS X B H0 (.Assign [.Tuple [.Name x px, .Name y py, .Name z pz] kt pt] (.Tuple [a, b, c] k2 pt2) pos) (dPar3 i j l da db dc) := PSmono (ps_par3 hc hN hi hj hl hij hil hjl hx hy hz (pa_cons ha (pa_cons hb (pa_cons hcc pa_nil s3) s2) s1) hw hs) fun D σ H ⟨G0, E, ⟨G, S, hs, ho, hd⟩, q1, q2, q3, q4⟩ =>
  ⟨G, S, _, hs, hd, fun v d G1 H1 s r p => ⟨G1, S, _, hs.step s, p, fun v2 d2 G2 H2 s2 r2 p2 => ⟨G2, S, _, hs.step (s.trans s2), p2, fun v3 d3 G3 H3 s3 r3 p3 => by
    refine ⟨v, v2, v3, rfl, q1 _ _ ?_⟩
    split at p3
    · exact ⟨G3, _, (((hs.step (s.trans (s2.trans s3))).set i (Rp.up (s2.trans s3).toOld r) (fun z => z)).set j (Rp.up s3.toOld r2) (fun z => z)).set l r3 (fun z => z), ho.trans (s.trans (s2.trans s3)).toOld, p3⟩
    · exact p3.elim⟩⟩⟩
end
end DL
/- ==== DLi ==== -/
/-! DLi: a law's own head: the bags, the loop over them. -/
namespace DL
open PySem PySem.Spec PyProof.Rows L2 RZ
def C_take : Ct := fun B ds post => ∃ (b : Addr) (many : Int), ds = [.raw (.ref b), .py (.int many)] ∧ bagIn B b ∧ 0 < many ∧ ∀ r : Int, 0 ≤ r → r < many → r ≤ 999 → post (.py (.int r))
theorem tYes_if {σ : L2.St} {H : Hp} {f g : Hp → Prop} (h : f H) : tYes σ H (fun b H3 => if b = true then f H3 else g H3) := by
  show (if true = true then f H else g H)
  rw [if_pos rfl]; exact h
def RawBag (H : Hp) (p : Addr) : Prop := ∃ (dl : Addr) (ns : List Int), H p = some (.lst [.ref dl, .int 0]) ∧ H dl = some (.lst (ns.map V.int)) ∧ ns.length = 400 ∧ ∀ n ∈ ns, 0 ≤ n ∧ n < 1000
theorem RawBag.up {H H' : Hp} {p : Addr} (e : Same H H') (h : RawBag H p) : RawBag H' p := let ⟨dl, ns, a, b, c⟩ := h; ⟨dl, ns, e _ _ a, e _ _ b, c⟩
def spCell (K : Kf) : Sp := fun vs H Q _ => ∃ (a : Addr) (ns : List Int) (k : Int), vs = [.ref a, .int k] ∧ SqL K H a (ns.map V.int) ∧ 0 ≤ k ∧ ∀ z : Int, Q (.int z) H
def spBag (K : Kf) : Sp := fun vs H Q _ => ∃ (a : Addr) (ns : List Int) (k : Int), vs = [.ref a, .int k] ∧ SqL K H a (ns.map V.int) ∧ 0 ≤ k ∧ ∀ (p : Addr) (H' : Hp), Same H H' → H p = none → RawBag H' p → Q (.ref p) H'
def spBags (K : Kf) : Sp := fun vs H Q _ => ∃ (a : Addr) (ns : List Int) (lim : Int), vs = [.ref a, .int lim] ∧ SqL K H a (ns.map V.int) ∧ ns.length ≤ 63 ∧ 0 ≤ lim ∧ lim ≤ 1000 ∧
  ∀ (p : Addr) (bs : List Addr) (H' : Hp), Same H H' → H' p = some (.lst (bs.map V.ref)) → (∀ b ∈ bs, H b = none ∧ b ≠ p ∧ RawBag H' b) → H p = none → Q (.ref p) H'
section
variable {P : Program} {w : World} {K : Kf} {mg : Str → Option Value} {base : Heap}
/-- a def by a promise of its own -/
def CalR (P : Program) (w : World) (K : Kf) (mg : Str → Option Value) (base : Heap) (x : Str) (ps : List Str) (k : Nat) (sp : Sp) : Prop := ∃ (f : Addr) (fd : FuncData), mg x = some (.ref f) ∧ FnOk P w K mg base CX0 k f fd ps sp ∧ PySem.W.keepIn K (.ref f) = true ∧ Binds K fd ps []
end
def spLaw (K : Kf) (T : Addr) : Sp := fun vs H Q _ => ∃ (a : Addr) (ns : List Int), vs = [.ref a] ∧ SqL K H a (ns.map V.int) ∧ ns.length ≤ 63 ∧ H T = some (.tbl #[]) ∧ ∀ H', Q (.bl true) H'
def nones (n : Nat) : Slots := List.replicate n none
theorem nones_get {n i : Nat} {d : D} (h : (nones n)[i]? = some (some d)) : False := by
  unfold nones at h
  rw [List.getElem?_replicate] at h
  split at h <;> cases h
theorem sl_nones {K : Kf} {B : List Addr} {H0 : Hp} {σ : L2.St} {G H : Hp} {n : Nat} (w : Wd K B G H) (hl : σ.length = n) : Sl K B H0 (nones n) σ G H :=
  ⟨w, by unfold nones; rw [List.length_replicate]; exact hl, fun i d h => (nones_get h).elim, fun i j di dj p _ h => (nones_get h).elim⟩
theorem pss_ex {X : Cx} {b : List Stmt} {α : Type} {t : α → TS} (h : ∀ z, PSs X b (t z)) : PSs X b (fun D σ H => ∃ z, t z D σ H) := ⟨fun pins s σ H D I ⟨z, q⟩ => (h z).run pins s σ H D I q⟩
section
variable {P : Program} {w : World} {K : Kf} {mg : Str → Option Value} {base : Heap}
/-- the bags as they come, the table at T ahead of them: what stands without them -/
theorem bags_wd {H1 : Hp} {T : Addr} {bs : List Addr} (h : ∀ b ∈ bs, RawBag H1 b) (hT : H1 T = some (.tbl #[])) (hn : T ∉ bs) : Wd K (T :: bs) (fun a => if a ∈ T :: bs then none else H1 a) H1 := by
  refine ⟨fun a o e => ?_, fun b hb => ⟨if_pos hb, ?_⟩⟩
  · have e : (if a ∈ T :: bs then none else H1 a) = some o := e
    split at e
    · cases e
    · exact e
  · rcases List.mem_cons.mp hb with rfl | hb
    · exact .inr ⟨rfl, #[], hT, trivial, fun pos cv hc => by
        have z : codeAmong pos [] = some cv := hc
        simp [codeAmong] at z⟩
    obtain ⟨dl, ns, k1, k2, k3, k4⟩ := h b hb
    refine .inl ⟨fun z => hn (by cases z; exact hb), dl, 0, ns, k1, Int.le_refl _, ?_, k3, k4⟩
    have nd : dl ∉ T :: bs := fun z => by
      rcases List.mem_cons.mp z with rfl | z
      · rw [k2] at hT; cases hT
      obtain ⟨dl', ns', k1', _⟩ := h dl z
      rw [k2] at k1'
      have e : ns.map V.int = [V.ref dl', V.int 0] := by injection k1' with e; injection e
      have := congrArg List.length e
      rw [List.length_map, k3] at this
      cases this
    show (if dl ∈ T :: bs then none else H1 dl) = _
    rw [if_neg nd]; exact k2
theorem law_ok {sL : Stmt} {N : List Str} {i k : Nat} {lim : Int} {j : Nat} {bd rest : List Stmt} {p1 p2 p3 p4 p5 p6 : Pos} {tb tr : List Addr → DS} {c T : Addr} {f : Addr} {fd : FuncData} (F : FunD K "law" "law" (defArgs sL) (defBody sL) (defScope sL) [] [] f fd) (S : FnScope N ["script"] (defScope sL)) (hcode : ∀ oc od fd' osl, K.lookup f = some ⟨oc, od, .func fd', osl⟩ → fd'.code = .ref c)
    (hbody : defBody sL = .For (.Name "bag" p1) (.Call (.Name "_law_bags" p2) [.Name "script" p3, .Constant (.int lim) j p4] [] p5) bd [] p6 :: rest)
    (hlim : 0 ≤ lim ∧ lim ≤ 1000) (hk : 3 ≤ k) (cb : CalR P w K mg base "_law_bags" ["script", "limit"] 3 (spBags K)) (h0 : N[0]? = some ("script" : Str)) (hi : N[i]? = some ("bag" : Str))
    (vs : (defScope sL).names.lookup ("script" : Str) = some NameKind.local ∨ (defScope sL).names.lookup ("script" : Str) = some NameKind.cell) (vb : (defScope sL).names.lookup ("bag" : Str) = some NameKind.local ∨ (defScope sL).names.lookup ("bag" : Str) = some NameKind.cell) (vg : (defScope sL).names.lookup ("_law_bags" : Str) = some NameKind.globalImplicit)
    (hb : ∀ (f : Addr) (A : Around) (outer : List Env) (s : Shared) (H : Hp) (E : XK) (bs : List Addr) (H0 : Hp), Room k (A.deeper (envOfC "law" (defScope sL) s.heap.objs.size f (.ref c))) → PDSs (cxOf CX0 P w K mg base N "law" (defScope sL) f (.ref c) A outer s H E).nox (T :: bs) H0 bd (tb (T :: bs)))
    (hr : ∀ (f : Addr) (A : Around) (outer : List Env) (s : Shared) (H : Hp) (E : XK) (bs : List Addr) (H0 : Hp), Room k (A.deeper (envOfC "law" (defScope sL) s.heap.objs.size f (.ref c))) → PDSs (cxOf CX0 P w K mg base N "law" (defScope sL) f (.ref c) A outer s H E).nox (T :: bs) H0 rest (tr (T :: bs)))
    (rb : ∀ (bs : List Addr) (b : Addr), bagIn (T :: bs) b → tb (T :: bs) { nx := fun S => S.length = N.length, ct := fun S => S.length = N.length, rt := fun d => d = .py (.bool true) } ((nones N.length).set i (some (.raw (.ref b)))))
    (rr : ∀ bs : List Addr, tr (T :: bs) { nx := fun _ => False, rt := fun d => d = .py (.bool true) } (nones N.length)) :
    FnOk P w K mg base CX0 (k + 1) f fd ["script"] (spLaw K T) := by
  obtain ⟨f1, fd1, hm1, F1, kp1, b1⟩ := cb
  obtain ⟨oc, od, dV, kV, doc, pm, an, cdv, ct, osl, rfl, lk, hcd, _, _⟩ := F.ex
  have ec : cdv = .ref c := hcode _ _ _ _ lk
  subst ec
  refine fn_of lk hcd S (fun vs H Q E h => ?_) (fun A outer s H vs Q E hroom h => ?_)
  · obtain ⟨a, ns, rfl, _⟩ := h; rfl
  · obtain ⟨a, ns, rfl, hS, hl, hT, hq⟩ := h
    have pb : PSs (cxOf CX0 P w K mg base N "law" (defScope sL) f (.ref c) A outer s H E).nox bd (fun D σ H' => ∃ z : List Addr × Hp, lS K (T :: z.1) z.2 (tb (T :: z.1)) D σ H') := pss_ex fun z => hb f A outer s H E z.1 z.2 hroom
    have pr : PSs (cxOf CX0 P w K mg base N "law" (defScope sL) f (.ref c) A outer s H E).nox rest (fun D σ H' => ∃ z : List Addr × Hp, lS K (T :: z.1) z.2 (tr (T :: z.1)) D σ H') := pss_ex fun z => hr f A outer s H E z.1 z.2 hroom
    have pf := ps_for (X := (cxOf CX0 P w K mg base N "law" (defScope sL) f (.ref c) A outer s H E).nox) (pos := p6) PassesOwn.never rfl
      (pi_list (pe_call (pos := p5) (p := p2) F1 (hroom.mono hk) vg hm1 kp1 b1 .nil pass0 (pa_cons (pe_var (i := 0) (pos := p3) h0 (vs.elim Or.inl fun z => Or.inr (Or.inl z))) (pa_cons (pe_int (i := lim) (j := j) (pos := p4)) pa_nil))))
      (pg_name (pos := p1) S.nd hi vb (Or.inl rfl)) pb
    rw [hbody]
    refine ⟨_, PSs.nox (pss_cons pf pr), ?_⟩
    have hN : 0 < N.length := (List.getElem?_eq_some_iff.mp h0).1
    have hst : (L2.start N [V.ref a])[0]? = some (some (V.ref a)) := by unfold L2.start; rfl
    have hsl : (L2.start N [V.ref a]).length = N.length := by unfold L2.start; rw [List.length_append, List.length_map, List.length_replicate]; show 1 + (N.length - 1) = _; omega
    refine ⟨_, hst, a, ns, lim, rfl, hS, hl, hlim.1, hlim.2, fun p bs H1 e1 hp hbs _ => ?_⟩
    have hbag : ∀ b ∈ bs, RawBag H1 b := fun b hb => (hbs b hb).2.2
    have hpb : p ∉ bs := fun z => (hbs p z).2.1 rfl
    have hT1 : H1 T = some (.tbl #[]) := e1 _ _ hT
    have hTn : T ∉ bs := fun z => by rw [(hbs T z).1] at hT; cases hT
    have hTp : p ≠ T := fun z => by subst z; rw [hT1] at hp; cases hp
    have nT : ∀ n, bs[n]? ≠ some T := fun n z => hTn (List.mem_of_getElem? z)
    have w1 := bags_wd (K := K) hbag hT1 hTn
    refine ⟨p, rfl, ⟨_, SqL.of hp⟩, fun n m σ H' => m = (bs.map V.ref).length - n ∧ n ≤ (bs.map V.ref).length ∧ σ.length = N.length ∧ ∃ G, Wd K (T :: bs) G H' ∧ G p = some (.lst (bs.map V.ref)), ⟨_, rfl, Nat.zero_le _, hsl, _, w1, (if_neg (fun z => (List.mem_cons.mp z).elim hTp hpb)).trans hp⟩, ?_⟩
    rintro n m σ H' ⟨rfl, hn, hσ, G, wd, gp⟩
    have hp' : SqL K H' p (bs.map V.ref) := SqL.of (wd.sub _ _ gp)
    by_cases hlt : n < (bs.map V.ref).length
    · have hlt' : n < bs.length := by rw [List.length_map] at hlt; exact hlt
      have hx : (bs.map V.ref)[n]? = some (V.ref bs[n]) := by rw [List.getElem?_map, List.getElem?_eq_getElem hlt']; rfl
      refine .inr ⟨⟨_, _, hp', hx⟩, fun σ' H'' => σ'.length = N.length ∧ ∃ G, Wd K (T :: bs) G H'' ∧ G p = some (.lst (bs.map V.ref)), fun σ' H'' z => ⟨_, by omega, rfl, hlt, z⟩, fun x H'' ⟨ex, ey⟩ => ?_⟩
      subst ex
      have := ey _ hp'; rw [hx] at this; cases this
      have hi2 := (List.getElem?_eq_some_iff.mp hi).1
      have sl := (sl_nones (H0 := H'') (n := N.length) wd hσ).set i (d := .raw (.ref bs[n])) (v := .ref bs[n]) rfl free_raw
      refine ⟨(bs, H''), G, { nx := fun S => S.length = N.length, ct := fun S => S.length = N.length, rt := fun d => d = .py (.bool true) }, ⟨G, _, sl, Old.refl, rb bs bs[n] ⟨List.mem_cons_of_mem _ (List.getElem_mem hlt'), fun z => hTn (by have e := Option.some.inj z; rw [e]; exact List.getElem_mem hlt')⟩⟩, ?_, ?_, fun _ _ ⟨_, _, _, _, z⟩ => z.elim, ?_⟩
      · rintro σ' H3 ⟨G3, S3, k1, k2, k3⟩
        exact ⟨by rw [k1.len]; exact k3, G3, k1.wd, k2.up _ _ gp⟩
      · rintro v H3 ⟨G3, d3, k1, k2, k3, _, rfl⟩
        cases k3; exact hq H3
      · rintro σ' H3 ⟨G3, S3, k1, k2, k3⟩
        exact ⟨by rw [k1.len]; exact k3, G3, k1.wd, k2.up _ _ gp⟩
    · have e : n = (bs.map V.ref).length := by omega
      subst e
      refine .inl ⟨⟨_, hp', Nat.le_refl _⟩, (bs, H'), G, { nx := fun _ => False, rt := fun d => d = .py (.bool true) }, ⟨G, _, sl_nones wd hσ, Old.refl, rr bs⟩, fun _ _ ⟨_, _, _, _, z⟩ => z.elim, ?_, fun _ _ ⟨_, _, _, _, z⟩ => z.elim, fun _ _ ⟨_, _, _, _, z⟩ => z.elim⟩
      rintro v H3 ⟨G3, d3, k1, k2, k3, _, rfl⟩
      cases k3; exact hq H3
theorem law_binds {sL : Stmt} {f : Addr} {fd : FuncData} (F : FunD K "law" "law" (defArgs sL) (defBody sL) (defScope sL) [] [] f fd)
    (hbd : ∀ (dV kV doc pm : Value) (an : Option Addr) (cdv ct : Value) (us : List Value), us.length = (["script"] : List Str).length → bindArgs (PySem.W.fnOf "law" "law" (defArgs sL) (defBody sL) (defScope sL) .none kV doc pm an cdv ct) ⟨us, []⟩ = pure ((["script"] : List Str).zip us)) (s : Shared) (v : Value) : BindsTo s fd ⟨[v], []⟩ [("script", v)] :=
  FunD.bindsA F (fun kV doc pm an cdv ct us hl => hbd .none kV doc pm an cdv ct us hl) s [v] rfl
end
end DL
/- ==== DLj ==== -/
/-! DLj: calls that hand back an object of the caller's own. -/
namespace DL
open PySem PySem.Spec PyProof.Rows L2 RZ
def spDO (K : Kf) (C : Ct) : Sp := fun vs H Q _ => ∃ (B : List Addr) (G : Hp) (ds : List D) (post : D → Prop), Wd K B G H ∧ RpAll K B G H ds vs ∧ C B ds post ∧ ∀ v d G' H', Stp K B G H G' H' → Rp K B G' H' d v → (d.own → ∀ p, v = .ref p → H p = none) → post d → Q v H'
def CalO (P : Program) (w : World) (K : Kf) (mg : Str → Option Value) (base : Heap) (x : Str) (ps : List Str) (k : Nat) (C : Ct) : Prop := ∃ (f : Addr) (fd : FuncData), mg x = some (.ref f) ∧ FnOk P w K mg base CX0 k f fd ps (spDO K C) ∧ PySem.W.keepIn K (.ref f) = true ∧ Binds K fd ps []
/-- given up -/
def froz : D → D
  | .ol l => .py (.list l)
  | .od k => .dic k
  | d => d
section
variable {P : Program} {w : World} {K : Kf} {mg : Str → Option Value} {base : Heap}
theorem calDO {x : Str} {st : Stmt} {N ps : List Str} {k : Nat} {C : Ct} (d : Def K mg x st) (S : FnScope N ps (defScope st)) (len : ∀ B ds post, C B ds post → ds.length = ps.length ∧ ∀ d ∈ ds, ¬ d.own)
    (hb : ∀ (dV kV doc pm : Value) (an : Option Addr) (cdv ct : Value) (us : List Value), us.length = ps.length → bindArgs (PySem.W.fnOf x x (defArgs st) (defBody st) (defScope st) .none kV doc pm an cdv ct) ⟨us, []⟩ = pure (ps.zip us))
    (hbody : ∀ (f : Addr) (cdv : Value) (A : Around) (outer : List Env) (s : Shared) (H : Hp) (E : XK) (B : List Addr) (ds : List D) (post : D → Prop), Room k (A.deeper (envOfC x (defScope st) s.heap.objs.size f cdv)) → C B ds post →
      ∃ t, PDSs (cxOf CX0 P w K mg base N x (defScope st) f cdv A outer s H E).nox B H (defBody st) t ∧ t { nx := fun _ => post (.py .none), rt := post } (startS N.length ds)) : CalO P w K mg base x ps (k + 1) C := by
  obtain ⟨f, fd, hm, F⟩ := d
  refine ⟨f, fd, hm, F.ok S (fun vs H Q E h => ?_) (fun cdv A outer s H vs Q E hr h => ?_), F.kp, ?_⟩
  · obtain ⟨B, G, ds, post, _, r, c, _⟩ := h
    rw [← r.length]; exact (len B ds post c).1
  · obtain ⟨B, G, ds, post, wd, r, c, hq⟩ := h
    obtain ⟨t, ht, q⟩ := hbody f cdv A outer s H E B ds post hr c
    refine ⟨_, ht.nox, ⟨G, _, ⟨G, _, sl_start wd r (len B ds post c).2, Old.refl, q⟩, fun σ' H' ⟨G', S', h1, h2, h3⟩ => ?_, fun v H' ⟨G', d, h1, h2, h3, h5, h4⟩ => ?_, fun _ _ ⟨_, _, _, _, z⟩ => z, fun _ _ ⟨_, _, _, _, z⟩ => z⟩⟩
    · exact hq .non (.py .none) G' H' ⟨h2, h1.wd⟩ Rp.non (fun z => z.elim) h3
    · exact hq v d G' H' ⟨h2, h1⟩ h3 h5 h4
  · refine FunD.bindsN F ?_
    intro kV doc pm an cdv ct us hl
    exact hb .none kV doc pm an cdv ct us hl
theorem froz_ok {B : List Addr} {G H G' H' : Hp} {d : D} {v : V} (s : Stp K B G H G' H') (r : Rp K B G' H' d v) (h : d.own → ∀ p, v = .ref p → H p = none) : ∃ G'', Stp K B G H G'' H' ∧ Rp K B G'' H' (froz d) v := by
  cases d with
  | ol ds =>
    obtain ⟨p, vs, rfl, w1, w2, w3⟩ := r
    obtain ⟨r1, r2⟩ := release s.wd s.toOld w1.1 w1.2 w2 (h trivial p rfl)
    exact ⟨_, ⟨r2, r1⟩, Rp.ofDt (.lst upd_same (DtAll.up (Same.updN w1.1) w3))⟩
  | od ds =>
    obtain ⟨p, vs, rfl, w1, w2, w3⟩ := r
    obtain ⟨r1, r2⟩ := release s.wd s.toOld w1.1 w1.2 w2 (h trivial p rfl)
    exact ⟨_, ⟨r2, r1⟩, (show Rp K B (upd G' p (.dK vs)) H' (.dic ds) (.ref p) from ⟨p, vs, rfl, upd_same, KvR.up (Same.updN w1.1) w3⟩)⟩
  | py q => exact ⟨G', s, r⟩
  | raw q => exact ⟨G', s, r⟩
  | dic q => exact ⟨G', s, r⟩
  | ins p C q => exact ⟨G', s, r⟩
  | fn L => exact ⟨G', s, r⟩
theorem Cal.ofO {x : Str} {ps : List Str} {k : Nat} {C : Ct} (c : CalO P w K mg base x ps k C) : Cal P w K mg base x ps k (fun B ds post => C B ds fun d => post (froz d)) :=
  let ⟨f, fd, a, b, c, d⟩ := c
  ⟨f, fd, a, b.imp fun vs H Q E ⟨B, G, ds, post, h1, h2, h3, h4⟩ => ⟨B, G, ds, _, h1, h2, h3, fun v d G' H' s r o p => by
    obtain ⟨G'', s2, r2⟩ := froz_ok s r o
    exact h4 v _ G'' H' s2 r2 p⟩, c, d⟩
theorem CalO.mono {x : Str} {ps : List Str} {j k : Nat} {C : Ct} (c : CalO P w K mg base x ps j C) (h : j ≤ k) : CalO P w K mg base x ps k C :=
  let ⟨f, fd, a, b, c, d⟩ := c; ⟨f, fd, a, b.mono h, c, d⟩
end
def dSetO (i : Nat) (B : List Addr) (C : Ct) (a : DA) : DS := fun E S => a S fun xs => C B xs fun d => E.nx (S.set i (some d))
def dRetO (B : List Addr) (C : Ct) (a : DA) : DS := fun E S => a S fun xs => C B xs fun d => E.rt d
def dRetVO (i : Nat) : DS := fun E S => match S[i]? with
  | some (some d) => E.rt d
  | _ => False
section
variable {X : Cx} {B : List Addr} {H0 : Hp} {e : Expr} {es : List Expr} {ra : DA} {p pos pos' cp : Pos} {x y : Str}
theorem psd_setO {i : Nat} {ps : List Str} {j k : Nat} {C : Ct} (c : CalO X.prog X.w X.K X.mg X.base x ps j C) (hr : Room k X.A) (hN : X.N.Nodup) (hi : X.N[i]? = some y) (hy : Loc X.env.scope y) (ha : PDA X B H0 (e :: es) ra) (hjk : j ≤ k := by decide) (hg : Gl X x := by rfl) (hdb : (x == ("__debug__" : Str)) = false := by decide)
    (he : starEach (e :: es) X.env = (false, eval e X.env) :: starEach es X.env := by rfl) (hpl : (backTo cp (starEach es X.env)).any (·.1) = false := by rfl)
    (hs : swapsWith (.Call (.Name x p) (e :: es) [] cp) (some (.Name y pos')) pos.line X.env = pure false := by rfl) (hf : X.fn y = true ∨ X.env.scope.names.lookup y = some .local := by first | exact .inl rfl | exact .inr rfl | assumption) :
    PDS X B H0 (.Assign [.Name y pos'] (.Call (.Name x p) (e :: es) [] cp) pos) (dSetO i B C ra) := by
  obtain ⟨f, fd, hm, F, kp, b⟩ := c
  refine PSmono (ps_set hN hi hy (pe_call F (hr.mono hjk) hg hm kp b .nil pass0 ha hdb he hpl) hs hf) fun D σ H ⟨G0, E, ⟨G, S, hs, ho, hd⟩, q1, q2, q3, q4⟩ => ?_
  refine ⟨G, S, _, hs, hd, fun vs xs G1 H1 s1 r1 p1 => ?_⟩
  show spDO X.K C (vs ++ []) H1 _ _
  rw [List.append_nil]
  refine ⟨B, G1, xs, _, s1.wd, r1, p1, fun v d G' H' s2 r2 o2 p2 => q1 _ _ ?_⟩
  have s := s1.trans s2
  by_cases od : d.own
  · have : ∃ p, v = .ref p := by cases d with
      | ol _ => obtain ⟨p, _, h, _⟩ := r2; exact ⟨p, h⟩
      | od _ => obtain ⟨p, _, h, _⟩ := r2; exact ⟨p, h⟩
      | _ => exact od.elim
    obtain ⟨p, rfl⟩ := this
    have hp := o2 od p rfl
    refine ⟨G', _, (hs.step s).setOwn i r2 ((ho.trans s1.toOld).dom s1.wd hp) fun j dj hj oj ne e => ?_, ho.trans s.toOld, p2⟩
    obtain ⟨v, h1, h2, _⟩ := (hs.step s1).slot j dj hj
    rw [e] at h1; cases h1
    cases dj with
    | ol ds => obtain ⟨q, vs, e1, _, h3, _⟩ := h2; cases e1; rw [hp] at h3; cases h3
    | od ds => obtain ⟨q, vs, e1, _, h3, _⟩ := h2; cases e1; rw [hp] at h3; cases h3
    | _ => exact oj.elim
  · exact ⟨G', _, (hs.step s).set i r2 od, ho.trans s.toOld, p2⟩
theorem psd_retO {ps : List Str} {j k : Nat} {C : Ct} (c : CalO X.prog X.w X.K X.mg X.base x ps j C) (hr : Room k X.A) (ha : PDA X B H0 (e :: es) ra) (hjk : j ≤ k := by decide) (hg : Gl X x := by rfl) (hdb : (x == ("__debug__" : Str)) = false := by decide)
    (he : starEach (e :: es) X.env = (false, eval e X.env) :: starEach es X.env := by rfl) (hpl : (backTo cp (starEach es X.env)).any (·.1) = false := by rfl) :
    PDS X B H0 (.Return (some (.Call (.Name x p) (e :: es) [] cp)) pos) (dRetO B C ra) := by
  obtain ⟨f, fd, hm, F, kp, b⟩ := c
  refine PSmono (ps_ret (pe_call F (hr.mono hjk) hg hm kp b .nil pass0 ha hdb he hpl)) fun D σ H ⟨G0, E, ⟨G, S, hs, ho, hd⟩, q1, q2, q3, q4⟩ => ?_
  refine ⟨G, S, _, hs, hd, fun vs xs G1 H1 s1 r1 p1 => ?_⟩
  show spDO X.K C (vs ++ []) H1 _ _
  rw [List.append_nil]
  exact ⟨B, G1, xs, _, s1.wd, r1, p1, fun v d G' H' s2 r2 o2 p2 => q2 _ _ ⟨G', d, s2.wd, ho.trans (s1.trans s2).toOld, r2, fun od p e => (ho.trans s1.toOld).dom s1.wd (o2 od p e), p2⟩⟩
theorem psd_retVO (i : Nat) {x : Str} {p : Pos} (hN : X.N[i]? = some x := by rfl) (hv : Vis X.env.scope x := by first | exact Or.inl rfl | exact Or.inr (Or.inl rfl) | exact Or.inr (Or.inr rfl)) (hd : (x == ("__debug__" : Str)) = false := by decide)
    (hcd : (x == ("__classdict__" : Str)) = false := by decide) : PDS X B H0 (.Return (some (.Name x p)) pos) (dRetVO i) := PSmono (ps_ret (pe_var hN hv hd hcd)) fun D σ H ⟨G0, E, ⟨G, S, hs, ho, hd⟩, q1, q2, q3, q4⟩ => by
  unfold dRetVO at hd
  split at hd
  · next d e =>
    obtain ⟨v, h1, h2, h3⟩ := hs.slot i _ e
    exact ⟨v, h1, q2 _ _ ⟨G, _, hs.wd, ho, h2, h3, hd⟩⟩
  · exact hd.elim
end
end DL
/- ==== DLk ==== -/
/-! DLk: cuts. -/
namespace DL
open PySem PySem.Spec PyProof.Rows L2 RZ
variable {α : Type}
theorem take_min (xs : List α) (n : Nat) : xs.take (min n xs.length) = xs.take n := by
  by_cases h : n ≤ xs.length
  · rw [Nat.min_eq_left h]
  · rw [Nat.min_eq_right (by omega), List.take_length, List.take_of_length_le (by omega)]
theorem drop_min (xs : List α) (n : Nat) : xs.drop (min n xs.length) = xs.drop n := by
  by_cases h : n ≤ xs.length
  · rw [Nat.min_eq_left h]
  · rw [Nat.min_eq_right (by omega), List.drop_length, List.drop_of_length_le (by omega)]
theorem cut_to (xs : List α) (n : Nat) : cutG xs none (some (n : Int)) = xs.take n := by
  unfold cutG
  rw [HT.sIx_none, HT.sIx_nat, List.drop_zero, Nat.sub_zero, take_min]
theorem cut_from (xs : List α) (n : Nat) : cutG xs (some (n : Int)) none = xs.drop n := by
  unfold cutG
  rw [HT.sIx_none, HT.sIx_nat, drop_min, List.take_of_length_le]
  rw [List.length_drop]; omega
theorem cut_mid (xs : List α) (a b : Nat) : cutG xs (some (a : Int)) (some (b : Int)) = (xs.drop a).take (b - a) := by
  unfold cutG
  rw [HT.sIx_nat, HT.sIx_nat, drop_min]
  have hd : (xs.drop a).length = xs.length - a := List.length_drop
  by_cases h : b ≤ xs.length
  · by_cases h2 : a ≤ xs.length
    · rw [Nat.min_eq_left h, Nat.min_eq_left h2]
    · rw [List.drop_of_length_le (by omega), List.take_nil, List.take_nil]
  · rw [List.take_of_length_le (by omega), List.take_of_length_le (by omega)]
theorem cut_last (xs : List α) : cutG xs none (some (-1 : Int)) = xs.take (xs.length - 1) := by
  unfold cutG HT.sIx
  show (xs.drop 0).take ((if (-1 : Int) < 0 then ((-1 : Int) + (xs.length : Int)).toNat else min (-1 : Int).toNat xs.length) - 0) = _
  rw [if_pos (by decide), List.drop_zero]
  congr 1; omega
theorem if_ndec {c : Prop} [Decidable c] {A B : Prop} (h1 : ¬ c → A) (h2 : c → B) : if (!decide c) = true then A else B := by
  by_cases h : c
  · rw [if_neg (by simp [h])]; exact h2 h
  · rw [if_pos (by simp [h])]; exact h1 h
theorem if_nb {c : Bool} {A B : Prop} (h1 : c = false → A) (h2 : c = true → B) : if (!c) = true then A else B := by
  cases c with
  | true => rw [if_neg (by decide)]; exact h2 rfl
  | false => exact h1 rfl
theorem all_lc {ds : List PyData} {post : D → Prop} (g : PyData → Bool) (R : PyData → (D → Prop) → Prop) (hl : ds.length ≤ 16000000) (hR : ∀ (i : Nat) (d : PyData), ds[i]? = some d → ∀ p : D → Prop, p (.py (.bool (g d))) → R d p) (hp : post (.py (.bool (ds.all g)))) :
    ∃ Iv : Nat → List PyData → Prop, Iv 0 [] ∧ (∀ (i : Nat) (d : PyData) (acc : List PyData), ds[i]? = some d → Iv i acc → R d (fun y => match y with | .py q => acc.length < 16000000 ∧ Iv (i + 1) (acc ++ [q]) | _ => False)) ∧
      ∀ acc, Iv ds.length acc → ∃ bs : List Bool, some acc = some (bs.map PyData.bool) ∧ post (.py (.bool (bs.all id))) := by
  refine ⟨fun i acc => acc = ((ds.map fun d => PyData.bool (g d))).take i, rfl, ?_, ?_⟩
  · rintro i d acc hi rfl
    have key : (ds.map fun d => PyData.bool (g d))[i]? = some (PyData.bool (g d)) := by rw [List.getElem?_map, hi]; rfl
    refine hR i d hi _ ⟨?_, (take_more key).symm⟩
    rw [List.length_take, List.length_map]
    have := (List.getElem?_eq_some_iff.mp hi).1
    omega
  · rintro acc rfl
    refine ⟨ds.map g, ?_, ?_⟩
    · rw [List.take_of_length_le (by rw [List.length_map]; exact Nat.le_refl _), List.map_map]; rfl
    · rw [List.all_map]; exact hp
/-- a comprehension that computes each element -/
theorem map_lc {ds : List PyData} {post : List PyData → Prop} (g : PyData → PyData) (R : PyData → (D → Prop) → Prop) (hl : ds.length ≤ 16000000) (hR : ∀ (i : Nat) (d : PyData), ds[i]? = some d → ∀ p : D → Prop, p (.py (g d)) → R d p) (hp : post (ds.map g)) :
    ∃ Iv : Nat → List PyData → Prop, Iv 0 [] ∧ (∀ (i : Nat) (d : PyData) (acc : List PyData), ds[i]? = some d → Iv i acc → R d (fun y => match y with | .py q => acc.length < 16000000 ∧ Iv (i + 1) (acc ++ [q]) | _ => False)) ∧
      ∀ acc, Iv ds.length acc → post acc := by
  refine ⟨fun i acc => acc = (ds.map g).take i, rfl, ?_, ?_⟩
  · rintro i d acc hi rfl
    have key : (ds.map g)[i]? = some (g d) := by rw [List.getElem?_map, hi]; rfl
    refine hR i d hi _ ⟨?_, (take_more key).symm⟩
    rw [List.length_take, List.length_map]
    have := (List.getElem?_eq_some_iff.mp hi).1
    omega
  · rintro acc rfl
    rw [List.take_of_length_le (by rw [List.length_map]; exact Nat.le_refl _)]; exact hp
end DL
/- ==== DLl ==== -/
/-! DLl: the keys of a dict, sorted, any number of them; dicts by key. -/
namespace DL
open PySem PySem.Spec PyProof.Rows L2 RZ
def rSortD : List V → Hp → VK → Prop := fun xs H Q => ∃ (a : Addr) (kvs : List (Key × V)) (ks : List Int), xs = [.ref a] ∧ Rd H a (.dK kvs) ∧ kvs.map (·.1) = ks.map Sum.inl ∧ ks.length ≤ sizeLine ∧
    ∀ (ys : List Int) (p : Addr), ys.Perm ks → ys.Pairwise (· ≤ ·) → H p = none → Q (.ref p) (upd H p (.lst (ys.map V.int)))
theorem cr_sortedD {X : Cx} (hcalm : X.calm = true) : CallR X (.builtin "sorted") rSortD := by
  rintro pins s σ H xs us Q I r ⟨a, kvs, ks, rfl, hd, hks, hz, q⟩
  rw [Vals.ref1 r]
  obtain ⟨z, lo, vs, rel, dd⟩ := dk_rd I.hok hd
  obtain ⟨ep, hat⟩ := dd.dictAt
  have hkeys : vs.map (·.1) = ks.map Sum.inl := rel.keys.symm.trans hks
  have hl : vs.length = ks.length := by
    have e := congrArg List.length hkeys
    simpa using e
  refine Calls.call_function_entry PyProof.Rows.kind_sorted PyProof.Rows.plain_sorted PyProof.Rows.entry_sorted (PyProof.Rows.args_sorted1 _) ?_
  unfold Builtin.«sorted»
  refine wpAny_bind (m := checkCount "sorted" 1 1 _) (wpAny_pure ?_)
  refine wpAny_bind (PySem.W.kdu_collect (A := X.A.in1) (PySem.W.kdl_dict (knd := mixKind X.prog X.w) (kvs := vs) (ep := ep) lo) (I.ok.hd hcalm) hat (by rw [hl]; exact hz) fun h' tk acc hk hacc => ?_)
  have hal : acc.toList.length = ks.length := by rw [Array.length_toList, hacc.1, hl]
  have hi : IntsAre acc.toList ks := ints_each hal fun j v e => by
    obtain ⟨k, x, e1, e2⟩ := hacc.2 j v (by rw [← Array.getElem?_toList]; exact e)
    have e3 : (ks.map (Sum.inl : Int → Key))[j]? = some k := by rw [← hkeys, List.getElem?_map, e1]; rfl
    rw [List.getElem?_map] at e3
    cases e4 : ks[j]? with
    | none => rw [e4] at e3; cases e3
    | some y =>
      rw [e4] at e3
      obtain rfl : Sum.inl y = k := Option.some.inj e3
      rcases keyIs_shape (show keyIs (Sum.inl y) v = true from e2) with ⟨i, t, ek, ev⟩ | ⟨z, t, ek, ev⟩
      · cases ek
        exact ⟨y, t, rfl, ev⟩
      · cases ek
  have I1 : Inv X pins σ H { s with heap := h', toks := tk } := I.kept hk
  refine wpAny_bind (wpAny_newList ?_ (by rw [hal]; exact hz))
  have hoL : (h'.push (seqObj "list" acc.toList.toArray 0)).get? h'.objs.size = some (seqObj "list" acc.toList.toArray 0) := Heap.get?_push_size _ rfl
  show wpAny _ _ _ _ _ { s with heap := h'.push (seqObj "list" acc.toList.toArray 0), toks := tk }
  refine wpAny_bind (wpAny_holding (wpAny_call_entry PyProof.Rows.slot_list_sort ⟨_, hoL, rfl⟩ PyProof.Rows.entry_list_sort
    (SrtO.list_sort_ord (s := { s with heap := h'.push (seqObj "list" acc.toList.toArray 0), toks := tk }) SrtO.swo_int hoL (by rw [hal]; exact hz) (fun h2 => SrtO.ints_sortable hi h2) fun out h1 h2 => ⟨_, rfl, ?_⟩) (PyProof.Rows.args_list_sort _)))
  obtain ⟨k1, k2, k3⟩ := SrtO.ints_out hi h1 h2
  obtain ⟨e', he'⟩ := PyProof.Rows.sortedHeap_at (vs := acc.toList) (out := out.toArray) hoL
  have hlen : ((out.map SrtO.iv).map V.int).length ≤ sizeLine := by
    rw [List.length_map, k2.length_eq]; exact hz
  refine wpAny_pure ⟨_, rfl, .ref h'.objs.size, upd H h'.objs.size (.lst ((out.map SrtO.iv).map V.int)), I1.laid (t' := tk) (fun b u e => ?_) (Nat.le_refl _)
    (show ObjOk X.prog X.w _ _ _ (.lst ((out.map SrtO.iv).map V.int)) from ⟨hlen, out, e', vals_of_ints k1, he'⟩), rfl, q _ _ k2 k3 (I1.hok.fresh (Nat.le_refl _))⟩
  have hb : b < h'.objs.size := Heap.lt_size e
  rw [PyProof.Rows.sortedHeap_old (Nat.ne_of_lt hb) (by rw [size_push']; exact Nat.lt_succ_of_lt hb)]
  exact Heap.get?_push_of_some _ e
def intKs (kvs : List (Key × PyData)) (ks : List Int) : Prop := kvs.map (·.1) = ks.map Sum.inl
def cSortD : List D → (D → Prop) → Prop := fun xs post => match xs with
  | [x] => match x.kvs with
    | some kvs => ∃ ks : List Int, intKs kvs ks ∧ ks.length ≤ 16000000 ∧ ∀ ys : List Int, ys.Perm ks → ys.Pairwise (· ≤ ·) → post (.py (.list (ys.map PyData.int)))
    | none => False
  | _ => False
theorem kv_keys {κ : Type} {K : Kf} {G : Hp} {vs : List (κ × V)} {kvs : List (κ × PyData)} (r : KvR K G vs kvs) : vs.map (·.1) = kvs.map (·.1) := by
  unfold KvR at r
  induction r with
  | nil => rfl
  | cons h _ ih => rw [List.map_cons, List.map_cons, ih, h.1]
theorem cd_sortedD {K : Kf} {B : List Addr} : CallD K B rSortD cSortD := fun G H xs dxs post Q w r hf hq => by
  unfold cSortD at hf
  split at hf
  · next x =>
    cases r with
    | cons rx rn =>
      cases rn
      split at hf
      · next kvs e =>
        obtain ⟨ks, h1, h2, hf⟩ := hf
        obtain ⟨p, vs, rfl, g1, g2⟩ := rp_kvs w rx e
        refine ⟨p, vs, ks, rfl, .inl g1, (kv_keys g2).trans h1, by rw [sizeLine_eq]; omega, fun ys p k1 k2 hp => ?_⟩
        exact hq _ _ _ _ (Stp.new w hp _) (Rp.ofDt (Dt.newL (w.sub.free hp) (DtAll.ofInts ys))) (hf ys k1 k2)
      · exact hf.elim
  · exact hf.elim
section
variable {X : Cx} {B : List Addr} {H0 : Hp} {e : Expr} {de : DE} {p pos : Pos}
theorem pd_sortedD (T : Bl X.mg) (hc : X.calm = true) (ha : PD X B H0 e de) (hg : Gl X "sorted" := by rfl) (s2 : starEach [e] X.env = (false, eval e X.env) :: starEach [] X.env := by rfl) (hpl : (backTo pos (starEach [] X.env)).any (·.1) = false := by rfl) : PD X B H0 (.Call (.Name "sorted" p) [e] [] pos) (dCB cSortD (dCons de dNil)) :=
  pd_callB (cr_sortedD hc) cd_sortedD hg T.sorted bo_sorted (pda_cons ha pda_nil s2) (by decide) (by decide) s2 hpl
end
/-! values by key -/
section
variable {κ : Type} [DecidableEq κ]
theorem valD_cons (p : κ × PyData) (l : List (κ × PyData)) (k : κ) : valD (p :: l) k = if p.1 = k then some p.2 else valD l k := by
  unfold valD
  rw [List.find?_cons]
  by_cases h : p.1 = k
  · rw [decide_eq_true h, if_pos h]; rfl
  · rw [decide_eq_false h, if_neg h]
theorem valD_nil (k : κ) : valD ([] : List (κ × PyData)) k = none := rfl
theorem valD_mem (k : κ) : ∀ kvs : List (κ × PyData), (valD kvs k).isSome = true ↔ k ∈ kvs.map (·.1)
  | [] => ⟨fun h => (by cases h), fun h => (by cases h)⟩
  | p :: l => by
    have ih := valD_mem k l
    rw [valD_cons, List.map_cons, List.mem_cons]
    by_cases h : p.1 = k
    · rw [if_pos h]; exact ⟨fun _ => .inl h.symm, fun _ => rfl⟩
    · rw [if_neg h, ih]
      exact ⟨.inr, fun z => z.resolve_left fun e => h e.symm⟩
theorem any_key (k : κ) (kvs : List (κ × PyData)) : (kvs.any fun kv => decide (kv.1 = k)) = true ↔ k ∈ kvs.map (·.1) := by
  rw [List.any_eq_true, List.mem_map]
  exact ⟨fun ⟨x, h1, h2⟩ => ⟨x, h1, of_decide_eq_true h2⟩, fun ⟨x, h1, h2⟩ => ⟨x, h1, decide_eq_true h2⟩⟩
theorem valD_upd (k k' : κ) (v : PyData) : ∀ kvs : List (κ × PyData), k ∈ kvs.map (·.1) → valD (kvs.map (fun kv => if kv.1 = k then (kv.1, v) else kv)) k' = if k' = k then some v else valD kvs k'
  | [], h => by cases h
  | p :: l, h => by
    rw [List.map_cons, valD_cons, valD_cons]
    by_cases hp : p.1 = k
    · rw [if_pos hp]
      by_cases hk : k' = k
      · rw [if_pos hk, if_pos (hp.trans hk.symm)]
      · have n1 : ¬ p.1 = k' := fun e => hk (e.symm.trans hp)
        rw [if_neg hk, if_neg n1, if_neg n1]
        by_cases hl : k ∈ l.map (·.1)
        · rw [valD_upd k k' v l hl, if_neg hk]
        · congr 1
          have : ∀ x ∈ l, (if x.1 = k then (x.1, v) else x) = x := fun x hx => if_neg fun e => hl (List.mem_map.mpr ⟨x, hx, e⟩)
          rw [List.map_congr_left this, List.map_id']
    · rw [if_neg hp]
      have hl : k ∈ l.map (·.1) := by
        rcases List.mem_cons.mp h with e | e
        · exact absurd e.symm hp
        · exact e
      rw [valD_upd k k' v l hl]
      by_cases h1 : p.1 = k'
      · rw [if_pos h1, if_pos h1, if_neg (fun e => hp (h1.trans e))]
      · rw [if_neg h1, if_neg h1]
theorem valD_app (k k' : κ) (v : PyData) : ∀ kvs : List (κ × PyData), k ∉ kvs.map (·.1) → valD (kvs ++ [(k, v)]) k' = if k' = k then some v else valD kvs k'
  | [], _ => by
    rw [List.nil_append, valD_cons]
    by_cases h : k = k'
    · rw [if_pos h, if_pos h.symm]
    · rw [if_neg h, if_neg (fun e => h e.symm)]
  | p :: l, h => by
    rw [List.map_cons, List.mem_cons] at h
    rw [List.cons_append, valD_cons, valD_cons, valD_app k k' v l (fun e => h (.inr e))]
    by_cases h1 : p.1 = k'
    · rw [if_pos h1, if_pos h1, if_neg (fun e => h (.inl (h1.trans e).symm))]
    · rw [if_neg h1, if_neg h1]
theorem valD_putD (kvs : List (κ × PyData)) (k k' : κ) (v : PyData) : valD (putD kvs k v) k' = if k' = k then some v else valD kvs k' := by
  unfold putD
  by_cases h : (kvs.any fun kv => decide (kv.1 = k)) = true
  · rw [if_pos h, valD_upd k k' v kvs ((any_key k kvs).mp h)]
  · rw [if_neg h, valD_app k k' v kvs (fun e => h ((any_key k kvs).mpr e))]
theorem putD_keys (kvs : List (κ × PyData)) (k : κ) (v : PyData) : (putD kvs k v).map (·.1) = if k ∈ kvs.map (·.1) then kvs.map (·.1) else kvs.map (·.1) ++ [k] := by
  unfold putD
  by_cases h : (kvs.any fun kv => decide (kv.1 = k)) = true
  · rw [if_pos h, if_pos ((any_key k kvs).mp h), List.map_map]
    refine List.map_congr_left fun x _ => ?_
    show (if x.1 = k then (x.1, v) else x).1 = x.1
    split <;> rfl
  · rw [if_neg h, if_neg (fun e => h ((any_key k kvs).mpr e)), List.map_append]; rfl
theorem putD_len (kvs : List (κ × PyData)) (k : κ) (v : PyData) : (putD kvs k v).length ≤ kvs.length + 1 := by
  have := congrArg List.length (putD_keys kvs k v)
  rw [List.length_map] at this
  rw [this]
  split
  · rw [List.length_map]; omega
  · rw [List.length_append, List.length_map]; exact Nat.le_refl _
end
theorem lt64 {a b : Nat} (h : a + 64 < b) : a + 1 < b := by omega
end DL
/- ==== DLm ==== -/
/-! DLm: lists and tuples of a range. -/
namespace DL
open PySem PySem.Spec PyProof.Rows L2 RZ
def rgP (a b : Int) : List PyData := (List.range (b - a).toNat).map fun i => PyData.int (a + (i : Nat))
theorem rgP_dt {K : Kf} {G : Hp} (a b : Int) : DtAll K G (rgV a b) (rgP a b) := by
  unfold rgV rgP
  generalize List.range (b - a).toNat = l
  induction l with
  | nil => exact .nil
  | cons x l ih => exact .cons (.int _) ih
def dRg (mk : List PyData → PyData) (a b : DE) : DE := fun S post => a S fun x => b S fun y => match x, y with
  | .py (.int i), .py (.int j) => RgOk i j ∧ post (.py (mk (rgP i j)))
  | _, _ => False
def dZero : DE := fun S post => post (.py (.int 0))
section
variable {X : Cx} {B : List Addr} {H0 : Hp} {a b : Expr} {da db : DE} {p pos rp rpos : Pos}
theorem rg_lift2 {mk : List V → HO} {mkP : List PyData → PyData} (hm : ∀ {G : Hp} {q : Addr} {vs ds}, G q = none → DtAll X.K G vs ds → Dt X.K (upd G q (mk vs)) (.ref q) (mkP ds)) {σ : L2.St} {H : Hp} {Q : VK}
    (h : lE X.K B H0 (dRg mkP da db) σ H Q) : tRg2 (lE X.K B H0 da) (lE X.K B H0 db) σ H fun i j H1 => RgOk i j ∧ ∀ q, H1 q = none → Q (.ref q) (upd H1 q (mk (rgV i j))) := by
  obtain ⟨G, S, post, hs, hd, hq⟩ := h
  refine ⟨G, S, _, hs, hd, fun x dx G1 H1 s1 r1 p1 => ⟨G1, S, _, hs.step s1, p1, fun y dy G2 H2 s2 r2 p2 => ?_⟩⟩
  split at p2
  · next i j =>
    cases r1; cases r2
    exact ⟨_, _, rfl, rfl, p2.1, fun q hq2 => hq _ _ _ _ ((s1.trans s2).trans (Stp.new s2.wd hq2 _)) (Rp.ofDt (hm (s2.wd.sub.free hq2) (rgP_dt _ _))) p2.2⟩
  · exact p2.elim
theorem rg_lift1 {mk : List V → HO} {mkP : List PyData → PyData} (hm : ∀ {G : Hp} {q : Addr} {vs ds}, G q = none → DtAll X.K G vs ds → Dt X.K (upd G q (mk vs)) (.ref q) (mkP ds)) {σ : L2.St} {H : Hp} {Q : VK}
    (h : lE X.K B H0 (dRg mkP dZero db) σ H Q) : tRg1 (lE X.K B H0 db) σ H fun i j H1 => RgOk i j ∧ ∀ q, H1 q = none → Q (.ref q) (upd H1 q (mk (rgV i j))) := by
  obtain ⟨G, S, post, hs, hd, hq⟩ := h
  refine ⟨G, S, _, hs, hd, fun y dy G2 H2 s2 r2 p2 => ?_⟩
  cases dy with
  | py q =>
    cases q with
    | int n =>
      cases r2
      exact ⟨_, rfl, p2.1, fun q hq2 => hq _ _ _ _ (s2.trans (Stp.new s2.wd hq2 _)) (Rp.ofDt (hm (s2.wd.sub.free hq2) (rgP_dt _ _))) p2.2⟩
    | _ => exact p2.elim
  | _ => exact p2.elim
theorem pd_listRg2 (T : Bl X.mg) (hc : X.calm = true) (ha : PD X B H0 a da) (hb : PD X B H0 b db) (hg : Gl X "list" := by rfl) (hgr : Gl X "range" := by rfl) (na : starEach [a, b] X.env = (false, eval a X.env) :: starEach [b] X.env := by rfl)
    (nb : starEach [b] X.env = (false, eval b X.env) :: starEach [] X.env := by rfl) (hp : (backTo rpos (starEach [b] X.env)).any (·.1) = false := by rfl)
    (nr : starEach [.Call (.Name "range" rp) [a, b] [] rpos] X.env = (false, eval (.Call (.Name "range" rp) [a, b] [] rpos) X.env) :: starEach [] X.env := by rfl) : PD X B H0 (.Call (.Name "list" p) [.Call (.Name "range" rp) [a, b] [] rpos] [] pos) (dRg .list da db) :=
  PEmono (pe_listRg hc hg T.list (prg_2 hgr T.range ha hb na nb hp) nr) fun σ H Q h => rg_lift2 (fun h1 h2 => Dt.newL h1 h2) h
theorem pd_tupRg2 (T : Bl X.mg) (hc : X.calm = true) (ha : PD X B H0 a da) (hb : PD X B H0 b db) (hg : Gl X "tuple" := by rfl) (hgr : Gl X "range" := by rfl) (na : starEach [a, b] X.env = (false, eval a X.env) :: starEach [b] X.env := by rfl)
    (nb : starEach [b] X.env = (false, eval b X.env) :: starEach [] X.env := by rfl) (hp : (backTo rpos (starEach [b] X.env)).any (·.1) = false := by rfl)
    (nr : starEach [.Call (.Name "range" rp) [a, b] [] rpos] X.env = (false, eval (.Call (.Name "range" rp) [a, b] [] rpos) X.env) :: starEach [] X.env := by rfl) : PD X B H0 (.Call (.Name "tuple" p) [.Call (.Name "range" rp) [a, b] [] rpos] [] pos) (dRg .tuple da db) :=
  PEmono (pe_tupRg hc hg T.tuple (prg_2 hgr T.range ha hb na nb hp) nr) fun σ H Q h => rg_lift2 (fun h1 h2 => Dt.newT h1 h2) h
theorem pd_listRg1 (T : Bl X.mg) (hc : X.calm = true) (hb : PD X B H0 b db) (hg : Gl X "list" := by rfl) (hgr : Gl X "range" := by rfl) (nb : starEach [b] X.env = (false, eval b X.env) :: starEach [] X.env := by rfl)
    (nr : starEach [.Call (.Name "range" rp) [b] [] rpos] X.env = (false, eval (.Call (.Name "range" rp) [b] [] rpos) X.env) :: starEach [] X.env := by rfl) : PD X B H0 (.Call (.Name "list" p) [.Call (.Name "range" rp) [b] [] rpos] [] pos) (dRg .list dZero db) :=
  PEmono (pe_listRg hc hg T.list (prg_1 hgr T.range hb nb) nr) fun σ H Q h => rg_lift1 (fun h1 h2 => Dt.newL h1 h2) h
end
end DL
/- ==== DLn ==== -/
/-! DLn: readings step by step; data that compares. -/
namespace DL
open PySem PySem.Spec PyProof.Rows L2 RZ
theorem seq_gen {a b : DS} {E : DEnds} {S : Slots} (h : ∀ R : Slots → Prop, R = b E → a { E with nx := R } S) : dSeq a b E S := h _ rfl
theorem seq_back {b : DS} {E : DEnds} {S S' : Slots} {R : Slots → Prop} (hR : R = b E) (e : S = S') (h : b E S') : R S := by subst e; rw [hR]; exact h
theorem for_gen {di : DI} {g : DG} {b : DS} {E : DEnds} {S : Slots} (h : ∀ Bd : DS, Bd = b → dFor di g Bd E S) : dFor di g b E S := h _ rfl
theorem if_gen {c : DT} {a b : DS} {E : DEnds} {S : Slots} (h : ∀ A B : DS, A = a → B = b → dIfS c A B E S) : dIfS c a b E S := h _ _ rfl rfl
theorem body_back {b Bd : DS} {E : DEnds} {S S' : Slots} (hR : Bd = b) (e : S = S') (h : b E S') : Bd E S := by subst e; rw [hR]; exact h
theorem strOk_sub {s : Str} (h : ∀ c ∈ s.cps.toList, c ∈ ("abcdefghijklmnopqrstuvwxyz" : Str).cps.toList) : PyData.strOk s = true := by
  unfold PyData.strOk
  rw [← Array.all_toList, List.all_eq_true]
  have key : ∀ c ∈ ("abcdefghijklmnopqrstuvwxyz" : Str).cps.toList, decide (c < 0x110000) = true := by decide +kernel
  exact fun c hc => key c (h c hc)
/-- data that compares, k levels deep at most -/
def Shp (k : Nat) (d : PyData) : Prop := d.canLay0 = true ∧ d.depth ≤ k
theorem Shp.int {k : Nat} (i : Int) : Shp k (.int i) := ⟨by simp only [PyData.canLay0], by simp only [PyData.depth]; omega⟩
theorem Shp.bool {k : Nat} (i : Bool) : Shp k (.bool i) := ⟨by simp only [PyData.canLay0], by simp only [PyData.depth]; omega⟩
theorem Shp.none {k : Nat} : Shp k .none := ⟨by simp only [PyData.canLay0], by simp only [PyData.depth]; omega⟩
theorem Shp.str {k : Nat} {s : Str} (h : PyData.strOk s = true) : Shp k (.str s) := ⟨by simp only [PyData.canLay0]; exact h, by simp only [PyData.depth]; omega⟩
theorem Shp.all {k : Nat} : ∀ {l : List PyData}, (∀ x ∈ l, Shp k x) → PyData.canLayAll0 l = true ∧ PyData.depthAll l ≤ k
  | [], _ => ⟨by simp only [PyData.canLayAll0], by simp only [PyData.depthAll]; omega⟩
  | x :: l, h => by
    obtain ⟨h1, h2⟩ := Shp.all (l := l) fun y hy => h y (List.mem_cons_of_mem _ hy)
    obtain ⟨k1, k2⟩ := h x (List.mem_cons_self ..)
    exact ⟨by simp only [PyData.canLayAll0, h1, k1, Bool.and_self], by simp only [PyData.depthAll]; omega⟩
theorem Shp.list {k : Nat} {l : List PyData} (h : ∀ x ∈ l, Shp k x) : Shp (k + 1) (.list l) := ⟨by simp only [PyData.canLay0]; exact (Shp.all h).1, by simp only [PyData.depth]; have := (Shp.all h).2; omega⟩
theorem Shp.tuple {k : Nat} {l : List PyData} (h : ∀ x ∈ l, Shp k x) : Shp (k + 1) (.tuple l) := ⟨by simp only [PyData.canLay0]; exact (Shp.all h).1, by simp only [PyData.depth]; have := (Shp.all h).2; omega⟩
theorem Shp.ok {k : Nat} {d : PyData} (h : Shp k d) (hk : k ≤ 64 := by decide) : SeqAt.shaped d = true := by
  unfold SeqAt.shaped
  rw [h.1, decide_eq_true (Nat.le_trans h.2 hk)]; rfl
theorem Shp.strs {k : Nat} {l : List Str} (h : ∀ s ∈ l, PyData.strOk s = true) : Shp (k + 1) (.list (l.map PyData.str)) := .list fun x hx => by
  obtain ⟨s, hs, rfl⟩ := List.mem_map.mp hx
  exact .str (h s hs)
theorem Shp.ints {k : Nat} {l : List Int} : Shp (k + 1) (.list (l.map PyData.int)) := .list fun x hx => by
  obtain ⟨s, hs, rfl⟩ := List.mem_map.mp hx
  exact .int s
theorem Shp.intsT {k : Nat} {l : List Int} : Shp (k + 1) (.tuple (l.map PyData.int)) := .tuple fun x hx => by
  obtain ⟨s, hs, rfl⟩ := List.mem_map.mp hx
  exact .int s
theorem ne_pass {d e : PyData} {A B : Prop} (hs : SeqAt.shaped d = true) (h : e = d) (hB : B) : SeqAt.shaped d = true ∧ SeqAt.shaped e = true ∧ if (!PyData.eqv d e) = true then A else B := by
  subst h
  refine ⟨hs, hs, ?_⟩
  rw [SeqAt.eqv_refl _ (SeqAt.canLay_of_shaped hs)]
  exact hB
/-- d.get(k, z) -/
def getV (kvs : List (Key × PyData)) (k : Key) (z : D) (post : D → Prop) : Prop := match valD kvs k with
  | some q => post (.py q)
  | none => post z
theorem dDget_eq (a b c : DE) : dDget a b c = fun S post => a S fun x => match x.kvs with
    | some kvs => b S fun y => c S fun z => match keyD y with
      | some k => getV kvs k z post
      | none => False
    | none => False := rfl
end DL
/- ==== DLo ==== -/
/-! DLo: the least of a list of pairs (an int and a text). -/
namespace DL
open PySem PySem.Spec PyProof.Rows L2 RZ
/-- comparing items where the heap h0 still stands, but for some places -/
def CmpIn (prog : Program) (w : World) (A : Around) (P : Nat → Value → Prop) (bt : Nat → Nat → Bool) (no : Addr → Prop) (h0 : Heap) : Prop :=
  ∀ i j vi vj (s : Shared) (Q : Value → Shared → Prop) (E : Value → Shared → Prop), (∀ b o, ¬ no b → h0.get? b = some o → s.heap.get? b = some o) → P i vi → P j vj → Q (.bool (bt i j)) s → wpAny (model prog w) A (richCompare .Lt vi vj) Q E s
section
variable {prog : Program} {w : World} {A : Around} {I : Addr} {fp wr : List Addr} {n : Nat} {P : Nat → Value → Prop} {St : Nat → Heap → Prop}
theorem least_turn (W : Walks prog w A.in1 I fp wr n P St) (bt : Nat → Nat → Bool) (S : Addr) (h0 : Heap) (hc : CmpIn prog w A.in1 P bt (fun b => b ∈ wr ∨ b = S) h0) (hSf : S ∉ fp) {R : Result → Shared → Prop} (g : Array GenState) (dr : _) (os : _)
    (hR : ∀ v h' tk, P (argBest bt (n - 1)) v → (∀ b o, ¬ (b ∈ wr ∨ b = S) → h0.get? b = some o → h'.get? b = some o) → R (.ok (.ret v)) ⟨h', g, dr, tk, os⟩) :
    ∀ (k j : Nat) (h1 : Heap) (t1 : Nat) (vb : Value) (c : Nat), n - (j + 1) = k → j + 1 ≤ n → (∀ b o, ¬ (b ∈ wr ∨ b = S) → h0.get? b = some o → h1.get? b = some o) → St (j + 1) h1 → P (argBest bt j) vb →
    h1.get? S = some { cls := .type "list", dict := none, data := .seq #[vb, vb] c, slots := #[] } →
    codeAny (model prog w) A (.builtin "min.loop" ⟨[.ref I, .none, .ref S], []⟩) R ⟨h1, g, dr, t1, os⟩ := by
  have hSw : S ∉ wr := fun z => hSf (W.sub _ z)
  have nm : (toString "min" ++ toString ".loop" : String) = "min.loop" := by decide
  intro k
  induction k with
  | zero =>
    intro j h1 t1 vb c hk hj hx hst hb hS
    have hn : j + 1 = n := by omega
    subst hn
    refine codeAny_builtin F.entry_min_loop ?_
    rw [Around.under_plainId F.plain_min_loop _]
    refine wpAny_bind (wpAny_seqItems (s := ⟨h1, g, dr, t1, os⟩) hS rfl (wpAny_bind (wpAny_tryCatch (W.done ⟨h1, g, dr, t1, os⟩ _ _ hst fun h' tk hk' => ?_))))
    refine wpAny_bind (wpAny_updateSeq (s := ⟨h', g, dr, tk, os⟩) (hk' S _ hSw hS) rfl (wpAny_bind (wpAny_letGo (wpAny_pure ?_))))
    refine hR vb _ tk hb fun b o hn e => ?_
    exact (Heap.get?_update_other _ _ fun z => hn (.inr z.symm)).trans (hk' b o (fun z => hn (.inl z)) (hx b o hn e))
  | succ k ih =>
    intro j h1 t1 vb c hk hj hx hst hb hS
    have hlt : j + 1 < n := by omega
    refine codeAny_builtin F.entry_min_loop ?_
    rw [Around.under_plainId F.plain_min_loop _]
    refine wpAny_bind (wpAny_seqItems (s := ⟨h1, g, dr, t1, os⟩) hS rfl (wpAny_bind (wpAny_tryCatch (W.item (j + 1) ⟨h1, g, dr, t1, os⟩ _ _ hlt hst fun v h' tk hP hst' hk' => ?_))))
    have hS' := hk' S _ hSw hS
    have hx' : ∀ b o, ¬ (b ∈ wr ∨ b = S) → h0.get? b = some o → h'.get? b = some o := fun b o hn e => hk' b o (fun z => hn (.inl z)) (hx b o hn e)
    show wpAny _ A.in1 (tryCatch (holding [v, v] (richCompare .Lt v vb >>= _)) _ >>= _) _ _ ⟨h', g, dr, tk, os⟩
    refine wpAny_bind (wpAny_tryCatch (wpAny_holding (wpAny_bind (hc (j + 1) (argBest bt j) v vb ⟨h', g, dr, tk, os⟩ _ _ hx' hP hb ?_))))
    refine wpAny_bind (wpAny_holding (wpAny_truthy_bool (wpAny_bind (wpAny_letGo (wpAny_pure ?_)))))
    cases e1 : bt (j + 1) (argBest bt j) with
    | true =>
      rw [if_pos rfl]
      refine wpAny_bind (wpAny_updateSeq (s := ⟨h', g, dr, tk, os⟩) hS' rfl (wpAny_bind (wpAny_letGo ?_)))
      rw [nm]
      refine wpAny_pure ⟨plainId_quiet F.plain_min_loop _, ih (j + 1) _ tk v _ (by omega) hlt (fun b o hn e => ?_) (W.frame _ _ _ hst' fun b hf o e => ?_) (by simp only [argBest, e1, if_true]; exact hP) (Heap.get?_update_self _ hS' rfl)⟩
      · exact (Heap.get?_update_other _ _ fun z => hn (.inr z.symm)).trans (hx' b o hn e)
      · exact (Heap.get?_update_other _ _ fun z : S = b => hSf (z ▸ hf)).trans e
    | false =>
      rw [if_neg Bool.false_ne_true]
      refine wpAny_bind (wpAny_letGo ?_)
      rw [nm]
      exact wpAny_pure ⟨plainId_quiet F.plain_min_loop _, ih (j + 1) _ tk vb c (by omega) hlt hx' hst' (by simp only [argBest, e1, Bool.false_eq_true, if_false]; exact hb) hS'⟩
theorem least_call {E : Value → Shared → Prop} {s : Shared} {l : Addr} {items : Array Value} {bt : Nat → Nat → Bool} {Q : Value → Shared → Prop} (hh : A.handled = none) (hl : s.heap.IsList l items) (hn : 0 < items.size) (hc : CmpIn prog w A.in1 (fun i v => items[i]? = some v) bt (fun b => s.heap.get? b = none) s.heap)
    (h : ∀ v h' tk, items[argBest bt (items.size - 1)]? = some v → (∀ b o, s.heap.get? b = some o → h'.get? b = some o) → Q v { s with heap := h', toks := tk }) : wpAny (model prog w) A (call (.builtin "min") [.ref l]) Q E s := by
  have nm : (toString "min" ++ toString ".loop" : String) = "min.loop" := by decide
  refine call_function_tree F.kind_min F.plain_min F.entry_min (F.args_min1 _) ?_
  refine wpAny_bind (wpAny_of_eq (show Builtin.Builtins.bindParams "min" ["key", "default"] 0 ⟨[], []⟩ = pure [none, none] from rfl) (wpAny_bind (wpAny_pure ?_)))
  have hlt : l < s.heap.objs.size := by obtain ⟨_, e, _⟩ := hl; exact Heap.lt_size e
  have hne : l ≠ s.heap.objs.size := Nat.ne_of_lt hlt
  have hfp : ∀ b ∈ [s.heap.objs.size, l], b < (s.heap.push { cls := .type "list_iterator", data := .fields #[.ref l, .int 0 0] }).objs.size := fun b hb => by
    rw [Heap.size_push]
    rcases List.mem_cons.mp hb with e | hb
    · rw [e]; exact Nat.lt_succ_self _
    · rw [List.mem_singleton.mp hb]; exact Nat.lt_succ_of_lt hlt
  refine wpAny_bind (wpAny_pyIter_list hl ?_)
  have st : (s.heap.push { cls := .type "list_iterator", data := .fields #[.ref l, .int 0 0] }).IsListIter s.heap.objs.size l 0 ∧ (s.heap.push { cls := .type "list_iterator", data := .fields #[.ref l, .int 0 0] }).IsList l items := ⟨⟨_, Heap.get?_push_size _ rfl, rfl, rfl⟩, hl.push _⟩
  refine wpAny_bind (wpAny_newObj_type ?_)
  rw [nm]
  have W := Walks.list (prog := prog) (w := w) (A := A.in1) hh s.heap.objs.size l hne items
  have hIs : (s.heap.push { cls := .type "list_iterator", data := .fields #[.ref l, .int 0 0] }).objs.size = s.heap.objs.size + 1 := Heap.size_push _ _
  have hSf : (s.heap.push { cls := .type "list_iterator", data := .fields #[.ref l, .int 0 0] }).objs.size ∉ [s.heap.objs.size, l] := fun hm => Nat.lt_irrefl _ (hfp _ hm)
  have hold : ∀ (b : Addr) (o : Obj), s.heap.get? b = some o → ¬ (b ∈ [s.heap.objs.size] ∨ b = (s.heap.push { cls := .type "list_iterator", data := .fields #[.ref l, .int 0 0] }).objs.size) := fun b o e z => by
    have hb := Heap.lt_size e
    rcases z with z | z
    · rw [List.mem_singleton.mp z] at hb; exact Nat.lt_irrefl _ hb
    · rw [z, hIs] at hb; exact absurd hb (Nat.not_lt_of_le (Nat.le_succ _))
  have hc' : CmpIn prog w A.in1 (fun i v => items[i]? = some v) bt (fun b => b ∈ [s.heap.objs.size] ∨ b = (s.heap.push { cls := .type "list_iterator", data := .fields #[.ref l, .int 0 0] }).objs.size) s.heap :=
    fun i j vi vj s1 Q E hk hi hj q => hc i j vi vj s1 Q E (fun b o _ e => hk b o (hold b o e) e) hi hj q
  refine wpAny_pure ⟨plainId_quiet F.plain_min_loop _, ?_⟩
  refine codeAny_builtin F.entry_min_loop ?_
  rw [Around.under_plainId F.plain_min_loop _]
  refine wpAny_bind (wpAny_seqItems (Heap.get?_push_size _ rfl) rfl (wpAny_bind (wpAny_tryCatch (W.item 0 _ _ _ hn (W.frame _ _ _ st fun b _ o e => Heap.get?_push_of_some _ e) fun v h' tk hP hst' hk' => ?_))))
  have hS' := hk' _ _ (fun hm => hSf (W.sub _ hm)) (Heap.get?_push_size _ rfl)
  show wpAny _ A.in1 (updateSeq _ (fun _ => #[v, v]) >>= _) _ _ _
  refine wpAny_bind (wpAny_updateSeq hS' rfl ?_)
  rw [nm]
  refine wpAny_pure ⟨plainId_quiet F.plain_min_loop _, least_turn W bt _ s.heap hc' hSf _ _ _ (fun v2 h2 t2 hv hx => h v2 h2 t2 hv fun b o e => hx b o (hold b o e) e) _ 0 _ tk v _ rfl hn (fun b o hno e => ?_) (W.frame _ _ _ hst' fun b hf o e => ?_) hP (Heap.get?_update_self _ hS' rfl)⟩
  · exact (Heap.get?_update_other _ _ fun z => hno (.inr z.symm)).trans (hk' b o (fun z => hno (.inl z)) (Heap.get?_push_of_some _ (Heap.get?_push_of_some _ e)))
  · exact (Heap.get?_update_other _ _ fun z : (s.heap.push { cls := .type "list_iterator", data := .fields #[.ref l, .int 0 0] }).objs.size = b => hSf (by rw [z]; exact hf)).trans e
end
/-! pairs -/
def pLt (p q : Int × Str) : Bool := if p.1 = q.1 then decide (p.2.cps.toList < q.2.cps.toList) else decide (p.1 < q.1)
theorem cps_inj {a b : Str} (h : a.cps.toList = b.cps.toList) : a = b := by
  cases a with
  | mk x => cases b with
    | mk y => congr 1; exact Array.toList_inj.mp h
theorem pLt_irr (p : Int × Str) : pLt p p = false := by
  unfold pLt
  rw [if_pos rfl]
  exact decide_eq_false (List.lt_irrefl _)
theorem pLt_trans {p q r : Int × Str} (h1 : pLt p q = true) (h2 : pLt q r = true) : pLt p r = true := by
  unfold pLt at *
  by_cases e1 : p.1 = q.1
  · rw [if_pos e1] at h1
    by_cases e2 : q.1 = r.1
    · rw [if_pos e2] at h2
      rw [if_pos (e1.trans e2)]
      exact decide_eq_true (List.lt_trans (of_decide_eq_true h1) (of_decide_eq_true h2))
    · rw [if_neg e2] at h2
      rw [if_neg (by omega)]
      have := of_decide_eq_true h2
      exact decide_eq_true (by omega)
  · rw [if_neg e1] at h1
    have h1 := of_decide_eq_true h1
    by_cases e2 : q.1 = r.1
    · rw [if_neg (by omega)]; exact decide_eq_true (by omega)
    · rw [if_neg e2] at h2
      have h2 := of_decide_eq_true h2
      rw [if_neg (by omega)]; exact decide_eq_true (by omega)
theorem pLt_conn {p q : Int × Str} (h1 : pLt p q = false) (h2 : pLt q p = false) : p = q := by
  unfold pLt at *
  by_cases e1 : p.1 = q.1
  · rw [if_pos e1] at h1
    rw [if_pos e1.symm] at h2
    have k1 := of_decide_eq_false h1
    have k2 := of_decide_eq_false h2
    have := List.le_antisymm (List.not_lt.mp k2) (List.not_lt.mp k1)
    exact Prod.ext e1 (cps_inj this)
  · rw [if_neg e1] at h1
    rw [if_neg (fun z => e1 z.symm)] at h2
    have k1 := of_decide_eq_false h1
    have k2 := of_decide_eq_false h2
    omega
theorem best_least (f : Nat → Int × Str) (bt : Nat → Nat → Bool) (hb : ∀ i j, bt i j = pLt (f i) (f j)) : ∀ k, argBest bt k ≤ k ∧ ∀ i, i ≤ k → pLt (f i) (f (argBest bt k)) = false
  | 0 => ⟨Nat.le_refl _, fun i hi => by
    have : i = 0 := by omega
    subst this; exact pLt_irr _⟩
  | k + 1 => by
    obtain ⟨h1, h2⟩ := best_least f bt hb k
    cases e : bt (k + 1) (argBest bt k) with
    | true =>
      have e1 : argBest bt (k + 1) = k + 1 := by simp only [argBest, e, if_true]
      rw [e1]
      refine ⟨Nat.le_refl _, fun i hi => ?_⟩
      by_cases h : i = k + 1
      · subst h; exact pLt_irr _
      · have h3 := h2 i (by omega)
        cases h4 : pLt (f i) (f (k + 1)) with
        | false => rfl
        | true =>
          rw [hb] at e
          rw [pLt_trans h4 e] at h3; cases h3
    | false =>
      have e1 : argBest bt (k + 1) = argBest bt k := by simp only [argBest, e, Bool.false_eq_true, if_false]
      rw [e1]
      refine ⟨by omega, fun i hi => ?_⟩
      by_cases h : i = k + 1
      · subst h; rw [← hb]; exact e
      · exact h2 i (by omega)
section
variable {X : Cx}
theorem pair_cmp {A : Around} {s : Shared} {t1 t2 : Addr} {i1 i2 : List Value} {p q : Int × Str} (h1 : s.heap.IsTuple t1 i1.toArray) (h2 : s.heap.IsTuple t2 i2.toArray) (r1 : Vals [.int p.1, .str p.2] i1) (r2 : Vals [.int q.1, .str q.2] i2) (hu : A.units < cLine) : Ob.RcOp .Lt A s (.ref t1) (.ref t2) (pLt p q) := by
  obtain ⟨a1, a2, rfl, ra, rb⟩ := r1.two
  obtain ⟨b1, b2, rfl, rc, rd⟩ := r2.two
  obtain ⟨u1, rfl⟩ := ra
  obtain ⟨u2, rfl⟩ := rb
  obtain ⟨u3, rfl⟩ := rc
  obtain ⟨u4, rfl⟩ := rd
  have R := Ob.RcOp.tuples_lt (A := A) (s := s) (e := fun j => if j = 0 then (p.1 == q.1) else (p.2 == q.2)) (r := fun j => if j = 0 then decide (p.1 < q.1) else decide (p.2.cps.toList < q.2.cps.toList)) h1 h2 hu (fun j k1 k2 => by
    have k : j = 0 ∨ j = 1 := by simp at k1; omega
    rcases k with rfl | rfl
    · exact SeqAt.EqAt.int_int _ _ _ _
    · exact SeqAt.EqAt.str_str _ _ _ _) (fun j k1 k2 _ => by
    have k : j = 0 ∨ j = 1 := by simp at k1; omega
    rcases k with rfl | rfl
    · exact Ob.RcOp.lt_int _ _ _ _
    · exact fun prog w E Q h => PyProof.Rows.lt_str (by simpa using h))
  have e : Ob.lexAt (fun j => if j = 0 then (p.1 == q.1) else (p.2 == q.2)) (fun j => if j = 0 then decide (p.1 < q.1) else decide (p.2.cps.toList < q.2.cps.toList)) (decide ([Value.int p.1 u1, Value.str p.2 u2].toArray.size < [Value.int q.1 u3, Value.str q.2 u4].toArray.size)) 0
      (min [Value.int p.1 u1, Value.str p.2 u2].toArray.size [Value.int q.1 u3, Value.str q.2 u4].toArray.size) = pLt p q := by
    show (if (p.1 == q.1) = true then (if (p.2 == q.2) = true then false else decide (p.2.cps.toList < q.2.cps.toList)) else decide (p.1 < q.1)) = pLt p q
    unfold pLt
    by_cases e1 : p.1 = q.1
    · rw [if_pos (beq_iff_eq.mpr e1), if_pos e1]
      by_cases e2 : p.2 = q.2
      · rw [if_pos (beq_iff_eq.mpr e2), e2]; exact (decide_eq_false (List.lt_irrefl _)).symm
      · rw [if_neg (fun z => e2 (beq_iff_eq.mp z))]
    · rw [if_neg (fun z => e1 (beq_iff_eq.mp z)), if_neg e1]
  rw [e] at R
  exact R
def rMinP (K : PySem.W.Frag) : List V → Hp → VK → Prop := fun xs H Q => ∃ (a : Addr) (vs : List V) (ps : List (Int × Str)), xs = [.ref a] ∧ SqL K H a vs ∧ 0 < ps.length ∧ Paired (fun v p => ∃ t, v = .ref t ∧ SqT K H t [.int p.1, .str p.2]) vs ps ∧
  ∀ (k : Nat) (v : V) (p : Int × Str), vs[k]? = some v → ps[k]? = some p → (∀ q ∈ ps, pLt q p = false) → Q v H
theorem paired_get {α β : Type} {R : α → β → Prop} {as : List α} {bs : List β} (h : Paired R as bs) {k : Nat} {a : α} (e : as[k]? = some a) : ∃ b, bs[k]? = some b ∧ R a b := by
  induction h generalizing k with
  | nil => simp at e
  | cons r _ ih =>
    cases k with
    | zero => simp at e; subst e; exact ⟨_, rfl, r⟩
    | succ k => exact ih (by simpa using e)
theorem vals_back : ∀ {xs : List V} {us : List Value} {i : Nat} {u : Value}, Vals xs us → us[i]? = some u → ∃ x, xs[i]? = some x ∧ RelV x u
  | _, _, i, u, .nil, e => by simp at e
  | _, _, 0, u, .cons r _, e => by simp at e; subst e; exact ⟨_, rfl, r⟩
  | _, _, i + 1, u, .cons _ t, e => by
    obtain ⟨x, h1, h2⟩ := vals_back t (by simpa using e)
    exact ⟨x, by simpa using h1, h2⟩
theorem cr_minP (hc : X.calm = true) (hu : X.A.units + 64 < cLine) : CallR X (.builtin "min") (rMinP X.K) := by
  rintro pins s σ H xs us Q I r ⟨a, vs, ps, rfl, hs, hn, hp, q⟩
  obtain ⟨its, rv, hl, hz⟩ := I.list hs
  rw [Vals.ref1 r]
  have hlen : vs.length = ps.length := Paired.length hp
  have hil : its.length = vs.length := rv.length.symm
  have tup : ∀ (k : Nat) (v : Value), its.toArray[k]? = some v → ∃ (t : Addr) (i1 : List Value), v = .ref t ∧ s.heap.IsTuple t i1.toArray ∧ Vals [.int (ps.getD k (0, Str.empty)).1, .str (ps.getD k (0, Str.empty)).2] i1 := fun k v e => by
    rw [List.getElem?_toArray] at e
    obtain ⟨x, e1, rx⟩ := vals_back rv e
    obtain ⟨p, e2, t, rfl, ht⟩ := paired_get hp e1
    obtain ⟨i1, r1, p1, _⟩ := I.tuple ht
    cases rx
    refine ⟨t, i1, rfl, p1, ?_⟩
    rw [List.getD_eq_getElem?_getD, e2]; exact r1
  refine least_call (bt := fun i j => pLt (ps.getD i (0, Str.empty)) (ps.getD j (0, Str.empty))) (I.ok.hd hc) hl.isList (by rw [List.size_toArray]; omega) (fun i j vi vj s1 Q E hk hi hj q => ?_) fun v h' tk hv hk => ?_
  · obtain ⟨t1, i1, rfl, ht1, r1⟩ := tup i vi hi
    obtain ⟨t2, i2, rfl, ht2, r2⟩ := tup j vj hj
    have up : ∀ {t : Addr} {its : Array Value}, s.heap.IsTuple t its → s1.heap.IsTuple t its := fun ⟨o, e, z⟩ => ⟨o, hk _ _ (fun z => by have z : s.heap.get? _ = none := z; rw [e] at z; cases z) e, z⟩
    exact pair_cmp (up ht1) (up ht2) r1 r2 (by show X.A.units + 1 < cLine; omega) _ _ _ _ q
  · rw [List.getElem?_toArray] at hv
    obtain ⟨x, e1, rx⟩ := vals_back rv hv
    obtain ⟨p, e2, _⟩ := paired_get hp e1
    refine ⟨x, H, I.kept hk, rx, q _ x p e1 e2 fun z hz => ?_⟩
    obtain ⟨i, hi, rfl⟩ := List.getElem_of_mem hz
    have hsz : its.toArray.size = ps.length := by rw [List.size_toArray, hil, hlen]
    have := (best_least (fun i => ps.getD i (0, Str.empty)) _ (fun i j => rfl) (its.toArray.size - 1)).2 i (by omega)
    rw [List.getD_eq_getElem?_getD, List.getD_eq_getElem?_getD, List.getElem?_eq_getElem hi, e2] at this
    exact this
end

def rowP (p : Int × Str) : PyData := .tuple [.int p.1, .str p.2]
def cMinP : List D → (D → Prop) → Prop := fun xs post => match xs with
  | [x] => ∃ ps : List (Int × Str), x.lsti = some (ps.map rowP) ∧ 0 < ps.length ∧ ∀ p ∈ ps, (∀ q ∈ ps, pLt q p = false) → post (.py (rowP p))
  | _ => False
theorem dt_rows {K : Kf} {G : Hp} : ∀ {vs : List V} {ps : List (Int × Str)}, DtAll K G vs (ps.map rowP) → Paired (fun v p => (∃ t, v = .ref t ∧ SqT K G t [.int p.1, .str p.2]) ∧ Dt K G v (rowP p)) vs ps
  | _, [], h => by cases h; exact .nil
  | _, p :: ps, h => by
    cases h with
    | cons h1 h2 =>
      refine .cons ⟨?_, h1⟩ (dt_rows h2)
      cases h1 with
      | tup k1 k2 =>
        cases k2 with
        | cons a1 a2 =>
          cases a2 with
          | cons b1 b2 =>
            cases b2; cases a1; cases b1
            exact ⟨_, rfl, k1⟩
theorem cd_minP {K : Kf} {B : List Addr} : CallD K B (rMinP K) cMinP := fun G H xs dxs post Q w r hf hq => by
  unfold cMinP at hf
  split at hf
  · cases r with
    | cons rx rn =>
      cases rn
      obtain ⟨ps, e, hn, hf⟩ := hf
      obtain ⟨p, vs, rfl, h1, h2⟩ := rp_lst w rx e
      have k := dt_rows h2
      refine ⟨p, vs, ps, rfl, SqL.of h1, hn, Paired.mapP k fun v q z => ?_, fun i v q e1 e2 e3 => ?_⟩
      · obtain ⟨⟨t, ht, hs⟩, _⟩ := z
        exact ⟨t, ht, SqT.up w.sub hs⟩
      · obtain ⟨q', e4, _, d⟩ := paired_get k e1
        rw [e2] at e4; cases e4
        exact stay w hq d (hf q (List.mem_of_getElem? e2) e3)
  · exact hf.elim
section
variable {X : Cx} {B : List Addr} {H0 : Hp} {e : Expr} {de : DE} {p pos : Pos}
theorem pd_minP (T : Bl X.mg) (hc : X.calm = true) (hu : X.A.units + 64 < cLine) (ha : PD X B H0 e de) (hg : Gl X "min" := by rfl) (s2 : starEach [e] X.env = (false, eval e X.env) :: starEach [] X.env := by rfl) (hpl : (backTo pos (starEach [] X.env)).any (·.1) = false := by rfl) : PD X B H0 (.Call (.Name "min" p) [e] [] pos) (dCB cMinP (dCons de dNil)) :=
  pd_callB (cr_minP hc hu) cd_minP hg T.min bo_min (pda_cons ha pda_nil s2) (by decide) (by decide) s2 hpl
end
end DL
/- ==== DLp ==== -/
/-! DLp: objects that stand still: attributes, methods; a new object by its maker. -/
namespace DL
open PySem PySem.Spec PyProof.Rows L2 RZ
def dFld (C : Addr) (f : Str) (a : DE) : DE := fun S post => a S fun x => match x with
  | .ins _ C' fs => C' = C ∧ match fs.lookup f with
    | some q => post (.py q)
    | none => False
  | _ => False
def dMet (C : Addr) (m : Str) (B : List Addr) (Q : Ct) (o : DE) (a : DA) : DE := fun S post => o S fun x => match x with
  | .ins x C' fs => C' = C ∧ fs.lookup m = none ∧ a S fun xs => Q B (.ins x C' fs :: xs) post
  | _ => False
theorem kv_look {K : Kf} {G : Hp} {f : Str} {q : PyData} : ∀ {vs : List (Str × V)} {fs : List (Str × PyData)}, KvR K G vs fs → fs.lookup f = some q → ∃ v, vs.lookup f = some v ∧ Dt K G v q
  | _, _, .nil, e => by cases e
  | (k, v) :: vs, (k', q') :: fs, .cons h t, e => by
    obtain ⟨rfl, d⟩ := h
    rw [List.lookup_cons] at e ⊢
    split at e
    · next h => cases e; rw [h]; exact ⟨v, rfl, d⟩
    · next h => rw [h]; exact kv_look t e
theorem kv_none {K : Kf} {G : Hp} {f : Str} : ∀ {vs : List (Str × V)} {fs : List (Str × PyData)}, KvR K G vs fs → fs.lookup f = none → vs.lookup f = none
  | _, _, .nil, _ => rfl
  | (k, v) :: vs, (k', q') :: fs, .cons h t, e => by
    obtain ⟨rfl, d⟩ := h
    rw [List.lookup_cons] at e ⊢
    split at e
    · cases e
    · next h => rw [h]; exact kv_none t e
/-- what a maker does with data: the attributes that it leaves -/
abbrev CtI := List PyData → (List (Str × PyData) → Prop) → Prop
def spI (K : Kf) (C : Addr) (Q : CtI) : Sp := fun vs H R _ => ∃ (x dx : Addr) (vs0 : List V) (G : Hp) (ds : List PyData) (post : List (Str × PyData) → Prop), vs = .ref x :: vs0 ∧ Same G H ∧ G x = none ∧ DtAll K G vs0 ds ∧ H x = some (.ins C dx []) ∧ Q ds post ∧
  ∀ (d2 : Addr) (fs : List (Str × V)) (fsD : List (Str × PyData)) (G' H' : Hp), Same G G' → Same G' H' → (∀ a o, H a = some o → a ≠ x → H' a = some o) → (∀ a o, H a = some o → a ≠ x → G' a = G a) → (G' x = none ∨ G' x = some (.ins C d2 fs)) → H' x = some (.ins C d2 fs) → KvR K G' fs fsD → post fsD → R .non H'
def CalI (P : Program) (w : World) (K : Kf) (mg : Str → Option Value) (base : Heap) (C : Addr) (ps : List Str) (k : Nat) (Q : CtI) : Prop := ∃ (f : Addr) (fd : FuncData), Mk K C f ∧ FnOk P w K mg base CX0 k f fd ps (spI K C Q) ∧ Binds K fd ps []
def dMake (C : Addr) (Q : CtI) (a : DA) : DE := fun S post => a S fun xs => match pys xs with
  | some qs => Q qs fun fs => ∀ x : Addr, post (.ins x C fs)
  | none => False
section
variable {X : Cx} {B : List Addr} {H0 : Hp} {o e : Expr} {es : List Expr} {da : DE} {ra : DA} {C g : Addr} {f m : Str} {pos apos p : Pos}
theorem pd_fld (c : Cls X.K C) (n : NoAttr X.K C f) (ho : PD X B H0 o da) (hb : attributeBase o f X.env (eval o X.env) = eval o X.env := by rfl) : PD X B H0 (.Attribute o f pos) (dFld C f da) := PEmono (pe_fld ho hb) fun σ H Q ⟨G, S, post, hs, hd, hq⟩ => by
  refine ⟨G, S, _, hs, hd, fun v d G' H' s r p => ?_⟩
  split at p
  · next C' fs =>
    obtain ⟨rfl, p⟩ := p
    obtain ⟨dx, vs, rfl, h1, h2⟩ := r
    split at p
    · next q e =>
      obtain ⟨v, h3, h4⟩ := kv_look h2 e
      exact ⟨_, _, dx, vs, v, rfl, s.wd.sub _ _ h1, c, n, h3, hq v (.py q) G' H' s h4 p⟩
    · exact p.elim
  · exact p.elim
/-- a method by its promise over data -/
def CalM (P : Program) (w : World) (K : Kf) (mg : Str → Option Value) (base : Heap) (C : Addr) (m : Str) (ps : List Str) (k : Nat) (Q : Ct) : Prop := ∃ (f : Addr) (fd : FuncData), Meth K C m f ∧ FnOk P w K mg base CX0 k f fd ps (spD K Q) ∧ Binds K fd ps []
theorem CalM.mono {P : Program} {w : World} {K : Kf} {mg : Str → Option Value} {base : Heap} {C : Addr} {m : Str} {ps : List Str} {j k : Nat} {Q : Ct} (c : CalM P w K mg base C m ps j Q) (h : j ≤ k) : CalM P w K mg base C m ps k Q :=
  let ⟨f, fd, a, b, d⟩ := c; ⟨f, fd, a, b.mono h, d⟩
/-- a method as it stands -/
def DefM (K : Kf) (C : Addr) (cn m : Str) (st : Stmt) : Prop := ∃ (f : Addr) (fd : FuncData), Meth K C m f ∧ FunD K m (cn ++ "." ++ m) (defArgs st) (defBody st) (defScope st) [] [] f fd
theorem calM {P : Program} {w : World} {K : Kf} {mg : Str → Option Value} {base : Heap} {C : Addr} {cn m : Str} {st : Stmt} {N ps : List Str} {k : Nat} {Q : Ct} (d : DefM K C cn m st) (S : FnScope N ps (defScope st)) (len : ∀ B ds post, Q B ds post → ds.length = ps.length ∧ ∀ d ∈ ds, ¬ d.own)
    (hb : ∀ (dV kV doc pm : Value) (an : Option Addr) (cdv ct : Value) (us : List Value), us.length = ps.length → bindArgs (PySem.W.fnOf m (cn ++ "." ++ m) (defArgs st) (defBody st) (defScope st) .none kV doc pm an cdv ct) ⟨us, []⟩ = pure (ps.zip us))
    (hbody : ∀ (f : Addr) (cdv : Value) (A : Around) (outer : List Env) (s : Shared) (H : Hp) (E : XK) (B : List Addr) (ds : List D) (post : D → Prop), Room k (A.deeper (envOfC (cn ++ "." ++ m) (defScope st) s.heap.objs.size f cdv)) → Q B ds post →
      ∃ t, PDSs (cxOf CX0 P w K mg base N (cn ++ "." ++ m) (defScope st) f cdv A outer s H E).nox B H (defBody st) t ∧ t { nx := fun _ => post (.py .none), rt := post } (startS N.length ds)) : CalM P w K mg base C m ps (k + 1) Q := by
  obtain ⟨f, fd, hm, F⟩ := d
  refine ⟨f, fd, hm, okD F S len (fun cdv A outer s H E B ds post hr c => hbody f cdv A outer s H E B ds post hr c), ?_⟩
  refine FunD.bindsN F ?_
  intro kV doc pm an cdv ct us hl
  exact hb .none kV doc pm an cdv ct us hl
theorem pd_met {ps : List Str} {j k : Nat} {Q : Ct} {pl : Sem Bool} (c : Cls X.K C) (cm : CalM X.prog X.w X.K X.mg X.base C m ps j Q) (hr : Room k X.A) (ho : PD X B H0 o da) (ha : PDA X B H0 (e :: es) ra) (hjk : j ≤ k := by decide)
    (hst : starEach (e :: es) X.env = (false, eval e X.env) :: starEach es X.env := by rfl) (hpl : (backTo pos (starEach es X.env)).any (·.1) = false := by rfl)
    (ht : eval (.Call (.Attribute o m apos) (e :: es) [] pos) X.env = (do
      let ov ← eval o X.env
      standAt apos.atName
      let (f, first) ← holding [ov] (getMethod ov m pl)
      callWith pos f first (backTo pos (starEach (e :: es) X.env)) (backToKw pos (keywordEach [] X.env))) := by rfl) : PD X B H0 (.Call (.Attribute o m apos) (e :: es) [] pos) (dMet C m B Q da ra) := by
  obtain ⟨f, fd, hm, F, b⟩ := cm
  refine PEmono (pe_meth ho c hm F (hr.mono hjk) b .nil pass0 ha hst hpl ht) fun σ H Q ⟨G, S, post, hs, hd, hq⟩ => ?_
  refine ⟨G, S, _, hs, hd, fun v d G1 H1 s1 r1 p1 => ?_⟩
  split at p1
  · next C' fs =>
    obtain ⟨rfl, p0, p1⟩ := p1
    obtain ⟨dx, vs, rfl, h1, h2⟩ := id r1
    refine ⟨_, dx, vs, rfl, s1.wd.sub _ _ h1, ?_, G1, S, _, hs.step s1, p1, fun ws ds G2 H2 s2 r2 p2 => ?_⟩
    · exact kv_none h2 p0
    · show spD X.K _ (_ :: (ws ++ [])) H2 Q _
      rw [List.append_nil]
      exact ⟨B, G2, _, post, s2.wd, .cons (Rp.up s2.toOld r1) r2, p2, fun v d G' H' s3 r3 p3 => hq v d G' H' (s1.trans (s2.trans s3)) r3 p3⟩
  · exact p1.elim
theorem pd_make {ps : List Str} {j k : Nat} {x : Str} {Q : CtI} (cm : CalI X.prog X.w X.K X.mg X.base C ps j Q) (hr : Room k X.A) (hm : X.mg x = some (.ref C)) (ha : PDA X B H0 (e :: es) ra) (hjk : j + 1 ≤ k := by decide) (hg : Gl X x := by rfl) (hdb : (x == ("__debug__" : Str)) = false := by decide)
    (he : starEach (e :: es) X.env = (false, eval e X.env) :: starEach es X.env := by rfl) (hpl : (backTo pos (starEach es X.env)).any (·.1) = false := by rfl) : PD X B H0 (.Call (.Name x p) (e :: es) [] pos) (dMake C Q ra) := by
  obtain ⟨f, fd, M, F, b⟩ := cm
  refine PEmono (pe_make M F (hr.mono hjk) hg hm b .nil pass0 ha hdb he hpl) fun σ H R ⟨G, S, post, hs, hd, hq⟩ => ?_
  refine ⟨G, S, _, hs, hd, fun vs ds G1 H1 s1 r1 p1 a dx ha hdx hne => ?_⟩
  split at p1
  · next qs e =>
    show spI X.K C Q (V.ref a :: (vs ++ [])) _ _ _
    rw [List.append_nil]
    have w1 := s1.wd
    have ga : G1 a = none := w1.sub.free ha
    have h2 : ∀ b o, H1 b = some o → upd (upd H1 dx (.own a)) a (.ins C dx []) b = some o := fun b o e => by
      rw [upd_ne (ne_of_none e ha), upd_ne (ne_of_none e hdx)]; exact e
    refine ⟨a, dx, vs, G1, qs, _, rfl, fun b o e => h2 b o (w1.sub _ _ e), ga, pys_all r1 e, upd_same, p1, fun d2 fs fsD G' H' k1 k2 k3 k4 k8 k5 k6 k7 => ⟨rfl, ?_⟩⟩
    have sg : Same G' (upd G' a (.ins C d2 fs)) := fun b o h => by
      by_cases q : b = a
      · subst q; rw [upd_same]
        rcases k8 with z | z
        · rw [z] at h; cases h
        · rw [z] at h; exact h
      · rw [upd_ne q]; exact h
    refine hq _ (.ins a C fsD) (upd G' a (.ins C d2 fs)) H' (s1.trans ⟨⟨fun b o h => ?_, fun b o h h' hb => ?_⟩, ⟨fun b o h => ?_, fun b hb => ?_⟩⟩) ⟨d2, fs, rfl, upd_same, KvR.up sg k6⟩ (k7 a)
    · rw [upd_ne (ne_of_none h ga)]; exact k1 _ _ h
    · have ne := ne_of_none h ha
      exact ⟨k3 b o (h2 b o h) ne, by rw [upd_ne ne, k4 b o (h2 b o h) ne]; exact h'⟩
    · by_cases q : b = a
      · subst q; rw [upd_same] at h; cases h; exact k5
      · rw [upd_ne q] at h; exact k2 _ _ h
    · obtain ⟨g1, g2⟩ := w1.bags b hb
      obtain ⟨u, hu⟩ := g2.some
      have ne := ne_of_none hu ha
      exact ⟨by rw [upd_ne ne, k4 b u (h2 b u hu) ne]; exact g1, g2.up (k1.trans sg) ((k3 b u (h2 b u hu) ne).trans hu.symm)⟩
  · exact p1.elim
end
end DL
/- ==== DLq ==== -/
/-! DLq: a method that works on its own object: slot 0 is self, its list stands at r. -/
namespace DL
open PySem PySem.Spec PyProof.Rows L2 RZ
def putP (f : Str) (q : PyData) : List (Str × PyData) → List (Str × PyData)
  | [] => [(f, q)]
  | (g, x) :: r => if g = f then (g, q) :: r else (g, x) :: putP f q r
/-- data that hangs on no list -/
def flat1 : PyData → Bool
  | .tuple l => l.all flatP
  | q => flatP q
def lite : D → Prop
  | .py q => flat1 q = true
  | .od kvs => ∀ p ∈ kvs, flat1 p.2 = true
  | _ => False
structure WSt (K : Kf) (p r C : Addr) (Ge He : Hp) (bg : PyData) (S : Slots) (σ : L2.St) (G H : Hp) : Prop where
  sl : Sl K [] He S σ G H
  up : Same Ge G
  keep : ∀ a o, He a = some o → a ≠ p → a ≠ r → Ge a = none → H a = some o ∧ G a = none
  ob : ∃ dx vs b, G p = some (.ins C dx vs) ∧ vs.lookup ("rows" : Str) = some (.ref r) ∧ vs.lookup ("begun" : Str) = some b ∧ Dt K Ge b bg
  rw : ∃ rv, G r = some (.lst rv)
section
variable (K : Kf) (p r C : Addr) (Ge He : Hp) (bg : PyData)
def nxW (P : Slots → Prop) (σ : L2.St) (H : Hp) : Prop := ∃ G S, WSt K p r C Ge He bg S σ G H ∧ P S
def lW (ds : DS) : TS := fun D σ H => ∃ E : DEnds, E.rt = (fun _ => False) ∧ nxW K p r C Ge He bg (ds E) σ H ∧ (∀ σ' H', nxW K p r C Ge He bg E.nx σ' H' → D.nx σ' H') ∧ (∀ σ' H', nxW K p r C Ge He bg E.bk σ' H' → D.bk σ' H') ∧ (∀ σ' H', nxW K p r C Ge He bg E.ct σ' H' → D.ct σ' H')
end
theorem WSt.old {K : Kf} {p r C : Addr} {Ge He : Hp} {bg : PyData} {S : Slots} {σ : L2.St} {G H : Hp} (w : WSt K p r C Ge He bg S σ G H) : Old [] G He G H := ⟨fun _ _ h => h, fun a o h h' _ => by
  obtain ⟨dx, vs, b, e1, _⟩ := w.ob
  obtain ⟨rv, e2⟩ := w.rw
  have n1 : a ≠ p := fun e => by subst e; rw [e1] at h'; cases h'
  have n2 : a ≠ r := fun e => by subst e; rw [e2] at h'; cases h'
  cases q : Ge a with
  | none => exact w.keep a o h n1 n2 q
  | some u => have := w.up a u q; rw [h'] at this; cases this⟩
/-- a step that leaves the object as it is -/
theorem WSt.next {K : Kf} {p r C : Addr} {Ge He : Hp} {bg : PyData} {S S' : Slots} {σ σ' : L2.St} {G H G' H' : Hp} (w : WSt K p r C Ge He bg S σ G H) (s : Sl K [] He S' σ' G' H') (o : Old [] G He G' H') : WSt K p r C Ge He bg S' σ' G' H' := by
  obtain ⟨dx, vs, b, e1, e2⟩ := w.ob
  obtain ⟨rv, e3⟩ := w.rw
  refine ⟨s, w.up.trans o.up, fun a u h n1 n2 h' => ?_, ⟨dx, vs, b, o.up _ _ e1, e2⟩, ⟨rv, o.up _ _ e3⟩⟩
  exact o.keep a u h (w.keep a u h n1 n2 h').2 (by simp)
section
variable {X : Cx} {p r C : Addr} {Ge He : Hp} {bg : PyData} {st : Stmt} {rest : List Stmt} {a b : DS} {ta : DT} {de : DE} {pos pos' : Pos} {e : Expr}
theorem w_of (h : PDS X [] He st a) : PS X st (lW X.K p r C Ge He bg a) := PSmono h fun D σ H ⟨E, er, ⟨G, S, w, hd⟩, q1, q3, q4⟩ => by
  have cv : ∀ {P : Slots → Prop} {σ' H'}, nxOf X.K [] G He P σ' H' → nxW X.K p r C Ge He bg P σ' H' := fun ⟨G', S', k1, k2, k3⟩ => ⟨G', S', w.next k1 k2, k3⟩
  refine ⟨G, E, ⟨G, S, w.sl, w.old, hd⟩, fun σ' H' z => q1 _ _ (cv z), fun v H' ⟨_, _, _, _, _, _, z⟩ => ?_, fun σ' H' z => q3 _ _ (cv z), fun σ' H' z => q4 _ _ (cv z)⟩
  rw [er] at z; exact z.elim
theorem w_cons (h1 : PS X st (lW X.K p r C Ge He bg a)) (h2 : PSs X rest (lW X.K p r C Ge He bg b)) : PSs X (st :: rest) (lW X.K p r C Ge He bg (dSeq a b)) := PSsmono (pss_cons h1 h2) fun D σ H ⟨E, er, hn, q1, q3, q4⟩ =>
  ⟨{ E with nx := b E }, er, hn, fun σ' H' z => ⟨E, er, z, q1, q3, q4⟩, q3, q4⟩
theorem w_one (h1 : PS X st (lW X.K p r C Ge He bg a)) : PSs X [st] (lW X.K p r C Ge He bg a) := pss_one h1
theorem w_while {c : Expr} {body : List Stmt} (hp : PassesOwn (model X.prog X.w) X.A X.env X.xe) (hc : PDT X [] He c ta) (hb : PSs X body (lW X.K p r C Ge He bg b)) : PS X (.While c body [] pos) (lW X.K p r C Ge He bg (dWhile ta b)) := PSmono (ps_while hp hc hb) fun D σ H ⟨E, er, ⟨G, S, w, W, ⟨m0, w0⟩, turn⟩, q1, q3, q4⟩ => by
  refine ⟨fun m σ H => nxW X.K p r C Ge He bg (W m) σ H, ⟨m0, G, S, w, w0⟩, fun m σ H ⟨G, S, w, hw⟩ => ?_⟩
  refine ⟨G, S, _, w.sl, turn m S hw, fun k G' H' s z => ?_⟩
  have w' : WSt X.K p r C Ge He bg S σ G' H' := w.next (w.sl.step s) (w.old.trans s.toOld)
  cases k with
  | true =>
    rw [if_pos rfl] at z
    show (if true = true then _ else _)
    rw [if_pos rfl]
    refine ⟨fun σ' H' => nxW X.K p r C Ge He bg (fun S' => ∃ m', m' < m ∧ W m' S') σ' H', fun σ' H' ⟨G, S, h1, m', h3, h4⟩ => ⟨m', h3, G, S, h1, h4⟩, ?_⟩
    exact ⟨{ E with nx := fun S' => ∃ m', m' < m ∧ W m' S', ct := fun S' => ∃ m', m' < m ∧ W m' S', bk := E.nx }, er, ⟨G', S, w', z⟩, fun _ _ h => h, fun σ' H' h => q1 _ _ h, fun _ _ h => h⟩
  | false =>
    rw [if_neg Bool.false_ne_true] at z
    show (if false = true then _ else _)
    rw [if_neg Bool.false_ne_true]
    exact q1 _ _ ⟨G', S, w', z⟩
end

/-! ### the object changes: what hangs on no list stays -/
theorem flat_dt {K : Kf} {G G' : Hp} {v : V} {q : PyData} (h : Dt K G v q) (hf : flatP q = true) : Dt K G' v q := by
  cases h with
  | non => exact .non
  | bl b => exact .bl b
  | int b => exact .int b
  | str b => exact .str b
  | lst _ _ => cases hf
  | tup _ _ => cases hf
theorem flat_dta {K : Kf} {G G' : Hp} : ∀ {vs : List V} {qs : List PyData}, DtAll K G vs qs → qs.all flatP = true → DtAll K G' vs qs
  | _, _, .nil, _ => .nil
  | _, _, .cons h t, e => by
    rw [List.all_cons, Bool.and_eq_true] at e
    exact .cons (flat_dt h e.1) (flat_dta t e.2)
/-- no tuple stands at a -/
def NoTup (G : Hp) (a : Addr) : Prop := ∀ ws, ¬ Rd G a (.tup ws)
theorem noTup_lst {G : Hp} {a : Addr} {rv : List V} (h : G a = some (.lst rv)) : NoTup G a := fun ws z => by
  rcases z with z | ⟨o, z⟩
  · rw [h] at z; cases z
  · rw [h] at z; cases z
theorem noTup_ins {G : Hp} {a C dx : Addr} {fs : List (Str × V)} (h : G a = some (.ins C dx fs)) : NoTup G a := fun ws z => by
  rcases z with z | ⟨o, z⟩
  · rw [h] at z; cases z
  · rw [h] at z; cases z
theorem sqT_upd {K : Kf} {G : Hp} {t a : Addr} {vs : List V} {o : HO} (h : SqT K G t vs) (hn : NoTup G a) : SqT K (upd G a o) t vs := by
  rcases h with h | h
  · have ne : t ≠ a := fun e => by subst e; exact hn _ h
    refine .inl ?_
    unfold Rd at h ⊢
    rw [upd_ne ne]; exact h
  · exact .inr h
theorem lite_dt {K : Kf} {G : Hp} {a : Addr} {o : HO} {v : V} {q : PyData} (h : Dt K G v q) (hf : flat1 q = true) (hn : NoTup G a) : Dt K (upd G a o) v q := by
  cases h with
  | non => exact .non
  | bl b => exact .bl b
  | int b => exact .int b
  | str b => exact .str b
  | lst _ _ => cases hf
  | tup k1 k2 => exact .tup (sqT_upd k1 hn) (flat_dta k2 hf)
theorem lite_dta {K : Kf} {G : Hp} {a : Addr} {o : HO} (hn : NoTup G a) : ∀ {vs : List V} {qs : List PyData}, DtAll K G vs qs → (∀ q ∈ qs, flat1 q = true) → DtAll K (upd G a o) vs qs
  | _, _, .nil, _ => .nil
  | _, _, .cons h t, e => .cons (lite_dt h (e _ (List.mem_cons_self ..)) hn) (lite_dta hn t fun q hq => e q (List.mem_cons_of_mem _ hq))
theorem lite_kv {κ : Type} {K : Kf} {G : Hp} {a : Addr} {o : HO} (hn : NoTup G a) : ∀ {vs : List (κ × V)} {kvs : List (κ × PyData)}, KvR K G vs kvs → (∀ q ∈ kvs, flat1 q.2 = true) → KvR K (upd G a o) vs kvs
  | _, _, .nil, _ => .nil
  | _, _, .cons h t, e => .cons ⟨h.1, lite_dt h.2 (e _ (List.mem_cons_self ..)) hn⟩ (lite_kv hn t fun q hq => e q (List.mem_cons_of_mem _ hq))
theorem lite_rp {K : Kf} {G H : Hp} {a : Addr} {o : HO} {u : HO} {d : D} {v : V} (h : Rp K [] G H d v) (hf : lite d) (hn : NoTup G a) (ha : G a = some u) : Rp K [] (upd G a o) (upd H a o) d v := by
  cases d with
  | py q => exact lite_dt h hf hn
  | od kvs =>
    obtain ⟨x, vs, rfl, w1, w2, w3⟩ := h
    have ne : x ≠ a := fun e => by subst e; rw [w1.1] at ha; cases ha
    exact ⟨x, vs, rfl, ⟨by rw [upd_ne ne]; exact w1.1, w1.2⟩, by rw [upd_ne ne]; exact w2, lite_kv hn w3 hf⟩
  | _ => exact hf.elim
/-- the work object's own list, or the object itself, is changed -/
theorem WSt.write {K : Kf} {p r C : Addr} {Ge He : Hp} {bg : PyData} {S : Slots} {σ : L2.St} {G H : Hp} (w : WSt K p r C Ge He bg S σ G H) (hp : Ge p = none) (hr : Ge r = none) {a : Addr} {u o : HO} (ha : a = p ∨ a = r) (hg : G a = some u) (hn : NoTup G a)
    {x : Addr} {fs fs' : List (Str × PyData)} (h0 : S[0]? = some (some (.ins x C fs))) (hl : ∀ (i : Nat) (d : D), 0 < i → S[i]? = some (some d) → lite d)
    (hx : ∃ dx vs, upd G a o x = some (.ins C dx vs) ∧ KvR K (upd G a o) vs fs')
    (ob : ∃ dx vs b, upd G a o p = some (.ins C dx vs) ∧ vs.lookup ("rows" : Str) = some (.ref r) ∧ vs.lookup ("begun" : Str) = some b ∧ Dt K Ge b bg) (rw : ∃ rv, upd G a o r = some (.lst rv)) :
    WSt K p r C Ge He bg (S.set 0 (some (.ins x C fs'))) σ (upd G a o) (upd H a o) := by
  have hge : Ge a = none := by rcases ha with e | e <;> rw [e] <;> assumption
  refine ⟨⟨⟨Same.updB w.sl.wd.sub, fun b hb => by simp at hb⟩, by rw [List.length_set]; exact w.sl.len, fun j e hj => ?_, fun j k dj dk q hjk h1 h2 o1 o2 q1 q2 => ?_⟩, fun b z hz => ?_, fun b z hz n1 n2 h' => ?_, ob, rw⟩
  · rcases set_get hj with ⟨rfl, e1, hl⟩ | ⟨ne, h2⟩
    · cases e1
      obtain ⟨v, k1, k2, _⟩ := w.sl.slot 0 _ h0
      obtain ⟨dx, vs, rfl, _⟩ := k2
      obtain ⟨dx', vs', g1, g2⟩ := hx
      exact ⟨_, k1, ⟨dx', vs', rfl, g1, g2⟩, fun z => z.elim⟩
    · obtain ⟨v, k1, k2, k3⟩ := w.sl.slot j e h2
      exact ⟨v, k1, lite_rp k2 (hl j e (by omega) h2) hn hg, k3⟩
  · rcases set_get h1 with ⟨rfl, e1, _⟩ | ⟨ne1, h1⟩
    · cases e1; exact o1
    · rcases set_get h2 with ⟨rfl, e2, _⟩ | ⟨ne2, h2⟩
      · cases e2; exact o2
      · exact w.sl.sep j k dj dk q hjk h1 h2 o1 o2 q1 q2
  · have ne : b ≠ a := fun e => by subst e; rw [hge] at hz; cases hz
    rw [upd_ne ne]; exact w.up b z hz
  · have ne : b ≠ a := fun e => by subst e; rcases ha with e | e <;> subst e <;> first | exact n1 rfl | exact n2 rfl
    obtain ⟨k1, k2⟩ := w.keep b z hz n1 n2 h'
    rw [upd_ne ne, upd_ne ne]; exact ⟨k1, k2⟩

/-! a, b, c = e, {}, f -/
def dPar3D (i j l : Nat) (a c : DE) : DS := fun E S => a S fun x => c S fun z => match x, z with
  | .py x, .py z => E.nx (((S.set i (some (.py x))).set j (some (.od []))).set l (some (.py z)))
  | _, _ => False
section
variable {X : Cx} {B : List Addr} {H0 : Hp} {da dc : DE} {pos : Pos}
theorem psd_par3D {i j l : Nat} {x y z : Str} {a c : Expr} {px py pz pt pd : Pos} {kt k2 pt2} (hc : X.calm = true) (hN : X.N.Nodup) (hi : X.N[i]? = some x) (hj : X.N[j]? = some y) (hl : X.N[l]? = some z) (hij : i ≠ j) (hil : i ≠ l) (hjl : j ≠ l)
    (hx : X.env.scope.names.lookup x = some .local) (hy : X.env.scope.names.lookup y = some .local) (hz : X.env.scope.names.lookup z = some .local) (ha : PD X B H0 a da) (hcc : PD X B H0 c dc)
    (hw : swappedStores [.Tuple [.Name x px, .Name y py, .Name z pz] kt pt] (.Tuple [a, .Dict [] [] pd, c] k2 pt2) X.env = pure (some [x, y, z])) (s1 : starEach [a, .Dict [] [] pd, c] X.env = (false, eval a X.env) :: starEach [.Dict [] [] pd, c] X.env := by rfl) (s2 : starEach [.Dict [] [] pd, c] X.env = (false, eval (.Dict [] [] pd) X.env) :: starEach [c] X.env := by rfl) (s3 : starEach [c] X.env = (false, eval c X.env) :: starEach [] X.env := by rfl)
    (hs : swapsWithSole [.Tuple [.Name x px, .Name y py, .Name z pz] kt pt] (.Tuple [a, .Dict [] [] pd, c] k2 pt2) pos.line X.env = pure false := by rfl) :
    PDS X B H0 (.Assign [.Tuple [.Name x px, .Name y py, .Name z pz] kt pt] (.Tuple [a, .Dict [] [] pd, c] k2 pt2) pos) (dPar3D i j l da dc) := PSmono (ps_par3 hc hN hi hj hl hij hil hjl hx hy hz (pa_cons ha (pa_cons pe_dnewK (pa_cons hcc pa_nil s3) s2) s1) hw hs) fun D σ H ⟨G0, E, ⟨G, S, hs, ho, hd⟩, q1, q2, q3, q4⟩ => by
  refine ⟨G, S, _, hs, hd, fun v d G1 H1 e1 r1 p1 q hq => ?_⟩
  have lay := Stp.lay e1.wd hq (.dK [])
  refine ⟨G1, S, _, hs.step (e1.trans lay), p1, fun v2 d2 G2 H2 e2 r2 p2 => ⟨v, _, v2, rfl, q1 _ _ ?_⟩⟩
  split at p2
  · have hg : G1 q = none := e1.wd.sub.free hq
    have hb := bag_ne e1.wd hq
    have k := e2.keep q _ upd_same hg hb
    have t1 := (hs.step (e1.trans (lay.trans e2))).set i (Rp.up (lay.trans e2).toOld r1) (fun z => z)
    have t0 := (hs.step e1).set i r1 (fun z => z)
    refine ⟨G2, _, (t1.setOwn (p := q) (d := .od []) j ⟨q, [], rfl, ⟨k.2, hb⟩, k.1, .nil⟩ ((ho.trans e1.toOld).dom e1.wd hq) fun m dm hm om ne e => ?_).set l r2 (fun z => z), ho.trans (e1.trans (lay.trans e2)).toOld, p2⟩
    obtain ⟨u, h1, h2, _⟩ := t0.slot m dm hm
    rw [e] at h1; cases h1
    cases dm with
    | ol ds => obtain ⟨q', vs, e1, _, h3, _⟩ := h2; cases e1; rw [hq] at h3; cases h3
    | od ds => obtain ⟨q', vs, e1, _, h3, _⟩ := h2; cases e1; rw [hq] at h3; cases h3
    | _ => exact om.elim
  · exact p2.elim
end
end DL
/- ==== DLr ==== -/
/-! DLr: xs.count(z) of texts. -/
namespace DL
open PySem PySem.Spec PyProof.Rows L2 RZ
def eqTx (z : Str) (v : Value) : Bool := match v with
  | .str n _ => n == z
  | _ => false
theorem eqTx_at {A : Around} {s : Shared} {z : Str} {t : Tok} : ∀ {us : List Value} {zs : List Str}, Vals (zs.map V.str) us → ∀ y ∈ us, SeqAt.EqAt A s y (.str z t) (eqTx z y)
  | _, [], .nil => fun y h => by cases h
  | _, n :: zs, .cons r h => fun y hy => by
    rcases List.mem_cons.mp hy with e | e
    · obtain ⟨u, e2⟩ := r
      rw [e, e2]; exact SeqAt.EqAt.str_str n u z t
    · exact eqTx_at h y e
theorem eqTx_count {z : Str} : ∀ {us : List Value} {zs : List Str}, Vals (zs.map V.str) us → us.countP (eqTx z) = zs.count z
  | _, [], .nil => rfl
  | _, n :: zs, .cons r h => by
    obtain ⟨u, e⟩ := r
    rw [List.countP_cons, List.count_cons, eqTx_count (z := z) h, e]; rfl
def rCntS (K : Kf) : V → List V → Hp → VK → Prop := fun x xs H Q => ∃ (p : Addr) (zs : List Str) (z : Str), x = .ref p ∧ xs = [.str z] ∧ SqL K H p (zs.map V.str) ∧ Q (.int (zs.count z : Nat)) H
theorem mt_countS {X : Cx} : MtR X "list.count" (rCntS X.K) := by
  rintro pins s σ H x xs v us Q I rx rxs ⟨p, zs, z, rfl, rfl, hs, q⟩
  cases rx
  obtain ⟨u, rfl, t, rfl⟩ := rxs.one
  obtain ⟨its, rv, ⟨⟨cls, dd, data, sl⟩, n, ho, hc, hdn, hd⟩, _⟩ := I.list hs
  simp only at hc hd
  subst hc hd
  refine call_meets PySem.F.slot_list_count ⟨_, ho, rfl⟩ PySem.F.entry_list_count (PySem.F.args_list_count_2 _ _) (SeqAt.list_countAt p its.toArray n dd sl (.str z t) (eqTx z)) ⟨ho, fun y hy => eqTx_at rv y (by simpa using hy), ?_⟩
  refine ⟨.int (zs.count z : Nat), H, I.tok _, ⟨s.toks, ?_⟩, q⟩
  show Value.int ((its.toArray.toList.countP (eqTx z) : Nat) : Int) s.toks = _
  rw [List.toList_toArray, eqTx_count rv]
def dCntS (a b : DE) : DE := fun S post => a S fun x => ∃ zs : List Str, x.lsti = some (zs.map PyData.str) ∧ b S fun y => ∃ z : Str, y = .py (.str z) ∧ post (.py (.int (zs.count z : Nat)))
section
variable {X : Cx} {B : List Addr} {H0 : Hp} {o e : Expr} {da db : DE} {apos cpos : Pos}
theorem count_lift {σ : L2.St} {H : Hp} {Q : VK} (h : lE X.K B H0 (dCntS da db) σ H Q) : tBM X.K "list" (rCntS X.K) (lE X.K B H0 da) (tCons (lE X.K B H0 db) tNil) σ H Q := by
  obtain ⟨G, S, post, hs, hd, hq⟩ := h
  refine ⟨G, S, _, hs, hd, fun v d G1 H1 s1 r1 p1 => ?_⟩
  obtain ⟨zs, e1, p1⟩ := p1
  obtain ⟨p, vs, rfl, h1, h2⟩ := rp_lst s1.wd r1 e1
  refine ⟨Or.inl ⟨rfl, _, SqL.of h1⟩, G1, S, _, hs.step s1, p1, fun y dy G2 H2 s2 r2 p2 => ?_⟩
  obtain ⟨z, rfl, p2⟩ := p2
  cases r2
  obtain ⟨p', vs', e2, h3, h4⟩ := rp_lst s2.wd (Rp.up s2.toOld r1) e1
  cases e2
  have := DtAll.strs h4
  subst this
  exact ⟨p, zs, z, rfl, rfl, SqL.of h3, hq _ (.py (.int _)) G2 H2 (s1.trans s2) (Rp.int _) p2⟩
theorem pd_count (ho : PD X B H0 o da) (he : PD X B H0 e db)
    (hp : ∀ {to : TE} {t : TA}, PE X o to → PA X [e] t → PE X (.Call (.Attribute o "count" apos) [e] [] cpos) (tBM X.K "list" (rCntS X.K) to t)) (hst : starEach [e] X.env = (false, eval e X.env) :: starEach [] X.env := by rfl) : PD X B H0 (.Call (.Attribute o "count" apos) [e] [] cpos) (dCntS da db) :=
  PEmono (hp ho (pa_cons he pa_nil hst)) fun σ H Q h => count_lift h
end
end DL
/- ==== DLs ==== -/
/-! DLs: a tuple, turned round. -/
namespace DL
open PySem PySem.Spec PyProof.Rows L2 RZ
theorem fm_map {α β : Type} {f : α → Option β} {g : α → β} : ∀ l : List α, (∀ x ∈ l, f x = some (g x)) → l.filterMap f = l.map g
  | [], _ => rfl
  | a :: l, h => by
    rw [List.filterMap_cons, h a (List.mem_cons_self ..), List.map_cons, fm_map l fun x hx => h x (List.mem_cons_of_mem _ hx)]
theorem back_pick (xs : Array Value) : ((List.range xs.size).filterMap fun (m : Nat) => xs[(((xs.size : Int) - 1) + (m : Int) * (-1)).toNat]?).toArray = xs.toList.reverse.toArray := by
  congr 1
  refine List.ext_getElem? fun i => ?_
  have e : ((List.range xs.size).filterMap fun (m : Nat) => xs[(((xs.size : Int) - 1) + (m : Int) * (-1)).toNat]?) = (List.range xs.size).map fun m => xs.getD (xs.size - 1 - m) .none := by
    refine fm_map _ fun m hm => ?_
    have hm := List.mem_range.mp hm
    have e2 : (((xs.size : Int) - 1) + (m : Int) * (-1)).toNat = xs.size - 1 - m := by omega
    rw [e2]
    rw [Array.getD_eq_getD_getElem?, Array.getElem?_eq_getElem (by omega)]; rfl
  rw [e, List.getElem?_map]
  by_cases h : i < xs.size
  · rw [List.getElem?_range h, List.getElem?_reverse (by rw [Array.length_toList]; exact h), Array.length_toList, Array.getElem?_toList]
    show some (xs.getD (xs.size - 1 - i) .none) = _
    rw [Array.getD_eq_getD_getElem?, Array.getElem?_eq_getElem (by omega)]; rfl
  · rw [List.getElem?_eq_none (by rw [List.length_range]; omega), List.getElem?_eq_none (by rw [List.length_reverse, Array.length_toList]; omega)]; rfl
section
variable {prog : Program} {w : World} {A : Around} {E : Value → Shared → Prop} {s : Shared}
theorem back_applied {sl : Addr} {vl vu vs : Value} {n : Nat} {Q : Int × Int × Nat → Shared → Prop} (hs : s.heap.IsSliceOf sl vl vu vs) (pl : IsPart vl none) (pu : IsPart vu none) (ps : IsPart vs (some (-1))) (h : Q ((n : Int) - 1, -1, n) s) : wpAny (model prog w) A (Builtin.Slice.sliceApplied (.ref sl) (pure (n : Int))) Q E s := by
  obtain ⟨os, hos, hcs, hds⟩ := id hs
  unfold Builtin.Slice.sliceApplied Builtin.Slice.sliceFields
  refine wpAny_bind (wpAny_bind (wpAny_field hos hds (x := vl) rfl (wpAny_bind (wpAny_field hos hds (x := vu) rfl (wpAny_bind (wpAny_field hos hds (x := vs) rfl (wpAny_pure ?_)))))))
  refine wpAny_bind (HT.slicePart_ ps ?_)
  show wpAny _ _ (if ((-1 : Int) == 0) = true then _ else _) _ _ s
  rw [if_neg (by decide)]
  refine wpAny_bind (HT.slicePart_ pl (wpAny_bind (HT.slicePart_ pu (wpAny_bind (wpAny_pure ?_)))))
  have e : Builtin.Slice.sliceAdjust none none (-1) (n : Int) = ((n : Int) - 1, -1) := by
    unfold Builtin.Slice.sliceAdjust
    simp
  show wpAny _ _ (match Builtin.Slice.sliceAdjust none none (-1) (n : Int) with | (lo, hi) => pure (lo, (-1 : Int), Builtin.Slice.slicePlaces lo hi (-1))) _ _ s
  rw [e]
  have e2 : Builtin.Slice.slicePlaces ((n : Int) - 1) (-1) (-1) = n := by
    unfold Builtin.Slice.slicePlaces
    simp
    split <;> omega
  show wpAny _ _ (pure ((n : Int) - 1, (-1 : Int), Builtin.Slice.slicePlaces ((n : Int) - 1) (-1) (-1))) _ _ s
  rw [e2]
  exact wpAny_pure h
theorem back_item {t sl : Addr} {items : Array Value} {vl vu vs : Value} {Q : Value → Shared → Prop} (ht : IsTup s.heap t items) (hs : s.heap.IsSliceOf sl vl vu vs) (pl : IsPart vl none) (pu : IsPart vu none) (ps : IsPart vs (some (-1)))
    (h : Q (.ref s.heap.objs.size) { s with heap := s.heap.push { cls := .type "tuple", data := .seq items.toList.reverse.toArray } }) (hsz : items.size ≤ sizeLine) : wpAny (model prog w) A (getItem (.ref t) (.ref sl)) Q E s := by
  have hok : sizeOk (.seq items.toList.reverse.toArray) := by
    show items.toList.reverse.toArray.size ≤ sizeLine
    rw [List.size_toArray, List.length_reverse, Array.length_toList]; exact hsz
  obtain ⟨os, hos, hcs, hds⟩ := id hs
  have hTs : s.TypeIs (.ref sl) "slice" := ⟨os, hos, hcs⟩
  unfold getItem
  try with_reducible refine wpAny_holding ?_
  first | refine wpAny_bind (wpAny_pure ?_) | skip
  refine wpAny_bind (wpAny_sequenceKey ht.typeIs (by decide) (wpAny_bind (wpAny_callSpecial?_slot (name := Str.ofString "__getitem__") ht.typeIs PyProof.Rows.slot_tuple_getitem (wpAny_call_entry PyProof.Rows.slot_tuple_getitem ht.typeIs PyProof.Rows.entry_tuple_getitem ?_ (PyProof.Rows.args_tuple_getitem _ _)))))
  show wpAny _ _ (Builtin.Tuple.tupleItemsOf (.ref t) >>= _) _ _ s
  refine wpAny_bind (tupleItemsOf_ ht (wpAny_bind (wpAny_typeOf hTs ?_)))
  rw [if_pos (by decide)]
  refine wpAny_bind (back_applied hs pl pu ps ?_)
  show wpAny _ _ (if (((items.size : Int) - 1) == 0 && (-1 : Int) == 1 && items.size == items.size) = true then _ else _) _ _ s
  rw [if_neg (by rw [Bool.and_eq_true, Bool.and_eq_true]; exact fun z => absurd z.1.2 (by decide)), back_pick]
  first
    | exact wpAny_bind (m := Builtin.Tuple.tupleExact _) (wpAny_newObj_type (wpAny_pure ⟨_, rfl, wpAny_pure h⟩) hok)
    | exact wpAny_bind (m := Builtin.Tuple.tupleExact _) (wpAny_newObj_type (wpAny_bind (wpAny_pure (wpAny_pure ⟨_, rfl, wpAny_pure h⟩))) hok)
    | exact wpAny_bind (wpAny_bind (m := Builtin.Tuple.tupleExact _) (wpAny_newObj_type (wpAny_pure (wpAny_pure ⟨_, rfl, wpAny_pure h⟩)) hok))
    | exact wpAny_bind (wpAny_bind (m := Builtin.Tuple.tupleExact _) (wpAny_newObj_type (wpAny_pure ⟨_, rfl, wpAny_pure h⟩) hok))
end
def tRevT (K : Kf) (te : TE) : TE := fun σ H Q => te σ H fun x H1 => ∃ a xs, x = .ref a ∧ SqT K H1 a xs ∧ ∀ p, H1 p = none → Q (.ref p) (upd H1 p (.tup xs.reverse))
section
variable {X : Cx} {B : List Addr} {H0 : Hp} {e : Expr} {te : TE} {de : DE} {k : Nat} {p1 p2 p3 pos : Pos}
theorem pe_revT (he : PE X e te) : PE X (.Subscript e (.Slice none none (some (.UnaryOp .USub (.Constant (.int 1) k p1) p2)) p3) pos) (tRevT X.K te) := by
  refine ⟨fun pins s σ H Q I h => Subscript_ (thn (he.run pins s σ H _ I h) fun v s1 ⟨x, H1, I1, r1, a, xs, ex, hx, q⟩ => ?_)⟩
  subst ex
  cases r1
  have hst : PO X (some (.UnaryOp .USub (.Constant (.int 1) k p1) p2)) (tPart (tUn (rU fun i => .int (-i)) (tC (.int 1)))) := po_some (pe_un un_neg pe_int)
  refine wpAny_Slice (thn (po_none.run pins s1 σ H1 (fun o H2 => o = none ∧ H2 = H1) I1 ⟨rfl, rfl⟩) fun vl s2 ⟨l, H2, I2, pl, el, e2⟩ => ?_)
  subst el e2
  refine thn (po_none.run pins s2 σ H2 (fun o H3 => o = none ∧ H3 = H2) I2 ⟨rfl, rfl⟩) fun vu s3 ⟨u, H3, I3, pu, eu, e3⟩ => ?_
  subst eu e3
  refine thn (hst.run pins s3 σ H3 (fun o H4 => o = some (-1) ∧ H4 = H3) I3 ⟨1, rfl, -1, rfl, rfl, rfl⟩) fun vs s4 ⟨o, H4, I4, ps, eo, e4⟩ => ?_
  subst eo e4
  have I5 : Inv X pins σ H4 { s4 with heap := s4.heap.push { cls := .type "slice", data := .fields #[vl, vu, vs] } } := I4.kept (t' := s4.toks) fun b ob q => Heap.get?_push_of_some _ q
  obtain ⟨its, r, ht, hz⟩ := I5.tuple hx
  have hlen := r.length
  show wpAny (model X.prog X.w) X.A (subscriptTail e (.Slice none none (some (.UnaryOp .USub (.Constant (.int 1) k p1) p2)) p3) (.ref a) (.ref s4.heap.objs.size)) (EP X pins σ Q) X.xe { s4 with heap := s4.heap.push { cls := .type "slice", data := .fields #[vl, vu, vs] } }
  refine tail_any (ops := [.ref a, .ref s4.heap.objs.size]) ht.typeIs (PyProof.Rows.slot_tuple_getitem.lookup) ?_ (by with_unfolding_all rfl)
  refine back_item ht (Heap.IsSliceOf.new _ vl vu vs) pl pu ps ?_ (by rw [List.size_toArray]; omega)
  refine ⟨.ref _, _, I5.laid (t' := s4.toks) (o := .tup xs.reverse) (fun b ob q => Heap.get?_push_of_some _ q) (Nat.le_refl _) ?_, rfl, q _ (I5.hok.fresh (Nat.le_refl _))⟩
  exact ⟨by rw [List.length_reverse]; exact hz, _, r.reverse, IsTup.new _ _⟩
def dRev (a : DE) : DE := fun S post => a S fun x => match x with
  | .py (.tuple ds) => post (.py (.tuple ds.reverse))
  | _ => False
theorem DtAll.reverse {K : Kf} {G : Hp} : ∀ {vs : List V} {ds : List PyData}, DtAll K G vs ds → DtAll K G vs.reverse ds.reverse
  | _, _, .nil => .nil
  | _, _, .cons h t => by
    rw [List.reverse_cons, List.reverse_cons]
    exact (DtAll.reverse t).append (.one h)
theorem pd_rev (he : PD X B H0 e de) : PD X B H0 (.Subscript e (.Slice none none (some (.UnaryOp .USub (.Constant (.int 1) k p1) p2)) p3) pos) (dRev de) := PEmono (pe_revT he) fun σ H Q ⟨G, S, post, hs, hd, hq⟩ => by
  refine ⟨G, S, _, hs, hd, fun v d G1 H1 s1 r1 p1 => ?_⟩
  split at p1
  · next ds =>
    cases r1 with
    | tup h1 h2 => exact ⟨_, _, rfl, SqT.up s1.wd.sub h1, fun p hp => hq _ _ _ _ (s1.trans (Stp.new s1.wd hp _)) (Rp.ofDt (Dt.newT (s1.wd.sub.free hp) h2.reverse)) p1⟩
  · exact p1.elim
end
end DL
/- ==== DLt ==== -/
/-! DLt: a, b, c = e, [], f -/
namespace DL
open PySem PySem.Spec PyProof.Rows L2 RZ
def dPar3L (i j l : Nat) (a c : DE) : DS := fun E S => a S fun x => c S fun z => match x, z with
  | .py x, .py z => E.nx (((S.set i (some (.py x))).set j (some (.ol []))).set l (some (.py z)))
  | .dic x, .py z => E.nx (((S.set i (some (.dic x))).set j (some (.ol []))).set l (some (.py z)))
  | _, _ => False
section
variable {X : Cx} {B : List Addr} {H0 : Hp} {da dc : DE} {pos : Pos}
theorem psd_par3L {i j l : Nat} {x y z : Str} {a c : Expr} {px py pz pt pd : Pos} {kt k2 pt2} (hc : X.calm = true) (hN : X.N.Nodup) (hi : X.N[i]? = some x) (hj : X.N[j]? = some y) (hl : X.N[l]? = some z) (hij : i ≠ j) (hil : i ≠ l) (hjl : j ≠ l)
    (hx : X.env.scope.names.lookup x = some .local) (hy : X.env.scope.names.lookup y = some .local) (hz : X.env.scope.names.lookup z = some .local) (ha : PD X B H0 a da) (hcc : PD X B H0 c dc)
    (hw : swappedStores [.Tuple [.Name x px, .Name y py, .Name z pz] kt pt] (.Tuple [a, .List [] pd, c] k2 pt2) X.env = pure (some [x, y, z])) (s1 : starEach [a, .List [] pd, c] X.env = (false, eval a X.env) :: starEach [.List [] pd, c] X.env := by rfl) (s2 : starEach [.List [] pd, c] X.env = (false, eval (.List [] pd) X.env) :: starEach [c] X.env := by rfl) (s3 : starEach [c] X.env = (false, eval c X.env) :: starEach [] X.env := by rfl)
    (hs : swapsWithSole [.Tuple [.Name x px, .Name y py, .Name z pz] kt pt] (.Tuple [a, .List [] pd, c] k2 pt2) pos.line X.env = pure false := by rfl) :
    PDS X B H0 (.Assign [.Tuple [.Name x px, .Name y py, .Name z pz] kt pt] (.Tuple [a, .List [] pd, c] k2 pt2) pos) (dPar3L i j l da dc) := PSmono (ps_par3 hc hN hi hj hl hij hil hjl hx hy hz (pa_cons ha (pa_cons (pe_lst pa_nil) (pa_cons hcc pa_nil s3) s2) s1) hw hs) fun D σ H ⟨G0, E, ⟨G, S, hs, ho, hd⟩, q1, q2, q3, q4⟩ => by
  refine ⟨G, S, _, hs, hd, fun v d G1 H1 e1 r1 p1 => ⟨sz1000 (Nat.zero_le _), fun q hq => ?_⟩⟩
  have lay := Stp.lay e1.wd hq (.lst [])
  refine ⟨G1, S, _, hs.step (e1.trans lay), p1, fun v2 d2 G2 H2 e2 r2 p2 => ⟨v, _, v2, rfl, q1 _ _ ?_⟩⟩
  have hg : G1 q = none := e1.wd.sub.free hq
  have hb := bag_ne e1.wd hq
  have k := e2.keep q _ upd_same hg hb
  have t0 := fun (hn : ¬ d.own) => (hs.step e1).set i r1 hn
  split at p2
  · have t1 := (hs.step (e1.trans (lay.trans e2))).set i (Rp.up (lay.trans e2).toOld r1) (fun z => z)
    refine ⟨G2, _, (t1.setOwn (p := q) (d := .ol []) j ⟨q, [], rfl, ⟨k.2, hb⟩, k.1, .nil⟩ ((ho.trans e1.toOld).dom e1.wd hq) fun m dm hm om ne e => ?_).set l r2 (fun z => z), ho.trans (e1.trans (lay.trans e2)).toOld, p2⟩
    obtain ⟨u, h1, h2, _⟩ := (t0 (fun z => z)).slot m dm hm
    rw [e] at h1; cases h1
    cases dm with
    | ol ds => obtain ⟨q', vs, e1, _, h3, _⟩ := h2; cases e1; rw [hq] at h3; cases h3
    | od ds => obtain ⟨q', vs, e1, _, h3, _⟩ := h2; cases e1; rw [hq] at h3; cases h3
    | _ => exact om.elim
  · have t1 := (hs.step (e1.trans (lay.trans e2))).set i (Rp.up (lay.trans e2).toOld r1) (fun z => z)
    refine ⟨G2, _, (t1.setOwn (p := q) (d := .ol []) j ⟨q, [], rfl, ⟨k.2, hb⟩, k.1, .nil⟩ ((ho.trans e1.toOld).dom e1.wd hq) fun m dm hm om ne e => ?_).set l r2 (fun z => z), ho.trans (e1.trans (lay.trans e2)).toOld, p2⟩
    obtain ⟨u, h1, h2, _⟩ := (t0 (fun z => z)).slot m dm hm
    rw [e] at h1; cases h1
    cases dm with
    | ol ds => obtain ⟨q', vs, e1, _, h3, _⟩ := h2; cases e1; rw [hq] at h3; cases h3
    | od ds => obtain ⟨q', vs, e1, _, h3, _⟩ := h2; cases e1; rw [hq] at h3; cases h3
    | _ => exact om.elim
  · exact p2.elim
end
end DL
/- ==== DLu ==== -/
/-! DLu: list.index of texts -/
namespace DL
open PySem PySem.Spec PyProof.Rows L2 RZ
def dIdxS (a b : DE) : DE := fun S post => a S fun x => ∃ zs : List Str, x.lsti = some (zs.map PyData.str) ∧ b S fun y => ∃ (z : Str) (j : Nat), y = .py (.str z) ∧ zs[j]? = some z ∧ (∀ m, m < j → zs[m]? ≠ some z) ∧ post (.py (.int j))
theorem strs_flat : ∀ zs : List Str, (zs.map V.str).all flatV = true
  | [] => rfl
  | _ :: zs => by rw [List.map_cons, List.all_cons, strs_flat zs]; rfl
section
variable {X : Cx} {B : List Addr} {H0 : Hp} {o e : Expr} {da db : DE} {apos cpos : Pos}
theorem index_lift {σ : L2.St} {H : Hp} {Q : VK} (h : lE X.K B H0 (dIdxS da db) σ H Q) : tBM X.K "list" (rIndex X.K) (lE X.K B H0 da) (tCons (lE X.K B H0 db) tNil) σ H Q := by
  obtain ⟨G, S, post, hs, hd, hq⟩ := h
  refine ⟨G, S, _, hs, hd, fun v d G1 H1 s1 r1 p1 => ?_⟩
  obtain ⟨zs, e1, p1⟩ := p1
  obtain ⟨p, vs, rfl, h1, h2⟩ := rp_lst s1.wd r1 e1
  refine ⟨Or.inl ⟨rfl, _, SqL.of h1⟩, G1, S, _, hs.step s1, p1, fun y dy G2 H2 s2 r2 p2 => ?_⟩
  obtain ⟨z, j, rfl, hj, hm, p2⟩ := p2
  cases r2
  obtain ⟨p', vs', e2, h3, h4⟩ := rp_lst s2.wd (Rp.up s2.toOld r1) e1
  cases e2
  have := DtAll.strs h4
  subst this
  refine ⟨p, zs.map V.str, .str z, j, .str z, rfl, rfl, SqL.of h3, rfl, strs_flat zs, by rw [List.getElem?_map, hj]; rfl, beq_self_eq_true z, fun m z' hm2 hz => ?_, hq _ (.py (.int _)) G2 H2 (s1.trans s2) (Rp.int _) p2⟩
  rw [List.getElem?_map] at hz
  cases e3 : zs[m]? with
  | none => rw [e3] at hz; cases hz
  | some t =>
    rw [e3] at hz
    have hz : V.str t = z' := Option.some.inj hz
    subst hz
    exact beq_false_of_ne fun q => hm m hm2 (by rw [e3, q])
theorem pd_index (ho : PD X B H0 o da) (he : PD X B H0 e db)
    (hp : ∀ {to : TE} {t : TA}, PE X o to → PA X [e] t → PE X (.Call (.Attribute o "index" apos) [e] [] cpos) (tBM X.K "list" (rIndex X.K) to t)) (hst : starEach [e] X.env = (false, eval e X.env) :: starEach [] X.env := by rfl) : PD X B H0 (.Call (.Attribute o "index" apos) [e] [] cpos) (dIdxS da db) :=
  PEmono (hp ho (pa_cons he pa_nil hst)) fun σ H Q h => index_lift h
end
end DL
/- ==== DLv ==== -/
/-! DLv: a tuple many times -/
namespace DL
open PySem PySem.Spec PyProof.Rows L2 RZ
def repD (n : Nat) (l : List PyData) : List PyData := (List.replicate n l).flatten
def fMulT : D → D → (D → Prop) → Prop := fun x y post => match x, y with
  | .py (.tuple ds), .py (.int k) => ds ≠ [] ∧ 2 ≤ k ∧ k ≤ 1000 ∧ ds.length ≤ 1000 ∧ post (.py (.tuple (repD k.toNat ds)))
  | _, _ => False
theorem DtAll.flat {K : Kf} {G : Hp} {vs : List V} {ds : List PyData} (h : DtAll K G vs ds) : ∀ n : Nat, DtAll K G (List.replicate n vs).flatten (repD n ds)
  | 0 => .nil
  | n + 1 => by
    unfold repD
    rw [List.replicate_succ, List.replicate_succ, List.flatten_cons, List.flatten_cons]
    exact h.append (DtAll.flat h n)
theorem od_mulT {K : Kf} {B : List Addr} : OpD K B (rRepT K) fMulT := fun G H x y dx dy post Q w rx ry hf hq => by
  unfold fMulT at hf
  split at hf
  · next ds k =>
    cases rx with
    | tup h1 h2 =>
      cases ry
      refine ⟨_, k, _, rfl, rfl, SqT.up w.sub h1, fun e => hf.1 ?_, hf.2.1, hf.2.2.1, by rw [h2.length]; exact hf.2.2.2.1, fun p hp => ?_⟩
      · have := h2.length
        rw [e] at this
        exact List.length_eq_zero_iff.mp this.symm
      · exact hq _ _ _ _ (Stp.new w hp _) (Rp.ofDt (Dt.newT (w.sub.free hp) (DtAll.flat h2 k.toNat))) hf.2.2.2.2
  · exact hf.elim
section
variable {X : Cx} {B : List Addr} {H0 : Hp} {a b : Expr} {da db : DE} {pos : Pos}
theorem pd_mulT (ha : PD X B H0 a da) (hb : PD X B H0 b db) : PD X B H0 (.BinOp a .Mult b pos) (dOp fMulT da db) := pd_op op_repT od_mulT ha hb
theorem pd_cal0 {x : Str} {p : Pos} {j k : Nat} {C : Ct} (c : Cal X.prog X.w X.K X.mg X.base x [] j C) (hr : Room k X.A) (hjk : j ≤ k := by decide) (hg : Gl X x := by rfl) (hdb : (x == ("__debug__" : Str)) = false := by decide) : PD X B H0 (.Call (.Name x p) [] [] pos) (dCall B C dNil) :=
  let ⟨_, _, hm, F, kp, b⟩ := c
  PEmono (pe_call0 F (hr.mono hjk) hg hm kp b .nil pass0 hdb) fun σ H Q ⟨G, S, post, hs, hd, hq⟩ => by
    exact ⟨B, G, [], post, hs.wd, .nil, hd, fun v d G' H' s2 r2 p2 => hq v d G' H' s2 r2 p2⟩
end
end DL
/- ==== DLw ==== -/
/-! DLw: a comprehension that is handed back, the caller's own. -/
namespace DL
open PySem PySem.Spec PyProof.Rows L2 RZ
def dLcO (di : DI) (g : DG) (t : DT) (e : DE) (own : List Nat) : Slots → (List PyData → Prop) → Prop := fun S post => di S fun ds => ∃ Iv : Nat → List PyData → Prop, Iv 0 [] ∧
  (∀ (i : Nat) (d : PyData) (acc : List PyData), ds[i]? = some d → Iv i acc → g d (wipeS S own) fun S2 => t S2 fun b => if b = true then e S2 fun y => match y with
    | .py q => acc.length < 16000000 ∧ Iv (i + 1) (acc ++ [q])
    | _ => False
  else Iv (i + 1) acc) ∧ ∀ acc, Iv ds.length acc → post acc
def dRetLcO (di : DI) (g : DG) (t : DT) (e : DE) (own : List Nat) : DS := fun E S => dLcO di g t e own S fun acc => E.rt (.ol acc)
section
variable {X : Cx} {B : List Addr} {H0 : Hp}
theorem lcO_lift {di : DI} {g : DG} {t : DT} {e : DE} {own is : List Nat} (hio : ∀ j, j ∈ is → j ∈ own) {σ : L2.St} {H : Hp} {Q : VK} {G : Hp} {S : Slots} {post : List PyData → Prop} (hs : Sl X.K B H0 S σ G H) (hd : dLcO di g t e own S post)
    (hq : ∀ (D : Addr) (vs : List V) (acc : List PyData) (G1 H1 G' H' : Hp), Stp X.K B G H G1 H1 → H1 D = none → Stp X.K B G H G' H' → G' D = none → D ∉ B → H' D = some (.lst vs) → DtAll X.K G' vs acc → post acc → Q (.ref D) H') : tLc (lI X.K B H0 di) (lG X.K B H0 is g) (lT X.K B H0 t) (lE X.K B H0 e) own σ H Q := by
  refine ⟨G, S, _, hs, hd, fun J ds G1 H1 s1 it ⟨Iv, i0, turn, fin⟩ D hD => ?_⟩
  have hDB := bag_ne s1.wd hD
  refine ⟨fun i m H2 => m = ds.length - i ∧ i ≤ ds.length ∧ ∃ G2 acc vs, Stp X.K B G1 H1 G2 H2 ∧ G2 D = none ∧ H2 D = some (.lst vs) ∧ DtAll X.K G2 vs acc ∧ Iv i acc, ⟨ds.length, rfl, Nat.zero_le _, G1, [], [], Stp.lay s1.wd hD _, s1.wd.sub.free hD, upd_same, .nil, i0⟩, ?_⟩
  rintro i m H2 ⟨rfl, hi, G2, acc, vs, s2, gD, hD2, da, hiv⟩
  obtain ⟨t1, t2⟩ := it G2 H2 s2.wd s2.up i
  cases eq : ds[i]? with
  | none =>
    have := List.getElem?_eq_none_iff.mp eq
    have : i = ds.length := by omega
    subst this
    exact .inl ⟨t1 eq, hq D vs acc G1 H1 G2 H2 s1 hD (s1.trans s2) gD hDB hD2 da (fin acc hiv)⟩
  | some d =>
    have hlt := (List.getElem?_eq_some_iff.mp eq).1
    obtain ⟨g1, g2⟩ := t2 d eq
    refine .inr ⟨g1, fun H' => ∃ G2 acc vs, Stp X.K B G1 H1 G2 H' ∧ G2 D = none ∧ H' D = some (.lst vs) ∧ DtAll X.K G2 vs acc ∧ Iv (i + 1) acc, fun H' z => ⟨ds.length - (i + 1), by omega, rfl, hlt, z⟩, fun x H3 y => ?_⟩
    obtain ⟨G3, s3, dx⟩ := g2 x H3 y
    have st : Stp X.K B G1 H1 G3 H3 := s2.trans s3
    have k3 := s3.keep D _ hD2 gD hDB
    refine ⟨G3, wipeS S own, d, _, (hs.step (s1.trans st)).wipe own, dx, turn i d acc eq hiv, fun S' σ' hs' hl hj p => ⟨?_, G3, S', _, hs', p, fun b G4 H4 s4 p4 => ?_⟩⟩
    · have hw := wipe_eq hl hj own hio
      have : ∀ (vs : List Nat) (τ : L2.St), L2.wipe (L2.wipe τ vs) vs = L2.wipe τ vs := fun vs τ => by
        refine wipe_eq (is := vs) (L2.wipe_length τ vs) (fun j hn => ?_) vs fun _ z => z
        exact L2.wipe_out hn
      rw [hw, this]
    · have k4 := s4.keep D _ k3.1 k3.2 hDB
      cases b with
      | true =>
        rw [if_pos rfl] at p4
        refine iteT ?_
        refine ⟨G4, S', _, hs'.step s4, p4, fun v q G5 H5 s5 r5 p5 => ?_⟩
        have k5 := s5.keep D _ k4.1 k4.2 hDB
        split at p5
        · next q' =>
          refine ⟨vs, k5.1, szL (by rw [da.length]; exact p5.1), G5, acc ++ [q'], vs ++ [v], ?_, k5.2, upd_same, (DtAll.up (s3.trans (s4.trans s5)).up da).append (.one r5), p5.2⟩
          have s6 := st.trans (s4.trans s5)
          refine ⟨⟨s6.up, fun a u h h' hb => ?_⟩, ⟨fun a u h => ?_, fun b hb => ?_⟩⟩
          · have ne : a ≠ D := ne_of_none h hD
            rw [upd_ne ne]; exact s6.keep a u h h' hb
          · rw [upd_ne (ne_of_none h k5.2)]; exact s6.wd.sub _ _ h
          · have ne : b ≠ D := fun z => hDB (z ▸ hb)
            obtain ⟨y1, y2⟩ := s6.wd.bags b hb
            exact ⟨y1, y2.up (fun _ _ h => h) (upd_ne ne)⟩
        · exact p5.elim
      | false =>
        rw [if_neg Bool.false_ne_true] at p4
        refine iteF ?_
        exact ⟨G4, acc, vs, st.trans s4, k4.2, k4.1, DtAll.up (s3.trans s4).up da, p4⟩
theorem psd_retLcO {elt tg iter : Expr} {ifs : List Expr} {scope : Scope} {own : List (Str × Nat)} {is : List Nat} {pos rpos : Pos} {di : DI} {g : DG} {t : DT} {e : DE} (hc : X.calm = true) (hN : X.N.Nodup) (hi : PDI X B H0 tg iter di) (ok : BlkOk X.N X.env.scope scope own)
    (hg : ∀ (s : Shared) (H : Hp) (C : Addr) (cl : List (Str × Addr)) (fp : List Addr), PDG (X.blk s H scope (compEnvC scope cl C X.env) fp) B H0 is tg g) (ht : ∀ (s : Shared) (H : Hp) (C : Addr) (cl : List (Str × Addr)) (fp : List Addr), PTs (X.blk s H scope (compEnvC scope cl C X.env) fp) ifs (lT X.K B H0 t))
    (he : ∀ (s : Shared) (H : Hp) (C : Addr) (cl : List (Str × Addr)) (fp : List Addr), PD (X.blk s H scope (compEnvC scope cl C X.env) fp) B H0 elt e) (hio : ∀ j, j ∈ is → j ∈ own.map (·.2) := by decide) (hs : ∀ x, foldedSetIterable iter X.env x = pure x := by intro _; rfl) :
    PDS X B H0 (.Return (some (.ListComp elt [⟨tg, iter, ifs, 0⟩] scope pos)) rpos) (dRetLcO di g t e (own.map (·.2))) := PSmono (ps_ret (pe_lc hc hN hi ok hg ht he hs)) fun D σ H ⟨G0, E, ⟨G, S, hs, ho, hd⟩, q1, q2, q3, q4⟩ =>
  lcO_lift hio hs hd fun L vs acc G1 H1 G' H' s1 h1 s2 g1 hB h2 da p => q2 _ _ ⟨G', .ol acc, s2.wd, ho.trans s2.toOld, ⟨L, vs, rfl, ⟨g1, hB⟩, h2, da⟩, fun _ p e => by cases e; exact (ho.trans s1.toOld).dom s1.wd h1, p⟩
end
end DL
/- ==== DLx ==== -/
/-! DLx: list(enumerate(a list)). -/
namespace DL
open PySem PySem.Spec PyProof.Rows PySem.Calls L2 RZ
theorem look_en_len : typeLookup (.type "enumerate") "__len__" = pure none := by rw [typeLookup_type, builtinLookup_eq_fast]; kernel_rfl
theorem look_en_hint : typeLookup (.type "enumerate") "__length_hint__" = pure none := by rw [typeLookup_type, builtinLookup_eq_fast]; kernel_rfl
section
variable {P : Program} {w : World} {A : Around} {E : Value → Shared → Prop} {s : Shared}
theorem en_hint {e : Addr} (hT : s.TypeIs (.ref e) "enumerate") {Q : Bool → Shared → Prop} (h : Q true s) : wpAny (model P w) A (Builtin.List.listLengthHint (.ref e)) Q E s := by
  unfold Builtin.List.listLengthHint
  refine wpAny_bind (wpAny_specialOf hT look_en_len ?_)
  dsimp only
  refine wpAny_bind ?_
  exact wpAny_specialOf hT look_en_hint (wpAny_pure h)
/-- an enumerate that has told so many -/
def EnSt (h : Heap) (e it l S : Addr) (i : Nat) : Prop := (i = 0 ∧ ∃ old, PySem.IsEnum h e it ((0 : Nat) : Int) old) ∨ ∃ old T f oT, PySem.IsEnumHeld h e it (i : Int) old T f ∧ h.get? T = some oT ∧ T ≠ e ∧ T ≠ it ∧ T ≠ S
theorem EnSt.keep {h h' : Heap} {e it l S : Addr} {i : Nat} (x : EnSt h e it l S i) (k : ∀ b o, b ≠ S → h.get? b = some o → h'.get? b = some o) (heS : e ≠ S) : EnSt h' e it l S i := by
  rcases x with ⟨z, old, y⟩ | ⟨old, T, f, oT, y, hT, n1, n2, n3⟩
  · exact .inl ⟨z, old, k e _ heS y⟩
  · exact .inr ⟨old, T, f, oT, k e _ heS y, k T _ n3 hT, n1, n2, n3⟩
/-- one is told -/
theorem en_item {e it l S : Addr} {i : Nat} {items : Array Value} {x : Value} {Q : Option Value → Shared → Prop} (st : EnSt s.heap e it l S i) (hl : s.heap.IsList l items) (hit : s.heap.IsListIter it l i) (hx : items[i]? = some x) (hne : e ≠ it) (hS : S < s.heap.objs.size)
    (hQ : ∀ h', EnSt h' e it l S (i + 1) → h'.IsListIter it l (i + 1) → h'.get? s.heap.objs.size = some { cls := .type "tuple", data := .seq #[.int i s.toks, x] } → h'.objs.size = s.heap.objs.size + 1 →
      (∀ b o, b ≠ e → b ≠ it → s.heap.get? b = some o → h'.get? b = some o) → Q (some (.ref s.heap.objs.size)) { s with heap := h', toks := s.toks + 1 }) : wpAny (model P w) A (pyNext (.ref e)) Q E s := by
  have lit : it < s.heap.objs.size := by obtain ⟨o, z, _⟩ := hit; exact Heap.lt_size z
  have cast : ((i : Int) + 1) = ((i + 1 : Nat) : Int) := by push_cast; rfl
  rcases st with ⟨rfl, old, y⟩ | ⟨old, T, f, oT, y, hT, n1, n2, n3⟩
  · refine wpAny_pyNext_enum_item y hit hl hx hne fun h' a1 a2 a3 a4 a5 => hQ h' (.inr ⟨x, s.heap.objs.size, false, _, ?_, a3, Nat.ne_of_gt (Heap.lt_size y), Nat.ne_of_gt lit, Nat.ne_of_gt hS⟩) a2 a3 a4 a5
    rw [cast] at a1; exact a1
  · refine PySem.wpAny_pyNext_enum_item_held y hT n1 n2 hit hl hx hne fun h' a1 a2 a3 a4 a5 => hQ h' (.inr ⟨old, T, true, oT, ?_, a5 T oT n1 n2 hT, n1, n2, n3⟩) a2 a3 a4 a5
    rw [cast] at a1; exact a1
theorem en_done {e it l S : Addr} {items : Array Value} {i : Nat} {Q : Option Value → Shared → Prop} (hh : A.handled = none) (st : EnSt s.heap e it l S i) (hl : s.heap.IsList l items) (hit : s.heap.IsListIter it l i) (hx : items[i]? = none)
    (hQ : ∀ h', Heap.ExtBut it s.heap h' → Q none { s with heap := h' }) : wpAny (model P w) A (pyNext (.ref e)) Q E s := by
  rcases st with ⟨rfl, old, y⟩ | ⟨old, T, f, oT, y, _, _, _, _⟩
  · exact wpAny_pyNext_enum_end hh y hit hl hx hQ
  · exact PySem.wpAny_pyNext_enum_end_held hh y hit hl hx hQ
/-- the pairs told so far -/
structure EnG (items : Array Value) (N : Nat) (h : Heap) (as : List Addr) : Prop where
  rise : as.Pairwise (· < ·)
  above : ∀ a ∈ as, N ≤ a
  pairs : ∀ (j : Nat) (a : Addr), as[j]? = some a → ∃ t x, items[j]? = some x ∧ h.get? a = some { cls := .type "tuple", data := .seq #[.int (j : Int) t, x] }
theorem en_loop {R : Result → Shared → Prop} {S e it l N : Addr} {items : Array Value} (hh : A.handled = none) (hS : S < N) (he : e < N) (hi : it < N) (hlN : l < N) (n1 : S ≠ e) (n2 : S ≠ it) (n3 : e ≠ it) (n4 : l ≠ S) (n5 : l ≠ e) (n6 : l ≠ it) (hn : items.size ≤ sizeLine) (res : Value) {h₁ : Heap}
    (hR : ∀ (h' : Heap) (tk : Nat) (acc : Array Value) (c : Nat) (as : List Addr), (∀ b o, b ≠ S → b ≠ e → b ≠ it → h₁.get? b = some o → h'.get? b = some o) → h'.get? S = some { cls := .type "list", dict := none, data := .seq acc c, slots := #[] } → as.length = items.size → EnG items N h' as → acc.toList = as.map Value.ref → R (.ok (.ret res)) { s with heap := h', toks := tk }) :
    ∀ (k i : Nat) (h : Heap) (tk c : Nat) (acc : Array Value) (as : List Addr), items.size - i = k → i ≤ items.size → EnSt h e it l S i → h.IsList l items → h.IsListIter it l i → (∀ b o, b ≠ S → b ≠ e → b ≠ it → h₁.get? b = some o → h.get? b = some o) →
      h.get? S = some { cls := .type "list", dict := none, data := .seq acc c, slots := #[] } → acc.toList = as.map Value.ref → as.length = i → EnG items N h as → N ≤ h.objs.size →
      codeAny (model P w) A (.builtin "list.extend.loop" ⟨[.ref S, .ref e, res], []⟩) R { s with heap := h, toks := tk } := by
  intro k
  induction k with
  | zero =>
    intro i h tk c acc as hk hile st hl hit keep hSo hacc hal G hN
    have hin : i = items.size := by omega
    subst hin
    refine codeAny_builtin PySem.F.entry_extend_loop ?_
    rw [Around.under_plainId PySem.F.plain_extend_loop _]
    change wpAny _ A.in1 (pyNext (.ref e) >>= _) _ _ _
    refine wpAny_bind (en_done (s := { s with heap := h, toks := tk }) (A := A.in1) hh st hl hit (by simp) fun h' ex => ?_)
    refine wpAny_pure (hR h' tk acc c as (fun b o z1 z2 z3 q => ex b o z3 (keep b o z1 z2 z3 q)) (ex S _ n2 hSo) hal ⟨G.rise, G.above, fun j a hj => ?_⟩ hacc)
    obtain ⟨t, x, q1, q2⟩ := G.pairs j a hj
    have := G.above a (List.mem_of_getElem? hj)
    exact ⟨t, x, q1, ex a _ (Nat.ne_of_gt (Nat.lt_of_lt_of_le hi this)) q2⟩
  | succ k ih =>
    intro i h tk c acc as hk hile st hl hit keep hSo hacc hal G hN
    have hlt : i < items.size := by omega
    have hx : items[i]? = some items[i] := Array.getElem?_eq_getElem hlt
    refine codeAny_builtin PySem.F.entry_extend_loop ?_
    rw [Around.under_plainId PySem.F.plain_extend_loop _]
    change wpAny _ A.in1 (pyNext (.ref e) >>= _) _ _ _
    refine wpAny_bind (en_item (s := { s with heap := h, toks := tk }) (S := S) st hl hit hx n3 (Heap.lt_size hSo) fun h' st' hit' ht hz kp => ?_)
    dsimp only at ht hz kp ⊢
    have hS2 := kp S _ n1 n2 hSo
    have hSl : S < h.objs.size := Heap.lt_size hSo
    have up : ∀ b o, b ≠ S → h'.get? b = some o → (h'.update S (Obj.mapSeq (·.push (Value.ref h.objs.size)))).get? b = some o := fun b o hb q => (Heap.get?_update_other _ _ (Ne.symm hb)).trans q
    have hsz : acc.size = i := by rw [← Array.length_toList, hacc, List.length_map, hal]
    have new : h.objs.size ≠ S := Nat.ne_of_gt hSl
    change wpAny _ A.in1 (updateSeq S (·.push (Value.ref h.objs.size)) >>= _) _ _ _
    refine wpAny_bind ?_
    refine wpAny_updateSeq hS2 rfl (wpAny_pure ⟨plainId_quiet PySem.F.plain_extend_loop _, ih (i + 1) _ (tk + 1) _ (acc.push (Value.ref h.objs.size)) (as ++ [h.objs.size]) (by omega) hlt (st'.keep up (Ne.symm n1)) ?_ ?_ (fun b o z1 z2 z3 q => up b o z1 (kp b o z2 z3 (keep b o z1 z2 z3 q))) (Heap.get?_update_self _ hS2 rfl) (by rw [Array.toList_push, hacc, List.map_append]; rfl) (by rw [List.length_append, hal]; rfl) ⟨?_, ?_, ?_⟩ ?_⟩) (by rw [hsz]; omega) (by show (acc.push (Value.ref h.objs.size)).size ≤ sizeLine + 1; rw [Array.size_push, hsz]; omega)
    · obtain ⟨o, q1, q2⟩ := hl
      exact ⟨o, up l o n4 (kp l o n5 n6 q1), q2⟩
    · obtain ⟨o, q1, q2⟩ := hit'
      exact ⟨o, up it o (Ne.symm n2) q1, q2⟩
    · refine List.pairwise_append.mpr ⟨G.rise, List.pairwise_singleton _ _, fun a ha b hb => ?_⟩
      rw [List.mem_singleton.mp hb]
      obtain ⟨j, hj⟩ := List.getElem?_of_mem ha
      obtain ⟨_, _, _, q⟩ := G.pairs j a hj
      exact Heap.lt_size q
    · intro a ha
      rcases List.mem_append.mp ha with z | z
      · exact G.above a z
      · rw [List.mem_singleton.mp z]; exact hN
    · intro j a hj
      by_cases hjl : j < as.length
      · rw [List.getElem?_append_left hjl] at hj
        obtain ⟨t, x, q1, q2⟩ := G.pairs j a hj
        have := G.above a (List.mem_of_getElem? hj)
        exact ⟨t, x, q1, up a _ (Nat.ne_of_gt (Nat.lt_of_lt_of_le hS this)) (kp a _ (Nat.ne_of_gt (Nat.lt_of_lt_of_le he this)) (Nat.ne_of_gt (Nat.lt_of_lt_of_le hi this)) q2)⟩
      · rw [List.getElem?_append_right (by omega)] at hj
        have hj0 : j - as.length = 0 := by
          have := (List.getElem?_eq_some_iff.mp hj).1
          rw [List.length_singleton] at this; omega
        rw [hj0] at hj
        cases hj
        have hji : j = i := by omega
        subst hji
        exact ⟨tk, items[j], hx, up _ _ new ht⟩
    · exact Nat.le_trans hN (Nat.le_of_lt (Heap.lt_size (up _ _ new ht)))
theorem en_extend {R : Result → Shared → Prop} {S e it l : Addr} {items : Array Value} {c₀ : Nat} (hh : A.handled = none) (ie : PySem.IsEnum s.heap e it ((0 : Nat) : Int) .none) (hit : s.heap.IsListIter it l 0) (hl : s.heap.IsList l items) (hS : s.heap.get? S = some { cls := .type "list", data := .seq #[] c₀ }) (n1 : S ≠ e) (n2 : S ≠ it) (n3 : e ≠ it) (n4 : l ≠ S) (n5 : l ≠ e) (n6 : l ≠ it) (hn : items.size ≤ sizeLine) (res : Value)
    (hR : ∀ (h' : Heap) (tk : Nat) (acc : Array Value) (c : Nat) (as : List Addr), (∀ b o, b ≠ S → b ≠ e → b ≠ it → s.heap.get? b = some o → h'.get? b = some o) → h'.get? S = some { cls := .type "list", dict := none, data := .seq acc c, slots := #[] } → as.length = items.size → EnG items s.heap.objs.size h' as → acc.toList = as.map Value.ref → R (.ok (.ret res)) { s with heap := h', toks := tk }) :
    wpAny (model P w) A.in1 (Builtin.List.listExtendWith (.ref S) (.ref e) res)
      (fun fin s' => match fin with | .done f => R (.ok f) s' | .again c' => c'.quiet = true ∧ codeAny (model P w) A c' R s') (fun e s' => R (.error e) s') s := by
  have lS := Heap.lt_size hS
  have le := Heap.lt_size ie
  have li : it < s.heap.objs.size := by obtain ⟨o, z, _⟩ := hit; exact Heap.lt_size z
  have ll : l < s.heap.objs.size := by obtain ⟨o, z, _⟩ := hl; exact Heap.lt_size z
  have hT : s.TypeIs (.ref e) "enumerate" := ⟨_, ie, rfl⟩
  unfold Builtin.List.listExtendWith
  refine wpAny_bind (wpAny_typeOf (T := "enumerate") hT ?_)
  have q1 : Builtin.List.listSameRef (.ref S) (.ref e) = false := by simp [Builtin.List.listSameRef, n1]
  have q2 : (Value.type "enumerate" == Value.type "list") = false := by decide
  have q3 : (Value.type "enumerate" == Value.type "tuple") = false := by decide
  simp only [q1, q2, q3, Bool.or_false, Bool.false_eq_true, if_false]
  refine wpAny_bind (wpAny_pyIter_enum ie ?_)
  refine wpAny_bind (wpAny_holding (en_hint hT ?_))
  simp only [Bool.true_or, if_true]
  refine wpAny_bind (wpAny_rule ?_)
  refine wpAny_bind ?_
  change wpAny _ _ (updateSeq S (·.push .none) >>= fun _ => updateSeq S (·.pop)) _ _ _
  refine wpAny_bind (wpAny_updateSeq hS rfl ?_)
  have hS1 := Heap.get?_update_self (Obj.mapSeq (·.push Value.none)) hS rfl
  refine wpAny_updateSeq (hz := by seq_fits) hS1 rfl ?_
  have hS2 := Heap.get?_update_self (Obj.mapSeq (·.pop)) hS1 rfl
  have oth : ∀ b o, b ≠ S → s.heap.get? b = some o → ((s.heap.update S (Obj.mapSeq (·.push Value.none))).update S (Obj.mapSeq (·.pop))).get? b = some o := fun b o hb q => (Heap.get?_update_other _ _ (Ne.symm hb)).trans ((Heap.get?_update_other _ _ (Ne.symm hb)).trans q)
  refine wpAny_pure ⟨plainId_quiet PySem.F.plain_extend_loop _, ?_⟩
  refine en_loop (s := s) (h₁ := s.heap) (N := s.heap.objs.size) hh lS le li ll n1 n2 n3 n4 n5 n6 hn res (fun h' tk acc c as a1 a2 a3 a4 a5 => hR h' tk acc c as a1 a2 a3 a4 a5) items.size 0 _ s.toks _ #[] [] (Nat.sub_zero _) (Nat.zero_le _) (.inl ⟨rfl, _, oth e _ (Ne.symm n1) ie⟩) ?_ ?_ (fun b o z1 _ _ q => oth b o z1 q) hS2 rfl rfl ⟨List.Pairwise.nil, (fun a ha => by cases ha), fun j a hj => by simp at hj⟩ ?_
  · obtain ⟨o, z1, z2⟩ := hl
    exact ⟨o, oth l o n4 z1, z2⟩
  · obtain ⟨o, z1, z2⟩ := hit
    exact ⟨o, oth it o (Ne.symm n2) z1, z2⟩
  · exact Nat.le_of_eq (Eq.trans (Heap.SameBut.update (h := s.heap) ..).1.symm (Heap.SameBut.update ..).1.symm)
theorem en_call {Q : Value → Shared → Prop} {e it l : Addr} {items : Array Value} (hh : A.handled = none) (ie : PySem.IsEnum s.heap e it ((0 : Nat) : Int) .none) (hit : s.heap.IsListIter it l 0) (hl : s.heap.IsList l items) (n3 : e ≠ it) (n5 : l ≠ e) (n6 : l ≠ it) (hn : items.size ≤ sizeLine)
    (hQ : ∀ (h' : Heap) (tk : Nat) (acc : Array Value) (c : Nat) (as : List Addr), (∀ b o, b ≠ e → b ≠ it → s.heap.get? b = some o → h'.get? b = some o) → h'.get? s.heap.objs.size = some { cls := .type "list", dict := none, data := .seq acc c, slots := #[] } → as.length = items.size → EnG items (s.heap.objs.size + 1) h' as → acc.toList = as.map Value.ref → Q (.ref s.heap.objs.size) { s with heap := h', toks := tk }) :
    wpAny (model P w) A (call (.type "list") [.ref e]) Q E s := by
  refine callType_codes (Q₁ := fun obj s₁ => obj = .ref s.heap.objs.size ∧ s₁ = { s with heap := s.heap.push { cls := .type "list", data := .seq #[] } }) PySem.F.called_list (PySem.F.typeCall_list_1 _) PySem.F.entry_list_init (code_list_new _ ⟨rfl, rfl⟩) fun obj s₁ h₁ => ?_
  obtain ⟨rfl, rfl⟩ := h₁
  have hS : (s.heap.push { cls := .type "list", data := .seq #[] }).get? s.heap.objs.size = some { cls := .type "list", data := .seq #[] } := Heap.get?_push_size _ rfl
  have le := Heap.lt_size ie
  have li : it < s.heap.objs.size := by obtain ⟨o, z, _⟩ := hit; exact Heap.lt_size z
  have ll : l < s.heap.objs.size := by obtain ⟨o, z, _⟩ := hl; exact Heap.lt_size z
  refine ⟨⟨_, hS, rfl⟩, PySem.F.args_list_init_2 _ _, ?_⟩
  change wpAny _ _ (Builtin.List.listItems (.ref s.heap.objs.size) >>= fun old => Builtin.List.listUpdate (.ref s.heap.objs.size) (fun _ => #[]) >>= fun _ => letGo old.toList.reverse >>= fun _ => Builtin.List.listExtendWith (.ref s.heap.objs.size) (.ref e) .none) _ _ _
  refine wpAny_bind ?_
  unfold Builtin.List.listItems
  refine wpAny_bind (wpAny_seqItems hS rfl (wpAny_pure ?_))
  change wpAny _ _ (updateSeq s.heap.objs.size (fun _ => #[]) >>= fun _ => letGo (#[] : Array Value).toList.reverse >>= fun _ => Builtin.List.listExtendWith (.ref s.heap.objs.size) (.ref e) .none) _ _ _
  refine wpAny_bind (wpAny_updateSeq hS rfl ?_)
  have hS2 := Heap.get?_update_self (Obj.mapSeq (fun _ => (#[] : Array Value))) hS rfl
  have oth : ∀ b o, b ≠ s.heap.objs.size → s.heap.get? b = some o → ((s.heap.push { cls := .type "list", data := .seq #[] }).update s.heap.objs.size (Obj.mapSeq (fun _ => (#[] : Array Value)))).get? b = some o := fun b o hb q => (Heap.get?_update_other _ _ (Ne.symm hb)).trans (Heap.get?_push_of_some _ q)
  refine wpAny_bind (wpAny_letGo ?_)
  refine en_extend (A := A.in1) hh (oth e _ (Nat.ne_of_lt le) ie) ?_ ?_ hS2 (Nat.ne_of_gt le) (Nat.ne_of_gt li) n3 (Nat.ne_of_lt ll) n5 n6 hn .none fun h' tk acc c as a1 a2 a3 a4 a5 => ⟨rfl, hQ h' tk acc c as (fun b o z1 z2 q => a1 b o (Nat.ne_of_lt (Heap.lt_size q)) z1 z2 (oth b o (Nat.ne_of_lt (Heap.lt_size q)) q)) a2 a3 ⟨a4.rise, fun a ha => Nat.le_trans ?_ (a4.above a ha), a4.pairs⟩ a5⟩
  · obtain ⟨o, z1, z2⟩ := hit
    exact ⟨o, oth it o (Nat.ne_of_lt li) z1, z2⟩
  · obtain ⟨o, z1, z2⟩ := hl
    exact ⟨o, oth l o (Nat.ne_of_lt ll) z1, z2⟩
  · rw [(Heap.SameBut.update ..).1, Heap.size_push]
    exact Nat.le_refl _
end
def numb : Nat → List V → List (Key × V)
  | _, [] => []
  | i, x :: xs => (.inl (i : Int), x) :: numb (i + 1) xs
def numbV : Nat → List Value → List (Key × Value)
  | _, [] => []
  | i, x :: xs => (.inl (i : Int), x) :: numbV (i + 1) xs
def numP : Nat → List PyData → List PyData
  | _, [] => []
  | i, x :: xs => .tuple [.int (i : Int), x] :: numP (i + 1) xs
theorem numb_kv : ∀ {xs : List V} {us : List Value} (i : Nat), Vals xs us → KV (numb i xs) (numbV i us)
  | _, _, _, .nil => .nil
  | _, _, i, .cons r t => .cons ⟨rfl, r⟩ (numb_kv (i + 1) t)
theorem numbV_len : ∀ (us : List Value) (i : Nat), (numbV i us).length = us.length
  | [], _ => rfl
  | _ :: us, i => by show (numbV (i + 1) us).length + 1 = us.length + 1; rw [numbV_len us]
theorem numb_len : ∀ (us : List V) (i : Nat), (numb i us).length = us.length
  | [], _ => rfl
  | _ :: us, i => by show (numb (i + 1) us).length + 1 = us.length + 1; rw [numb_len us]
theorem numbV_at : ∀ (us : List Value) (i j : Nat) (x : Value), us[j]? = some x → (numbV i us)[j]? = some (.inl ((i + j : Nat) : Int), x)
  | [], _, _, _, h => by simp at h
  | u :: us, i, 0, x, h => by cases h; rfl
  | u :: us, i, j + 1, x, h => by
    have := numbV_at us (i + 1) j x h
    rw [show i + 1 + j = i + (j + 1) by omega] at this
    exact this
def tLstEn (K : Kf) (te : TE) : TE := fun σ H Q => te σ H fun x H1 => ∃ (l : Addr) (xs : List V), x = .ref l ∧ SqL K H1 l xs ∧
  ∀ (H' : Hp) (p : Addr) (ts : List Addr), (∀ b o, H1 b = some o → H' b = some o) → H1 p = none → (∀ t ∈ ts, H1 t = none) → p ∉ ts → H' p = some (.lst (ts.map V.ref)) → Paired (fun (t : Addr) (q : Key × V) => H' t = some (.tup [kV q.1, q.2])) ts (numb 0 xs) → Q (.ref p) H'
section
variable {X : Cx} {a : Expr} {ta : TE} {p p2 q pos : Pos}
theorem pe_lstEn (hc : X.calm = true) (hg : Gl X "list") (hm : X.mg "list" = none) (hg2 : Gl X "enumerate") (hm2 : X.mg "enumerate" = none) (ha : PE X a ta)
    (na : starEach [a] X.env = (false, eval a X.env) :: starEach [] X.env := by rfl) (nr : starEach [.Call (.Name "enumerate" p2) [a] [] q] X.env = (false, eval (.Call (.Name "enumerate" p2) [a] [] q) X.env) :: starEach [] X.env := by rfl) : PE X (.Call (.Name "list" p) [.Call (.Name "enumerate" p2) [a] [] q] [] pos) (tLstEn X.K ta) := by
  refine ⟨fun pins s σ H Q I h => ?_⟩
  refine Call_ (ld_blt I hg hm boot_list ?_)
  refine PyProof.Rows.callWith_type1 (PyProof.Rows.args_cons ?_ nr) nr rfl
  refine Call_ (ld_blt I hg2 hm2 boot_enumerate ?_)
  refine PyProof.Rows.callWith_type1 (PyProof.Rows.args_cons (thn (ha.run pins s σ H _ I h) fun v s1 ⟨x, H1, I1, r1, q1⟩ => PyProof.Rows.args_nil ?_) na) na rfl
  obtain ⟨l, xs, rfl, hq, q1⟩ := q1
  cases r1
  obtain ⟨its, r, pl, hz⟩ := I1.list hq
  have ll : l < s1.heap.objs.size := by obtain ⟨o, z, _⟩ := pl.isList; exact Heap.lt_size z
  refine call_enumerate_list pl.isList fun h1 he hit hsz hk => ?_
  refine PyProof.Rows.args_nil ?_
  have hl1 : h1.IsList l its.toArray := by obtain ⟨o, z1, z2⟩ := pl.isList; exact ⟨o, hk l o z1, z2⟩
  have hlen := r.length
  refine en_call (s := { s1 with heap := h1 }) (I1.ok.hd hc) he hit hl1 (Nat.succ_ne_self _) (Nat.ne_of_lt (Nat.lt_succ_of_lt ll)) (Nat.ne_of_lt ll) ?_ fun h' tk acc c as a1 a2 a3 a4 a5 => ?_
  · rw [List.size_toArray, ← hlen]; exact hz
  dsimp only at a1 a2 a3 a4
  -- the state before the list, with the two that were made for it given up
  let fr : Obj := { cls := .none, data := .freed }
  have mz : ((s1.heap.push fr).push fr).objs.size = h1.objs.size := by rw [Heap.size_push, Heap.size_push, hsz]
  have mid : ∀ b o, ((s1.heap.push fr).push fr).get? b = some o → s1.heap.get? b = some o := fun b o z => by
    by_cases z1 : b < s1.heap.objs.size
    · have e1 : ((s1.heap.push fr).push fr).get? b = s1.heap.get? b := by
        unfold Heap.get? Heap.push
        dsimp only
        rw [Array.getElem?_push, Array.getElem?_push, if_neg (by rw [Array.size_push]; exact Nat.ne_of_lt (Nat.lt_succ_of_lt z1)), if_neg (Nat.ne_of_lt z1)]
      rw [e1] at z; exact z
    · exfalso
      have z2 := Heap.lt_size z
      rw [Heap.size_push, Heap.size_push] at z2
      unfold Heap.get? Heap.push at z
      dsimp only at z
      rw [Array.getElem?_push, Array.getElem?_push] at z
      by_cases c1 : b = (s1.heap.objs.push fr).size
      · rw [if_pos c1] at z; cases z
      · rw [if_neg c1] at z
        by_cases c2 : b = s1.heap.objs.size
        · rw [if_pos c2] at z; cases z
        · rw [Array.size_push] at c1
          exact Nat.lt_irrefl _ (Nat.lt_of_lt_of_le z2 (Nat.succ_le_of_lt (Nat.lt_of_le_of_ne (Nat.succ_le_of_lt (Nat.lt_of_le_of_ne (Nat.not_lt.mp z1) (Ne.symm c2))) (Ne.symm c1))))
  have I2 : L2.Inv X pins σ H1 { s1 with heap := (s1.heap.push fr).push fr } := I1.kept (t' := s1.toks) fun b ob q => Heap.get?_push_of_some _ (Heap.get?_push_of_some _ q)
  have hG : PySem.W.KdxG (mixKind X.prog X.w) (numbV 0 its) ((s1.heap.push fr).push fr).objs.size h' as := ⟨a4.rise, fun t ht => by
    have := a4.above t ht
    rw [mz]; exact this, fun j t hj => by
    obtain ⟨tk', x, z1, z2⟩ := a4.pairs j t hj
    have z1 : its[j]? = some x := by rw [List.getElem?_toArray] at z1; exact z1
    have := numbV_at its 0 j x z1
    rw [Nat.zero_add] at this
    exact ⟨.int (j : Int) tk', .inl (j : Int), x, this, by simp [mixKind, keyIs, Value.isInt], z2⟩⟩
  obtain ⟨H', k1, k2, k3, k4, k5, k6, J⟩ := LiI.items_laid (tk := tk) (kvs := numb 0 xs) (acc := acc) (c := c) I2 (by rw [numb_len]; exact hz) (numb_kv 0 r) (fun b o z => a1 b o (Nat.ne_of_lt (Nat.lt_succ_of_lt (Heap.lt_size (mid b o z)))) (Nat.ne_of_lt (Heap.lt_size (mid b o z))) (hk b o (mid b o z))) (by rw [mz]; exact a2) (by rw [numbV_len, a3, List.size_toArray]) hG a5
  dsimp only at k2 k4 k5
  rw [mz] at k2 k4 k5
  exact ⟨.ref _, H', J, rfl, q1 H' _ as k1 k2 k3 k4 k5 k6⟩
end
def dLstEn (de : DE) : DE := fun S post => de S fun x => match x with
  | .py (.list ds) => post (.py (.list (numP 0 ds)))
  | _ => False
theorem paired_mem {α β : Type} {F F' : α → β → Prop} : ∀ {as : List α} {bs : List β}, Paired F as bs → (∀ a ∈ as, ∀ b, F a b → F' a b) → Paired F' as bs
  | _, _, .nil, _ => .nil
  | _, _, .cons h t, k => .cons (k _ (List.mem_cons_self ..) _ h) (paired_mem t fun a ha b z => k a (List.mem_cons_of_mem _ ha) b z)
theorem num_dt {K : Kf} {G G' : Hp} (up : Same G G') : ∀ {vs : List V} {ds : List PyData} {ts : List Addr} {i : Nat}, DtAll K G vs ds → Paired (fun (t : Addr) (q : Key × V) => G' t = some (.tup [kV q.1, q.2])) ts (numb i vs) → DtAll K G' (ts.map V.ref) (numP i ds)
  | _, _, _, _, .nil, .nil => .nil
  | _, _, _, i, .cons h t, .cons r p => .cons (.tup (SqT.of r) (.cons (.int (i : Int)) (.cons (Dt.up up h) .nil))) (num_dt up t p)
section
variable {X : Cx} {B : List Addr} {H0 : Hp} {e : Expr} {de : DE} {p p2 q pos : Pos}
theorem pd_lstEn (T : Bl X.mg) (hc : X.calm = true) (he : PD X B H0 e de) (hg : Gl X "list" := by rfl) (hg2 : Gl X "enumerate" := by rfl)
    (na : starEach [e] X.env = (false, eval e X.env) :: starEach [] X.env := by rfl) (nr : starEach [.Call (.Name "enumerate" p2) [e] [] q] X.env = (false, eval (.Call (.Name "enumerate" p2) [e] [] q) X.env) :: starEach [] X.env := by rfl) : PD X B H0 (.Call (.Name "list" p) [.Call (.Name "enumerate" p2) [e] [] q] [] pos) (dLstEn de) :=
  PEmono (pe_lstEn hc hg T.list hg2 T.enumerate he na nr) fun σ H Q ⟨G, S, post, hs, hd, hq⟩ => by
  refine ⟨G, S, _, hs, hd, fun v d G1 H1 s1 r1 p1 => ?_⟩
  split at p1
  · next ds =>
    cases r1 with
    | lst h1 h2 =>
      rename_i l vs
      refine ⟨l, vs, rfl, SqL.of (s1.wd.sub _ _ h1), fun H' pn ts k1 k2 k3 k4 k5 k6 => ?_⟩
      classical
      have old : ∀ b o, H1 b = some o → ¬ (b = pn ∨ b ∈ ts) := fun b o z y => by
        rcases y with y | y
        · subst y; rw [k2] at z; cases z
        · rw [k3 b y] at z; cases z
      let G' : Hp := fun b => if b = pn ∨ b ∈ ts then H' b else G1 b
      have gold : ∀ b o, H1 b = some o → G' b = G1 b := fun b o z => if_neg (old b o z)
      have gnew : ∀ b, b = pn ∨ b ∈ ts → G' b = H' b := fun b z => if_pos z
      have up : Same G1 G' := fun b o z => by rw [gold b o (s1.wd.sub _ _ z)]; exact z
      have st : Stp X.K B G1 H1 G' H' := by
        refine ⟨⟨up, fun a u z z' zb => ⟨k1 a u z, by rw [gold a u z]; exact z'⟩⟩, ⟨fun a u z => ?_, fun b hb => ?_⟩⟩
        · by_cases y : a = pn ∨ a ∈ ts
          · rw [gnew a y] at z; exact z
          · have : G' a = G1 a := if_neg y
            rw [this] at z; exact k1 a u (s1.wd.sub _ _ z)
        · obtain ⟨y1, y2⟩ := s1.wd.bags b hb
          obtain ⟨o, ho⟩ := y2.some
          exact ⟨by rw [gold b o ho]; exact y1, y2.up up (by rw [ho]; exact k1 b o ho)⟩
      refine hq _ _ G' H' (s1.trans st) (Rp.ofDt (.lst (by rw [gnew pn (.inl rfl)]; exact k5) (num_dt up h2 ?_))) p1
      exact paired_mem k6 fun t ht q z => by rw [gnew t (.inr ht)]; exact z
  · exact p1.elim
end
end DL
/- ==== DLy ==== -/
/-! DLy: tuple(range(a, b, c)); sorted(set(a list of ints)). -/
namespace DL
open PySem PySem.Spec PyProof.Rows PySem.Calls L2 RZ
/-- how many of a, a + c, .. lie ahead of b -/
def stepN (a b c : Int) : Nat := if a < b then ((b - a - 1) / c + 1).toNat else 0
def stepV (a b c : Int) : List V := (List.range (stepN a b c)).map fun i => V.int (a + (i : Nat) * c)
theorem stepN_size {a b c : Int} (hc : 0 < c) : Builtin.Range.rangeSize a b c = ((stepN a b c : Nat) : Int) := by
  unfold Builtin.Range.rangeSize stepN
  rw [if_pos hc]
  split
  · have := Int.ediv_nonneg (show 0 ≤ b - a - 1 by omega) (show 0 ≤ c by omega)
    omega
  · rfl
theorem stepN_le {a b c : Int} (hc : 0 < c) : stepN a b c ≤ (b - a).toNat := by
  unfold stepN
  split
  · have := Int.ediv_le_self (b := c) (show 0 ≤ b - a - 1 by omega)
    omega
  · exact Nat.zero_le _
theorem step_vals {a b c : Int} {acc : Array Value} (h : ItemsOf (fun i v => ∃ t, v = .int (a + i * c) t) acc (stepN a b c)) : Vals (stepV a b c) acc.toList := by
  have e : acc.toList.length = stepN a b c := by rw [Array.length_toList]; exact h.1
  unfold stepV
  rw [← e]
  exact vals_of_get acc.toList _ fun j u hj => h.2 j u (by rw [← hj, Array.getElem?_toList])
def tTupRg3 (ta tb tc : TE) : TE := fun σ H Q => ta σ H fun x H1 => tb σ H1 fun y H2 => tc σ H2 fun z H3 => ∃ i j k, x = .int i ∧ y = .int j ∧ z = .int k ∧ 0 < k ∧ k < 1000000 ∧ 0 ≤ i ∧ i < 1000000 ∧ 0 ≤ j ∧ j < 1000000 ∧ ∀ q, H3 q = none → Q (.ref q) (upd H3 q (.tup (stepV i j k)))
section
variable {X : Cx} {a b c : Expr} {ta tb tc : TE} {p pos rp rpos : Pos}
theorem pe_tupRg3 (hcalm : X.calm = true) (hg : Gl X "tuple") (hm : X.mg "tuple" = none) (hg2 : Gl X "range") (hm2 : X.mg "range" = none) (ha : PE X a ta) (hb : PE X b tb) (hc : PE X c tc)
    (na : starEach [a, b, c] X.env = (false, eval a X.env) :: starEach [b, c] X.env := by rfl) (nb : starEach [b, c] X.env = (false, eval b X.env) :: starEach [c] X.env := by rfl) (nc : starEach [c] X.env = (false, eval c X.env) :: starEach [] X.env := by rfl)
    (hp : (backTo rpos (starEach [b, c] X.env)).any (·.1) = false := by rfl) (nr : starEach [.Call (.Name "range" rp) [a, b, c] [] rpos] X.env = (false, eval (.Call (.Name "range" rp) [a, b, c] [] rpos) X.env) :: starEach [] X.env := by rfl) :
    PE X (.Call (.Name "tuple" p) [.Call (.Name "range" rp) [a, b, c] [] rpos] [] pos) (tTupRg3 ta tb tc) := by
  refine ⟨fun pins s σ H Q I h => ?_⟩
  refine Call_ (ld_blt I hg hm boot_tuple ?_)
  refine PyProof.Rows.callWith_type1 (PyProof.Rows.args_cons ?_ nr) nr rfl
  refine Call_ (ld_blt I hg2 hm2 boot_range ?_)
  refine PyProof.Rows.callWith_type1 (PyProof.Rows.args_cons (thn (ha.run pins s σ H _ I h) fun v s1 ⟨x, H1, I1, r1, q1⟩ => PyProof.Rows.args_cons (thn (hb.run pins s1 σ H1 _ I1 q1) fun v2 s2 ⟨y, H2, I2, r2, q2⟩ => PyProof.Rows.args_cons (thn (hc.run pins s2 σ H2 _ I2 q2) fun v3 s3 ⟨z, H3, I3, r3, q3⟩ => PyProof.Rows.args_nil ?_) nc) nb) na) na hp
  obtain ⟨i, j, k, rfl, rfl, rfl, k0, k1, i0, i1, j0, j1, q⟩ := q3
  obtain ⟨t1, rfl⟩ := r1
  obtain ⟨t2, rfl⟩ := r2
  obtain ⟨t3, rfl⟩ := r3
  refine call_range_3 (by omega) ?_ (.inl (PyProof.noPylong_small (by omega)))
  refine PyProof.Rows.args_nil ?_
  have I4 : L2.Inv X pins σ H3 { s3 with heap := s3.heap.push { cls := .type "range", data := .fields #[.int i t1, .int j t2, .int k t3] } } := I3.kept (t' := s3.toks) fun b u e => Heap.get?_push_of_some _ e
  have hle := stepN_le (a := i) (b := j) k0
  refine call_tuple_range (n := stepN i j k) (I4.ok.hd hcalm) (IsRange.new _ _ _ _ _ _ _) ?_ (stepN_size k0) (by omega) fun h' tk acc hk hi => ?_
  · have hn1 : ((stepN i j k : Nat) : Int) * k < 2000000 := by
      unfold stepN
      split
      · have n0 := Int.ediv_nonneg (show 0 ≤ j - i - 1 by omega) (show 0 ≤ k by omega)
        have e1 := Int.emod_add_mul_ediv (j - i - 1) k
        have e0 := Int.emod_nonneg (j - i - 1) (show k ≠ 0 by omega)
        rw [Int.toNat_of_nonneg (by omega), Int.add_mul, Int.one_mul, Int.mul_comm]
        omega
      · simp
    have hn0 : 0 ≤ ((stepN i j k : Nat) : Int) * k := Int.mul_nonneg (by omega) (by omega)
    unfold Builtin.Range.small
    rw [stepN_size k0, if_pos k0]
    simp only [Builtin.Range.rangeFitsLong, Bool.and_eq_true, Bool.or_eq_true, decide_eq_true_eq, beq_iff_eq]
    omega
  · have I5 : L2.Inv X pins σ H3 { s3 with heap := h', toks := tk } := I4.kept hk
    refine ⟨.ref h'.objs.size, upd H3 h'.objs.size (.tup (stepV i j k)), I5.laid (t' := tk) (fun c o e => Heap.get?_push_of_some _ e) (Nat.le_refl _) (show ObjOk X.prog X.w _ _ _ (.tup (stepV i j k)) from ⟨?_, acc.toList, step_vals hi, ?_⟩), rfl, q _ (I5.hok.fresh (Nat.le_refl _))⟩
    · unfold stepV
      rw [List.length_map, List.length_range, sizeLine_eq]; omega
    · rw [Array.toArray_toList]; exact IsTup.new _ _
end
def stepP (a b c : Int) : List PyData := (List.range (stepN a b c)).map fun i => PyData.int (a + (i : Nat) * c)
theorem stepP_dt {K : Kf} {G : Hp} (a b c : Int) : DtAll K G (stepV a b c) (stepP a b c) := by
  unfold stepV stepP
  generalize List.range (stepN a b c) = l
  induction l with
  | nil => exact .nil
  | cons x l ih => exact .cons (.int _) ih
def dTupRg3 (a b c : DE) : DE := fun S post => a S fun x => b S fun y => c S fun z => match x, y, z with
  | .py (.int i), .py (.int j), .py (.int k) => 0 < k ∧ k < 1000000 ∧ 0 ≤ i ∧ i < 1000000 ∧ 0 ≤ j ∧ j < 1000000 ∧ post (.py (.tuple (stepP i j k)))
  | _, _, _ => False
section
variable {X : Cx} {B : List Addr} {H0 : Hp} {a b c : Expr} {da db dc : DE} {p pos rp rpos : Pos}
theorem pd_tupRg3 (T : Bl X.mg) (hcalm : X.calm = true) (ha : PD X B H0 a da) (hb : PD X B H0 b db) (hc : PD X B H0 c dc) (hg : Gl X "tuple" := by rfl) (hg2 : Gl X "range" := by rfl)
    (na : starEach [a, b, c] X.env = (false, eval a X.env) :: starEach [b, c] X.env := by rfl) (nb : starEach [b, c] X.env = (false, eval b X.env) :: starEach [c] X.env := by rfl) (nc : starEach [c] X.env = (false, eval c X.env) :: starEach [] X.env := by rfl)
    (hp : (backTo rpos (starEach [b, c] X.env)).any (·.1) = false := by rfl) (nr : starEach [.Call (.Name "range" rp) [a, b, c] [] rpos] X.env = (false, eval (.Call (.Name "range" rp) [a, b, c] [] rpos) X.env) :: starEach [] X.env := by rfl) :
    PD X B H0 (.Call (.Name "tuple" p) [.Call (.Name "range" rp) [a, b, c] [] rpos] [] pos) (dTupRg3 da db dc) :=
  PEmono (pe_tupRg3 hcalm hg T.tuple hg2 T.range ha hb hc na nb nc hp nr) fun σ H Q ⟨G, S, post, hs, hd, hq⟩ => by
  refine ⟨G, S, _, hs, hd, fun x dx G1 H1 s1 r1 p1 => ⟨G1, S, _, hs.step s1, p1, fun y dy G2 H2 s2 r2 p2 => ⟨G2, S, _, (hs.step s1).step s2, p2, fun z dz G3 H3 s3 r3 p3 => ?_⟩⟩⟩
  split at p3
  · next i j k =>
    cases r1; cases r2; cases r3
    obtain ⟨q1, q2, q3, q4, q5, q6, q7⟩ := p3
    exact ⟨i, j, k, rfl, rfl, rfl, q1, q2, q3, q4, q5, q6, fun q hq2 => hq _ _ _ _ ((s1.trans (s2.trans s3)).trans (Stp.new s3.wd hq2 _)) (Rp.ofDt (Dt.newT (s3.wd.sub.free hq2) (stepP_dt i j k))) q7⟩
  · exact p3.elim
end
end DL
/- ==== DLz ==== -/
/-! DLz: sorted(set(a list of ints)). -/
namespace DL
open PySem PySem.Spec PyProof.Rows PySem.Calls L2 RZ
abbrev newSet (w : World) : Obj := { cls := .type "set", dict := none, data := .set #[] 0 (.fresh 0 0 (!w.params.followText "set-order")) }
/-- what a set of a list is, when it is made -/
def SetMade (w : World) (s : Shared) (ns : List Int) (s' : Shared) : Prop := ∃ (h' : Heap) (tk c : Nat), s' = { s with heap := h', toks := tk } ∧ SetR w h' s.heap.objs.size (fun j => decide (j ∈ ns)) c ∧ c ≤ ns.length ∧ ∀ b o, s.heap.get? b = some o → h'.get? b = some o
section
variable {P : Program} {w : World} {A : Around} {E : Value → Shared → Prop} {s : Shared}
theorem set_fill {A2 : Around} {l : Addr} {items : Array Value} {ns : List Int} {R : Result → Shared → Prop} (hh : A.handled = none) (hl : s.heap.IsList l items) (hit : IntsAre items.toList ns) (hb : ns.length + 1 < scanBound)
    (hR : ∀ s', SetMade w s ns s' → R (.ok (.ret .none)) s') :
    wpAny (model P w) A (Builtin.«set.__init__» ⟨[.ref s.heap.objs.size, .ref l], []⟩)
      (fun fin s' => match fin with | .done f => R (.ok f) s' | .again c' => c'.quiet = true ∧ codeAny (model P w) A2 c' R s') (fun e s' => R (.error e) s') { s with heap := s.heap.push (newSet w) } := by
  have sz : items.size = ns.length := by
    have q := IntsAre.length hit
    rwa [Array.length_toList] at q
  have hS : (s.heap.push (newSet w)).get? s.heap.objs.size = some (newSet w) := Heap.get?_push_size _ rfl
  obtain ⟨ol, ho, hc, nl, hd⟩ := hl
  obtain ⟨ocls, odict, odata, oslots⟩ := ol
  simp only at hc hd
  subst hc; subst hd
  have hol : (s.heap.push (newSet w)).get? l = some { cls := .type "list", dict := odict, data := .seq items nl, slots := oslots } := Heap.get?_push_of_some _ ho
  have hll : (s.heap.push (newSet w)).IsList l items := ⟨_, hol, rfl, nl, rfl⟩
  have f1 := F.sub_list_set
  have f2 := F.sub_list_frozenset
  have f3 : (Value.type "list" == Value.type "dict") = false := by decide
  unfold Builtin.«set.__init__» noKeywords Builtin.Frozenset.updateFrom
  generalize hPI : pyIter = PI
  wp_walk
  subst hPI
  refine wpAny_pyIter_list hll (wpAny_bind (wpAny_runValue ?_))
  have lS : l < s.heap.objs.size := Heap.lt_size ho
  have pz : (s.heap.push (newSet w)).objs.size = s.heap.objs.size + 1 := Heap.size_push ..
  have ne1 : l ≠ (s.heap.push (newSet w)).objs.size := by rw [pz]; exact Nat.ne_of_lt (Nat.lt_succ_of_lt lS)
  have off : s.heap.objs.size ∉ [(s.heap.push (newSet w)).objs.size, l] := by
    rw [pz]
    simp only [List.mem_cons, List.not_mem_nil, or_false, not_or]
    exact ⟨Nat.ne_of_lt (Nat.lt_succ_self _), Nat.ne_of_gt lS⟩
  have val : ∀ (i : Nat) (v : Value), items[i]? = some v → ∃ k t, ns[i]? = some k ∧ v = .int k t := fun i v hv => by
    have il : i < ns.length := by rw [← sz]; exact (Array.getElem?_eq_some_iff.mp hv).1
    obtain ⟨t, e⟩ := PyProof.Rows.IntsAre.int_at hit i v (by rw [Array.getElem?_toList]; exact hv)
    rw [List.getD_eq_getElem?_getD, List.getElem?_eq_getElem il] at e
    exact ⟨ns[i], t, List.getElem?_eq_getElem il, e⟩
  have hh1 : A.in1.handled = none := by simp [hh]
  refine set_update_ints ((Walks.list hh1 _ l ne1 items).toS) s.heap.objs.size off ns sz hb val (items.size - 0) 0 _ (by omega) (Nat.zero_le _) ⟨⟨_, Heap.get?_push_size _ rfl, rfl, rfl⟩, hll.push _⟩ ⟨0, Nat.le_refl 0, setR_new_at (Heap.get?_push_of_some _ hS)⟩ fun s' c' hm hc' hS' => ?_
  obtain ⟨h', g2, d', tk', os'⟩ := s'
  have eg : g2 = s.gens := hm.gens
  have ed : d' = s.drawn := hm.drawn
  have eo : os' = s.os := hm.os
  subst eg; subst ed; subst eo
  refine wpAny_pure (wpAny_pure (hR _ ⟨h', tk', c', rfl, hS', by rw [← sz]; exact hc', fun b o e => ?_⟩))
  have b0 : b < s.heap.objs.size := Heap.lt_size e
  refine hm.heap b o ?_ (Heap.get?_push_of_some _ (Heap.get?_push_of_some _ e))
  simp only [List.mem_cons, List.not_mem_nil, or_false, not_or]
  exact ⟨Nat.ne_of_lt b0, by rw [pz]; exact Nat.ne_of_lt (Nat.lt_succ_of_lt b0)⟩
theorem set_of_list {l : Addr} {items : Array Value} {ns : List Int} {Q : Value → Shared → Prop} (hh : A.handled = none) (hl : s.heap.IsList l items) (hit : IntsAre items.toList ns) (hb : ns.length + 1 < scanBound)
    (hQ : ∀ s', SetMade w s ns s' → Q (.ref s.heap.objs.size) s') : wpAny (model P w) A (call (.type "set") [.ref l]) Q E s := by
  obtain ⟨c, tl, mro⟩ := F.called_set.mro
  have made := F.called_set.made
  have sub := F.called_set.sub
  refine wpAny_call (codeAny_of_tree ?_)
  change wpAny _ _ (callAny (.type "set") _) _ _ _
  refine wpAny_pure ⟨Code.quiet_builtin _ (by decide +kernel), codeAny_builtin F.entry_type_call ?_⟩
  rw [Around.under_plain (weight_type_call_type "set" [.ref l] []) rfl]
  have g1 := F.called_set.notType
  have g2 := F.called_set.canCreate
  have g3 := F.typeCall_set_1 (.ref l)
  repeat (any_goals (first | assumption | wp_step))

  refine codeAny_mono (code_set_led1 (.ref l) (E := E) (Q₁ := fun obj s₁ => obj = .ref s.heap.objs.size ∧ s₁ = { s with heap := s.heap.push (newSet w) }) ⟨rfl, rfl⟩) fun r s₁ hr => ?_
  match r, hr with
  | .error e, hr => exact hr
  | .ok (.ret obj), hr =>
    obtain ⟨rfl, rfl⟩ := hr
    have hS : (s.heap.push (newSet w)).get? s.heap.objs.size = some (newSet w) := Heap.get?_push_size _ rfl
    have hT : Shared.TypeIs { s with heap := s.heap.push (newSet w) } (.ref s.heap.objs.size) "set" := ⟨_, hS, rfl⟩
    have g4 := F.called_set.init.lookup
    have g5 := F.called_set.init.bind (.ref s.heap.objs.size)
    repeat (any_goals (first | assumption | wp_step))

    refine codeAny_mono (codeAny_call_builtin (R := wants (fun r s₂ => r = .none ∧ SetMade w s ns s₂) E) F.called_set.init.plain F.entry_set_init (check_set_init_1 hT ?_)) fun r₂ s₂ hr₂ => ?_
    · refine set_fill (by simp [hh]) hl hit hb fun s' m => ?_
      exact ⟨rfl, m⟩
    match r₂, hr₂ with
    | .error e, hr₂ => exact hr₂
    | .ok (.ret r), hr₂ =>
      obtain ⟨rfl, m⟩ := hr₂
      repeat (any_goals (first | assumption | wp_step))
      exact hQ _ m
end
end DL
/- ==== DMa ==== -/
/-! DMa: a set sorted, any number of ints. -/
namespace DL
open PySem PySem.Spec PyProof.Rows PySem.Calls L2 RZ
section
variable {P : Program} {w : World} {A : Around} {E : Value → Shared → Prop} {s : Shared} {a : Addr}
theorem sort_set {S : Int → Bool} {n : Nat} {Q : Value → Shared → Prop} (R : SetR w s.heap a S n) (hh : A.handled = none)
    (hQ : ∀ s' p (out : Array Value) (c : Nat) (ns : List Int), (∀ b o, s.heap.get? b = some o → s'.heap.get? b = some o) → s'.gens = s.gens → s'.os = s.os → s.heap.objs.size ≤ p →
      s'.heap.get? p = some (seqObj "list" out c) → Vals (ns.map V.int) out.toList → ns.Pairwise (· < ·) → (∀ k, k ∈ ns ↔ S k = true) → ns.length = n → Q (.ref p) s') : wpAny (model P w) A (call (.builtin "sorted") [.ref a]) Q E s := by
  obtain ⟨o, es, ep, t, ho, hex, hd, good, nd, mem, hb, fits, hn, ris, led⟩ := R
  refine Calls.call_function_entry kind_sorted plain_sorted entry_sorted (args_sorted1 _) ?_
  unfold Builtin.«sorted»
  refine wpAny_bind (m := checkCount "sorted" 1 1 _) (wpAny_pure ?_)
  refine wpAny_bind (collect_set (A := A.in1) hh ⟨o, ho, hex.1, hd⟩ fits hb ris led fun s1 vs k1 hz g1 o1 pm => ?_)
  have vl : vs.length = n := by rw [pm.length_eq, List.length_map, Array.length_toList]; exact hn
  have hI : IntsAre vs (vs.map Builtin.Re.reRawOf) := ints_of vs fun v hv => by
    obtain ⟨e, he, q⟩ := List.mem_map.mp (pm.mem_iff.mp hv)
    obtain ⟨k, tk, z, _⟩ := good e he
    exact ⟨k, tk, by rw [← q]; exact z⟩
  have pk : (vs.map Builtin.Re.reRawOf).Perm (es.toList.map keyOf) := by
    have q := pm.map Builtin.Re.reRawOf
    rw [List.map_map] at q
    exact q
  have small : n ≤ sizeLine := by rw [← hn]; exact fits_of_scanBound hb
  refine wpAny_bind (wpAny_newList ?_ (by rw [vl]; exact small))
  have hoL : (s1.heap.push (seqObj "list" vs.toArray 0)).get? s1.heap.objs.size = some (seqObj "list" vs.toArray 0) := Heap.get?_push_size _ rfl
  refine wpAny_bind (wpAny_holding (wpAny_call_entry PyProof.Rows.slot_list_sort ⟨_, hoL, rfl⟩ PyProof.Rows.entry_list_sort
    (SrtO.list_sort_ord (s := { s1 with heap := s1.heap.push (seqObj "list" vs.toArray 0) }) SrtO.swo_int hoL (by rw [vl]; exact small) (fun h2 => SrtO.ints_sortable hI h2) fun out q1 q2 => ⟨_, rfl, ?_⟩) (PyProof.Rows.args_list_sort _)))
  obtain ⟨k2, k3, k4⟩ := SrtO.ints_out hI q1 q2
  obtain ⟨c, hc⟩ := PyProof.Rows.sortedHeap_at (vs := vs) (out := out.toArray) hoL
  have pn : (out.map SrtO.iv).Perm (es.toList.map keyOf) := k3.trans pk
  refine wpAny_pure ⟨_, rfl, hQ _ s1.heap.objs.size out.toArray c (out.map SrtO.iv) (fun b u e => ?_) g1 o1 hz hc (vals_of_ints k2) (lt_of_le_nodup _ k4 (pn.nodup_iff.mpr nd)) (fun k => by rw [pn.mem_iff, ← mem k]) ?_⟩
  · have q := k1 b u e
    have hlt := Heap.lt_size q
    rw [PyProof.Rows.sortedHeap_old (Nat.ne_of_lt hlt) (by rw [size_push']; exact Nat.lt_succ_of_lt hlt)]
    exact Heap.get?_push_of_some _ q
  · rw [pn.length_eq, List.length_map, Array.length_toList]; exact hn
end
def tSortSet (K : Kf) (te : TE) : TE := fun σ H Q => te σ H fun x H1 => ∃ (l : Addr) (ns : List Int), x = .ref l ∧ SqL K H1 l (ns.map V.int) ∧ ns.length ≤ 4000 ∧ ∀ (ys : List Int) (p : Addr), ys.Pairwise (· < ·) → (∀ k, k ∈ ys ↔ k ∈ ns) → ys.length ≤ ns.length → H1 p = none → Q (.ref p) (upd H1 p (.lst (ys.map V.int)))
section
variable {X : Cx} {a : Expr} {ta : TE} {p p2 q pos : Pos}
theorem pe_sortSet (hc : X.calm = true) (hg : Gl X "sorted") (hm : X.mg "sorted" = none) (hg2 : Gl X "set") (hm2 : X.mg "set" = none) (ha : PE X a ta)
    (na : starEach [a] X.env = (false, eval a X.env) :: starEach [] X.env := by rfl) (nr : starEach [.Call (.Name "set" p2) [a] [] q] X.env = (false, eval (.Call (.Name "set" p2) [a] [] q) X.env) :: starEach [] X.env := by rfl) : PE X (.Call (.Name "sorted" p) [.Call (.Name "set" p2) [a] [] q] [] pos) (tSortSet X.K ta) := by
  refine ⟨fun pins s σ H Q I h => ?_⟩
  refine Call_ (ld_blt I hg hm boot_sorted ?_)
  refine PyProof.Rows.callWith_builtin1 (PyProof.Rows.args_cons ?_ nr) nr rfl
  refine Call_ (ld_blt I hg2 hm2 boot_set ?_)
  refine PyProof.Rows.callWith_type1 (PyProof.Rows.args_cons (thn (ha.run pins s σ H _ I h) fun v s1 ⟨x, H1, I1, r1, q1⟩ => PyProof.Rows.args_nil ?_) na) na rfl
  obtain ⟨l, ns, rfl, hq, hl, q1⟩ := q1
  cases r1
  obtain ⟨its, r, pl, hz⟩ := I1.list hq
  refine set_of_list (ns := ns) (I1.ok.hd hc) pl.isList (by simpa using intsAre_vals r) (by unfold scanBound; omega) fun s' ⟨h', tk, c, e, R, hcn, keep⟩ => ?_
  subst e
  refine PyProof.Rows.args_nil ?_
  have I2 : L2.Inv X pins σ H1 { s1 with heap := h', toks := tk } := I1.kept keep
  refine sort_set (s := { s1 with heap := h', toks := tk }) R (I1.ok.hd hc) fun s2 pn out c2 ys k g o hp hget hv hs hmem hlen => ?_
  have hn : H1 pn = none := I2.hok.fresh hp
  have J : L2.Inv X pins σ (upd H1 pn (.lst (ys.map V.int))) { ({ s1 with heap := h', toks := tk } : Shared) with heap := s2.heap, gens := s2.gens, drawn := s2.drawn, toks := s2.toks } :=
    I2.call (ch := []) (Un.laid k hp hn) (I2.hok.laid k hp ⟨by rw [List.length_map, hlen, sizeLine_eq]; omega, out.toList, c2, hv, hget⟩) (by rw [g]; exact I2.bare) (fun _ z => nomatch z)
  have e : s2 = { ({ s1 with heap := h', toks := tk } : Shared) with heap := s2.heap, gens := s2.gens, drawn := s2.drawn, toks := s2.toks } := by
    cases s2; cases o; rfl
  rw [e]
  exact ⟨.ref pn, _, J, rfl, q1 ys pn hs (fun k => by rw [hmem k]; exact decide_eq_true_iff) (by omega) hn⟩
end
def dSortSet (de : DE) : DE := fun S post => de S fun x => ∃ ns : List Int, x.lsti = some (ns.map PyData.int) ∧ ns.length ≤ 4000 ∧ ∀ ys : List Int, ys.Pairwise (· < ·) → (∀ k, k ∈ ys ↔ k ∈ ns) → ys.length ≤ ns.length → post (.py (.list (ys.map PyData.int)))
theorem ints_dt {K : Kf} {G : Hp} : ∀ ys : List Int, DtAll K G (ys.map V.int) (ys.map PyData.int)
  | [] => .nil
  | y :: ys => .cons (.int y) (ints_dt ys)
section
variable {X : Cx} {B : List Addr} {H0 : Hp} {e : Expr} {de : DE} {p p2 q pos : Pos}
theorem pd_sortSet (T : Bl X.mg) (hc : X.calm = true) (he : PD X B H0 e de) (hg : Gl X "sorted" := by rfl) (hg2 : Gl X "set" := by rfl)
    (na : starEach [e] X.env = (false, eval e X.env) :: starEach [] X.env := by rfl) (nr : starEach [.Call (.Name "set" p2) [e] [] q] X.env = (false, eval (.Call (.Name "set" p2) [e] [] q) X.env) :: starEach [] X.env := by rfl) : PD X B H0 (.Call (.Name "sorted" p) [.Call (.Name "set" p2) [e] [] q] [] pos) (dSortSet de) :=
  PEmono (pe_sortSet hc hg T.sorted hg2 T.set he na nr) fun σ H Q ⟨G, S, post, hs, hd, hq⟩ => by
  refine ⟨G, S, _, hs, hd, fun v d G1 H1 s1 r1 p1 => ?_⟩
  obtain ⟨ns, e1, hl, p1⟩ := p1
  obtain ⟨l, vs, rfl, h1, h2⟩ := rp_lst s1.wd r1 e1
  have := h2.ints
  subst this
  exact ⟨l, ns, rfl, SqL.of h1, hl, fun ys pn k1 k2 k3 k4 => hq _ _ _ _ (s1.trans (Stp.new s1.wd k4 _)) (Rp.ofDt (Dt.newL (s1.wd.sub.free k4) (ints_dt ys))) (p1 ys k1 k2 k3)⟩
end
end DL
/- ==== DMb ==== -/
/-! DMb: x = a + b, a list of one's own -/
namespace DL
open PySem PySem.Spec PyProof.Rows PySem.Calls L2 RZ
def dSetAddO (i : Nat) (da db : DE) : DS := fun E S => da S fun x => db S fun y => match x, y with
  | .py (.list a), .py (.list b) => a.length + b.length ≤ 16000000 ∧ E.nx (S.set i (some (.ol (a ++ b))))
  | _, _ => False
section
variable {X : Cx} {B : List Addr} {H0 : Hp} {a b : Expr} {da db : DE} {pos pos' p2 : Pos} {x : Str}
theorem psd_setAddO {i : Nat} (hN : X.N.Nodup) (hi : X.N[i]? = some x) (hx : Loc X.env.scope x) (ha : PD X B H0 a da) (hb : PD X B H0 b db) (hs : swapsWith (.BinOp a .Add b p2) (some (.Name x pos')) pos.line X.env = pure false := by rfl) (hf : X.fn x = true ∨ X.env.scope.names.lookup x = some .local := by first | exact .inl rfl | exact .inr rfl | assumption) :
    PDS X B H0 (.Assign [.Name x pos'] (.BinOp a .Add b p2) pos) (dSetAddO i da db) := PSmono (ps_set hN hi hx (pe_op op_addA ha hb) hs hf) fun D σ H ⟨G0, E, ⟨G, S, hs, ho, hd⟩, q1, q2, q3, q4⟩ => by
  refine ⟨G, S, _, hs, hd, fun v d G1 H1 s1 r1 p1 => ⟨G1, S, _, hs.step s1, p1, fun v2 d2 G2 H2 s2 r2 p2 => ?_⟩⟩
  replace r1 := Rp.up s2.toOld r1
  split at p2
  · next l1 l2 =>
    cases r1 with
    | lst h1 h2 =>
      cases r2 with
      | lst h3 h4 =>
        refine .inr (.inl ⟨_, _, _, _, rfl, rfl, s2.wd.sub _ _ h1, s2.wd.sub _ _ h3, szM (by rw [h2.length, h4.length]; exact p2.1), fun p hp => ?_⟩)
        have w := (hs.step (s1.trans s2))
        obtain ⟨k1, k2⟩ := w.newOwn (ho.trans (s1.trans s2).toOld) i hp (u := .lst _) (d := .ol (l1 ++ l2)) ⟨p, _, rfl, ⟨w.wd.sub.free hp, bag_ne w.wd hp⟩, upd_same, h2.append h4⟩
        exact q1 _ _ ⟨G2, _, k1, k2, p2.2⟩
  · exact p2.elim
end
end DL
/- ==== DMc ==== -/
/-! DMc: a list of one's own stands still from a statement on -/
namespace DL
open PySem PySem.Spec PyProof.Rows PySem.Calls L2 RZ
def dFrz (i : Nat) (d : DS) : DS := fun E S => match S[i]? with
  | some (some (.ol ds)) => d E (S.set i (some (.py (.list ds))))
  | _ => False
section
variable {X : Cx} {B : List Addr} {H0 : Hp} {st : Stmt} {d : DS}
theorem Sl.frz {K : Kf} {S : Slots} {σ : L2.St} {G H G0 : Hp} {i : Nat} {ds : List PyData} (hs : Sl K B H0 S σ G H) (ho : Old B G0 H0 G H) (e : S[i]? = some (some (.ol ds))) : ∃ G', Sl K B H0 (S.set i (some (.py (.list ds)))) σ G' H ∧ Old B G0 H0 G' H := by
  obtain ⟨v, h1, ⟨p, vs, rfl, w1, w2, w3⟩, h3⟩ := hs.slot i _ e
  obtain ⟨r1, r2⟩ := release hs.wd ho w1.1 w1.2 w2 (h3 trivial p rfl)
  have up : Same G (upd G p (.lst vs)) := Same.updN w1.1
  refine ⟨upd G p (.lst vs), ⟨r1, by rw [List.length_set]; exact hs.len, fun j dj hj => ?_, fun j k dj dk q hjk hj hk oj ok e1 e2 => ?_⟩, r2⟩
  · rcases set_get hj with ⟨rfl, e1, _⟩ | ⟨ne, h2⟩
    · cases e1
      exact ⟨.ref p, h1, Rp.ofDt (.lst upd_same (DtAll.up up w3)), fun z => z.elim⟩
    · obtain ⟨u, k1, k2, k3⟩ := hs.slot j dj h2
      refine ⟨u, k1, ?_, k3⟩
      have apart : dj.own → ∀ p', u = .ref p' → p' ≠ p := fun o p' z y => by
        subst z; subst y
        exact hs.sep i j _ dj p' ne e h2 trivial o h1 k1
      cases dj with
      | py q => exact Dt.up up k2
      | raw q => exact k2
      | ol l =>
        obtain ⟨p', vs', rfl, y1, y2, y3⟩ := k2
        exact ⟨p', vs', rfl, ⟨by rw [upd_ne (apart trivial p' rfl)]; exact y1.1, y1.2⟩, y2, DtAll.up up y3⟩
      | od l =>
        obtain ⟨p', vs', rfl, y1, y2, y3⟩ := k2
        exact ⟨p', vs', rfl, ⟨by rw [upd_ne (apart trivial p' rfl)]; exact y1.1, y1.2⟩, y2, KvR.up up y3⟩
      | dic l =>
        obtain ⟨p', vs', y1, y2, y3⟩ := k2
        exact ⟨p', vs', y1, up _ _ y2, KvR.up up y3⟩
      | ins a c l =>
        obtain ⟨dx, vs', y1, y2, y3⟩ := k2
        exact ⟨dx, vs', y1, up _ _ y2, KvR.up up y3⟩
      | fn L =>
        obtain ⟨f, c, pm, ct, y1, y2, y3⟩ := k2
        exact ⟨f, c, pm, ct, y1, up _ _ y2, up _ _ y3⟩
  · rcases set_get hj with ⟨rfl, z, _⟩ | ⟨nj, hj⟩
    · cases z; exact oj.elim
    · rcases set_get hk with ⟨rfl, z, _⟩ | ⟨nk, hk⟩
      · cases z; exact ok.elim
      · exact hs.sep j k dj dk q hjk hj hk oj ok e1 e2
theorem psd_frz (i : Nat) (h : PDS X B H0 st d) : PDS X B H0 st (dFrz i d) := PSmono h fun D σ H ⟨G0, E, ⟨G, S, hs, ho, hd⟩, q1, q2, q3, q4⟩ => by
  unfold dFrz at hd
  split at hd
  · next ds e =>
    obtain ⟨G', k1, k2⟩ := hs.frz ho e
    exact ⟨G0, E, ⟨G', _, k1, k2, hd⟩, q1, q2, q3, q4⟩
  · exact hd.elim
end
end DL
/- ==== DMd ==== -/
/-! DMd: repr of a bool; the draws of a bag themselves. -/
namespace DL
open PySem PySem.Spec PyProof.Rows PySem.Calls L2 RZ
def boolWord (b : Bool) : Str := if b then "True" else "False"
theorem cr_reprB {X : Cx} : CallR X (.builtin "repr") (fun xs H Q => ∃ b, xs = [.bl b] ∧ Q (.str (boolWord b)) H) := by
  intro pins s σ H xs us Q I r h
  obtain ⟨b, rfl, q⟩ := h
  obtain ⟨u, rfl, rfl⟩ := vals1 r
  exact PySem.P.repr_of_bool ⟨.str (boolWord b), H, I.tok _, ⟨s.toks, by cases b <;> rfl⟩, q⟩
def cRepr : List D → (D → Prop) → Prop := fun xs post => match xs with
  | [.py (.bool b)] => post (.py (.str (boolWord b)))
  | _ => False
theorem cd_repr {K : Kf} {B : List Addr} : CallD K B (fun xs H Q => ∃ b, xs = [.bl b] ∧ Q (.str (boolWord b)) H) cRepr := fun G H xs dxs post Q w r hf hq => by
  unfold cRepr at hf
  split at hf
  · cases r with
    | cons rx rn => cases rn; cases rx; exact ⟨_, rfl, stay w hq (.str _) hf⟩
  · exact hf.elim
def fBag (B : List Addr) : D → D → (D → Prop) → Prop := fun x y post => match x, y with
  | .raw (.ref b), .py (.int i) => bagIn B b ∧ ((i = 0 ∧ ∀ ns : List Int, ns.length = 400 → (∀ n ∈ ns, 0 ≤ n ∧ n < 1000) → post (.py (.list (ns.map PyData.int)))) ∨ (i = 1 ∧ ∀ c : Int, 0 ≤ c → post (.py (.int c))))
  | _, _ => False
theorem ints_dt2 {K : Kf} {G : Hp} : ∀ ys : List Int, DtAll K G (ys.map V.int) (ys.map PyData.int)
  | [] => .nil
  | y :: ys => .cons (.int y) (ints_dt2 ys)
theorem od_bag {K : Kf} {B : List Addr} : OpD K B (rIx K) (fBag B) := fun G H x y dx dy post Q w rx ry hf hq => by
  unfold fBag at hf
  split at hf
  · next b i =>
    cases ry
    have rx : x = .ref b := rx
    subst rx
    obtain ⟨hb, hf⟩ := hf
    obtain ⟨dl, c, ns, h1, h2, h3, h4, h5⟩ := (w.draw hb).2
    rcases hf with ⟨rfl, hf⟩ | ⟨rfl, hf⟩
    · exact .inl ⟨_, _, _, .ref dl, rfl, rfl, SqL.of h1, rfl, stay w hq (.lst h3 (ints_dt2 ns)) (hf ns h4 h5)⟩
    · exact .inl ⟨_, _, _, .int c, rfl, rfl, SqL.of h1, rfl, stay w hq (.int c) (hf c h2)⟩
  · exact hf.elim
section
variable {X : Cx} {B : List Addr} {H0 : Hp} {e a b : Expr} {de da db : DE} {p pos : Pos}
theorem pd_repr (T : Bl X.mg) (ha : PD X B H0 e de) (hg : Gl X "repr" := by rfl) (s2 : starEach [e] X.env = (false, eval e X.env) :: starEach [] X.env := by rfl) (hpl : (backTo pos (starEach [] X.env)).any (·.1) = false := by rfl) : PD X B H0 (.Call (.Name "repr" p) [e] [] pos) (dCB cRepr (dCons de dNil)) :=
  pd_callB cr_reprB cd_repr hg T.repr bo_repr (pda_cons ha pda_nil s2) (by decide) (by decide) s2 hpl
theorem pd_bag (ha : PD X B H0 a da) (hb : PD X B H0 b db) (hs : PlainIx b := by exact fun _ _ => rfl) : PD X B H0 (.Subscript a b pos) (dOp (fBag B) da db) := PEmono (pe_ix ix_seq ha hb hs) fun _ _ _ h => lift2 od_bag h
end
end DL
/- ==== DMe ==== -/
/-! DMe: for k in d; pairs with a dict; a list's place stored; isinstance of two. -/
namespace DL
open PySem PySem.Spec PyProof.Rows PySem.Calls L2 RZ
/-! ### a dict read over -/
def keyP : Key → PyData
  | .inl n => .int n
  | .inr z => .str z
theorem keyP_dt {K : Kf} {G : Hp} : ∀ k : Key, Dt K G (kV k) (keyP k)
  | .inl n => .int n
  | .inr z => .str z
def Shows (G G' : Hp) : Prop := ∀ a o, G a = some o → ((∃ xs, o = .lst xs ∨ o = .tup xs ∨ ∃ q, o = .frz q (.tup xs)) ∨ ∃ φ, o = .ext φ) → G' a = some o
theorem SqT.cut {K : Kf} {G G' : Hp} {a : Addr} {xs : List V} (e : Shows G G') (h : SqT K G a xs) : SqT K G' a xs := by
  rcases h with (h | ⟨o, h⟩) | h
  · exact .inl (.inl (e _ _ h (.inl ⟨_, .inr (.inl rfl)⟩)))
  · exact .inl (.inr ⟨o, e _ _ h (.inl ⟨_, .inr (.inr ⟨_, rfl⟩)⟩)⟩)
  · exact .inr h
mutual
theorem Dt.cut {K : Kf} {G G' : Hp} (e : Shows G G') : ∀ {v : V} {d : PyData}, Dt K G v d → Dt K G' v d
  | _, _, .non => .non
  | _, _, .bl b => .bl b
  | _, _, .int i => .int i
  | _, _, .str x => .str x
  | _, _, .lst h ha => .lst (e _ _ h (.inl ⟨_, .inl rfl⟩)) (DtAll.cut e ha)
  | _, _, .tup h ha => .tup (SqT.cut e h) (DtAll.cut e ha)
theorem DtAll.cut {K : Kf} {G G' : Hp} (e : Shows G G') : ∀ {vs : List V} {ds : List PyData}, DtAll K G vs ds → DtAll K G' vs ds
  | _, _, .nil => .nil
  | _, _, .cons h t => .cons (Dt.cut e h) (DtAll.cut e t)
end
theorem KvR.cut {κ : Type} {K : Kf} {G G' : Hp} (e : Shows G G') {vs : List (κ × V)} {kvs : List (κ × PyData)} (h : KvR K G vs kvs) : KvR K G' vs kvs :=
  Paired.mapP h fun _ _ z => ⟨z.1, Dt.cut e z.2⟩
theorem KvR.at {K : Kf} {G : Hp} : ∀ {vs : List (Key × V)} {kvs : List (Key × PyData)} {k : Nat}, KvR K G vs kvs → (vs[k]?).map (·.1) = (kvs[k]?).map (·.1)
  | _, _, _, .nil => by simp
  | _, _, 0, .cons r _ => by simp [r.1]
  | _, _, k + 1, .cons _ t => by simpa using KvR.at (k := k) t
section
variable {K : Kf} {B : List Addr} {H0 G0 G H : Hp} {S : Slots} {σ : L2.St}
theorem Sl.lock {i : Nat} {kvs : List (Key × PyData)} (hs : Sl K B H0 S σ G H) (ho : Old B G0 H0 G H) (e : S[i]? = some (some (.dic kvs))) (hno : ∀ (j : Nat) (kv : List (Key × PyData)), j ≠ i → S[j]? = some (some (.dic kv)) → False) :
    ∃ p vs, σ[i]? = some (some (.ref p)) ∧ H p = some (.dK vs) ∧ G p = some (.dK vs) ∧ KvR K G vs kvs ∧ ∀ od, Sl K B H0 (S.set i (some (.raw (.ref p)))) σ (upd G p (.frz od (.dK vs))) (upd H p (.frz od (.dK vs))) ∧ Old B (upd G p (.frz od (.dK vs))) H0 (upd G p (.frz od (.dK vs))) (upd H p (.frz od (.dK vs))) ∧ Shows G (upd G p (.frz od (.dK vs))) := by
  obtain ⟨v, h1, ⟨p, vs, rfl, w1, w2⟩, h3⟩ := hs.slot i _ e
  refine ⟨p, vs, h1, hs.wd.sub _ _ w1, w1, w2, fun od => ?_⟩
  have sh : Shows G (upd G p (.frz od (.dK vs))) := fun a o ha hx => by
    have ne : a ≠ p := fun z => by
      subst z; rw [w1] at ha; cases ha
      rcases hx with ⟨xs, hx | hx | ⟨q, hx⟩⟩ | ⟨φ, hx⟩ <;> cases hx
    rw [upd_ne ne]; exact ha
  have pB : p ∉ B := fun hb => by rw [(hs.wd.bags p hb).1] at w1; cases w1
  have wd : Wd K B (upd G p (.frz od (.dK vs))) (upd H p (.frz od (.dK vs))) := by
    refine ⟨Same.updB hs.wd.sub, fun b hb => ?_⟩
    have ne : b ≠ p := fun z => pB (z ▸ hb)
    obtain ⟨y1, y2⟩ := hs.wd.bags b hb
    refine ⟨by rw [upd_ne ne]; exact y1, ?_⟩
    rcases y2 with ⟨y0, dl, c, ns, z1, z2, z3, z4, z5⟩ | ⟨y0, ps, z1, z2, z3⟩
    · exact .inl ⟨y0, dl, c, ns, by rw [upd_ne ne]; exact z1, z2, sh _ _ z3 (.inl ⟨_, .inl rfl⟩), z4, z5⟩
    · exact .inr ⟨y0, ps, by rw [upd_ne ne]; exact z1, z2, fun pos cv hc => let ⟨c, e1, e2⟩ := z3 pos cv hc; ⟨c, e1, sh _ _ e2 (.inr ⟨_, rfl⟩)⟩⟩
  refine ⟨⟨wd, by rw [List.length_set]; exact hs.len, fun j dj hj => ?_, fun j k dj dk q hjk hj hk oj ok e1 e2 => ?_⟩, ⟨fun _ _ h => h, fun a o ha hg hb => ?_⟩, sh⟩
  · rcases set_get hj with ⟨rfl, e1, _⟩ | ⟨ne, h2⟩
    · cases e1
      exact ⟨.ref p, h1, rfl, fun z => z.elim⟩
    · obtain ⟨u, k1, k2, k3⟩ := hs.slot j dj h2
      refine ⟨u, k1, ?_, k3⟩
      cases dj with
      | py q => exact Dt.cut sh k2
      | raw q => exact k2
      | ol l =>
        obtain ⟨p', vs', rfl, y1, y2, y3⟩ := k2
        have ne : p' ≠ p := fun z => by subst z; rw [y1.1] at w1; cases w1
        exact ⟨p', vs', rfl, ⟨by rw [upd_ne ne]; exact y1.1, y1.2⟩, by rw [upd_ne ne]; exact y2, DtAll.cut sh y3⟩
      | od l =>
        obtain ⟨p', vs', rfl, y1, y2, y3⟩ := k2
        have ne : p' ≠ p := fun z => by subst z; rw [y1.1] at w1; cases w1
        exact ⟨p', vs', rfl, ⟨by rw [upd_ne ne]; exact y1.1, y1.2⟩, by rw [upd_ne ne]; exact y2, KvR.cut sh y3⟩
      | dic l => exact (hno j l (Ne.symm ne) h2).elim
      | ins a c l =>
        obtain ⟨dx, vs', y1, y2, y3⟩ := k2
        have ne : a ≠ p := fun z => by subst z; rw [w1] at y2; cases y2
        exact ⟨dx, vs', y1, by rw [upd_ne ne]; exact y2, KvR.cut sh y3⟩
      | fn L =>
        obtain ⟨f, c, pm, ct, y1, y2, y3⟩ := k2
        exact ⟨f, c, pm, ct, y1, sh _ _ y2 (.inr ⟨_, rfl⟩), sh _ _ y3 (.inr ⟨_, rfl⟩)⟩
  · rcases set_get hj with ⟨rfl, z, _⟩ | ⟨nj, hj⟩
    · cases z; exact oj.elim
    · rcases set_get hk with ⟨rfl, z, _⟩ | ⟨nk, hk⟩
      · cases z; exact ok.elim
      · exact hs.sep j k dj dk q hjk hj hk oj ok e1 e2
  · have ne : a ≠ p := fun z => by subst z; rw [upd_same] at hg; cases hg
    rw [upd_ne ne] at hg
    have := (ho.self).keep a o ha hg hb
    rw [upd_ne ne, upd_ne ne]; exact this
/-- unlocked again -/
theorem unlock_wd {p : Addr} {vs : List (Key × V)} {od : Obj} {G2 H2 : Hp} (ho0 : Old B G0 H0 G H) (hg : G p = some (.dK vs)) (wd : Wd K B G2 H2) (ho : Old B (upd G p (.frz od (.dK vs))) H0 G2 H2) :
    G2 p = some (.frz od (.dK vs)) ∧ H2 p = some (.frz od (.dK vs)) ∧ Shows G2 (upd G2 p (.dK vs)) ∧ Wd K B (upd G2 p (.dK vs)) (upd H2 p (.dK vs)) ∧ Old B G0 H0 (upd G2 p (.dK vs)) (upd H2 p (.dK vs)) := by
  have g2 : G2 p = some (.frz od (.dK vs)) := ho.up _ _ upd_same
  have sh : Shows G2 (upd G2 p (.dK vs)) := fun a o ha hx => by
    have ne : a ≠ p := fun z => by
      subst z; rw [g2] at ha; cases ha
      rcases hx with ⟨xs, hx | hx | ⟨q, hx⟩⟩ | ⟨φ, hx⟩ <;> cases hx
    rw [upd_ne ne]; exact ha
  have pB : p ∉ B := fun hb => by rw [(wd.bags p hb).1] at g2; cases g2
  refine ⟨g2, wd.sub _ _ g2, sh, ⟨Same.updB wd.sub, fun b hb => ?_⟩, ⟨fun a o ha => ?_, fun a o ha hg' hb => ?_⟩⟩
  · have ne : b ≠ p := fun z => pB (z ▸ hb)
    obtain ⟨y1, y2⟩ := wd.bags b hb
    refine ⟨by rw [upd_ne ne]; exact y1, ?_⟩
    rcases y2 with ⟨y0, dl, c, ns, z1, z2, z3, z4, z5⟩ | ⟨y0, ps, z1, z2, z3⟩
    · exact .inl ⟨y0, dl, c, ns, by rw [upd_ne ne]; exact z1, z2, sh _ _ z3 (.inl ⟨_, .inl rfl⟩), z4, z5⟩
    · exact .inr ⟨y0, ps, by rw [upd_ne ne]; exact z1, z2, fun pos cv hc => let ⟨c, e1, e2⟩ := z3 pos cv hc; ⟨c, e1, sh _ _ e2 (.inr ⟨_, rfl⟩)⟩⟩
  · have q := ho0.up _ _ ha
    by_cases e : a = p
    · subst e; rw [hg] at q; cases q; rw [upd_same]
    · rw [upd_ne e]; exact ho.up _ _ (by rw [upd_ne e]; exact q)
  · have q := ho0.keep a o ha hg' hb
    have e : a ≠ p := fun z => by subst z; rw [hg] at q; cases q.2
    rw [upd_ne e, upd_ne e]
    exact ho.keep a o ha (by rw [upd_ne e]; exact q.2) hb
theorem Sl.unlock {i : Nat} {p : Addr} {vs : List (Key × V)} {kvs : List (Key × PyData)} {od : Obj} {G2 H2 : Hp} (hs : Sl K B H0 S σ G2 H2) (ho0 : Old B G0 H0 G H) (hg : G p = some (.dK vs)) (ho : Old B (upd G p (.frz od (.dK vs))) H0 G2 H2) (hS : S[i]? = some (some (.raw (.ref p)))) (kv : KvR K (upd G p (.frz od (.dK vs))) vs kvs) :
    Sl K B H0 (S.set i (some (.dic kvs))) σ (upd G2 p (.dK vs)) (upd H2 p (.dK vs)) := by
  obtain ⟨g2, h2, sh, wd, _⟩ := unlock_wd ho0 hg hs.wd ho
  refine ⟨wd, by rw [List.length_set]; exact hs.len, fun j dj hj => ?_, fun j k dj dk q hjk hj hk oj ok e1 e2 => ?_⟩
  · rcases set_get hj with ⟨rfl, e1, _⟩ | ⟨ne, h2'⟩
    · cases e1
      obtain ⟨u, k1, k2, _⟩ := hs.slot i _ hS
      have k2 : u = .ref p := k2
      subst k2
      exact ⟨.ref p, k1, ⟨p, vs, rfl, upd_same, KvR.cut sh (KvR.up ho.up kv)⟩, fun z => z.elim⟩
    · obtain ⟨u, k1, k2, k3⟩ := hs.slot j dj h2'
      refine ⟨u, k1, ?_, k3⟩
      cases dj with
      | py q => exact Dt.cut sh k2
      | raw q => exact k2
      | ol l =>
        obtain ⟨p', vs', rfl, y1, y2, y3⟩ := k2
        have ne : p' ≠ p := fun z => by subst z; rw [y1.1] at g2; cases g2
        exact ⟨p', vs', rfl, ⟨by rw [upd_ne ne]; exact y1.1, y1.2⟩, by rw [upd_ne ne]; exact y2, DtAll.cut sh y3⟩
      | od l =>
        obtain ⟨p', vs', rfl, y1, y2, y3⟩ := k2
        have ne : p' ≠ p := fun z => by subst z; rw [y1.1] at g2; cases g2
        exact ⟨p', vs', rfl, ⟨by rw [upd_ne ne]; exact y1.1, y1.2⟩, by rw [upd_ne ne]; exact y2, KvR.cut sh y3⟩
      | dic l =>
        obtain ⟨p', vs', y1, y2, y3⟩ := k2
        have ne : p' ≠ p := fun z => by subst z; rw [g2] at y2; cases y2
        exact ⟨p', vs', y1, by rw [upd_ne ne]; exact y2, KvR.cut sh y3⟩
      | ins a c l =>
        obtain ⟨dx, vs', y1, y2, y3⟩ := k2
        have ne : a ≠ p := fun z => by subst z; rw [g2] at y2; cases y2
        exact ⟨dx, vs', y1, by rw [upd_ne ne]; exact y2, KvR.cut sh y3⟩
      | fn L =>
        obtain ⟨f, c, pm, ct, y1, y2, y3⟩ := k2
        exact ⟨f, c, pm, ct, y1, sh _ _ y2 (.inr ⟨_, rfl⟩), sh _ _ y3 (.inr ⟨_, rfl⟩)⟩
  · rcases set_get hj with ⟨rfl, z, _⟩ | ⟨nj, hj⟩
    · cases z; exact oj.elim
    · rcases set_get hk with ⟨rfl, z, _⟩ | ⟨nk, hk⟩
      · cases z; exact ok.elim
      · exact hs.sep j k dj dk q hjk hj hk oj ok e1 e2
end
def dForK (i : Nat) (g : DG) (b : DS) : DS := fun E S => match S[i]? with
  | some (some (.dic kvs)) => (∀ (j : Nat) (kv : List (Key × PyData)), j ≠ i → S[j]? = some (some (.dic kv)) → False) ∧ ∀ p : V, ∃ Iv : Nat → Slots → Prop, Iv 0 (S.set i (some (.raw p))) ∧
    (∀ (k : Nat) (d : PyData) (S' : Slots), (kvs.map fun q => keyP q.1)[k]? = some d → Iv k S' → g d S' fun S2 => b { nx := Iv (k + 1), ct := Iv (k + 1), bk := fun S' => S'[i]? = some (some (.raw p)) ∧ E.nx (S'.set i (some (.dic kvs))), rt := fun d => match d with | .py q => E.rt (.py q) | _ => False } S2) ∧
    ∀ S', Iv kvs.length S' → S'[i]? = some (some (.raw p)) ∧ E.nx (S'.set i (some (.dic kvs)))
  | _ => False
section
variable {X : Cx} {B : List Addr} {H0 : Hp} {x : Str} {tg : Expr} {body : List Stmt} {g : DG} {b : DS} {is : List Nat} {p1 pos : Pos}
theorem psd_forK {i : Nat} (hN : X.N[i]? = some x) (hv : Vis X.env.scope x) (hd1 : (x == ("__debug__" : Str)) = false) (hcd : (x == ("__classdict__" : Str)) = false) (hp : PassesOwn (model X.prog X.w) X.A X.env X.xe) (hc : X.calm = true) (hg : PDG X B H0 is tg g) (hb : PDSs X B H0 body b)
    (hfs : ∀ v, foldedSetIterable (.Name x p1) X.env v = pure v := by intro _; rfl) : PDS X B H0 (.For tg (.Name x p1) body [] pos) (dForK i g b) := PSmono (ps_lock (ps_for hp hc (pi_keys (pe_var hN hv hd1 hcd)) hg hb hfs)) fun D σ H ⟨G0, E, ⟨G, S, hs, ho, hd⟩, q1, q2, q3, q4⟩ => by
  unfold dForK at hd
  split at hd
  · next kvs e =>
    obtain ⟨hno, hd⟩ := hd
    obtain ⟨p, vs, hσ, hH, hG, kv, lk⟩ := hs.lock ho e hno
    obtain ⟨Iv, i0, turn, fin⟩ := hd (.ref p)
    refine ⟨p, .dK vs, hH, trivial, fun od => ?_⟩
    obtain ⟨sl, ol, sh⟩ := lk od
    have kv2 := KvR.cut sh kv
    have hl : vs.length = kvs.length := Paired.length kv
    have exit : ∀ σ' H', (∃ G' S', Sl X.K B H0 S' σ' G' H' ∧ Old B (upd G p (.frz od (.dK vs))) H0 G' H' ∧ S'[i]? = some (some (.raw (.ref p))) ∧ E.nx (S'.set i (some (.dic kvs)))) → H' p = some (.frz od (.dK vs)) ∧ D.nx σ' (upd H' p (.dK vs)) := fun σ' H' ⟨G', S', k1, k2, k3, k4⟩ => by
      obtain ⟨u1, u2, u3, u4, u5⟩ := unlock_wd ho hG k1.wd k2
      exact ⟨u2, q1 _ _ ⟨_, _, k1.unlock ho hG k2 k3 kv2, u5, k4⟩⟩
    refine ⟨.ref p, hσ, p, od, rfl, .inl ⟨vs, upd_same, ?_⟩⟩
    refine ⟨fun k m σ' H' => m = kvs.length - k ∧ k ≤ kvs.length ∧ ∃ G' S', Sl X.K B H0 S' σ' G' H' ∧ Old B (upd G p (.frz od (.dK vs))) H0 G' H' ∧ Iv k S', ⟨kvs.length, rfl, Nat.zero_le _, _, _, sl, ol, i0⟩, ?_⟩
    rintro k m σ' H' ⟨rfl, hk, G', S', hs', ho', hinv⟩
    have hp' : H' p = some (.frz od (.dK vs)) := hs'.wd.sub _ _ (ho'.up _ _ upd_same)
    by_cases hlt : k < kvs.length
    · refine .inr ⟨⟨hp', by omega⟩, fun σ' H' => ∃ G' S', Sl X.K B H0 S' σ' G' H' ∧ Old B (upd G p (.frz od (.dK vs))) H0 G' H' ∧ Iv (k + 1) S', fun σ' H' z => ⟨kvs.length - (k + 1), by omega, rfl, by omega, z⟩, fun y H'' hy => ?_⟩
      obtain ⟨rfl, key, v, hkv, rfl⟩ := hy
      have hat := KvR.at (k := k) kv
      rw [hkv] at hat
      obtain ⟨q, hq⟩ : ∃ q, kvs[k]? = some q := ⟨_, List.getElem?_eq_getElem hlt⟩
      rw [hq] at hat
      have ek : q.1 = key := by simpa using hat.symm
      refine ⟨G', S', keyP key, _, hs', keyP_dt key, turn k (keyP key) S' (by rw [List.getElem?_map, hq, ← ek]; rfl) hinv, fun S2 σ2 hs2 _ _ pb => ?_⟩
      refine ⟨upd G p (.frz od (.dK vs)), _, ⟨G', S2, hs2, ho', pb⟩, fun σ3 H3 ⟨G3, S3, k1, k2, k3⟩ => ⟨G3, S3, k1, k2, k3⟩, fun v H3 ⟨G3, d3, k1, k2, k3, k4, k5⟩ => ?_, fun σ3 H3 ⟨G3, S3, k1, k2, k3⟩ => exit _ _ ⟨G3, S3, k1, k2, k3⟩, fun σ3 H3 ⟨G3, S3, k1, k2, k3⟩ => ⟨G3, S3, k1, k2, k3⟩⟩
      obtain ⟨u1, u2, u3, u4, u5⟩ := unlock_wd ho hG k1 k2
      refine ⟨u2, q2 _ _ ?_⟩
      cases d3 with
      | py q => exact ⟨_, .py q, u4, u5, Dt.cut u3 k3, fun z => z.elim, k5⟩
      | _ => exact k5.elim
    · have : k = kvs.length := by omega
      subst this
      exact .inl ⟨⟨hp', by omega⟩, exit _ _ ⟨G', S', hs', ho', fin S' hinv⟩⟩
  · exact hd.elim
end
/-! ### x, y = a, b by a tuple -/
def dParG (i j : Nat) (a b : DE) : DS := fun E S => a S fun x => b S fun y => fre x (fre y (E.nx ((S.set i (some x)).set j (some y))))
section
variable {X : Cx} {B : List Addr} {H0 : Hp} {x y : Str} {a b : Expr} {da db : DE} {px py pt pos : Pos} {kt k2 : Nat} {pt2 : Pos}
theorem fre_out {d : D} {p : Prop} (h : fre d p) : ¬ d.own ∧ p := by
  cases d with
  | ol _ => exact h.elim
  | od _ => exact h.elim
  | _ => exact ⟨fun z => z, h⟩
theorem psd_parG {i j : Nat} (hc : X.calm = true) (hN : X.N.Nodup) (hi : X.N[i]? = some x) (hj : X.N[j]? = some y) (hx : Loc X.env.scope x) (hy : Loc X.env.scope y) (ha : PD X B H0 a da) (hb : PD X B H0 b db)
    (s1 : starEach [a, b] X.env = (false, eval a X.env) :: starEach [b] X.env := by rfl) (s2 : starEach [b] X.env = (false, eval b X.env) :: starEach [] X.env := by rfl) (hs : swapsWithSole [.Tuple [.Name x px, .Name y py] kt pt] (.Tuple [a, b] k2 pt2) pos.line X.env = pure false := by rfl) (hw : swappedStores [.Tuple [.Name x px, .Name y py] kt pt] (.Tuple [a, b] k2 pt2) X.env = pure none := by rfl)
    (h1 : (assignEach [.Tuple [.Name x px, .Name y py] kt pt] X.env).map (·.2) = [assign (.Tuple [.Name x px, .Name y py] kt pt) X.env] := by rfl)
    (hf : X.fn x = true ∨ X.env.scope.names.lookup x = some .local := by first | exact .inl rfl | exact .inr rfl | assumption) (hf2 : X.fn y = true ∨ X.env.scope.names.lookup y = some .local := by first | exact .inl rfl | exact .inr rfl | assumption) :
    PDS X B H0 (.Assign [.Tuple [.Name x px, .Name y py] kt pt] (.Tuple [a, b] k2 pt2) pos) (dParG i j da db) := PSmono (ps_asg (pe_tup (pa_cons ha (pa_cons hb pa_nil s2) s1)) (pg_tup (n := 2) hc (pgs_cons (pg_name hN hi hx hf) (pgs_cons (pg_name hN hj hy hf2) pgs_nil))) hs hw h1) fun D σ H ⟨G0, E, ⟨G, S, hs, ho, hd⟩, q1, q2, q3, q4⟩ => by
  refine ⟨G, S, _, hs, hd, fun v d G1 H1 e1 r1 p1 => ⟨G1, S, _, hs.step e1, p1, fun v2 d2 G2 H2 e2 r2 p2 => ⟨sz1000 (by show 2 ≤ 1000; decide), fun q hq => ?_⟩⟩⟩
  obtain ⟨n1, p2⟩ := fre_out p2
  obtain ⟨n2, p2⟩ := fre_out p2
  have st := Stp.new e2.wd hq (.tup [v, v2])
  have t := hs.step (e1.trans (e2.trans st))
  refine ⟨q, [v, v2], rfl, SqT.of upd_same, rfl, v, _, rfl, v2, _, rfl, rfl, q1 _ _ ⟨_, _, (t.set i (Rp.up (e2.trans st).toOld r1) n1).set j (Rp.up st.toOld r2) n2, ho.trans (e1.trans (e2.trans st)).toOld, p2⟩⟩
end
/-! ### sorted(set(a tuple of ints)) -/
def tSortSetT (K : Kf) (te : TE) : TE := fun σ H Q => te σ H fun x H1 => ∃ (l : Addr) (ns : List Int), x = .ref l ∧ SqT K H1 l (ns.map V.int) ∧ ns.length ≤ 4000 ∧ ∀ (ys : List Int) (p : Addr), ys.Pairwise (· < ·) → (∀ k, k ∈ ys ↔ k ∈ ns) → ys.length ≤ ns.length → H1 p = none → Q (.ref p) (upd H1 p (.lst (ys.map V.int)))
section
variable {X : Cx} {a : Expr} {ta : TE} {p p2 q pos : Pos}
theorem pe_sortSetT (hc : X.calm = true) (hg : Gl X "sorted") (hm : X.mg "sorted" = none) (hg2 : Gl X "set") (hm2 : X.mg "set" = none) (ha : PE X a ta)
    (na : starEach [a] X.env = (false, eval a X.env) :: starEach [] X.env := by rfl) (nr : starEach [.Call (.Name "set" p2) [a] [] q] X.env = (false, eval (.Call (.Name "set" p2) [a] [] q) X.env) :: starEach [] X.env := by rfl) : PE X (.Call (.Name "sorted" p) [.Call (.Name "set" p2) [a] [] q] [] pos) (tSortSetT X.K ta) := by
  refine ⟨fun pins s σ H Q I h => ?_⟩
  refine Call_ (ld_blt I hg hm boot_sorted ?_)
  refine PyProof.Rows.callWith_builtin1 (PyProof.Rows.args_cons ?_ nr) nr rfl
  refine Call_ (ld_blt I hg2 hm2 boot_set ?_)
  refine PyProof.Rows.callWith_type1 (PyProof.Rows.args_cons (thn (ha.run pins s σ H _ I h) fun v s1 ⟨x, H1, I1, r1, q1⟩ => PyProof.Rows.args_nil ?_) na) na rfl
  obtain ⟨l, ns, rfl, hq, hl, q1⟩ := q1
  cases r1
  obtain ⟨its, r, ht, hz⟩ := I1.tuple hq
  refine call_set_tupI ns (I1.ok.hd hc) ht (by simpa using intsAre_vals r) (by unfold scanBound; omega) fun h' tk c R hcn keep => ?_
  refine PyProof.Rows.args_nil ?_
  have I2 : L2.Inv X pins σ H1 { s1 with heap := h', toks := tk } := I1.kept keep
  refine sort_set (s := { s1 with heap := h', toks := tk }) R (I1.ok.hd hc) fun s2 pn out c2 ys k g o hp hget hv hs hmem hlen => ?_
  have hn : H1 pn = none := I2.hok.fresh hp
  have J : L2.Inv X pins σ (upd H1 pn (.lst (ys.map V.int))) { ({ s1 with heap := h', toks := tk } : Shared) with heap := s2.heap, gens := s2.gens, drawn := s2.drawn, toks := s2.toks } :=
    I2.call (ch := []) (Un.laid k hp hn) (I2.hok.laid k hp ⟨by rw [List.length_map, hlen, sizeLine_eq]; omega, out.toList, c2, hv, hget⟩) (by rw [g]; exact I2.bare) (fun _ z => nomatch z)
  have e : s2 = { ({ s1 with heap := h', toks := tk } : Shared) with heap := s2.heap, gens := s2.gens, drawn := s2.drawn, toks := s2.toks } := by
    cases s2; cases o; rfl
  rw [e]
  exact ⟨.ref pn, _, J, rfl, q1 ys pn hs (fun k => by rw [hmem k]; exact decide_eq_true_iff) (by omega) hn⟩
end
def dSortSetT (de : DE) : DE := fun S post => de S fun x => ∃ ns : List Int, x = .py (.tuple (ns.map PyData.int)) ∧ ns.length ≤ 4000 ∧ ∀ ys : List Int, ys.Pairwise (· < ·) → (∀ k, k ∈ ys ↔ k ∈ ns) → ys.length ≤ ns.length → post (.py (.list (ys.map PyData.int)))
section
variable {X : Cx} {B : List Addr} {H0 : Hp} {e : Expr} {de : DE} {p p2 q pos : Pos}
theorem pd_sortSetT (T : Bl X.mg) (hc : X.calm = true) (he : PD X B H0 e de) (hg : Gl X "sorted" := by rfl) (hg2 : Gl X "set" := by rfl)
    (na : starEach [e] X.env = (false, eval e X.env) :: starEach [] X.env := by rfl) (nr : starEach [.Call (.Name "set" p2) [e] [] q] X.env = (false, eval (.Call (.Name "set" p2) [e] [] q) X.env) :: starEach [] X.env := by rfl) : PD X B H0 (.Call (.Name "sorted" p) [.Call (.Name "set" p2) [e] [] q] [] pos) (dSortSetT de) :=
  PEmono (pe_sortSetT hc hg T.sorted hg2 T.set he na nr) fun σ H Q ⟨G, S, post, hs, hd, hq⟩ => by
  refine ⟨G, S, _, hs, hd, fun v d G1 H1 s1 r1 p1 => ?_⟩
  obtain ⟨ns, rfl, hl, p1⟩ := p1
  cases r1 with
  | tup h1 h2 =>
    have := h2.ints
    subst this
    exact ⟨_, ns, rfl, SqT.up s1.wd.sub h1, hl, fun ys pn k1 k2 k3 k4 => hq _ _ _ _ (s1.trans (Stp.new s1.wd k4 _)) (Rp.ofDt (Dt.newL (s1.wd.sub.free k4) (ints_dt ys))) (p1 ys k1 k2 k3)⟩
end
/-! ### xs = list(e), one's own; xs[k] = v -/
def dSetLiO (i : Nat) (de : DE) : DS := fun E S => de S fun x => match x.items with
  | some ds => E.nx (S.set i (some (.ol ds)))
  | none => False
def dSti (i : Nat) (dk dv : DE) : DS := fun E S => match S[i]? with
  | some (some (.ol ds)) => dv S fun v => dk S fun k => match v, k with
    | .py q, .py (.int n) => ∃ m : Nat, n = (m : Int) ∧ m < ds.length ∧ E.nx (S.set i (some (.ol (ds.set m q))))
    | _, _ => False
  | _ => False
section
variable {X : Cx} {B : List Addr} {H0 : Hp} {x : Str} {e ek ev : Expr} {de dk dv : DE} {p1 p2 pos pos' : Pos}
theorem rp_items {K : Kf} {G H : Hp} (w : Wd K B G H) {x : D} {v : V} {ds : List PyData} (h : Rp K B G H x v) (e : x.items = some ds) : ∃ p vs, v = .ref p ∧ (SqL K H p vs ∨ SqT K H p vs) ∧ DtAll K G vs ds := by
  cases x with
  | py q =>
    cases q with
    | list l => cases e; cases h with | lst h1 h2 => exact ⟨_, _, rfl, .inl (SqL.of (w.sub _ _ h1)), h2⟩
    | tuple l => cases e; cases h with | tup h1 h2 => exact ⟨_, _, rfl, .inr (SqT.up w.sub h1), h2⟩
    | _ => cases e
  | ol l => cases e; obtain ⟨p, vs, rfl, _, h1, h2⟩ := h; exact ⟨p, vs, rfl, .inl (SqL.of h1), h2⟩
  | _ => cases e
theorem psd_setLiO {i : Nat} (T : Bl X.mg) (hN : X.N.Nodup) (hi : X.N[i]? = some x) (hx : Loc X.env.scope x) (he : PD X B H0 e de) (hg : Gl X "list" := by rfl) (s2 : starEach [e] X.env = (false, eval e X.env) :: starEach [] X.env := by rfl) (hpl : (backTo p2 (starEach [] X.env)).any (·.1) = false := by rfl)
    (hs : swapsWith (.Call (.Name "list" p1) [e] [] p2) (some (.Name x pos')) pos.line X.env = pure false := by rfl) (hf : X.fn x = true ∨ X.env.scope.names.lookup x = some .local := by first | exact .inl rfl | exact .inr rfl | assumption) :
    PDS X B H0 (.Assign [.Name x pos'] (.Call (.Name "list" p1) [e] [] p2) pos) (dSetLiO i de) := PSmono (ps_set hN hi hx (pe_callTy call_list_of hg T.list bo_list (pa_cons he pa_nil s2) (by decide) (by decide) s2 hpl) hs hf) fun D σ H ⟨G0, E, ⟨G, S, hs, ho, hd⟩, q1, q2, q3, q4⟩ => by
  refine ⟨G, S, _, hs, hd, fun v d G1 H1 s1 r1 p1 => ?_⟩
  split at p1
  · next ds ei =>
    obtain ⟨p, vs, rfl, h1, h2⟩ := rp_items s1.wd r1 ei
    refine ⟨p, vs, rfl, h1, fun q hq => ?_⟩
    have w := hs.step s1
    obtain ⟨k1, k2⟩ := w.newOwn (ho.trans s1.toOld) i hq (u := .lst vs) (d := .ol ds) ⟨q, _, rfl, ⟨w.wd.sub.free hq, bag_ne w.wd hq⟩, upd_same, h2⟩
    exact q1 _ _ ⟨_, _, k1, k2, p1⟩
  · exact p1.elim
theorem psd_sti {i : Nat} (hN : X.N[i]? = some x) (hv : Vis X.env.scope x) (hd1 : (x == ("__debug__" : Str)) = false) (hcd : (x == ("__classdict__" : Str)) = false) (hk : PD X B H0 ek dk) (hval : PD X B H0 ev dv)
    (hs : swapsWithSole [.Subscript (.Name x p1) ek pos'] ev pos.line X.env = pure false := by rfl) (hw : swappedStores [.Subscript (.Name x p1) ek pos'] ev X.env = pure none := by rfl) (h1 : (assignEach [.Subscript (.Name x p1) ek pos'] X.env).map (·.2) = [assign (.Subscript (.Name x p1) ek pos') X.env] := by rfl)
    (ha : ∀ v, assign (.Subscript (.Name x p1) ek pos') X.env v = (do
      let ov ← holding [v] (eval (.Name x p1) X.env)
      let iv ← holding [v, ov] (eval ek X.env)
      standAt pos'
      holding [v, ov, iv] (setItem ov iv v)
      PySem.release [v, ov, iv] []) := by intro _; rfl) :
    PDS X B H0 (.Assign [.Subscript (.Name x p1) ek pos'] ev pos) (dSti i dk dv) := PSmono (ps_asg hval (pg_sub (pe_var hN hv hd1 hcd) hk set_list ha) hs hw h1) fun D σ H ⟨G0, E, ⟨G, S, hs, ho, hd⟩, q1, q2, q3, q4⟩ => by
  unfold dSti at hd
  split at hd
  · next ds es =>
    obtain ⟨v0, h1, ⟨p, vs, rfl, w1, w2, w3⟩, h3⟩ := hs.slot i _ es
    refine ⟨G, S, _, hs, hd, fun v d G1 H1 s1 r1 p1 => ⟨_, h1, G1, S, _, hs.step s1, p1, fun v2 d2 G2 H2 s2 r2 p2 => ?_⟩⟩
    have st := s1.trans s2
    have r1 := Rp.up s2.toOld r1
    split at p2
    · next _ _ _ q n _ =>
      obtain ⟨m, rfl, hm, p2⟩ := p2
      cases r2
      have k := st.keep p _ w2 w1.1 w1.2
      have hlen := w3.length
      refine ⟨p, vs, (m : Int), m, rfl, rfl, k.1, by unfold ixN; rw [if_pos (by omega), if_pos (by omega)]; rfl, ?_⟩
      obtain ⟨y1, y2⟩ := (hs.step st).write (ho.trans st.toOld) i es trivial h1 k.2 w1.2 (h3 trivial p rfl) (u := .lst (vs.set m v)) (d' := .ol (ds.set m q)) ⟨p, _, rfl, ⟨k.2, w1.2⟩, upd_same, DtAll.set r1 m (DtAll.up st.up w3)⟩ trivial
      exact q1 _ _ ⟨G2, _, y1, y2, p2⟩
    · exact p2.elim
  · exact hd.elim
end
/-! ### isinstance(e, (A, B)) -/
def dIsi2 (n1 n2 : String) (de : DE) : DE := fun S post => de S fun x => match x.ty with
  | some t => post (.py (.bool (isiT t n1 || isiT t n2)))
  | none => False
section
variable {X : Cx} {B : List Addr} {H0 : Hp} {e : Expr} {de : DE} {p p1 p2 pt pos : Pos} {kt : Nat}
theorem pd_isi2 {n1 n2 : Str} {m1 m2 : String} (T : Bl X.mg) (he : PD X B H0 e de) (hm1 : m1 ∈ ["int", "bool", "str", "list", "tuple"]) (hm2 : m2 ∈ ["int", "bool", "str", "list", "tuple"]) (g1 : Gl X n1) (g2 : Gl X n2) (t1 : X.mg n1 = none) (t2 : X.mg n2 = none) (b1 : bootBuiltins n1 = some (.type m1)) (b2 : bootBuiltins n2 = some (.type m2)) (d1 : n1 ≠ "__name__" := by decide) (d2 : n2 ≠ "__name__" := by decide) (e1 : (n1 == ("__debug__" : Str)) = false := by decide) (e2 : (n2 == ("__debug__" : Str)) = false := by decide)
    (hg : Gl X "isinstance" := by rfl) (s1 : starEach [e, .Tuple [.Name n1 p1, .Name n2 p2] kt pt] X.env = (false, eval e X.env) :: starEach [.Tuple [.Name n1 p1, .Name n2 p2] kt pt] X.env := by rfl) (s2 : starEach [.Tuple [.Name n1 p1, .Name n2 p2] kt pt] X.env = (false, eval (.Tuple [.Name n1 p1, .Name n2 p2] kt pt) X.env) :: starEach [] X.env := by rfl)
    (s3 : starEach [.Name n1 p1, .Name n2 p2] X.env = (false, eval (.Name n1 p1) X.env) :: starEach [.Name n2 p2] X.env := by rfl) (s4 : starEach [.Name n2 p2] X.env = (false, eval (.Name n2 p2) X.env) :: starEach [] X.env := by rfl)
    (hpl : (backTo pos (starEach [.Tuple [.Name n1 p1, .Name n2 p2] kt pt] X.env)).any (·.1) = false := by rfl) : PD X B H0 (.Call (.Name "isinstance" p) [e, .Tuple [.Name n1 p1, .Name n2 p2] kt pt] [] pos) (dIsi2 m1 m2 de) :=
  PEmono (pe_callB call_isiT hg T.isinstance bo_isinstance (pa_cons he (pa_cons (pe_tup (pa_cons (pe_bltn (v := .ty m1) g1 t1 b1 rfl d1 e1) (pa_cons (pe_bltn (v := .ty m2) g2 t2 b2 rfl d2 e2) pa_nil s4) s3)) pa_nil s2) s1) (by decide) (by decide) s1 hpl) fun σ H Q ⟨G, S, post, hs, hd, hq⟩ => by
  refine ⟨G, S, _, hs, hd, fun v d G1 H1 st r1 p1 => ?_⟩
  split at p1
  · next t et =>
    refine ⟨sz1000 (by show 2 ≤ 1000; decide), fun q hq' => ?_⟩
    have nw := Stp.new st.wd hq' (.tup [V.ty m1, V.ty m2])
    refine ⟨v, q, [.ty m1, .ty m2], .type t, [.type m1, .type m2], isiT t m1 || isiT t m2, rfl, upd_same, .cons (.ty m1) (.cons (.ty m2) .nil), ty_x nw.wd (Rp.up nw.toOld r1) et, ?_, hq _ _ _ _ (st.trans nw) (Rp.bl _) p1⟩
    have k1 := kit_ty (K := X.K) (kit_tab t (ty_mem et) m1 hm1)
    have k2 := kit_ty (K := X.K) (kit_tab t (ty_mem et) m2 hm2)
    refine kitAny_cons k1 (r := isiT t m1 || isiT t m2) (fun z => ?_) (fun z => by rw [z]; rfl)
    rw [z, Bool.false_or]
    exact kitAny_cons k2 (r := isiT t m2) (fun z => by rw [z]; exact kitAny_nil) (fun z => z)
  · exact p1.elim
end
end DL
/- ==== DMf ==== -/
/-! DMf: defs that raise: contracts, raise, calls as statements. -/
namespace DL
open PySem PySem.Spec PyProof.Rows PySem.Calls L2 RZ
/-- what is wished of an exception: its class, its own attributes -/
abbrev XP := Value → List (Str × PyData) → Prop
def xD (K : Kf) (G : Hp) (d : Option Addr) (fs : List (Str × PyData)) : Prop := match d with
  | none => fs = []
  | some dx => fs ≠ [] ∧ ∃ vs, G dx = some (.xd vs) ∧ KvR K G vs fs
abbrev CtX := List Addr → List D → (D → Prop) → XP → Prop
def spX (K : Kf) (C : CtX) : Sp := fun vs H Q E => ∃ (B : List Addr) (G : Hp) (ds : List D) (post : D → Prop) (px : XP), Wd K B G H ∧ RpAll K B G H ds vs ∧ C B ds post px ∧
  (∀ v d G' H', Stp K B G H G' H' → Rp K B G' H' d v → post d → Q v H') ∧ ∀ cls d fs G' H', Stp K B G H G' H' → xD K G' d fs → px cls fs → E cls d H'
def CalX (P : Program) (w : World) (K : Kf) (mg : Str → Option Value) (base : Heap) (x : Str) (ps : List Str) (k : Nat) (C : CtX) : Prop := ∃ (f : Addr) (fd : FuncData), mg x = some (.ref f) ∧ FnOk P w K mg base (L2N.CX P w) k f fd ps (spX K C) ∧ PySem.W.keepIn K (.ref f) = true ∧ Binds K fd ps []
theorem CalX.mono {P : Program} {w : World} {K : Kf} {mg : Str → Option Value} {base : Heap} {x : Str} {ps : List Str} {j k : Nat} {C : CtX} (c : CalX P w K mg base x ps j C) (h : j ≤ k) : CalX P w K mg base x ps k C :=
  let ⟨f, fd, a, b, c, d⟩ := c; ⟨f, fd, a, b.mono h, c, d⟩
theorem CalX.imp {P : Program} {w : World} {K : Kf} {mg : Str → Option Value} {base : Heap} {x : Str} {ps : List Str} {k : Nat} {C C' : CtX} (c : CalX P w K mg base x ps k C) (h : ∀ B ds post px, C' B ds post px → C B ds post px) : CalX P w K mg base x ps k C' :=
  let ⟨f, fd, a, b, c, d⟩ := c; ⟨f, fd, a, b.imp fun vs H Q E ⟨B, G, ds, post, px, h1, h2, h3, h4⟩ => ⟨B, G, ds, post, px, h1, h2, h _ _ _ _ h3, h4⟩, c, d⟩
/-- an exception out of a body that was entered at G0, H0 -/
def wX (K : Kf) (B : List Addr) (G0 H0 : Hp) (px : XP) : WX := fun cls d _ H => ∃ (G : Hp) (fs : List (Str × PyData)), Wd K B G H ∧ Old B G0 H0 G H ∧ xD K G d fs ∧ px cls fs
def lSx (K : Kf) (B : List Addr) (H0 G0 : Hp) (ds : DS) : TS := fun D σ H => ∃ E : DEnds, nxOf K B G0 H0 (ds E) σ H ∧
  (∀ σ' H', nxOf K B G0 H0 E.nx σ' H' → D.nx σ' H') ∧ (∀ v H', rtOf K B G0 H0 E.rt v H' → D.rt v H') ∧ (∀ σ' H', nxOf K B G0 H0 E.bk σ' H' → D.bk σ' H') ∧ (∀ σ' H', nxOf K B G0 H0 E.ct σ' H' → D.ct σ' H')
def lEx (K : Kf) (B : List Addr) (H0 G0 : Hp) (de : DE) : TE := fun σ H Q => ∃ (G : Hp) (S : Slots) (post : D → Prop), Sl K B H0 S σ G H ∧ Old B G0 H0 G H ∧ de S post ∧ ∀ v d G' H', Stp K B G H G' H' → Rp K B G' H' d v → post d → Q v H'
abbrev PDX (X : Cx) (B : List Addr) (H0 G0 : Hp) (st : Stmt) (ds : DS) : Prop := PS X st (lSx X.K B H0 G0 ds)
abbrev PDXs (X : Cx) (B : List Addr) (H0 G0 : Hp) (st : List Stmt) (ds : DS) : Prop := PSs X st (lSx X.K B H0 G0 ds)
abbrev PDXe (X : Cx) (B : List Addr) (H0 G0 : Hp) (e : Expr) (de : DE) : Prop := PE X e (lEx X.K B H0 G0 de)
section
variable {X : Cx} {B : List Addr} {H0 G0 : Hp} {st : Stmt} {rest : List Stmt} {a b : DS} {de : DE} {ta : DT} {pos pos' p : Pos} {e : Expr} {es : List Expr} {ra : DA} {x : Str} {px : XP}
theorem pdx_of (h : PDS X B H0 st a) : PDX X B H0 G0 st a := PSmono h fun D σ H ⟨E, n, q⟩ => ⟨G0, E, n, q⟩
theorem pdx_nox (h : PDSs X.nox B H0 rest a) : PDXs X B H0 G0 rest a := PSsmono (PSs.nox h) fun D σ H ⟨E, n, q⟩ => ⟨G0, E, n, q⟩
theorem pdx_cons (h1 : PDX X B H0 G0 st a) (h2 : PDXs X B H0 G0 rest b) : PDXs X B H0 G0 (st :: rest) (dSeq a b) := PSsmono (pss_cons h1 h2) fun D σ H ⟨E, hn, q1, q2, q3, q4⟩ =>
  ⟨{ E with nx := b E }, hn, fun σ' H' z => ⟨E, z, q1, q2, q3, q4⟩, q2, q3, q4⟩
theorem pdx_one (h1 : PDX X B H0 G0 st a) : PDXs X B H0 G0 [st] a := pss_one h1
theorem pdx_nil : PDXs X B H0 G0 [] dNext := PSsmono pss_nil fun D σ H ⟨E, hn, q1, q2, q3, q4⟩ => q1 σ H hn
theorem pdx_if {c : Expr} {s1 s2 : List Stmt} (hc : PDT X B H0 c ta) (h1 : PDXs X B H0 G0 s1 a) (h2 : PDXs X B H0 G0 s2 b) : PDX X B H0 G0 (.If c s1 s2 pos) (dIfS ta a b) := PSmono (ps_if hc h1 h2) fun D σ H ⟨E, ⟨G, S, hs, ho, hd⟩, q1, q2, q3, q4⟩ => by
  refine ⟨G, S, _, hs, hd, fun k G' H' s p => ?_⟩
  cases k with
  | true =>
    rw [if_pos rfl] at p ⊢
    exact ⟨E, ⟨G', S, hs.step s, ho.trans s.toOld, p⟩, q1, q2, q3, q4⟩
  | false =>
    rw [if_neg Bool.false_ne_true] at p ⊢
    exact ⟨E, ⟨G', S, hs.step s, ho.trans s.toOld, p⟩, q1, q2, q3, q4⟩
theorem pdx_drop (h : PDXe X B H0 G0 e de) (hs : swapsWith e none pos.line X.env = pure false := by rfl) : PDX X B H0 G0 (.Expr e pos) (dDrop de) := PSmono (ps_expr h hs) fun D σ H ⟨E, ⟨G, S, hs, ho, hd⟩, q1, q2, q3, q4⟩ =>
  ⟨G, S, _, hs, ho, hd, fun v d G' H' s r p => q1 _ _ ⟨G', S, hs.step s, ho.trans s.toOld, p⟩⟩
theorem pdx_ret (h : PDXe X B H0 G0 e de) : PDX X B H0 G0 (.Return (some e) pos) (dRet de) := PSmono (ps_ret h) fun D σ H ⟨E, ⟨G, S, hs, ho, hd⟩, q1, q2, q3, q4⟩ => by
  refine ⟨G, S, _, hs, ho, hd, fun v d G' H' s r p => q2 v H' ⟨G', d, s.wd, ho.trans s.toOld, r, ?_⟩⟩
  obtain ⟨n, p⟩ := fre_out p
  exact ⟨fun z => (n z).elim, p⟩
theorem pdx_cal {ps : List Str} {j k : Nat} {C : CtX} (c : CalX X.prog X.w X.K X.mg X.base x ps j C) (tk : L2N.Takes X (wX X.K B G0 H0 px)) (hr : Room k X.A) (ha : PDA X B H0 (e :: es) ra) (hjk : j ≤ k := by decide) (hg : Gl X x := by rfl) (hdb : (x == ("__debug__" : Str)) = false := by decide)
    (he : starEach (e :: es) X.env = (false, eval e X.env) :: starEach es X.env := by rfl) (hpl : (backTo pos (starEach es X.env)).any (·.1) = false := by rfl) : PDXe X B H0 G0 (.Call (.Name x p) (e :: es) [] pos) (fun S post => ra S fun xs => C B xs post px) := by
  obtain ⟨f, fd, hm, F, kp, b⟩ := c
  refine PEmono (pe_callS F (hr.mono hjk) hg hm kp b (fun σ => L2N.passAt tk σ) ha hdb he hpl) fun σ H Q ⟨G, S, post, hs, ho, hd, hq⟩ => ?_
  refine ⟨G, S, _, hs, hd, fun vs xs G1 H1 s1 r1 p1 => ?_⟩
  exact ⟨B, G1, xs, _, px, s1.wd, r1, p1, fun v d G' H' s2 r2 p2 => hq v d G' H' (s1.trans s2) r2 p2, fun cls d fs G' H' s2 x2 p2 => ⟨G', fs, s2.wd, ho.trans (s1.trans s2).toOld, x2, p2⟩⟩
/-- X() of an own class without an __init__ -/
theorem pmk_own0 {C : Addr} {bmB : List Value} {F newId initId : String} (FF : ExcBaseFacts F newId initId bmB) (q : PySem.W.excIn X.K C bmB newId = true) (gC : X.mg x = some (.ref C)) (kC : PySem.W.keepIn X.K (.ref C) = true) (r : Raises X (.ref C)) (hg : Gl X x)
    (hdb : (x == ("__debug__" : Str)) = false := by decide) : L2N.PMk X (.Call (.Name x p) [] [] pos) (fun _ H Q => Q (.ref C) none H) := by
  intro pins s σ H Q I h
  refine wpAny_Call_Name_kw (ld_glob I hg gC ?_ hdb)
  refine PySem.W.callWith_K0 I.kIn kC ?_
  obtain ⟨bm, N, nm, qn, bs, hdct, sn, sub, ab, col, dd, k0, k1, k2, k3, k5, mN, hC, hN, hni, T⟩ := exc_obj I.kIn q
  refine wpAny_call_exc_subT FF T hC hN hni (fun h' e hm => ?_) (Nat.zero_le _)
  exact L2N.mk_of I hm r h (I.hok.gone hm.new)
/-- what the written part says of an own exception class at C -/
structure ExcK (K : Kf) (mg : Str → Option Value) (x : Str) (C : Addr) : Prop where
  g : mg x = some (.ref C)
  q : PySem.W.excIn K C He.veBase "ValueError.__new__" = true
  kp : PySem.W.keepIn K (.ref C) = true
  sb : PySem.W.subIn K (.ref C) (.type "BaseException") = some true
  ty : PySem.W.typeIn K (.ref C) = some (.type "type")
theorem pdx_raise {C : Addr} (hc : X.calm = true) (tk : L2N.Takes X (wX X.K B G0 H0 px)) (T : ExcK X.K X.mg x C) (hg : Gl X x := by rfl) (hdb : (x == ("__debug__" : Str)) = false := by decide) : PDX X B H0 G0 (.Raise (some (.Call (.Name x p) [] [] pos)) none pos') (fun _ _ => px (.ref C) []) :=
  PSmono (L2N.ps_raise hc tk (pmk_own0 PySem.F.excBase_ValueError T.q T.g T.kp (raises_own T.sb T.ty) hg hdb)) fun D σ H ⟨E, ⟨G, S, hs, ho, hd⟩, _⟩ => ⟨G, [], hs.wd, ho, rfl, hd⟩
end
theorem calDX {P : Program} {w : World} {K : Kf} {mg : Str → Option Value} {base : Heap} {x : Str} {st : Stmt} {N ps : List Str} {k : Nat} {C : CtX} (d : Def K mg x st) (S : FnScope N ps (defScope st)) (len : ∀ B ds post px, C B ds post px → ds.length = ps.length ∧ ∀ d ∈ ds, ¬ d.own)
    (hb : ∀ (dV kV doc pm : Value) (an : Option Addr) (cdv ct : Value) (us : List Value), us.length = ps.length → bindArgs (PySem.W.fnOf x x (defArgs st) (defBody st) (defScope st) .none kV doc pm an cdv ct) ⟨us, []⟩ = pure (ps.zip us))
    (hbody : ∀ (f : Addr) (cdv : Value) (A : Around) (outer : List Env) (s : Shared) (H : Hp) (E : XK) (B : List Addr) (G : Hp) (ds : List D) (post : D → Prop) (px : XP), Room k (A.deeper (envOfC x (defScope st) s.heap.objs.size f cdv)) → L2N.Takes (cxOf (L2N.CX P w) P w K mg base N x (defScope st) f cdv A outer s H E) (wX K B G H px) → C B ds post px →
      ∃ t, PDXs (cxOf (L2N.CX P w) P w K mg base N x (defScope st) f cdv A outer s H E) B H G (defBody st) t ∧ t { nx := fun _ => post (.py .none), rt := post } (startS N.length ds)) : CalX P w K mg base x ps (k + 1) C := by
  obtain ⟨f, fd, hm, F⟩ := d
  refine ⟨f, fd, hm, F.ok S (fun vs H Q E h => ?_) (fun cdv A outer s H vs Q E hr h => ?_), F.kp, FunD.bindsN F fun kV doc pm an cdv ct us hl => hb .none kV doc pm an cdv ct us hl⟩
  · obtain ⟨B, G, ds, post, px, _, r, c, _⟩ := h
    rw [← r.length]; exact (len B ds post px c).1
  · obtain ⟨B, G, ds, post, px, wd, r, c, hq, hx⟩ := h
    have tk : L2N.Takes (cxOf (L2N.CX P w) P w K mg base N x (defScope st) f cdv A outer s H E) (wX K B G H px) := (L2N.takes_of rfl rfl rfl rfl).imp fun cls d σ H' ⟨G', fs, h1, h2, h3, h4⟩ => hx cls d fs G' H' ⟨h2, h1⟩ h3 h4
    obtain ⟨t, ht, q⟩ := hbody f cdv A outer s H E B G ds post px hr tk c
    refine ⟨_, ht, ⟨_, ⟨G, _, sl_start wd r (len B ds post px c).2, Old.refl, q⟩, fun σ' H' ⟨G', S', h1, h2, h3⟩ => ?_, fun v H' ⟨G', d, h1, h2, h3, _, h4⟩ => ?_, fun _ _ ⟨_, _, _, _, z⟩ => z, fun _ _ ⟨_, _, _, _, z⟩ => z⟩⟩
    · exact hq .non (.py .none) G' H' ⟨h2, h1.wd⟩ Rp.non h3
    · exact hq v d G' H' ⟨h2, h1⟩ h3 h4
end DL
/- ==== DMg ==== -/
/-! DMg: a lambda that captures nothing: made, called through a local. -/
namespace DL
open PySem PySem.Spec PyProof.Rows PySem.Calls L2 RZ
theorem clo_none (cells : List (Str × Addr)) : ∀ (names : List (Str × NameKind)) (acc : List (Str × Addr)), (∀ y ∈ names, y.2 ≠ .free) → cloFrom cells names acc = acc
  | [], acc, _ => rfl
  | (n, k) :: r, acc, h => by
    have hk : k ≠ .free := h (n, k) (List.mem_cons_self ..)
    have ih := clo_none cells r acc fun y hy => h y (List.mem_cons_of_mem _ hy)
    unfold cloFrom
    cases k <;> first | exact absurd rfl hk | exact ih
/-- a new object that an outside fact describes -/
theorem fun_ok {P : Program} {w : World} {H : Hp} {h : Heap} {f c' : Addr} {pm ctv : Value} {L : LamD} (e : h.get? f = some (PySem.W.kla_obj "<lambda>" L.q L.params L.body L.scope [] pm c' ctv)) : ObjOk P w H h f (FunO f c' pm ctv L) :=
  ⟨e, ⟨_, e⟩, fun _ _ z st => st _ z⟩
section
variable {X : Cx} {pins : List (Addr × Obj)} {σ : L2.St} {H : Hp} {s : Shared}
/-- the lambda is made: its code object is new and told by the table from now on, or found there -/
theorem lam_made {c T : Addr} {ps : Array Value} {L : LamD} {pos : Pos} {E : Value → Shared → Prop} {Q : Value → Shared → Prop} (I : Inv X pins σ H s) (TB : LamX.TabB X.base X.mg c T) (hcode : X.env.code = .ref c) (hq : X.env.qual ++ "<lambda>" = L.q)
    (hT : H T = some (.tbl ps)) (ht : TriplesOk ps.toList) (ha : ∀ (p : Pos) (cv : Value), codeAmong p ps.toList = some cv → ∃ c', cv = .ref c' ∧ H c' = some (LamX.CodeO c' L.q)) (hdef : defaultsOf L.params X.env = ([], [])) (hfree : ∀ y ∈ L.scope.names, y.2 ≠ .free)
    (h : ∀ (f c' : Addr) (pm ctv : Value) (H1 : Hp) (s' : Shared), Inv X pins σ (upd H1 f (FunO f c' pm ctv L)) s' → H1 f = none → H1 c' = some (LamX.CodeO c' L.q) →
      ((H1 = H ∧ codeAmong pos ps.toList = some (.ref c')) ∨ ∃ ps' : Array Value, H c' = none ∧ c' ≠ T ∧ H1 = upd (upd H T (.tbl ps')) c' (LamX.CodeO c' L.q) ∧ TriplesOk ps'.toList ∧ ∀ (p : Pos) (cv : Value), codeAmong p ps'.toList = some cv → codeAmong p ps.toList = some cv ∨ cv = .ref c') → Q (.ref f) s') :
    wpAny (model X.prog X.w) X.A (eval (.Lambda L.params L.body L.scope pos) X.env) Q E s := by
  refine PySem.W.kla_eval hdef ?_
  rw [hq]
  have hcl : closureFor L.scope X.env = pure [] := by
    have z := closure_ok (scope := L.scope) (env := X.env) fun y hy e => absurd e (hfree y hy)
    rw [clo_none _ _ _ hfree] at z
    exact z
  have hTs : s.heap.get? T = some { cls := .none, data := .fields ps } := I.hok T _ hT
  have bT : s.heap.BuiltinsAt X.mg T := TB.bm.keeps I.bk
  have gT := I.mod.glob.keeps I.bk
  cases hc : codeAmong pos ps.toList with
  | none =>
    refine PySem.W.kla_makeFunction (mg := X.mg) (c := c) (P := T) (ps := ps) hcl I.ok.glob gT hcode (TB.code.keeps I.bk) hTs ht hc TB.gP bT fun c' ctv h' tk hx hge hlt hrec htb => ?_
    obtain ⟨c2, oc, vs, t, e2, hoc, hd, hv⟩ := hrec
    cases e2
    have nC : H c' = none := I.hok.fresh hge
    have nTc : c' ≠ T := fun z => by rw [z, hT] at nC; cases nC
    have I0 := LamX.inv_table (t' := tk) (more := #[rawInt pos.line, rawInt pos.col, .ref c']) (h' := h') (q := L.q) I hT hx htb hge ⟨oc, vs, t, hoc, hd, hv⟩
    have I1 := I0.laid (t' := tk) (a := h'.objs.size) (o := FunO h'.objs.size c' ((X.mg "__name__").getD .none) ctv L) (h' := h'.push (PySem.W.kla_obj "<lambda>" L.q L.params L.body L.scope [] ((X.mg "__name__").getD .none) c' ctv)) (fun b u e => Heap.get?_push_of_some _ e) (Nat.le_refl _) (fun_ok (Heap.get?_push_size _ rfl))
    have eL : (ps ++ #[rawInt pos.line, rawInt pos.col, Value.ref c']).toList = ps.toList ++ [rawInt pos.line, rawInt pos.col, .ref c'] := by simp
    refine h _ c' _ ctv _ _ I1 (I0.hok.fresh (Nat.le_refl _)) upd_same (.inr ⟨_, nC, nTc, rfl, by rw [eL]; exact PySem.TriplesOk_snoc _ _ _ _ ht, fun p cv z => ?_⟩)
    rw [eL] at z
    exact LamX.among_app _ ht z
  | some cv =>
    obtain ⟨c', e, hco⟩ := ha pos cv hc
    subst e
    refine PySem.W.kla_makeFunctionHit (mg := X.mg) (c := c) (P := T) (ps := ps) hcl I.ok.glob gT hcode (TB.code.keeps I.bk) hTs ht hc bT fun ctv h' tk hx hsz => ?_
    have I0 : Inv X pins σ H { s with heap := h', toks := tk } := I.kept hx
    have I1 := I0.laid (t' := tk) (a := h'.objs.size) (o := FunO h'.objs.size c' ((X.mg "__name__").getD .none) ctv L) (h' := h'.push (PySem.W.kla_obj "<lambda>" L.q L.params L.body L.scope [] ((X.mg "__name__").getD .none) c' ctv)) (fun b u e => Heap.get?_push_of_some _ e) (Nat.le_refl _) (fun_ok (Heap.get?_push_size _ rfl))
    exact h _ c' _ ctv H _ I1 (I0.hok.fresh (Nat.le_refl _)) hco (.inl ⟨rfl, hc⟩)
/-- over data -/
def dLam (L : LamD) : DE := fun _ post => post (.fn L)
theorem pd_lam {c T : Addr} {bs : List Addr} {H0 : Hp} {L : LamD} {pos : Pos} (TB : LamX.TabB X.base X.mg c T) (hcode : X.env.code = .ref c) (hq : X.env.qual ++ "<lambda>" = L.q) (hl : L.q = qlam) (hdef : defaultsOf L.params X.env = ([], [])) (hfree : ∀ y ∈ L.scope.names, y.2 ≠ .free) :
    PD X (T :: bs) H0 (.Lambda L.params L.body L.scope pos) (dLam L) := by
  refine ⟨fun pins s σ H Q I ⟨G, S, post, hs, hd, hq'⟩ => ?_⟩
  obtain ⟨gT, ps, hT, ht, ha⟩ := hs.wd.tab
  refine lam_made I TB hcode hq hT ht (fun p cv z => ?_) hdef hfree fun f c' pm ctv H1 s' I1 hf hc' hcase => ?_
  · obtain ⟨c', e1, e2⟩ := ha p cv z
    exact ⟨c', e1, by rw [hl]; exact hs.wd.sub _ _ e2⟩
  have nf : f ≠ c' := fun z => by rw [z, hc'] at hf; cases hf
  -- the stable part that the new heap has
  have key : ∃ G1, Stp X.K (T :: bs) G H G1 H1 ∧ G1 c' = some (LamX.CodeO c' L.q) := by
    rcases hcase with ⟨rfl, hmem⟩ | ⟨ps', nC, ncT, rfl, ht', ha'⟩
    · obtain ⟨c2, e1, e2⟩ := ha pos _ hmem
      cases e1
      exact ⟨G, Stp.refl hs.wd, by rw [hl]; exact e2⟩
    · have gC : G c' = none := hs.wd.sub.free nC
      have up : Same G (upd G c' (LamX.CodeO c' L.q)) := Same.updN gC
      refine ⟨upd G c' (LamX.CodeO c' L.q), ⟨⟨up, fun a o ho hg hb => ?_⟩, ⟨fun a o ho => ?_, fun b hb => ?_⟩⟩, upd_same⟩
      · have n1 : a ≠ c' := ne_of_none ho nC
        have n2 : a ≠ T := fun z => hb (by rw [z]; exact List.mem_cons_self ..)
        rw [upd_ne n1, upd_ne n2, upd_ne n1]; exact ⟨ho, hg⟩
      · by_cases z : a = c'
        · subst z; rw [upd_same] at ho ⊢; exact ho
        · rw [upd_ne z] at ho ⊢
          rw [upd_ne (ne_of_none ho gT)]; exact hs.wd.sub _ _ ho
      · obtain ⟨y1, y2⟩ := hs.wd.bags b hb
        obtain ⟨u, hu⟩ := y2.some
        have n1 : b ≠ c' := ne_of_none hu nC
        refine ⟨by rw [upd_ne n1]; exact y1, ?_⟩
        by_cases z : b = T
        · subst z
          refine .inr ⟨rfl, ps', by rw [upd_ne n1, upd_same], ht', fun p cv hcv => ?_⟩
          rcases ha' p cv hcv with k | k
          · obtain ⟨c2, e1, e2⟩ := ha p cv k
            exact ⟨c2, e1, up _ _ e2⟩
          · exact ⟨c', k, by rw [← hl]; exact upd_same⟩
        · exact y2.up up (by rw [upd_ne n1, upd_ne z])
  obtain ⟨G1, st, hg1⟩ := key
  have st2 := Stp.new st.wd hf (FunO f c' pm ctv L)
  exact ⟨.ref f, _, I1, rfl, hq' _ (.fn L) _ _ (st.trans st2) ⟨f, c', pm, ctv, rfl, upd_same, by rw [upd_ne (Ne.symm nf)]; exact hg1⟩ hd⟩
end
end DL
/- ==== DMh ==== -/
/-! DMh: such a lambda called. -/
namespace DL
open PySem PySem.Spec PyProof.Rows PySem.Calls L2 RZ
/-- the lambda L, wherever its objects stand, keeps the contract C -/
structure LamCal (P : Program) (w : World) (K : Kf) (mg : Str → Option Value) (base : Heap) (L : LamD) (k n : Nat) (C : CtX) : Prop where
  len : ∀ B ds post px, C B ds post px → ds.length = n ∧ ∀ d ∈ ds, ¬ d.own
  run : ∀ (f c' : Addr) (pm ctv : Value) (A : Around) (outer : List Env) (s : Shared) (H : Hp) (us : List Value) (vs : List V) (Q : VK) (E : XK), Room k A → Env0 P w K mg base A outer s H →
    s.heap.get? f = some (PySem.W.kla_obj "<lambda>" L.q L.params L.body L.scope [] pm c' ctv) → s.heap.CodeRec (.ref c') L.q → Vals vs us → spX K C vs H Q E → codeAny (model P w) A (.call (.ref f) ⟨us, []⟩) (CR (L2N.CX P w) outer P w H s Q E) s
theorem lam_cal {P : Program} {w : World} {K : Kf} {mg : Str → Option Value} {base : Heap} {L : LamD} {N ps : List Str} {k : Nat} {C : CtX} (S : FnScope N ps L.scope) (len : ∀ B ds post px, C B ds post px → ds.length = ps.length ∧ ∀ d ∈ ds, ¬ d.own)
    (hbind : ∀ (pm : Value) (c' : Addr) (ctv : Value) (us : List Value), us.length = ps.length → bindArgs (PySem.W.kla_fn "<lambda>" L.q L.params L.body L.scope [] pm (.ref c') ctv) ⟨us, []⟩ = pure (ps.zip us))
    (hbody : ∀ (f c' : Addr) (A : Around) (outer : List Env) (s : Shared) (H : Hp) (E : XK) (B : List Addr) (G : Hp) (ds : List D) (post : D → Prop) (px : XP), Room k (A.deeper (envOfC L.q L.scope s.heap.objs.size f (.ref c'))) → L2N.Takes (cxOf (L2N.CX P w) P w K mg base N L.q L.scope f (.ref c') A outer s H E) (wX K B G H px) → C B ds post px →
      ∃ de, PDXe (cxOf (L2N.CX P w) P w K mg base N L.q L.scope f (.ref c') A outer s H E) B H G L.body de ∧ de (startS N.length ds) post) : LamCal P w K mg base L (k + 1) ps.length C := by
  refine ⟨len, fun f c' pm ctv A outer s H us vs Q E hr e0 ho hcr rv h => ?_⟩
  obtain ⟨B, G, ds, post, px, wd, r, c, hq, hx⟩ := h
  have hl : vs.length = ps.length := by rw [← r.length]; exact (len B ds post px c).1
  have hlu : us.length = ps.length := by rw [← rv.length]; exact hl
  have lim : s.heap.NoLimit := e0.mod.nolimit.keeps fun b o e => (e0.bs b o e).1
  have hkind : ∀ y ∈ ps.zip us, L.scope.names.lookup y.1 = some .local ∨ (L.scope.names.lookup y.1 = some .cell ∧ ((cellsFrom (s.heap.objs.size + 1) L.scope.names []).lookup y.1).isSome = true) := fun ⟨n, v⟩ hy => by
    rcases S.par n (List.of_mem_zip hy).1 with q | q
    · exact .inl q
    · exact .inr ⟨q, PySem.W.cellsFrom_some _ _ _ (.inl q)⟩
  refine PySem.W.kla_callFunE hr.depth ho rfl S.co S.gen rfl hcr ?_
  rw [hbind pm c' ctv us hlu]
  refine wpAny_pure (wpAny_newFunctionEnv_cells S.kind hkind fun env he s1 x => ?_)
  subst he
  refine ⟨lim.keeps x.toInCall.keep, ?_⟩
  have tk : L2N.Takes (cxOf (L2N.CX P w) P w K mg base N L.q L.scope f (.ref c') A outer s H E) (wX K B G H px) := (L2N.takes_of rfl rfl rfl rfl).imp fun cls d σ H' ⟨G', fs, h1, h2, h3, h4⟩ => hx cls d fs G' H' ⟨h2, h1⟩ h3 h4
  obtain ⟨de, hd, q⟩ := hbody f c' A outer s H E B G ds post px (hr.deeper _) tk c
  have I : Inv (cxOf (L2N.CX P w) P w K mg base N L.q L.scope f (.ref c') A outer s H E) [] (L2.start N vs) H s1 := inv_start S hr.hd e0 hl rv x
  refine PySem.W.kla_codeExpr (wpAny_mono (hd.run [] s1 _ H Q I ⟨G, _, post, sl_start wd r (len B ds post px c).2, Old.refl, q, fun v d G' H' st rp p => hq v d G' H' st rp p⟩) (fun v s' hv => ?_) fun e s' he => he)
  obtain ⟨v', H', J, rv', q'⟩ := hv
  exact ⟨v', H', J.os, J.bare, J.base, J.hok, rv', q'⟩
section
variable {X : Cx} {B : List Addr} {H0 G0 : Hp} {pos p : Pos} {e : Expr} {es : List Expr} {ra : DA} {x : Str} {px : XP}
/-- x(e, ..), x a local that holds a lambda; V: what is wished of an error -/
def tCallFn (P : Program) (w : World) (K : Kf) (mg : Str → Option Value) (base : Heap) (B : List Addr) (H0 : Hp) (k i : Nat) (V : WX) (ra : DA) : TE := fun σ H Q => ∃ (G : Hp) (S : Slots) (L : LamD) (j n : Nat) (C : CtX) (post : D → Prop) (px : XP), Sl K B H0 S σ G H ∧ S[i]? = some (some (.fn L)) ∧ LamCal P w K mg base L j n C ∧ j ≤ k ∧
  (ra S fun xs => C B xs post px) ∧ (∀ v d G' H', Stp K B G H G' H' → Rp K B G' H' d v → post d → Q v H') ∧ ∀ cls d fs G' H', Stp K B G H G' H' → xD K G' d fs → px cls fs → V cls d σ H'
theorem pe_callFn {i k : Nat} {V : WX} (hN : X.N[i]? = some x) (hv : Vis X.env.scope x) (tk : L2N.Takes X V) (hr : Room k X.A) (ha : PDA X B H0 (e :: es) ra) (hd : (x == ("__debug__" : Str)) = false := by decide) (hcd : (x == ("__classdict__" : Str)) = false := by decide)
    (he : starEach (e :: es) X.env = (false, eval e X.env) :: starEach es X.env := by rfl) (hpl : (backTo pos (starEach es X.env)).any (·.1) = false := by rfl) : PE X (.Call (.Name x p) (e :: es) [] pos) (tCallFn X.prog X.w X.K X.mg X.base B H0 k i V ra) := by
  refine ⟨fun pins s σ H Q I ⟨G, S, L, j, n, C, post, px, hs, hS, hL, hj, hra, hq, hx⟩ => ?_⟩
  obtain ⟨v, hσ, ⟨f, c', pm, ctv, rfl, gf, gc⟩, _⟩ := hs.slot i _ hS
  refine wpAny_Call_Name_kw (thn ((pe_var (pos := p) (i := i) hN hv hd hcd).run pins s σ H (fun v H1 => v = .ref f ∧ H1 = H) I ⟨.ref f, hσ, rfl, rfl⟩) fun u s1 ⟨v, H1, I1, r1, q1⟩ => ?_)
  obtain ⟨ev, eH⟩ := q1
  subst ev
  rw [eH] at I1
  obtain rfl : u = Value.ref f := r1
  have at_ : ∀ {pins' : List (Addr × Obj)} {σ' : L2.St} {H' : Hp} {s' : Shared}, Inv X pins' σ' H' s' → H' f = some (FunO f c' pm ctv L) → s'.heap.get? f = some (PySem.W.kla_obj "<lambda>" L.q L.params L.body L.scope [] pm c' ctv) := fun I' h' => (I'.hok f _ h').1
  refine PySem.W.callWith_F ⟨_, _, _, _, at_ I1 (hs.wd.sub _ _ gf)⟩ (thn (ha.run pos pins s1 σ H _ I1 ⟨G, S, _, hs, hra, fun vs xs G1 H1 st1 rr hc => (⟨G1, xs, st1, rr, hc⟩ : ∃ G1 xs, Stp X.K B G H G1 H1 ∧ RpAll X.K B G1 H1 xs vs ∧ C B xs post px)⟩) fun us s2 ⟨vs, H2, I2, r2, G2, xs, st2, rr, hc⟩ => ?_) he hpl
  have hf2 := at_ I2 (st2.wd.sub _ _ (st2.up _ _ gf))
  refine ⟨⟨_, _, _, _, hf2⟩, ?_⟩
  obtain ⟨⟨oc, wv, t, hoc, hdc, hvc⟩, _, _⟩ := I2.hok c' _ (st2.wd.sub _ _ (st2.up _ _ gc))
  refine wpAny_call (codeAny_mono (hL.run f c' pm ctv X.A X.stack s2 H2 us vs Q (WE V σ) (hr.mono hj) I2.env0 hf2 ⟨c', oc, wv, t, rfl, hoc, hdc, hvc⟩ r2 ⟨B, G2, xs, post, px, st2.wd, rr, hc, fun v d G' H' s3 r3 p3 => hq v d G' H' (st2.trans s3) r3 p3, fun cls d fs G' H' s3 x3 p3 => hx cls d fs G' H' (st2.trans s3) x3 p3⟩) fun r s' hr' => ?_)
  cases r with
  | error e => exact L2N.passAt tk σ pins H2 s2 e s' I2 hr'
  | ok fl =>
    cases fl with
    | ret u => exact I2.after hr'
    | next => exact False.elim hr'
    | brk => exact False.elim hr'
    | cont => exact False.elim hr'
end
end DL
/- ==== DMi ==== -/
/-! DMi: several except clauses that name the error. -/
namespace DL
open PySem PySem.Spec PyProof.Rows PySem.Calls L2 RZ
abbrev Clauses := List (Value × (Addr → Value → Option Addr → TS))
/-- the clauses one behind another, each with the error in slot i -/
def wAll (K : Kf) (i : Nat) (D : Ends) : Clauses → WX → WX
  | [], W => W
  | (c, ts) :: r, W => wAs K c i ts (wAll K i D r W) D
inductive HdsAs (X : Cx) (n : Str) : List ExceptHandler → Clauses → Prop
  | nil : HdsAs X n [] []
  | cons {x : Str} {c : Value} {ts : Addr → Value → Option Addr → TS} {b₀ : Stmt} {suite : List Stmt} {np hp : Pos} {r : List ExceptHandler} {l : Clauses} (named : Names X x c)
      (su : ∀ (a : Addr) (oe : Obj) (cls : Value) (d : Option Addr) (pn : List (Addr × Obj)), L2N.Zn cls d oe → (∃ vs, oe.data = .fields vs) → PSs (X.suite a ((a, oe) :: pn)) (b₀ :: suite) (ts a cls d)) (rest : HdsAs X n r l) :
      HdsAs X n (.ExceptHandler (some (.Name x np)) (some n) (b₀ :: suite) hp :: r) ((c, ts) :: l)
section
variable {X : Cx} {n : Str} {i : Nat} {pins : List (Addr × Obj)} {D : Ends} {a : Addr} {Gr : Heap} {cls : Value} {d : Option Addr} {sI : Shared} {σ : L2.St} {H : Hp}
/-- what holds of a landed error at the heap h: noted in the def's frame, the state aside unchanged -/
structure Landed (X : Cx) (pins : List (Addr × Obj)) (a : Addr) (Gr : Heap) (cls : Value) (d : Option Addr) (sI : Shared) (σ : L2.St) (H : Hp) (h : Heap) : Prop where
  inv : Inv X pins σ H sI
  gr : ∀ b o, sI.heap.get? b = some o → b ∉ frs X.stack → Gr.get? b = some o
  up : sI.heap.UpToSlots h
  fl : HandSPX.FlyingZ Gr (X.env :: X.outer) a (L2N.Zn cls d) h
  na : H a = none
/-- clause by clause -/
theorem clauses_run (hs : X.stack = X.env :: X.outer) (hf : X.env.frame = some X.env.locals) (hN : X.N.Nodup) (hi : X.N[i]? = some n) (hln : X.env.kindOf n = some .local) {W : WX} (tk : L2N.Takes X W) {g : Array GenState} {dr : Drawn} {tks : Nat} {os : OsState} (ho : os = sI.os) (hb : AllBare g) :
    ∀ {hds : List ExceptHandler} {l : Clauses}, HdsAs X n hds l → ∀ {h : Heap}, Landed X pins a Gr cls d sI σ H h → wAll X.K i D l W cls d σ H →
      wpAny (model X.prog X.w) X.A (handleBy (.ref a) X.env hds) (SP X pins D) X.xe ⟨h, g, dr, tks, os⟩ := by
  intro hds l hk
  induction hk with
  | nil =>
    intro h Ld w
    refine wpAny_handleBy_nil ?_
    have fl := Ld.fl
    obtain ⟨_, _, _, oe, vs, T, _, _, he, _, hd, h1, _⟩ := id fl
    unfold PySem.passOn
    refine wpAny_bind (wpAny_field he hd h1 ?_)
    rw [if_neg (show ¬ ((Value.ref T == Value.none) = true) from by simp)]
    have last : wpAny (model X.prog X.w) X.A (setFlight (.ref a) X.env.frame) (fun _ s4 => wpAny (model X.prog X.w) X.A (throw (.ref a) : Sem Flow) (SP X pins D) X.xe s4) X.xe ⟨h, g, dr, tks, os⟩ := by
      rw [hf]
      exact HandSPX.setFlight_upZ fl fun h4 held up4 => wpAny_throw (tk _ _ ⟨a, Gr, sI, pins, σ, H, cls, d, rfl, Ld.inv, Ld.gr, Ld.up.trans up4, .inr (.inr (by rw [hs]; exact held)), Ld.na, ho, hb, w⟩)
    first
      | exact wpAny_bind (wpAny_pure (wpAny_bind last))
      | exact wpAny_bind last
  | @cons x c ts b₀ suite np hp r l2 named su rest ih =>
    intro h Ld w
    obtain ⟨b, e1, yes, no⟩ := w
    have fl := Ld.fl
    have ok := Ld.inv.ok
    have J := Ld.inv.landed (s' := ⟨h, g, dr, tks, os⟩) Ld.gr fl.1 Ld.up ho hb
    obtain ⟨oe, vs, he, hz, hd⟩ := fl.there
    -- the error is none of the frames
    have away : a ∉ frs (X.env :: X.outer) := fun hm => by
      obtain ⟨_, o', e', nf⟩ := fl.2.2.1.mem hm
      rw [he] at e'; cases e'
      exact nf _ hd
    have aL : a ≠ X.env.locals := fun z => away (List.mem_filterMap.mpr ⟨X.env, List.mem_cons_self, by rw [hf, z]⟩)
    have aF : a ∉ X.fs := fun hm => by
      obtain ⟨e, q1, q2⟩ := List.mem_filterMap.mp hm
      exact away (List.mem_filterMap.mpr ⟨e, List.mem_cons_of_mem _ q1, q2⟩)
    have JS := J.suite he hd Ld.na aL aF
    refine wpAny_handleBy_cons (codeAny_handlers_test ?_) (by intro q; cases q)
    have ty : PySem.W.Looks (model X.prog X.w) h (typeOf (.ref a)) cls := fun A Q E s k q => wpAny_typeOf_ref (k _ _ he) (by rw [hz.1]; exact q)
    have look := PySem.W.exm_one (M := model X.prog X.w) J.kIn ty e1
    have asked : ∀ {Q E : Value → Shared → Prop}, Q c ⟨h, g, dr, tks, os⟩ → wpAny (model X.prog X.w) (X.A.mark (some (.ref a))) (eval (.Name x np) X.env) Q E ⟨h, g, dr, tks, os⟩ := fun {Q E} q => by
      obtain ⟨k1, k2, k3 | ⟨k3, k4, k5⟩⟩ := named
      · exact ld_glob (X := X.suite a ((a, oe) :: (X.pn ++ pins))) JS k1 k3 q k2
      · exact ld_blt (X := X.suite a ((a, oe) :: (X.pn ++ pins))) JS k1 k3 k4 q k5 k2
    refine asked (look.here ?_)
    cases b with
    | false =>
      show wpAny _ X.A (handleBy (.ref a) X.env r) _ _ _
      exact ih Ld (no rfl)
    | true =>
      refine codeAny_handlers_suite_as (HandSPX.lands_againZ fl fun h4 fl4 up4 => ?_)
      have J4 := Ld.inv.landed (s' := ⟨h4, g, dr, tks, os⟩) Ld.gr fl4.1 (Ld.up.trans up4) ho hb
      obtain ⟨oe4, vs4, he4, hz4, hd4⟩ := fl4.there
      refine store_ok (X := X.suite a ((a, oe4) :: (X.pn ++ pins))) (v := .ref a) (J4.suite he4 hd4 Ld.na aL aF) hN hi (.inl hln) rfl (fun s5 S5 => ?_) (.inr hln)
      refine wpAny_mono ((su a oe4 cls d (X.pn ++ pins) hz4 ⟨_, hd4⟩).run [] s5 _ H _ S5 (yes rfl a Ld.na)) (fun f s6 sp => ?_) fun _ _ z => False.elim z
      have out : ∀ {σ6 : L2.St} {H6 : Hp} {Q : Shared → Prop}, Inv (X.suite a ((a, oe4) :: (X.pn ++ pins))) [] σ6 H6 s6 → (∀ s7, Inv X pins (σ6.set i none) H6 s7 → Q s7) →
          wpAny (model X.prog X.w) X.A (do bindName X.env n .none; unbindBehindTheSuite X.env n hp) (fun _ s7 => Q s7) X.xe s6 := fun {σ6 H6 Q} S6 q => gone_ok (S6.unsuite ok) hN hi hln q
      cases f with
      | next => obtain ⟨σ6, H6, S6, q6⟩ := sp; exact out S6 fun s7 J7 => ⟨_, _, J7, q6⟩
      | brk => obtain ⟨σ6, H6, S6, q6⟩ := sp; exact out S6 fun s7 J7 => ⟨_, _, J7, q6⟩
      | cont => obtain ⟨σ6, H6, S6, q6⟩ := sp; exact out S6 fun s7 J7 => ⟨_, _, J7, q6⟩
      | ret u => obtain ⟨v6, σ6, H6, S6, r6, q6⟩ := sp; exact out S6 fun s7 J7 => ⟨_, _, _, J7, r6, q6⟩
variable {body : List Stmt} {h₀ : ExceptHandler} {hds : List ExceptHandler} {l : Clauses} {pos : Pos} {tb : WX → TS} {W : WX}
theorem ps_try_all (hs : X.stack = X.env :: X.outer) (hf : X.env.frame = some X.env.locals) (hN : X.N.Nodup) (hi : X.N[i]? = some n) (hln : X.env.kindOf n = some .local) (tk : L2N.Takes X W)
    (hb : ∀ (V : WX) (pn : List (Addr × Obj)) (xe : Value → Shared → Prop), L2N.Takes (X.tr pn xe) V → PSs (X.tr pn xe) body (tb V)) (hh : HdsAs X n (h₀ :: hds) l) :
    PS X (.Try body (h₀ :: hds) [] [] pos) (fun D σ H => tb (wAll X.K i D l W) D σ H) := by
  refine ⟨fun pins s σ H D I h => wpAny_Try_except ?_⟩
  have ok := I.ok
  have hfr : X.A.frames = some (X.env :: X.outer) := by rw [ok.frames, hs]
  refine wpAny_mono ((hb (wAll X.K i D l W) (X.pn ++ pins) (fun e s₁ => wpAny (model X.prog X.w) X.A (noteFrame e X.env) (fun _ s₂ => wpAny (model X.prog X.w) X.A (setFlight e none) (fun _ s₃ =>
    wpAny (model X.prog X.w) X.A (handleBy e X.env (h₀ :: hds)) (SP X pins D) X.xe s₃) X.xe s₂) X.xe s₁) (fun u s' x => ?_)).run [] s σ H D (I.toTry _) h) (fun f s1 sp => ?_) (fun e s1 he => he)
  · obtain ⟨a, Gr, sI, pins', σ', H', cls, d, rfl, J', gr, up, sky, na, os, ag, w⟩ := x
    rw [show (X.tr (X.pn ++ pins) _).stack = X.env :: X.outer from hs] at sky
    refine L2N.Sky.land L2N.Zn.steady hfr hf sky fun h3 fl3 up3 => ?_
    exact clauses_run (sI := sI) (σ := σ') (H := H') hs hf hN hi hln tk os ag hh ⟨J'.ofTry ok, gr, up.trans up3, fl3, na⟩ w
  · cases f with
    | next => obtain ⟨σ', H', J', q⟩ := sp; exact wpAny_execs_nil ⟨σ', H', J'.ofTry ok, q⟩
    | brk => obtain ⟨σ', H', J', q⟩ := sp; exact ⟨σ', H', J'.ofTry ok, q⟩
    | cont => obtain ⟨σ', H', J', q⟩ := sp; exact ⟨σ', H', J'.ofTry ok, q⟩
    | ret u => obtain ⟨v, σ', H', J', r, q⟩ := sp; exact ⟨v, σ', H', J'.ofTry ok, r, q⟩
end
end DL
/- ==== DMj ==== -/
/-! DMj: walks over lists where an error is handled (after the library's calm ones). -/
namespace DL
open PySem PySem.Spec PyProof.Rows PySem.Calls L2 RZ HotX L2H
section
variable {prog : Program} {w : World} {A : Around} {E : Value → Shared → Prop} {s : Shared}
/-- the next of a list's iterator that is through -/
theorem list_end_hot {it l x1 : Addr} {i : Nat} {items : Array Value} {Q : Option Value → Shared → Prop} (hot : HotAt A x1 s.heap) (ne : x1 ≠ it)
    (hit : s.heap.IsListIter it l i) (hl : s.heap.IsList l items) (hx : items[i]? = none)
    (hQ : ∀ h', Heap.ExtBut it s.heap h' → Q none { s with heap := h' }) : wpAny (model prog w) A (pyNext (.ref it)) Q E s := by
  obtain ⟨hh, o1, w1, g1, d1, c1⟩ := hot
  obtain ⟨o, ho, hc, hd⟩ := id hit
  obtain ⟨ol, hol, _, nl, hdl⟩ := hl
  unfold pyNext
  refine wpAny_bind (wpAny_attempt (wpAny_callSpecial?_slot (name := Str.ofString "__next__") hit.typeIs slot_listiter_next
    (wpAny_call_entry slot_listiter_next hit.typeIs entry_listiter_next ?_ (args_listiter_next _))))
  show wpAny _ _ (field (.ref it) 0 >>= _) _ _ s
  refine wpAny_bind (wpAny_field ho hd (x := .ref l) rfl ?_)
  show wpAny _ _ (if (Value.ref l == Value.none) = true then _ else _) _ _ s
  rw [if_neg (show ¬ ((Value.ref l == Value.none) = true) from Bool.false_ne_true)]
  show wpAny _ _ (field (.ref it) 1 >>= _) _ _ s
  refine wpAny_bind (wpAny_field ho hd (x := .int i 0) rfl ?_)
  show wpAny _ _ (seqItems? (.ref l) >>= _) _ _ s
  refine wpAny_bind (wpAny_seqItems hol hdl ?_)
  simp only [Int.toNat_natCast, hx]
  refine wpAny_bind (wpAny_rule (wpAny_bind (wpAny_setField ho hd (by simp) ?_)))
  have g2 : (s.heap.update it (Obj.mapFields (·.setIfInBounds 0 Value.none))).get? x1 = some o1 := (Heap.get?_update_other _ _ (Ne.symm ne)).trans g1
  show wpAny _ _ (newExc (.type "StopIteration") [] >>= _) _ _ _
  refine wpAny_bind ?_
  simp only [newExc, newTuple]
  refine wpAny_bind (wpAny_newObj_type ?_ (by size_fits))
  refine wpAny_bind (m := firstArgMember _ _) (wpAny_of_eq (a := Value.none) (by first | rfl | (simp only [firstArgMember]; rfl)) ?_)
  refine wpAny_newObj_type ?_ (by size_fits)
  refine raiseNew_hot ⟨hh, o1, w1, Heap.get?_push_of_some _ (Heap.get?_push_of_some _ g2), d1, c1⟩ (Nat.ne_of_lt (Heap.lt_size (Heap.get?_push_of_some _ g2))) (Heap.get?_push_size _ rfl) rfl (by first | (simp; done) | (simp; omega) | (simp only [Array.size_append]; simp; omega)) ?_
  refine wpAny_bind (wpAny_isInstance (T := "StopIteration") (b := true) ⟨_, Heap.get?_update_self _ (Heap.get?_push_size _ rfl) rfl, rfl⟩ isSubtype_stop ?_)
  refine wpAny_pure (hQ _ fun b o hb e => ?_)
  have e1 : (s.heap.update it (Obj.mapFields (·.setIfInBounds 0 Value.none))).get? b = some o := (Heap.get?_update_other _ _ (Ne.symm hb)).trans e
  have e3 : ∀ O : Obj, ((s.heap.update it (Obj.mapFields (·.setIfInBounds 0 Value.none))).push O).get? b = some o := fun O => Heap.get?_push_of_some _ e1
  rw [Heap.get?_update_other _ _ (Nat.ne_of_gt (Heap.lt_size (e3 _)))]
  exact Heap.get?_push_of_some _ (e3 _)
/-- the next of a tuple's iterator that is through -/
theorem tup_end_hot {it t x1 : Addr} {i : Nat} {items : Array Value} {Q : Option Value → Shared → Prop} (hot : HotAt A x1 s.heap) (ne : x1 ≠ it)
    (hit : IsTupIter s.heap it t i) (ht : IsTup s.heap t items) (hx : items[i]? = none)
    (hQ : ∀ h', Heap.ExtBut it s.heap h' → Q none { s with heap := h' }) : wpAny (model prog w) A (pyNext (.ref it)) Q E s := by
  obtain ⟨hh, o1, w1, g1, d1, c1⟩ := hot
  obtain ⟨o, ho, hc, hd⟩ := id hit
  obtain ⟨ol, hol, _, nl, hdl⟩ := ht
  unfold pyNext
  refine wpAny_bind (wpAny_attempt (wpAny_callSpecial?_slot (name := Str.ofString "__next__") hit.typeIs slot_tupleiter_next
    (wpAny_call_entry slot_tupleiter_next hit.typeIs entry_tupleiter_next ?_ (args_tupleiter_next _))))
  show wpAny _ _ (field (.ref it) 0 >>= _) _ _ s
  refine wpAny_bind (wpAny_field ho hd (x := .ref t) rfl ?_)
  show wpAny _ _ (if (Value.ref t == Value.none) = true then _ else _) _ _ s
  rw [if_neg (show ¬ ((Value.ref t == Value.none) = true) from Bool.false_ne_true)]
  show wpAny _ _ (field (.ref it) 1 >>= _) _ _ s
  refine wpAny_bind (wpAny_field ho hd (x := .int i 0) rfl ?_)
  show wpAny _ _ (seqItems? (.ref t) >>= _) _ _ s
  refine wpAny_bind (wpAny_seqItems hol hdl ?_)
  simp only [Int.toNat_natCast, hx]
  refine wpAny_bind (wpAny_rule (wpAny_bind (wpAny_setField ho hd (by simp) ?_)))
  have g2 : (s.heap.update it (Obj.mapFields (·.setIfInBounds 0 Value.none))).get? x1 = some o1 := (Heap.get?_update_other _ _ (Ne.symm ne)).trans g1
  show wpAny _ _ (newExc (.type "StopIteration") [] >>= _) _ _ _
  refine wpAny_bind ?_
  simp only [newExc, newTuple]
  refine wpAny_bind (wpAny_newObj_type ?_ (by size_fits))
  refine wpAny_bind (m := firstArgMember _ _) (wpAny_of_eq (a := Value.none) (by first | rfl | (simp only [firstArgMember]; rfl)) ?_)
  refine wpAny_newObj_type ?_ (by size_fits)
  refine raiseNew_hot ⟨hh, o1, w1, Heap.get?_push_of_some _ (Heap.get?_push_of_some _ g2), d1, c1⟩ (Nat.ne_of_lt (Heap.lt_size (Heap.get?_push_of_some _ g2))) (Heap.get?_push_size _ rfl) rfl (by first | (simp; done) | (simp; omega) | (simp only [Array.size_append]; simp; omega)) ?_
  refine wpAny_bind (wpAny_isInstance (T := "StopIteration") (b := true) ⟨_, Heap.get?_update_self _ (Heap.get?_push_size _ rfl) rfl, rfl⟩ isSubtype_stop ?_)
  refine wpAny_pure (hQ _ fun b o hb e => ?_)
  have e1 : (s.heap.update it (Obj.mapFields (·.setIfInBounds 0 Value.none))).get? b = some o := (Heap.get?_update_other _ _ (Ne.symm hb)).trans e
  have e3 : ∀ O : Obj, ((s.heap.update it (Obj.mapFields (·.setIfInBounds 0 Value.none))).push O).get? b = some o := fun O => Heap.get?_push_of_some _ e1
  rw [Heap.get?_update_other _ _ (Nat.ne_of_gt (Heap.lt_size (e3 _)))]
  exact Heap.get?_push_of_some _ (e3 _)
/-- a tuple taken apart -/
theorem unpack_hot {t x1 : Addr} {items : Array Value} {targets : List (Bool × (Value → Sem Unit))} {Q : Unit → Shared → Prop} (hot : HotAt A x1 s.heap) (ht : IsTup s.heap t items)
    (hn : targets.length = items.size) (hstar : targets.findIdx? (·.1) = none)
    (h : ∀ h', Heap.ExtBut s.heap.objs.size s.heap h' → wpAny (model prog w) A (assignInOrder (targets.map (·.2)) items.toList) Q E { s with heap := h' }) : wpAny (model prog w) A (unpack (.ref t) targets) Q E s := by
  obtain ⟨hh, o1, w1, g1, d1, c1⟩ := hot
  have lt1 := Heap.lt_size g1
  have nt : t ≠ s.heap.objs.size := by obtain ⟨o, ho, _⟩ := ht; exact Nat.ne_of_lt (Heap.lt_size ho)
  unfold unpack
  rw [hn, hstar]
  refine wpAny_bind (wpAny_holding ?_)
  unfold unpackItems
  refine wpAny_bind ?_
  unfold notIterableAtAll
  refine wpAny_bind (wpAny_specialOf ht.typeIs slot_tuple_iter.lookup (wpAny_pure ?_))
  simp only [Bool.false_eq_true, if_false]
  refine wpAny_bind (wpAny_holding (iter_tuple ht ?_))
  refine wpAny_bind (wpAny_holding (draw_tuple nt items.size 0 _ _ ⟨_, Heap.get?_push_size _ rfl, rfl, rfl⟩ (ht.push _) (by omega) fun h₁ hit₁ hs₁ => ?_))
  have all_ : List.take items.size (List.drop 0 items.toList) = items.toList := by
    rw [List.drop_zero]; exact List.take_of_length_le (by simp)
  rw [all_, if_neg (by simp)]
  have g2 : h₁.get? x1 = some o1 := hs₁.extBut x1 o1 (Nat.ne_of_lt lt1) (Heap.get?_push_of_some _ g1)
  refine wpAny_bind (wpAny_holding (tup_end_hot ⟨hh, o1, w1, g2, d1, c1⟩ (Nat.ne_of_lt lt1) hit₁ ((ht.push _).extBut hs₁.extBut nt) (by simp) fun h₂ he₂ => ?_))
  simp only [Option.isSome_none, Bool.false_eq_true, if_false]
  exact wpAny_pure (h h₂ fun b o hb e => he₂ b o hb (hs₁.extBut b o hb (Heap.get?_push_of_some _ e)))
end
/-- wherever the def's state holds, the handled error has no context -/
def HotI (X : Cx) : Prop := ∀ (pins : List (Addr × Obj)) (σ : L2.St) (H : Hp) (s : Shared), Inv X pins σ H s → ∃ x1, HotAt X.A x1 s.heap ∧ H x1 = none
section
variable {X : Cx} {B : List Addr} {H0 : Hp}
theorem pg_tupH {es : List Expr} {k : Nat} {t : TGs} {n : Nat} {pos : Pos} (hot : HotI X) (h : PGs X es t)
    (hn : (assignEach es X.env).length = n := by rfl) (hst : (assignEach es X.env).findIdx? (·.1) = none := by rfl) : PG X (.Tuple es k pos) (gTup X.K n t) := by
  refine ⟨fun pins s σ H v u Q I r ⟨a, xs, e1, hq, hl, hw⟩ => ?_⟩
  subst e1
  cases r
  obtain ⟨its, rv, ht, hz⟩ := I.tuple hq
  obtain ⟨x1, hx1, _⟩ := hot pins σ H s I
  rw [assign_Tuple]
  refine wpAny_bind (wpAny_standAt (unpack_hot hx1 ht (by simp [hn, ← hl, rv.length]) hst fun h' hx => ?_))
  have I1 : Inv X pins σ H { s with heap := h' } := I.kept (t' := s.toks) fun b o e => hx b o (Nat.ne_of_lt (Heap.lt_size e)) e
  exact h.run pins _ σ H xs _ Q I1 (by simpa using rv) hw
theorem pdg_tupH {es : List Expr} {k : Nat} {r : DGs} {n : Nat} {is : List Nat} {pos : Pos} (hot : HotI X) (h : PDGs X B H0 is es r) (hn : ∀ {ds S post}, r ds S post → ds.length = n)
    (ha : (assignEach es X.env).length = n := by rfl) (hst : (assignEach es X.env).findIdx? (·.1) = none := by rfl) : PDG X B H0 is (.Tuple es k pos) (dgTup r) := PGmono (pg_tupH hot h ha hst) fun v σ H Q ⟨G, S, d, post, hs, hd, hg, hq⟩ => by
  unfold dgTup at hg
  split at hg
  · cases hd with
    | tup t1 t2 => exact ⟨_, _, rfl, SqT.up hs.wd.sub t1, by rw [t2.length]; exact hn hg, G, S, _, post, hs, t2, hg, hq⟩
  · exact hg.elim
end
/-- a list is walked -/
structure PIL (X : Cx) (iter : Expr) (wi : TI) : Prop where
  run : ∀ (pins : List (Addr × Obj)) (s : Shared) (σ : L2.St) (H : Hp) (R : It → Hp → Prop), Inv X pins σ H s → wi σ H R →
    wpAny (model X.prog X.w) X.A (eval iter X.env) (fun v s1 => ∃ (l : Addr) (H' : Hp), v = .ref l ∧ Inv X pins σ H' s1 ∧ (∃ xs, SqL X.K H' l xs) ∧ R (Itl X.K l) H') X.xe s
theorem pil_list {X : Cx} {e : Expr} {te : TE} (h : PE X e te) : PIL X e (iList X.K te) := ⟨fun pins s σ H R I hw => thn (h.run pins s σ H _ I hw) fun v s1 ⟨x, H1, I1, r1, a, e, hq, q⟩ => by
  subst e
  cases r1
  exact ⟨a, H1, rfl, I1, hq, q⟩⟩
section
variable {X : Cx} {elt tg iter : Expr} {ifs : List Expr} {scope : Scope} {own : List (Str × Nat)} {pos : Pos} {wi : TI} {g : TG} {tt : TT} {te : TE}
theorem pe_lcH (a : Addr) (oe : Obj) (hpin : (a, oe) ∈ X.pn) (hmark : Hot1 X.A (a, oe)) (hN : X.N.Nodup) (hi : PIL X iter wi) (ok : BlkOk X.N X.env.scope scope own)
    (hg : ∀ (s : Shared) (H : Hp) (C : Addr) (cl : List (Str × Addr)) (fp : List Addr), HotI (X.blk s H scope (compEnvC scope cl C X.env) fp) → PG (X.blk s H scope (compEnvC scope cl C X.env) fp) tg g)
    (ht : ∀ (s : Shared) (H : Hp) (C : Addr) (cl : List (Str × Addr)) (fp : List Addr), PTs (X.blk s H scope (compEnvC scope cl C X.env) fp) ifs tt)
    (he : ∀ (s : Shared) (H : Hp) (C : Addr) (cl : List (Str × Addr)) (fp : List Addr), PE (X.blk s H scope (compEnvC scope cl C X.env) fp) elt te) (hs : ∀ x, foldedSetIterable iter X.env x = pure x := by intro _; rfl) :
    PE X (.ListComp elt [⟨tg, iter, ifs, 0⟩] scope pos) (tLc wi g tt te (own.map (·.2))) := by
  refine ⟨fun pins s σ H Q I h => ?_⟩
  rw [eval_ListComp]
  have hfree : ∀ y ∈ scope.names, y.2 = .free → ∃ c, X.env.cells.lookup y.1 = some c := fun y hy e => (ok.free y hy e).elim (fun k => I.ok.has _ (.inl k)) fun k => I.ok.has _ (.inr k)
  refine wpAny_comprehension_free (use := none) rfl hs (closure_ok hfree) ok.kind (fun y hy e => by rw [ok.uniq y hy, e]) (thn (hi.run pins s σ H _ I h) fun v s1 ⟨l, H1, ev, I1, ⟨xs0, hq0⟩, q⟩ => ?_)
  subst ev
  obtain ⟨its0, rv0, pl0, _⟩ := I1.list hq0
  refine wpAny_pyIter_list pl0.isList ?_
  generalize hit : s1.heap.objs.size = it
  generalize hs2 : ({ s1 with heap := s1.heap.push { cls := .type "list_iterator", data := .fields #[.ref l, .int 0 0] } } : Shared) = s2
  have I2 : Inv X pins σ H1 s2 := by rw [← hs2]; exact I1.kept (t' := s1.toks) fun b o e => Heap.get?_push_of_some _ e
  have i2 : s2.heap.IsListIter it l 0 := by rw [← hs2, ← hit]; exact ⟨_, Heap.get?_push_size _ rfl, rfl, rfl⟩
  have F2 : FpOk X pins H1 it := I1.fpOk (Nat.le_of_eq hit) (I1.hok.fresh (Nat.le_of_eq hit))
  refine wpAny_newObj_type (newEnv_comp ?_) (by show 0 ≤ sizeLine; decide)
  generalize hD : s2.heap.objs.size = D
  have hDn : H1 D = none := I2.hok.fresh (Nat.le_of_eq hD)
  obtain ⟨W, ⟨m0, w0⟩, turn⟩ := q D hDn
  generalize hs3 : ({ s2 with heap := s2.heap.push { cls := .type "list", data := .seq ([] : List Value).toArray } } : Shared) = s3
  have h3 : s3.heap = s2.heap.push { cls := .type "list", data := .seq ([] : List Value).toArray } := by rw [← hs3]
  have I3 : Inv X pins σ (upd H1 D (.lst [])) s3 := by
    rw [← hs3]
    refine I2.laid (t' := s2.toks) (fun b o e => Heap.get?_push_of_some _ e) (Nat.le_of_eq hD) ⟨Nat.zero_le _, [], 0, .nil, ?_⟩
    rw [← hD]
    exact Heap.get?_push_size _ rfl
  have lt2 : it < s2.heap.objs.size := by obtain ⟨o, e, _⟩ := i2; exact Heap.lt_size e
  have i3 : s3.heap.IsListIter it l 0 := by
    obtain ⟨o, e1, e2, e3⟩ := i2
    exact ⟨o, by rw [h3]; exact Heap.get?_push_of_some _ e1, e2, e3⟩
  have F3 : ∀ b ∈ [it], FpOk X pins (upd H1 D (.lst [])) b ∧ b < s3.heap.objs.size := fun b hb => by
    obtain rfl : b = it := by simpa using hb
    exact ⟨⟨by rw [upd_ne (by rw [← hD]; exact Nat.ne_of_lt lt2)]; exact F2.1, F2.2⟩, by rw [h3, Heap.size_push]; exact Nat.lt_succ_of_lt lt2⟩
  -- the handled error
  obtain ⟨pa1, pa2, _⟩ := I3.pin (a, oe) (List.mem_append_left _ hpin)
  have ait : a ≠ it := (F3 it (by simp)).1.2.2.2.2.2 (a, oe) (List.mem_append_left _ hpin)
  have I4 := block_start I3 ok hN F3
  have aS : a ∉ frs X.stack := fun z => by
    obtain ⟨_, _, k1, k2, _⟩ := I3.pin (a, oe) (List.mem_append_left _ hpin)
    exact (List.mem_cons.mp (I3.stkSub _ z)).elim k1 k2
  generalize hce : compEnvC scope (cellsFrom (s3.heap.objs.size + 1) scope.names (cloFrom X.env.cells scope.names [])) s3.heap.objs.size X.env = ce at I4
  have hotB : HotI (X.blk s3 (upd H1 D (.lst [])) scope ce [it]) := fun pins' σ' H' s' J => by
    have k1 : s'.heap.get? a = some oe := J.base.keep a oe pa1 pa2 aS (by simpa using ait)
    obtain ⟨m1, vs, m2, m3⟩ := hmark
    exact ⟨a, ⟨m1, oe, vs, k1, m2, m3⟩, J.base.free a oe pa1 pa2 (by simpa using ait)⟩
  have pg := hg s3 (upd H1 D (.lst [])) s3.heap.objs.size (cellsFrom (s3.heap.objs.size + 1) scope.names (cloFrom X.env.cells scope.names [])) [it]
  have pt := ht s3 (upd H1 D (.lst [])) s3.heap.objs.size (cellsFrom (s3.heap.objs.size + 1) scope.names (cloFrom X.env.cells scope.names [])) [it]
  have pe := he s3 (upd H1 D (.lst [])) s3.heap.objs.size (cellsFrom (s3.heap.objs.size + 1) scope.names (cloFrom X.env.cells scope.names [])) [it]
  rw [hce] at pg pt pe
  replace pg := pg hotB
  have cL : ce.locals = s3.heap.objs.size := by subst hce; rfl
  show codeAny _ _ (.compStart (.ListComp elt [⟨tg, iter, ifs, 0⟩] scope pos) 0 (.ref it) (.ref D) (compEnvC scope (cellsFrom (s3.heap.objs.size + 1) scope.names (cloFrom X.env.cells scope.names [])) s3.heap.objs.size X.env)) (compPost (model X.prog X.w) X.A X.xe none _ (.ref D) s3.heap.objs.size) _
  rw [hce]
  have itF : (upd H1 D (.lst [])) it = none := (F3 it (by simp)).1.1
  generalize hH3 : upd H1 D (.lst []) = H3 at *
  generalize hs4 : ({ s3 with heap := pushCells (s3.heap.push { cls := .type "dict", data := .dict #[] }) scope.names } : Shared) = s4 at I4 ⊢
  have at_ : ∀ {h h' : Heap} {i : Nat}, h.IsListIter it l i → (∀ o, h.get? it = some o → h'.get? it = some o) → h'.IsListIter it l i := fun {h h' i} ⟨o, e1, e2, e3⟩ k => ⟨o, k o e1, e2, e3⟩
  have i4 : s4.heap.IsListIter it l 0 := at_ i3 fun o e => by rw [← hs4]; exact pushCells_keeps _ _ _ _ (Heap.get?_push_of_some _ e)
  have okp : ∀ {σ' : L2.St} {H' : Hp} {s' : Shared}, Inv (X.blk s3 H3 scope ce [it]) [] σ' H' s' → H' it = none → FpOk (X.blk s3 H3 scope ce [it]) [] H' it := fun {σ' H' s'} J n =>
    ⟨n, (J.ok.exf it (by simp)).1, J.ok.exfs it (by simp), .inl (by simp), fun x c e => (J.ok.exf it (by simp)).2 x c e, fun p hp => absurd (show p ∈ ([] : List (Addr × Obj)) ++ [] from hp) (by simp)⟩
  have loop : codeAny (model X.prog X.w) X.A (.compLoop (.ListComp elt [⟨tg, iter, ifs, 0⟩] scope pos) 0 (.ref it) (.ref D) ce) (compPost (model X.prog X.w) X.A X.xe none (EP X pins σ Q) (.ref D) s3.heap.objs.size) s4 := by
    refine compLoop_any (fun n s' => ∃ i H', Inv (X.blk s3 H3 scope ce [it]) [] (L2.wipe σ (own.map (·.2))) H' s' ∧ s'.heap.IsListIter it l i ∧ H' it = none ∧ W i n H') ?_ m0 ⟨0, H3, I4, i4, itF, w0⟩
    rintro n s5 ⟨i, H5, I5, st5, n5, w5⟩
    obtain ⟨f0, f1, f2, f3, f4, f5⟩ := okp I5 n5
    obtain ⟨x1, hx1, hx2⟩ := hotB _ _ _ _ I5
    rcases turn i n H5 w5 with ⟨⟨xs, hq, hle⟩, qq⟩ | ⟨⟨xs, x, hq, hx⟩, Nx, hNx, step⟩
    · obtain ⟨its, rv, pl, _⟩ := I5.list hq
      have hl := rv.length
      have x1it : x1 ≠ it := fun z => by
        obtain ⟨o, e1, e2, e3⟩ := st5
        obtain ⟨_, o1, w1, g1, d1, c1⟩ := hx1
        rw [z, e1] at g1; cases g1
        rw [e3] at d1; cases d1
        cases c1
      refine list_end_hot hx1 x1it st5 pl.isList (by simp; omega) fun h' eb => ?_
      have I6 : Inv (X.blk s3 H3 scope ce [it]) [] (L2.wipe σ (own.map (·.2))) H5 { s5 with heap := h' } := I5.turned (t' := s5.toks) (fun b o hb e => eb b o hb e) f0 f1 f3 f4 f5
      have I7 : Inv X pins σ H5 { s5 with heap := h' } := I3.call' (ch := [it]) I6.os I6.base I6.hok I6.bare fun b hb => ⟨(F3 b hb).1.2.2.2.1, (F3 b hb).1.2.1, (F3 b hb).1.2.2.2.2.1, (F3 b hb).1.2.2.2.2.2⟩
      have nC : H5 s3.heap.objs.size = none := by
        have z : H5 ce.locals = none := I6.free
        rw [cL] at z
        exact z
      obtain ⟨m, hn, _⟩ := I6.loc
      have hn : Heap.Ns h' ce.locals m := hn
      rw [cL] at hn
      refine ⟨m, hn, fun h'' sb => ?_⟩
      obtain ⟨g0, g1, g2, g3, g4, g5⟩ := I3.fpOk (H' := H5) (Nat.le_refl _) nC
      exact ⟨.ref D, H5, I7.turned (t' := s5.toks) (fun b o hb e => (sb.2 b hb).trans e) g0 g1 g3 g4 g5, rfl, qq⟩
    · obtain ⟨its, rv, pl, _⟩ := I5.list hq
      obtain ⟨u, hu, ru⟩ := rv.get hx
      refine wpAny_pyNext_list_item st5 pl.isList (x := u) (by simpa using hu) fun h' st' sb => ?_
      have I7 : Inv (X.blk s3 H3 scope ce [it]) [] (L2.wipe σ (own.map (·.2))) H5 { s5 with heap := h' } := I5.turned (t' := s5.toks) (fun b o hb e => (sb.2 b hb).trans e) f0 f1 f3 f4 f5
      obtain ⟨o, e1, e2, e3⟩ := id st'
      refine go_of (s := { s5 with heap := h' }) e1 e2 e3 (by decide) ?_
      have I8 := I7.pinned (fp := [it]) (fun b hb => by obtain rfl : b = it := by simpa using hb
                                                        exact okp I7 n5) (fun b hb => by
        obtain rfl : b = it := by simpa using hb
        exact ⟨o, e1, fun v z => by rw [e3] at z; cases z⟩)
      refine thnF (pg.run _ _ _ H5 x u _ I8 ru (step x H5 ⟨rfl, fun ys hy => by rw [I5.list_inj hy hq]; exact hx⟩)) fun _ s8 ⟨σ8, H8, J8, hw8, q8⟩ => ?_
      refine thnF (pt.run _ s8 σ8 H8 _ J8 q8) fun b s9 ⟨H9, J9, q9⟩ => ?_
      have fin : ∀ {s' : Shared} {H' : Hp}, Inv (X.blk s3 H3 scope ce [it]) ([] ++ pinsAt [it] h') σ8 H' s' → Nx H' → ∃ m, m < n ∧ ∃ i H', Inv (X.blk s3 H3 scope ce [it]) [] (L2.wipe σ (own.map (·.2))) H' s' ∧ s'.heap.IsListIter it l i ∧ H' it = none ∧ W i m H' := fun {s' H'} J nx => by
        obtain ⟨m', hm, w'⟩ := hNx H' nx
        have pit := J.pin (it, o) (List.mem_append_right _ (List.mem_append_right _ (mem_pinsAt (by simp) e1)))
        refine ⟨m', hm, i + 1, H', (J.unpinned (pins := [])).weak (by rw [← hw8, wipe_length]) (fun j v e => ?_), ⟨o, pit.1, e2, e3⟩, pit.2.1, w'⟩
        rw [← hw8] at e
        exact (wipe_some e).1
      cases b with
      | false =>
        simp only [Bool.false_eq_true, if_false] at q9 ⊢
        exact fin J9 q9
      | true =>
        simp only [if_true] at q9 ⊢
        refine thnF (pe.run _ s9 σ8 H9 _ J9 q9) fun z s10 ⟨yv, H10, J10, r10, acc, hD10, hz10, nx⟩ => ?_
        exact app_ok (X := X.blk s3 H3 scope ce [it]) J10 hD10 hz10 r10 fun s11 J11 => fin J11 nx
  exact codeAny_compStart_list loop (wpAny_pyIter_listiter i4 loop)
end
end DL
/- ==== DMk ==== -/
/-! DMk: a lambda called in a try, its errors asked in the clauses, over data. -/
namespace DL
open PySem PySem.Spec PyProof.Rows PySem.Calls L2 RZ HotX L2H
section
variable {X : Cx} {B : List Addr} {H0 : Hp} {e : Expr} {de : DE}
theorem PILmono {t t' : TI} (h : PIL X e t) (m : ∀ σ H R, t' σ H R → t σ H R) : PIL X e t' := ⟨fun pins s σ H R I q => h.run pins s σ H R I (m σ H R q)⟩
theorem pdil (h : PD X B H0 e de) : PIL X e (lI X.K B H0 (diL de)) := PILmono (pil_list h) fun σ H R ⟨G, S, post, hs, hd, hq⟩ => ⟨G, S, _, hs, hd, fun v d G' H' s r p => by
  split at p
  · cases r with
    | lst h1 h2 => exact ⟨_, rfl, ⟨_, SqL.of (s.wd.sub _ _ h1)⟩, hq _ _ G' H' s (itd_list h1 h2) p⟩
  · exact p.elim⟩
theorem pd_lcH {elt tg iter : Expr} {ifs : List Expr} {scope : Scope} {own : List (Str × Nat)} {is : List Nat} {pos : Pos} {di : DE} {g : DG} {t : DT} {el : DE} {a : Addr} {oe : Obj} (hpin : (a, oe) ∈ X.pn) (hmark : Hot1 X.A (a, oe)) (hN : X.N.Nodup) (hi : PD X B H0 iter di) (ok : BlkOk X.N X.env.scope scope own)
    (hg : ∀ (s : Shared) (H : Hp) (C : Addr) (cl : List (Str × Addr)) (fp : List Addr), HotI (X.blk s H scope (compEnvC scope cl C X.env) fp) → PDG (X.blk s H scope (compEnvC scope cl C X.env) fp) B H0 is tg g) (ht : ∀ (s : Shared) (H : Hp) (C : Addr) (cl : List (Str × Addr)) (fp : List Addr), PTs (X.blk s H scope (compEnvC scope cl C X.env) fp) ifs (lT X.K B H0 t))
    (he : ∀ (s : Shared) (H : Hp) (C : Addr) (cl : List (Str × Addr)) (fp : List Addr), PD (X.blk s H scope (compEnvC scope cl C X.env) fp) B H0 elt el) (hio : ∀ j, j ∈ is → j ∈ own.map (·.2) := by decide) (hs : ∀ x, foldedSetIterable iter X.env x = pure x := by intro _; rfl) :
    PD X B H0 (.ListComp elt [⟨tg, iter, ifs, 0⟩] scope pos) (dLc (diL di) g t el (own.map (·.2))) := PEmono (pe_lcH a oe hpin hmark hN (pdil hi) ok hg ht he hs) fun _ _ _ h => lc_lift hio h
/-- a class of the module by its name -/
theorem pd_cls {x : Str} {C : Addr} {pos : Pos} (hg : Gl X x) (hm : X.mg x = some (.ref C)) (hd : (x == ("__debug__" : Str)) = false := by decide) : PD X B H0 (.Name x pos) (dC (.raw (.ref C))) :=
  PEmono (pe_glob (v := .ref C) hg hm rfl hd) fun σ H Q ⟨G, S, post, hs, h, hq⟩ => hq _ (.raw (.ref C)) G H (Stp.refl hs.wd) rfl h
end
/-! ### isinstance(e, C), e the error at hand -/
def fIsE (K : Kf) (Dc a : Addr) : List D → (D → Prop) → Prop := fun xs post => match xs with
  | [.raw (.ref b), .raw (.ref c)] => b = a ∧ ∃ k, PySem.W.kitOne K (.ref Dc) (.ref c) = some k ∧ post (.py (.bool k))
  | [.raw (.ref b), .raw (.ty n)] => b = a ∧ ∃ k, PySem.W.kitOne K (.ref Dc) (.type n) = some k ∧ post (.py (.bool k))
  | _ => False
theorem cd_isE {K : Kf} {B : List Addr} {Dc a : Addr} : CallD K B (rIsE K Dc a) (fIsE K Dc a) := fun G H xs dxs post Q w r hf hq => by
  unfold fIsE at hf
  split at hf
  · cases r with
    | cons r1 rn =>
      cases rn with
      | cons r2 rn =>
        cases rn
        obtain ⟨rfl, k, h1, h2⟩ := hf
        cases r1; cases r2
        exact ⟨_, _, k, rfl, fun u h => h, h1, stay w hq (.bl _) h2⟩
  · cases r with
    | cons r1 rn =>
      cases rn with
      | cons r2 rn =>
        cases rn
        obtain ⟨rfl, k, h1, h2⟩ := hf
        cases r1; cases r2
        exact ⟨_, _, k, rfl, fun u h => h, h1, stay w hq (.bl _) h2⟩
  · exact hf.elim
section
variable {X : Cx} {B : List Addr} {H0 : Hp} {e c : Expr} {de dc : DE} {p pos : Pos} {a Dc : Addr} {oe : Obj} {pn : List (Addr × Obj)}
theorem pd_isE (T : Bl X.mg) (C : ExcC X.K Dc) (hz : L2N.Zn (.ref Dc) none oe) (hf : ∃ vs, oe.data = .fields vs) (he : PD (X.suite a ((a, oe) :: pn)) B H0 e de) (hc : PD (X.suite a ((a, oe) :: pn)) B H0 c dc) (hg : Gl X "isinstance" := by rfl)
    (s1 : starEach [e, c] X.env = (false, eval e X.env) :: starEach [c] X.env := by rfl) (s2 : starEach [c] X.env = (false, eval c X.env) :: starEach [] X.env := by rfl) (hpl : (backTo pos (starEach [c] X.env)).any (·.1) = false := by rfl) :
    PD (X.suite a ((a, oe) :: pn)) B H0 (.Call (.Name "isinstance" p) [e, c] [] pos) (dCB (fIsE X.K Dc a) (dCons de (dCons dc dNil))) :=
  pd_callB (X := X.suite a ((a, oe) :: pn)) (call_isE C hz.zc hf) cd_isE hg T.isinstance bo_isinstance (pda_cons he (pda_cons hc pda_nil s2) s1) (by decide) (by decide) s1 hpl
end
/-! ### try: x(..) / except C1 as n: .. / except C2 as n: .. -/
theorem pss_none {X : Cx} {b : List Stmt} : PSs X b (fun _ _ _ => False) := ⟨fun _ _ _ _ _ _ h => h.elim⟩
def slotEnd (i : Nat) (E : DEnds) : DEnds := { nx := fun S' => E.nx (S'.set i none), rt := E.rt, bk := fun S' => E.bk (S'.set i none), ct := fun S' => E.ct (S'.set i none) }
theorem nones_takes {X : Cx} : L2N.Takes X (fun _ _ _ _ => False) := fun _ _ ⟨_, _, _, _, _, _, _, _, _, _, _, _, _, _, _, _, z⟩ => z.elim
def dTryFn (P : Program) (w : World) (K : Kf) (mg : Str → Option Value) (base : Heap) (B : List Addr) (k ic i : Nat) (C1 C2 : Addr) (ra : DA) (su : Addr → Addr → DS) : DS := fun E S => ∃ (L : LamD) (j n : Nat) (C : CtX) (px : XP), S[ic]? = some (some (.fn L)) ∧ LamCal P w K mg base L j n C ∧ j ≤ k ∧
  (ra S fun xs => C B xs (fun _ => E.nx S) px) ∧ ∀ cls fs, px cls fs → fs = [] ∧ ∃ Dc, cls = .ref Dc ∧ ExcC K Dc ∧ PySem.W.exmOne K cls (.ref C1) = some false ∧ PySem.W.exmOne K cls (.ref C2) = some true ∧ ∀ a, su a Dc (slotEnd i E) (S.set i (some (.raw (.ref a))))
section
variable {X : Cx} {B : List Addr} {H0 : Hp} {e : Expr} {es : List Expr} {ra : DA} {x x1 x2 n : Str} {C1 C2 : Addr} {i ic k : Nat} {b₁ b₂ : Stmt} {s1 s2 : List Stmt} {su : Addr → Addr → DS} {p np1 np2 hp1 hp2 pos pos2 pos3 : Pos}
theorem psd_tryFn (hst : X.stack = X.env :: X.outer) (hf : X.env.frame = some X.env.locals) (hN : X.N.Nodup) (hi : X.N[i]? = some n) (hln : X.env.kindOf n = some .local) (c1 : Names X x1 (.ref C1)) (c2 : Names X x2 (.ref C2))
    (hNc : X.N[ic]? = some x) (hv : Vis X.env.scope x) (hr : Room k X.A) (ha : ∀ pn xe, PDA (X.tr pn xe) B H0 (e :: es) ra)
    (hsu : ∀ (a : Addr) (oe : Obj) (Dc : Addr) (pn : List (Addr × Obj)), L2N.Zn (.ref Dc) none oe → (∃ vs, oe.data = .fields vs) → ExcC X.K Dc → PDSs (X.suite a ((a, oe) :: pn)) B H0 (b₂ :: s2) (su a Dc))
    (hd : (x == ("__debug__" : Str)) = false := by decide) (hcd : (x == ("__classdict__" : Str)) = false := by decide)
    (he : starEach (e :: es) X.env = (false, eval e X.env) :: starEach es X.env := by rfl) (hpl : (backTo pos (starEach es X.env)).any (·.1) = false := by rfl) (hsw : swapsWith (.Call (.Name x p) (e :: es) [] pos) none pos2.line X.env = pure false := by rfl) :
    PDS X B H0 (.Try [.Expr (.Call (.Name x p) (e :: es) [] pos) pos2] [.ExceptHandler (some (.Name x1 np1)) (some n) (b₁ :: s1) hp1, .ExceptHandler (some (.Name x2 np2)) (some n) (b₂ :: s2) hp2] [] [] pos3)
      (dTryFn X.prog X.w X.K X.mg X.base B k ic i C1 C2 ra su) :=
  PSmono (ps_try_all (tb := fun V => tDrop (tCallFn X.prog X.w X.K X.mg X.base B H0 k ic V ra)) (l := [(.ref C1, fun _ _ _ _ _ _ => False), (.ref C2, fun a cls d D σ H => ∃ Dc, (cls = .ref Dc ∧ d = none ∧ ExcC X.K Dc) ∧ lS X.K B H0 (su a Dc) D σ H)]) hst hf hN hi hln nones_takes
      (fun V pn xe tkV => pss_one (ps_expr (pe_callFn (X := X.tr pn xe) (k := k) hNc hv tkV hr (ha pn xe) hd hcd he hpl) hsw))
      (.cons c1 (fun _ _ _ _ _ _ _ => pss_none) (.cons c2 (fun a oe cls d pn hz hfl => ⟨fun pins s σ H D I ⟨Dc, ⟨e1, e2, e3⟩, h⟩ => by
        subst e1 e2
        exact (hsu a oe Dc pn hz hfl e3).run pins s σ H D I h⟩) .nil)))
    fun D σ H ⟨G0, E, ⟨G, S, hs, ho, L, j, m, C, px, hS, hL, hj, hra, hx⟩, q1, q2, q3, q4⟩ =>
      ⟨G, S, L, j, m, C, _, px, hs, hS, hL, hj, hra, fun v d G' H' st r p => q1 _ _ ⟨G', S, hs.step st, ho.trans st.toOld, p⟩, fun cls d fs G' H' st xd p => by
        obtain ⟨rfl, Dc, rfl, ek, e1, e2, hsd⟩ := hx cls fs p
        cases d with
        | some dx => exact absurd rfl xd.1
        | none =>
          refine ⟨false, e1, fun z => (by cases z), fun _ => ⟨true, e2, fun _ a _ => ⟨Dc, ⟨rfl, rfl, ek⟩, G0, slotEnd i E, ⟨G', _, (hs.step st).set i (d := .raw (.ref a)) (v := .ref a) rfl free_raw, ho.trans st.toOld, hsd a⟩, ?_, q2, ?_, ?_⟩, fun z => (by cases z)⟩⟩
          · exact fun σ' H' ⟨G2, S2, k1, k2, k3⟩ => q1 _ _ ⟨G2, _, k1.clear i none, k2, k3⟩
          · exact fun σ' H' ⟨G2, S2, k1, k2, k3⟩ => q3 _ _ ⟨G2, _, k1.clear i none, k2, k3⟩
          · exact fun σ' H' ⟨G2, S2, k1, k2, k3⟩ => q4 _ _ ⟨G2, _, k1.clear i none, k2, k3⟩⟩
end
theorem hot1_of {A : Around} {a : Addr} {oe : Obj} {cls : Value} {d : Option Addr} (hz : L2N.Zn cls d oe) (hf : ∃ vs, oe.data = .fields vs) : Hot1 (A.mark (some (.ref a))) (a, oe) :=
  let ⟨vs, h⟩ := hf; ⟨rfl, vs, h, hz.2.2 vs h⟩
theorem bo_ValueError : bootBuiltins "ValueError" = some (.type "ValueError") := by decide +kernel
/-! ### a def that may raise, called where it does not -/
theorem never_passes {X : Cx} : Passes (L2N.CX X.prog X.w) X (fun _ _ _ => False) := fun _ _ _ _ _ _ _ ⟨_, _, _, _, _, _, _, _, _, _, _, _, z⟩ => z.elim
section
variable {X : Cx} {B : List Addr} {H0 : Hp} {e : Expr} {es : List Expr} {ra : DA} {x : Str} {p pos : Pos}
theorem pd_calX {ps : List Str} {j k : Nat} {C : CtX} (c : CalX X.prog X.w X.K X.mg X.base x ps j C) (hr : Room k X.A) (ha : PDA X B H0 (e :: es) ra) (hjk : j ≤ k := by decide) (hg : Gl X x := by rfl) (hdb : (x == ("__debug__" : Str)) = false := by decide)
    (he : starEach (e :: es) X.env = (false, eval e X.env) :: starEach es X.env := by rfl) (hpl : (backTo pos (starEach es X.env)).any (·.1) = false := by rfl) : PD X B H0 (.Call (.Name x p) (e :: es) [] pos) (fun S post => ra S fun xs => C B xs post fun _ _ => False) := by
  obtain ⟨f, fd, hm, F, kp, b⟩ := c
  refine PEmono (pe_call F (hr.mono hjk) hg hm kp b .nil never_passes ha hdb he hpl) fun σ H Q ⟨G, S, post, hs, hd, hq⟩ => ?_
  refine ⟨G, S, _, hs, hd, fun vs xs G1 H1 s1 r1 p1 => ?_⟩
  show spX X.K C (vs ++ []) H1 _ _
  rw [List.append_nil]
  exact ⟨B, G1, xs, _, fun _ _ => False, s1.wd, r1, p1, fun v d G' H' s2 r2 p2 => hq v d G' H' (s1.trans s2) r2 p2, fun _ _ _ _ _ _ _ z => z.elim⟩
end
end DL
/- ==== DMl ==== -/
/-! DMl: sorted(set(a list of texts)) (after the library's sets of ints). -/
namespace DL
open PySem PySem.Spec PyProof.Rows PySem.Calls L2 RZ
def txtOf (e : Int × Value) : Str := match e.2 with | .str k _ => k | _ => Str.empty
section
variable {P : Program} {w : World}
def GoodT (w : World) (e : Int × Value) : Prop := ∃ k tk, e.2 = Value.str k tk ∧ e.1 = hashStr w k
/-- the set of texts at a -/
def SetT (w : World) (h : Heap) (a : Addr) (S : Str → Bool) (n : Nat) : Prop :=
  ∃ o es ep t, h.get? a = some o ∧ o.ExactSet ∧ o.data = .set es ep t ∧ (∀ e ∈ es.toList, GoodT w e) ∧ (es.toList.map txtOf).Nodup ∧ (∀ k, S k = true ↔ k ∈ es.toList.map txtOf) ∧
    es.size < scanBound ∧ t.fits es.size = true ∧ es.size = n ∧ Ris t.place.toList ∧ (w.params.followText "set-order" = true ∨ t.led = true)
theorem SetT.at {h h' : Heap} {a : Addr} {S : Str → Bool} {n : Nat} (R : SetT w h a S n) (k : ∀ o, h.get? a = some o → h'.get? a = some o) : SetT w h' a S n := by
  obtain ⟨o, es, ep, t, ho, r⟩ := R
  exact ⟨o, es, ep, t, k o ho, r⟩
theorem SetT.congr {h : Heap} {a : Addr} {S S' : Str → Bool} {n : Nat} (R : SetT w h a S n) (e : ∀ k, S' k = S k) : SetT w h a S' n := by
  have q : S' = S := funext e
  rw [q]; exact R
theorem txt_is (k : Str) (tk : Tok) : (PySem.strKind P w).is k (.str k tk) = true := by simp [PySem.strKind, Value.isStrOf]
theorem txt_elems {l : List (Int × Value)} (g : ∀ e ∈ l, GoodT w e) : ElemsOf (PySem.strKind P w) l := fun e he => by
  obtain ⟨k, tk, h1, h2⟩ := g e he
  exact ⟨⟨k, by rw [h1]; exact txt_is k tk, h2⟩, by rw [h1] <;> rfl⟩
theorem txt_key {e : Int × Value} (g : GoodT w e) (k : Str) : (PySem.strKind P w).is k e.2 = true ↔ txtOf e = k := by
  obtain ⟨k0, tk, h1, _⟩ := g
  unfold txtOf
  rw [h1]
  simp [PySem.strKind, Value.isStrOf]
theorem txt_mem {l : List (Int × Value)} (g : ∀ e ∈ l, GoodT w e) (k : Str) : k ∈ l.map txtOf ↔ ∃ e ∈ l, (PySem.strKind P w).is k e.2 = true := by
  rw [List.mem_map]
  exact ⟨fun ⟨e, he, q⟩ => ⟨e, he, (txt_key (g e he) k).2 q⟩, fun ⟨e, he, q⟩ => ⟨e, he, (txt_key (g e he) k).1 q⟩⟩
end
section
variable {P : Program} {w : World} {A : Around} {E : Value → Shared → Prop} {s : Shared} {a : Addr} {S : Str → Bool} {n : Nat}
theorem setT_tail {g : Bool → Sem Unit} (hg : ∀ (b : Bool) (s₁ : Shared) (Q' : Unit → Shared → Prop), Q' () s₁ → wpAny (model P w) A (g b) Q' E s₁)
    {o : Obj} {es : Array (Int × Value)} {ep : Nat} {t : SetTable} (ho : s.heap.get? a = some o) (hex : o.ExactSet) (hd : o.data = .set es ep t)
    {es1 : Array (Int × Value)} {t2 : SetTable} {S' : Str → Bool} (g1 : ∀ e ∈ es1.toList, GoodT w e) (nd1 : (es1.toList.map txtOf).Nodup) (m1 : ∀ k, S' k = true ↔ k ∈ es1.toList.map txtOf)
    (hb1 : es1.size < scanBound) (hf2 : t2.fits es1.size = true) (hr : Ris t2.place.toList) (hl : w.params.followText "set-order" = true ∨ t2.led = true) {wasDummy : Bool} {R : Option Bool → Shared → Prop}
    (hR : ∀ h', Heap.SameBut a s.heap h' → SetT w h' a S' es1.size → R (some true) { s with heap := h' }) :
    wpAny (model P w) A (do
        storeSet a es1 t2
        if (!wasDummy && t2.tooFull) = true then do
            g (relayAll t2 es1 (SetTable.grown es1.size)).2.2
            storeSet a (relayAll t2 es1 (SetTable.grown es1.size)).1 (relayAll t2 es1 (SetTable.grown es1.size)).2.1
            pure (some true)
          else pure (some true)) R E s := by
  refine wpAny_bind (wpAny_storeSet_of ho hd ?_ (fits_of_scanBound hb1))
  have at1 := store_at (es' := es1) (t' := t2) ho hd
  have sb1 := Heap.SameBut.update s.heap a (Obj.putSet es1 t2)
  split
  · have pm := relayAll_perm t2 es1 (SetTable.grown es1.size)
    have f3 := relayAll_fits t2 es1 (SetTable.grown es1.size)
    have r3 := relayAll_ris t2 es1 (SetTable.grown es1.size)
    have l3 := relayAll_led t2 es1 (SetTable.grown es1.size)
    generalize relayAll t2 es1 (SetTable.grown es1.size) = Z at pm f3 r3 l3 ⊢
    obtain ⟨es2, t3, gave⟩ := Z
    dsimp only at pm f3 r3 l3 ⊢
    have hz : es2.size = es1.size := by rw [← Array.length_toList, pm.length_eq, Array.length_toList]
    refine wpAny_bind (hg _ _ _ ?_)
    refine wpAny_bind (wpAny_storeSet_of at1 rfl ?_ (fits_of_scanBound (by rw [hz]; exact hb1)))
    have at2 := store_at (es' := es2) (t' := t3) at1 rfl
    exact wpAny_pure (hR _ (sb1.trans (Heap.SameBut.update _ a _)) ⟨_, es2, _, t3, at2, hex, rfl, fun e he => g1 e (pm.mem_iff.mp he), (pm.map txtOf).nodup_iff.mpr nd1, fun k => (m1 k).trans (pm.map txtOf).mem_iff.symm, by rw [hz]; exact hb1, f3, hz, r3, hl.imp id fun z => by rw [l3]; exact z⟩)
  · exact wpAny_pure (hR _ sb1 ⟨_, es1, _, t2, at1, hex, rfl, g1, nd1, m1, hb1, hf2, rfl, hr, hl⟩)
theorem setT_add {k : Str} {tk : Tok} {Q : Bool → Shared → Prop} (R : SetT w s.heap a S n) (room : n + 1 < scanBound)
    (hQ : ∀ h', Heap.SameBut a s.heap h' → SetT w h' a (fun j => S j || decide (j = k)) (if S k = true then n else n + 1) → Q (!S k) { s with heap := h' }) :
    wpAny (model P w) A (setAddHashed a (.str k tk) ((PySem.strKind P w).hash k)) Q E s := by
  obtain ⟨o, es, ep, t, ho, hex, hd, g, nd, hm, hb, hf, hn, hr, hl⟩ := R
  have hsc : (Value.str k tk).scannable = true := rfl
  have hel : ElemsOf (PySem.strKind P w) es.toList := txt_elems g
  unfold setAddHashed setAddHashedIn
  refine wpAny_holding (wpAny_bind (wpAny_setState_of ho hd hf ?_))
  dsimp only
  rw [byScan_of hsc hb hel]
  simp only [↓reduceIte]
  unfold setAddByScan
  refine wpAny_bind ?_
  refine wpAny_bind (wpAny_rule ?_)
  refine wpAny_bind (wpAny_setScan_of (txt_is k tk) ho hd hf hel ?_)
  cases hfi : List.findIdx? (fun e => (PySem.strKind P w).is k e.2) es.toList with
  | some j =>
    dsimp only
    obtain ⟨hj, pj, _⟩ := List.findIdx?_eq_some_iff_getElem.mp hfi
    have hSk : S k = true := (hm k).2 ((txt_mem (P := P) g k).2 ⟨es.toList[j], List.getElem_mem hj, pj⟩)
    refine wpAny_pure (wpAny_pure ?_)
    have q := hQ s.heap (Heap.SameBut.refl a s.heap) ⟨o, es, ep, t, ho, hex, hd, g, nd, fun i => by
      rw [Bool.or_eq_true, decide_eq_true_eq, ← hm i]
      exact ⟨fun z => z.elim id (fun e => e ▸ hSk), .inl⟩, hb, hf, by rw [if_pos hSk]; exact hn, hr, hl⟩
    rw [hSk] at q
    exact q
  | none =>
    dsimp only
    have hnk : k ∉ es.toList.map txtOf := fun z => by
      obtain ⟨e, he, q⟩ := (txt_mem (P := P) g k).1 z
      have c := List.findIdx?_eq_none_iff.mp hfi e he
      rw [q] at c
      cases c
    have hSk : S k = false := by
      cases q : S k with
      | false => rfl
      | true => exact absurd ((hm k).1 q) hnk
    have gave_ : ∀ (b : Bool) {s₁ : Shared} {Q' : Unit → Shared → Prop}, Q' () s₁ → wpAny (model P w) A (match b with | true => rule "set.scan.the-table-gave-way" | false => pure ()) Q' E s₁ :=
      fun b s₁ Q' q => by cases b <;> first | exact wpAny_pure q | exact wpAny_rule q
    have pm := layNew_perm t es ((PySem.strKind P w).hash k) (.str k tk)
    have f1 := layNew_fits t es ((PySem.strKind P w).hash k) (.str k tk)
    have r1 := layNew_ris t es ((PySem.strKind P w).hash k) (.str k tk) hr
    have l1 := layNew_led t es ((PySem.strKind P w).hash k) (.str k tk)
    generalize layNew t es ((PySem.strKind P w).hash k) (.str k tk) = Z at pm f1 r1 l1 ⊢
    obtain ⟨es1, t1, wasDummy, gave⟩ := Z
    dsimp only at pm f1 r1 l1 ⊢
    rw [Array.toList_push] at pm
    have pc : es1.toList.Perm (((PySem.strKind P w).hash k, Value.str k tk) :: es.toList) := pm.trans (List.perm_append_singleton _ _)
    have pk : (es1.toList.map txtOf).Perm (k :: es.toList.map txtOf) := pc.map txtOf
    have g1 : ∀ e ∈ es1.toList, GoodT w e := fun e he => by
      rcases List.mem_cons.mp (pc.mem_iff.mp he) with z | z
      · rw [z]; exact ⟨k, tk, rfl, rfl⟩
      · exact g e z
    have nd1 : (es1.toList.map txtOf).Nodup := pk.nodup_iff.mpr (List.nodup_cons.mpr ⟨hnk, nd⟩)
    have m1 : ∀ i, (S i || decide (i = k)) = true ↔ i ∈ es1.toList.map txtOf := fun i => by
      rw [Bool.or_eq_true, decide_eq_true_eq, hm i, pk.mem_iff, List.mem_cons]
      exact Or.comm
    have hz : es1.size = n + 1 := by rw [← Array.length_toList, pc.length_eq, List.length_cons, Array.length_toList, hn]
    have hb1 : es1.size < scanBound := by rw [hz]; exact room
    have led1 : w.params.followText "set-order" = true ∨ t1.led = true := hl.imp id fun z => by rw [l1]; exact z
    have fin : ∀ h', Heap.SameBut a s.heap h' → SetT w h' a (fun j => S j || decide (j = k)) es1.size → Q true { s with heap := h' } := fun h' sb r => by
      have q := hQ h' sb
      rw [hSk] at q
      rw [hz] at r
      exact q r
    refine wpAny_bind (gave_ _ ?_)
    split
    · refine wpAny_bind ?_
      rw [hashByValue_scannable 8 hsc]
      refine wpAny_pure ?_
      refine setT_tail ?_ ho hex hd g1 nd1 m1 hb1 ?_ ?_ ?_ ?_
      · intro b s₁ Q' q; cases b <;> first | exact wpAny_pure q | exact wpAny_rule q
      · first | (split <;> first | exact f1 | exact SetTable.fits_plain_off f1) | exact f1
      · first | (split <;> exact r1) | exact r1
      · first | (split <;> exact led1) | exact led1
      · intro h' sb r; dsimp only; exact wpAny_pure (fin h' sb r)
    · refine wpAny_bind (wpAny_pure ?_)
      simp only [↓reduceIte]
      refine setT_tail ?_ ho hex hd g1 nd1 m1 hb1 f1 r1 led1 ?_
      · intro b s₁ Q' q; cases b <;> first | exact wpAny_pure q | exact wpAny_rule q
      · intro h' sb r; dsimp only; exact wpAny_pure (fin h' sb r)
theorem setT_new {h h' : Heap} {b : Addr} (w : World) (e : h'.get? b = some (newSet w)) : SetT w h' b (fun _ => false) 0 :=
  ⟨_, #[], 0, _, e, ⟨rfl, rfl, rfl⟩, rfl, (fun e he => by simp at he), (by simp), (fun k => by simp), (by decide), (by rfl), rfl, List.Pairwise.nil, by
    show _ ∨ (!w.params.followText "set-order") = true
    cases w.params.followText "set-order"
    · exact .inr rfl
    · exact .inl rfl⟩
/-- the loop of set(..) over texts -/
theorem setT_loop {I : Addr} {fp wr : List Addr} {G : Array GenState → Array GenState → Prop} {n : Nat} {Pv : Nat → Value → Prop} {St : Nat → Shared → Prop} {R : Result → Shared → Prop}
    (W : WalksS P w A.in1 I fp wr G n Pv St) (T : Addr) (hSf : T ∉ fp) (ns : List Str) (hn : n = ns.length) (hb : ns.length + 1 < scanBound) (hval : ∀ i v, Pv i v → ∃ k t, ns[i]? = some k ∧ v = .str k t) :
    ∀ (k i : Nat) (s : Shared), n - i = k → i ≤ n → St i s → (∃ c, c ≤ i ∧ SetT w s.heap T (fun j => decide (j ∈ ns.take i)) c) →
      (∀ s' c, Moved (T :: wr) G s s' → c ≤ n → SetT w s'.heap T (fun j => decide (j ∈ ns)) c → R (.ok (.ret .none)) s') →
      codeAny (model P w) A (.builtin "set.update.loop" ⟨[.ref T, .ref I], []⟩) R s := by
  have hSw : T ∉ wr := fun h => hSf (W.sub _ h)
  have hsub : ∀ b ∈ wr, b ∈ T :: wr := fun b hb => List.mem_cons_of_mem _ hb
  intro k
  induction k with
  | zero =>
    intro i s hk' hi hst ⟨c, hc, hS⟩ hR
    have hin : i = n := by omega
    subst hin
    refine codeAny_builtin F.entry_set_update_loop ?_
    rw [Around.under_plainId F.plain_set_update_loop _]
    show wpAny _ A.in1 (pyNext (.ref I) >>= _) _ _ s
    refine wpAny_bind (W.done s _ _ hst fun s' hm => ?_)
    show wpAny _ A.in1 (ret Value.none) _ _ s'
    have e : ns.take i = ns := List.take_of_length_le (by omega)
    rw [e] at hS
    exact wpAny_pure (hR s' c (hm.mono hsub) hc (hS.at fun o e => hm.heap T o hSw e))
  | succ k ih =>
    intro i s hk' hi hst ⟨c, hc, hS⟩ hR
    have hlt : i < n := by omega
    refine codeAny_builtin F.entry_set_update_loop ?_
    rw [Around.under_plainId F.plain_set_update_loop _]
    show wpAny _ A.in1 (pyNext (.ref I) >>= _) _ _ s
    refine wpAny_bind (W.item i s _ _ hlt hst fun v s' hP hst' hm => ?_)
    obtain ⟨z, t, hz, rfl⟩ := hval i v hP
    have hS' : SetT w s'.heap T (fun j => decide (j ∈ ns.take i)) c := hS.at fun o e => hm.heap T o hSw e
    show wpAny _ A.in1 (holding [Value.str z t] (setAdd T (.str z t)) >>= _) _ _ s'
    refine wpAny_bind (wpAny_holding ?_)
    unfold setAdd
    refine wpAny_holding ?_
    refine wpAny_bind ((PySem.strKind P w).pyHash (k := z) (txt_is z t) ?_)
    refine setT_add (s := { s' with toks := s'.toks + 1 }) hS' (by omega) fun h' hsb hS2 => ?_
    have hS3 : SetT w h' T (fun j => decide (j ∈ ns.take (i + 1))) (if decide (z ∈ ns.take i) = true then c else c + 1) := hS2.congr fun j => by
      rw [List.take_add_one, hz]
      simp [List.mem_append]
    have hc3 : (if decide (z ∈ ns.take i) = true then c else c + 1) ≤ i + 1 := by
      split <;> omega
    refine wpAny_pure ⟨plainId_quiet F.plain_set_update_loop _, ih (i + 1) _ (by omega) hlt (W.frame _ s' _ _ hst' (Nat.le_succ _) fun b hb o e => ?_) ⟨_, hc3, hS3⟩ fun s'' c2 hm'' hc'' hS'' => ?_⟩
    · rw [hsb.2 b (fun h : b = T => hSf (by rw [← h]; exact hb))]; exact e
    · refine hR s'' c2 (Moved.trans W.gtrans ((hm.mono hsub).then_heap (Nat.le_succ _) fun b o hb e => ?_) hm'') hc'' hS''
      rw [hsb.2 b (fun h : b = T => hb (by rw [h]; exact List.mem_cons_self))]; exact e
end
/-- what a set of a list is, when it is made -/
def SetMadeT (w : World) (s : Shared) (ns : List Str) (s' : Shared) : Prop := ∃ (h' : Heap) (tk c : Nat), s' = { s with heap := h', toks := tk } ∧ SetT w h' s.heap.objs.size (fun j => decide (j ∈ ns)) c ∧ c ≤ ns.length ∧ ∀ b o, s.heap.get? b = some o → h'.get? b = some o
section
variable {P : Program} {w : World} {A : Around} {E : Value → Shared → Prop} {s : Shared}
theorem set_fillT {A2 : Around} {l : Addr} {items : Array Value} {ns : List Str} {R : Result → Shared → Prop} (hh : A.handled = none) (hl : s.heap.IsList l items) (hit : StrsAre items.toList ns) (hb : ns.length + 1 < scanBound)
    (hR : ∀ s', SetMadeT w s ns s' → R (.ok (.ret .none)) s') :
    wpAny (model P w) A (Builtin.«set.__init__» ⟨[.ref s.heap.objs.size, .ref l], []⟩)
      (fun fin s' => match fin with | .done f => R (.ok f) s' | .again c' => c'.quiet = true ∧ codeAny (model P w) A2 c' R s') (fun e s' => R (.error e) s') { s with heap := s.heap.push (newSet w) } := by
  have sz : items.size = ns.length := by
    have q := StrsAre.len_eq hit
    rwa [Array.length_toList] at q
  have hS : (s.heap.push (newSet w)).get? s.heap.objs.size = some (newSet w) := Heap.get?_push_size _ rfl
  obtain ⟨ol, ho, hc, nl, hd⟩ := hl
  obtain ⟨ocls, odict, odata, oslots⟩ := ol
  simp only at hc hd
  subst hc; subst hd
  have hol : (s.heap.push (newSet w)).get? l = some { cls := .type "list", dict := odict, data := .seq items nl, slots := oslots } := Heap.get?_push_of_some _ ho
  have hll : (s.heap.push (newSet w)).IsList l items := ⟨_, hol, rfl, nl, rfl⟩
  have f1 := F.sub_list_set
  have f2 := F.sub_list_frozenset
  have f3 : (Value.type "list" == Value.type "dict") = false := by decide
  unfold Builtin.«set.__init__» noKeywords Builtin.Frozenset.updateFrom
  generalize hPI : pyIter = PI
  wp_walk
  subst hPI
  refine wpAny_pyIter_list hll (wpAny_bind (wpAny_runValue ?_))
  have lS : l < s.heap.objs.size := Heap.lt_size ho
  have pz : (s.heap.push (newSet w)).objs.size = s.heap.objs.size + 1 := Heap.size_push ..
  have ne1 : l ≠ (s.heap.push (newSet w)).objs.size := by rw [pz]; exact Nat.ne_of_lt (Nat.lt_succ_of_lt lS)
  have off : s.heap.objs.size ∉ [(s.heap.push (newSet w)).objs.size, l] := by
    rw [pz]
    simp only [List.mem_cons, List.not_mem_nil, or_false, not_or]
    exact ⟨Nat.ne_of_lt (Nat.lt_succ_self _), Nat.ne_of_gt lS⟩
  have val : ∀ (i : Nat) (v : Value), items[i]? = some v → ∃ k t, ns[i]? = some k ∧ v = .str k t := fun i v hv => by
    have il : i < ns.length := by rw [← sz]; exact (Array.getElem?_eq_some_iff.mp hv).1
    obtain ⟨t, e⟩ := SS.strs_at hit i v (by rw [Array.getElem?_toList]; exact hv)
    rw [List.getD_eq_getElem?_getD, List.getElem?_eq_getElem il] at e
    exact ⟨ns[i], t, List.getElem?_eq_getElem il, e⟩
  have hh1 : A.in1.handled = none := by simp [hh]
  refine setT_loop ((Walks.list hh1 _ l ne1 items).toS) s.heap.objs.size off ns sz hb val (items.size - 0) 0 _ (by omega) (Nat.zero_le _) ⟨⟨_, Heap.get?_push_size _ rfl, rfl, rfl⟩, hll.push _⟩ ⟨0, Nat.le_refl 0, (setT_new (h := s.heap) w (Heap.get?_push_of_some _ hS)).congr fun k => by simp⟩ fun s' c' hm hc' hS' => ?_
  obtain ⟨h', g2, d', tk', os'⟩ := s'
  have eg : g2 = s.gens := hm.gens
  have ed : d' = s.drawn := hm.drawn
  have eo : os' = s.os := hm.os
  subst eg; subst ed; subst eo
  refine wpAny_pure (wpAny_pure (hR _ ⟨h', tk', c', rfl, hS', by rw [← sz]; exact hc', fun b o e => ?_⟩))
  have b0 : b < s.heap.objs.size := Heap.lt_size e
  refine hm.heap b o ?_ (Heap.get?_push_of_some _ (Heap.get?_push_of_some _ e))
  simp only [List.mem_cons, List.not_mem_nil, or_false, not_or]
  exact ⟨Nat.ne_of_lt b0, by rw [pz]; exact Nat.ne_of_lt (Nat.lt_succ_of_lt b0)⟩
theorem set_of_listT {l : Addr} {items : Array Value} {ns : List Str} {Q : Value → Shared → Prop} (hh : A.handled = none) (hl : s.heap.IsList l items) (hit : StrsAre items.toList ns) (hb : ns.length + 1 < scanBound)
    (hQ : ∀ s', SetMadeT w s ns s' → Q (.ref s.heap.objs.size) s') : wpAny (model P w) A (call (.type "set") [.ref l]) Q E s := by
  obtain ⟨c, tl, mro⟩ := F.called_set.mro
  have made := F.called_set.made
  have sub := F.called_set.sub
  refine wpAny_call (codeAny_of_tree ?_)
  change wpAny _ _ (callAny (.type "set") _) _ _ _
  refine wpAny_pure ⟨Code.quiet_builtin _ (by decide +kernel), codeAny_builtin F.entry_type_call ?_⟩
  rw [Around.under_plain (weight_type_call_type "set" [.ref l] []) rfl]
  have g1 := F.called_set.notType
  have g2 := F.called_set.canCreate
  have g3 := F.typeCall_set_1 (.ref l)
  repeat (any_goals (first | assumption | wp_step))

  refine codeAny_mono (code_set_led1 (.ref l) (E := E) (Q₁ := fun obj s₁ => obj = .ref s.heap.objs.size ∧ s₁ = { s with heap := s.heap.push (newSet w) }) ⟨rfl, rfl⟩) fun r s₁ hr => ?_
  match r, hr with
  | .error e, hr => exact hr
  | .ok (.ret obj), hr =>
    obtain ⟨rfl, rfl⟩ := hr
    have hS : (s.heap.push (newSet w)).get? s.heap.objs.size = some (newSet w) := Heap.get?_push_size _ rfl
    have hT : Shared.TypeIs { s with heap := s.heap.push (newSet w) } (.ref s.heap.objs.size) "set" := ⟨_, hS, rfl⟩
    have g4 := F.called_set.init.lookup
    have g5 := F.called_set.init.bind (.ref s.heap.objs.size)
    repeat (any_goals (first | assumption | wp_step))

    refine codeAny_mono (codeAny_call_builtin (R := wants (fun r s₂ => r = .none ∧ SetMadeT w s ns s₂) E) F.called_set.init.plain F.entry_set_init (check_set_init_1 hT ?_)) fun r₂ s₂ hr₂ => ?_
    · refine set_fillT (by simp [hh]) hl hit hb fun s' m => ?_
      exact ⟨rfl, m⟩
    match r₂, hr₂ with
    | .error e, hr₂ => exact hr₂
    | .ok (.ret r), hr₂ =>
      obtain ⟨rfl, m⟩ := hr₂
      repeat (any_goals (first | assumption | wp_step))
      exact hQ _ m
theorem sort_setT {a : Addr} {S : Str → Bool} {n : Nat} {Q : Value → Shared → Prop} (R : SetT w s.heap a S n) (hh : A.handled = none) (h64 : n < 64)
    (hQ : ∀ s' p (out : Array Value) (c : Nat) (ns : List Str), (∀ b o, s.heap.get? b = some o → s'.heap.get? b = some o) → s'.gens = s.gens → s'.os = s.os → s.heap.objs.size ≤ p →
      s'.heap.get? p = some (seqObj "list" out c) → StrsAre out.toList ns → sortedS ns = true → ns.Nodup → (∀ k, k ∈ ns ↔ S k = true) → ns.length = n → Q (.ref p) s') : wpAny (model P w) A (call (.builtin "sorted") [.ref a]) Q E s := by
  obtain ⟨o, es, ep, t, ho, hex, hd, good, nd, mem, hb, fits, hn, ris, led⟩ := R
  refine Calls.call_function_entry kind_sorted plain_sorted entry_sorted (args_sorted1 _) ?_
  unfold Builtin.«sorted»
  refine wpAny_bind (m := checkCount "sorted" 1 1 _) (wpAny_pure ?_)
  refine wpAny_bind (collect_set (A := A.in1) hh ⟨o, ho, hex.1, hd⟩ fits hb ris led fun s1 vs k1 hz g1 o1 pm => ?_)
  have vl : vs.length = n := by rw [pm.length_eq, List.length_map, Array.length_toList]; exact hn
  have hI : StrsAre vs (vs.map strOf) := strsAre_map vs fun v hv => by
    obtain ⟨e, he, q⟩ := List.mem_map.mp (pm.mem_iff.mp hv)
    obtain ⟨k, tk, z, _⟩ := good e he
    exact ⟨k, tk, by rw [← q]; exact z⟩
  have pk : (vs.map strOf).Perm (es.toList.map txtOf) := by
    have q := pm.map strOf
    rw [List.map_map] at q
    have e : es.toList.map (strOf ∘ (·.2)) = es.toList.map txtOf := List.map_congr_left fun e he => by
      obtain ⟨k, tk, z, _⟩ := good e he
      show strOf e.2 = txtOf e
      unfold txtOf
      rw [z]; rfl
    rw [e] at q
    exact q
  refine wpAny_bind (wpAny_newList ?_ (by rw [vl, sizeLine_eq]; omega))
  have hoL : (s1.heap.push (seqObj "list" vs.toArray 0)).get? s1.heap.objs.size = some (seqObj "list" vs.toArray 0) := Heap.get?_push_size _ rfl
  refine wpAny_bind (wpAny_holding (wpAny_call_entry PyProof.Rows.slot_list_sort ⟨_, hoL, rfl⟩ PyProof.Rows.entry_list_sort
    (list_sort_treeK (s := { s1 with heap := s1.heap.push (seqObj "list" vs.toArray 0) }) strKind_oneLt hoL hI.keysOf (fun v₁ v₂ rest e => keyKind_strs (by rw [← e]; exact hI)) (by rw [vl]; exact h64) fun st' hp hs => ⟨_, rfl, ?_⟩) (PyProof.Rows.args_list_sort _)))
  obtain ⟨ss, h1, h2, h3⟩ := sorted_out_str hI hp hs
  obtain ⟨c, hc⟩ := PyProof.Rows.sortedHeap_at (vs := vs) (out := (arrOf st').map (·.2)) hoL
  have pn : ss.Perm (es.toList.map txtOf) := h2.trans pk
  refine wpAny_pure ⟨_, rfl, hQ _ s1.heap.objs.size _ c ss (fun b u e => ?_) g1 o1 hz hc h1 h3 (pn.nodup_iff.mpr nd) (fun k => by rw [pn.mem_iff, ← mem k]) ?_⟩
  · have q := k1 b u e
    have hlt := Heap.lt_size q
    rw [PyProof.Rows.sortedHeap_old (Nat.ne_of_lt hlt) (by rw [size_push']; exact Nat.lt_succ_of_lt hlt)]
    exact Heap.get?_push_of_some _ q
  · rw [pn.length_eq, List.length_map, Array.length_toList]; exact hn
end
def tSortSetS (K : Kf) (te : TE) : TE := fun σ H Q => te σ H fun x H1 => ∃ (l : Addr) (ns : List Str), x = .ref l ∧ SqL K H1 l (ns.map V.str) ∧ ns.length ≤ 50 ∧ ∀ (ys : List Str) (p : Addr), sortedS ys = true → ys.Nodup → (∀ k, k ∈ ys ↔ k ∈ ns) → ys.length ≤ ns.length → H1 p = none → Q (.ref p) (upd H1 p (.lst (ys.map V.str)))
section
variable {X : Cx} {a : Expr} {ta : TE} {p p2 q pos : Pos}
theorem pe_sortSetS (hc : X.calm = true) (hg : Gl X "sorted") (hm : X.mg "sorted" = none) (hg2 : Gl X "set") (hm2 : X.mg "set" = none) (ha : PE X a ta)
    (na : starEach [a] X.env = (false, eval a X.env) :: starEach [] X.env := by rfl) (nr : starEach [.Call (.Name "set" p2) [a] [] q] X.env = (false, eval (.Call (.Name "set" p2) [a] [] q) X.env) :: starEach [] X.env := by rfl) : PE X (.Call (.Name "sorted" p) [.Call (.Name "set" p2) [a] [] q] [] pos) (tSortSetS X.K ta) := by
  refine ⟨fun pins s σ H Q I h => ?_⟩
  refine Call_ (ld_blt I hg hm boot_sorted ?_)
  refine PyProof.Rows.callWith_builtin1 (PyProof.Rows.args_cons ?_ nr) nr rfl
  refine Call_ (ld_blt I hg2 hm2 boot_set ?_)
  refine PyProof.Rows.callWith_type1 (PyProof.Rows.args_cons (thn (ha.run pins s σ H _ I h) fun v s1 ⟨x, H1, I1, r1, q1⟩ => PyProof.Rows.args_nil ?_) na) na rfl
  obtain ⟨l, ns, rfl, hq, hl, q1⟩ := q1
  cases r1
  obtain ⟨its, r, pl, hz⟩ := I1.list hq
  refine set_of_listT (ns := ns) (I1.ok.hd hc) pl.isList (by simpa using strsAre_of r) (by unfold scanBound; omega) fun s' ⟨h', tk, c, e, R, hcn, keep⟩ => ?_
  subst e
  refine PyProof.Rows.args_nil ?_
  have I2 : L2.Inv X pins σ H1 { s1 with heap := h', toks := tk } := I1.kept keep
  refine sort_setT (s := { s1 with heap := h', toks := tk }) R (I1.ok.hd hc) (by omega) fun s2 pn out c2 ys k g o hp hget hv hs hnd hmem hlen => ?_
  have hn : H1 pn = none := I2.hok.fresh hp
  have J : L2.Inv X pins σ (upd H1 pn (.lst (ys.map V.str))) { ({ s1 with heap := h', toks := tk } : Shared) with heap := s2.heap, gens := s2.gens, drawn := s2.drawn, toks := s2.toks } :=
    I2.call (ch := []) (Un.laid k hp hn) (I2.hok.laid k hp ⟨by rw [List.length_map, hlen, sizeLine_eq]; omega, out.toList, c2, vals_of_strs hv, hget⟩) (by rw [g]; exact I2.bare) (fun _ z => nomatch z)
  have e : s2 = { ({ s1 with heap := h', toks := tk } : Shared) with heap := s2.heap, gens := s2.gens, drawn := s2.drawn, toks := s2.toks } := by
    cases s2; cases o; rfl
  rw [e]
  exact ⟨.ref pn, _, J, rfl, q1 ys pn hs hnd (fun k => by rw [hmem k]; exact decide_eq_true_iff) (by omega) hn⟩
end
def dSortSetS (de : DE) : DE := fun S post => de S fun x => ∃ ns : List Str, x.lsti = some (ns.map PyData.str) ∧ ns.length ≤ 50 ∧ ∀ ys : List Str, sortedS ys = true → ys.Nodup → (∀ k, k ∈ ys ↔ k ∈ ns) → ys.length ≤ ns.length → post (.py (.list (ys.map PyData.str)))
section
variable {X : Cx} {B : List Addr} {H0 : Hp} {e : Expr} {de : DE} {p p2 q pos : Pos}
theorem pd_sortSetS (T : Bl X.mg) (hc : X.calm = true) (he : PD X B H0 e de) (hg : Gl X "sorted" := by rfl) (hg2 : Gl X "set" := by rfl)
    (na : starEach [e] X.env = (false, eval e X.env) :: starEach [] X.env := by rfl) (nr : starEach [.Call (.Name "set" p2) [e] [] q] X.env = (false, eval (.Call (.Name "set" p2) [e] [] q) X.env) :: starEach [] X.env := by rfl) : PD X B H0 (.Call (.Name "sorted" p) [.Call (.Name "set" p2) [e] [] q] [] pos) (dSortSetS de) :=
  PEmono (pe_sortSetS hc hg T.sorted hg2 T.set he na nr) fun σ H Q ⟨G, S, post, hs, hd, hq⟩ => by
  refine ⟨G, S, _, hs, hd, fun v d G1 H1 s1 r1 p1 => ?_⟩
  obtain ⟨ns, e1, hl, p1⟩ := p1
  obtain ⟨l, vs, rfl, h1, h2⟩ := rp_lst s1.wd r1 e1
  have := h2.strs
  subst this
  exact ⟨l, ns, rfl, SqL.of h1, hl, fun ys pn k1 k2 k3 k4 k5 => hq _ _ _ _ (s1.trans (Stp.new s1.wd k5 _)) (Rp.ofDt (Dt.newL (s1.wd.sub.free k5) (DtAll.ofStrs ys))) (p1 ys k1 k2 k3 k4)⟩
end
end DL
namespace DL
open PySem PySem.Spec PyProof.Rows L2 RZ
def top (i : Nat) : Stmt := PySem.Challenge.pw_stairlamps_k01_stairs_and_walkers_known.main.body.getD i (.Pass ⟨0, 0, 0, 0⟩)
/-! data of the stairs -/
structure Walker where
  nm : Str
  bg : Int
  pc : Int
  up : Bool
def Walker.way (w : Walker) : Str := if w.up then "up" else "down"
def Walker.py (w : Walker) : PyData := .tuple [.str w.nm, .int w.bg, .int w.pc, .str w.way]
abbrev pInts (l : List Int) : List PyData := l.map PyData.int
def stairPy (day : Int) (lamps : List Int) : PyData := .tuple [.int day, .tuple (pInts lamps)]
def walkersPy (ws : List Walker) : PyData := .tuple (ws.map Walker.py)
/-- when a walker comes to a landing on the first day -/
def Walker.first (n : Nat) (landing : Int) (w : Walker) : Int := w.bg + (if w.up then landing else (n : Int) - 1 - landing) * w.pc
def firstPy (p : Str × Int) : PyData := .tuple [.str p.1, .int p.2]
def firstsOf (n : Nat) (landing : Int) (ws : List Walker) : List (Str × Int) := ws.map fun w => (w.nm, w.first n landing)
theorem snoc_int (ns : List Int) (x : Int) : pInts ns ++ [PyData.int x] = pInts (ns ++ [x]) := by unfold pInts; rw [List.map_append]; rfl
theorem if_false_t {A B : Prop} (h : B) : if false = true then A else B := by rw [if_neg Bool.false_ne_true]; exact h
theorem all_snoc {P : Int → Prop} {ns : List Int} {x : Int} (h : ∀ n ∈ ns, P n) (hx : P x) : ∀ n ∈ ns ++ [x], P n := fun n hn => by
  rcases List.mem_append.mp hn with z | z
  · exact h n z
  · rw [List.mem_singleton.mp z]; exact hx
local macro_rules | `(tactic| walk_at "dl") => `(tactic| simp only [atI_0, atI_1, atI_2, atI_3, stairPy, walkersPy, Walker.py, firstPy, if_true, if_false, List.length_cons, List.length_nil, Nat.reduceAdd, Nat.reduceLeDiff, Nat.zero_add, true_and, and_true, dSeq, dNext, dBrk, dCont, dIfS, dRet, dRetV, dRetVO, dRetO, dSetO, List.map_cons, List.map_nil, dSet, dSetL, dSetD, dApp, dDrop, dPar, dPar3, dParL, dPut, dWhile, dFor, dAsg, dVar, dC, dOp, dUn, dB, dAnd, dOr, dNot, dAndV, dOrV, dNotV, dIf, dNil, dCons, dChain, dTup, dLst, dCB, dCall, dSl, dNo, dPart, dLc, dYes, dDix, dDget_eq, dDin, diL, diT, diR1, diR2, diS, diZ, dgName, dgNil, dgCons, dgTup, fI, fIc, fAdd, fMul, fEq, fNe, fLt, fLe, fGt, fGe, fLtA, fSub, fFdiv, fMod, fIsN, fNotN, fIsB, fNotB, fIx, fSl, fIn, fInS, fDix, cLen, cInt, cMax2, cMin2, cSum, cMaxL, cMinL, cAll, cAny, cTuple, cList, cSorted, cSortD, dRg, dZero, cIsi, D.py?, D.items, D.lsti, D.ty, D.kvs, keyD, pys, fre, isNonD, wipeS, Option.map, List.set, List.getElem?_cons_succ, List.getElem?_cons_zero])
/-! ### the bags of draws: a take by hand, the rest over data -/
abbrev s__law_take : Stmt := top 26
theorem sc__law_take : FnScope ["bag", "many"] ["bag", "many"] (defScope s__law_take) := ⟨rfl, rfl, rfl, by decide +kernel, rfl, by decide +kernel, by decide +kernel⟩
abbrev s__law_cell_at : Stmt := top 20
theorem sc__law_cell_at : FnScope ["script", "k"] ["script", "k"] (defScope s__law_cell_at) := ⟨rfl, rfl, rfl, by decide +kernel, rfl, by decide +kernel, by decide +kernel⟩
abbrev s__law_draws : Stmt := top 21
theorem sc__law_draws : FnScope ["cell", "many", "size", "found", "rest", "stirred", "k"] ["cell", "many", "size"] (defScope s__law_draws) := ⟨rfl, rfl, rfl, by decide +kernel, rfl, by decide +kernel, by decide +kernel⟩
abbrev s__law_bag : Stmt := top 24
theorem sc__law_bag : FnScope ["script", "k"] ["script", "k"] (defScope s__law_bag) := ⟨rfl, rfl, rfl, by decide +kernel, rfl, by decide +kernel, by decide +kernel⟩
abbrev s__law_bags : Stmt := top 25
theorem sc__law_bags : FnScope ["script", "limit", "k"] ["script", "limit"] (defScope s__law_bags) := ⟨rfl, rfl, rfl, by decide +kernel, rfl, by decide +kernel, by decide +kernel⟩
section
variable {P : Program} {w : World} {K : Kf} {mg : Str → Option Value} {base : Heap}
theorem cal_law_take (d : Def K mg "_law_take" s__law_take) (T : Bl mg) : Cal P w K mg base "_law_take" ["bag", "many"] 1 C_take := by
  obtain ⟨f, fd, hm, F⟩ := d
  refine ⟨f, fd, hm, F.ok sc__law_take (fun vs H Q E h => ?_) (fun cdv A outer s H vs Q E hr h => ?_), F.kp, FunD.bindsN F fun _ _ _ _ _ _ us hl => match us, hl with | [_, _], _ => rfl⟩
  · obtain ⟨B, G, ds, post, _, r, ⟨b, m, rfl, _⟩, _⟩ := h
    rw [← r.length]; rfl
  · obtain ⟨B, G, ds, post, wd, r, ⟨b, m, rfl, hb, hm0, hp⟩, hq⟩ := h
    obtain ⟨gb, dl, c, ns, hH, hc, hS, hl, hn⟩ := wd.draw hb
    cases r with
    | cons r1 r2 =>
    cases r2 with
    | cons r2 r3 =>
    cases r3
    cases (show _ = V.ref b from r1)
    cases r2
    refine ⟨_, PSs.nox (pss_cons (ps_asg (pe_op op_add (pe_ix ix_list (pv 0) pe_int (fun _ _ => rfl)) pe_int) (pg_sub (pv 0) pe_int set_list))
      (pss_one (ps_ret (pe_op op_mod (pe_ix ix_list (pe_ix ix_list (pv 0) pe_int (fun _ _ => rfl)) (pe_op op_mod (pe_ix ix_list (pv 0) pe_int (fun _ _ => rfl)) (pe_callB call_len (by rfl) T.len PySem.boot_len (pa_cons (pe_ix ix_list (pv 0) pe_int (fun _ _ => rfl)) pa_nil))) (fun _ _ => rfl)) (pv 1))))), ?_⟩
    have hdl : dl ≠ b := ne_of_none hS gb
    have hD : H dl = some (.lst (ns.map V.int)) := wd.sub _ _ hS
    refine ⟨_, rfl, b, _, 1, _, rfl, rfl, SqL.of hH, atI_1, c, 1, rfl, rfl, _, rfl, b, _, 1, 1, rfl, rfl, hH, rfl, ?_⟩
    -- behind the store
    have hb1 : upd H b (.lst [V.ref dl, V.int (c + 1)]) b = some (.lst [V.ref dl, V.int (c + 1)]) := upd_same
    have hd1 : upd H b (.lst [V.ref dl, V.int (c + 1)]) dl = some (.lst (ns.map V.int)) := by rw [upd_ne hdl]; exact hD
    obtain ⟨j, hj⟩ : ∃ j : Nat, (c + 1) % (((ns.map V.int).length : Nat) : Int) = (j : Int) := ⟨((c + 1) % (((ns.map V.int).length : Nat) : Int)).toNat, (Int.toNat_of_nonneg (Int.emod_nonneg _ (by rw [List.length_map, hl]; decide))).symm⟩
    have hj2 : j < ns.length := by
      have := Int.emod_lt_of_pos (c + 1) (b := (((ns.map V.int).length : Nat) : Int)) (by rw [List.length_map, hl]; decide)
      rw [List.length_map, hl] at this hj
      omega
    have hnj := hn ns[j] (List.getElem_mem hj2)
    refine ⟨_, rfl, b, _, 0, _, rfl, rfl, SqL.of hb1, atI_0, _, rfl, b, _, 1, _, rfl, rfl, SqL.of hb1, atI_1, _, rfl, b, _, 0, _, rfl, rfl, SqL.of hb1, atI_0, _, _, rfl, .inl ⟨_, SqL.of hd1, rfl⟩, _, _, rfl, rfl, (by show (0 : Int) < _; rw [List.length_map, hl]; decide), dl, _, _, _, rfl, rfl, SqL.of hd1, (by rw [hj]; exact atI_nat (v := V.int ns[j]) (by rw [List.getElem?_map, List.getElem?_eq_getElem hj2]; rfl)), _, rfl, _, _, rfl, rfl, hm0, ?_⟩
    have h0 := Int.emod_nonneg ns[j] (show m ≠ 0 by omega)
    have h1 := Int.emod_lt_of_pos ns[j] hm0
    have h2 : ns[j] % m ≤ ns[j] := by have := Int.emod_add_mul_ediv ns[j] m; have := Int.ediv_nonneg hnj.1 (show 0 ≤ m by omega); have := Int.mul_nonneg (show 0 ≤ m by omega) this; omega
    refine hq (.int (ns[j] % m)) (.py (.int (ns[j] % m))) G _ ⟨⟨fun _ _ h => h, fun a o h h' ha => ⟨?_, h'⟩⟩, ⟨fun a o h => ?_, fun b' hb' => ?_⟩⟩ (Rp.int _) (hp _ h0 h1 (by omega))
    · have ne : a ≠ b := fun e => by subst e; exact ha hb.1
      rw [upd_ne ne]; exact h
    · rw [upd_ne (ne_of_none h gb)]; exact wd.sub _ _ h
    · by_cases e : b' = b
      · subst e
        exact ⟨gb, .inl ⟨hb.2, dl, c + 1, ns, upd_same, by omega, hS, hl, hn⟩⟩
      · obtain ⟨k1, k2⟩ := wd.bags b' hb'
        exact ⟨k1, k2.up (fun _ _ h => h) (upd_ne e)⟩
end
def C_draws : Ct := fun _ ds post => ∃ cell : Int, ds = [.py (.int cell), .py (.int 400), .py (.int 1000)] ∧ ∀ ns : List Int, ns.length = 400 → (∀ n ∈ ns, 0 ≤ n ∧ n < 1000) → post (.py (.list (pInts ns)))
section
variable {P : Program} {w : World} {K : Kf} {mg : Str → Option Value} {base : Heap}
theorem cal_law_draws (d : Def K mg "_law_draws" s__law_draws) (T : Bl mg) : Cal P w K mg base "_law_draws" ["cell", "many", "size"] 1 C_draws := by
  refine calD d sc__law_draws (fun B ds post ⟨_, e, _⟩ => by subst e; exact ⟨rfl, fun d hd => by simp at hd; rcases hd with rfl | rfl | rfl <;> exact free_py⟩) (fun _ _ _ _ _ _ _ us hl => match us, hl with | [_, _, _], _ => rfl) (fun f cdv A outer s H E B ds post hr c => ⟨_, (psd_cons (psd_setL (i := 3) sc__law_draws.nd rfl (Or.inl rfl))
        (psd_cons (psd_set (i := 4) sc__law_draws.nd rfl (Or.inl rfl) (pd_mul (pd_var 0) (pd_int1 T (pd_cmp op_ge od_ge (pd_var 0) (pd_pow (n := 1000000000000000000)) (nomark _)))))
        (psd_cons (psd_set (i := 5) sc__law_draws.nd rfl (Or.inl rfl) (pd_mod (pd_var 0) pd_int))
        (psd_cons (psd_for PassesOwn.never rfl (pdi_range1 (by rfl) T.range (pd_add (pd_var 1) pd_int)) (pdg_name (i := 6) sc__law_draws.nd rfl (Or.inl rfl)) (psd_cons (psd_set (i := 5) sc__law_draws.nd rfl (Or.inl rfl) (pd_mod (pd_add (pd_add (pd_add (pd_mul (pd_var 5) (pd_var 5)) (pd_mul pd_int (pd_var 5))) (pd_var 6)) pd_int) pd_int))
        (psd_one (psd_if (PDW.t (pdw_and (pdt_cmp op_gt od_gt (pd_var 6) pd_int (nomark _)) (pdw_and1 (pdt_cmp op_gt od_gt (pd_var 4) pd_int (nomark _))))) (psd_cons (psd_app (i := 3) rfl (Or.inl rfl) (by decide) (by decide) (pd_mod (pd_var 4) (pd_var 2)) (fun ho ha => pe_bm PySem.F.plainAttrs_list PySem.F.slot_list_append PySem.F.type_list_append mt_append ho ha) (by rfl) (by rfl))
        (psd_one (psd_set (i := 4) sc__law_draws.nd rfl (Or.inl rfl) (pd_fdiv (pd_var 4) (pd_var 2))))) (psd_one (psd_if (pdt_cmp op_gt od_gt (pd_var 6) pd_int (nomark _)) (psd_one (psd_app (i := 3) rfl (Or.inl rfl) (by decide) (by decide) (pd_mod (pd_fdiv (pd_var 5) pd_int) (pd_var 2)) (fun ho ha => pe_bm PySem.F.plainAttrs_list PySem.F.slot_list_append PySem.F.type_list_append mt_append ho ha) (by rfl) (by rfl))) psd_nil))))))
        (psd_one (psd_retV 3)))))), ?_⟩)
  obtain ⟨cell, rfl, hp⟩ := c
  refine at_st (S' := [some (.py (.int cell)), some (.py (.int 400)), some (.py (.int 1000)), none, none, none, none]) rfl ?_
  walk_at "dl"
  refine ⟨cmul_r ?_, by decide, by decide, by decide, fun i S' => ∃ (ns : List Int) (rest st : Int) (kk : Option D), S' = [some (.py (.int cell)), some (.py (.int 400)), some (.py (.int 1000)), some (.ol (pInts ns)), some (.py (.int rest)), some (.py (.int st)), kk] ∧ ns.length = i - 3 ∧ (∀ n ∈ ns, 0 ≤ n ∧ n < 1000) ∧ 0 ≤ rest ∧ 0 ≤ st ∧ st < 2305843009213693951, ⟨[], _, _, _, rfl, rfl, fun n h => absurd h (by simp), ?_, Int.emod_nonneg _ (by decide), Int.emod_lt_of_pos _ (by decide)⟩, ?_, ?_⟩
  · split <;> exact ⟨by decide, by decide⟩
  · by_cases z : (1000000000000000000 : Int) ≤ cell
    · rw [if_pos (decide_eq_true z)]; omega
    · rw [if_neg (by simp [z])]; omega
  · rintro i d S' hi ⟨ns, rest, st, kk, rfl, hl, hn, hr0, hs0, hs1⟩
    obtain ⟨hi1, rfl⟩ := range_get hi
    have hi2 : i < 403 := hi1
    have hlen : (pInts ns).length < 16000000 := by rw [List.length_map, hl]; omega
    have s0 := Int.emod_nonneg (st * st + 48271 * st + ↑i + 1) (show (2305843009213693951 : Int) ≠ 0 by decide)
    have s1 := Int.emod_lt_of_pos (st * st + 48271 * st + ↑i + 1) (show (0 : Int) < 2305843009213693951 by decide)
    have r1000 : ∀ x : Int, 0 ≤ x % 1000 ∧ x % 1000 < 1000 := fun x => ⟨Int.emod_nonneg _ (by decide), Int.emod_lt_of_pos _ (by decide)⟩
    walk_at "dl"
    refine ⟨cmul_r ⟨by omega, by omega⟩, cmul_r ⟨by omega, by omega⟩, by decide, ?_⟩
    refine if_dec (fun h2 => ?_) (fun h2 => if_false_t ?_)
    · refine if_dec (fun h3 => ?_) (fun h3 => if_dec (fun _ => ?_) (fun h4 => absurd h2 h4))
      · rw [snoc_int]
        exact ⟨by decide, hlen, ⟨by decide, by decide⟩, _, _, _, _, rfl, by rw [List.length_append, hl, List.length_singleton]; omega, all_snoc hn (r1000 _), Int.ediv_nonneg hr0 (by decide), s0, s1⟩
      · rw [snoc_int]
        exact ⟨⟨by decide, by decide⟩, by decide, hlen, _, _, _, _, rfl, by rw [List.length_append, hl, List.length_singleton]; omega, all_snoc hn (r1000 _), hr0, s0, s1⟩
    · refine if_dec (fun h4 => absurd h4 h2) (fun _ => ?_)
      exact ⟨_, _, _, _, rfl, by rw [hl]; omega, hn, hr0, s0, s1⟩
  · rintro S' ⟨ns, rest, st, kk, rfl, hl, hn, _⟩
    walk_at "dl"
    exact hp ns (by rw [hl, List.length_map, List.length_range]; decide) hn
end
/-! by hand: the script is locked, the bags are made -/
section
variable {P : Program} {w : World} {K : Kf} {mg : Str → Option Value} {base : Heap}
theorem cal_law_cell_at (d : Def K mg "_law_cell_at" s__law_cell_at) (T : Bl mg) : CalR P w K mg base "_law_cell_at" ["script", "k"] 1 (spCell K) := by
  obtain ⟨f, fd, hm, F⟩ := d
  refine ⟨f, fd, hm, F.ok sc__law_cell_at (fun vs H Q E h => ?_) (fun cdv A outer s H vs Q E hr h => ?_), F.kp, FunD.bindsN F fun _ _ _ _ _ _ us hl => match us, hl with | [_, _], _ => rfl⟩
  · obtain ⟨a, ns, k, rfl, _⟩ := h; rfl
  · obtain ⟨a, ns, k, rfl, hS, hk, hq⟩ := h
    refine ⟨_, PSs.nox (pss_cons (ps_if (pt_cmpR op_lt (pv 1) (pe_callB call_len (by rfl) T.len PySem.boot_len (pa_cons (pv 0) pa_nil)) (nomark _)) (pss_one (ps_ret (pe_ix ix_list (pv 0) (pv 1) (fun _ _ => rfl)))) pss_nil) (pss_one (ps_ret pe_int))), ?_⟩
    refine ⟨_, rfl, _, rfl, _, _, rfl, .inl ⟨_, hS, rfl⟩, k, _, rfl, rfl, _, rfl, ?_⟩
    refine if_dec (fun h => ?_) (fun h => hq 0)
    rw [List.length_map] at h
    obtain ⟨j, rfl⟩ : ∃ j : Nat, k = (j : Int) := ⟨k.toNat, (Int.toNat_of_nonneg hk).symm⟩
    have hj : j < ns.length := by omega
    exact ⟨_, rfl, _, rfl, a, _, _, .int ns[j], rfl, rfl, hS, atI_nat (by rw [List.getElem?_map, List.getElem?_eq_getElem hj]; rfl), hq _⟩
theorem cal_law_bag (d : Def K mg "_law_bag" s__law_bag) (T : Bl mg) (cd : Cal P w K mg base "_law_draws" ["cell", "many", "size"] 1 C_draws) (cc : CalR P w K mg base "_law_cell_at" ["script", "k"] 1 (spCell K)) : CalR P w K mg base "_law_bag" ["script", "k"] 2 (spBag K) := by
  obtain ⟨f, fd, hm, F⟩ := d
  obtain ⟨f1, fd1, hm1, F1, kp1, b1⟩ := cd
  obtain ⟨f2, fd2, hm2, F2, kp2, b2⟩ := cc
  refine ⟨f, fd, hm, F.ok sc__law_bag (fun vs H Q E h => ?_) (fun cdv A outer s H vs Q E hr h => ?_), F.kp, FunD.bindsN F fun _ _ _ _ _ _ us hl => match us, hl with | [_, _], _ => rfl⟩
  · obtain ⟨a, ns, k, rfl, _⟩ := h; rfl
  · obtain ⟨a, ns, k, rfl, hS, hk, hq⟩ := h
    refine ⟨_, PSs.nox (pss_one (ps_ret (pe_lst (pa_cons (pe_call F1 hr rfl hm1 kp1 b1 .nil pass0 (pa_cons (pe_call F2 hr rfl hm2 kp2 b2 .nil pass0 (pa_cons (pv 0) (pa_cons (pv 1) pa_nil))) (pa_cons pe_int (pa_cons pe_int pa_nil)))) (pa_cons pe_int pa_nil))))), ?_⟩
    refine ⟨_, rfl, _, rfl, a, ns, k, rfl, hS, hk, fun z => ⟨[], H, _, fun d => ∃ ns : List Int, d = .py (.list (pInts ns)) ∧ ns.length = 400 ∧ ∀ n ∈ ns, 0 ≤ n ∧ n < 1000, ⟨fun _ _ h => h, fun b hb => absurd hb (by simp)⟩, .cons (Rp.int _) (.cons (Rp.int _) (.cons (Rp.int _) .nil)), ⟨z, rfl, fun ns h1 h2 => ⟨ns, rfl, h1, h2⟩⟩, ?_⟩⟩
    rintro v d G' H' st r ⟨ns, rfl, h1, h2⟩
    cases r with
    | lst k1 k2 =>
      have := k2.ints; subst this
      have hs : Same H H' := st.up.trans st.wd.sub
      refine ⟨(by show 2 ≤ sizeLine; decide), fun p hp => hq p _ (hs.trans (Same.updN hp)) (hs.free hp) ⟨_, ns, upd_same, ?_, h1, h2⟩⟩
      have := st.wd.sub _ _ k1
      rw [upd_ne (ne_of_none this hp)]; exact this
theorem cal_law_bags (d : Def K mg "_law_bags" s__law_bags) (T : Bl mg) (cb : CalR P w K mg base "_law_bag" ["script", "k"] 2 (spBag K)) : CalR P w K mg base "_law_bags" ["script", "limit"] 3 (spBags K) := by
  obtain ⟨f, fd, hm, F⟩ := d
  obtain ⟨f1, fd1, hm1, F1, kp1, b1⟩ := cb
  refine ⟨f, fd, hm, F.ok sc__law_bags (fun vs H Q E h => ?_) (fun cdv A outer s H vs Q E hr h => ?_), F.kp, FunD.bindsN F fun _ _ _ _ _ _ us hl => match us, hl with | [_, _], _ => rfl⟩
  · obtain ⟨a, ns, k, rfl, _⟩ := h; rfl
  · obtain ⟨a, ns, lim, rfl, hS, hl, h0, h1, hq⟩ := h
    refine ⟨_, PSs.nox (pss_one (ps_ret (pe_lc (own := [("k", 2)]) (g := gName 2) (tt := tYes) rfl sc__law_bags.nd (pi_range1 rfl T.range (pa_cons (pe_callB (call_max2 rfl) (by rfl) T.max bo_max (pa_cons pe_int (pa_cons (pe_callB (call_min2 rfl) (by rfl) T.min bo_min (pa_cons (pv 1) (pa_cons (pe_callB call_len (by rfl) T.len PySem.boot_len (pa_cons (pv 0) pa_nil)) pa_nil))) pa_nil))) pa_nil))
      (blkOk_by (N := ["script", "limit", "k"]) (sc := defScope s__law_bags) (by decide +kernel)) (fun _ _ _ _ _ => pg_name (i := 2) sc__law_bags.nd rfl (Or.inl rfl)) (fun _ _ _ _ _ => pts_nil) (fun _ _ _ _ _ => pe_call F1 hr rfl hm1 kp1 b1 .nil pass0 (pa_cons (pv 0) (pa_cons (pv 2) pa_nil)))))), ?_⟩
    refine ⟨_, rfl, _, rfl, _, _, rfl, .inl ⟨_, hS, rfl⟩, _, _, rfl, _, _, rfl, _, rfl, ?_, ?_, fun D hD => ?_⟩
    · rw [List.length_map]; split <;> (try split) <;> omega
    · rw [List.length_map]; split <;> (try split) <;> omega
    · refine lc_range (lo := 0) (n := _) (fun i H' => ∃ bs : List Addr, H' D = some (.lst (bs.map V.ref)) ∧ Same H H' ∧ bs.length ≤ i ∧ ∀ b ∈ bs, H b = none ∧ b ≠ D ∧ RawBag H' b) ⟨[], upd_same, Same.updN hD, Nat.le_refl _, fun b hb => absurd hb (by simp)⟩ ?_ ?_
      · rintro i H' hi ⟨bs, hD2, hs, hbl, hb⟩
        refine ⟨rfl, ?_⟩
        refine tYes_if ?_
        refine ⟨_, rfl, _, rfl, a, ns, _, rfl, hs.seq hS, by omega, fun p H'' s2 hp rb => ?_⟩
        have hne : p ≠ D := fun e => by subst e; rw [hp] at hD2; cases hD2
        refine ⟨_, s2 _ _ hD2, ?_, bs ++ [p], ?_, fun b o h => ?_, by rw [List.length_append]; simpa using hbl, fun b hbm => ?_⟩
        · rw [List.length_map]
          refine Nat.lt_of_le_of_lt hbl (Nat.lt_of_lt_of_le hi ?_)
          refine Nat.le_trans ?_ (show 1000 ≤ sizeLine by decide)
          rw [List.length_map]; split <;> (try split) <;> omega
        · rw [upd_same, List.map_append]; rfl
        · have ne : b ≠ D := fun e => by subst e; rw [h] at hD; cases hD
          rw [upd_ne ne]; exact s2 _ _ (hs _ _ h)
        · have key : ∀ b, b ≠ D → RawBag H'' b → RawBag (upd H'' D (.lst (bs.map V.ref ++ [.ref p]))) b := by
            rintro b ne ⟨dl, ms, k1, k2, k3, k4⟩
            have nd : dl ≠ D := fun e => by
              subst e
              have := s2 _ _ hD2; rw [k2] at this
              cases ms with
              | nil => cases k3
              | cons m ms => cases bs <;> cases this
            exact ⟨dl, ms, by rw [upd_ne ne]; exact k1, by rw [upd_ne nd]; exact k2, k3, k4⟩
          rcases List.mem_append.mp hbm with z | z
          · obtain ⟨y1, y2, y3⟩ := hb b z
            exact ⟨y1, y2, key b y2 (y3.up s2)⟩
          · have := List.mem_singleton.mp z; subst this
            exact ⟨hs.free hp, hne, key b hne rb⟩
      · rintro H' ⟨bs, hD2, hs, _, hb⟩
        exact hq D bs H' hs hD2 hb hD
end
/-! ### far draws, stairs, walkers of the bag -/
def C_far : Ct := fun B ds post => ∃ (b : Addr) (many : Int), ds = [.raw (.ref b), .py (.int many)] ∧ bagIn B b ∧ 0 < many ∧ ∀ r : Int, 0 ≤ r → r < many → post (.py (.int r))
structure OkStair (day : Int) (lamps : List Int) : Prop where
  d1 : 1 ≤ day
  d2 : day ≤ 1000000
  l1 : 1 ≤ lamps.length
  l2 : lamps.length ≤ 6
  lp : ∀ x ∈ lamps, 1 ≤ x ∧ x ≤ 1000000
def C_stair : Ct := fun B ds post => ∃ (b : Addr) (days burnings landings : Int), ds = [.raw (.ref b), .py (.int days), .py (.int burnings), .py (.int landings)] ∧ bagIn B b ∧ 1 ≤ days ∧ days ≤ 1000000 ∧ 1 ≤ burnings ∧ burnings ≤ 1000000 ∧ 1 ≤ landings ∧ landings ≤ 6 ∧
  ∀ (day : Int) (lamps : List Int), OkStair day lamps → day ≤ days → (lamps.length : Int) ≤ landings → (∀ x ∈ lamps, x ≤ burnings) → post (.py (stairPy day lamps))
abbrev s__law_far_draw : Stmt := top 27
theorem sc__law_far_draw : FnScope ["bag", "many", "found", "much"] ["bag", "many"] (defScope s__law_far_draw) := ⟨rfl, rfl, rfl, by decide +kernel, rfl, by decide +kernel, by decide +kernel⟩
abbrev s__law_stair : Stmt := top 30
theorem sc__law_stair : FnScope ["bag", "days", "burnings", "landings", "day", "lamps", "k"] ["bag", "days", "burnings", "landings"] (defScope s__law_stair) := ⟨rfl, rfl, rfl, by decide +kernel, rfl, by decide +kernel, by decide +kernel⟩
theorem far_pick {d a b c e : PyData} {r : Int} (h0 : 0 ≤ r) (h1 : r < 4) (h : atI [a, b, c, e] r = some d) : d = a ∨ d = b ∨ d = c ∨ d = e := by
  obtain ⟨n, rfl⟩ : ∃ n : Nat, r = (n : Int) := ⟨r.toNat, (Int.toNat_of_nonneg h0).symm⟩
  have : n = 0 ∨ n = 1 ∨ n = 2 ∨ n = 3 := by omega
  rcases this with rfl | rfl | rfl | rfl
  · have : some a = some d := atI_0.symm.trans h
    exact .inl (Option.some.inj this).symm
  · have : some b = some d := atI_1.symm.trans h
    exact .inr (.inl (Option.some.inj this).symm)
  · have : some c = some d := atI_2.symm.trans h
    exact .inr (.inr (.inl (Option.some.inj this).symm))
  · have : some e = some d := atI_3.symm.trans h
    exact .inr (.inr (.inr (Option.some.inj this).symm))
theorem four_cases {r : Int} (h0 : 0 ≤ r) (h1 : r < 4) : r = 0 ∨ r = 1 ∨ r = 2 ∨ r = 3 := by omega
theorem two_cases {r : Int} (h0 : 0 ≤ r) (h1 : r < 2) : r = 0 ∨ r = 1 := by omega
section
variable {P : Program} {w : World} {K : Kf} {mg : Str → Option Value} {base : Heap}
theorem cal_law_far_draw (d : Def K mg "_law_far_draw" s__law_far_draw) (T : Bl mg) (c_law_take : Cal P w K mg base "_law_take" ["bag", "many"] 1 C_take) : Cal P w K mg base "_law_far_draw" ["bag", "many"] 2 C_far := by
  refine calD d sc__law_far_draw (fun B ds post ⟨_, _, e, _⟩ => by subst e; exact ⟨rfl, fun d hd => by simp at hd; rcases hd with rfl | rfl <;> first | exact free_py | exact free_raw⟩) (fun _ _ _ _ _ _ _ us hl => match us, hl with | [_, _], _ => rfl) (fun f cdv A outer s H E B ds post hr c => ⟨_, (psd_cons (psd_par (i := 2) (j := 3) rfl sc__law_far_draw.nd rfl rfl (by decide) rfl rfl pd_int (pd_var 1) (by rfl))
        (psd_cons (psd_while PassesOwn.never (pdt_cmp op_gt od_gt (pd_var 3) pd_int (nomark _)) (psd_one (psd_par (i := 2) (j := 3) rfl sc__law_far_draw.nd rfl rfl (by decide) rfl rfl (pd_add (pd_mul pd_int (pd_var 2)) (pd_cal c_law_take hr (pda_cons (pd_var 0) (pda_cons pd_int pda_nil)))) (pd_fdiv (pd_var 3) pd_int) (by rfl))))
        (psd_one (psd_ret (pd_ix (pd_lst (pda_cons (pd_mod (pd_var 2) (pd_var 1)) (pda_cons pd_int (pda_cons (pd_sub (pd_var 1) pd_int) (pda_cons (pd_mod (pd_var 2) (pd_var 1)) pda_nil))))) (pd_cal c_law_take hr (pda_cons (pd_var 0) (pda_cons pd_int pda_nil)))))))), ?_⟩)
  obtain ⟨b, many, rfl, hb, h0, hp⟩ := c
  refine at_st (S' := [some (.raw (.ref b)), some (.py (.int many)), none, none]) rfl ?_
  walk_at "dl"
  refine ⟨fun m S' => ∃ x y : Int, S' = [some (.raw (.ref b)), some (.py (.int many)), some (.py (.int x)), some (.py (.int y))] ∧ 0 ≤ y ∧ m = y.toNat, ⟨_, _, _, rfl, by omega, rfl⟩, ?_⟩
  rintro m S' ⟨x, y, rfl, hy, rfl⟩
  walk_at "dl"
  refine if_dec (fun h => ?_) (fun h => ?_)
  · refine ⟨cmul_l ⟨by decide, by decide⟩, b, _, rfl, hb, by decide, fun r h1 h2 h3 => ⟨⟨by decide, by decide⟩, _, ?_, _, _, rfl, Int.ediv_nonneg hy (by decide), rfl⟩⟩
    have := Int.ediv_nonneg hy (show (0 : Int) ≤ 1000 by decide)
    have : y / 1000 < y := Int.ediv_lt_self_of_pos_of_ne_one h (by decide)
    omega
  · have e0 := Int.emod_nonneg x (show many ≠ 0 by omega)
    have e1 := Int.emod_lt_of_pos x h0
    refine ⟨h0, h0, b, _, rfl, hb, by decide, fun r h1 h2 h3 => ?_⟩
    rcases four_cases h1 h2 with rfl | rfl | rfl | rfl <;> walk_at "dl"
    · exact hp _ e0 e1
    · exact hp _ (by decide) h0
    · exact hp _ (by omega) (by omega)
    · exact hp _ e0 e1
theorem cal_law_stair (d : Def K mg "_law_stair" s__law_stair) (T : Bl mg) (c_law_take : Cal P w K mg base "_law_take" ["bag", "many"] 1 C_take) (c_law_far_draw : Cal P w K mg base "_law_far_draw" ["bag", "many"] 2 C_far) : Cal P w K mg base "_law_stair" ["bag", "days", "burnings", "landings"] 3 C_stair := by
  refine calD d sc__law_stair (fun B ds post ⟨_, _, _, _, e, _⟩ => by subst e; exact ⟨rfl, fun d hd => by simp at hd; rcases hd with rfl | rfl | rfl | rfl <;> first | exact free_py | exact free_raw⟩) (fun _ _ _ _ _ _ _ us hl => match us, hl with | [_, _, _, _], _ => rfl) (fun f cdv A outer s H E B ds post hr c => ⟨_, (psd_cons (psd_set (i := 4) sc__law_stair.nd rfl (Or.inl rfl) (pd_add pd_int (pd_cal c_law_far_draw hr (pda_cons (pd_var 0) (pda_cons (pd_var 1) pda_nil)))))
        (psd_cons (psd_setLc (i := 5) (own := [("k", 6)]) (g := (dgName 6)) (t := dYes) rfl sc__law_stair.nd rfl rfl (sw_true rfl rfl rfl (by decide +kernel)) (pdi_range1 (by rfl) T.range (pd_add pd_int (pd_cal c_law_take hr (pda_cons (pd_var 0) (pda_cons (pd_var 3) pda_nil))))) (blkOk_by (N := ["bag", "days", "burnings", "landings", "day", "lamps", "k"]) (sc := defScope s__law_stair) (by decide +kernel)) (fun _ _ _ _ _ => (pdg_name (i := 6) sc__law_stair.nd rfl (Or.inl rfl))) (fun _ _ _ _ _ => ptd_nil) (fun _ _ _ _ _ => (pd_add pd_int (pd_cal c_law_far_draw hr (pda_cons (pd_var 0) (pda_cons (pd_var 2) pda_nil))))))
        (psd_one (psd_ret (pd_tup (pda_cons (pd_var 4) (pda_cons (pd_tupleOf T (pd_var 5)) pda_nil))))))), ?_⟩)
  obtain ⟨b, days, burnings, landings, rfl, hb, d1, d2, b1, b2, l1, l2, hp⟩ := c
  refine at_st (S' := [some (.raw (.ref b)), some (.py (.int days)), some (.py (.int burnings)), some (.py (.int landings)), none, none, none]) rfl ?_
  walk_at "dl"
  refine ⟨b, _, rfl, hb, by omega, fun r h1 h2 => ⟨b, _, rfl, hb, by omega, fun q g1 g2 g3 => ?_⟩⟩
  walk_at "dl"
  refine ⟨by omega, by omega, fun i acc => ∃ ns : List Int, acc = pInts ns ∧ ns.length = i ∧ ∀ x ∈ ns, 1 ≤ x ∧ x ≤ burnings, ⟨[], rfl, rfl, fun x h => absurd h (by simp)⟩, ?_, ?_⟩
  · rintro i d acc hi ⟨ns, rfl, hl, hn⟩
    obtain ⟨hi1, rfl⟩ := range_get hi
    walk_at "dl"
    refine ⟨b, _, rfl, hb, by omega, fun x x1 x2 => ⟨?_, _, snoc_int _ _, by rw [List.length_append, hl, List.length_singleton], all_snoc hn (by omega)⟩⟩
    have : (pInts ns).length ≤ 6 := by rw [List.length_map, hl]; omega
    exact Nat.lt_of_le_of_lt this (by decide)
  · rintro acc ⟨ns, rfl, hl, hn⟩
    rw [List.length_map, List.length_range] at hl
    have hl2 : (ns.length : Int) = 1 + q := by omega
    have o : OkStair (1 + r) ns := ⟨by omega, by omega, by omega, by omega, fun x hx => ⟨(hn x hx).1, by have := (hn x hx).2; omega⟩⟩
    exact hp _ _ o (by omega) (by omega) fun x hx => (hn x hx).2
end
def lawNames : List Str := ["ann", "bo", "cy", "dee", "eli", "fay", "gus", "hal"]
structure LawWs (day many far : Int) (ws : List Walker) : Prop where
  n1 : 1 ≤ ws.length
  n2 : (ws.length : Int) ≤ many
  wk : ∀ (i : Nat) (w : Walker), ws[i]? = some w → lawNames[i]? = some w.nm ∧ 0 ≤ w.bg ∧ w.bg < day ∧ 0 ≤ w.pc ∧ (w.pc ≤ 6 ∨ w.pc ≤ far)
def C_walkers : Ct := fun B ds post => ∃ (b : Addr) (day : Int) (lamps : List Int) (many far : Int), ds = [.raw (.ref b), .py (stairPy day lamps), .py (.int many), .py (.int far)] ∧ bagIn B b ∧ 1 ≤ day ∧ 1 ≤ many ∧ many ≤ 8 ∧ 0 ≤ far ∧
  ∀ ws : List Walker, LawWs day many far ws → post (.py (walkersPy ws))
abbrev s__law_walkers : Stmt := top 31
theorem sc__law_walkers : FnScope ["bag", "stair", "many", "far", "names", "found", "name", "begin", "pace"] ["bag", "stair", "many", "far"] (defScope s__law_walkers) := ⟨rfl, rfl, rfl, by decide +kernel, rfl, by decide +kernel, by decide +kernel⟩
theorem snoc_w (ws : List Walker) (w : Walker) : ws.map Walker.py ++ [w.py] = (ws ++ [w]).map Walker.py := by rw [List.map_append]; rfl
theorem snoc_get {α : Type} {l : List α} {x : α} {P : Nat → α → Prop} (h : ∀ i y, l[i]? = some y → P i y) (hx : P l.length x) : ∀ i y, (l ++ [x])[i]? = some y → P i y := fun i y e => by
  by_cases hi : i < l.length
  · rw [List.getElem?_append_left hi] at e; exact h i y e
  · rw [List.getElem?_append_right (by omega)] at e
    by_cases h0 : i - l.length = 0
    · rw [h0] at e
      have e1 : x = y := Option.some.inj e
      subst e1
      have : i = l.length := by omega
      subst this; exact hx
    · rw [List.getElem?_eq_none (by show 1 ≤ _; omega)] at e; cases e
section
variable {P : Program} {w : World} {K : Kf} {mg : Str → Option Value} {base : Heap}
theorem cal_law_walkers (d : Def K mg "_law_walkers" s__law_walkers) (T : Bl mg) (c_law_take : Cal P w K mg base "_law_take" ["bag", "many"] 1 C_take) (c_law_far_draw : Cal P w K mg base "_law_far_draw" ["bag", "many"] 2 C_far) : Cal P w K mg base "_law_walkers" ["bag", "stair", "many", "far"] 3 C_walkers := by
  refine calD d sc__law_walkers (fun B ds post ⟨_, _, _, _, _, e, _⟩ => by subst e; exact ⟨rfl, fun d hd => by simp at hd; rcases hd with rfl | rfl | rfl | rfl <;> first | exact free_py | exact free_raw⟩) (fun _ _ _ _ _ _ _ us hl => match us, hl with | [_, _, _, _], _ => rfl) (fun f cdv A outer s H E B ds post hr c => ⟨_, (psd_cons (psd_parL (i := 4) (j := 5) rfl sc__law_walkers.nd rfl rfl (by decide) rfl rfl (pd_lst (pda_cons pd_str (pda_cons pd_str (pda_cons pd_str (pda_cons pd_str (pda_cons pd_str (pda_cons pd_str (pda_cons pd_str (pda_cons pd_str pda_nil))))))))) (by rfl))
        (psd_cons (psd_for PassesOwn.never rfl (pdi_list (pd_slice (pd_var 4) pdo_none (pdo_some (pd_add pd_int (pd_cal c_law_take hr (pda_cons (pd_var 0) (pda_cons (pd_var 2) pda_nil))))))) (pdg_name (i := 6) sc__law_walkers.nd rfl (Or.inl rfl)) (psd_cons (psd_set (i := 7) sc__law_walkers.nd rfl (Or.inl rfl) (pd_ix (pd_lst (pda_cons pd_int (pda_cons (pd_cal c_law_far_draw hr (pda_cons (pd_var 0) (pda_cons (pd_ix (pd_var 1) pd_int) pda_nil))) (pda_cons (pd_cal c_law_take hr (pda_cons (pd_var 0) (pda_cons (pd_min2 T rfl pd_int (pd_ix (pd_var 1) pd_int)) pda_nil))) (pda_cons (pd_sub (pd_ix (pd_var 1) pd_int) pd_int) pda_nil))))) (pd_cal c_law_take hr (pda_cons (pd_var 0) (pda_cons pd_int pda_nil)))))
        (psd_cons (psd_set (i := 8) sc__law_walkers.nd rfl (Or.inl rfl) (pd_ix (pd_lst (pda_cons pd_int (pda_cons pd_int (pda_cons (pd_cal c_law_take hr (pda_cons (pd_var 0) (pda_cons pd_int pda_nil))) (pda_cons (pd_cal c_law_take hr (pda_cons (pd_var 0) (pda_cons (pd_add (pd_var 3) pd_int) pda_nil))) pda_nil))))) (pd_cal c_law_take hr (pda_cons (pd_var 0) (pda_cons pd_int pda_nil)))))
        (psd_one (psd_app (i := 5) rfl (Or.inl rfl) (by decide) (by decide) (pd_tup (pda_cons (pd_var 6) (pda_cons (pd_var 7) (pda_cons (pd_var 8) (pda_cons (pd_ix (pd_lst (pda_cons pd_str (pda_cons pd_str pda_nil))) (pd_cal c_law_take hr (pda_cons (pd_var 0) (pda_cons pd_int pda_nil)))) pda_nil))))) (fun ho ha => pe_bm PySem.F.plainAttrs_list PySem.F.slot_list_append PySem.F.type_list_append mt_append ho ha) (by rfl) (by rfl))))))
        (psd_one (psd_ret (pd_tupleOf T (pd_var 5)))))), ?_⟩)
  obtain ⟨b, day, lamps, many, far, rfl, hb, d1, m1, m2, f0, hp⟩ := c
  refine at_st (S' := [some (.raw (.ref b)), some (.py (stairPy day lamps)), some (.py (.int many)), some (.py (.int far)), none, none, none, none, none]) rfl ?_
  walk_at "dl"
  refine ⟨b, _, rfl, hb, by omega, fun q g1 g2 g3 => ?_⟩
  walk_at "dl"
  obtain ⟨n, hn⟩ : ∃ n : Nat, 1 + q = (n : Int) := ⟨(1 + q).toNat, by omega⟩
  rw [hn, cut_to]
  refine ⟨fun i S' => ∃ (ws : List Walker) (nl : PyData) (x1 x2 x3 : Option D), S' = [some (.raw (.ref b)), some (.py (stairPy day lamps)), some (.py (.int many)), some (.py (.int far)), some (.py nl), some (.ol (ws.map Walker.py)), x1, x2, x3] ∧ ws.length = i ∧ ∀ (i : Nat) (w : Walker), ws[i]? = some w → lawNames[i]? = some w.nm ∧ 0 ≤ w.bg ∧ w.bg < day ∧ 0 ≤ w.pc ∧ (w.pc ≤ 6 ∨ w.pc ≤ far), ⟨[], _, _, _, _, rfl, rfl, fun i w h => by simp at h⟩, ?_, ?_⟩
  · rintro i d S' hi ⟨ws, nl, x1, x2, x3, rfl, hl, hw⟩
    obtain ⟨hi1, nm, hnm, rfl⟩ : i < n ∧ ∃ nm, lawNames[i]? = some nm ∧ d = .str nm := by
      have h0 := (List.getElem?_eq_some_iff.mp hi).1
      rw [List.length_take] at h0
      have h1 : i < n := by omega
      rw [List.getElem?_take_of_lt h1] at hi
      obtain ⟨nm, k1, k2⟩ := map_get (l := lawNames) (f := PyData.str) hi
      exact ⟨h1, nm, k1, k2.symm⟩
    have hlen : (ws.map Walker.py).length < 16000000 := by rw [List.length_map]; omega
    walk_at "dl"
    refine ⟨b, day, rfl, hb, by omega, fun r1 a1 a2 => ⟨b, _, rfl, hb, by split <;> omega, fun r2 a3 a4 a5 => ⟨(show (4 : Nat) ≤ 1000 by decide), b, _, rfl, hb, by decide, fun r3 a6 a7 a8 => ?_⟩⟩⟩
    have a4' : r2 < day := by split at a4 <;> omega
    have hbg : ∃ bg : Int, atI [PyData.int 0, PyData.int r1, PyData.int r2, PyData.int (day - 1)] r3 = some (.int bg) ∧ 0 ≤ bg ∧ bg < day := by
      rcases four_cases a6 a7 with rfl | rfl | rfl | rfl
      · exact ⟨_, atI_0, by omega, by omega⟩
      · exact ⟨_, atI_1, by omega, by omega⟩
      · exact ⟨_, atI_2, by omega, by omega⟩
      · exact ⟨_, atI_3, by omega, by omega⟩
    obtain ⟨bg, hbg, bg0, bg1⟩ := hbg
    walk_at "dl"
    rw [hbg]
    walk_at "dl"
    refine ⟨b, _, rfl, hb, by decide, fun r4 b1 b2 b3 => ⟨b, _, rfl, hb, by omega, fun r5 b4 b5 b6 => ⟨(show (4 : Nat) ≤ 1000 by decide), b, _, rfl, hb, by decide, fun r6 b7 b8 b9 => ?_⟩⟩⟩
    have hpc : ∃ pc : Int, atI [PyData.int 0, PyData.int 1, PyData.int r4, PyData.int r5] r6 = some (.int pc) ∧ 0 ≤ pc ∧ (pc ≤ 6 ∨ pc ≤ far) := by
      rcases four_cases b7 b8 with rfl | rfl | rfl | rfl
      · exact ⟨_, atI_0, by omega, by omega⟩
      · exact ⟨_, atI_1, by omega, by omega⟩
      · exact ⟨_, atI_2, by omega, by omega⟩
      · exact ⟨_, atI_3, by omega, by omega⟩
    obtain ⟨pc, hpc, pc0, pc1⟩ := hpc
    walk_at "dl"
    rw [hpc]
    walk_at "dl"
    refine ⟨b, _, rfl, hb, by decide, fun r7 e1 e2 e3 => ?_⟩
    have hup : ∃ up : Bool, atI [PyData.str "up", PyData.str "down"] r7 = some (.str (Walker.way ⟨nm, bg, pc, up⟩)) := by
      rcases two_cases e1 e2 with rfl | rfl
      · exact ⟨true, atI_0⟩
      · exact ⟨false, atI_1⟩
    obtain ⟨up, hup⟩ := hup
    walk_at "dl"
    rw [hup]
    walk_at "dl"
    exact ⟨hlen, ws ++ [⟨nm, bg, pc, up⟩], _, _, _, _, by rw [← snoc_w]; rfl, by rw [List.length_append, hl]; rfl, snoc_get hw (by rw [hl]; exact ⟨hnm, bg0, bg1, pc0, pc1⟩)⟩
  · rintro S' ⟨ws, nl, x1, x2, x3, rfl, hl, hw⟩
    rw [List.length_take] at hl
    have hl : ws.length = min n 8 := hl
    walk_at "dl"
    exact hp ws ⟨by omega, by omega, hw⟩
end
local macro_rules | `(tactic| walk_at "dl") => `(tactic| simp only [atI_0, atI_1, atI_2, atI_3, stairPy, walkersPy, Walker.py, firstPy, if_true, if_false, List.length_cons, List.length_nil, Nat.reduceAdd, Nat.reduceLeDiff, Nat.zero_add, true_and, and_true, dSeq, dNext, dBrk, dCont, dIfS, dRet, dRetV, dRetVO, dRetO, dSetO, List.map_cons, List.map_nil, dSet, dSetL, dSetD, dApp, dDrop, dPar, dPar3, dParL, dPut, dWhile, dFor, dAsg, dVar, dC, dOp, dUn, dB, dAnd, dOr, dNot, dAndV, dOrV, dNotV, dIf, dNil, dCons, dChain, dTup, dLst, dCB, dCall, dSl, dNo, dPart, dLc, dYes, dDix, dDget_eq, dDin, diL, diT, diR1, diR2, diS, diZ, dgName, dgNil, dgCons, dgTup, fI, fIc, fAdd, fMul, fEq, fNe, fLt, fLe, fGt, fGe, fLtA, fSub, fFdiv, fMod, fIsN, fNotN, fIsB, fNotB, fIx, fSl, fIn, fInS, fDix, cLen, cInt, cMax2, cMin2, cSum, cMaxL, cMinL, cAll, cAny, cTuple, cList, cSorted, cSortD, dRg, dZero, cIsi, D.py?, D.items, D.lsti, D.ty, D.kvs, keyD, pys, fre, isNonD, wipeS, Option.map, List.set, List.getElem?_cons_succ, List.getElem?_cons_zero])
/-! ### what is judged -/
abbrev small : Str := "abcdefghijklmnopqrstuvwxyz"
def withinB (d : PyData) (lo hi : Int) : Bool := match d with
  | .int i => decide (lo ≤ i) && decide (i ≤ hi)
  | _ => false
def nameB (d : PyData) : Bool := match d with
  | .str s => decide (1 ≤ s.length) && decide (s.length ≤ 8) && s.cps.toList.all fun c => decide (c ∈ small.cps.toList)
  | _ => false
def stairB (d : PyData) : Bool := match d with
  | .tuple [a, .tuple l] => withinB a 1 1000000 && decide (1 ≤ l.length) && decide (l.length ≤ 6) && l.all fun x => withinB x 1 1000000
  | _ => false
def walkerB (day : Int) (d : PyData) : Bool := match d with
  | .tuple [a, b, c, e] => nameB a && withinB b 0 (day - 1) && withinB c 0 1000 && (match e with | .str s => decide (s = "up") || decide (s = "down") | _ => false)
  | _ => false
def nmLt : PyData → PyData → Bool
  | .tuple (.str a :: _), .tuple (.str b :: _) => decide (a.cps.toList < b.cps.toList)
  | _, _ => false
def ascB : List PyData → Bool
  | a :: b :: l => nmLt a b && ascB (b :: l)
  | _ => true
def walkersB (day : Int) (d : PyData) : Bool := match d with
  | .tuple l => decide (1 ≤ l.length) && decide (l.length ≤ 8) && l.all (walkerB day) && ascB l
  | _ => false
/-- texts of a length that the model takes -/
def nmOk (q : PyData) : Prop := ∀ s, q = .str s → s.length ≤ 16000000
def wkOk (q : PyData) : Prop := ∀ a r, q = .tuple (a :: r) → nmOk a
def wsOk (q : PyData) : Prop := ∀ l, q = .tuple l → ∀ x ∈ l, wkOk x
def C_within : Ct := fun _ ds post => ∃ (q : PyData) (lo hi : Int), ds = [.py q, .py (.int lo), .py (.int hi)] ∧ post (.py (.bool (withinB q lo hi)))
def C_isname : Ct := fun _ ds post => ∃ q : PyData, ds = [.py q] ∧ nmOk q ∧ post (.py (.bool (nameB q)))
def C_isstair : Ct := fun _ ds post => ∃ q : PyData, ds = [.py q] ∧ post (.py (.bool (stairB q)))
def C_iswalker : Ct := fun _ ds post => ∃ (q : PyData) (day : Int) (lamps : List Int), ds = [.py (stairPy day lamps), .py q] ∧ wkOk q ∧ post (.py (.bool (walkerB day q)))
def C_areall : Ct := fun _ ds post => ∃ (q : PyData) (day : Int) (lamps : List Int), ds = [.py (stairPy day lamps), .py q] ∧ wsOk q ∧ post (.py (.bool (walkersB day q)))
abbrev s_is_within : Stmt := top 12
theorem sc_is_within : FnScope ["thing", "low", "high"] ["thing", "low", "high"] (defScope s_is_within) := ⟨rfl, rfl, rfl, by decide +kernel, rfl, by decide +kernel, by decide +kernel⟩
abbrev s_is_name : Stmt := top 13
theorem sc_is_name : FnScope ["thing", "sign"] ["thing"] (defScope s_is_name) := ⟨rfl, rfl, rfl, by decide +kernel, rfl, by decide +kernel, by decide +kernel⟩
abbrev s_is_stair : Stmt := top 14
theorem sc_is_stair : FnScope ["thing", "burning"] ["thing"] (defScope s_is_stair) := ⟨rfl, rfl, rfl, by decide +kernel, rfl, by decide +kernel, by decide +kernel⟩
theorem isi_int (q : PyData) : ∃ t, (D.py q).ty = some t := by cases q <;> exact ⟨_, rfl⟩
theorem all_map {α : Type} (f : α → PyData) : ∀ {bs : List Bool} {l : List α} {g : α → Bool}, bs = l.map g → bs.all id = l.all g := fun {bs l g} e => by subst e; rw [List.all_map]; rfl
section
variable {P : Program} {w : World} {K : Kf} {mg : Str → Option Value} {base : Heap}
theorem cal_is_within (d : Def K mg "is_within" s_is_within) (T : Bl mg) : Cal P w K mg base "is_within" ["thing", "low", "high"] 1 C_within := by
  refine calD d sc_is_within (fun B ds post ⟨_, _, _, e, _⟩ => by subst e; exact ⟨rfl, fun d hd => by simp at hd; rcases hd with rfl | rfl | rfl <;> exact free_py⟩) (fun _ _ _ _ _ _ _ us hl => match us, hl with | [_, _, _], _ => rfl) (fun f cdv A outer s H E B ds post hr c => ⟨_, (psd_one (psd_ret (pd_and (pd_isi T (pd_var 0) (pd_ty (by rfl) T.int bo_int)) (pd_and (pd_not (pd_isi T (pd_var 0) (pd_ty (by rfl) T.bool bo_bool))) (pd_one (pd_chain op_le op_le od_le od_le (pd_var 1) (pd_var 0) (pd_var 2))))))), ?_⟩)
  obtain ⟨q, lo, hi, rfl, hp⟩ := c
  refine at_st (S' := [some (.py q), some (.py (.int lo)), some (.py (.int hi))]) rfl ?_
  cases q with
  | int i =>
    walk_at "dl"
    refine ⟨by decide, if_t rfl ⟨by decide, if_t rfl ?_⟩⟩
    unfold withinB at hp
    refine if_dec (fun h => ?_) (fun h => ?_)
    · simp only [decide_eq_true h, Bool.true_and] at hp; exact hp
    · simp only [decide_eq_false h, Bool.false_and] at hp; exact hp
  | bool b =>
    walk_at "dl"
    exact ⟨by decide, if_t rfl ⟨by decide, if_f rfl hp⟩⟩
  | _ =>
    walk_at "dl"
    exact ⟨by decide, if_f rfl hp⟩
theorem cal_is_name (d : Def K mg "is_name" s_is_name) (T : Bl mg) (TSMALL : ∃ t, mg "SMALL" = some (.str small t)) : Cal P w K mg base "is_name" ["thing"] 1 C_isname := by
  refine calD d sc_is_name (fun B ds post ⟨_, e, _⟩ => by subst e; exact ⟨rfl, fun d hd => by simp at hd; rcases hd with rfl; exact free_py⟩) (fun _ _ _ _ _ _ _ us hl => match us, hl with | [_], _ => rfl) (fun f cdv A outer s H E B ds post hr c => ⟨_, (psd_one (psd_ret (pd_and (pd_isi T (pd_var 0) (pd_ty (by rfl) T.str bo_str)) (pd_and (pd_chain op_le op_le od_le od_le pd_int (pd_len T (pd_var 0)) pd_int) (pd_one (pd_all T rfl (pd_lc (own := [("sign", 1)]) (g := (dgName 1)) (t := dYes) rfl sc_is_name.nd (pdi_str (pd_var 0)) (blkOk_by (N := ["thing", "sign"]) (sc := defScope s_is_name) (by decide +kernel)) (fun _ _ _ _ _ => (pdg_name (i := 1) sc_is_name.nd rfl (Or.inl rfl))) (fun _ _ _ _ _ => ptd_nil) (fun _ _ _ _ _ => (pd_cmp op_in_sign od_inS (pd_var 1) (pd_globS (by rfl) TSMALL) (by rfl)))))))))), ?_⟩)
  obtain ⟨q, rfl, hq, hp⟩ := c
  refine at_st (S' := [some (.py q), none]) rfl ?_
  cases q with
  | str z =>
    walk_at "dl"
    have n1 : (1 : Int) ≤ (z.length : Int) ↔ 1 ≤ z.length := by omega
    have n2 : (z.length : Int) ≤ 8 ↔ z.length ≤ 8 := by omega
    refine ⟨by decide, if_t rfl ⟨hq z rfl, if_dec (fun h => if_dec (fun h2 => ?_) (fun h2 => ?_)) (fun h => if_f rfl ?_)⟩⟩
    · refine ⟨fun i acc => acc = ((z.cps.toList.map fun c => PyData.bool (decide (c ∈ small.cps.toList)))).take i, rfl, ?_, ?_⟩
      · rintro i d acc hi rfl
        obtain ⟨x, hx, rfl⟩ := map_get hi
        have key : (z.cps.toList.map fun c => PyData.bool (decide (c ∈ small.cps.toList)))[i]? = some (PyData.bool (decide (x ∈ small.cps.toList))) := by rw [List.getElem?_map, hx]; rfl
        walk_at "dl"
        refine ⟨x, rfl, ?_, (take_more key).symm⟩
        rw [List.length_take, List.length_map]
        have : z.cps.toList.length = z.length := by rw [Array.length_toList]; rfl
        omega
      · rintro acc rfl
        rw [List.length_map]
        refine ⟨z.cps.toList.map fun c => decide (c ∈ small.cps.toList), ?_, ?_⟩
        · rw [List.take_of_length_le (by rw [List.length_map]; exact Nat.le_refl _), List.map_map]; rfl
        · rw [List.all_map]
          have e : nameB (PyData.str z) = z.cps.toList.all (id ∘ fun c => decide (c ∈ small.cps.toList)) := by
            unfold nameB
            simp only [decide_eq_true (n1.mp h), decide_eq_true (n2.mp h2), Bool.true_and]
            rfl
          rw [← e]; exact hp
    · have e : nameB (PyData.str z) = false := by
        unfold nameB
        simp only [decide_eq_false (fun q => h2 (n2.mpr q)), Bool.and_false, Bool.false_and]
      rw [← e]; exact hp
    · have e : nameB (PyData.str z) = false := by
        unfold nameB
        simp only [decide_eq_false (fun q => h (n1.mpr q)), Bool.false_and]
      rw [← e]; exact hp
  | _ =>
    walk_at "dl"
    exact ⟨by decide, if_f rfl hp⟩
theorem cal_is_stair (d : Def K mg "is_stair" s_is_stair) (T : Bl mg) (c_is_within : Cal P w K mg base "is_within" ["thing", "low", "high"] 1 C_within) : Cal P w K mg base "is_stair" ["thing"] 2 C_isstair := by
  refine calD d sc_is_stair (fun B ds post ⟨_, e, _⟩ => by subst e; exact ⟨rfl, fun d hd => by simp at hd; rcases hd with rfl; exact free_py⟩) (fun _ _ _ _ _ _ _ us hl => match us, hl with | [_], _ => rfl) (fun f cdv A outer s H E B ds post hr c => ⟨_, (psd_cons (psd_if (PDW.t (pdw_or (pdt_not (pdt_val (pd_isi T (pd_var 0) (pd_ty (by rfl) T.tuple bo_tuple)))) (pdw_or (pdt_cmp (op_neA hr.units) od_ne (pd_len T (pd_var 0)) pd_int (nomark _)) (pdw_or1 (pdt_not (pdt_val (pd_cal c_is_within hr (pda_cons (pd_ix (pd_var 0) pd_int) (pda_cons pd_int (pda_cons (pd_pow (n := 1000000)) pda_nil)))))))))) (psd_one (psd_ret pd_bl)) psd_nil)
        (psd_cons (psd_if (PDW.t (pdw_or (pdt_not (pdt_val (pd_isi T (pd_ix (pd_var 0) pd_int) (pd_ty (by rfl) T.tuple bo_tuple)))) (pdw_or1 (pdt_not (pdt_chain op_le op_le od_le od_le pd_int (pd_len T (pd_ix (pd_var 0) pd_int)) pd_int))))) (psd_one (psd_ret pd_bl)) psd_nil)
        (psd_one (psd_ret (pd_all T rfl (pd_lc (own := [("burning", 1)]) (g := (dgName 1)) (t := dYes) rfl sc_is_stair.nd (pdi_tup (pd_ix (pd_var 0) pd_int)) (blkOk_by (N := ["thing", "burning"]) (sc := defScope s_is_stair) (by decide +kernel)) (fun _ _ _ _ _ => (pdg_name (i := 1) sc_is_stair.nd rfl (Or.inl rfl))) (fun _ _ _ _ _ => ptd_nil) (fun _ _ _ _ _ => (pd_cal c_is_within hr (pda_cons (pd_var 1) (pda_cons pd_int (pda_cons (pd_pow (n := 1000000)) pda_nil))))))))))), ?_⟩)
  obtain ⟨q, rfl, hp⟩ := c
  refine at_st (S' := [some (.py q), none]) rfl ?_
  cases q with
  | tuple l =>
    walk_at "dl"
    refine ⟨by decide, if_f rfl (if_ndec (fun h => ?_) (fun h => ?_))⟩
    · have e : stairB (.tuple l) = false := by
        rcases l with _ | ⟨a, _ | ⟨b, _ | ⟨c, r⟩⟩⟩
        · rfl
        · rfl
        · exact absurd rfl h
        · cases b <;> rfl
      rw [e] at hp; exact hp
    · obtain ⟨a, b, rfl⟩ : ∃ a b, l = [a, b] := by
        rcases l with _ | ⟨a, _ | ⟨b, _ | ⟨c, r⟩⟩⟩
        · cases h
        · cases h
        · exact ⟨a, b, rfl⟩
        · exfalso; simp only [List.length_cons] at h; omega
      walk_at "dl"
      refine ⟨a, _, _, rfl, ?_⟩
      walk_at "dl"
      refine if_nb (fun hw => ?_) (fun hw => ?_)
      · have e : stairB (.tuple [a, b]) = false := by cases b <;> first | rfl | (unfold stairB; simp only [hw, Bool.false_and])
        rw [e] at hp; exact hp
      · cases b with
        | tuple l =>
          have n1 : (1 : Int) ≤ (l.length : Int) ↔ 1 ≤ l.length := by omega
          have n2 : (l.length : Int) ≤ 6 ↔ l.length ≤ 6 := by omega
          unfold stairB at hp
          walk_at "dl"
          refine ⟨by decide, if_f rfl (if_dec (fun h1 => if_ndec (fun h2 => ?_) (fun h2 => ?_)) (fun h1 => if_t rfl ?_))⟩
          · simp only [decide_eq_false (fun q => h2 (n2.mpr q)), Bool.and_false, Bool.false_and] at hp; exact hp
          · simp only [hw, decide_eq_true (n1.mp h1), decide_eq_true (n2.mp h2), Bool.true_and] at hp
            exact all_lc (fun x => withinB x 1 1000000) (fun d p => C_within B [D.py d, D.py (PyData.int 1), D.py (PyData.int 1000000)] p) (by omega) (fun i d _ p hp => ⟨d, _, _, rfl, hp⟩) hp
          · simp only [decide_eq_false (fun q => h1 (n1.mpr q)), Bool.and_false, Bool.false_and] at hp; exact hp
        | _ =>
          walk_at "dl"
          exact ⟨by decide, hp⟩
  | _ =>
    walk_at "dl"
    exact ⟨by decide, hp⟩
end
abbrev s_is_walker : Stmt := top 16
theorem sc_is_walker : FnScope ["stair", "thing"] ["stair", "thing"] (defScope s_is_walker) := ⟨rfl, rfl, rfl, by decide +kernel, rfl, by decide +kernel, by decide +kernel⟩
abbrev s_are_all_walkers : Stmt := top 17
theorem sc_are_all_walkers : FnScope ["stair", "thing", "one", "other"] ["stair", "thing"] (defScope s_are_all_walkers) := ⟨rfl, rfl, rfl, by decide +kernel, rfl, by decide +kernel, by decide +kernel⟩
section
variable {P : Program} {w : World} {K : Kf} {mg : Str → Option Value} {base : Heap}
theorem cal_is_walker (d : Def K mg "is_walker" s_is_walker) (T : Bl mg) (c_is_within : Cal P w K mg base "is_within" ["thing", "low", "high"] 1 C_within) (c_is_name : Cal P w K mg base "is_name" ["thing"] 1 C_isname) : Cal P w K mg base "is_walker" ["stair", "thing"] 2 C_iswalker := by
  refine calD d sc_is_walker (fun B ds post ⟨_, _, _, e, _⟩ => by subst e; exact ⟨rfl, fun d hd => by simp at hd; rcases hd with rfl | rfl <;> exact free_py⟩) (fun _ _ _ _ _ _ _ us hl => match us, hl with | [_, _], _ => rfl) (fun f cdv A outer s H E B ds post hr c => ⟨_, (psd_cons (psd_if (PDW.t (pdw_or (pdt_not (pdt_val (pd_isi T (pd_var 1) (pd_ty (by rfl) T.tuple bo_tuple)))) (pdw_or (pdt_cmp (op_neA hr.units) od_ne (pd_len T (pd_var 1)) pd_int (nomark _)) (pdw_or1 (pdt_not (pdt_val (pd_cal c_is_name hr (pda_cons (pd_ix (pd_var 1) pd_int) pda_nil)))))))) (psd_one (psd_ret pd_bl)) psd_nil)
        (psd_cons (psd_if (PDW.t (pdw_or (pdt_not (pdt_val (pd_cal c_is_within hr (pda_cons (pd_ix (pd_var 1) pd_int) (pda_cons pd_int (pda_cons (pd_sub (pd_ix (pd_var 0) pd_int) pd_int) pda_nil)))))) (pdw_or1 (pdt_not (pdt_val (pd_cal c_is_within hr (pda_cons (pd_ix (pd_var 1) pd_int) (pda_cons pd_int (pda_cons pd_int pda_nil))))))))) (psd_one (psd_ret pd_bl)) psd_nil)
        (psd_one (psd_ret (pd_and (pd_isi T (pd_ix (pd_var 1) pd_int) (pd_ty (by rfl) T.str bo_str)) (pd_one (pd_cmp op_in_seq od_in (pd_ix (pd_var 1) pd_int) (pd_tup (pda_cons pd_str (pda_cons pd_str pda_nil))) (by rfl)))))))), ?_⟩)
  obtain ⟨q, day, lamps, rfl, hq, hp⟩ := c
  refine at_st (S' := [some (.py (stairPy day lamps)), some (.py q)]) rfl ?_
  cases q with
  | tuple l =>
    walk_at "dl"
    refine ⟨by decide, if_f rfl (if_ndec (fun h => ?_) (fun h => ?_))⟩
    · have e : walkerB day (.tuple l) = false := by
        rcases l with _ | ⟨a, _ | ⟨b, _ | ⟨c, _ | ⟨e, _ | ⟨f, r⟩⟩⟩⟩⟩ <;> first | rfl | exact absurd rfl h
      rw [e] at hp; exact hp
    · obtain ⟨a, b, c, e, rfl⟩ : ∃ a b c e, l = [a, b, c, e] := by
        rcases l with _ | ⟨a, _ | ⟨b, _ | ⟨c, _ | ⟨e, _ | ⟨f, r⟩⟩⟩⟩⟩ <;> first | exact ⟨_, _, _, _, rfl⟩ | cases h | (exfalso; simp only [List.length_cons] at h; omega)
      unfold walkerB at hp
      walk_at "dl"
      refine ⟨a, rfl, hq a _ rfl, ?_⟩
      walk_at "dl"
      refine if_nb (fun h1 => ?_) (fun h1 => ?_)
      · simp only [h1, Bool.false_and] at hp; exact hp
      · refine ⟨b, _, _, rfl, ?_⟩
        walk_at "dl"
        refine if_nb (fun h2 => ?_) (fun h2 => ?_)
        · simp only [h2, Bool.and_false, Bool.false_and] at hp; exact hp
        · refine ⟨c, _, _, rfl, ?_⟩
          walk_at "dl"
          refine if_nb (fun h3 => ?_) (fun h3 => ?_)
          · simp only [h3, Bool.and_false, Bool.false_and] at hp; exact hp
          · simp only [h1, h2, h3, Bool.true_and] at hp
            cases e with
            | str z =>
              walk_at "dl"
              refine ⟨by decide, if_t rfl ⟨rfl, rfl, ?_⟩⟩
              have e : ([PyData.str "up", PyData.str "down"].any fun e => e.eqv (PyData.str z)) = (decide (z = "up") || decide (z = "down")) := by
                simp only [List.any_cons, List.any_nil, Bool.or_false, PyData.eqv]
                rw [show decide (z = ("up" : Str)) = decide (("up" : Str) = z) from decide_eq_decide.mpr eq_comm, show decide (z = ("down" : Str)) = decide (("down" : Str) = z) from decide_eq_decide.mpr eq_comm]
                first | rfl | simp only [beq_eq_decide]
              rw [e]; exact hp
            | _ =>
              walk_at "dl"
              exact ⟨by decide, if_f rfl hp⟩
  | _ =>
    walk_at "dl"
    exact ⟨by decide, hp⟩
theorem walkerB_shape {day : Int} {q : PyData} (h : walkerB day q = true) : ∃ (nm : Str) (bg pc : Int) (way : Str), q = .tuple [.str nm, .int bg, .int pc, .str way] ∧ nameB (.str nm) = true ∧ 0 ≤ bg ∧ bg < day ∧ 0 ≤ pc ∧ pc ≤ 1000 ∧ (way = "up" ∨ way = "down") := by
  unfold walkerB at h
  split at h
  · next a b c e =>
    rw [Bool.and_eq_true, Bool.and_eq_true, Bool.and_eq_true] at h
    obtain ⟨⟨⟨h1, h2⟩, h3⟩, h4⟩ := h
    cases a with
    | str nm =>
      cases b with
      | int bg =>
        cases c with
        | int pc =>
          cases e with
          | str way =>
            simp only [withinB, Bool.and_eq_true, decide_eq_true_eq] at h2 h3
            simp only [Bool.or_eq_true, decide_eq_true_eq] at h4
            exact ⟨nm, bg, pc, way, rfl, h1, h2.1, by omega, h3.1, h3.2, h4⟩
          | _ => cases h4
        | _ => cases h3
      | _ => cases h2
    | _ => cases h1
  · cases h
def pairLt : PyData → Bool
  | .tuple [x, y] => nmLt x y
  | _ => false
theorem zip_asc : ∀ l : List PyData, (zipP l (l.drop 1)).all pairLt = ascB l
  | [] => rfl
  | [a] => rfl
  | a :: b :: l => by
    have ih := zip_asc (b :: l)
    show (nmLt a b && (zipP (b :: l) l).all _) = (nmLt a b && ascB (b :: l))
    rw [← ih]; rfl
theorem zip_get {xs ys : List PyData} {i : Nat} {d : PyData} (h : (zipP xs ys)[i]? = some d) : ∃ x y, xs[i]? = some x ∧ ys[i]? = some y ∧ d = .tuple [x, y] := by
  unfold zipP at h
  rw [List.getElem?_zipWith] at h
  split at h
  · next x y h1 h2 => exact ⟨x, y, h1, h2, (Option.some.inj h).symm⟩
  · cases h
theorem cal_are_all_walkers (d : Def K mg "are_all_walkers" s_are_all_walkers) (T : Bl mg) (c_is_walker : Cal P w K mg base "is_walker" ["stair", "thing"] 2 C_iswalker) : Cal P w K mg base "are_all_walkers" ["stair", "thing"] 3 C_areall := by
  refine calD d sc_are_all_walkers (fun B ds post ⟨_, _, _, e, _⟩ => by subst e; exact ⟨rfl, fun d hd => by simp at hd; rcases hd with rfl | rfl <;> exact free_py⟩) (fun _ _ _ _ _ _ _ us hl => match us, hl with | [_, _], _ => rfl) (fun f cdv A outer s H E B ds post hr c => ⟨_, (psd_cons (psd_if (PDW.t (pdw_or (pdt_not (pdt_val (pd_isi T (pd_var 1) (pd_ty (by rfl) T.tuple bo_tuple)))) (pdw_or1 (pdt_not (pdt_chain op_le op_le od_le od_le pd_int (pd_len T (pd_var 1)) pd_int))))) (psd_one (psd_ret pd_bl)) psd_nil)
        (psd_cons (psd_if (pdt_not (pdt_val (pd_all T rfl (pd_lc (own := [("one", 2)]) (g := (dgName 2)) (t := dYes) rfl sc_are_all_walkers.nd (pdi_tup (pd_var 1)) (blkOk_by (N := ["stair", "thing", "one", "other"]) (sc := defScope s_are_all_walkers) (by decide +kernel)) (fun _ _ _ _ _ => (pdg_name (i := 2) sc_are_all_walkers.nd rfl (Or.inl rfl))) (fun _ _ _ _ _ => ptd_nil) (fun _ _ _ _ _ => (pd_cal c_is_walker hr (pda_cons (pd_var 0) (pda_cons (pd_var 2) pda_nil)))))))) (psd_one (psd_ret pd_bl)) psd_nil)
        (psd_one (psd_ret (pd_all T rfl (pd_lc (own := [("one", 2), ("other", 3)]) (g := (dgTup (dgCons (dgName 2) (dgCons (dgName 3) dgNil)))) (t := dYes) rfl sc_are_all_walkers.nd (pdi_zip (by rfl) T.zip (pd_var 1) (pd_slice (pd_var 1) (pdo_some pd_int) pdo_none)) (blkOk_by (N := ["stair", "thing", "one", "other"]) (sc := defScope s_are_all_walkers) (by decide +kernel)) (fun _ _ _ _ _ => (pdg_tup rfl (pdgs_cons (pdg_name (i := 2) sc_are_all_walkers.nd rfl (Or.inl rfl)) (pdgs_cons (pdg_name (i := 3) sc_are_all_walkers.nd rfl (Or.inl rfl)) pdgs_nil)) (lg_cons rch_name (lg_cons rch_name lg_nil)))) (fun _ _ _ _ _ => ptd_nil) (fun _ _ _ _ _ => (pd_cmp op_ltA od_ltA (pd_ix (pd_var 2) pd_int) (pd_ix (pd_var 3) pd_int) (nomark _))))))))), ?_⟩)
  obtain ⟨q, day, lamps, rfl, hq, hp⟩ := c
  refine at_st (S' := [some (.py (stairPy day lamps)), some (.py q), none, none]) rfl ?_
  cases q with
  | tuple l =>
    have n1 : (1 : Int) ≤ (l.length : Int) ↔ 1 ≤ l.length := by omega
    have n2 : (l.length : Int) ≤ 8 ↔ l.length ≤ 8 := by omega
    unfold walkersB at hp
    walk_at "dl"
    refine ⟨by decide, if_f rfl (if_dec (fun h1 => if_ndec (fun h2 => ?_) (fun h2 => ?_)) (fun h1 => if_t rfl ?_))⟩
    · simp only [decide_eq_false (fun q => h2 (n2.mpr q)), Bool.and_false, Bool.false_and] at hp; exact hp
    · simp only [decide_eq_true (n1.mp h1), decide_eq_true (n2.mp h2), Bool.true_and] at hp
      refine all_lc (post := fun d => dB (dC d) [] fun k => if (!k) = true then post (D.py (.bool false)) else _) (walkerB day) (fun d p => C_iswalker B [D.py (stairPy day lamps), D.py d] p) (by omega) (fun i d hd p hp => ⟨d, day, lamps, rfl, hq l rfl d (List.mem_of_getElem? hd), hp⟩) ?_
      walk_at "dl"
      refine if_nb (fun h3 => ?_) (fun h3 => ?_)
      · simp only [h3, Bool.false_and] at hp; exact hp
      · simp only [h3, Bool.true_and] at hp
        rw [show (some (1 : Int)) = some ((1 : Nat) : Int) from rfl, cut_from]
        refine ⟨fun i acc => acc = ((zipP l (l.drop 1)).map fun d => PyData.bool (pairLt d)).take i, rfl, ?_, ?_⟩
        · rintro i d acc hi rfl
          obtain ⟨x, y, hx, hy, rfl⟩ := zip_get hi
          have hx := List.mem_of_getElem? hx
          have hy := List.mem_of_mem_drop (List.mem_of_getElem? hy)
          obtain ⟨n1, b1, p1, w1, rfl, _⟩ := walkerB_shape (List.all_eq_true.mp h3 x hx)
          obtain ⟨n2, b2, p2, w2, rfl, _⟩ := walkerB_shape (List.all_eq_true.mp h3 y hy)
          walk_at "dl"
          have key : ((zipP l (l.drop 1)).map fun d => PyData.bool (pairLt d))[i]? = some (.bool (decide (n1.cps.toList < n2.cps.toList))) := by rw [List.getElem?_map, hi]; rfl
          refine ⟨?_, (take_more key).symm⟩
          rw [List.length_take]
          have := (List.getElem?_eq_some_iff.mp hi).1
          have hz : (zipP l (l.drop 1)).length ≤ l.length := by unfold zipP; rw [List.length_zipWith]; exact Nat.min_le_left _ _
          omega
        · rintro acc rfl
          refine ⟨(zipP l (l.drop 1)).map pairLt, ?_, ?_⟩
          · rw [List.take_of_length_le (by rw [List.length_map]; exact Nat.le_refl _), List.map_map]; rfl
          · rw [List.all_map]
            show post (D.py (.bool ((zipP l (l.drop 1)).all pairLt)))
            rw [zip_asc]; exact hp
    · simp only [decide_eq_false (fun q => h1 (n1.mpr q)), Bool.and_false, Bool.false_and] at hp; exact hp
  | _ =>
    walk_at "dl"
    exact ⟨by decide, hp⟩
end
/-! ### right ones pass -/
structure OkWs (day : Int) (ws : List Walker) : Prop where
  n1 : 1 ≤ ws.length
  n2 : ws.length ≤ 8
  wk : ∀ w ∈ ws, nameB (.str w.nm) = true ∧ 0 ≤ w.bg ∧ w.bg < day ∧ 0 ≤ w.pc ∧ w.pc ≤ 1000
  asc : ascB (ws.map Walker.py) = true
theorem OkStair.b {day : Int} {lamps : List Int} (h : OkStair day lamps) : stairB (stairPy day lamps) = true := by
  show (withinB (.int day) 1 1000000 && decide (1 ≤ (pInts lamps).length) && decide ((pInts lamps).length ≤ 6) && (pInts lamps).all fun x => withinB x 1 1000000) = true
  have e : (pInts lamps).length = lamps.length := List.length_map ..
  rw [e]
  simp only [withinB, Bool.and_eq_true, decide_eq_true_eq, List.all_eq_true]
  refine ⟨⟨⟨⟨h.d1, h.d2⟩, h.l1⟩, h.l2⟩, fun x hx => ?_⟩
  obtain ⟨n, hn, rfl⟩ := List.mem_map.mp hx
  simp only [Bool.and_eq_true, decide_eq_true_eq]
  exact h.lp n hn
theorem OkWs.b {day : Int} {ws : List Walker} (h : OkWs day ws) : walkersB day (walkersPy ws) = true := by
  show (decide (1 ≤ (ws.map Walker.py).length) && decide ((ws.map Walker.py).length ≤ 8) && (ws.map Walker.py).all (walkerB day) && ascB (ws.map Walker.py)) = true
  rw [List.length_map, h.asc]
  simp only [Bool.and_eq_true, decide_eq_true_eq, List.all_eq_true]
  refine ⟨⟨⟨h.n1, h.n2⟩, fun x hx => ?_⟩, trivial⟩
  obtain ⟨u, hu, rfl⟩ := List.mem_map.mp hx
  obtain ⟨k1, k2, k3, k4, k5⟩ := h.wk u hu
  show (nameB (.str u.nm) && withinB (.int u.bg) 0 (day - 1) && withinB (.int u.pc) 0 1000 && (decide (u.way = "up") || decide (u.way = "down"))) = true
  simp only [withinB, k1, Bool.and_eq_true, decide_eq_true_eq, Bool.or_eq_true]
  refine ⟨⟨⟨trivial, k2, by omega⟩, k4, k5⟩, ?_⟩
  unfold Walker.way
  cases u.up
  · exact .inr rfl
  · exact .inl rfl
theorem name_len {nm : Str} (h : nameB (.str nm) = true) : nm.length ≤ 16000000 := by
  unfold nameB at h
  simp only [Bool.and_eq_true, decide_eq_true_eq] at h
  omega
theorem OkWs.ok {day : Int} {ws : List Walker} (h : OkWs day ws) : wsOk (walkersPy ws) := by
  intro l e x hx
  cases e
  obtain ⟨u, hu, rfl⟩ := List.mem_map.mp hx
  intro a r e
  cases e
  intro s e
  cases e
  exact name_len (h.wk u hu).1
theorem asc_of : ∀ l : List PyData, (∀ (i : Nat) (a b : PyData), l[i]? = some a → l[i + 1]? = some b → nmLt a b = true) → ascB l = true
  | [], _ => rfl
  | [a], _ => rfl
  | a :: b :: l, h => by
    show (nmLt a b && ascB (b :: l)) = true
    rw [h 0 a b rfl rfl, asc_of (b :: l) fun i x y hx hy => h (i + 1) x y hx hy]; rfl
theorem law_names (i : Nat) (nm : Str) (h : lawNames[i]? = some nm) : nameB (.str nm) = true ∧ ∀ nx, lawNames[i + 1]? = some nx → decide (nm.cps.toList < nx.cps.toList) = true := by
  have key : ∀ i : Nat, i < 8 → ∀ nm ∈ lawNames[i]?, nameB (.str nm) = true ∧ ∀ nx ∈ lawNames[i + 1]?, decide (nm.cps.toList < nx.cps.toList) = true := by decide +kernel
  exact key i (List.getElem?_eq_some_iff.mp h).1 nm h
theorem LawWs.ok {day many far : Int} {ws : List Walker} (h : LawWs day many far ws) (hm : many ≤ 8) (hf : far ≤ 1000) : OkWs day ws := by
  refine ⟨h.n1, by have := h.n2; omega, fun u hu => ?_, asc_of _ fun i a b ha hb => ?_⟩
  · obtain ⟨i, hi, rfl⟩ := List.getElem_of_mem hu
    obtain ⟨k1, k2, k3, k4, k5⟩ := h.wk i _ (List.getElem?_eq_getElem hi)
    exact ⟨(law_names i _ k1).1, k2, k3, k4, by omega⟩
  · obtain ⟨u, hu, rfl⟩ := map_get ha
    obtain ⟨v, hv, rfl⟩ := map_get hb
    exact (law_names i _ (h.wk i u hu).1).2 _ (h.wk (i + 1) v hv).1
/-! ### what is none is refused -/
def C_needstairX (CN : Addr) : CtX := fun _ ds post px => ∃ q : PyData, ds = [.py q] ∧ (stairB q = true → post (.py .none)) ∧ (stairB q = false → px (.ref CN) [])
def C_arewalkX (CN : Addr) : CtX := fun _ ds post px => ∃ q1 q2 : PyData, ds = [.py q1, .py q2] ∧ (stairB q1 = true → ∃ (day : Int) (lamps : List Int), q1 = stairPy day lamps ∧ wsOk q2 ∧ post (.py (.bool (walkersB day q2)))) ∧ (stairB q1 = false → px (.ref CN) [])
abbrev s_need_stair : Stmt := top 15
theorem sc_need_stair : FnScope ["stair"] ["stair"] (defScope s_need_stair) := ⟨rfl, rfl, rfl, by decide +kernel, rfl, by decide +kernel, by decide +kernel⟩
abbrev s_are_walkers : Stmt := top 18
theorem sc_are_walkers : FnScope ["stair", "thing"] ["stair", "thing"] (defScope s_are_walkers) := ⟨rfl, rfl, rfl, by decide +kernel, rfl, by decide +kernel, by decide +kernel⟩
section
variable {P : Program} {w : World} {K : Kf} {mg : Str → Option Value} {base : Heap} {CN : Addr}
theorem cal_need_stairX (d : Def K mg "need_stair" s_need_stair) (T : Bl mg) (X_NoStair : ExcK K mg "NoStair" CN) (c_is_stair : Cal P w K mg base "is_stair" ["thing"] 2 C_isstair) : CalX P w K mg base "need_stair" ["stair"] 3 (C_needstairX CN) := by
  refine calDX d sc_need_stair (fun B ds post px ⟨_, e, _⟩ => by subst e; exact ⟨rfl, fun d hd => by simp at hd; rcases hd with rfl; exact free_py⟩) (fun _ _ _ _ _ _ _ us hl => match us, hl with | [_], _ => rfl) (fun f cdv A outer s H E B G ds post px hr tk c => ⟨_, (pdx_one (pdx_if (pdt_not (pdt_val (pd_cal c_is_stair hr (pda_cons (pd_var 0) pda_nil)))) (pdx_one (pdx_raise rfl tk X_NoStair)) pdx_nil)), ?_⟩)
  obtain ⟨q, rfl, h1, h2⟩ := c
  refine at_st (S' := [some (.py q)]) rfl ?_
  walk_at "dl"
  exact ⟨_, rfl, if_nb (fun h => h2 h) (fun h => h1 h)⟩
theorem cal_are_walkersX (d : Def K mg "are_walkers" s_are_walkers) (T : Bl mg) (x_need_stair : CalX P w K mg base "need_stair" ["stair"] 3 (C_needstairX CN)) (c_are_all_walkers : Cal P w K mg base "are_all_walkers" ["stair", "thing"] 3 C_areall) : CalX P w K mg base "are_walkers" ["stair", "thing"] 4 (C_arewalkX CN) := by
  refine calDX d sc_are_walkers (fun B ds post px ⟨_, _, e, _⟩ => by subst e; exact ⟨rfl, fun d hd => by simp at hd; rcases hd with rfl | rfl <;> exact free_py⟩) (fun _ _ _ _ _ _ _ us hl => match us, hl with | [_, _], _ => rfl) (fun f cdv A outer s H E B G ds post px hr tk c => ⟨_, (pdx_cons (pdx_drop (pdx_cal x_need_stair tk hr (pda_cons (pd_var 0) pda_nil)))
        (pdx_nox (psd_one (psd_ret (pd_cal c_are_all_walkers hr (pda_cons (pd_var 0) (pda_cons (pd_var 1) pda_nil))))))), ?_⟩)
  obtain ⟨q1, q2, rfl, h1, h2⟩ := c
  refine at_st (S' := [some (.py q1), some (.py q2)]) rfl ?_
  walk_at "dl"
  refine ⟨q1, rfl, fun h => ?_, h2⟩
  obtain ⟨day, lamps, rfl, k1, k2⟩ := h1 h
  walk_at "dl"
  exact ⟨q2, day, lamps, rfl, k1, k2⟩
end
local macro_rules | `(tactic| walk_at "dl") => `(tactic| simp only [atI_0, atI_1, atI_2, atI_3, stairPy, walkersPy, Walker.py, firstPy, if_true, if_false, List.length_cons, List.length_nil, Nat.reduceAdd, Nat.reduceLeDiff, Nat.zero_add, true_and, and_true, dSeq, dNext, dBrk, dCont, dIfS, dRet, dRetV, dRetVO, dRetO, dSetO, List.map_cons, List.map_nil, dSet, dSetL, dSetD, dApp, dDrop, dPar, dPar3, dParL, dPut, dWhile, dFor, dAsg, dVar, dC, dOp, dUn, dB, dAnd, dOr, dNot, dAndV, dOrV, dNotV, dIf, dNil, dCons, dChain, dTup, dLst, dCB, dCall, dSl, dNo, dPart, dLc, dYes, dDix, dDget_eq, dDin, diL, diT, diR1, diR2, diS, diZ, dgName, dgNil, dgCons, dgTup, fI, fIc, fAdd, fMul, fEq, fNe, fLt, fLe, fGt, fGe, fLtA, fSub, fFdiv, fMod, fIsN, fNotN, fIsB, fNotB, fIx, fSl, fIn, fInS, fDix, cLen, cInt, cMax2, cMin2, cSum, cMaxL, cMinL, cAll, cAny, cTuple, cList, cSorted, cSortD, dRg, dZero, cIsi, dCntS, dIdxS, dRev, dPar3D, dPar3L, fMulT, dRetLcO, dLcO, dLstEn, dSortSet, dTupRg3, dSetAddO, dFrz, dForK, dParG, dSortSetT, dSetLiO, dSti, dIsi2, cRepr, cMinP, dTryFn, dSortSetS, slotEnd, fIsE, dLam, dFld, dMet, dMake, D.py?, D.items, D.lsti, D.ty, D.kvs, keyD, pys, fre, isNonD, wipeS, Option.map, List.set, List.getElem?_cons_succ, List.getElem?_cons_zero])
/-! ### what a call is refused by -/
def errNames : List Str := ["NoStair", "NoWalkers", "NoName", "NoLanding", "NoTick", "NoNumber", "NoFraction"]
structure ClsG (mg : Str → Option Value) (x : Str) (C : Addr) : Prop where
  g : mg x = some (.ref C)
/-- the classes of the refusals as the written part has them -/
structure RefK (K : Kf) (mg : Str → Option Value) : Prop where
  k : ∀ x ∈ errNames, ExcK K mg x (He.ga K x)
  c : ∀ x ∈ errNames, ExcC K (He.ga K x)
  i : ∀ x ∈ errNames, ∀ y ∈ errNames, PySem.W.kitOne K (.ref (He.ga K x)) (.ref (He.ga K y)) = some (decide (x = y))
  v : ∀ x ∈ errNames, PySem.W.kitOne K (.ref (He.ga K x)) (.type "ValueError") = some true
  t : ∀ x ∈ errNames, PySem.W.exmOne K (.ref (He.ga K x)) (.ref (He.ga K "TooMany")) = some false
  l : ∀ x ∈ errNames, PySem.W.exmOne K (.ref (He.ga K x)) (.ref (He.ga K "LampError")) = some true
  gt : ClsG mg "TooMany" (He.ga K "TooMany")
  gl : ClsG mg "LampError" (He.ga K "LampError")
def C_refused (P : Program) (w : World) (K : Kf) (mg : Str → Option Value) (base : Heap) (k : Nat) : Ct := fun B ds post => ∃ (L : LamD) (j n : Nat) (C : CtX) (d1 d2 d3 d4 d5 : PyData), ds = [.fn L, .py d1, .py d2, .py d3, .py d4, .py d5] ∧ LamCal P w K mg base L j n C ∧ j ≤ k ∧
  C B [.py d1, .py d2, .py d3, .py d4, .py d5] (fun _ => post (.py (.list []))) (fun cls fs => fs = [] ∧ ∃ x ∈ errNames, cls = .ref (He.ga K x) ∧ post (.py (.list [.str x, .bool true])))
abbrev s__law_refused : Stmt := top 32
theorem sc__law_refused : FnScope ["call", "one", "two", "three", "four", "five", "kin", "e", "words", "word", "there"] ["call", "one", "two", "three", "four", "five"] (defScope s__law_refused) := ⟨rfl, rfl, rfl, by decide +kernel, rfl, by decide +kernel, by decide +kernel⟩
def pairP (p : Str × Bool) : PyData := .tuple [.str p.1, .bool p.2]
def asksOf (x : Str) : List (Str × Bool) := errNames.map fun y => (y, decide (x = y))
theorem asks_end (x : Str) (h : x ∈ errNames) : ((asksOf x).filter (·.2)).map (fun p => PyData.str p.1) = [PyData.str x] := by
  have key : ∀ x ∈ errNames, ((asksOf x).filter (·.2)).map (·.1) = [x] := by decide +kernel
  have e := congrArg (List.map PyData.str) (key x h)
  rw [List.map_map] at e
  exact e
section
variable {P : Program} {w : World} {K : Kf} {mg : Str → Option Value} {base : Heap}
theorem cal_law_refused (d : Def K mg "_law_refused" s__law_refused) (T : Bl mg) (R : RefK K mg) : Cal P w K mg base "_law_refused" ["call", "one", "two", "three", "four", "five"] 9 (C_refused P w K mg base 8) := by
  have X_NoStair := R.k "NoStair" (by decide)
  have X_NoWalkers := R.k "NoWalkers" (by decide)
  have X_NoName := R.k "NoName" (by decide)
  have X_NoLanding := R.k "NoLanding" (by decide)
  have X_NoTick := R.k "NoTick" (by decide)
  have X_NoNumber := R.k "NoNumber" (by decide)
  have X_NoFraction := R.k "NoFraction" (by decide)
  have X_TooMany := R.gt
  have X_LampError := R.gl
  refine calD d sc__law_refused (fun B ds post ⟨L, j, n, C, d1, d2, d3, d4, d5, e, _⟩ => by subst e; exact ⟨rfl, fun d hd => by simp at hd; rcases hd with rfl | rfl | rfl | rfl | rfl | rfl <;> first | exact free_py | exact free_fn⟩) (fun _ _ _ _ _ _ _ us hl => match us, hl with | [_, _, _, _, _, _], _ => rfl) (fun f cdv A outer s H E B ds post hr c => ⟨_, (psd_cons (psd_set (i := 6) sc__law_refused.nd rfl (Or.inl rfl) (pd_lst pda_nil))
        (psd_cons (psd_tryFn (i := 7) (ic := 0) rfl rfl sc__law_refused.nd rfl rfl ⟨rfl, rfl, .inl X_TooMany.g⟩ ⟨rfl, rfl, .inl X_LampError.g⟩ rfl (Or.inl rfl) hr (fun pn xe => (pda_cons (pd_var 1) (pda_cons (pd_var 2) (pda_cons (pd_var 3) (pda_cons (pd_var 4) (pda_cons (pd_var 5) pda_nil)))))) (fun a oe Dc pn hz hfl CE => (psd_cons (psd_set (i := 8) sc__law_refused.nd rfl (Or.inl rfl) (pd_lst (pda_cons (pd_tup (pda_cons pd_str (pda_cons (pd_isE T CE hz hfl (pd_var 7) (pd_cls (by rfl) X_NoStair.g)) pda_nil))) (pda_cons (pd_tup (pda_cons pd_str (pda_cons (pd_isE T CE hz hfl (pd_var 7) (pd_cls (by rfl) X_NoWalkers.g)) pda_nil))) pda_nil))))
        (psd_cons (psd_set (i := 8) sc__law_refused.nd rfl (Or.inl rfl) (pd_add (pd_var 8) (pd_lst (pda_cons (pd_tup (pda_cons pd_str (pda_cons (pd_isE T CE hz hfl (pd_var 7) (pd_cls (by rfl) X_NoName.g)) pda_nil))) pda_nil))))
        (psd_cons (psd_set (i := 8) sc__law_refused.nd rfl (Or.inl rfl) (pd_add (pd_var 8) (pd_lst (pda_cons (pd_tup (pda_cons pd_str (pda_cons (pd_isE T CE hz hfl (pd_var 7) (pd_cls (by rfl) X_NoLanding.g)) pda_nil))) (pda_cons (pd_tup (pda_cons pd_str (pda_cons (pd_isE T CE hz hfl (pd_var 7) (pd_cls (by rfl) X_NoTick.g)) pda_nil))) pda_nil)))))
        (psd_cons (psd_set (i := 8) sc__law_refused.nd rfl (Or.inl rfl) (pd_add (pd_var 8) (pd_lst (pda_cons (pd_tup (pda_cons pd_str (pda_cons (pd_isE T CE hz hfl (pd_var 7) (pd_cls (by rfl) X_NoNumber.g)) pda_nil))) (pda_cons (pd_tup (pda_cons pd_str (pda_cons (pd_isE T CE hz hfl (pd_var 7) (pd_cls (by rfl) X_NoFraction.g)) pda_nil))) pda_nil)))))
        (psd_one (psd_set (i := 6) sc__law_refused.nd rfl (Or.inl rfl) (pd_add (pd_lcH (own := [("word", 9), ("there", 10)]) (g := (dgTup (dgCons (dgName 9) (dgCons (dgName 10) dgNil)))) List.mem_cons_self (hot1_of hz hfl) sc__law_refused.nd (pd_var 8) (blkOk_by (N := ["call", "one", "two", "three", "four", "five", "kin", "e", "words", "word", "there"]) (sc := defScope s__law_refused) (by decide +kernel)) (fun _ _ _ _ _ hot => (pdg_tupH hot (pdgs_cons (pdg_name (i := 9) sc__law_refused.nd rfl (Or.inl rfl)) (pdgs_cons (pdg_name (i := 10) sc__law_refused.nd rfl (Or.inl rfl)) pdgs_nil)) (lg_cons rch_name (lg_cons rch_name lg_nil)))) (fun _ _ _ _ _ => (ptd_one (pdt_val (pd_var 10)))) (fun _ _ _ _ _ => (pd_var 9))) (pd_lst (pda_cons (pd_isE T CE hz hfl (pd_var 7) (pd_ty (by rfl) T.ValueError bo_ValueError)) pda_nil)))))))))))
        (psd_one (psd_retV 6)))), ?_⟩)
  obtain ⟨L, j, n, C, d1, d2, d3, d4, d5, rfl, hL, hj, hc⟩ := c
  refine at_st (S' := [some (.fn L), some (.py d1), some (.py d2), some (.py d3), some (.py d4), some (.py d5), none, none, none, none, none]) rfl ?_
  walk_at "dl"
  refine ⟨L, j, n, C, _, rfl, hL, hj, hc, ?_⟩
  rintro cls fs ⟨rfl, x, hx, rfl, hp⟩
  refine ⟨rfl, _, rfl, R.c x hx, R.t x hx, R.l x hx, fun a => ?_⟩
  refine ⟨_, R.i x hx _ (by decide), _, R.i x hx _ (by decide), ?_⟩
  refine ⟨_, R.i x hx _ (by decide), _, R.i x hx _ (by decide), _, R.i x hx _ (by decide), by show 3 ≤ 15999998; decide, _, R.i x hx _ (by decide), _, R.i x hx _ (by decide), by show 5 ≤ 15999998; decide, ?_⟩
  refine ⟨fun i acc => acc = (((asksOf x).take i).filter (·.2)).map (fun p => PyData.str p.1), rfl, ?_, ?_⟩
  · rintro i d acc hi rfl
    obtain ⟨p, hp, rfl⟩ := map_get (show ((asksOf x).map pairP)[i]? = some d from hi)
    have hi7 : i < 7 := (List.getElem?_eq_some_iff.mp hp).1
    have hlen : ((((asksOf x).take i).filter (·.2)).map (fun p => PyData.str p.1)).length ≤ 7 := by
      rw [List.length_map]
      refine Nat.le_trans (List.length_filter_le ..) ?_
      rw [List.length_take]; omega
    obtain ⟨y, b⟩ := p
    have more : (((asksOf x).take (i + 1)).filter (·.2)).map (fun p => PyData.str p.1) = (((asksOf x).take i).filter (·.2)).map (fun p => PyData.str p.1) ++ (if b = true then [PyData.str y] else []) := by
      rw [take_more hp, List.filter_append, List.map_append]
      cases b <;> rfl
    show if b = true then _ else _
    cases b with
    | true => rw [if_pos rfl]; exact ⟨by omega, by show _ = _; rw [more]; rfl⟩
    | false => rw [if_neg Bool.false_ne_true]; show _ = _; rw [more]; exact (List.append_nil _).symm
  rintro acc rfl
  refine ⟨_, R.v x hx, ?_⟩
  have all_ : (((asksOf x).take 7).filter (·.2)).map (fun p => PyData.str p.1) = [PyData.str x] := by
    rw [List.take_of_length_le (by show 7 ≤ 7; decide)]; exact asks_end x hx
  show (((((asksOf x).take 7).filter (·.2)).map (fun p => PyData.str p.1)).length ≤ 15999999) ∧ post (.py (.list ((((asksOf x).take 7).filter (·.2)).map (fun p => PyData.str p.1) ++ [PyData.bool true])))
  rw [all_]
  exact ⟨by show 1 ≤ 15999999; decide, hp⟩
end
/-! ### plain things: atoms, texts not long, lists and tuples not long, not deep -/
def fineB (m : Nat) : Nat → PyData → Bool
  | _, .none => true
  | _, .bool _ => true
  | _, .int _ => true
  | _, .str s => decide (s.length ≤ 100)
  | n + 1, .list l => decide (l.length ≤ m) && l.all (fineB m n)
  | n + 1, .tuple l => decide (l.length ≤ m) && l.all (fineB m n)
  | _, _ => false
theorem fine_mono {m m' : Nat} (h : m ≤ m') : ∀ {n n' : Nat} {q : PyData}, n ≤ n' → fineB m n q = true → fineB m' n' q = true := by
  intro n
  induction n with
  | zero => intro n' q hn hq; cases q <;> first | (cases n' <;> exact hq) | cases hq
  | succ n ih =>
    intro n' q hn hq
    obtain ⟨k, rfl⟩ : ∃ k, n' = k + 1 := ⟨n' - 1, by omega⟩
    cases q with
    | list l =>
      obtain ⟨h1, h2⟩ := Bool.and_eq_true_iff.mp (show (decide (l.length ≤ m) && l.all (fineB m n)) = true from hq)
      refine Bool.and_eq_true_iff.mpr ⟨decide_eq_true (Nat.le_trans (of_decide_eq_true h1) h), List.all_eq_true.mpr fun x hx => ih (by omega) (List.all_eq_true.mp h2 x hx)⟩
    | tuple l =>
      obtain ⟨h1, h2⟩ := Bool.and_eq_true_iff.mp (show (decide (l.length ≤ m) && l.all (fineB m n)) = true from hq)
      refine Bool.and_eq_true_iff.mpr ⟨decide_eq_true (Nat.le_trans (of_decide_eq_true h1) h), List.all_eq_true.mpr fun x hx => ih (by omega) (List.all_eq_true.mp h2 x hx)⟩
    | _ => exact hq
def fineL (m n : Nat) (l : List PyData) : Prop := l.length ≤ m ∧ ∀ x ∈ l, fineB m n x = true
theorem fineL.tup {m n : Nat} {l : List PyData} (h : fineL m n l) : fineB m (n + 1) (.tuple l) = true := Bool.and_eq_true_iff.mpr ⟨decide_eq_true h.1, List.all_eq_true.mpr h.2⟩
theorem fineL.lst {m n : Nat} {l : List PyData} (h : fineL m n l) : fineB m (n + 1) (.list l) = true := Bool.and_eq_true_iff.mpr ⟨decide_eq_true h.1, List.all_eq_true.mpr h.2⟩
theorem fineL.ofT {m n : Nat} {l : List PyData} (h : fineB m (n + 1) (.tuple l) = true) : fineL m n l := by
  obtain ⟨h1, h2⟩ := Bool.and_eq_true_iff.mp (show (decide (l.length ≤ m) && l.all (fineB m n)) = true from h)
  exact ⟨of_decide_eq_true h1, List.all_eq_true.mp h2⟩
theorem fineL.ofL {m n : Nat} {l : List PyData} (h : fineB m (n + 1) (.list l) = true) : fineL m n l := by
  obtain ⟨h1, h2⟩ := Bool.and_eq_true_iff.mp (show (decide (l.length ≤ m) && l.all (fineB m n)) = true from h)
  exact ⟨of_decide_eq_true h1, List.all_eq_true.mp h2⟩
def drawn (ns : List Int) : Prop := ∀ n ∈ ns, 0 ≤ n ∧ n < 1000
theorem drawn.drop {ns : List Int} (h : drawn ns) (k : Nat) : drawn (ns.drop k) := fun n hn => h n (List.mem_of_mem_drop hn)
theorem at_ints {ns : List Int} {k : Int} (h0 : 0 ≤ k) (h1 : k < ns.length) : ∃ i, atI (pInts ns) k = some (.int i) ∧ i ∈ ns := by
  obtain ⟨m, rfl⟩ : ∃ m : Nat, k = (m : Int) := ⟨k.toNat, by omega⟩
  have hm : m < ns.length := by omega
  refine ⟨ns[m], ?_, List.getElem_mem hm⟩
  unfold atI ixN
  rw [if_pos h0, if_pos (by rw [List.length_map]; omega)]
  show (pInts ns)[m]? = _
  rw [List.getElem?_map, List.getElem?_eq_getElem hm]; rfl
theorem at_any {L : List PyData} {k : Int} (h0 : 0 ≤ k) (h1 : k < L.length) : ∃ q, atI L k = some q ∧ q ∈ L := by
  obtain ⟨m, rfl⟩ : ∃ m : Nat, k = (m : Int) := ⟨k.toNat, by omega⟩
  have hm : m < L.length := by omega
  refine ⟨L[m], ?_, List.getElem_mem hm⟩
  unfold atI ixN
  rw [if_pos h0, if_pos (by omega)]
  show L[m]? = _
  rw [List.getElem?_eq_getElem hm]
def C_odd : Ct := fun _ ds post => ∃ ns : List Int, ds = [.py (.list (pInts ns))] ∧ 2 ≤ ns.length ∧ drawn ns ∧ ∀ q, fineB 8 2 q = true → post (.py q)
def C_spoil (n m : Nat) : Ct := fun _ ds post => ∃ (q : PyData) (ns : List Int), ds = [.py q, .py (.list (pInts ns))] ∧ 10 * n + 20 ≤ ns.length ∧ drawn ns ∧ fineB m n q = true ∧ ∀ q', fineB (m + 1) (n + 2) q' = true → post (.py q')
abbrev s__law_odd : Stmt := top 29
theorem sc__law_odd : FnScope ["picks", "odd"] ["picks"] (defScope s__law_odd) := ⟨rfl, rfl, rfl, by decide +kernel, rfl, by decide +kernel, by decide +kernel⟩
abbrev s__law_spoilt : Stmt := top 22
theorem sc__law_spoilt : FnScope ["thing", "picks", "parts", "at", "turn_by"] ["thing", "picks"] (defScope s__law_spoilt) := ⟨rfl, rfl, rfl, by decide +kernel, rfl, by decide +kernel, by decide +kernel⟩
section
variable {P : Program} {w : World} {K : Kf} {mg : Str → Option Value} {base : Heap}
theorem cal_law_odd (d : Def K mg "_law_odd" s__law_odd) (T : Bl mg) : Cal P w K mg base "_law_odd" ["picks"] 1 C_odd := by
  refine calD d sc__law_odd (fun B ds post ⟨_, e, _⟩ => by subst e; exact ⟨rfl, fun d hd => by simp at hd; rcases hd with rfl; exact free_py⟩) (fun _ _ _ _ _ _ _ us hl => match us, hl with | [_], _ => rfl) (fun f cdv A outer s H E B ds post hr c => ⟨_, (psd_cons (psd_set (i := 1) sc__law_odd.nd rfl (Or.inl rfl) (pd_lst (pda_cons pd_non (pda_cons pd_bl (pda_cons pd_bl (pda_cons pd_neg (pda_cons pd_int (pda_cons pd_int (pda_cons pd_int (pda_cons pd_int pda_nil))))))))))
        (psd_cons (psd_set (i := 1) sc__law_odd.nd rfl (Or.inl rfl) (pd_add (pd_var 1) (pd_lst (pda_cons pd_int (pda_cons (pd_pow (n := 1000000)) (pda_cons (pd_add (pd_pow (n := 1000000)) pd_int) (pda_cons (pd_add (pd_pow (n := 1000000000000000000)) pd_int) (pda_cons pd_str (pda_cons pd_str (pda_cons pd_str (pda_cons pd_str pda_nil)))))))))))
        (psd_cons (psd_set (i := 1) sc__law_odd.nd rfl (Or.inl rfl) (pd_add (pd_var 1) (pd_lst (pda_cons (pd_tup pda_nil) (pda_cons (pd_lst pda_nil) (pda_cons (pd_tup (pda_cons pd_int pda_nil)) (pda_cons (pd_tup (pda_cons pd_int (pda_cons (pd_tup (pda_cons pd_int pda_nil)) pda_nil))) (pda_cons (pd_lst (pda_cons pd_int (pda_cons (pd_tup (pda_cons pd_int pda_nil)) pda_nil))) pda_nil))))))))
        (psd_cons (psd_set (i := 1) sc__law_odd.nd rfl (Or.inl rfl) (pd_add (pd_var 1) (pd_lst (pda_cons (pd_tup (pda_cons (pd_tup (pda_cons pd_int pda_nil)) (pda_cons pd_int pda_nil))) (pda_cons (pd_tup (pda_cons pd_int (pda_cons (pd_tup (pda_cons pd_int pda_nil)) pda_nil))) (pda_cons (pd_tup (pda_cons pd_str (pda_cons pd_int (pda_cons pd_int (pda_cons pd_str pda_nil))))) (pda_cons (pd_tup (pda_cons (pd_tup (pda_cons pd_str (pda_cons pd_int (pda_cons pd_int (pda_cons pd_str pda_nil))))) pda_nil)) pda_nil)))))))
        (psd_one (psd_ret (pd_ix (pd_var 1) (pd_mod (pd_add (pd_ix (pd_var 0) pd_int) (pd_mul pd_int (pd_ix (pd_var 0) pd_int))) (pd_len T (pd_var 1)))))))))), ?_⟩)
  obtain ⟨ns, rfl, hn, hb, hp⟩ := c
  refine at_st (S' := [some (.py (.list (pInts ns))), none]) rfl ?_
  obtain ⟨i0, e0, m0⟩ := at_ints (ns := ns) (k := 0) (by decide) (by omega)
  obtain ⟨i1, e1, m1⟩ := at_ints (ns := ns) (k := 1) (by decide) (by omega)
  have b1 := hb i1 m1
  walk_at "dl"
  refine ⟨by decide, by decide, ?_⟩
  rw [e0, e1]
  refine ⟨cmul_r ⟨by omega, by omega⟩, ?_⟩
  show 0 < _ ∧ _
  generalize hL : [PyData.none, _, _, _, _, _, _, _] ++ _ ++ _ ++ _ = L
  have hl : L.length = 25 := by rw [← hL]; rfl
  have hs : L.all (fineB 8 2) = true := by rw [← hL]; decide +kernel
  rw [hl]
  obtain ⟨q, eq, hq⟩ := at_any (L := L) (k := (i0 + 7 * i1) % 25) (by omega) (by omega)
  rw [show ((25 : Nat) : Int) = 25 from rfl, eq]
  exact ⟨by decide, hp q (List.all_eq_true.mp hs q hq)⟩
theorem cal_spoil0 {m : Nat} (hm : 8 ≤ m + 1) (d : Def K mg "_law_spoilt" s__law_spoilt) (T : Bl mg) (c_law_odd : Cal P w K mg base "_law_odd" ["picks"] 1 C_odd) : Cal P w K mg base "_law_spoilt" ["thing", "picks"] 2 (C_spoil 0 m) := by
  refine calD d sc__law_spoilt (fun B ds post ⟨_, _, e, _⟩ => by subst e; exact ⟨rfl, fun d hd => by simp at hd; rcases hd with rfl | rfl <;> exact free_py⟩) (fun _ _ _ _ _ _ _ us hl => match us, hl with | [_, _], _ => rfl) (fun f cdv A outer s H E B ds post hr c => ⟨_, (psd_cons (psd_if (PDW.t (pdw_or (pdt_not (pdt_val (pd_isi2 T (pd_var 0) (by decide) (by decide) (by rfl) (by rfl) T.tuple T.list bo_tuple bo_list))) (pdw_or (pdt_cmp (op_eqA hr.units) od_eq (pd_len T (pd_var 0)) pd_int (nomark _)) (pdw_or (pdt_cmp op_ltA od_ltA (pd_len T (pd_var 1)) pd_int (nomark _)) (pdw_or1 (pdt_cmp (op_eqA hr.units) od_eq (pd_mod (pd_ix (pd_var 1) pd_int) pd_int) pd_int (nomark _))))))) (psd_one (psd_ret (pd_cal c_law_odd hr (pda_cons (pd_slice (pd_var 1) (pdo_some pd_int) pdo_none) pda_nil)))) psd_nil)
        (psd_cons (psd_setLiO (i := 2) T sc__law_spoilt.nd rfl (Or.inl rfl) (pd_var 0))
        (psd_cons (psd_set (i := 3) sc__law_spoilt.nd rfl (Or.inl rfl) (pd_mod (pd_ix (pd_var 1) pd_int) (pd_len T (pd_var 2))))
        (psd_cons (psd_set (i := 4) sc__law_spoilt.nd rfl (Or.inl rfl) (pd_mod (pd_ix (pd_var 1) pd_int) pd_int))
        (psd_cons (psd_if (pdt_cmp (op_eqA hr.units) od_eq (pd_var 4) pd_int (nomark _)) (psd_one (psd_set (i := 2) sc__law_spoilt.nd rfl (Or.inl rfl) (pd_add (pd_slice (pd_var 2) pdo_none (pdo_some (pd_var 3))) (pd_slice (pd_var 2) (pdo_some (pd_add (pd_var 3) pd_int)) pdo_none)))) (psd_one (psd_if (pdt_cmp (op_eqA hr.units) od_eq (pd_var 4) pd_int (nomark _)) (psd_one (psd_set (i := 2) sc__law_spoilt.nd rfl (Or.inl rfl) (pd_add (pd_slice (pd_var 2) pdo_none (pdo_some (pd_add (pd_var 3) pd_int))) (pd_slice (pd_var 2) (pdo_some (pd_var 3)) pdo_none)))) (psd_one (psd_if (pdt_cmp (op_eqA hr.units) od_eq (pd_var 4) pd_int (nomark _)) (psd_one (psd_set (i := 2) sc__law_spoilt.nd rfl (Or.inl rfl) (pd_add (pd_slice (pd_var 2) (pdo_some (pd_var 3)) pdo_none) (pd_slice (pd_var 2) pdo_none (pdo_some (pd_var 3)))))) (psd_one (psd_if (pdt_cmp (op_eqA hr.units) od_eq (pd_var 4) pd_int (nomark _)) (psd_one (psd_set (i := 2) sc__law_spoilt.nd rfl (Or.inl rfl) (pd_add (pd_add (pd_slice (pd_var 2) pdo_none (pdo_some (pd_var 3))) (pd_lst (pda_cons (pd_cal c_law_odd hr (pda_cons (pd_slice (pd_var 1) (pdo_some pd_int) pdo_none) pda_nil)) pda_nil))) (pd_slice (pd_var 2) (pdo_some (pd_var 3)) pdo_none)))) (psd_one (psd_if (pdt_cmp op_gt od_gt (pd_var 4) pd_int (nomark _)) (psd_one psd_never) psd_nil)))))))))
        (psd_cons (psd_if (pdt_cmp (op_eqA hr.units) od_eq (pd_isi T (pd_var 0) (pd_ty (by rfl) T.tuple bo_tuple)) (pd_cmp (op_eqA hr.units) od_eq (pd_var 4) pd_int (nomark _)) (nomark _)) (psd_one (psd_retV 2)) psd_nil)
        (psd_one (psd_ret (pd_tupleOf T (pd_var 2)))))))))), ?_⟩)
  obtain ⟨q, ns, rfl, hn, hb, hq, hp⟩ := c
  refine at_st (S' := [some (.py q), some (.py (.list (pInts ns))), none, none, none]) rfl ?_
  have ho : C_odd B [D.py (PyData.list (cutG (pInts ns) (some (1 : Int)) none))] fun d => fre d (post d) := by
    rw [show (some (1 : Int)) = some ((1 : Nat) : Int) from rfl, cut_from]
    exact ⟨ns.drop 1, by unfold pInts; rw [List.map_drop], by rw [List.length_drop]; omega, hb.drop 1, fun q hq => hp q (fine_mono hm (Nat.le_refl _) hq)⟩
  cases q with
  | list l => cases hq
  | tuple l => cases hq
  | dict l => cases hq
  | _ => walk_at "dl"; exact if_t (by decide) ho
/-- a list's or a tuple's parts spoilt -/
theorem cal_spoil_more {n m k : Nat} (hm : 8 ≤ m) (hm2 : m ≤ 1000) (d : Def K mg "_law_spoilt" s__law_spoilt) (T : Bl mg) (c_law_odd : Cal P w K mg base "_law_odd" ["picks"] 1 C_odd) (c_law_spoilt : Cal P w K mg base "_law_spoilt" ["thing", "picks"] (k + 1) (C_spoil n m)) (c_law_odd : Cal P w K mg base "_law_odd" ["picks"] (k + 1) C_odd) : Cal P w K mg base "_law_spoilt" ["thing", "picks"] (k + 2) (C_spoil (n + 1) m) := by
  refine calD d sc__law_spoilt (fun B ds post ⟨_, _, e, _⟩ => by subst e; exact ⟨rfl, fun d hd => by simp at hd; rcases hd with rfl | rfl <;> exact free_py⟩) (fun _ _ _ _ _ _ _ us hl => match us, hl with | [_, _], _ => rfl) (fun f cdv A outer s H E B ds post hr c => ⟨_, (psd_cons (psd_if (PDW.t (pdw_or (pdt_not (pdt_val (pd_isi2 T (pd_var 0) (by decide) (by decide) (by rfl) (by rfl) T.tuple T.list bo_tuple bo_list))) (pdw_or (pdt_cmp (op_eqA hr.units) od_eq (pd_len T (pd_var 0)) pd_int (nomark _)) (pdw_or (pdt_cmp op_ltA od_ltA (pd_len T (pd_var 1)) pd_int (nomark _)) (pdw_or1 (pdt_cmp (op_eqA hr.units) od_eq (pd_mod (pd_ix (pd_var 1) pd_int) pd_int) pd_int (nomark _))))))) (psd_one (psd_ret (pd_cal c_law_odd hr (pda_cons (pd_slice (pd_var 1) (pdo_some pd_int) pdo_none) pda_nil) (hjk := by omega)))) psd_nil)
        (psd_cons (psd_setLiO (i := 2) T sc__law_spoilt.nd rfl (Or.inl rfl) (pd_var 0))
        (psd_cons (psd_set (i := 3) sc__law_spoilt.nd rfl (Or.inl rfl) (pd_mod (pd_ix (pd_var 1) pd_int) (pd_len T (pd_var 2))))
        (psd_cons (psd_set (i := 4) sc__law_spoilt.nd rfl (Or.inl rfl) (pd_mod (pd_ix (pd_var 1) pd_int) pd_int))
        (psd_cons (psd_if (pdt_cmp (op_eqA hr.units) od_eq (pd_var 4) pd_int (nomark _)) (psd_one (psd_set (i := 2) sc__law_spoilt.nd rfl (Or.inl rfl) (pd_add (pd_slice (pd_var 2) pdo_none (pdo_some (pd_var 3))) (pd_slice (pd_var 2) (pdo_some (pd_add (pd_var 3) pd_int)) pdo_none)))) (psd_one (psd_if (pdt_cmp (op_eqA hr.units) od_eq (pd_var 4) pd_int (nomark _)) (psd_one (psd_set (i := 2) sc__law_spoilt.nd rfl (Or.inl rfl) (pd_add (pd_slice (pd_var 2) pdo_none (pdo_some (pd_add (pd_var 3) pd_int))) (pd_slice (pd_var 2) (pdo_some (pd_var 3)) pdo_none)))) (psd_one (psd_if (pdt_cmp (op_eqA hr.units) od_eq (pd_var 4) pd_int (nomark _)) (psd_one (psd_set (i := 2) sc__law_spoilt.nd rfl (Or.inl rfl) (pd_add (pd_slice (pd_var 2) (pdo_some (pd_var 3)) pdo_none) (pd_slice (pd_var 2) pdo_none (pdo_some (pd_var 3)))))) (psd_one (psd_if (pdt_cmp (op_eqA hr.units) od_eq (pd_var 4) pd_int (nomark _)) (psd_one (psd_set (i := 2) sc__law_spoilt.nd rfl (Or.inl rfl) (pd_add (pd_add (pd_slice (pd_var 2) pdo_none (pdo_some (pd_var 3))) (pd_lst (pda_cons (pd_cal c_law_odd hr (pda_cons (pd_slice (pd_var 1) (pdo_some pd_int) pdo_none) pda_nil) (hjk := by omega)) pda_nil))) (pd_slice (pd_var 2) (pdo_some (pd_var 3)) pdo_none)))) (psd_one (psd_if (pdt_cmp op_gt od_gt (pd_var 4) pd_int (nomark _)) (psd_one (psd_sti (i := 2) rfl (Or.inl rfl) (by decide) (by decide) (pd_var 3) (pd_cal c_law_spoilt hr (pda_cons (pd_ix (pd_var 2) (pd_var 3)) (pda_cons (pd_slice (pd_var 1) (pdo_some pd_int) pdo_none) pda_nil)) (hjk := by omega)))) psd_nil)))))))))
        (psd_cons (psd_if (pdt_cmp (op_eqA hr.units) od_eq (pd_isi T (pd_var 0) (pd_ty (by rfl) T.tuple bo_tuple)) (pd_cmp (op_eqA hr.units) od_eq (pd_var 4) pd_int (nomark _)) (nomark _)) (psd_one (psd_retV 2)) psd_nil)
        (psd_one (psd_ret (pd_tupleOf T (pd_var 2)))))))))), ?_⟩)
  obtain ⟨q, ns, rfl, hn, hb, hq, hp⟩ := c
  refine at_st (S' := [some (.py q), some (.py (.list (pInts ns))), none, none, none]) rfl ?_
  obtain ⟨i0, e0, m0⟩ := at_ints (ns := ns) (k := 0) (by decide) (by omega)
  obtain ⟨i1, e1, m1⟩ := at_ints (ns := ns) (k := 1) (by decide) (by omega)
  obtain ⟨i2, e2, m2⟩ := at_ints (ns := ns) (k := 2) (by decide) (by omega)
  have hlen : (pInts ns).length = ns.length := List.length_map ..
  have hdr : ∀ k : Nat, (pInts ns).drop k = pInts (ns.drop k) := fun k => by unfold pInts; rw [List.map_drop]
  have hodd : ∀ (k : Nat) (p : D → Prop), k ≤ 10 → (∀ q, fineB 8 2 q = true → p (.py q)) → C_odd B [D.py (PyData.list (cutG (pInts ns) (some (k : Int)) none))] p := fun k p hk h => ⟨ns.drop k, by rw [cut_from, hdr], by rw [List.length_drop]; omega, hb.drop k, h⟩
  have ho1 := hodd 1 (fun d => fre d (post d)) (by omega) fun q hq => hp q (fine_mono (by omega) (by omega) hq)
  cases q with
  | dict l => cases hq
  | tuple l =>
    have hf := fineL.ofT hq
    have ft : ∀ p : List PyData, fineL (m + 1) (n + 2) p → post (.py (.tuple p)) := fun p h => hp _ h.tup
    have fl : ∀ p : List PyData, fineL (m + 1) (n + 2) p → post (.py (.list p)) := fun p h => hp _ h.lst
    have hin : ∀ x ∈ l, fineB (m + 1) (n + 2) x = true := fun x hx => fine_mono (by omega) (by omega) (hf.2 x hx)
    have hll := hf.1
    refine seq_gen fun R hR => ?_
    walk_at "dl"
    refine if_f (by decide) ?_
    refine if_dec (fun _ => ho1) fun hx0 => ?_
    refine if_dec (fun _ => ho1) fun _ => ?_
    rw [e0]
    refine ⟨by decide, if_dec (fun _ => ho1) fun _ => ?_⟩
    refine seq_back hR rfl ?_
    refine seq_gen fun R hR => ?_
    walk_at "dl"
    refine seq_back hR rfl ?_
    refine seq_gen fun R hR => ?_
    walk_at "dl"
    rw [e1]
    have hx1 : 0 < l.length := by omega
    obtain ⟨a, ha⟩ : ∃ a : Nat, i1 % (l.length : Int) = a := ⟨(i1 % (l.length : Int)).toNat, by have := Int.emod_nonneg i1 (show (l.length : Int) ≠ 0 by omega); omega⟩
    have ha2 : a < l.length := by have := Int.emod_lt_of_pos i1 (show (0 : Int) < l.length by omega); omega
    refine ⟨by omega, ?_⟩
    rw [ha]
    refine seq_back hR rfl ?_
    refine seq_gen fun R hR => ?_
    walk_at "dl"
    rw [e2]
    refine ⟨by decide, ?_⟩
    refine seq_back hR rfl ?_
    refine seq_gen fun R hR => ?_
    have key1 : ∀ p : List PyData, fineL (m + 1) (n + 2) p → R [some (D.py (PyData.tuple l)), some (D.py (PyData.list (pInts ns))), some (D.py (PyData.list p)), some (D.py (PyData.int a)), some (D.py (PyData.int (i2 % 12)))] := fun p hl => by
      refine seq_back hR rfl ?_
      walk_at "dl"
      refine ⟨by decide, (Shp.bool (k := 0) _).ok, (Shp.bool (k := 0) _).ok, ?_⟩
      split
      · exact fl p hl
      · exact ft p hl
    have key2 : ∀ p : List PyData, fineL (m + 1) (n + 2) p → R [some (D.py (PyData.tuple l)), some (D.py (PyData.list (pInts ns))), some (D.ol p), some (D.py (PyData.int a)), some (D.py (PyData.int (i2 % 12)))] := fun p hl => by
      refine seq_back hR rfl ?_
      walk_at "dl"
      refine ⟨by decide, (Shp.bool (k := 0) _).ok, (Shp.bool (k := 0) _).ok, ?_⟩
      split
      · exact fl p hl
      · exact ft p hl
    have hcut : ∀ lo hi, (cutG l lo hi).length ≤ 1000 := fun lo hi => by
      unfold cutG
      rw [List.length_take, List.length_drop]
      omega
    have htk : ∀ j, ∀ x ∈ l.take j, fineB (m + 1) (n + 2) x = true := fun j x hx => hin x (List.mem_of_mem_take hx)
    have hdk : ∀ j, ∀ x ∈ l.drop j, fineB (m + 1) (n + 2) x = true := fun j x hx => hin x (List.mem_of_mem_drop hx)
    have join : ∀ p q : List PyData, (∀ x ∈ p, fineB (m + 1) (n + 2) x = true) → (∀ x ∈ q, fineB (m + 1) (n + 2) x = true) → p.length + q.length ≤ m + 1 → fineL (m + 1) (n + 2) (p ++ q) := fun p q h1 h2 h3 => ⟨by rw [List.length_append]; exact h3, fun x hx => (List.mem_append.mp hx).elim (h1 x) (h2 x)⟩
    walk_at "dl"
    refine if_dec (fun _ => ?_) fun _ => if_dec (fun _ => ?_) fun _ => if_dec (fun _ => ?_) fun _ => if_dec (fun _ => ?_) fun _ => if_dec (fun _ => ?_) fun _ => ?_
    · have h1 := hcut none (some (a : Int)); have h2 := hcut (some ((a : Int) + 1)) none
      refine ⟨by omega, key1 _ ?_⟩
      rw [show ((a : Int) + 1) = ((a + 1 : Nat) : Int) by push_cast; rfl, cut_to, cut_from]
      exact join _ _ (htk _) (hdk _) (by rw [List.length_take, List.length_drop]; omega)
    · have h1 := hcut none (some ((a : Int) + 1)); have h2 := hcut (some (a : Int)) none
      refine ⟨by omega, key1 _ ?_⟩
      rw [show ((a : Int) + 1) = ((a + 1 : Nat) : Int) by push_cast; rfl, cut_to, cut_from]
      exact join _ _ (htk _) (hdk _) (by rw [List.length_take, List.length_drop]; omega)
    · have h1 := hcut (some (a : Int)) none; have h2 := hcut none (some (a : Int))
      refine ⟨by omega, key1 _ ?_⟩
      rw [cut_to, cut_from]
      exact join _ _ (hdk _) (htk _) (by rw [List.length_take, List.length_drop]; omega)
    · refine hodd 3 _ (by omega) fun q hq => ?_
      walk_at "dl"
      have h1 := hcut (some (a : Int)) none; have h2 := hcut none (some (a : Int))
      rw [cut_to] at h2
      rw [cut_from] at h1
      rw [cut_to, cut_from, List.length_append]
      refine ⟨by omega, by show _ + 1 + _ ≤ _; omega, key1 _ ?_⟩
      refine join _ _ (fun x hx => (List.mem_append.mp hx).elim (htk _ x) fun z => ?_) (hdk _) (by rw [List.length_append, List.length_take, List.length_drop]; show _ + 1 + _ ≤ _; omega)
      rw [List.mem_singleton.mp z]
      exact fine_mono (by omega) (by omega) hq
    · obtain ⟨v, ev, hv⟩ := at_any (L := l) (k := (a : Int)) (by omega) (by omega)
      rw [ev]
      refine ⟨v, ns.drop 4, by rw [show (some (4 : Int)) = some ((4 : Nat) : Int) from rfl, cut_from, hdr], by rw [List.length_drop]; omega, hb.drop 4, hf.2 v hv, fun q hq => ?_⟩
      refine ⟨a, rfl, by omega, key2 _ ⟨by rw [List.length_set]; omega, fun x hx => ?_⟩⟩
      rcases List.mem_or_eq_of_mem_set hx with z | z
      · exact hin x z
      · rw [z]; exact hq
    · exact key2 _ ⟨by omega, hin⟩
  | list l =>
    have hf := fineL.ofL hq
    have ft : ∀ p : List PyData, fineL (m + 1) (n + 2) p → post (.py (.tuple p)) := fun p h => hp _ h.tup
    have fl : ∀ p : List PyData, fineL (m + 1) (n + 2) p → post (.py (.list p)) := fun p h => hp _ h.lst
    have hin : ∀ x ∈ l, fineB (m + 1) (n + 2) x = true := fun x hx => fine_mono (by omega) (by omega) (hf.2 x hx)
    have hll := hf.1
    refine seq_gen fun R hR => ?_
    walk_at "dl"
    refine if_f (by decide) ?_
    refine if_dec (fun _ => ho1) fun hx0 => ?_
    refine if_dec (fun _ => ho1) fun _ => ?_
    rw [e0]
    refine ⟨by decide, if_dec (fun _ => ho1) fun _ => ?_⟩
    refine seq_back hR rfl ?_
    refine seq_gen fun R hR => ?_
    walk_at "dl"
    refine seq_back hR rfl ?_
    refine seq_gen fun R hR => ?_
    walk_at "dl"
    rw [e1]
    have hx1 : 0 < l.length := by omega
    obtain ⟨a, ha⟩ : ∃ a : Nat, i1 % (l.length : Int) = a := ⟨(i1 % (l.length : Int)).toNat, by have := Int.emod_nonneg i1 (show (l.length : Int) ≠ 0 by omega); omega⟩
    have ha2 : a < l.length := by have := Int.emod_lt_of_pos i1 (show (0 : Int) < l.length by omega); omega
    refine ⟨by omega, ?_⟩
    rw [ha]
    refine seq_back hR rfl ?_
    refine seq_gen fun R hR => ?_
    walk_at "dl"
    rw [e2]
    refine ⟨by decide, ?_⟩
    refine seq_back hR rfl ?_
    refine seq_gen fun R hR => ?_
    have key1 : ∀ p : List PyData, fineL (m + 1) (n + 2) p → R [some (D.py (PyData.list l)), some (D.py (PyData.list (pInts ns))), some (D.py (PyData.list p)), some (D.py (PyData.int a)), some (D.py (PyData.int (i2 % 12)))] := fun p hl => by
      refine seq_back hR rfl ?_
      walk_at "dl"
      refine ⟨by decide, (Shp.bool (k := 0) _).ok, (Shp.bool (k := 0) _).ok, ?_⟩
      split
      · exact fl p hl
      · exact ft p hl
    have key2 : ∀ p : List PyData, fineL (m + 1) (n + 2) p → R [some (D.py (PyData.list l)), some (D.py (PyData.list (pInts ns))), some (D.ol p), some (D.py (PyData.int a)), some (D.py (PyData.int (i2 % 12)))] := fun p hl => by
      refine seq_back hR rfl ?_
      walk_at "dl"
      refine ⟨by decide, (Shp.bool (k := 0) _).ok, (Shp.bool (k := 0) _).ok, ?_⟩
      split
      · exact fl p hl
      · exact ft p hl
    have hcut : ∀ lo hi, (cutG l lo hi).length ≤ 1000 := fun lo hi => by
      unfold cutG
      rw [List.length_take, List.length_drop]
      omega
    have htk : ∀ j, ∀ x ∈ l.take j, fineB (m + 1) (n + 2) x = true := fun j x hx => hin x (List.mem_of_mem_take hx)
    have hdk : ∀ j, ∀ x ∈ l.drop j, fineB (m + 1) (n + 2) x = true := fun j x hx => hin x (List.mem_of_mem_drop hx)
    have join : ∀ p q : List PyData, (∀ x ∈ p, fineB (m + 1) (n + 2) x = true) → (∀ x ∈ q, fineB (m + 1) (n + 2) x = true) → p.length + q.length ≤ m + 1 → fineL (m + 1) (n + 2) (p ++ q) := fun p q h1 h2 h3 => ⟨by rw [List.length_append]; exact h3, fun x hx => (List.mem_append.mp hx).elim (h1 x) (h2 x)⟩
    walk_at "dl"
    refine if_dec (fun _ => ?_) fun _ => if_dec (fun _ => ?_) fun _ => if_dec (fun _ => ?_) fun _ => if_dec (fun _ => ?_) fun _ => if_dec (fun _ => ?_) fun _ => ?_
    · have h1 := hcut none (some (a : Int)); have h2 := hcut (some ((a : Int) + 1)) none
      refine ⟨by omega, key1 _ ?_⟩
      rw [show ((a : Int) + 1) = ((a + 1 : Nat) : Int) by push_cast; rfl, cut_to, cut_from]
      exact join _ _ (htk _) (hdk _) (by rw [List.length_take, List.length_drop]; omega)
    · have h1 := hcut none (some ((a : Int) + 1)); have h2 := hcut (some (a : Int)) none
      refine ⟨by omega, key1 _ ?_⟩
      rw [show ((a : Int) + 1) = ((a + 1 : Nat) : Int) by push_cast; rfl, cut_to, cut_from]
      exact join _ _ (htk _) (hdk _) (by rw [List.length_take, List.length_drop]; omega)
    · have h1 := hcut (some (a : Int)) none; have h2 := hcut none (some (a : Int))
      refine ⟨by omega, key1 _ ?_⟩
      rw [cut_to, cut_from]
      exact join _ _ (hdk _) (htk _) (by rw [List.length_take, List.length_drop]; omega)
    · refine hodd 3 _ (by omega) fun q hq => ?_
      walk_at "dl"
      have h1 := hcut (some (a : Int)) none; have h2 := hcut none (some (a : Int))
      rw [cut_to] at h2
      rw [cut_from] at h1
      rw [cut_to, cut_from, List.length_append]
      refine ⟨by omega, by show _ + 1 + _ ≤ _; omega, key1 _ ?_⟩
      refine join _ _ (fun x hx => (List.mem_append.mp hx).elim (htk _ x) fun z => ?_) (hdk _) (by rw [List.length_append, List.length_take, List.length_drop]; show _ + 1 + _ ≤ _; omega)
      rw [List.mem_singleton.mp z]
      exact fine_mono (by omega) (by omega) hq
    · obtain ⟨v, ev, hv⟩ := at_any (L := l) (k := (a : Int)) (by omega) (by omega)
      rw [ev]
      refine ⟨v, ns.drop 4, by rw [show (some (4 : Int)) = some ((4 : Nat) : Int) from rfl, cut_from, hdr], by rw [List.length_drop]; omega, hb.drop 4, hf.2 v hv, fun q hq => ?_⟩
      refine ⟨a, rfl, by omega, key2 _ ⟨by rw [List.length_set]; omega, fun x hx => ?_⟩⟩
      rcases List.mem_or_eq_of_mem_set hx with z | z
      · exact hin x z
      · rw [z]; exact hq
    · exact key2 _ ⟨by omega, hin⟩
  | _ => walk_at "dl"; exact if_t (by decide) ho1
end
/-! ### texts in order, plain -/
theorem eqvAll_strs : ∀ a b : List Str, PyData.eqvAll (a.map PyData.str) (b.map PyData.str) = decide (a = b)
  | [], [] => by simp only [List.map_nil, PyData.eqvAll]; rfl
  | [], b :: r => by simp only [List.map_nil, List.map_cons, PyData.eqvAll]; exact (decide_eq_false (by simp)).symm
  | a :: l, [] => by simp only [List.map_nil, List.map_cons, PyData.eqvAll]; exact (decide_eq_false (by simp)).symm
  | a :: l, b :: r => by
    have ih := eqvAll_strs l r
    simp only [List.map_cons, PyData.eqvAll, PyData.eqv, ih, List.cons.injEq]
    by_cases h1 : a = b <;> by_cases h2 : l = r <;> simp [h1, h2]
def ltS (a b : Str) : Prop := a.cps.toList < b.cps.toList
instance (a b : Str) : Decidable (ltS a b) := inferInstanceAs (Decidable (a.cps.toList < b.cps.toList))
theorem ltS_trans {a b c : Str} (h1 : ltS a b) (h2 : ltS b c) : ltS a c := List.lt_trans h1 h2
theorem ltS_irrefl {a : Str} : ¬ ltS a a := List.lt_irrefl _
def chainS : List Str → Bool
  | a :: b :: r => decide (ltS a b) && chainS (b :: r)
  | _ => true
theorem chain_pw : ∀ l : List Str, chainS l = true → l.Pairwise ltS
  | [], _ => .nil
  | [a], _ => List.pairwise_singleton ..
  | a :: b :: r, h => by
    obtain ⟨h1, h2⟩ := Bool.and_eq_true_iff.mp (show (decide (ltS a b) && chainS (b :: r)) = true from h)
    have ih := chain_pw (b :: r) h2
    refine List.pairwise_cons.mpr ⟨fun x hx => ?_, ih⟩
    rcases List.mem_cons.mp hx with rfl | hx
    · exact of_decide_eq_true h1
    · exact ltS_trans (of_decide_eq_true h1) ((List.pairwise_cons.mp ih).1 x hx)
theorem pw_chain : ∀ l : List Str, l.Pairwise ltS → chainS l = true
  | [], _ => rfl
  | [a], _ => rfl
  | a :: b :: r, h => by
    obtain ⟨h1, h2⟩ := List.pairwise_cons.mp h
    exact Bool.and_eq_true_iff.mpr ⟨decide_eq_true (h1 b (List.mem_cons_self ..)), pw_chain (b :: r) h2⟩
theorem pwS_uniq : ∀ {a b : List Str}, a.Pairwise ltS → b.Pairwise ltS → (∀ x, x ∈ a ↔ x ∈ b) → a = b
  | [], [], _, _, _ => rfl
  | [], b :: r, _, _, h => by have := (h b).mpr (List.mem_cons_self ..); cases this
  | a :: l, [], _, _, h => by have := (h a).mp (List.mem_cons_self ..); cases this
  | a :: l, b :: r, h1, h2, h => by
    rw [List.pairwise_cons] at h1 h2
    have e : a = b := by
      rcases List.mem_cons.mp ((h a).mp (List.mem_cons_self ..)) with k1 | k1
      · exact k1
      · rcases List.mem_cons.mp ((h b).mpr (List.mem_cons_self ..)) with k2 | k2
        · exact k2.symm
        · exact absurd (ltS_trans (h1.1 b k2) (h2.1 a k1)) ltS_irrefl
    subst e
    rw [pwS_uniq h1.2 h2.2 fun x => ⟨fun hx => ?_, fun hx => ?_⟩]
    · rcases List.mem_cons.mp ((h x).mp (List.mem_cons_of_mem _ hx)) with z | z
      · rw [z] at hx; exact absurd (h1.1 a hx) ltS_irrefl
      · exact z
    · rcases List.mem_cons.mp ((h x).mpr (List.mem_cons_of_mem _ hx)) with z | z
      · rw [z] at hx; exact absurd (h2.1 a hx) ltS_irrefl
      · exact z
theorem rising_pw : ∀ (p : Str) (l : List Str), risingS p l = true → (p :: l).Nodup → (p :: l).Pairwise ltS
  | p, [], _, _ => List.pairwise_singleton ..
  | p, x :: r, h, nd => by
    obtain ⟨h1, h2⟩ := Bool.and_eq_true_iff.mp (show (!ltCps x.cps.toList p.cps.toList && risingS x r) = true from h)
    have ih := rising_pw x r h2 (List.nodup_cons.mp nd).2
    have hx : ltS p x := by
      have n1 : ¬ (x.cps.toList < p.cps.toList) := fun z => by
        rw [ltCps_eq, decide_eq_true z] at h1; cases h1
      have n2 : p.cps.toList ≠ x.cps.toList := fun z => by
        have e : p = x := by
          obtain ⟨⟨a⟩⟩ := p; obtain ⟨⟨b⟩⟩ := x
          have : a = b := z
          subst this; rfl
        exact (List.nodup_cons.mp nd).1 (by rw [e]; exact List.mem_cons_self ..)
      rcases Decidable.em (p.cps.toList < x.cps.toList) with z | z
      · exact z
      · exact absurd (List.le_antisymm n1 z) n2
    refine List.pairwise_cons.mpr ⟨fun y hy => ?_, ih⟩
    rcases List.mem_cons.mp hy with rfl | hy
    · exact hx
    · exact ltS_trans hx ((List.pairwise_cons.mp ih).1 y hy)
theorem sorted_pw : ∀ (l : List Str), sortedS l = true → l.Nodup → l.Pairwise ltS
  | [], _, _ => .nil
  | p :: l, h, nd => rising_pw p l h nd
/-- names that are their own sorted set -/
theorem own_set {ns ys : List Str} (h1 : sortedS ys = true) (h2 : ys.Nodup) (h3 : ∀ k, k ∈ ys ↔ k ∈ ns) : decide (ns = ys) = chainS ns := by
  have py := sorted_pw ys h1 h2
  cases hc : chainS ns with
  | true => exact decide_eq_true (pwS_uniq (chain_pw ns hc) py fun x => (h3 x).symm)
  | false =>
    refine decide_eq_false fun e => ?_
    subst e
    rw [pw_chain _ py] at hc
    cases hc
theorem name_strOk {nm : Str} (h : nameB (.str nm) = true) : PyData.strOk nm = true := by
  unfold nameB at h
  simp only [Bool.and_eq_true, List.all_eq_true, decide_eq_true_eq] at h
  exact strOk_sub h.2
/-! ### looks of the law's own -/
abbrev s__law_from : Stmt := top 23
theorem sc__law_from : FnScope ["thing", "least", "top"] ["thing", "least", "top"] (defScope s__law_from) := ⟨rfl, rfl, rfl, by decide +kernel, rfl, by decide +kernel, by decide +kernel⟩
abbrev s__law_is_name : Stmt := top 28
theorem sc__law_is_name : FnScope ["thing", "mark"] ["thing"] (defScope s__law_is_name) := ⟨rfl, rfl, rfl, by decide +kernel, rfl, by decide +kernel, by decide +kernel⟩
abbrev s__law_is_stair : Stmt := top 33
theorem sc__law_is_stair : FnScope ["thing", "one"] ["thing"] (defScope s__law_is_stair) := ⟨rfl, rfl, rfl, by decide +kernel, rfl, by decide +kernel, by decide +kernel⟩
abbrev s__law_are_walkers : Stmt := top 34
theorem sc__law_are_walkers : FnScope ["stair", "thing", "one", "names"] ["stair", "thing"] (defScope s__law_are_walkers) := ⟨rfl, rfl, rfl, by decide +kernel, rfl, by decide +kernel, by decide +kernel⟩
section
variable {P : Program} {w : World} {K : Kf} {mg : Str → Option Value} {base : Heap}
theorem cal_law_from (d : Def K mg "_law_from" s__law_from) (T : Bl mg) : Cal P w K mg base "_law_from" ["thing", "least", "top"] 1 C_within := by
  refine calD d sc__law_from (fun B ds post ⟨_, _, _, e, _⟩ => by subst e; exact ⟨rfl, fun d hd => by simp at hd; rcases hd with rfl | rfl | rfl <;> exact free_py⟩) (fun _ _ _ _ _ _ _ us hl => match us, hl with | [_, _, _], _ => rfl) (fun f cdv A outer s H E B ds post hr c => ⟨_, (psd_one (psd_ret (pd_and (pd_isi T (pd_var 0) (pd_ty (by rfl) T.int bo_int)) (pd_and (pd_not (pd_isi T (pd_var 0) (pd_ty (by rfl) T.bool bo_bool))) (pd_and (pd_cmp op_le od_le (pd_var 1) (pd_var 0) (nomark _)) (pd_one (pd_cmp op_le od_le (pd_var 0) (pd_var 2) (nomark _)))))))), ?_⟩)
  obtain ⟨q, lo, hi, rfl, hp⟩ := c
  refine at_st (S' := [some (.py q), some (.py (.int lo)), some (.py (.int hi))]) rfl ?_
  cases q with
  | int i =>
    walk_at "dl"
    refine ⟨by decide, if_t rfl ⟨by decide, if_t rfl ?_⟩⟩
    unfold withinB at hp
    refine if_dec (fun h => ?_) (fun h => ?_)
    · simp only [decide_eq_true h, Bool.true_and] at hp; exact hp
    · simp only [decide_eq_false h, Bool.false_and] at hp; exact hp
  | bool b =>
    walk_at "dl"
    exact ⟨by decide, if_t rfl ⟨by decide, if_f rfl hp⟩⟩
  | _ =>
    walk_at "dl"
    exact ⟨by decide, if_f rfl hp⟩
theorem cal_law_is_stair (d : Def K mg "_law_is_stair" s__law_is_stair) (T : Bl mg) (c_law_from : Cal P w K mg base "_law_from" ["thing", "least", "top"] 1 C_within) : Cal P w K mg base "_law_is_stair" ["thing"] 2 C_isstair := by
  refine calD d sc__law_is_stair (fun B ds post ⟨_, e, _⟩ => by subst e; exact ⟨rfl, fun d hd => by simp at hd; rcases hd with rfl; exact free_py⟩) (fun _ _ _ _ _ _ _ us hl => match us, hl with | [_], _ => rfl) (fun f cdv A outer s H E B ds post hr c => ⟨_, (psd_cons (psd_if (PDW.t (pdw_or (pdt_not (pdt_val (pd_isi T (pd_var 0) (pd_ty (by rfl) T.tuple bo_tuple)))) (pdw_or (pdt_cmp (op_neA hr.units) od_ne (pd_len T (pd_var 0)) pd_int (nomark _)) (pdw_or1 (pdt_not (pdt_val (pd_cal c_law_from hr (pda_cons (pd_ix (pd_var 0) pd_int) (pda_cons pd_int (pda_cons (pd_pow (n := 1000000)) pda_nil)))))))))) (psd_one (psd_ret pd_bl)) psd_nil)
        (psd_cons (psd_if (PDW.t (pdw_or (pdt_not (pdt_val (pd_isi T (pd_ix (pd_var 0) pd_int) (pd_ty (by rfl) T.tuple bo_tuple)))) (pdw_or1 (pdt_not (pdt_chain op_le op_le od_le od_le pd_int (pd_len T (pd_ix (pd_var 0) pd_int)) pd_int))))) (psd_one (psd_ret pd_bl)) psd_nil)
        (psd_one (psd_ret (pd_all T rfl (pd_lc (own := [("one", 1)]) (g := (dgName 1)) (t := dYes) rfl sc__law_is_stair.nd (pdi_tup (pd_ix (pd_var 0) pd_int)) (blkOk_by (N := ["thing", "one"]) (sc := defScope s__law_is_stair) (by decide +kernel)) (fun _ _ _ _ _ => (pdg_name (i := 1) sc__law_is_stair.nd rfl (Or.inl rfl))) (fun _ _ _ _ _ => ptd_nil) (fun _ _ _ _ _ => (pd_cal c_law_from hr (pda_cons (pd_var 1) (pda_cons pd_int (pda_cons (pd_pow (n := 1000000)) pda_nil))))))))))), ?_⟩)
  obtain ⟨q, rfl, hp⟩ := c
  refine at_st (S' := [some (.py q), none]) rfl ?_
  cases q with
  | tuple l =>
    walk_at "dl"
    refine ⟨by decide, if_f rfl (if_ndec (fun h => ?_) (fun h => ?_))⟩
    · have e : stairB (.tuple l) = false := by
        rcases l with _ | ⟨a, _ | ⟨b, _ | ⟨c, r⟩⟩⟩
        · rfl
        · rfl
        · exact absurd rfl h
        · cases b <;> rfl
      rw [e] at hp; exact hp
    · obtain ⟨a, b, rfl⟩ : ∃ a b, l = [a, b] := by
        rcases l with _ | ⟨a, _ | ⟨b, _ | ⟨c, r⟩⟩⟩
        · cases h
        · cases h
        · exact ⟨a, b, rfl⟩
        · exfalso; simp only [List.length_cons] at h; omega
      walk_at "dl"
      refine ⟨a, _, _, rfl, ?_⟩
      walk_at "dl"
      refine if_nb (fun hw => ?_) (fun hw => ?_)
      · have e : stairB (.tuple [a, b]) = false := by cases b <;> first | rfl | (unfold stairB; simp only [hw, Bool.false_and])
        rw [e] at hp; exact hp
      · cases b with
        | tuple l =>
          have n1 : (1 : Int) ≤ (l.length : Int) ↔ 1 ≤ l.length := by omega
          have n2 : (l.length : Int) ≤ 6 ↔ l.length ≤ 6 := by omega
          unfold stairB at hp
          walk_at "dl"
          refine ⟨by decide, if_f rfl (if_dec (fun h1 => if_ndec (fun h2 => ?_) (fun h2 => ?_)) (fun h1 => if_t rfl ?_))⟩
          · simp only [decide_eq_false (fun q => h2 (n2.mpr q)), Bool.and_false, Bool.false_and] at hp; exact hp
          · simp only [hw, decide_eq_true (n1.mp h1), decide_eq_true (n2.mp h2), Bool.true_and] at hp
            exact all_lc (fun x => withinB x 1 1000000) (fun d p => C_within B [D.py d, D.py (PyData.int 1), D.py (PyData.int 1000000)] p) (by omega) (fun i d _ p hp => ⟨d, _, _, rfl, hp⟩) hp
          · simp only [decide_eq_false (fun q => h1 (n1.mpr q)), Bool.and_false, Bool.false_and] at hp; exact hp
        | _ =>
          walk_at "dl"
          exact ⟨by decide, hp⟩
  | _ =>
    walk_at "dl"
    exact ⟨by decide, hp⟩
theorem cal_law_is_name (d : Def K mg "_law_is_name" s__law_is_name) (T : Bl mg) : Cal P w K mg base "_law_is_name" ["thing"] 1 C_isname := by
  refine calD d sc__law_is_name (fun B ds post ⟨_, e, _⟩ => by subst e; exact ⟨rfl, fun d hd => by simp at hd; rcases hd with rfl; exact free_py⟩) (fun _ _ _ _ _ _ _ us hl => match us, hl with | [_], _ => rfl) (fun f cdv A outer s H E B ds post hr c => ⟨_, (psd_cons (psd_if (PDW.t (pdw_or (pdt_not (pdt_val (pd_isi T (pd_var 0) (pd_ty (by rfl) T.str bo_str)))) (pdw_or (pdt_cmp op_ltA od_ltA (pd_len T (pd_var 0)) pd_int (nomark _)) (pdw_or1 (pdt_cmp op_gt od_gt (pd_len T (pd_var 0)) pd_int (nomark _)))))) (psd_one (psd_ret pd_bl)) psd_nil)
        (psd_one (psd_ret (pd_all T rfl (pd_lc (own := [("mark", 1)]) (g := (dgName 1)) (t := dYes) rfl sc__law_is_name.nd (pdi_str (pd_var 0)) (blkOk_by (N := ["thing", "mark"]) (sc := defScope s__law_is_name) (by decide +kernel)) (fun _ _ _ _ _ => (pdg_name (i := 1) sc__law_is_name.nd rfl (Or.inl rfl))) (fun _ _ _ _ _ => ptd_nil) (fun _ _ _ _ _ => (pd_cmp op_in_sign od_inS (pd_var 1) pd_str (by rfl)))))))), ?_⟩)
  obtain ⟨q, rfl, hq, hp⟩ := c
  refine at_st (S' := [some (.py q), none]) rfl ?_
  cases q with
  | str z =>
    walk_at "dl"
    refine ⟨by decide, if_f rfl ⟨hq z rfl, if_dec (fun h => ?_) (fun h => ⟨hq z rfl, if_dec (fun h2 => ?_) (fun h2 => ?_)⟩)⟩⟩
    · have e : nameB (PyData.str z) = false := by
        unfold nameB
        simp only [decide_eq_false (show ¬ 1 ≤ z.length by omega), Bool.false_and]
      rw [← e]; exact hp
    · have e : nameB (PyData.str z) = false := by
        unfold nameB
        simp only [decide_eq_false (show ¬ z.length ≤ 8 by omega), Bool.and_false, Bool.false_and]
      rw [← e]; exact hp
    · have e : nameB (PyData.str z) = z.cps.toList.all (id ∘ fun c => decide (c ∈ small.cps.toList)) := by
        unfold nameB
        simp only [decide_eq_true (show 1 ≤ z.length by omega), decide_eq_true (show z.length ≤ 8 by omega), Bool.true_and]
        rfl
      refine ⟨fun i acc => acc = ((z.cps.toList.map fun c => PyData.bool (decide (c ∈ small.cps.toList)))).take i, rfl, ?_, ?_⟩
      · rintro i d acc hi rfl
        obtain ⟨x, hx, rfl⟩ := map_get hi
        have key : (z.cps.toList.map fun c => PyData.bool (decide (c ∈ small.cps.toList)))[i]? = some (PyData.bool (decide (x ∈ small.cps.toList))) := by rw [List.getElem?_map, hx]; rfl
        refine ⟨x, rfl, ?_, (take_more key).symm⟩
        rw [List.length_take, List.length_map]
        have : z.cps.toList.length = z.length := by rw [Array.length_toList]; rfl
        omega
      · rintro acc rfl
        rw [List.length_map]
        refine ⟨z.cps.toList.map fun c => decide (c ∈ small.cps.toList), ?_, ?_⟩
        · rw [List.take_of_length_le (by rw [List.length_map]; exact Nat.le_refl _), List.map_map]; rfl
        · rw [List.all_map, ← e]; exact hp
  | _ =>
    walk_at "dl"
    exact ⟨by decide, if_t rfl hp⟩
def nmOfW : PyData → Str
  | .tuple (.str a :: _) => a
  | _ => Str.empty
theorem asc_chain {day : Int} : ∀ l : List PyData, (∀ x ∈ l, walkerB day x = true) → ascB l = chainS (l.map nmOfW)
  | [], _ => rfl
  | [a], _ => rfl
  | a :: b :: l, h => by
    obtain ⟨n1, _, _, _, rfl, _⟩ := walkerB_shape (h a (List.mem_cons_self ..))
    obtain ⟨n2, _, _, _, rfl, _⟩ := walkerB_shape (h b (List.mem_cons_of_mem _ (List.mem_cons_self ..)))
    have ih := asc_chain (_ :: l) fun x hx => h x (List.mem_cons_of_mem _ hx)
    show (nmLt _ _ && ascB _) = (decide (ltS n1 n2) && chainS _)
    rw [ih]
    rfl
theorem cal_law_are_walkers (d : Def K mg "_law_are_walkers" s__law_are_walkers) (T : Bl mg) (c_law_from : Cal P w K mg base "_law_from" ["thing", "least", "top"] 1 C_within) (c_law_is_name : Cal P w K mg base "_law_is_name" ["thing"] 1 C_isname) : Cal P w K mg base "_law_are_walkers" ["stair", "thing"] 2 C_areall := by
  refine calD d sc__law_are_walkers (fun B ds post ⟨_, _, _, e, _⟩ => by subst e; exact ⟨rfl, fun d hd => by simp at hd; rcases hd with rfl | rfl <;> exact free_py⟩) (fun _ _ _ _ _ _ _ us hl => match us, hl with | [_, _], _ => rfl) (fun f cdv A outer s H E B ds post hr c => ⟨_, (psd_cons (psd_if (PDW.t (pdw_or (pdt_not (pdt_val (pd_isi T (pd_var 1) (pd_ty (by rfl) T.tuple bo_tuple)))) (pdw_or1 (pdt_not (pdt_chain op_le op_le od_le od_le pd_int (pd_len T (pd_var 1)) pd_int))))) (psd_one (psd_ret pd_bl)) psd_nil)
        (psd_cons (psd_for PassesOwn.never rfl (pdi_tup (pd_var 1)) (pdg_name (i := 2) sc__law_are_walkers.nd rfl (Or.inl rfl)) (psd_cons (psd_if (PDW.t (pdw_or (pdt_not (pdt_val (pd_isi T (pd_var 2) (pd_ty (by rfl) T.tuple bo_tuple)))) (pdw_or (pdt_cmp (op_neA hr.units) od_ne (pd_len T (pd_var 2)) pd_int (nomark _)) (pdw_or1 (pdt_not (pdt_val (pd_cal c_law_is_name hr (pda_cons (pd_ix (pd_var 2) pd_int) pda_nil)))))))) (psd_one (psd_ret pd_bl)) psd_nil)
        (psd_cons (psd_if (PDW.t (pdw_or (pdt_not (pdt_val (pd_cal c_law_from hr (pda_cons (pd_ix (pd_var 2) pd_int) (pda_cons pd_int (pda_cons (pd_sub (pd_ix (pd_var 0) pd_int) pd_int) pda_nil)))))) (pdw_or1 (pdt_not (pdt_val (pd_cal c_law_from hr (pda_cons (pd_ix (pd_var 2) pd_int) (pda_cons pd_int (pda_cons pd_int pda_nil))))))))) (psd_one (psd_ret pd_bl)) psd_nil)
        (psd_one (psd_if (PDW.t (pdw_or (pdt_not (pdt_val (pd_isi T (pd_ix (pd_var 2) pd_int) (pd_ty (by rfl) T.str bo_str)))) (pdw_or1 (pdt_cmp op_notIn_seq od_notIn (pd_ix (pd_var 2) pd_int) (pd_lst (pda_cons pd_str (pda_cons pd_str pda_nil))) (by rfl))))) (psd_one (psd_ret pd_bl)) psd_nil)))))
        (psd_cons (psd_setLc (i := 3) (own := [("one", 2)]) (g := (dgName 2)) (t := dYes) rfl sc__law_are_walkers.nd rfl rfl (sw_true rfl rfl rfl (by decide +kernel)) (pdi_tup (pd_var 1)) (blkOk_by (N := ["stair", "thing", "one", "names"]) (sc := defScope s__law_are_walkers) (by decide +kernel)) (fun _ _ _ _ _ => (pdg_name (i := 2) sc__law_are_walkers.nd rfl (Or.inl rfl))) (fun _ _ _ _ _ => ptd_nil) (fun _ _ _ _ _ => (pd_ix (pd_var 2) pd_int)))
        (psd_one (psd_ret (pd_cmp (op_eqA hr.units) od_eq (pd_var 3) (pd_sortSetS T rfl (pd_var 3)) (nomark _))))))), ?_⟩)
  obtain ⟨q, day, lamps, rfl, hq, hp⟩ := c
  refine at_st (S' := [some (.py (stairPy day lamps)), some (.py q), none, none]) rfl ?_
  cases q with
  | tuple l =>
    have n1 : (1 : Int) ≤ (l.length : Int) ↔ 1 ≤ l.length := by omega
    have n2 : (l.length : Int) ≤ 8 ↔ l.length ≤ 8 := by omega
    unfold walkersB at hp
    have bad : ∀ x ∈ l, 1 ≤ l.length → l.length ≤ 8 → walkerB day x = false → post (.py (.bool false)) := fun x hx h1 h2 hw => by
      have e : l.all (walkerB day) = false := by
        cases ha : l.all (walkerB day) with
        | false => rfl
        | true => rw [List.all_eq_true.mp ha x hx] at hw; cases hw
      simp only [e, Bool.and_false, Bool.false_and] at hp
      exact hp
    walk_at "dl"
    refine ⟨by decide, if_f rfl (if_dec (fun h1 => if_ndec (fun h2 => ?_) (fun h2 => ?_)) (fun h1 => ?_))⟩
    · simp only [decide_eq_false (fun q => h2 (n2.mpr q)), Bool.and_false, Bool.false_and] at hp; exact hp
    · replace bad := fun x hx => bad x hx (n1.mp h1) (n2.mp h2)
      refine ⟨fun i S' => (∀ x ∈ l.take i, walkerB day x = true) ∧ ∃ x2 : Option D, S' = [some (.py (stairPy day lamps)), some (.py (.tuple l)), x2, none], ⟨fun x hx => by simp at hx, _, rfl⟩, ?_, ?_⟩
      · rintro i d S' hi ⟨hdone, x2, rfl⟩
        have hd := List.mem_of_getElem? hi
        cases d with
        | tuple e =>
          walk_at "dl"
          refine ⟨by decide, if_f rfl (if_ndec (fun h4 => bad _ hd ?_) (fun h4 => ?_))⟩
          · rcases e with _ | ⟨a, _ | ⟨b, _ | ⟨c, _ | ⟨f, _ | ⟨g, r⟩⟩⟩⟩⟩ <;> first | rfl | exact absurd rfl h4
          · obtain ⟨a, b, c, f, rfl⟩ : ∃ a b c f, e = [a, b, c, f] := by
              rcases e with _ | ⟨a, _ | ⟨b, _ | ⟨c, _ | ⟨f, _ | ⟨g, r⟩⟩⟩⟩⟩
              · cases h4
              · cases h4
              · cases h4
              · cases h4
              · exact ⟨a, b, c, f, rfl⟩
              · exfalso; simp only [List.length_cons] at h4; omega
            have hdone' : walkerB day (.tuple [a, b, c, f]) = true → ∀ x ∈ l.take (i + 1), walkerB day x = true := fun hw x hx => by
              rw [take_more hi] at hx
              rcases List.mem_append.mp hx with z | z
              · exact hdone x z
              · rw [List.mem_singleton.mp z]; exact hw
            walk_at "dl"
            refine ⟨a, rfl, hq l rfl _ hd a _ rfl, if_nb (fun ha => bad _ hd ?_) (fun ha => ?_)⟩
            · simp only [walkerB, ha, Bool.false_and]
            refine ⟨b, _, _, rfl, if_nb (fun hb => bad _ hd ?_) (fun hb => ?_)⟩
            · simp only [walkerB, hb, Bool.and_false, Bool.false_and]
            refine ⟨c, _, _, rfl, if_nb (fun hc => bad _ hd ?_) (fun hc => ?_)⟩
            · simp only [walkerB, hc, Bool.and_false, Bool.false_and]
            cases f with
            | str z =>
              refine ⟨by decide, if_f rfl ⟨rfl, rfl, ?_⟩⟩
              have ev : ([PyData.str "up", PyData.str "down"].any fun e => e.eqv (.str z)) = (decide (z = "up") || decide (z = "down")) := by
                simp only [List.any_cons, List.any_nil, Bool.or_false, PyData.eqv]
                congr 1 <;> exact decide_eq_decide.mpr eq_comm
              show if (!([PyData.str "up", PyData.str "down"].any fun e => e.eqv (.str z))) = true then _ else _
              rw [ev]
              refine if_nb (fun hw => bad _ hd ?_) (fun hw => ⟨hdone' ?_, _, rfl⟩)
              · simp only [walkerB, hw, Bool.and_false]
              · simp only [walkerB, ha, hb, hc, hw, Bool.and_true]
            | _ => exact ⟨by decide, if_t rfl (bad _ hd (by simp only [walkerB, Bool.and_false]))⟩
        | _ =>
          walk_at "dl"
          exact ⟨by decide, if_t rfl (bad _ hd rfl)⟩
      · rintro S' ⟨hdone, x2, rfl⟩
        rw [List.take_length] at hdone
        walk_at "dl"
        have hall : l.all (walkerB day) = true := List.all_eq_true.mpr hdone
        simp only [decide_eq_true (n1.mp h1), decide_eq_true (n2.mp (Decidable.of_not_not (fun z => by omega))), hall, Bool.true_and] at hp
        have hlen : l.length ≤ 8 := by omega
        refine ⟨fun i acc => acc = (l.map fun x => PyData.str (nmOfW x)).take i, rfl, ?_, ?_⟩
        · rintro i d acc hi rfl
          obtain ⟨nm, bg, pc, way, rfl, _⟩ := walkerB_shape (hdone d (List.mem_of_getElem? hi))
          walk_at "dl"
          have key : (l.map fun x => PyData.str (nmOfW x))[i]? = some (PyData.str nm) := by rw [List.getElem?_map, hi]; rfl
          exact ⟨by rw [List.length_take, List.length_map]; omega, (take_more key).symm⟩
        rintro acc rfl
        have eacc : (l.map fun x => PyData.str (nmOfW x)).take l.length = (l.map nmOfW).map PyData.str := by
          rw [List.take_of_length_le (by rw [List.length_map]; exact Nat.le_refl _), List.map_map]; rfl
        rw [eacc]
        refine ⟨l.map nmOfW, rfl, by rw [List.length_map]; omega, fun ys k1 k2 k3 k4 => ?_⟩
        have okn : ∀ z ∈ l.map nmOfW, PyData.strOk z = true := fun z hz => by
          obtain ⟨x, hx, rfl⟩ := List.mem_map.mp hz
          obtain ⟨nm, bg, pc, way, rfl, hn, _⟩ := walkerB_shape (hdone x hx)
          exact name_strOk hn
        refine ⟨(Shp.strs (k := 0) okn).ok, (Shp.strs (k := 0) fun z hz => okn z ((k3 z).mp hz)).ok, ?_⟩
        have ev : (PyData.list ((l.map nmOfW).map PyData.str)).eqv (.list (ys.map PyData.str)) = decide (l.map nmOfW = ys) := by
          simp only [PyData.eqv]; exact eqvAll_strs _ _
        rw [ev, own_set k1 k2 k3, ← asc_chain l hdone]
        exact hp
    · simp only [decide_eq_false (fun q => h1 (n1.mpr q)), Bool.and_false, Bool.false_and] at hp; exact hp
  | _ =>
    walk_at "dl"
    exact ⟨by decide, hp⟩
end
/-! ### things near to stairs and walkers -/
def C_near : Ct := fun _ ds post => ∃ (b : Addr) (day : Int) (lamps : List Int), ds = [.raw (.ref b), .py (stairPy day lamps)] ∧ OkStair day lamps ∧ ∀ l : List PyData, (∀ d ∈ l, fineB 60 3 d = true) → l.length ≤ 100 → post (.py (.list l))
abbrev s__law_near : Stmt := top 35
theorem sc__law_near : FnScope ["bag", "stair", "day", "lamps", "found", "number", "begin", "pace", "way", "some", "walker", "many", "sign"] ["bag", "stair"] (defScope s__law_near) := ⟨rfl, rfl, rfl, by decide +kernel, rfl, by decide +kernel, by decide +kernel⟩
theorem fine_intsT {n : Nat} {l : List Int} (h : l.length ≤ 60) : fineB 60 (n + 1) (.tuple (pInts l)) = true := fineL.tup ⟨by rw [List.length_map]; exact h, fun x hx => by
  obtain ⟨i, _, rfl⟩ := List.mem_map.mp hx
  cases n <;> rfl⟩
theorem fine_intsL {n : Nat} {l : List Int} (h : l.length ≤ 60) : fineB 60 (n + 1) (.list (pInts l)) = true := fineL.lst ⟨by rw [List.length_map]; exact h, fun x hx => by
  obtain ⟨i, _, rfl⟩ := List.mem_map.mp hx
  cases n <;> rfl⟩
theorem rep_len (l : List PyData) : ∀ n : Nat, (repD n l).length = n * l.length := fun n => by
  unfold repD
  simp
theorem rep_fine {n k m : Nat} {l : List PyData} (h : ∀ x ∈ l, fineB 60 n x = true) (hk : k * l.length ≤ m) (hm : m ≤ 60) : fineB 60 (n + 1) (.tuple (repD k l)) = true :=
  fineL.tup ⟨by rw [rep_len]; omega, fun x hx => by
    unfold repD at hx
    obtain ⟨y, hy, hx⟩ := List.mem_flatten.mp hx
    rw [(List.mem_replicate.mp hy).2] at hx
    exact h x hx⟩
theorem ints_fine {n : Nat} (l : List Int) : ∀ x ∈ pInts l, fineB 60 n x = true := fun x hx => by
  obtain ⟨i, _, rfl⟩ := List.mem_map.mp hx
  cases n <;> rfl
/-- one more handful of things -/
theorem more60 {sm L : List PyData} {n k : Nat} (h1 : ∀ d ∈ sm, fineB 60 3 d = true) (h2 : sm.length ≤ n) (h3 : ∀ d ∈ L, fineB 60 3 d = true) (h4 : L.length ≤ k) : ∃ sn, sm ++ L = sn ∧ (∀ d ∈ sn, fineB 60 3 d = true) ∧ sn.length ≤ n + k :=
  ⟨_, rfl, fun d hd => (List.mem_append.mp hd).elim (h1 d) (h3 d), by rw [List.length_append]; omega⟩
theorem t2 {n : Nat} {a b : PyData} (h1 : fineB 60 n a = true) (h2 : fineB 60 n b = true) : fineB 60 (n + 1) (.tuple [a, b]) = true := fineL.tup ⟨by show 2 ≤ 60; decide, fun x hx => by
  simp only [List.mem_cons, List.mem_nil_iff, or_false] at hx
  rcases hx with rfl | rfl <;> assumption⟩
theorem fi {n : Nat} {i : Int} : fineB 60 n (.int i) = true := by cases n <;> rfl
section
variable {P : Program} {w : World} {K : Kf} {mg : Str → Option Value} {base : Heap}
theorem cal_law_near (d : Def K mg "_law_near" s__law_near) (T : Bl mg) : Cal P w K mg base "_law_near" ["bag", "stair"] 1 C_near := by
  refine calD d sc__law_near (fun B ds post ⟨_, _, _, e, _⟩ => by subst e; exact ⟨rfl, fun d hd => by simp at hd; rcases hd with rfl | rfl <;> first | exact free_py | exact free_raw⟩) (fun _ _ _ _ _ _ _ us hl => match us, hl with | [_, _], _ => rfl) (fun f cdv A outer s H E B ds post hr c => ⟨_, (psd_cons (psd_asgG (pd_var 1) (pdg_tup rfl (pdgs_cons (pdg_name (i := 2) sc__law_near.nd rfl (Or.inl rfl)) (pdgs_cons (pdg_name (i := 3) sc__law_near.nd rfl (Or.inl rfl)) pdgs_nil)) (lg_cons rch_name (lg_cons rch_name lg_nil))))
        (psd_cons (psd_set (i := 4) sc__law_near.nd rfl (Or.inl rfl) (pd_lst (pda_cons (pd_tup (pda_cons (pd_var 2) (pda_cons (pd_listOf T (pd_var 3)) pda_nil))) (pda_cons (pd_lst (pda_cons (pd_var 2) (pda_cons (pd_var 3) pda_nil))) (pda_cons (pd_tup (pda_cons (pd_var 2) pda_nil)) (pda_cons (pd_tup (pda_cons (pd_var 2) (pda_cons (pd_tup pda_nil) pda_nil))) pda_nil))))))
        (psd_cons (psd_setAddO (i := 4) sc__law_near.nd rfl (Or.inl rfl) (pd_var 4) (pd_lst (pda_cons (pd_tup (pda_cons (pd_var 2) (pda_cons (pd_mulT (pd_var 3) pd_int) pda_nil))) (pda_cons (pd_tup (pda_cons (pd_var 2) (pda_cons (pd_mulT (pd_tup (pda_cons pd_int pda_nil)) pd_int) pda_nil))) (pda_cons (pd_tup (pda_cons (pd_var 2) (pda_cons (pd_mulT (pd_tup (pda_cons pd_int pda_nil)) pd_int) pda_nil))) pda_nil)))))
        (psd_cons (psd_for PassesOwn.never rfl (pdi_tup (pd_tup (pda_cons pd_int (pda_cons pd_int (pda_cons (pd_pow (n := 1000000)) (pda_cons (pd_add (pd_pow (n := 1000000)) pd_int) (pda_cons pd_neg (pda_cons pd_bl (pda_cons pd_non pda_nil))))))))) (pdg_name (i := 5) sc__law_near.nd rfl (Or.inl rfl)) (psd_one (psd_frz 4 (psd_setAddO (i := 4) sc__law_near.nd rfl (Or.inl rfl) (pd_var 4) (pd_lst (pda_cons (pd_tup (pda_cons (pd_var 5) (pda_cons (pd_var 3) pda_nil))) (pda_cons (pd_tup (pda_cons (pd_var 2) (pda_cons (pd_tup (pda_cons (pd_var 5) pda_nil)) pda_nil))) (pda_cons (pd_tup (pda_cons (pd_var 2) (pda_cons (pd_add (pd_slice (pd_var 3) pdo_none (pdo_some pd_int)) (pd_tup (pda_cons (pd_var 5) pda_nil))) pda_nil))) pda_nil))))))))
        (psd_cons (psd_for PassesOwn.never rfl (pdi_tup (pd_tup (pda_cons (pd_tup (pda_cons (pd_sub (pd_var 2) pd_int) (pda_cons pd_int (pda_cons pd_str pda_nil)))) (pda_cons (pd_tup (pda_cons (pd_var 2) (pda_cons pd_int (pda_cons pd_str pda_nil)))) (pda_cons (pd_tup (pda_cons pd_neg (pda_cons pd_int (pda_cons pd_str pda_nil)))) (pda_cons (pd_tup (pda_cons pd_int (pda_cons pd_int (pda_cons pd_str pda_nil)))) (pda_cons (pd_tup (pda_cons pd_int (pda_cons pd_int (pda_cons pd_str pda_nil)))) pda_nil))))))) (pdg_tup rfl (pdgs_cons (pdg_name (i := 6) sc__law_near.nd rfl (Or.inl rfl)) (pdgs_cons (pdg_name (i := 7) sc__law_near.nd rfl (Or.inl rfl)) (pdgs_cons (pdg_name (i := 8) sc__law_near.nd rfl (Or.inl rfl)) pdgs_nil))) (lg_cons rch_name (lg_cons rch_name (lg_cons rch_name lg_nil)))) (psd_one (psd_app (i := 4) rfl (Or.inl rfl) (by decide) (by decide) (pd_tup (pda_cons (pd_tup (pda_cons pd_str (pda_cons (pd_var 6) (pda_cons (pd_var 7) (pda_cons (pd_var 8) pda_nil))))) pda_nil)) (fun ho ha => pe_bm PySem.F.plainAttrs_list PySem.F.slot_list_append PySem.F.type_list_append mt_append ho ha) (by rfl) (by rfl))))
        (psd_cons (psd_set (i := 9) sc__law_near.nd rfl (Or.inl rfl) (pd_tup (pda_cons (pd_tup (pda_cons pd_str (pda_cons pd_int (pda_cons pd_int (pda_cons pd_str pda_nil))))) (pda_cons (pd_tup (pda_cons pd_str (pda_cons pd_int (pda_cons pd_int (pda_cons pd_str pda_nil))))) (pda_cons (pd_tup (pda_cons pd_str (pda_cons pd_int (pda_cons pd_int (pda_cons pd_str pda_nil))))) (pda_cons (pd_tup (pda_cons pd_str (pda_cons pd_int (pda_cons pd_int (pda_cons pd_str pda_nil))))) pda_nil))))))
        (psd_cons (psd_for PassesOwn.never rfl (pdi_tup (pd_add (pd_var 9) (pd_tup (pda_cons (pd_tup (pda_cons pd_str (pda_cons pd_bl (pda_cons pd_int (pda_cons pd_str pda_nil))))) pda_nil)))) (pdg_name (i := 10) sc__law_near.nd rfl (Or.inl rfl)) (psd_one (psd_app (i := 4) rfl (Or.inl rfl) (by decide) (by decide) (pd_tup (pda_cons (pd_var 10) pda_nil)) (fun ho ha => pe_bm PySem.F.plainAttrs_list PySem.F.slot_list_append PySem.F.type_list_append mt_append ho ha) (by rfl) (by rfl))))
        (psd_cons (psd_frz 4 (psd_setAddO (i := 4) sc__law_near.nd rfl (Or.inl rfl) (pd_var 4) (pd_lst (pda_cons (pd_tup (pda_cons (pd_tup (pda_cons pd_str (pda_cons pd_int (pda_cons pd_int (pda_cons pd_non pda_nil))))) pda_nil)) (pda_cons (pd_tup (pda_cons (pd_tup (pda_cons pd_str (pda_cons pd_int (pda_cons pd_int (pda_cons pd_str pda_nil))))) pda_nil)) pda_nil)))))
        (psd_cons (psd_frz 4 (psd_setAddO (i := 4) sc__law_near.nd rfl (Or.inl rfl) (pd_var 4) (pd_lst (pda_cons (pd_tup (pda_cons (pd_lst (pda_cons pd_str (pda_cons pd_int (pda_cons pd_int (pda_cons pd_str pda_nil))))) pda_nil)) (pda_cons (pd_tup (pda_cons (pd_tup (pda_cons pd_str (pda_cons pd_int (pda_cons pd_int pda_nil)))) pda_nil)) pda_nil)))))
        (psd_cons (psd_set (i := 11) sc__law_near.nd rfl (Or.inl rfl) (pd_tupleOf T (pd_lc (own := [("sign", 12)]) (g := (dgName 12)) (t := dYes) rfl sc__law_near.nd (pdi_str pd_str) (blkOk_by (N := ["bag", "stair", "day", "lamps", "found", "number", "begin", "pace", "way", "some", "walker", "many", "sign"]) (sc := defScope s__law_near) (by decide +kernel)) (fun _ _ _ _ _ => (pdg_name (i := 12) sc__law_near.nd rfl (Or.inl rfl))) (fun _ _ _ _ _ => ptd_nil) (fun _ _ _ _ _ => (pd_tup (pda_cons (pd_var 12) (pda_cons pd_int (pda_cons pd_int (pda_cons pd_str pda_nil)))))))))
        (psd_one (psd_frz 4 (psd_ret (pd_add (pd_var 4) (pd_lst (pda_cons (pd_var 11) (pda_cons (pd_slice (pd_var 11) pdo_none (pdo_some pd_int)) (pda_cons (pd_rev (pd_slice (pd_var 11) pdo_none (pdo_some pd_int))) (pda_cons (pd_mulT (pd_slice (pd_var 11) pdo_none (pdo_some pd_int)) pd_int) pda_nil))))))))))))))))))), ?_⟩)
  obtain ⟨b, day, lamps, rfl, os, hp⟩ := c
  refine at_st (S' := [some (.raw (.ref b)), some (.py (stairPy day lamps)), none, none, none, none, none, none, none, none, none, none, none]) rfl ?_
  refine seq_gen fun R hR => ?_
  walk_at "dl"
  have hl1 := os.l1; have hl2 := os.l2
  have hpl : (pInts lamps).length = lamps.length := List.length_map ..
  refine seq_back hR rfl ?_
  refine seq_gen fun R hR => ?_
  walk_at "dl"
  refine seq_back hR rfl ?_
  refine seq_gen fun R hR => ?_
  walk_at "dl"
  obtain ⟨s7, hs7, sa1, sa2⟩ := more60 (n := 4) (k := 3) (sm := [PyData.tuple [PyData.int day, PyData.list (pInts lamps)], PyData.list [PyData.int day, PyData.tuple (pInts lamps)], PyData.tuple [PyData.int day], PyData.tuple [PyData.int day, PyData.tuple []]])
    (L := [PyData.tuple [PyData.int day, PyData.tuple (repD (Int.toNat 7) (pInts lamps))], PyData.tuple [PyData.int day, PyData.tuple (repD (Int.toNat 6) [PyData.int 1])], PyData.tuple [PyData.int day, PyData.tuple (repD (Int.toNat 7) [PyData.int 1])]])
    (fun d hd => by
      simp only [List.mem_cons, List.mem_nil_iff, or_false] at hd
      rcases hd with rfl | rfl | rfl | rfl
      · exact t2 fi (fine_intsL (by omega))
      · exact fineL.lst ⟨by show 2 ≤ 60; decide, fun x hx => by
          simp only [List.mem_cons, List.mem_nil_iff, or_false] at hx
          rcases hx with rfl | rfl
          · exact fi
          · exact fine_intsT (by omega)⟩
      · rfl
      · rfl) (Nat.le_refl _)
    (fun d hd => by
      simp only [List.mem_cons, List.mem_nil_iff, or_false] at hd
      rcases hd with rfl | rfl | rfl
      · exact t2 fi (rep_fine (m := 42) (ints_fine lamps) (by rw [hpl]; show 7 * _ ≤ 42; omega) (by decide))
      · exact t2 fi (rep_fine (m := 42) (ints_fine [1]) (by decide) (by decide))
      · exact t2 fi (rep_fine (m := 42) (ints_fine [1]) (by decide) (by decide))) (Nat.le_refl _)
  have hne : pInts lamps ≠ [] := fun z => by rw [z] at hpl; simp only [List.length_nil] at hpl; omega
  refine ⟨hne, by decide, by decide, by omega, by simp, by decide, by decide, by simp, by decide, by decide, ?_⟩
  rw [hs7]
  refine seq_back hR rfl ?_
  refine seq_gen fun R hR => ?_
  refine for_gen fun Bd hBd => ?_
  walk_at "dl"
  refine ⟨fun i S' => ∃ (l : List PyData) (x5 : Option D), S' = [some (.raw (.ref b)), some (.py (stairPy day lamps)), some (.py (.int day)), some (.py (.tuple (pInts lamps))), some (.ol l), x5, none, none, none, none, none, none, none] ∧ (∀ d ∈ l, fineB 60 3 d = true) ∧ l.length ≤ 7 + 3 * i, ⟨s7, _, rfl, sa1, sa2⟩, ?_, ?_⟩
  · rintro i d S' hi ⟨l, x5, rfl, l1, l2⟩
    have hi7 : i < 7 := (List.getElem?_eq_some_iff.mp hi).1
    have hd0 : ∀ n, fineB 60 n d = true := fun n => by
      have hm := List.mem_of_getElem? hi
      simp only [List.mem_cons, List.mem_nil_iff, or_false] at hm
      rcases hm with rfl | rfl | rfl | rfl | rfl | rfl | rfl <;> cases n <;> rfl
    refine body_back hBd rfl ?_
    walk_at "dl"
    have hc5 : (cutG (pInts lamps) none (some (5 : Int))) = (pInts lamps).take 5 := cut_to _ 5
    rw [hc5]
    refine ⟨by rw [List.length_take]; omega, by omega, _, _, rfl, ?_⟩
    obtain ⟨sn, hsn, k1, k2⟩ := more60 (k := 3) (L := [PyData.tuple [d, PyData.tuple (pInts lamps)], PyData.tuple [PyData.int day, PyData.tuple [d]], PyData.tuple [PyData.int day, PyData.tuple ((pInts lamps).take 5 ++ [d])]]) l1 l2 (fun e he => by
      simp only [List.mem_cons, List.mem_nil_iff, or_false] at he
      rcases he with rfl | rfl | rfl
      · exact t2 (hd0 _) (fine_intsT (by omega))
      · exact t2 fi (fineL.tup ⟨by show 1 ≤ 60; decide, fun x hx => by rw [List.mem_singleton.mp hx]; exact hd0 _⟩)
      · refine t2 fi (fineL.tup ⟨by rw [List.length_append, List.length_take]; show _ + 1 ≤ 60; omega, fun x hx => ?_⟩)
        rcases List.mem_append.mp hx with z | z
        · exact ints_fine lamps x (List.mem_of_mem_take z)
        · rw [List.mem_singleton.mp z]; exact hd0 _) (Nat.le_refl _)
    rw [hsn]
    exact ⟨k1, by omega⟩
  rintro S' ⟨s28, x5, rfl, sb1, sb2⟩
  refine seq_back hR rfl ?_
  refine seq_gen fun R hR => ?_
  refine for_gen fun Bd hBd => ?_
  walk_at "dl"
  refine ⟨fun i S' => ∃ (l : List PyData) (x6 x7 x8 : Option D), S' = [some (.raw (.ref b)), some (.py (stairPy day lamps)), some (.py (.int day)), some (.py (.tuple (pInts lamps))), some (.ol l), x5, x6, x7, x8, none, none, none, none] ∧ (∀ d ∈ l, fineB 60 3 d = true) ∧ l.length ≤ 28 + i, ⟨s28, _, _, _, rfl, sb1, sb2⟩, ?_, ?_⟩
  · rintro i d S' hi ⟨l, x6, x7, x8, rfl, l1, l2⟩
    have hi5 : i < 5 := (List.getElem?_eq_some_iff.mp hi).1
    obtain ⟨x, y, z, rfl, hz⟩ : ∃ (x y : Int) (z : Str), d = .tuple [.int x, .int y, .str z] ∧ z.length ≤ 100 := by
      have hm := List.mem_of_getElem? hi
      simp only [List.mem_cons, List.mem_nil_iff, or_false] at hm
      rcases hm with rfl | rfl | rfl | rfl | rfl <;> exact ⟨_, _, _, rfl, by decide⟩
    walk_at "dl"
    refine body_back hBd rfl ?_
    walk_at "dl"
    refine ⟨by omega, _, _, _, _, rfl, ?_⟩
    obtain ⟨sn, hsn, k1, k2⟩ := more60 (k := 1) (L := [PyData.tuple [PyData.tuple [PyData.str "ann", PyData.int x, PyData.int y, PyData.str z]]]) l1 l2 (fun e he => by
      rw [List.mem_singleton.mp he]
      refine fineL.tup ⟨by show 1 ≤ 60; decide, fun q hq => ?_⟩
      rw [List.mem_singleton.mp hq]
      refine fineL.tup ⟨by show 4 ≤ 60; decide, fun q hq => ?_⟩
      simp only [List.mem_cons, List.mem_nil_iff, or_false] at hq
      rcases hq with rfl | rfl | rfl | rfl
      · decide
      · rfl
      · rfl
      · exact decide_eq_true hz) (Nat.le_refl _)
    rw [hsn]
    exact ⟨k1, by omega⟩
  rintro S' ⟨s33, x6, x7, x8, rfl, sc1, sc2⟩
  refine seq_back hR rfl ?_
  refine seq_gen fun R hR => ?_
  walk_at "dl"
  refine seq_back hR rfl ?_
  refine seq_gen fun R hR => ?_
  refine for_gen fun Bd hBd => ?_
  walk_at "dl"
  refine ⟨fun i S' => ∃ (l : List PyData) (x9 x10 : Option D), S' = [some (.raw (.ref b)), some (.py (stairPy day lamps)), some (.py (.int day)), some (.py (.tuple (pInts lamps))), some (.ol l), x5, x6, x7, x8, x9, x10, none, none] ∧ (∀ d ∈ l, fineB 60 3 d = true) ∧ l.length ≤ 33 + i, ⟨s33, _, _, rfl, sc1, sc2⟩, ?_, ?_⟩
  · rintro i d S' hi ⟨l, x9, x10, rfl, l1, l2⟩
    have hi5 : i < 5 := (List.getElem?_eq_some_iff.mp hi).1
    have hd2 : fineB 60 2 d = true := by
      have hm := List.mem_of_getElem? hi
      have key : ([PyData.tuple [PyData.str "ann", PyData.int 0, PyData.int 0, PyData.str "side"], PyData.tuple [PyData.str "ann", PyData.int 0, PyData.int 0, PyData.str ""], PyData.tuple [PyData.str "Ann", PyData.int 0, PyData.int 0, PyData.str "up"], PyData.tuple [PyData.str "", PyData.int 0, PyData.int 0, PyData.str "up"]] ++ [PyData.tuple [PyData.str "ann", PyData.bool true, PyData.int 0, PyData.str "up"]]).all (fineB 60 2) = true := by decide +kernel
      exact List.all_eq_true.mp key d hm
    walk_at "dl"
    refine body_back hBd rfl ?_
    walk_at "dl"
    refine ⟨by omega, _, _, _, rfl, ?_⟩
    obtain ⟨sn, hsn, k1, k2⟩ := more60 (k := 1) (L := [PyData.tuple [d]]) l1 l2 (fun e he => by
      rw [List.mem_singleton.mp he]
      exact fineL.tup ⟨by show 1 ≤ 60; decide, fun x hx => by rw [List.mem_singleton.mp hx]; exact hd2⟩) (Nat.le_refl _)
    rw [hsn]
    exact ⟨k1, by omega⟩
  rintro S' ⟨s38, x9, x10, rfl, sd1, sd2⟩
  replace sd2 : s38.length ≤ 38 := Nat.le_trans sd2 (by decide)
  refine seq_back hR rfl ?_
  refine seq_gen fun R hR => ?_
  walk_at "dl"
  refine ⟨by omega, ?_⟩
  obtain ⟨s40, hs40, se1, se2⟩ := more60 (k := 2) (L := [PyData.tuple [PyData.tuple [PyData.str "ann", PyData.int 0, PyData.int 0, PyData.none]], PyData.tuple [PyData.tuple [PyData.str "abcdefghi", PyData.int 0, PyData.int 0, PyData.str "up"]]]) sd1 sd2 (fun d hd => List.all_eq_true.mp (by decide +kernel) d hd) (Nat.le_refl _)
  rw [hs40]
  refine seq_back hR rfl ?_
  refine seq_gen fun R hR => ?_
  walk_at "dl"
  refine ⟨by omega, ?_⟩
  obtain ⟨s42, hs42, sf1, sf2⟩ := more60 (k := 2) (L := [PyData.tuple [PyData.list [PyData.str "ann", PyData.int 0, PyData.int 0, PyData.str "up"]], PyData.tuple [PyData.tuple [PyData.str "ann", PyData.int 0, PyData.int 0]]]) se1 se2 (fun d hd => List.all_eq_true.mp (by decide +kernel) d hd) (Nat.le_refl _)
  rw [hs42]
  refine seq_back hR rfl ?_
  refine seq_gen fun R hR => ?_
  walk_at "dl"
  obtain ⟨sg, hsg⟩ : ∃ sg : List PyData, ((("abcdefghi" : Str).cps.toList.map fun c => PyData.str ⟨#[c]⟩)) = sg := ⟨_, rfl⟩
  have sg1 : sg.length = 9 := by rw [← hsg]; decide +kernel
  have sg2 : (sg.map fun d => PyData.tuple [d, .int 0, .int 0, .str "up"]).all (fineB 60 2) = true := by rw [← hsg]; decide +kernel
  rw [hsg]
  obtain ⟨ms, hms⟩ : ∃ ms : List PyData, (sg.map fun d => PyData.tuple [d, .int 0, .int 0, .str "up"]) = ms := ⟨_, rfl⟩
  have ms1 : ms.length = 9 := by rw [← hms, List.length_map]; exact sg1
  have ms2 : ∀ x ∈ ms, fineB 60 2 x = true := by rw [← hms]; exact List.all_eq_true.mp sg2
  refine ⟨fun i acc => acc = ms.take i, rfl, ?_, ?_⟩
  · rintro i d acc hi rfl
    have key : ms[i]? = some (.tuple [d, .int 0, .int 0, .str "up"]) := by rw [← hms, List.getElem?_map, hi]; rfl
    exact ⟨by rw [List.length_take]; omega, (take_more key).symm⟩
  rintro acc rfl
  rw [List.take_of_length_le (by omega)]
  refine seq_back hR rfl ?_
  walk_at "dl"
  have c1 : cutG ms none (some (1 : Int)) = ms.take 1 := cut_to _ 1
  have c2 : cutG ms none (some (2 : Int)) = ms.take 2 := cut_to _ 2
  have c8 : cutG ms none (some (8 : Int)) = ms.take 8 := cut_to _ 8
  rw [c1, c2, c8]
  have len1 : (ms.take 1).length = 1 := by rw [List.length_take]; omega
  have tk : ∀ j, ∀ x ∈ ms.take j, fineB 60 2 x = true := fun j x hx => ms2 x (List.mem_of_mem_take hx)
  refine ⟨fun z => (by rw [z] at len1; cases len1), by decide, by decide, by omega, by omega, ?_⟩
  obtain ⟨s46, hs46, sg1, sg2⟩ := more60 (k := 4) (L := [PyData.tuple ms, PyData.tuple (ms.take 8), PyData.tuple (ms.take 2).reverse, PyData.tuple (repD (Int.toNat 2) (ms.take 1))]) sf1 sf2 (fun d hd => by
    simp only [List.mem_cons, List.mem_nil_iff, or_false] at hd
    rcases hd with rfl | rfl | rfl | rfl
    · exact fineL.tup ⟨by omega, ms2⟩
    · exact fineL.tup ⟨by rw [List.length_take]; omega, tk 8⟩
    · exact fineL.tup ⟨by rw [List.length_reverse, List.length_take]; omega, fun x hx => tk 2 x (List.mem_reverse.mp hx)⟩
    · exact rep_fine (m := 2) (tk 1) (by rw [len1]; decide) (by decide)) (Nat.le_refl _)
  rw [hs46]
  exact hp s46 sg1 (by omega)
end
abbrev s_law : Stmt := top 36
theorem sc_law : FnScope ["script", "bag", "stair", "walkers", "once", "bent", "things", "thing"] ["script"] (defScope s_law) := ⟨rfl, rfl, rfl, by decide +kernel, rfl, by decide +kernel, by decide +kernel⟩
/-! ### the law's lambda -/
def forBody : Stmt → List Stmt
  | .For _ _ b _ _ => b
  | _ => []
def ifBody : Stmt → List Stmt
  | .If _ b _ _ => b
  | _ => []
def ifTest : Stmt → Option Expr
  | .If c _ _ _ => some c
  | _ => none
def cmpLeft : Option Expr → Option Expr
  | some (.Compare l _ _ _) => some l
  | _ => none
def callArg0 : Option Expr → Option Expr
  | some (.Call _ (a :: _) _ _) => some a
  | _ => none
def lamOf (e : Option Expr) : LamD := match e with
  | some (.Lambda p b s _) => ⟨qlam, p, b, s⟩
  | _ => ⟨qlam, { posonlyargs := [], args := [], vararg := none, kwonlyargs := [], kw_defaults := [], kwarg := none, defaults := [] }, .List [] ⟨0, 0, 0, 0⟩, { kind := .function, names := [], isGenerator := false, isCoroutine := false, more := [] }⟩
def stAt (l : List Stmt) (i : Nat) : Stmt := l.getD i (.Pass ⟨0, 0, 0, 0⟩)
def lamX : Option Expr := callArg0 (cmpLeft (ifTest (stAt (ifBody (stAt (forBody (stAt (forBody (stAt (defBody s_law) 0)) 5)) 2)) 0)))
def posOf (e : Option Expr) : Pos := match e with
  | some (.Lambda _ _ _ p) => p
  | _ => ⟨0, 0, 0, 0⟩
def lamL : LamD := lamOf lamX
def lamPos : Pos := posOf lamX
theorem lam_q : lamL.q = qlam := by kernel_rfl
theorem qlam_eq : (("law" : Str) ++ (".<locals>." : Str)) ++ ("<lambda>" : Str) = lamL.q := by rw [lam_q]; decide +kernel
theorem lam_nodef : lamL.params.defaults = [] ∧ lamL.params.kw_defaults = [] := ⟨by kernel_rfl, by kernel_rfl⟩
theorem defs_nil {p : Arguments} {env : Env} (h1 : p.defaults = []) (h2 : p.kw_defaults = []) : defaultsOf p env = ([], []) := by
  obtain ⟨a1, a2, a3, a4, a5, a6, a7⟩ := p
  subst h1 h2
  unfold defaultsOf
  rfl
theorem lam_def (env : Env) : defaultsOf lamL.params env = ([], []) := defs_nil lam_nodef.1 lam_nodef.2
theorem pd_lamE {X : Cx} {c T : Addr} {bs : List Addr} {H0 : Hp} {L : LamD} {pos : Pos} {e : Expr} (TB : LamX.TabB X.base X.mg c T) (hcode : X.env.code = .ref c) (hq : X.env.qual ++ "<lambda>" = L.q) (hl : L.q = qlam) (hdef : defaultsOf L.params X.env = ([], [])) (hfree : ∀ y ∈ L.scope.names, y.2 ≠ .free)
    (he : e = .Lambda L.params L.body L.scope pos) : PD X (T :: bs) H0 e (dLam L) := by subst he; exact pd_lam TB hcode hq hl hdef hfree
theorem lam_free : ∀ y ∈ lamL.scope.names, y.2 ≠ .free := by decide +kernel
theorem lam_args : lamL.params.args.length = 5 := by decide +kernel
def C_lam (CN : Addr) : CtX := fun B ds post px => ∃ q1 q2 d3 d4 d5 : PyData, ds = [.py q1, .py q2, .py d3, .py d4, .py d5] ∧ C_arewalkX CN B [.py q1, .py q2] post px
theorem fine_ws {m n : Nat} {q : PyData} (h : fineB m n q = true) : wsOk q := fun l e x hx a r ex s ea => by
  subst e ex ea
  cases n with
  | zero => cases h
  | succ n =>
    have h2 := (fineL.ofT h).2 _ hx
    cases n with
    | zero => cases h2
    | succ n =>
      have h3 := (fineL.ofT h2).2 _ (List.mem_cons_self ..)
      have h4 : decide (s.length ≤ 100) = true := by cases n <;> exact h3
      have := of_decide_eq_true h4
      omega
section
variable {P : Program} {w : World} {K : Kf} {mg : Str → Option Value} {base : Heap} {CN : Addr}
theorem lam_good (x_are_walkers : CalX P w K mg base "are_walkers" ["stair", "thing"] 4 (C_arewalkX CN)) : LamCal P w K mg base lamL 5 5 (C_lam CN) :=
  lam_cal (N := ["a", "b", "c", "d", "e"]) (ps := ["a", "b", "c", "d", "e"]) (k := 4) ⟨rfl, rfl, rfl, by decide +kernel, rfl, by decide +kernel, by decide +kernel⟩ (fun B ds post px ⟨q1, q2, d3, d4, d5, e, _⟩ => by subst e; exact ⟨rfl, fun d hd => by simp at hd; rcases hd with rfl | rfl | rfl | rfl | rfl <;> exact free_py⟩)
    (fun pm c' ctv us hl => match us, hl with | [_, _, _, _, _], _ => rfl)
    (fun f c' A outer s H E B G ds post px hr tk ⟨q1, q2, d3, d4, d5, e, hc⟩ => ⟨_, (pdx_cal x_are_walkers tk hr (pda_cons (pd_var 0) (pda_cons (pd_var 1) pda_nil))), by
      subst e
      exact hc⟩)
theorem law_ok2 {sL : Stmt} {N : List Str} {i k : Nat} {lim : Int} {j : Nat} {bd rest : List Stmt} {p1 p2 p3 p4 p5 p6 : Pos} {tb tr : List Addr → DS} {c T : Addr} {f : Addr} {fd : FuncData} (F : FunD K "law" "law" (defArgs sL) (defBody sL) (defScope sL) [] [] f fd) (S : FnScope N ["script"] (defScope sL)) (hcode : ∀ oc od fd' osl, K.lookup f = some ⟨oc, od, .func fd', osl⟩ → fd'.code = .ref c)
    (hbody : defBody sL = .For (.Name "bag" p1) (.Call (.Name "_law_bags" p2) [.Name "script" p3, .Constant (.int lim) j p4] [] p5) bd [] p6 :: rest)
    (hlim : 0 ≤ lim ∧ lim ≤ 1000) (hk : 3 ≤ k) (cb : CalR P w K mg base "_law_bags" ["script", "limit"] 3 (spBags K)) (h0 : N[0]? = some ("script" : Str)) (hi : N[i]? = some ("bag" : Str))
    (vs : (defScope sL).names.lookup ("script" : Str) = some NameKind.local ∨ (defScope sL).names.lookup ("script" : Str) = some NameKind.cell) (vb : (defScope sL).names.lookup ("bag" : Str) = some NameKind.local ∨ (defScope sL).names.lookup ("bag" : Str) = some NameKind.cell) (vg : (defScope sL).names.lookup ("_law_bags" : Str) = some NameKind.globalImplicit)
    (hb : ∀ (f : Addr) (A : Around) (outer : List Env) (s : Shared) (H : Hp) (E : XK) (bs : List Addr) (H0 : Hp), Room k (A.deeper (envOfC "law" (defScope sL) s.heap.objs.size f (.ref c))) → PDSs (cxOf CX0 P w K mg base N "law" (defScope sL) f (.ref c) A outer s H E).nox (T :: bs) H0 bd (tb bs))
    (hr : ∀ (f : Addr) (A : Around) (outer : List Env) (s : Shared) (H : Hp) (E : XK) (bs : List Addr) (H0 : Hp), Room k (A.deeper (envOfC "law" (defScope sL) s.heap.objs.size f (.ref c))) → PDSs (cxOf CX0 P w K mg base N "law" (defScope sL) f (.ref c) A outer s H E).nox (T :: bs) H0 rest (tr bs))
    (rb : ∀ (bs : List Addr) (b : Addr), bagIn (T :: bs) b → tb bs { nx := fun S => S.length = N.length, ct := fun S => S.length = N.length, rt := fun d => d = .py (.bool true) } ((nones N.length).set i (some (.raw (.ref b)))))
    (rr : ∀ bs : List Addr, tr bs { nx := fun _ => False, rt := fun d => d = .py (.bool true) } (nones N.length)) :
    FnOk P w K mg base CX0 (k + 1) f fd ["script"] (spLaw K T) :=
  law_ok (tb := fun l => tb l.tail) (tr := fun l => tr l.tail) F S hcode hbody hlim hk cb h0 hi vs vb vg hb hr rb rr
end
section
variable {P : Program} {w : World} {K : Kf} {mg : Str → Option Value} {base : Heap} {CN : Addr}
theorem cut_place (c n : Int) (h : 0 < n) : ∃ k : Nat, (k : Int) < n ∧ c % n = (k : Int) :=
  ⟨(c % n).toNat, by have := Int.emod_lt_of_pos c h; have := Int.emod_nonneg c (show n ≠ 0 by omega); omega, by have := Int.emod_nonneg c (show n ≠ 0 by omega); omega⟩
theorem if_ndec' {c : Bool} {A B : Prop} (h1 : c = true) (h2 : B) : if (!c) = true then A else B := by subst h1; exact h2
theorem stair_fine {day : Int} {lamps : List Int} (h : OkStair day lamps) : fineB 8 2 (stairPy day lamps) = true := fineL.tup ⟨by show 2 ≤ 8; decide, fun x hx => by
  simp only [List.mem_cons, List.mem_nil_iff, or_false] at hx
  rcases hx with rfl | rfl
  · rfl
  · have := h.l2
    refine fineL.tup ⟨by rw [List.length_map]; omega, fun y hy => ?_⟩
    obtain ⟨i, _, rfl⟩ := List.mem_map.mp hy
    rfl⟩
theorem names_short : ∀ nm ∈ lawNames, decide (nm.length ≤ 100) = true := by decide +kernel
theorem walkers_fine {day many far : Int} {ws : List Walker} (h : LawWs day many far ws) (hm : many ≤ 8 := by decide) : fineB 8 2 (walkersPy ws) = true := fineL.tup ⟨by have := h.n2; rw [List.length_map]; omega, fun x hx => by
  obtain ⟨u, hu, rfl⟩ := List.mem_map.mp hx
  obtain ⟨i, hi, rfl⟩ := List.getElem_of_mem hu
  obtain ⟨k1, _⟩ := h.wk i _ (List.getElem?_eq_getElem hi)
  have hs := names_short _ (List.mem_of_getElem? k1)
  refine fineL.tup ⟨by show 4 ≤ 8; decide, fun y hy => ?_⟩
  simp only [List.mem_cons, List.mem_nil_iff, or_false] at hy
  rcases hy with rfl | rfl | rfl | rfl
  · exact hs
  · rfl
  · rfl
  · unfold Walker.way; split <;> decide +kernel⟩
theorem law_good {f : Addr} {fd : FuncData} {c T0 : Addr} (F : FunD K "law" "law" (defArgs s_law) (defBody s_law) (defScope s_law) [] [] f fd) (hcode : ∀ oc od fd' osl, K.lookup f = some ⟨oc, od, .func fd', osl⟩ → fd'.code = .ref c) (TB : LamX.TabB base mg c T0) (T : Bl mg) (R0 : RefK K mg) (c_law_bags : CalR P w K mg base "_law_bags" ["script", "limit"] 3 (spBags K))
    (c_law_stair : Cal P w K mg base "_law_stair" ["bag", "days", "burnings", "landings"] 3 C_stair) (c_law_walkers : Cal P w K mg base "_law_walkers" ["bag", "stair", "many", "far"] 3 C_walkers)
    (c_spoil2 : Cal P w K mg base "_law_spoilt" ["thing", "picks"] 4 (C_spoil 2 8)) (c_spoil4 : Cal P w K mg base "_law_spoilt" ["thing", "picks"] 6 (C_spoil 4 9)) (c_law_odd : Cal P w K mg base "_law_odd" ["picks"] 1 C_odd) (c_law_near : Cal P w K mg base "_law_near" ["bag", "stair"] 1 C_near)
    (c_is_stair : Cal P w K mg base "is_stair" ["thing"] 2 C_isstair) (c_law_is_stair : Cal P w K mg base "_law_is_stair" ["thing"] 2 C_isstair) (x_are_walkers : CalX P w K mg base "are_walkers" ["stair", "thing"] 4 (C_arewalkX (He.ga K "NoStair"))) (c_law_are_walkers : Cal P w K mg base "_law_are_walkers" ["stair", "thing"] 2 C_areall)
    (c_law_refused : Cal P w K mg base "_law_refused" ["call", "one", "two", "three", "four", "five"] 9 (C_refused P w K mg base 8)) : FnOk P w K mg base CX0 10 f fd ["script"] (spLaw K T0) := by
  have LC := lam_good x_are_walkers
  refine law_ok2 (k := 9) (lim := 8) (i := 1) (c := c) (T := T0) F sc_law hcode rfl (by decide) (by decide) c_law_bags rfl rfl (by first | exact Or.inl rfl | exact Or.inr rfl) (by first | exact Or.inl rfl | exact Or.inr rfl) rfl
    (fun f A outer s H E bs H0 hr => (psd_cons (psd_set (i := 2) sc_law.nd rfl (Or.inl rfl) (pd_cal c_law_stair hr (pda_cons (pd_var 1) (pda_cons (pd_pow (n := 1000000)) (pda_cons (pd_pow (n := 1000000)) (pda_cons pd_int pda_nil))))))
        (psd_cons (psd_set (i := 3) sc_law.nd rfl (Or.inl rfl) (pd_cal c_law_walkers hr (pda_cons (pd_var 1) (pda_cons (pd_var 2) (pda_cons pd_int (pda_cons pd_int pda_nil))))))
        (psd_cons (psd_par (i := 4) (j := 5) rfl sc_law.nd rfl rfl (by decide) rfl rfl (pd_cal c_spoil2 hr (pda_cons (pd_var 2) (pda_cons (pd_slice (pd_bag (pd_var 1) pd_int) (pdo_some (pd_mod (pd_bag (pd_var 1) pd_int) pd_int)) pdo_none) pda_nil))) (pd_cal c_spoil2 hr (pda_cons (pd_var 3) (pda_cons (pd_slice (pd_bag (pd_var 1) pd_int) (pdo_some (pd_add (pd_mod (pd_bag (pd_var 1) pd_int) pd_int) pd_int)) pdo_none) pda_nil))) (by rfl))
        (psd_cons (psd_set (i := 6) sc_law.nd rfl (Or.inl rfl) (pd_lst (pda_cons (pd_var 2) (pda_cons (pd_var 3) (pda_cons (pd_var 4) (pda_cons (pd_var 5) pda_nil))))))
        (psd_cons (psd_set (i := 6) sc_law.nd rfl (Or.inl rfl) (pd_add (pd_var 6) (pd_lst (pda_cons (pd_cal c_spoil4 hr (pda_cons (pd_var 5) (pda_cons (pd_slice (pd_bag (pd_var 1) pd_int) (pdo_some (pd_add (pd_mod (pd_bag (pd_var 1) pd_int) pd_int) pd_int)) pdo_none) pda_nil))) (pda_cons (pd_listOf T (pd_var 3)) (pda_cons (pd_rev (pd_var 3)) pda_nil))))))
        (psd_one (psd_for PassesOwn.never rfl (pdi_list (pd_add (pd_add (pd_var 6) (pd_cal c_law_near hr (pda_cons (pd_var 1) (pda_cons (pd_var 2) pda_nil)))) (pd_lst (pda_cons (pd_tup pda_nil) (pda_cons (pd_cal c_law_odd hr (pda_cons (pd_slice (pd_bag (pd_var 1) pd_int) (pdo_some (pd_mod (pd_bag (pd_var 1) pd_int) pd_int)) pdo_none) pda_nil)) pda_nil))))) (pdg_name (i := 7) sc_law.nd rfl (Or.inl rfl)) (psd_cons (psd_if (pdt_cmp (op_neA hr.units) od_ne (pd_repr T (pd_cal c_is_stair hr (pda_cons (pd_var 7) pda_nil))) (pd_repr T (pd_cal c_law_is_stair hr (pda_cons (pd_var 7) pda_nil))) (nomark _)) (psd_one (psd_ret pd_bl)) psd_nil)
        (psd_cons (psd_if (pdt_cmp (op_neA hr.units) od_ne (pd_repr T (pd_calX x_are_walkers hr (pda_cons (pd_var 2) (pda_cons (pd_var 7) pda_nil)))) (pd_repr T (pd_cal c_law_are_walkers hr (pda_cons (pd_var 2) (pda_cons (pd_var 7) pda_nil)))) (nomark _)) (psd_one (psd_ret pd_bl)) psd_nil)
        (psd_one (psd_if (pdt_not (pdt_val (pd_cal c_law_is_stair hr (pda_cons (pd_var 7) pda_nil)))) (psd_one (psd_if (pdt_cmp (op_neA hr.units) od_ne (pd_cal c_law_refused hr (pda_cons (pd_lamE (L := lamL) (pos := lamPos) TB (by rfl) (by exact qlam_eq) lam_q (lam_def _) lam_free (by kernel_rfl)) (pda_cons (pd_var 7) (pda_cons (pd_var 3) (pda_cons pd_int (pda_cons pd_int (pda_cons pd_int pda_nil))))))) (pd_lst (pda_cons pd_str (pda_cons pd_bl pda_nil))) (nomark _)) (psd_one (psd_ret pd_bl)) psd_nil)) psd_nil)))))))))))) (fun f A outer s H E bs H0 hr => (psd_one (psd_ret pd_bl))) (fun bs b hb => ?_) (fun bs => ?_)
  · refine at_st (S' := [none, some (.raw (.ref b)), none, none, none, none, none, none]) rfl ?_
    refine seq_gen fun R hR => ?_
    walk_at "dl"
    refine ⟨b, _, _, _, rfl, hb, by decide, by decide, by decide, by decide, by decide, by decide, fun day lamps os o1 o2 o3 => ?_⟩
    have hpl : (pInts lamps).length = lamps.length := List.length_map ..
    have hl1 := os.l1; have hl2 := os.l2; have hd1 := os.d1; have hd2 := os.d2
    refine seq_back hR rfl ?_
    refine seq_gen fun R hR => ?_
    walk_at "dl"
    refine ⟨b, day, lamps, _, _, rfl, hb, os.d1, by decide, by decide, by decide, fun ws lw => ?_⟩
    have ow := lw.ok (by decide) (by decide)
    have hw1 := ow.n1; have hw2 := ow.n2
    refine seq_back hR rfl ?_
    refine seq_gen fun R hR => ?_
    walk_at "dl"
    refine ⟨hb, .inl ⟨rfl, fun ns hn1 hn2 => ⟨hb, .inr ⟨rfl, fun cc hc => ?_⟩⟩⟩⟩
    obtain ⟨k, hk, hk2⟩ := cut_place cc 200 (by decide)
    have fS : fineB 8 2 (stairPy day lamps) = true := stair_fine os
    have fW : fineB 8 2 (walkersPy ws) = true := walkers_fine lw
    refine ⟨by decide, _, ns.drop k, ?_, by rw [List.length_drop]; omega, drawn.drop hn2 k, fS, fun q3 hq3 => ?_⟩
    · rw [hk2, cut_from]; unfold pInts; rw [List.map_drop]; rfl
    refine ⟨hb, .inl ⟨rfl, fun ns hn1 hn2 => ⟨hb, .inr ⟨rfl, fun cc hc => ?_⟩⟩⟩⟩
    obtain ⟨k, hk, hk2⟩ := cut_place cc 150 (by decide)
    refine ⟨by decide, _, ns.drop (k + 30), ?_, by rw [List.length_drop]; omega, drawn.drop hn2 _, fW, fun q4 hq4 => ?_⟩
    · rw [hk2, show (k : Int) + 30 = ((k + 30 : Nat) : Int) from by omega, cut_from]; unfold pInts; rw [List.map_drop]; rfl
    refine seq_back hR rfl ?_
    refine seq_gen fun R hR => ?_
    walk_at "dl"
    refine seq_back hR rfl ?_
    refine seq_gen fun R hR => ?_
    walk_at "dl"
    refine ⟨hb, .inl ⟨rfl, fun ns hn1 hn2 => ⟨hb, .inr ⟨rfl, fun cc hc => ?_⟩⟩⟩⟩
    obtain ⟨k, hk, hk2⟩ := cut_place cc 170 (by decide)
    refine ⟨by decide, _, ns.drop (k + 10), ?_, by rw [List.length_drop]; omega, drawn.drop hn2 _, hq4, fun q5 hq5 => ?_⟩
    · rw [hk2, show (k : Int) + 10 = ((k + 10 : Nat) : Int) from by omega, cut_from]; unfold pInts; rw [List.map_drop]
    walk_at "dl"
    have f60 : ∀ {m n : Nat} {q : PyData}, m ≤ 60 → n ≤ 6 → fineB m n q = true → fineB 60 6 q = true := fun hm hn h => fine_mono hm hn h
    obtain ⟨sm, hsm, sm1, sm2⟩ : ∃ sm : List PyData, ([PyData.tuple [PyData.int day, PyData.tuple (pInts lamps)], PyData.tuple (List.map Walker.py ws), q3, q4] ++ [q5, PyData.list (List.map Walker.py ws), PyData.tuple (List.map Walker.py ws).reverse]) = sm ∧ (∀ d ∈ sm, fineB 60 6 d = true) ∧ sm.length ≤ 7 := ⟨_, rfl, fun d hd => by
      simp only [List.cons_append, List.nil_append, List.mem_cons, List.mem_nil_iff, or_false] at hd
      have fWl := fineL.ofT fW
      rcases hd with rfl | rfl | rfl | rfl | rfl | rfl | rfl
      · exact f60 (by decide) (by decide) fS
      · exact f60 (by decide) (by decide) fW
      · exact f60 (by decide) (by decide) hq3
      · exact f60 (by decide) (by decide) hq4
      · exact f60 (by decide) (by decide) hq5
      · exact f60 (by decide) (by decide) (fineL.lst fWl)
      · exact f60 (by decide) (by decide) (fineL.tup (n := 1) (m := 8) ⟨by rw [List.length_reverse]; exact fWl.1, fun x hx => fWl.2 x (List.mem_reverse.mp hx)⟩), by show 7 ≤ 7; decide⟩
    rw [hsm]
    refine seq_back hR rfl ?_
    refine for_gen fun Bd hBd => ?_
    walk_at "dl"
    refine ⟨b, day, lamps, rfl, os, fun ln ln1 ln2 => ?_⟩
    walk_at "dl"
    refine ⟨by omega, hb, .inl ⟨rfl, fun ns hn1 hn2 => ⟨hb, .inr ⟨rfl, fun cc hc => ?_⟩⟩⟩⟩
    obtain ⟨k, hk, hk2⟩ := cut_place cc 300 (by decide)
    refine ⟨by decide, ns.drop k, ?_, by rw [List.length_drop]; omega, drawn.drop hn2 _, fun q8 hq8 => ?_⟩
    · rw [hk2, cut_from]; unfold pInts; rw [List.map_drop]
    walk_at "dl"
    have hall : ∀ d ∈ sm ++ ln ++ [PyData.tuple [], q8], fineB 60 6 d = true := by
      intro d hd
      rcases List.mem_append.mp hd with hd | hd
      · rcases List.mem_append.mp hd with hd | hd
        · exact sm1 d hd
        · exact f60 (by decide) (by decide) (ln1 d hd)
      · simp only [List.mem_cons, List.mem_nil_iff, or_false] at hd
        rcases hd with rfl | rfl
        · rfl
        · exact f60 (by decide) (by decide) hq8
    refine ⟨by rw [List.length_append]; omega, fun _ S' => ∃ x7 : Option D, S' = [none, some (.raw (.ref b)), some (.py (stairPy day lamps)), some (.py (walkersPy ws)), some (.py q3), some (.py q4), some (.py (.list sm)), x7], ⟨_, rfl⟩, ?_, ?_⟩
    · rintro i d S' hi ⟨x7, rfl⟩
      have hd := hall d (List.mem_of_getElem? hi)
      refine body_back hBd rfl ?_
      walk_at "dl"
      refine ⟨d, rfl, d, rfl, if_ndec (fun z => absurd rfl z) fun _ => ?_⟩
      refine ⟨stairPy day lamps, d, rfl, fun _ => ⟨day, lamps, rfl, fine_ws hd, ?_⟩, fun z => by rw [os.b] at z; cases z⟩
      refine ⟨d, day, lamps, rfl, fine_ws hd, if_ndec (fun z => absurd rfl z) fun _ => ?_⟩
      refine ⟨d, rfl, if_nb (fun hs => ?_) fun hs => ?_⟩
      · refine ⟨lamL, 5, 5, C_lam _, d, walkersPy ws, .int 0, .int 0, .int 0, rfl, LC, by decide, ?_⟩
        refine ⟨d, walkersPy ws, .int 0, .int 0, .int 0, rfl, d, walkersPy ws, rfl, (fun z => by rw [hs] at z; cases z), fun _ => ⟨rfl, "NoStair", by decide, rfl, ?_⟩⟩
        exact ⟨by decide +kernel, by decide +kernel, if_ndec' (by decide +kernel) ⟨_, rfl⟩⟩
      · exact ⟨_, rfl⟩
    · rintro S' ⟨x7, rfl⟩
      rfl
  · unfold nones
    walk_at "dl"
end
set_option maxHeartbeats 0
def hd_law_take : He.DefD := ⟨("_law_take", none), "_law_take", "_law_take", defArgs s__law_take, defBody s__law_take, defScope s__law_take, [], []⟩
def hd_law_far_draw : He.DefD := ⟨("_law_far_draw", none), "_law_far_draw", "_law_far_draw", defArgs s__law_far_draw, defBody s__law_far_draw, defScope s__law_far_draw, [], []⟩
def hd_law_stair : He.DefD := ⟨("_law_stair", none), "_law_stair", "_law_stair", defArgs s__law_stair, defBody s__law_stair, defScope s__law_stair, [], []⟩
def hd_law_walkers : He.DefD := ⟨("_law_walkers", none), "_law_walkers", "_law_walkers", defArgs s__law_walkers, defBody s__law_walkers, defScope s__law_walkers, [], []⟩
def hd_law_draws : He.DefD := ⟨("_law_draws", none), "_law_draws", "_law_draws", defArgs s__law_draws, defBody s__law_draws, defScope s__law_draws, [], []⟩
def hd_law_cell_at : He.DefD := ⟨("_law_cell_at", none), "_law_cell_at", "_law_cell_at", defArgs s__law_cell_at, defBody s__law_cell_at, defScope s__law_cell_at, [], []⟩
def hd_law_bag : He.DefD := ⟨("_law_bag", none), "_law_bag", "_law_bag", defArgs s__law_bag, defBody s__law_bag, defScope s__law_bag, [], []⟩
def hd_law_bags : He.DefD := ⟨("_law_bags", none), "_law_bags", "_law_bags", defArgs s__law_bags, defBody s__law_bags, defScope s__law_bags, [], []⟩
def hd_is_within : He.DefD := ⟨("is_within", none), "is_within", "is_within", defArgs s_is_within, defBody s_is_within, defScope s_is_within, [], []⟩
def hd_is_name : He.DefD := ⟨("is_name", none), "is_name", "is_name", defArgs s_is_name, defBody s_is_name, defScope s_is_name, [], []⟩
def hd_is_stair : He.DefD := ⟨("is_stair", none), "is_stair", "is_stair", defArgs s_is_stair, defBody s_is_stair, defScope s_is_stair, [], []⟩
def hd_is_walker : He.DefD := ⟨("is_walker", none), "is_walker", "is_walker", defArgs s_is_walker, defBody s_is_walker, defScope s_is_walker, [], []⟩
def hd_are_all_walkers : He.DefD := ⟨("are_all_walkers", none), "are_all_walkers", "are_all_walkers", defArgs s_are_all_walkers, defBody s_are_all_walkers, defScope s_are_all_walkers, [], []⟩
def hd_need_stair : He.DefD := ⟨("need_stair", none), "need_stair", "need_stair", defArgs s_need_stair, defBody s_need_stair, defScope s_need_stair, [], []⟩
def hd_are_walkers : He.DefD := ⟨("are_walkers", none), "are_walkers", "are_walkers", defArgs s_are_walkers, defBody s_are_walkers, defScope s_are_walkers, [], []⟩
def hd_law_refused : He.DefD := ⟨("_law_refused", none), "_law_refused", "_law_refused", defArgs s__law_refused, defBody s__law_refused, defScope s__law_refused, [], []⟩
def hd_law_odd : He.DefD := ⟨("_law_odd", none), "_law_odd", "_law_odd", defArgs s__law_odd, defBody s__law_odd, defScope s__law_odd, [], []⟩
def hd_law_spoilt : He.DefD := ⟨("_law_spoilt", none), "_law_spoilt", "_law_spoilt", defArgs s__law_spoilt, defBody s__law_spoilt, defScope s__law_spoilt, [], []⟩
def hd_law_from : He.DefD := ⟨("_law_from", none), "_law_from", "_law_from", defArgs s__law_from, defBody s__law_from, defScope s__law_from, [], []⟩
def hd_law_is_stair : He.DefD := ⟨("_law_is_stair", none), "_law_is_stair", "_law_is_stair", defArgs s__law_is_stair, defBody s__law_is_stair, defScope s__law_is_stair, [], []⟩
def hd_law_is_name : He.DefD := ⟨("_law_is_name", none), "_law_is_name", "_law_is_name", defArgs s__law_is_name, defBody s__law_is_name, defScope s__law_is_name, [], []⟩
def hd_law_are_walkers : He.DefD := ⟨("_law_are_walkers", none), "_law_are_walkers", "_law_are_walkers", defArgs s__law_are_walkers, defBody s__law_are_walkers, defScope s__law_are_walkers, [], []⟩
def hd_law_near : He.DefD := ⟨("_law_near", none), "_law_near", "_law_near", defArgs s__law_near, defBody s__law_near, defScope s__law_near, [], []⟩
def hd_law : He.DefD := ⟨("law", none), "law", "law", defArgs s_law, defBody s_law, defScope s_law, [], []⟩
def hdFn : List He.DefD := [hd_law_take, hd_law_far_draw, hd_law_stair, hd_law_walkers, hd_law_draws, hd_law_cell_at, hd_law_bag, hd_law_bags, hd_is_within, hd_is_name, hd_is_stair, hd_is_walker, hd_are_all_walkers, hd_need_stair, hd_are_walkers, hd_law_refused, hd_law_odd, hd_law_spoilt, hd_law_from, hd_law_is_stair, hd_law_is_name, hd_law_are_walkers, hd_law_near, hd_law]
def hdFa : List He.Fa := ([.glo "_law_take", .glo "_law_far_draw", .glo "_law_stair", .glo "_law_walkers", .glo "_law_draws", .glo "_law_cell_at", .glo "_law_bag", .glo "_law_bags", .glo "is_within", .glo "is_name", .glo "is_stair", .glo "is_walker", .glo "are_all_walkers", .glo "need_stair", .glo "are_walkers", .glo "_law_refused", .glo "_law_odd", .glo "_law_spoilt", .glo "_law_from", .glo "_law_is_stair", .glo "_law_is_name", .glo "_law_are_walkers", .glo "_law_near", .glo "law", .free "len", .free "range", .free "int", .free "bool", .free "str", .free "list"] : List He.Fa) ++ ([.free "tuple", .free "set", .free "max", .free "min", .free "sum", .free "all", .free "any", .free "sorted", .free "zip", .free "enumerate", .free "isinstance", .free "repr", .free "ValueError", .str "SMALL" "abcdefghijklmnopqrstuvwxyz", .glo "NoStair", .exc "NoStair", .glo "NoWalkers", .exc "NoWalkers", .glo "NoName", .exc "NoName", .glo "NoLanding", .exc "NoLanding", .glo "NoTick", .exc "NoTick", .glo "NoNumber", .exc "NoNumber", .glo "NoFraction", .exc "NoFraction", .glo "TooMany", .glo "LampError"] : List He.Fa)
abbrev hdR : PySem.W.OpenRow := PySem.W.OpenLaw.row PySem.Challenge.rw_stairlamps_k01_stairs_and_walkers_known
def excCB (K : PySem.W.Frag) (D : Addr) : Bool := He.eqO (PySem.W.findIn K (.ref D) "__getattribute__") (some (some (.builtin "BaseException.__getattribute__"))) && (He.eqO (PySem.W.findIn K (.ref D) "__getattr__") (some none) && (decide (PySem.W.subIn K (.ref D) (.type "BaseException") = some true) && (PySem.W.hasDictIn K D && (He.eqO (PySem.W.findIn K (.ref D) "__class__") (some (some (.builtin "object.__class__"))) && (He.eqO (PySem.W.specialIn K (.builtin "object.__class__") "__get__") (some (some (.builtin "getset_descriptor.__get__"))) && (decide (PySem.W.takesIn K (.builtin "object.__class__") = some true) && decide (PySem.W.mroIn K D (.type "object") = some true)))))))
theorem excCB_ok {K : PySem.W.Frag} {D : Addr} (h : excCB K D = true) : ExcC K D := by
  obtain ⟨h1, h⟩ := He.ba h
  obtain ⟨h2, h⟩ := He.ba h
  obtain ⟨h3, h⟩ := He.ba h
  obtain ⟨h4, h⟩ := He.ba h
  obtain ⟨h5, h⟩ := He.ba h
  obtain ⟨h6, h⟩ := He.ba h
  obtain ⟨h7, h8⟩ := He.ba h
  exact ⟨He.eqO_ok h1, He.eqO_ok h2, of_decide_eq_true h3, h4, He.eqO_ok h5, He.eqO_ok h6, of_decide_eq_true h7, of_decide_eq_true h8⟩
def hdEx (K : PySem.W.Frag) : Bool := (errNames.all fun x => excCB K (He.ga K x)) && ((errNames.all fun x => errNames.all fun y => decide (PySem.W.kitOne K (.ref (He.ga K x)) (.ref (He.ga K y)) = some (decide (x = y)))) && (errNames.all fun x => decide (PySem.W.kitOne K (.ref (He.ga K x)) (.type "ValueError") = some true) && (decide (PySem.W.exmOne K (.ref (He.ga K x)) (.ref (He.ga K "TooMany")) = some false) && decide (PySem.W.exmOne K (.ref (He.ga K x)) (.ref (He.ga K "LampError")) = some true))))
theorem hdEx_ok {K : PySem.W.Frag} {mg : Str → Option Value} (h : hdEx K = true) (k : ∀ x ∈ errNames, ExcK K mg x (He.ga K x)) (gt : mg "TooMany" = some (.ref (He.ga K "TooMany"))) (gl : mg "LampError" = some (.ref (He.ga K "LampError"))) : RefK K mg := by
  obtain ⟨h1, h⟩ := He.ba h
  obtain ⟨h2, h3⟩ := He.ba h
  exact ⟨k, fun x hx => excCB_ok (List.all_eq_true.mp h1 x hx), fun x hx y hy => of_decide_eq_true (List.all_eq_true.mp (List.all_eq_true.mp h2 x hx) y hy), fun x hx => of_decide_eq_true (He.ba (List.all_eq_true.mp h3 x hx)).1, fun x hx => of_decide_eq_true (He.ba (He.ba (List.all_eq_true.mp h3 x hx)).2).1, fun x hx => of_decide_eq_true (He.ba (He.ba (List.all_eq_true.mp h3 x hx)).2).2, ⟨gt⟩, ⟨gl⟩⟩

def hdTf : List He.Defn := [("law", none)]
abbrev hdH : PySem.W.Hook := He.hookX 4 hdFa hdFn [] hdTf hdEx
def hdOb (s : PySem.W.SharedT) : He.AlX := He.obsX 4 hdFa hdFn [] hdTf hdEx (HandSHeadRun.getT s)
theorem hdOb_eq (s : PySem.W.SharedT) : hdOb s = hdH.obs s.abs := He.obsX_eq (HandSHeadRun.getT_eq s)
def hdNames : List Str := (["LampError", "NoStair", "NoWalkers", "NoLanding", "NoTick", "NoNumber", "NoName", "NoFraction", "TooMany", "SMALL", "is_within", "is_name", "is_stair", "need_stair", "is_walker", "are_all_walkers", "are_walkers", "_law_cell_at", "_law_draws", "_law_spoilt", "_law_from", "_law_bag", "_law_bags", "_law_take", "_law_far_draw", "_law_is_name", "_law_odd", "_law_stair", "_law_walkers", "_law_refused"] : List Str) ++ (["_law_is_stair", "_law_are_walkers", "_law_near"] : List Str)
theorem hdRun (w : World) : HandSHeadRun.RunEq hdR (PySem.W.view hdR.prog [36]) hdH hdOb 4000 hdNames w := by
  intro os
  kernel_rfl
theorem hdFacts {P : Program} {w : World} {K : PySem.W.Frag} {h : Heap} {mg : Str → Option Value} {f : Addr} (X : K.In h) (G : h.Ns mainGlobals mg) (hfa : mg ("law" : Str) = some (.ref f)) (cx : He.SaysX hdFa hdFn [] hdTf hdEx w h K) :
    ∃ fd : FuncData, (∀ (s : Shared) (v : Value), BindsTo s fd ⟨[v], []⟩ [("script", v)]) ∧ ∀ base : Heap, K.In base → base.Ns mainGlobals mg → (∀ p ∈ hdTf, LamX.TabB base mg (He.cT K p).1 (He.cT K p).2) → FnOk P w K mg base CX0 10 f fd ["script"] (spLaw K (He.cT K ("law", none)).2) := by
  have c := cx.t.d
  obtain ⟨fd_law_take, F_law_take⟩ := c.def_ 0 (d := hd_law_take) rfl
  have d_law_take : Def K mg "_law_take" s__law_take := ⟨_, fd_law_take, He.glo_ok X G (c.fact 0 (f := .glo "_law_take") rfl), F_law_take⟩
  obtain ⟨fd_law_far_draw, F_law_far_draw⟩ := c.def_ 1 (d := hd_law_far_draw) rfl
  have d_law_far_draw : Def K mg "_law_far_draw" s__law_far_draw := ⟨_, fd_law_far_draw, He.glo_ok X G (c.fact 1 (f := .glo "_law_far_draw") rfl), F_law_far_draw⟩
  obtain ⟨fd_law_stair, F_law_stair⟩ := c.def_ 2 (d := hd_law_stair) rfl
  have d_law_stair : Def K mg "_law_stair" s__law_stair := ⟨_, fd_law_stair, He.glo_ok X G (c.fact 2 (f := .glo "_law_stair") rfl), F_law_stair⟩
  obtain ⟨fd_law_walkers, F_law_walkers⟩ := c.def_ 3 (d := hd_law_walkers) rfl
  have d_law_walkers : Def K mg "_law_walkers" s__law_walkers := ⟨_, fd_law_walkers, He.glo_ok X G (c.fact 3 (f := .glo "_law_walkers") rfl), F_law_walkers⟩
  obtain ⟨fd_law_draws, F_law_draws⟩ := c.def_ 4 (d := hd_law_draws) rfl
  have d_law_draws : Def K mg "_law_draws" s__law_draws := ⟨_, fd_law_draws, He.glo_ok X G (c.fact 4 (f := .glo "_law_draws") rfl), F_law_draws⟩
  obtain ⟨fd_law_cell_at, F_law_cell_at⟩ := c.def_ 5 (d := hd_law_cell_at) rfl
  have d_law_cell_at : Def K mg "_law_cell_at" s__law_cell_at := ⟨_, fd_law_cell_at, He.glo_ok X G (c.fact 5 (f := .glo "_law_cell_at") rfl), F_law_cell_at⟩
  obtain ⟨fd_law_bag, F_law_bag⟩ := c.def_ 6 (d := hd_law_bag) rfl
  have d_law_bag : Def K mg "_law_bag" s__law_bag := ⟨_, fd_law_bag, He.glo_ok X G (c.fact 6 (f := .glo "_law_bag") rfl), F_law_bag⟩
  obtain ⟨fd_law_bags, F_law_bags⟩ := c.def_ 7 (d := hd_law_bags) rfl
  have d_law_bags : Def K mg "_law_bags" s__law_bags := ⟨_, fd_law_bags, He.glo_ok X G (c.fact 7 (f := .glo "_law_bags") rfl), F_law_bags⟩
  obtain ⟨fd_is_within, F_is_within⟩ := c.def_ 8 (d := hd_is_within) rfl
  have d_is_within : Def K mg "is_within" s_is_within := ⟨_, fd_is_within, He.glo_ok X G (c.fact 8 (f := .glo "is_within") rfl), F_is_within⟩
  obtain ⟨fd_is_name, F_is_name⟩ := c.def_ 9 (d := hd_is_name) rfl
  have d_is_name : Def K mg "is_name" s_is_name := ⟨_, fd_is_name, He.glo_ok X G (c.fact 9 (f := .glo "is_name") rfl), F_is_name⟩
  obtain ⟨fd_is_stair, F_is_stair⟩ := c.def_ 10 (d := hd_is_stair) rfl
  have d_is_stair : Def K mg "is_stair" s_is_stair := ⟨_, fd_is_stair, He.glo_ok X G (c.fact 10 (f := .glo "is_stair") rfl), F_is_stair⟩
  obtain ⟨fd_is_walker, F_is_walker⟩ := c.def_ 11 (d := hd_is_walker) rfl
  have d_is_walker : Def K mg "is_walker" s_is_walker := ⟨_, fd_is_walker, He.glo_ok X G (c.fact 11 (f := .glo "is_walker") rfl), F_is_walker⟩
  obtain ⟨fd_are_all_walkers, F_are_all_walkers⟩ := c.def_ 12 (d := hd_are_all_walkers) rfl
  have d_are_all_walkers : Def K mg "are_all_walkers" s_are_all_walkers := ⟨_, fd_are_all_walkers, He.glo_ok X G (c.fact 12 (f := .glo "are_all_walkers") rfl), F_are_all_walkers⟩
  obtain ⟨fd_need_stair, F_need_stair⟩ := c.def_ 13 (d := hd_need_stair) rfl
  have d_need_stair : Def K mg "need_stair" s_need_stair := ⟨_, fd_need_stair, He.glo_ok X G (c.fact 13 (f := .glo "need_stair") rfl), F_need_stair⟩
  obtain ⟨fd_are_walkers, F_are_walkers⟩ := c.def_ 14 (d := hd_are_walkers) rfl
  have d_are_walkers : Def K mg "are_walkers" s_are_walkers := ⟨_, fd_are_walkers, He.glo_ok X G (c.fact 14 (f := .glo "are_walkers") rfl), F_are_walkers⟩
  obtain ⟨fd_law_refused, F_law_refused⟩ := c.def_ 15 (d := hd_law_refused) rfl
  have d_law_refused : Def K mg "_law_refused" s__law_refused := ⟨_, fd_law_refused, He.glo_ok X G (c.fact 15 (f := .glo "_law_refused") rfl), F_law_refused⟩
  obtain ⟨fd_law_odd, F_law_odd⟩ := c.def_ 16 (d := hd_law_odd) rfl
  have d_law_odd : Def K mg "_law_odd" s__law_odd := ⟨_, fd_law_odd, He.glo_ok X G (c.fact 16 (f := .glo "_law_odd") rfl), F_law_odd⟩
  obtain ⟨fd_law_spoilt, F_law_spoilt⟩ := c.def_ 17 (d := hd_law_spoilt) rfl
  have d_law_spoilt : Def K mg "_law_spoilt" s__law_spoilt := ⟨_, fd_law_spoilt, He.glo_ok X G (c.fact 17 (f := .glo "_law_spoilt") rfl), F_law_spoilt⟩
  obtain ⟨fd_law_from, F_law_from⟩ := c.def_ 18 (d := hd_law_from) rfl
  have d_law_from : Def K mg "_law_from" s__law_from := ⟨_, fd_law_from, He.glo_ok X G (c.fact 18 (f := .glo "_law_from") rfl), F_law_from⟩
  obtain ⟨fd_law_is_stair, F_law_is_stair⟩ := c.def_ 19 (d := hd_law_is_stair) rfl
  have d_law_is_stair : Def K mg "_law_is_stair" s__law_is_stair := ⟨_, fd_law_is_stair, He.glo_ok X G (c.fact 19 (f := .glo "_law_is_stair") rfl), F_law_is_stair⟩
  obtain ⟨fd_law_is_name, F_law_is_name⟩ := c.def_ 20 (d := hd_law_is_name) rfl
  have d_law_is_name : Def K mg "_law_is_name" s__law_is_name := ⟨_, fd_law_is_name, He.glo_ok X G (c.fact 20 (f := .glo "_law_is_name") rfl), F_law_is_name⟩
  obtain ⟨fd_law_are_walkers, F_law_are_walkers⟩ := c.def_ 21 (d := hd_law_are_walkers) rfl
  have d_law_are_walkers : Def K mg "_law_are_walkers" s__law_are_walkers := ⟨_, fd_law_are_walkers, He.glo_ok X G (c.fact 21 (f := .glo "_law_are_walkers") rfl), F_law_are_walkers⟩
  obtain ⟨fd_law_near, F_law_near⟩ := c.def_ 22 (d := hd_law_near) rfl
  have d_law_near : Def K mg "_law_near" s__law_near := ⟨_, fd_law_near, He.glo_ok X G (c.fact 22 (f := .glo "_law_near") rfl), F_law_near⟩
  obtain ⟨fd, F⟩ := c.def_ 23 (d := hd_law) rfl
  have e := hfa.symm.trans (He.glo_ok X G (c.fact 23 (f := .glo "law") rfl))
  cases e
  have T : Bl mg := ⟨He.free_ok X G (c.fact 24 (f := .free "len") rfl), He.free_ok X G (c.fact 25 (f := .free "range") rfl), He.free_ok X G (c.fact 26 (f := .free "int") rfl), He.free_ok X G (c.fact 27 (f := .free "bool") rfl), He.free_ok X G (c.fact 28 (f := .free "str") rfl), He.free_ok X G (c.fact 29 (f := .free "list") rfl), He.free_ok X G (c.fact 30 (f := .free "tuple") rfl), He.free_ok X G (c.fact 31 (f := .free "set") rfl), He.free_ok X G (c.fact 32 (f := .free "max") rfl), He.free_ok X G (c.fact 33 (f := .free "min") rfl), He.free_ok X G (c.fact 34 (f := .free "sum") rfl), He.free_ok X G (c.fact 35 (f := .free "all") rfl), He.free_ok X G (c.fact 36 (f := .free "any") rfl), He.free_ok X G (c.fact 37 (f := .free "sorted") rfl), He.free_ok X G (c.fact 38 (f := .free "zip") rfl), He.free_ok X G (c.fact 39 (f := .free "enumerate") rfl), He.free_ok X G (c.fact 40 (f := .free "isinstance") rfl), He.free_ok X G (c.fact 41 (f := .free "repr") rfl), He.free_ok X G (c.fact 42 (f := .free "ValueError") rfl)⟩
  have TSMALL := He.str_ok X G (c.fact 43 (f := .str "SMALL" "abcdefghijklmnopqrstuvwxyz") rfl)
  have X_NoStair : ExcK K mg "NoStair" (He.ga K "NoStair") := ⟨He.glo_ok X G (c.fact 44 (f := .glo "NoStair") rfl), (He.exc_ok (c.fact 45 (f := .exc "NoStair") rfl)).1, (He.exc_ok (c.fact 45 (f := .exc "NoStair") rfl)).2.1, (He.exc_ok (c.fact 45 (f := .exc "NoStair") rfl)).2.2.1, (He.exc_ok (c.fact 45 (f := .exc "NoStair") rfl)).2.2.2⟩
  have X_NoWalkers : ExcK K mg "NoWalkers" (He.ga K "NoWalkers") := ⟨He.glo_ok X G (c.fact 46 (f := .glo "NoWalkers") rfl), (He.exc_ok (c.fact 47 (f := .exc "NoWalkers") rfl)).1, (He.exc_ok (c.fact 47 (f := .exc "NoWalkers") rfl)).2.1, (He.exc_ok (c.fact 47 (f := .exc "NoWalkers") rfl)).2.2.1, (He.exc_ok (c.fact 47 (f := .exc "NoWalkers") rfl)).2.2.2⟩
  have X_NoName : ExcK K mg "NoName" (He.ga K "NoName") := ⟨He.glo_ok X G (c.fact 48 (f := .glo "NoName") rfl), (He.exc_ok (c.fact 49 (f := .exc "NoName") rfl)).1, (He.exc_ok (c.fact 49 (f := .exc "NoName") rfl)).2.1, (He.exc_ok (c.fact 49 (f := .exc "NoName") rfl)).2.2.1, (He.exc_ok (c.fact 49 (f := .exc "NoName") rfl)).2.2.2⟩
  have X_NoLanding : ExcK K mg "NoLanding" (He.ga K "NoLanding") := ⟨He.glo_ok X G (c.fact 50 (f := .glo "NoLanding") rfl), (He.exc_ok (c.fact 51 (f := .exc "NoLanding") rfl)).1, (He.exc_ok (c.fact 51 (f := .exc "NoLanding") rfl)).2.1, (He.exc_ok (c.fact 51 (f := .exc "NoLanding") rfl)).2.2.1, (He.exc_ok (c.fact 51 (f := .exc "NoLanding") rfl)).2.2.2⟩
  have X_NoTick : ExcK K mg "NoTick" (He.ga K "NoTick") := ⟨He.glo_ok X G (c.fact 52 (f := .glo "NoTick") rfl), (He.exc_ok (c.fact 53 (f := .exc "NoTick") rfl)).1, (He.exc_ok (c.fact 53 (f := .exc "NoTick") rfl)).2.1, (He.exc_ok (c.fact 53 (f := .exc "NoTick") rfl)).2.2.1, (He.exc_ok (c.fact 53 (f := .exc "NoTick") rfl)).2.2.2⟩
  have X_NoNumber : ExcK K mg "NoNumber" (He.ga K "NoNumber") := ⟨He.glo_ok X G (c.fact 54 (f := .glo "NoNumber") rfl), (He.exc_ok (c.fact 55 (f := .exc "NoNumber") rfl)).1, (He.exc_ok (c.fact 55 (f := .exc "NoNumber") rfl)).2.1, (He.exc_ok (c.fact 55 (f := .exc "NoNumber") rfl)).2.2.1, (He.exc_ok (c.fact 55 (f := .exc "NoNumber") rfl)).2.2.2⟩
  have X_NoFraction : ExcK K mg "NoFraction" (He.ga K "NoFraction") := ⟨He.glo_ok X G (c.fact 56 (f := .glo "NoFraction") rfl), (He.exc_ok (c.fact 57 (f := .exc "NoFraction") rfl)).1, (He.exc_ok (c.fact 57 (f := .exc "NoFraction") rfl)).2.1, (He.exc_ok (c.fact 57 (f := .exc "NoFraction") rfl)).2.2.1, (He.exc_ok (c.fact 57 (f := .exc "NoFraction") rfl)).2.2.2⟩
  have R0 : RefK K mg := hdEx_ok cx.more (fun x hx => by simp only [errNames, List.mem_cons, List.mem_nil_iff, or_false] at hx; rcases hx with rfl | rfl | rfl | rfl | rfl | rfl | rfl <;> assumption) (He.glo_ok X G (c.fact 58 (f := .glo "TooMany") rfl)) (He.glo_ok X G (c.fact 59 (f := .glo "LampError") rfl))
  refine ⟨fd, law_binds (sL := s_law) F (fun _ _ _ _ _ _ _ us hl => match us, hl with | [_], _ => rfl), fun base _ _ TBS => ?_⟩
  have hcode : ∀ (oc : Value) (od : Option Addr) (fd' : FuncData) (osl : Array (Option Value)), K.lookup (He.ga K "law") = some ⟨oc, od, .func fd', osl⟩ → fd'.code = .ref (He.cT K ("law", none)).1 := by
    intro oc od fd' osl lk
    obtain ⟨oc', od', dV, kV, doc, pm, an, cdv, ct, osl', e1, lk', hcd, _⟩ := F.ex
    obtain ⟨cc, e2⟩ := He.codeIn_ref hcd
    have e3 : fd = fd' := by
      have e := lk'.symm.trans lk
      simp only [Option.some.injEq, Obj.mk.injEq, Data.func.injEq] at e
      exact e.2.2.1
    subst e3
    have e4 : fd.code = .ref cc := by rw [e1, ← e2]
    have e5 := He.codeOf_eq (p := ("law", none)) lk e4
    show fd.code = .ref (He.codeOf K ("law", none))
    rw [e5]; exact e4
  have c_take := cal_law_take (P := P) (w := w) (base := base) d_law_take T
  have c_far := cal_law_far_draw (P := P) (w := w) (base := base) d_law_far_draw T c_take
  have c_stair := cal_law_stair d_law_stair T c_take c_far
  have c_walkers := cal_law_walkers d_law_walkers T c_take c_far
  have c_draws := cal_law_draws (P := P) (w := w) (base := base) d_law_draws T
  have c_cell := cal_law_cell_at (P := P) (w := w) (base := base) d_law_cell_at T
  have c_bag := cal_law_bag d_law_bag T c_draws c_cell
  have c_bags := cal_law_bags d_law_bags T c_bag
  have c_within := cal_is_within (P := P) (w := w) (base := base) d_is_within T
  have c_name := cal_is_name (P := P) (w := w) (base := base) d_is_name T TSMALL
  have c_isstair := cal_is_stair d_is_stair T c_within
  have c_iswalker := cal_is_walker d_is_walker T c_within c_name
  have c_areall := cal_are_all_walkers d_are_all_walkers T c_iswalker
  have x_needstair := cal_need_stairX d_need_stair T X_NoStair c_isstair
  have x_arewalkers := cal_are_walkersX d_are_walkers T x_needstair c_areall
  have c_refused := cal_law_refused (P := P) (w := w) (base := base) d_law_refused T R0
  have c_odd := cal_law_odd (P := P) (w := w) (base := base) d_law_odd T
  have c_s20 := cal_spoil0 (m := 8) (by decide) d_law_spoilt T c_odd
  have c_s21 := cal_spoil_more (n := 0) (m := 8) (k := 1) (by decide) (by decide) d_law_spoilt T c_odd c_s20 (c_odd.mono (by decide))
  have c_s22 := cal_spoil_more (n := 1) (m := 8) (k := 2) (by decide) (by decide) d_law_spoilt T c_odd c_s21 (c_odd.mono (by decide))
  have c_s40 := cal_spoil0 (m := 9) (by decide) d_law_spoilt T c_odd
  have c_s41 := cal_spoil_more (n := 0) (m := 9) (k := 1) (by decide) (by decide) d_law_spoilt T c_odd c_s40 (c_odd.mono (by decide))
  have c_s42 := cal_spoil_more (n := 1) (m := 9) (k := 2) (by decide) (by decide) d_law_spoilt T c_odd c_s41 (c_odd.mono (by decide))
  have c_s43 := cal_spoil_more (n := 2) (m := 9) (k := 3) (by decide) (by decide) d_law_spoilt T c_odd c_s42 (c_odd.mono (by decide))
  have c_s44 := cal_spoil_more (n := 3) (m := 9) (k := 4) (by decide) (by decide) d_law_spoilt T c_odd c_s43 (c_odd.mono (by decide))
  have c_from := cal_law_from (P := P) (w := w) (base := base) d_law_from T
  have c_lstair := cal_law_is_stair d_law_is_stair T c_from
  have c_lname := cal_law_is_name (P := P) (w := w) (base := base) d_law_is_name T
  have c_lwalk := cal_law_are_walkers d_law_are_walkers T c_from c_lname
  have c_near := cal_law_near (P := P) (w := w) (base := base) d_law_near T
  exact law_good F hcode (TBS _ (List.mem_cons_self ..)) T R0 c_bags c_stair c_walkers c_s22 c_s44 c_odd c_near c_isstair c_lstair x_arewalkers c_lwalk c_refused
end DL
open PySem PySem.W PySem.Calls PyProof.Rows
theorem PySem.Challenge.cw_stairlamps_k01_stairs_and_walkers_known_holds : PySem.Challenge.rw_stairlamps_k01_stairs_and_walkers_known.Holds := by
  w_on; o_law
  refine HandSHeadRun.head_any (r := OpenLaw.row PySem.Challenge.rw_stairlamps_k01_stairs_and_walkers_known) (q := view (OpenLaw.row PySem.Challenge.rw_stairlamps_k01_stairs_and_walkers_known).prog [36]) (H := DL.hdH) (ob := DL.hdOb) (M := 4000) (loose := DL.hdNames) (d := HandSHeadRun.topDef (OpenLaw.row PySem.Challenge.rw_stairlamps_k01_stairs_and_walkers_known).prog 36) (kwd := []) DL.hdOb_eq
    (by kernel_rfl) (fun s => by kernel_rfl) DL.hdRun (by kernel_rfl) (by kernel_rfl) (by kernel_rfl) (by rfl) (by first | assumption | decide +kernel) (by decide +kernel) ⟨rfl, rfl, rfl, rfl, rfl, by decide +kernel⟩ ?hw ?hc
  case hw => w_witness2
  case hc =>
    refine LamX.walk_ofTsE (l := PySem.Challenge.rw_stairlamps_k01_stairs_and_walkers_known) (n := 63) (k := 10) (x := "script") (CX := fun _ => L2.CX0) rfl (by decide) (by kernel_rfl) ⟨rfl, by decide, by decide⟩ ?F (fun _ _ _ _ _ z => z)
    intro w mg fa h Y G hmg0
    obtain ⟨K, KX, c⟩ := Y
    have hmg : mg ("law" : PySem.Str) = some (.ref fa) := by
      have e : (HandSHeadRun.topDef (OpenLaw.row PySem.Challenge.rw_stairlamps_k01_stairs_and_walkers_known).prog 36).name = ("law" : PySem.Str) := by kernel_rfl
      rw [← e]
      exact hmg0
    obtain ⟨fd, hb, hF⟩ := DL.hdFacts (P := (PySem.Challenge.rw_stairlamps_k01_stairs_and_walkers_known).prog) (w := w) KX G hmg c
    have un : ∀ p ∈ DL.hdTf.map (He.cT K), ∃ q ∈ DL.hdTf, p = He.cT K q := fun p hp => by
      obtain ⟨q, hq, e⟩ := List.mem_map.mp hp
      exact ⟨q, hq, e.symm⟩
    refine ⟨K, KX, fd, DL.hdTf.map (He.cT K), DL.spLaw K (He.cT K ("law", none)).2, fun p hp => ?_, fun p hp => ?_, fun p hp => ?_, hb, fun H a ns hl _ hT hS => ⟨a, ns, rfl, hS, hl, hT _ (List.mem_map.mpr ⟨_, List.mem_cons_self .., rfl⟩), fun _ => rfl⟩, fun base KB GB TB => hF base KB GB fun p hp => TB _ (List.mem_map.mpr ⟨p, hp, rfl⟩)⟩
    · obtain ⟨q, hq, rfl⟩ := un p hp; exact c.empty q hq
    · obtain ⟨q, hq, rfl⟩ := un p hp; exact c.out q hq
    · obtain ⟨q, hq, rfl⟩ := un p hp; exact PySem.W.codeHd_of_K KX (c.hd q hq)
#print axioms PySem.Challenge.cw_stairlamps_k01_stairs_and_walkers_known_holds
